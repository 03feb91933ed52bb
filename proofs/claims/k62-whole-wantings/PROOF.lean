import PyProof.Rows.All
import HandS.ForMost
import KE.SortData
import KE.LtData
import HandS.ForExc
import HandS.DictComp
import HandS.Flow
import HandS.TupAny
import HandS.Style
import HandS.IsInst
import HandS.TupLen
import HandS.WordsDict
import HandS.DictTup
import HandS.More
import HandS.Conv
import PyProof.DictMoreH
import HandS.Strs
import HandS.Deep
import KE.GoesZip
import KE.GoesMore
import KE.GoesEnum
import PyProof.DictFindH
import HandS.Defaults
import HandS.HeadWalk
import HandS.HeadEnd
import HandS.HeadHook4
import HandS.Head2
import KE.KDictWalk
import HandS.SlotsOwn
import KE.KDictZip
import HandS.RevTup
import HandS.Codes
import PySem.Challenge.RW_dealsafe_k62_whole_wantings
set_option Elab.async false
set_option linter.all false
set_option maxRecDepth 100000
set_option maxHeartbeats 0
theorem kR {p : Prop} (h : p := by decide +kernel) : p := h
theorem oM {p : Prop} (h : p := by omega) : p := h
theorem nF {p : Prop} (h : p := by intro e; cases e) : p := h
section
namespace Mn
open PySem
inductive D where
 | non | bl (b : Bool) | int (i : Int) | str (x : Str) | ty (n : String)
 | tup (xs : List D) | row (xs : List D) | lst (xs : List D) | dct (ps : List (D × D)) | ins (c : Nat) (fs : List (Nat × D)) | cls (c : Nat) | ref (i : Nat) | scr (ns : List Int) | lck (ps : List (D × D))
 deriving Inhabited
abbrev Mem := List D
def seqN : List Nat → List Nat → Bool
 | [], [] => true
 | a :: r, b :: s => (Nat.beq a b).and (seqN r s)
 | _, _ => false
theorem seqN_iff : ∀ {xs ys : List Nat}, seqN xs ys = true ↔ xs = ys
 | [], [] => by simp [seqN]
 | [], _ :: _ => by simp [seqN]
 | _ :: _, [] => by simp [seqN]
 | a :: r, b :: s => by simp [seqN, seqN_iff (xs := r) (ys := s)]
def seqS (x y : Str) : Bool := seqN x.cps.toList y.cps.toList
theorem seqS_iff {x y : Str} : seqS x y = true ↔ x = y := by
 obtain ⟨⟨x⟩⟩ := x
 obtain ⟨⟨y⟩⟩ := y
 simp [seqS, seqN_iff]
mutual
def beqD : D → D → Bool
 | .non, .non => true
 | .bl a, .bl b => a == b
 | .int i, .int j => decide (i = j)
 | .str x, .str y => seqS x y
 | .ty a, .ty b => decide (a = b)
 | .tup xs, .tup ys => beqDs xs ys
 | .row xs, .row ys => beqDs xs ys
 | .lst xs, .lst ys => beqDs xs ys
 | .dct ps, .dct qs => beqDp ps qs
 | .ins c fs, .ins d gs => (Nat.beq c d).and (beqDf fs gs)
 | .cls c, .cls d => Nat.beq c d
 | .ref i, .ref j => Nat.beq i j
 | .scr xs, .scr ys => decide (xs = ys)
 | .lck ps, .lck qs => beqDp ps qs
 | _, _ => false
def beqDs : List D → List D → Bool
 | [], [] => true
 | x :: r, y :: s => (beqD x y).and (beqDs r s)
 | _, _ => false
def beqDp : List (D × D) → List (D × D) → Bool
 | [], [] => true
 | (a, b) :: r, (c, d) :: s => ((beqD a c).and (beqD b d)).and (beqDp r s)
 | _, _ => false
def beqDf : List (Nat × D) → List (Nat × D) → Bool
 | [], [] => true
 | (a, b) :: r, (c, d) :: s => ((Nat.beq a c).and (beqD b d)).and (beqDf r s)
 | _, _ => false
end
mutual
theorem beqD_iff : ∀ {a b : D}, beqD a b = true ↔ a = b
 | .non, b => by cases b <;> simp [beqD]
 | .bl _, b => by cases b <;> simp [beqD]
 | .int _, b => by cases b <;> simp [beqD]
 | .str _, b => by cases b <;> simp [beqD, seqS_iff]
 | .ty _, b => by cases b <;> simp [beqD]
 | .tup xs, b => by cases b <;> simp [beqD]; exact beqDs_iff
 | .row xs, b => by cases b <;> simp [beqD]; exact beqDs_iff
 | .lst xs, b => by cases b <;> simp [beqD]; exact beqDs_iff
 | .dct xs, b => by cases b <;> simp [beqD]; exact beqDp_iff
 | .ins c fs, b => by cases b <;> simp [beqD]; intro _; exact beqDf_iff
 | .cls _, b => by cases b <;> simp [beqD]
 | .ref _, b => by cases b <;> simp [beqD]
 | .scr _, b => by cases b <;> simp [beqD]
 | .lck xs, b => by cases b <;> simp [beqD]; exact beqDp_iff
theorem beqDs_iff : ∀ {a b : List D}, beqDs a b = true ↔ a = b
 | [], b => by cases b <;> simp [beqDs]
 | x :: r, [] => by simp [beqDs]
 | x :: r, y :: s => by
  have h1 := beqD_iff (a := x) (b := y)
  have h2 := beqDs_iff (a := r) (b := s)
  simp only [beqDs, Bool.and_eq_true, h1, h2, List.cons.injEq]
theorem beqDp_iff : ∀ {a b : List (D × D)}, beqDp a b = true ↔ a = b
 | [], b => by cases b <;> simp [beqDp]
 | x :: r, [] => by simp [beqDp]
 | (x1, x2) :: r, (y1, y2) :: s => by
  have h1 := beqD_iff (a := x1) (b := y1)
  have h3 := beqD_iff (a := x2) (b := y2)
  have h2 := beqDp_iff (a := r) (b := s)
  simp only [beqDp, Bool.and_eq_true, h1, h2, h3, List.cons.injEq, Prod.mk.injEq]
theorem beqDf_iff : ∀ {a b : List (Nat × D)}, beqDf a b = true ↔ a = b
 | [], b => by cases b <;> simp [beqDf]
 | x :: r, [] => by simp [beqDf]
 | (x1, x2) :: r, (y1, y2) :: s => by
  have h3 := beqD_iff (a := x2) (b := y2)
  have h2 := beqDf_iff (a := r) (b := s)
  simp only [beqDf, Bool.and_eq_true, Nat.beq_eq, h2, h3, List.cons.injEq, Prod.mk.injEq]
end
instance : DecidableEq D := fun a b => decidable_of_iff (beqD a b = true) beqD_iff
abbrev Sl := List (Option D)
mutual
def bel (n : Nat) : D → Bool
 | .ref i => decide (i < n)
 | .tup xs => bels n xs
 | .row xs => bels n xs
 | .lst xs => bels n xs
 | .dct ps => belp n ps
 | .ins _ fs => belf n fs
 | .lck ps => belp n ps
 | _ => true
def bels (n : Nat) : List D → Bool
 | [] => true
 | x :: r => bel n x && bels n r
def belp (n : Nat) : List (D × D) → Bool
 | [] => true
 | (a, b) :: r => bel n a && bel n b && belp n r
def belf (n : Nat) : List (Nat × D) → Bool
 | [] => true
 | (_, b) :: r => bel n b && belf n r
end
mutual
def sub (g : Nat → D) : D → D
 | .ref i => g i
 | .tup xs => .tup (subs g xs)
 | .row xs => .row (subs g xs)
 | .lst xs => .lst (subs g xs)
 | .dct ps => .dct (subp g ps)
 | .ins c fs => .ins c (subf g fs)
 | d => d
def subs (g : Nat → D) : List D → List D
 | [] => []
 | x :: r => sub g x :: subs g r
def subp (g : Nat → D) : List (D × D) → List (D × D)
 | [] => []
 | (a, b) :: r => (sub g a, sub g b) :: subp g r
def subf (g : Nat → D) : List (Nat × D) → List (Nat × D)
 | [] => []
 | (f, b) :: r => (f, sub g b) :: subf g r
end
def look (n : Nat) (x : Option Nat) (M : Mem) : Nat → Nat → D
 | 0, i => .ref i
 | k + 1, i => if i < n ∨ x = some i then .ref i else match M[i]? with
  | some (.lck _) => .ref i
  | some d => sub (look n x M k) d
  | none => .ref i
def frz (n : Nat) (x : Option Nat) (M : Mem) (d : D) : D := sub (look n x M 6) d
def der (M : Mem) : D → D
 | .ref i => match M[i]? with
  | some (.lck ps) => .dct ps
  | some d => d
  | none => .ref i
 | .row xs => .tup xs
 | d => d
def isDc : D → Bool
 | .dct _ => true
 | _ => false
def isRw : D → Bool
 | .row _ => true
 | _ => false
mutual
def shp : Nat → D → Bool
 | _, .non => true
 | _, .bl _ => true
 | _, .int _ => true
 | _, .str _ => true
 | n + 1, .tup xs => shps n xs
 | n + 1, .row xs => shps n xs
 | n + 1, .lst xs => shps n xs
 | _, _ => false
def shps : Nat → List D → Bool
 | _, [] => true
 | n, x :: r => shp n x && shps n r
end
mutual
def eqv : D → D → Bool
 | .non, .non => true
 | .bl a, .bl b => a == b
 | .bl a, .int j => (if a then 1 else 0) == j
 | .int i, .bl b => i == (if b then 1 else 0)
 | .int i, .int j => i == j
 | .str x, .str y => decide (x = y)
 | .tup xs, .tup ys => eqvs xs ys
 | .tup xs, .row ys => eqvs xs ys
 | .row xs, .tup ys => eqvs xs ys
 | .row xs, .row ys => eqvs xs ys
 | .lst xs, .lst ys => eqvs xs ys
 | _, _ => false
def eqvs : List D → List D → Bool
 | [], [] => true
 | x :: r, y :: s => eqv x y && eqvs r s
 | _, _ => false
end
end Mn
namespace Mn
open PySem
mutual
def toP : D → PyData
 | .bl b => .bool b
 | .int i => .int i
 | .str x => .str x
 | .tup xs => .tuple (toPs xs)
 | .row xs => .tuple (toPs xs)
 | .lst xs => .list (toPs xs)
 | _ => .none
def toPs : List D → List PyData
 | [] => []
 | x :: r => toP x :: toPs r
end
def notN : D → Bool
 | .non => false
 | _ => true
def likeD (a b : D) : Bool := shp 8 a && shp 8 b && PySem.W.alike (toP a) (toP b) && notN a
def ltD (a b : D) : Bool := PySem.W.dataLt (toP a) (toP b)
def leD (a b : D) : Bool := PySem.W.dataLe false toP a b
abbrev big : Nat := 16000000
def small64 (i : Int) : Bool := decide (-(2 ^ 64) < i ∧ i < 2 ^ 64)
def sStr (x y : Str) : Str := x ++ y
def bin (op : Operator) (a b : D) : Option D :=
 match op, a, b with
 | .Add, .int i, .int j => some (.int (i + j))
 | .Add, .str x, .str y => if x.length + y.length ≤ big then some (.str (x ++ y)) else none
 | .Add, .lst xs, .lst ys => if xs.length + ys.length ≤ big then some (.lst (xs ++ ys)) else none
 | .Sub, .int i, .int j => some (.int (i - j))
 | .Mult, .int i, .int j => if small64 i || small64 j then some (.int (i * j)) else none
 | .FloorDiv, .int i, .int j => if 0 < j ∧ j < 1073741824 then some (.int (i / j)) else none
 | .Mod, .int i, .int j => if 0 < j then some (.int (i % j)) else none
 | .Pow, .int i, .int j => if 0 ≤ j ∧ j ≤ 1000000 ∧ i.natAbs < 2 ^ 64 then some (.int (i ^ j.toNat)) else none
 | _, _, _ => none
def binR (op : Operator) (x y a b : D) : Option D :=
 match op, a, b with
 | .Add, .tup xs, .tup ys => if xs.length + ys.length ≤ big then some (if xs.isEmpty then y else if ys.isEmpty then x else .tup (xs ++ ys)) else none
 | op, a, b => bin op a b
def sgn (c : Nat) : D := .str ⟨#[c]⟩
def dget : List (D × D) → D → Option D
 | [], _ => none
 | (k, v) :: r, x => if eqv k x then some v else dget r x
def flat : D → Bool
 | .int _ => true
 | .str _ => true
 | _ => false
def keyd : D → Bool
 | .tup xs => xs.all flat
 | d => flat d
def isT : D → Bool
 | .tup _ => true
 | _ => false
def dput (ps : List (D × D)) (k v : D) : List (D × D) :=
 if (ps.any fun p => eqv p.1 k) = true then ps.map (fun p => if eqv p.1 k = true then (p.1, v) else p) else ps ++ [(k, v)]
def ddel (ps : List (D × D)) (k : D) : List (D × D) := ps.filter fun p => !eqv p.1 k
def keyOk (ps : List (D × D)) (k : D) : Bool := keyd k && ps.all fun p => isT p.1 == isT k
def putAll : List (D × D) → List (D × D) → Option (List (D × D))
 | [], acc => some acc
 | (k, v) :: r, acc => if keyOk acc k then putAll r (dput acc k v) else none
def inD (x y : D) : Option Bool :=
 match x, y with
 | x, .tup ys => if shp 8 x && shp 9 (.tup ys) then some (ys.any fun z => eqv z x) else none
 | x, .lst ys => if shp 8 x && shp 9 (.lst ys) then some (ys.any fun z => eqv z x) else none
 | .str x, .str z => match x.cps.toList with
  | [c] => some (decide (c ∈ z.cps.toList))
  | _ => none
 | x, .dct ps => if keyOk ps x then some (dget ps x).isSome else none
 | _, _ => none
def isV (x y : D) : Option Bool :=
 match x, y with
 | x, .non => some (match x with | .non => true | _ => false)
 | x, .bl b => some (match x with | .bl c => c == b | _ => false)
 | _, _ => none
def empT (neg : Bool) (a b : D) : Option D :=
 match a, b with
 | .tup xs, .tup [] => some (.bl (neg != xs.isEmpty))
 | _, _ => none
def cmp (op : CmpOp) (a b : D) : Option D :=
 match op with
 | .Eq => if shp 9 a && shp 9 b then some (.bl (eqv a b)) else empT false a b
 | .NotEq => if shp 9 a && shp 9 b then some (.bl (!eqv a b)) else empT true a b
 | .Lt => if likeD a b then some (.bl (ltD a b)) else none
 | .LtE => match a, b with
  | .int i, .int j => some (.bl (decide (i ≤ j)))
  | _, _ => none
 | .Gt => match a, b with
  | .int i, .int j => some (.bl (decide (j < i)))
  | _, _ => none
 | .GtE => match a, b with
  | .int i, .int j => some (.bl (decide (j ≤ i)))
  | _, _ => none
 | .In => (inD a b).map .bl
 | .NotIn => (inD a b).map fun k => .bl (!k)
 | .Is => (isV a b).map .bl
 | .IsNot => (isV a b).map fun k => .bl (!k)
def cmpM (M : Mem) (op : CmpOp) (x y : D) : Option D := if isRw x && isDc (der M y) then none else cmp op (der M x) (der M y)
def tru : D → Option Bool
 | .non => some false
 | .bl b => some b
 | .int i => some (i != 0)
 | .str x => if x.length ≤ big then some ((x.length : Int) != 0) else none
 | .tup xs => some (!xs.isEmpty)
 | .lst xs => some (!xs.isEmpty)
 | _ => none
abbrev ixP (n : Nat) (i : Int) : Option Nat := L2.ixN n i
def idx (a b : D) : Option D :=
 match a, b with
 | .tup xs, .int i => (ixP xs.length i).bind fun k => xs[k]?
 | .lst xs, .int i => (ixP xs.length i).bind fun k => xs[k]?
 | .str x, .int i => if x.length ≤ big then ((ixP x.cps.toList.length i).bind fun k => x.cps.toList[k]?).map sgn else none
 | .dct ps, k => if keyOk ps k then dget ps k else none
 | _, _ => none
def cut {α : Type} (xs : List α) (lo hi : Option Int) : List α := (xs.drop (_root_.HT.sIx xs.length 0 lo)).take (_root_.HT.sIx xs.length xs.length hi - _root_.HT.sIx xs.length 0 lo)
def allOf (n : Nat) (lo hi : Option Int) : Bool := _root_.HT.sIx n 0 lo == 0 && _root_.HT.sIx n n hi == n
def slc (x a : D) (lo hi : Option Int) : Option D :=
 match a with
 | .tup xs => some (if allOf xs.length lo hi then x else .tup (cut xs lo hi))
 | .lst xs => some (.lst (cut xs lo hi))
 | _ => none
def slcX (a : D) (lo hi : Option Int) : Option D :=
 match a with
 | .tup xs => if allOf xs.length lo hi then none else some (.row (cut xs lo hi))
 | _ => none
def addR (x y a b : D) : Option D :=
 match a, b with
 | .tup xs, .tup ys => if xs.length + ys.length ≤ big then some (if xs.isEmpty then y else if ys.isEmpty then x else if isRw x then .row (xs ++ ys) else .tup (xs ++ ys)) else none
 | _, _ => none
def att (a : D) (f : Nat) : Option D :=
 match a with
 | .ins _ fs => fs.lookup f
 | _ => none
inductive Bi where
 | len | isi | int | str | all | any | max | min | sum
 deriving DecidableEq
def tyD : D → Option (String ⊕ Nat)
 | .non => some (.inl "NoneType")
 | .bl _ => some (.inl "bool")
 | .int _ => some (.inl "int")
 | .str _ => some (.inl "str")
 | .tup _ => some (.inl "tuple")
 | .lst _ => some (.inl "list")
 | .dct _ => some (.inl "dict")
 | .ins c _ => some (.inr c)
 | _ => none
def isA (x t : D) : Option Bool :=
 match tyD x, t with
 | some (.inl a), .ty b => if b ∈ ["str", "int", "bool", "tuple", "list", "dict"] then some (a == b || (a == "bool" && b == "int")) else none
 | some (.inr _), .ty b => if b ∈ ["str", "int", "bool", "tuple", "list", "dict"] then some false else none
 | some (.inl _), .cls _ => some false
 | some (.inr k), .cls c => some (k == c)
 | _, _ => none
def isC : D → Bool
 | .ty _ => true
 | .cls _ => true
 | _ => false
def isAs (x : D) : List D → Option Bool
 | [] => some false
 | t :: r => match isA x t with
  | some true => some true
  | some false => isAs x r
  | none => none
def bls : List D → Option (List Bool)
 | [] => some []
 | .bl b :: r => (bls r).map (b :: ·)
 | _ => none
def intL : List D → Option (List Int)
 | [] => some []
 | .int i :: r => (intL r).map (i :: ·)
 | _ => none
def strL : List D → Option (List Str)
 | [] => some []
 | .str x :: r => (strL r).map (x :: ·)
 | _ => none
abbrev joinS (a : Str) (ys : List Str) : Str := Str.join a ys
def biLen : List D → Option D
 | [.str x] => if x.length ≤ big then some (.int x.length) else none
 | [.tup xs] => some (.int xs.length)
 | [.lst xs] => some (.int xs.length)
 | [.dct ps] => some (.int ps.length)
 | _ => none
def biIsi : List D → Option D
 | [x, .tup ts] => if ts.all isC && !ts.isEmpty then (isAs x ts).map .bl else none
 | [x, t] => (isA x t).map .bl
 | _ => none
def biInt : List D → Option D
 | [.int i] => some (.int i)
 | [.bl b] => some (.int (if b then 1 else 0))
 | _ => none
def biStr : List D → Option D
 | [.int i] => if 0 ≤ i ∧ i.natAbs.log2 < 1920 then some (.str (toString i : String)) else none
 | _ => none
def tupD (r : Bool) (x a : D) : Option D :=
 match x, a with
 | .row xs, _ => some (.row xs)
 | _, .tup xs => if r then none else some (.tup xs)
 | _, .lst xs => some (if r then .row xs else .tup xs)
 | _, _ => none
def biAll : List D → Option D
 | [.lst xs] => (bls xs).map fun bs => .bl (bs.all id)
 | _ => none
def biAny : List D → Option D
 | [.lst xs] => (bls xs).map fun bs => .bl (bs.any id)
 | _ => none
def maxL : List Int → Option Int
 | [] => none
 | x :: r => some (r.foldl (fun a b => if b > a then b else a) x)
def minL : List Int → Option Int
 | [] => none
 | x :: r => some (r.foldl (fun a b => if b < a then b else a) x)
def biMax : List D → Option D
 | [.int i, .int j] => some (.int (if j > i then j else i))
 | [.lst xs] => ((intL xs).bind maxL).map .int
 | _ => none
def biMin : List D → Option D
 | [.int i, .int j] => some (.int (if j < i then j else i))
 | [.lst xs] => ((intL xs).bind minL).map .int
 | _ => none
def biSum : List D → Option D
 | [.lst xs] => (intL xs).map fun ns => .int ns.sum
 | _ => none
def joinD (a : Str) : D → Option D
 | .lst xs => (strL xs).bind fun ys => if (ys.map (·.length)).sum + ys.length * a.length ≤ big then some (.str (joinS a ys)) else none
 | _ => none
def bi (b : Bi) (as : List D) : Option D :=
 match b with
 | .len => biLen as
 | .isi => biIsi as
 | .int => biInt as
 | .str => biStr as
 | .all => biAll as
 | .any => biAny as
 | .max => biMax as
 | .min => biMin as
 | .sum => biSum as
mutual
inductive Ex where
 | lit (d : D) | var (i : Nat) | glb (n : Nat)
 | tup (es : Es) | tupR (es : Es) | cat (es : Es) | tupO (r : Bool) (e : Ex)
 | bin (op : Operator) (a b : Ex) | neg (a : Ex)
 | cmp (op : CmpOp) (a b : Ex) | chn (o1 o2 : CmpOp) (a b c : Ex)
 | and (a b : Ex) | or (a b : Ex) | not (a : Ex) | ife (c : Te) (a b : Ex)
 | idx (a b : Ex) | slc (a : Ex) (lo hi : Eo) | slcR (a : Ex) (lo hi : Eo) | att (a : Ex) (f : Nat)
 | cal (f : Nat) (es : Es) | mak (c : Nat) (es : Es) | mth (m : Nat) (a : Ex) (es : Es) | dun (m : Nat) (a b : Ex) | rev (a : Ex) | tzip (a b : Ex) | ext (a e : Ex) | addR (a b : Ex) | upd (a e : Ex) | tupK (e : Ex)
 | blt (b : Bi) (es : Es) | new (own : Bool) (c : Nw)
 | app (a e : Ex) | popi (a e : Ex) | popk (a e : Ex) | index (a e : Ex) | indexT (a e : Ex) | join (a e : Ex) | get (a e : Ex) (x : Eo)
inductive Nw where
 | lst (es : Es) | cat (es : Es) | dct (ds : Ds) | lstO (e : Ex) | rng (e : Ex) | sort (e : Ex) | add (a b : Ex) | rep (a n : Ex) | items (a : Ex)
 | lcp (vs : List Nat) (t : Tg) (it : It) (c : Te) (e : Ex) | dcp (vs : List Nat) (t : Tg) (it : It) (c : Te) (k v : Ex)
inductive It where
 | it (e : Ex) | rng1 (e : Ex) | rng2 (a b : Ex) | enm (e : Ex) | zip (a b : Ex) | itm (e : Ex)
inductive Es where
 | nil | cons (e : Ex) (r : Es) | star (e : Ex) (r : Es)
inductive Te where
 | v (e : Ex) | and (a b : Te) | or (a b : Te) | not (a : Te) | cmp (op : CmpOp) (a b : Ex)
inductive Ds where
 | nil | cons (k v : Ex) (r : Ds)
inductive Eo where
 | no | ex (e : Ex)
inductive Tg where
 | nm (i : Nat) | tp (ts : Ts) | at (o : Ex) (f : Nat) | sb (o i : Ex)
inductive Ts where
 | nil | cons (t : Tg) (r : Ts)
end
mutual
inductive Sm where
 | asg (t : Tg) (e : Ex) | drop (e : Ex) | ret (e : Ex) | retn | ifs (c : Te) (a b : Ss) | for (t : Tg) (it : It) (b : Ss) | whl (c : Te) (b : Ss) | pass | brk | cnt
 | raise (c : Nat) (es : Es) | dead | tryS (b : Ss)
inductive Ss where
 | nil | cons (s : Sm) (r : Ss)
end
def lenDs : Ds → Nat
 | .nil => 0
 | .cons _ _ r => lenDs r + 1
def lenT : Ts → Nat
 | .nil => 0
 | .cons _ r => lenT r + 1
structure Fn where
 np : Nat
 ns : Nat
 body : Ss
 esc : Bool
structure Cl where
 init : Nat
 frz : Bool
 mth : Nat → Option Nat
 ats : List Nat
structure Tab where
 fn : Nat → Option Fn
 cl : Nat → Option Cl
 gl : Nat → Option D
 xc : Nat → Option (List Nat)
inductive Res (α : Type) where
 | ok (a : α) (M : Mem)
 | exc (c : Nat) (fs : List (Nat × D)) (M : Mem)
 | bad
def Res.bind {α β : Type} (r : Res α) (k : α → Mem → Res β) : Res β := match r with
 | .ok a M => k a M
 | .exc c fs M => .exc c fs M
 | .bad => .bad
def Res.nox {α : Type} : Res α → Res α
 | .ok a M => .ok a M
 | _ => .bad
def Res.mapM {α : Type} (g : Mem → Mem) : Res α → Res α
 | .ok a M => .ok a (g M)
 | .exc c fs M => .exc c fs (g M)
 | .bad => .bad
def Res.of {α : Type} (o : Option α) (M : Mem) : Res α := match o with
 | some a => .ok a M
 | none => .bad
inductive Out where
 | nx (σ : Sl) (M : Mem) | rt (d : D) (M : Mem) | bk (σ : Sl) (M : Mem) | ct (σ : Sl) (M : Mem)
 | exc (c : Nat) (fs : List (Nat × D)) (σ : Sl) (M : Mem)
 | bad
def Out.mapM (g : Mem → Mem) : Out → Out
 | .nx σ M => .nx σ (g M)
 | .rt d M => .rt d (g M)
 | .bk σ M => .bk σ (g M)
 | .ct σ M => .ct σ (g M)
 | .exc c fs σ M => .exc c fs σ (g M)
 | .bad => .bad
abbrev Calls := Nat → List D → Mem → Res D
def mk (own : Bool) (d : D) (M : Mem) : Res D := if own then .ok (.ref M.length) (M ++ [d]) else .ok d M
def wipe (σ : Sl) : List Nat → Sl
 | [] => σ
 | v :: vs => (wipe σ vs).set v none
structure Walk where
 xs : List D
 st : List (Nat × D)
 lk : Option Nat
def walkOf (M : Mem) (d : D) : Option Walk := match d with
 | .ref i => match M[i]? with
  | some (.lst xs) => some ⟨xs, [(i, .lst xs)], none⟩
  | some (.dct ps) => some ⟨ps.map (·.1), [], if ps.isEmpty then none else some i⟩
  | some (.lck ps) => some ⟨ps.map (·.1), [], none⟩
  | _ => none
 | .lst xs => some ⟨xs, [], none⟩
 | .tup xs => some ⟨xs, [], none⟩
 | .row xs => some ⟨xs, [], none⟩
 | .dct ps => some ⟨ps.map (·.1), [], none⟩
 | .str x => if x.length ≤ big then some ⟨x.cps.toList.map sgn, [], none⟩ else none
 | .scr ns => some ⟨ns.map .int, [], none⟩
 | _ => none
def Walk.ok (w : Walk) (M : Mem) : Bool := w.st.all fun p => if M[p.1]? = some p.2 then true else false
def seqOf (M : Mem) (d : D) : Option Walk := match d with
 | .ref i => match M[i]? with
  | some (.lst xs) => some ⟨xs, [(i, .lst xs)], none⟩
  | _ => none
 | .lst xs => some ⟨xs, [], none⟩
 | .tup xs => some ⟨xs, [], none⟩
 | .row xs => some ⟨xs, [], none⟩
 | .scr ns => some ⟨ns.map .int, [], none⟩
 | _ => none
def lckM (i : Nat) (M : Mem) : Mem := match M[i]? with
 | some (.dct ps) => M.set i (.lck ps)
 | _ => M
def ulkM (i : Nat) (M : Mem) : Mem := match M[i]? with
 | some (.lck ps) => M.set i (.dct ps)
 | _ => M
def Walk.lock (w : Walk) (M : Mem) : Mem := match w.lk with
 | some i => lckM i M
 | none => M
def Walk.ulk (w : Walk) (M : Mem) : Mem := match w.lk with
 | some i => ulkM i M
 | none => M
def pair (a b : D) : D := .tup [a, b]
def itemsOf (M : Mem) (d : D) : Option Walk := match d with
 | .ref i => match M[i]? with
  | some (.dct ps) => some ⟨ps.map fun p => pair p.1 p.2, [], if ps.isEmpty then none else some i⟩
  | some (.lck ps) => some ⟨ps.map fun p => pair p.1 p.2, [], none⟩
  | _ => none
 | .dct ps => some ⟨ps.map fun p => pair p.1 p.2, [], none⟩
 | _ => none
def rngs (lo hi : Int) : List D := (List.range (hi - lo).toNat).map fun k => .int (lo + (k : Nat))
def enumFrom : Int → List D → List D
 | _, [] => []
 | n, x :: r => pair (.int n) x :: enumFrom (n + 1) r
end Mn
namespace Mn
open PySem
section
variable (T : Tab) (cf mf : Calls)
def lcL (f : D → Mem → Res (Option D)) (w : Walk) : List D → Mem → Res (List D)
 | [], M => if w.ok M then .ok [] M else .bad
 | x :: r, M => if w.ok M then (f x M).nox.bind fun o M1 => (lcL f w r M1).bind fun ys M2 => .ok (match o with | some y => y :: ys | none => ys) M2 else .bad
def dcL (f : D → Mem → Res (Option (D × D))) (w : Walk) : List D → List (D × D) → Mem → Res (List (D × D))
 | [], ps, M => if w.ok M then .ok ps M else .bad
 | x :: r, ps, M => if w.ok M then (f x M).nox.bind fun o M1 => match o with
  | some (k, v) => if keyOk ps k then dcL f w r (dput ps k v) M1 else .bad
  | none => dcL f w r ps M1
  else .bad
def store (M : Mem) (d : D) (h : D → Option D) : Option Mem := match d with
 | .ref i => match M[i]? with
  | some o => (h o).map fun o' => M.set i o'
  | none => none
 | _ => none
def putA (f : Nat) (v : D) : List (Nat × D) → List (Nat × D)
 | [] => [(f, v)]
 | (g, x) :: r => if g = f then (g, v) :: r else (g, x) :: putA f v r
def setA (f : Nat) (v : D) : D → Option D
 | .ins c fs => if fs.length < 900 ∧ (T.cl c).any (fun k => k.ats.contains f) = true then some (.ins c (putA f v fs)) else none
 | _ => none
def setI (i v : D) : D → Option D
 | .lst xs => match i with
  | .int k => (ixP xs.length k).map fun j => .lst (xs.set j v)
  | _ => none
 | .dct ps => if keyOk ps i then (if ps.length < big then some (.dct (dput ps i v)) else none) else none
 | _ => none
def pushL (v : D) : D → Option D
 | .lst xs => if xs.length < big then some (.lst (xs ++ [v])) else none
 | _ => none
def extL (ys : List D) : D → Option D
 | .lst xs => if xs.length + ys.length ≤ big then some (.lst (xs ++ ys)) else none
 | _ => none
def updD (qs : List (D × D)) : D → Option D
 | .dct ps => if (ps.length + qs.length ≤ big) ∧ (ps.all fun p => flat p.1) = true ∧ (qs.all fun p => flat p.1) = true then some (.dct (qs.foldl (fun a q => dput a q.1 q.2) ps)) else none
 | _ => none
def delL (j : Nat) : D → Option D
 | .lst xs => some (.lst (xs.eraseIdx j))
 | _ => none
def delK (k : D) : D → Option D
 | .dct ps => some (.dct (ddel ps k))
 | _ => none
def findE (x : D) : List D → Option Nat
 | [] => none
 | y :: r => if eqv y x then some 0 else (findE x r).map (· + 1)
def isL : D → Bool
 | .lst _ => true
 | _ => false
def isSt : D → Bool
 | .str _ => true
 | _ => false
def allAl : List D → Bool
 | [] => true
 | x :: r => likeD x x && r.all (fun y => likeD x y && likeD y x) && allAl r
def isT1 : D → Bool
 | .tup (_ :: _) => true
 | .row (_ :: _) => true
 | _ => false
def notTN : D → Bool
 | .non => false
 | .tup _ => false
 | .row _ => false
 | _ => true
def isTp : D → Bool
 | .tup _ => true
 | .row _ => true
 | _ => false
def hdE : List D → Bool
 | .tup [] :: _ => true
 | _ => false
def sortD (xs : List D) : Option (List D) := if (allAl xs && (xs.all isT1 || xs.all notTN)) = true then some (xs.mergeSort leD) else if (allAl xs && (hdE xs && xs.all isTp)) = true then some (xs.mergeSort leD) else none
def colD : D → Option (List D)
 | .lst xs => some xs
 | .tup xs => some xs
 | .dct ps => some (ps.map (·.1))
 | .scr ns => some (ns.map .int)
 | _ => none
def rngD (a b : Int) : Option (List D) := if -(2 ^ 60) < a ∧ a < 2 ^ 60 ∧ -(2 ^ 60) < b ∧ b < 2 ^ 60 ∧ b - a ≤ big then some (rngs a b) else none
mutual
def ev : Ex → Sl → Mem → Res D
 | .lit d, _, M => .ok d M
 | .var i, σ, M => .of σ[i]?.join M
 | .glb n, _, M => .of (T.gl n) M
 | .tup es, σ, M => (evs es σ M).bind fun ds M1 => .ok (.tup ds) M1
 | .tupR es, σ, M => (evs es σ M).bind fun ds M1 => .ok (.row ds) M1
 | .cat es, σ, M => (evs es σ M).bind fun ds M1 => if ds.length ≤ big then .ok (.tup ds) M1 else .bad
 | .tupO r e, σ, M => (ev e σ M).bind fun x M1 => .of (tupD r x (der M1 x)) M1
 | .bin op a b, σ, M => (ev a σ M).bind fun x M1 => (ev b σ M1).bind fun y M2 => .of (binR op x y (der M2 x) (der M2 y)) M2
 | .neg a, σ, M => (ev a σ M).bind fun x M1 => match x with
  | .int i => .ok (.int (-i)) M1
  | _ => .bad
 | .cmp op a b, σ, M => (ev a σ M).bind fun x M1 => (ev b σ M1).bind fun y M2 => .of (cmpM M2 op x y) M2
 | .chn o1 o2 a b c, σ, M => (ev a σ M).bind fun x M1 => (ev b σ M1).bind fun y M2 => match cmpM M2 o1 x y with
  | some (.bl true) => (ev c σ M2).bind fun z M3 => .of (cmpM M3 o2 y z) M3
  | some (.bl false) => .ok (.bl false) M2
  | _ => .bad
 | .and a b, σ, M => (ev a σ M).bind fun x M1 => match tru (der M1 x) with
  | some true => ev b σ M1
  | some false => .ok x M1
  | none => .bad
 | .or a b, σ, M => (ev a σ M).bind fun x M1 => match tru (der M1 x) with
  | some true => .ok x M1
  | some false => ev b σ M1
  | none => .bad
 | .not a, σ, M => (ev a σ M).bind fun x M1 => .of ((tru (der M1 x)).map fun k => .bl (!k)) M1
 | .ife c a b, σ, M => (evT c σ M).bind fun k M1 => if k then ev a σ M1 else ev b σ M1
 | .idx a b, σ, M => (ev a σ M).bind fun x M1 => (ev b σ M1).bind fun y M2 => .of (idx (der M2 x) y) M2
 | .slc a lo hi, σ, M => (ev a σ M).bind fun x M1 => (evp lo σ M1).bind fun l M2 => (evp hi σ M2).bind fun h M3 => .of (slc x (der M3 x) l h) M3
 | .slcR a lo hi, σ, M => (ev a σ M).bind fun x M1 => (evp lo σ M1).bind fun l M2 => (evp hi σ M2).bind fun h M3 => .of (slcX (der M3 x) l h) M3
 | .att a f, σ, M => (ev a σ M).bind fun x M1 => .of (att (der M1 x) f) M1
 | .cal f es, σ, M => (evs es σ M).bind fun ds M1 => cf f ds M1
 | .mak c es, σ, M => (evs es σ M).bind fun ds M1 => mf c ds M1
 | .mth m a es, σ, M => (ev a σ M).bind fun x M1 => match der M1 x with
  | .ins c fs => match (T.cl c).bind fun k => k.mth m with
   | some f => (evs es σ M1).bind fun ds M2 => cf f (x :: ds) M2
   | none => .bad
  | _ => .bad
 | .dun m a b, σ, M => (ev a σ M).bind fun x M1 => (ev b σ M1).bind fun y M2 => match der M2 x with
  | .ins c _ => match tyD (der M2 y) with
   | some _ => match (T.cl c).bind fun k => k.mth m with
    | some f => cf f [x, y] M2
    | none => .bad
   | none => .bad
  | _ => .bad
 | .rev a, σ, M => (ev a σ M).bind fun x M1 => match der M1 x with
  | .tup xs => .ok (.tup xs.reverse) M1
  | _ => .bad
 | .tzip a b, σ, M => (ev a σ M).bind fun x M1 => (ev b σ M1).bind fun y M2 => match seqOf M2 x, seqOf M2 y with
  | some u, some w => .ok (.tup (List.zipWith pair u.xs w.xs)) M2
  | _, _ => .bad
 | .ext a e, σ, M => (ev a σ M).bind fun x M1 => if !isL (der M1 x) then .bad else (ev e σ M1).bind fun y M2 => match seqOf M2 y with
  | some w => match store M2 x (extL w.xs) with
   | some M3 => .ok .non M3
   | none => .bad
  | none => .bad
 | .blt b es, σ, M => (evs es σ M).bind fun ds M1 => .of (bi b (ds.map (der M1))) M1
 | .new own c, σ, M => (evN c σ M).bind fun d M1 => mk own d M1
 | .addR a b, σ, M => (ev a σ M).bind fun x M1 => (ev b σ M1).bind fun y M2 => .of (addR x y (der M2 x) (der M2 y)) M2
 | .tupK e, σ, M => (ev e σ M).bind fun x M1 => match der M1 x with
  | .dct ps => .ok (.tup (ps.map (·.1))) M1
  | _ => .bad
 | .upd a e, σ, M => (ev a σ M).bind fun x M1 => if !isDc (der M1 x) then .bad else (ev e σ M1).bind fun y M2 => if beqD x y then .bad else match der M2 y with
  | .dct qs => match store M2 x (updD qs) with
   | some M3 => .ok .non M3
   | none => .bad
  | _ => .bad
 | .app a e, σ, M => (ev a σ M).bind fun x M1 => if !isL (der M1 x) then .bad else (ev e σ M1).bind fun v M2 => match store M2 x (pushL v) with
  | some M3 => .ok .non M3
  | none => .bad
 | .popi a e, σ, M => (ev a σ M).bind fun x M1 => if !isL (der M1 x) then .bad else (ev e σ M1).bind fun k M2 => match der M2 x, k with
  | .lst xs, .int i => match ixP xs.length i with
   | some j => match xs[j]?, store M2 x (delL j) with
    | some v, some M3 => .ok v M3
    | _, _ => .bad
   | none => .bad
  | _, _ => .bad
 | .popk a e, σ, M => (ev a σ M).bind fun x M1 => if !isDc (der M1 x) then .bad else (ev e σ M1).bind fun k M2 => match der M2 x with
  | .dct ps => if keyOk ps k then match dget ps k, store M2 x (delK k) with
    | some v, some M3 => .ok v M3
    | _, _ => .bad
   else .bad
  | _ => .bad
 | .index a e, σ, M => (ev a σ M).bind fun x M1 => if !isL (der M1 x) then .bad else (ev e σ M1).bind fun y M2 => match der M2 x with
  | .lst xs => if shp 9 (.lst xs) && shp 8 y then .of ((findE y xs).map fun k : Nat => D.int k) M2 else .bad
  | _ => .bad
 | .indexT a e, σ, M => (ev a σ M).bind fun x M1 => match x with
  | .row xs => (ev e σ M1).bind fun y M2 => match y with
   | .str z => if xs.all isSt then .of ((findE (.str z) xs).map fun k : Nat => D.int k) M2 else .bad
   | _ => .bad
  | _ => .bad
 | .join a e, σ, M => (ev a σ M).bind fun x M1 => match x with
  | .str z => (ev e σ M1).bind fun y M2 => .of (joinD z (der M2 y)) M2
  | _ => .bad
 | .get a e x, σ, M => (ev a σ M).bind fun d M1 => if !isDc (der M1 d) then .bad else (ev e σ M1).bind fun k M2 => (evo x σ M2).bind fun z M3 => match der M3 d with
  | .dct ps => if keyOk ps k then .ok ((dget ps k).getD (z.getD .non)) M3 else .bad
  | _ => .bad
def evT : Te → Sl → Mem → Res Bool
 | .and a b, σ, M => (evT a σ M).bind fun k M1 => if k then evT b σ M1 else .ok false M1
 | .or a b, σ, M => (evT a σ M).bind fun k M1 => if k then .ok true M1 else evT b σ M1
 | .not a, σ, M => (evT a σ M).bind fun k M1 => .ok (!k) M1
 | .cmp op a b, σ, M => (ev a σ M).bind fun x M1 => (ev b σ M1).bind fun y M2 => match cmpM M2 op x y with
  | some (.bl k) => .ok k M2
  | _ => .bad
 | .v e, σ, M => (ev e σ M).bind fun x M1 => .of (tru (der M1 x)) M1
def evs : Es → Sl → Mem → Res (List D)
 | .nil, _, M => .ok [] M
 | .cons e r, σ, M => (ev e σ M).bind fun x M1 => (evs r σ M1).bind fun xs M2 => .ok (x :: xs) M2
 | .star e r, σ, M => (ev e σ M).bind fun x M1 => match der M1 x with
  | .tup ys => (evs r σ M1).bind fun xs M2 => .ok (ys ++ xs) M2
  | .lst ys => (evs r σ M1).bind fun xs M2 => .ok (ys ++ xs) M2
  | _ => .bad
def evo : Eo → Sl → Mem → Res (Option D)
 | .no, _, M => .ok none M
 | .ex e, σ, M => (ev e σ M).bind fun x M1 => .ok (some x) M1
def evp : Eo → Sl → Mem → Res (Option Int)
 | .no, _, M => .ok none M
 | .ex e, σ, M => (ev e σ M).bind fun x M1 => match x with
  | .int i => .ok (some i) M1
  | _ => .bad
def evN : Nw → Sl → Mem → Res D
 | .lst es, σ, M => (evs es σ M).bind fun ds M1 => .ok (.lst ds) M1
 | .cat es, σ, M => (evs es σ M).bind fun ds M1 => if ds.length ≤ big then .ok (.lst ds) M1 else .bad
 | .dct ds, σ, M => (evd ds σ M).bind fun ps M1 => .of ((putAll ps []).map .dct) M1
 | .lstO e, σ, M => (ev e σ M).bind fun x M1 => .of ((colD (der M1 x)).map .lst) M1
 | .rng e, σ, M => (ev e σ M).bind fun x M1 => match x with
  | .int n => .of ((rngD 0 n).map .lst) M1
  | _ => .bad
 | .sort e, σ, M => (ev e σ M).bind fun x M1 => .of (((colD (der M1 x)).bind sortD).map .lst) M1
 | .add a b, σ, M => (ev a σ M).bind fun x M1 => (ev b σ M1).bind fun y M2 => match der M2 x, der M2 y with
  | .lst xs, .lst ys => if xs.length + ys.length ≤ big then .ok (.lst (xs ++ ys)) M2 else .bad
  | _, _ => .bad
 | .rep a n, σ, M => (ev a σ M).bind fun x M1 => (ev n σ M1).bind fun y M2 => match der M2 x, y with
  | .lst xs, .int k => if 0 ≤ k ∧ k ≤ 1000 ∧ xs.length ≤ 1000 then .ok (.lst (List.replicate k.toNat xs).flatten) M2 else .bad
  | _, _ => .bad
 | .items a, σ, M => (ev a σ M).bind fun x M1 => match der M1 x with
  | .dct ps => .of ((sortD (ps.map fun p => pair p.1 p.2)).map .lst) M1
  | _ => .bad
 | .lcp vs t it c e, σ, M => (evI it σ M).bind fun w M1 => (lcL (fun x M2 => (asgT t x (wipe σ vs) M2).bind fun σ2 M3 => (evT c σ2 M3).bind fun k M4 => if k then (ev e σ2 M4).bind fun y M5 => .ok (some y) M5 else .ok none M4) w w.xs (w.lock M1)).mapM w.ulk |>.bind fun ys M2 => .ok (.lst ys) M2
 | .dcp vs t it c k v, σ, M => (evI it σ M).bind fun w M1 => (dcL (fun x M2 => (asgT t x (wipe σ vs) M2).bind fun σ2 M3 => (evT c σ2 M3).bind fun b M4 => if b then (ev k σ2 M4).bind fun y M5 => (ev v σ2 M5).bind fun z M6 => .ok (some (y, z)) M6 else .ok none M4) w w.xs [] (w.lock M1)).mapM w.ulk |>.bind fun ps M2 => .ok (.dct ps) M2
def evd : Ds → Sl → Mem → Res (List (D × D))
 | .nil, _, M => .ok [] M
 | .cons k v r, σ, M => (ev k σ M).bind fun x M1 => (ev v σ M1).bind fun y M2 => (evd r σ M2).bind fun ps M3 => .ok ((x, y) :: ps) M3
def evI : It → Sl → Mem → Res Walk
 | .it e, σ, M => (ev e σ M).bind fun x M1 => .of (walkOf M1 x) M1
 | .rng1 e, σ, M => (ev e σ M).bind fun x M1 => match x with
  | .int n => .of ((rngD 0 n).map fun xs => ⟨xs, [], none⟩) M1
  | _ => .bad
 | .rng2 a b, σ, M => (ev a σ M).bind fun x M1 => (ev b σ M1).bind fun y M2 => match x, y with
  | .int m, .int n => .of ((rngD m n).map fun xs => ⟨xs, [], none⟩) M2
  | _, _ => .bad
 | .enm e, σ, M => (ev e σ M).bind fun x M1 => .of ((seqOf M1 x).map fun w => ⟨enumFrom 0 w.xs, w.st, none⟩) M1
 | .zip a b, σ, M => (ev a σ M).bind fun x M1 => (ev b σ M1).bind fun y M2 => match seqOf M2 x, seqOf M2 y with
  | some u, some w => .ok ⟨List.zipWith pair u.xs w.xs, u.st ++ w.st, none⟩ M2
  | _, _ => .bad
 | .itm e, σ, M => (ev e σ M).bind fun x M1 => .of (itemsOf M1 x) M1
def asgT : Tg → D → Sl → Mem → Res Sl
 | .nm i, d, σ, M => .ok (σ.set i (some d)) M
 | .tp ts, d, σ, M => match der M d with
  | .tup xs => if xs.length = lenT ts then asgTs ts xs σ M else .bad
  | _ => .bad
 | .at o f, d, σ, M => (ev o σ M).bind fun x M1 => match store M1 x (setA T f d) with
  | some M2 => .ok σ M2
  | none => .bad
 | .sb o i, d, σ, M => (ev o σ M).bind fun x M1 => (ev i σ M1).bind fun y M2 => match store M2 x (setI y d) with
  | some M3 => .ok σ M3
  | none => .bad
def asgTs : Ts → List D → Sl → Mem → Res Sl
 | .nil, [], σ, M => .ok σ M
 | .cons t r, x :: xs, σ, M => (asgT t x σ M).bind fun σ1 M1 => asgTs r xs σ1 M1
 | _, _, _, _ => .bad
end
def whlL (c : Sl → Mem → Res Bool) (b : Sl → Mem → Out) : Nat → Sl → Mem → Out
 | 0, _, _ => .bad
 | n + 1, σ, M => match c σ M with
  | .ok true M1 => match b σ M1 with
   | .nx σ2 M2 => whlL c b n σ2 M2
   | .ct σ2 M2 => whlL c b n σ2 M2
   | .bk σ2 M2 => .nx σ2 M2
   | .rt d M2 => .rt d M2
   | .exc x fs σ2 M2 => .exc x fs σ2 M2
   | .bad => .bad
  | .ok false M1 => .nx σ M1
  | .exc x fs M1 => .exc x fs σ M1
  | .bad => .bad
def forL (f : D → Sl → Mem → Out) (w : Walk) : List D → Sl → Mem → Out
 | [], σ, M => if w.ok M then .nx σ M else .bad
 | x :: r, σ, M => if w.ok M then match f x σ M with
   | .nx σ2 M2 => forL f w r σ2 M2
   | .ct σ2 M2 => forL f w r σ2 M2
   | .bk σ2 M2 => .nx σ2 M2
   | .rt d M2 => .rt d M2
   | .exc c fs σ2 M2 => .exc c fs σ2 M2
   | .bad => .bad
  else .bad
variable (W : Nat)
def Res.out {α : Type} (σ : Sl) (r : Res α) (k : α → Mem → Out) : Out := match r with
 | .ok a M => k a M
 | .exc c fs M => .exc c fs σ M
 | .bad => .bad
mutual
def exS : Sm → Sl → Mem → Out
 | .asg t e, σ, M => (ev T cf mf e σ M).out σ fun d M1 => (asgT T cf mf t d σ M1).nox.out σ fun σ2 M2 => .nx σ2 M2
 | .drop e, σ, M => (ev T cf mf e σ M).out σ fun _ M1 => .nx σ M1
 | .ret e, σ, M => (ev T cf mf e σ M).out σ fun d M1 => .rt d M1
 | .retn, _, M => .rt .non M
 | .ifs c a b, σ, M => (evT T cf mf c σ M).out σ fun k M1 => if k then exB a σ M1 else exB b σ M1
 | .for t it b, σ, M => (evI T cf mf it σ M).out σ fun w M1 => (forL (fun x σ1 M2 => (asgT T cf mf t x σ1 M2).nox.out σ1 fun σ2 M3 => exB b σ2 M3) w w.xs σ (w.lock M1)).mapM w.ulk
 | .whl c b, σ, M => whlL (evT T cf mf c) (exB b) W σ M
 | .pass, σ, M => .nx σ M
 | .brk, σ, M => .bk σ M
 | .cnt, σ, M => .ct σ M
 | .raise c es, σ, M => (evs T cf mf es σ M).out σ fun ds M1 => match T.xc c with
  | some ns => if ns.length = ds.length then .exc c (ns.zip ds) σ M1 else .bad
  | none => .bad
 | .dead, _, _ => .bad
 | .tryS b, σ, M => match exB b σ M with
  | .exc _ _ _ _ => .bad
  | o => o
def exB : Ss → Sl → Mem → Out
 | .nil, σ, M => .nx σ M
 | .cons s r, σ, M => match exS s σ M with
  | .nx σ2 M2 => exB r σ2 M2
  | .rt d M2 => .rt d M2
  | .bk σ2 M2 => .bk σ2 M2
  | .ct σ2 M2 => .ct σ2 M2
  | .exc c fs σ2 M2 => .exc c fs σ2 M2
  | .bad => .bad
end
end
def okM (n : Nat) (M M' : Mem) : Prop := n ≤ M'.length ∧ ∀ i, i < n → M'[i]? = M[i]? ∨ ∃ d, M'[i]? = some d ∧ bel n d = true
def okMb (n : Nat) (M M' : Mem) : Bool := (Nat.ble n M'.length).and ((List.range n).all fun i => match M'[i]? with
 | some d => (bel n d).or (match M[i]? with | some e => beqD d e | none => false)
 | none => false)
theorem okMb_iff {n : Nat} {M M' : Mem} (hn : n ≤ M'.length) : okMb n M M' = true ↔ okM n M M' := by
 unfold okMb okM
 simp only [Bool.and_eq_true, List.all_eq_true, List.mem_range, Nat.ble_eq, hn, true_and]
 constructor
 ·intro h i hi
  have h1 := h i hi
  cases e : M'[i]? with
  | none => rw [e] at h1; cases h1
  | some d =>
   rw [e] at h1
   simp only [Bool.or_eq_true] at h1
   rcases h1 with h1 | h1
   ·exact .inr ⟨d, rfl, h1⟩
   ·left
    cases e2 : M[i]? with
    | none => rw [e2] at h1; cases h1
    | some x => rw [e2] at h1; rw [beqD_iff.mp h1]
 ·intro h i hi
  rcases h i hi with h1 | ⟨d, h1, h2⟩
  ·rw [← h1]
   rw [List.getElem?_eq_getElem (Nat.lt_of_lt_of_le hi hn)]
   simp [beqD_iff]
  ·rw [h1]; simp [h2]
instance (n : Nat) (M M' : Mem) : Decidable (okM n M M') := if h : okMb n M M' = true then .isTrue (by
  have hn : n ≤ M'.length := by unfold okMb at h; rw [Bool.and_eq_true] at h; exact Nat.le_of_ble_eq_true h.1
  exact (okMb_iff hn).mp h) else .isFalse fun z => h ((okMb_iff z.1).mpr z)
def fin (esc : Bool) (n : Nat) (M M' : Mem) (d : D) : Res D :=
 if okM n M M' then (if esc then match d with
  | .ref j => if n ≤ j then match M'[j]? with
   | some (.lck _) => .bad
   | some c => if bel n (frz n (some j) M' c) = true then .ok (.ref n) (M'.take n ++ [frz n (some j) M' c]) else .bad
   | none => .bad
   else .bad
  | _ => .bad
  else if bel n (frz n none M' d) = true then .ok (frz n none M' d) (M'.take n) else .bad) else .bad
def finX (n : Nat) (M M' : Mem) (c : Nat) (fs : List (Nat × D)) : Res D :=
 if okM n M M' ∧ belf n (subf (look n none M' 6) fs) = true then .exc c (subf (look n none M' 6) fs) (M'.take n) else .bad
def bodyR (T : Tab) (W : Nat) (cf mf : Calls) (F : Fn) (esc : Bool) (n : Nat) (as : List D) (r : Option D) (M0 M : Mem) : Res D :=
 if as.length = F.np then match exB T cf mf W F.body (as.map some ++ List.replicate (F.ns - F.np) none) M with
  | .nx _ M' => fin esc n M0 M' (r.getD .non)
  | .rt d M' => match r with
   | none => fin esc n M0 M' d
   | some x => match d with
    | .non => fin esc n M0 M' x
    | _ => .bad
  | .exc c fs _ M' => finX n M0 M' c fs
  | _ => .bad
 else .bad
def run (T : Tab) (W : Nat) : Nat → Bool → Nat → List D → Mem → Res D
 | 0, _, _, _, _ => .bad
 | k + 1, false, f, as, M => match T.fn f with
  | some F => bodyR T W (run T W k false) (run T W k true) F F.esc M.length as none M M
  | none => .bad
 | k + 1, true, c, as, M => match T.cl c with
  | some C => match T.fn C.init with
   | some F => match k with
    | 0 => .bad
    | j + 1 => if C.frz then bodyR T W (run T W j false) (run T W j true) F false M.length (.ref M.length :: as) (some (.ref M.length)) M (M ++ [.ins c []])
     else .bad
   | none => .bad
  | none => .bad
end Mn
end
section
namespace Mn
open PySem PySem.Spec PyProof.Rows L2
structure Sit where
 P : Program
 w : World
 K : PySem.W.Frag
 mg : Str → Option Value
 base : Heap
 ca : Nat → Addr
 fa : Nat → Addr
 names : List Str
 T : Tab
def Sit.an (S : Sit) (n : Nat) : Str := S.names.getD n ⟨#[]⟩
structure InsOk (S : Sit) (c : Nat) (fs : List (Nat × D)) : Prop where
 cl : (S.T.cl c).isSome = true
 cls : Cls S.K (S.ca c)
 no : ∀ p ∈ fs, NoAttr S.K (S.ca c) (S.an p.1)
 lt : ∀ p ∈ fs, p.1 < S.names.length
def strOk (x : Str) : Bool := PySem.PyData.strOk x
def keyD : L2.Key → D
 | .inl i => .int i
 | .inr x => .str x
def kOk : L2.Key → Prop
 | .inl _ => True
 | .inr x => strOk x = true
inductive Den (S : Sit) (ι : List Addr) (F : Hp) : D → V → Prop
 | non : Den S ι F .non .non
 | bl (b : Bool) : Den S ι F (.bl b) (.bl b)
 | int (i : Int) : Den S ι F (.int i) (.int i)
 | str (x : Str) : strOk x = true → Den S ι F (.str x) (.str x)
 | ty (n : String) : Den S ι F (.ty n) (.ty n)
 | cls (c : Nat) : (S.T.cl c).isSome = true → Den S ι F (.cls c) (.ref (S.ca c))
 | ref {i : Nat} {a : Addr} : ι[i]? = some a → Den S ι F (.ref i) (.ref a)
 | tup {a : Addr} {xs : List V} {ds : List D} : F a = some (.tup xs) → xs.length = ds.length → (∀ (i : Nat) d x, ds[i]? = some d → xs[i]? = some x → Den S ι F d x) → Den S ι F (.tup ds) (.ref a)
 | row {a : Addr} {ob : Obj} {xs : List V} {ds : List D} : F a = some (.frz ob (.tup xs)) → ob.dict = none → xs.length = ds.length → (∀ (i : Nat) d x, ds[i]? = some d → xs[i]? = some x → Den S ι F d x) → Den S ι F (.row ds) (.ref a)
 | scr {a : Addr} {ns : List Int} : SqL S.K F a (ns.map V.int) → Den S ι F (.scr ns) (.ref a)
 | lst {a : Addr} {xs : List V} {ds : List D} : F a = some (.lst xs) → xs.length = ds.length → (∀ (i : Nat) d x, ds[i]? = some d → xs[i]? = some x → Den S ι F d x) → Den S ι F (.lst ds) (.ref a)
 | dctK {a : Addr} {kvs : List (L2.Key × V)} {ps : List (D × D)} : F a = some (.dK kvs) → kvs.length = ps.length → (∀ (i : Nat) p q, ps[i]? = some p → kvs[i]? = some q → p.1 = keyD q.1 ∧ kOk q.1) → (∀ (i : Nat) p q, ps[i]? = some p → kvs[i]? = some q → Den S ι F p.2 q.2) → Den S ι F (.dct ps) (.ref a)
 | dctT {a : Addr} {kvs : List (List L2.Key × V)} {ps : List (D × D)} : F a = some (.dT kvs) → kvs.length = ps.length → (∀ (i : Nat) p q, ps[i]? = some p → kvs[i]? = some q → p.1 = .tup (q.1.map keyD) ∧ ∀ k ∈ q.1, kOk k) → (∀ (i : Nat) p q, ps[i]? = some p → kvs[i]? = some q → Den S ι F p.2 q.2) → Den S ι F (.dct ps) (.ref a)
 | ins {a dx : Addr} {c : Nat} {gs : List (Str × V)} {fs : List (Nat × D)} : F a = some (.ins (S.ca c) dx gs) → InsOk S c fs → gs.length = fs.length → (∀ (i : Nat) p q, fs[i]? = some p → gs[i]? = some q → q.1 = S.an p.1) → (∀ (i : Nat) p q, fs[i]? = some p → gs[i]? = some q → Den S ι F p.2 q.2) → Den S ι F (.ins c fs) (.ref a)
def Sub (F F' : Hp) : Prop := ∀ a o, F a = some o → F' a = some o
theorem Sub.refl (F : Hp) : Sub F F := fun _ _ h => h
theorem Sub.trans {F F1 F2 : Hp} (h : Sub F F1) (k : Sub F1 F2) : Sub F F2 := fun a o e => k a o (h a o e)
theorem rd_sub {F F' : Hp} {a : Addr} {u : HO} (e : Sub F F') (h : Rd F a u) : Rd F' a u := by
 rcases h with h | ⟨o, h⟩
 ·exact .inl (e _ _ h)
 ·exact .inr ⟨o, e _ _ h⟩
theorem sqL_sub {K : PySem.W.Frag} {F F' : Hp} {a : Addr} {xs : List V} (e : Sub F F') (h : SqL K F a xs) : SqL K F' a xs := h.elim (fun z => .inl (rd_sub e z)) .inr
theorem pre_get {ι ι' : List Addr} (p : ι <+: ι') {i : Nat} {a : Addr} (h : ι[i]? = some a) : ι'[i]? = some a := by
 obtain ⟨r, rfl⟩ := p
 have hl := (List.getElem?_eq_some_iff.mp h).1
 rw [List.getElem?_append_left hl]
 exact h
theorem Den.mono {S : Sit} {ι ι' : List Addr} {F F' : Hp} {d : D} {v : V} (h : Den S ι F d v) (p : ∀ (i : Nat) a, ι[i]? = some a → ι'[i]? = some a) (e : Sub F F') : Den S ι' F' d v := by
 induction h with
 | non => exact .non
 | bl b => exact .bl b
 | int i => exact .int i
 | str x h => exact .str x h
 | ty n => exact .ty n
 | cls c h => exact .cls c h
 | ref h => exact .ref (p _ _ h)
 | tup h1 h2 _ ih => exact .tup (e _ _ h1) h2 ih
 | row h1 h0 h2 _ ih => exact .row (e _ _ h1) h0 h2 ih
 | scr h => exact .scr (sqL_sub e h)
 | lst h1 h2 _ ih => exact .lst (e _ _ h1) h2 ih
 | dctK h1 h2 h3 _ ih => exact .dctK (e _ _ h1) h2 h3 ih
 | dctT h1 h2 h3 _ ih => exact .dctT (e _ _ h1) h2 h3 ih
 | ins h1 h0 h2 h3 _ ih => exact .ins (e _ _ h1) h0 h2 h3 ih
def DenL (S : Sit) (ι : List Addr) (F : Hp) (ds : List D) (xs : List V) : Prop := xs.length = ds.length ∧ ∀ (i : Nat) d x, ds[i]? = some d → xs[i]? = some x → Den S ι F d x
theorem DenL.mono {S : Sit} {ι ι' : List Addr} {F F' : Hp} {ds : List D} {xs : List V} (h : DenL S ι F ds xs) (p : ∀ (i : Nat) a, ι[i]? = some a → ι'[i]? = some a) (e : Sub F F') : DenL S ι' F' ds xs := ⟨h.1, fun i d x h1 h2 => (h.2 i d x h1 h2).mono p e⟩
theorem DenL.nil {S : Sit} {ι : List Addr} {F : Hp} : DenL S ι F [] [] := ⟨rfl, fun i d x h => by simp at h⟩
theorem DenL.cons {S : Sit} {ι : List Addr} {F : Hp} {d : D} {x : V} {ds : List D} {xs : List V} (h : Den S ι F d x) (r : DenL S ι F ds xs) : DenL S ι F (d :: ds) (x :: xs) := by
 refine ⟨by simp [r.1], fun i e y h1 h2 => ?_⟩
 cases i with
 | zero => simp at h1 h2; subst h1; subst h2; exact h
 | succ i => exact r.2 i e y (by simpa using h1) (by simpa using h2)
theorem DenL.inv {S : Sit} {ι : List Addr} {F : Hp} {d : D} {ds : List D} {ys : List V} (h : DenL S ι F (d :: ds) ys) : ∃ x xs, ys = x :: xs ∧ Den S ι F d x ∧ DenL S ι F ds xs := by
 cases ys with
 | nil => have := h.1; simp at this
 | cons x xs =>
  refine ⟨x, xs, rfl, h.2 0 d x rfl rfl, by have := h.1; simpa using this, fun i e y h1 h2 => h.2 (i + 1) e y (by simpa using h1) (by simpa using h2)⟩
theorem DenL.inv0 {S : Sit} {ι : List Addr} {F : Hp} {ys : List V} (h : DenL S ι F [] ys) : ys = [] := by
 have := h.1
 simpa using this
theorem DenL.app {S : Sit} {ι : List Addr} {F : Hp} : ∀ {ds es : List D} {xs ys : List V}, DenL S ι F ds xs → DenL S ι F es ys → DenL S ι F (ds ++ es) (xs ++ ys)
 | [], _, _, _, h, k => by rw [h.inv0]; exact k
 | d :: ds, es, xs, ys, h, k => by
  obtain ⟨x, r, rfl, h1, h2⟩ := h.inv
  exact .cons h1 (h2.app k)
theorem DenL.get {S : Sit} {ι : List Addr} {F : Hp} {ds : List D} {xs : List V} {i : Nat} {d : D} (h : DenL S ι F ds xs) (e : ds[i]? = some d) : ∃ x, xs[i]? = some x ∧ Den S ι F d x := by
 have hl := (List.getElem?_eq_some_iff.mp e).1
 have hx : i < xs.length := by rw [h.1]; exact hl
 exact ⟨xs[i], List.getElem?_eq_getElem hx, h.2 i d _ e (List.getElem?_eq_getElem hx)⟩
def full : HO → Prop
 | .dK kvs => kvs ≠ []
 | .dT kvs => kvs ≠ []
 | _ => False
def isDct : HO → Prop
 | .dK _ => True
 | .dT _ => True
 | _ => False
def isOwn : HO → Prop
 | .lst _ => True
 | .dK _ => True
 | .dT _ => True
 | _ => False
theorem isDct.own {o : HO} (h : isDct o) : isOwn o := by cases o <;> first | exact trivial | exact False.elim h
def isFrz : HO → Prop
 | .frz _ _ => True
 | _ => False
def Rn (H : Hp) (a : Addr) (o : HO) : Prop := H a = some o ∨ full o ∧ ∃ od, H a = some (.frz od o)
theorem Rn.pl {H : Hp} {a : Addr} {o : HO} (h : Rn H a o) (f : ¬ full o) : H a = some o := h.elim id fun z => absurd z.1 f
theorem Rn.rd {H : Hp} {a : Addr} {o : HO} (h : Rn H a o) : Rd H a o := Or.imp id (fun z => z.2) h
theorem Rn.is {H : Hp} {a : Addr} {o : HO} (h : Rn H a o) : ∃ u, H a = some u := h.elim (fun z => ⟨_, z⟩) fun ⟨_, _, z⟩ => ⟨_, z⟩
theorem Rn.mono {H H' : Hp} {a : Addr} {o : HO} (h : Rn H a o) (e : ∀ u, H a = some u → H' a = some u) : Rn H' a o := Or.imp (e _) (fun ⟨f, od, z⟩ => ⟨f, od, e _ z⟩) h
def SubH (F H : Hp) : Prop := ∀ a o, F a = some o → Rn H a o
theorem SubH.tup {F H : Hp} (s : SubH F H) {a : Addr} {xs : List V} (h : F a = some (.tup xs)) : H a = some (.tup xs) := (s _ _ h).pl id
theorem SubH.fz {F H : Hp} (s : SubH F H) {a : Addr} {ob : Obj} {o : HO} (h : F a = some (.frz ob o)) : H a = some (.frz ob o) := (s _ _ h).pl id
theorem SubH.lst {F H : Hp} (s : SubH F H) {a : Addr} {xs : List V} (h : F a = some (.lst xs)) : H a = some (.lst xs) := (s _ _ h).pl id
theorem SubH.ins {F H : Hp} (s : SubH F H) {a c dx : Addr} {gs : List (Str × V)} (h : F a = some (.ins c dx gs)) : H a = some (.ins c dx gs) := (s _ _ h).pl id
theorem rd_subH {F H : Hp} {a : Addr} {xs : List V} (s : SubH F H) (h : Rd F a (.lst xs)) : Rd H a (.lst xs) := by
 rcases h with h | ⟨o, h⟩
 ·exact .inl (s.lst h)
 ·exact .inr ⟨o, (s _ _ h).pl id⟩
theorem sqL_subH {K : PySem.W.Frag} {F H : Hp} {a : Addr} {xs : List V} (s : SubH F H) (h : SqL K F a xs) : SqL K H a xs := h.elim (fun z => .inl (rd_subH s z)) .inr
inductive DenO (S : Sit) (ι : List Addr) (F : Hp) : D → HO → Prop
 | lst {xs : List V} {ds : List D} : DenL S ι F ds xs → DenO S ι F (.lst ds) (.lst xs)
 | dctK {kvs : List (L2.Key × V)} {ps : List (D × D)} : kvs.length = ps.length → (∀ (i : Nat) p q, ps[i]? = some p → kvs[i]? = some q → p.1 = keyD q.1 ∧ kOk q.1) → (∀ (i : Nat) p q, ps[i]? = some p → kvs[i]? = some q → Den S ι F p.2 q.2) → DenO S ι F (.dct ps) (.dK kvs)
 | dctT {kvs : List (List L2.Key × V)} {ps : List (D × D)} : kvs.length = ps.length → (∀ (i : Nat) p q, ps[i]? = some p → kvs[i]? = some q → p.1 = .tup (q.1.map keyD) ∧ ∀ k ∈ q.1, kOk k) → (∀ (i : Nat) p q, ps[i]? = some p → kvs[i]? = some q → Den S ι F p.2 q.2) → DenO S ι F (.dct ps) (.dT kvs)
 | lck {od : Obj} {o : HO} {ps : List (D × D)} : full o → DenO S ι F (.dct ps) o → DenO S ι F (.lck ps) (.frz od o)
 | ins {dx : Addr} {c : Nat} {gs : List (Str × V)} {fs : List (Nat × D)} : InsOk S c fs → gs.length = fs.length → (∀ (i : Nat) p q, fs[i]? = some p → gs[i]? = some q → q.1 = S.an p.1) → (∀ (i : Nat) p q, fs[i]? = some p → gs[i]? = some q → Den S ι F p.2 q.2) → DenO S ι F (.ins c fs) (.ins (S.ca c) dx gs)
theorem DenO.mono {S : Sit} {ι ι' : List Addr} {F F' : Hp} {d : D} {o : HO} (h : DenO S ι F d o) (p : ∀ (i : Nat) a, ι[i]? = some a → ι'[i]? = some a) (e : Sub F F') : DenO S ι' F' d o := by
 induction h with
 | lst h => exact .lst (h.mono p e)
 | dctK h1 h2 h3 => exact .dctK h1 h2 fun i x y a b => (h3 i x y a b).mono p e
 | dctT h1 h2 h3 => exact .dctT h1 h2 fun i x y a b => (h3 i x y a b).mono p e
 | lck h _ ih => exact .lck h ih
 | ins h0 h1 h2 h3 => exact .ins h0 h1 h2 fun i x y a b => (h3 i x y a b).mono p e
theorem DenO.den {S : Sit} {ι : List Addr} {F : Hp} {d : D} {o : HO} {a : Addr} (h : DenO S ι F d o) (hl : ∀ ps, d ≠ .lck ps) (e : F a = some o) : Den S ι F d (.ref a) := by
 cases h with
 | @lck _ _ ps _ _ => exact absurd rfl (hl ps)
 | lst h => exact .lst e h.1 h.2
 | dctK h1 h2 h3 => exact .dctK e h1 h2 h3
 | dctT h1 h2 h3 => exact .dctT e h1 h2 h3
 | ins h0 h1 h2 h3 => exact .ins e h0 h1 h2 h3
structure Rel (S : Sit) (ι : List Addr) (F G : Hp) (M : Mem) (H : Hp) : Prop where
 len : ι.length = M.length
 nd : ι.Nodup
 own : ∀ (i : Nat) d a, M[i]? = some d → ι[i]? = some a → ∃ o, H a = some o ∧ DenO S ι F d o
 out : ∀ (i : Nat) a, ι[i]? = some a → F a = none ∧ ∀ o, G a = some o → isFrz o
 frz : ∀ a o, F a = some o → Rn H a o
 frm : ∀ a o, G a = some o → H a = some o ∧ (isOwn o → F a = none)
section
variable {S : Sit} {ι : List Addr} {F G : Hp} {M : Mem} {H : Hp}
theorem Rel.at {i : Nat} {a : Addr} (R : Rel S ι F G M H) (h : ι[i]? = some a) : ∃ d o, M[i]? = some d ∧ H a = some o ∧ DenO S ι F d o := by
 have hl := (List.getElem?_eq_some_iff.mp h).1
 have hm : i < M.length := by rw [← R.len]; exact hl
 obtain ⟨o, h1, h2⟩ := R.own i M[i] a (List.getElem?_eq_getElem hm) h
 exact ⟨_, o, List.getElem?_eq_getElem hm, h1, h2⟩
theorem Rel.fresh_ι {p : Addr} (R : Rel S ι F G M H) (hp : H p = none) : p ∉ ι := fun h => by
 obtain ⟨i, hi, e⟩ := List.getElem_of_mem h
 obtain ⟨_, o, _, h1, _⟩ := R.at (i := i) (a := p) (by rw [List.getElem?_eq_getElem hi, e])
 rw [h1] at hp
 cases hp
theorem Rel.fresh_F {p : Addr} (R : Rel S ι F G M H) (hp : H p = none) : F p = none := by
 cases e : F p with
 | none => rfl
 | some o => obtain ⟨u, z⟩ := (R.frz p o e).is; rw [z] at hp; cases hp
theorem Rel.fresh_G {p : Addr} (R : Rel S ι F G M H) (hp : H p = none) : G p = none := by
 cases e : G p with
 | none => rfl
 | some o => rw [(R.frm p o e).1] at hp; cases hp
theorem Sub.upd {F : Hp} {p : Addr} {o : HO} (h : F p = none) : Sub F (upd F p o) := fun a u e => by
 rw [upd_ne (ne_of_none e h)]
 exact e
theorem ι_ne {i : Nat} {a p : Addr} (h : ι[i]? = some a) (hp : p ∉ ι) : a ≠ p := fun e => hp (by rw [← e]; exact List.mem_of_getElem? h)
theorem Rn.upd {H : Hp} {a p : Addr} {o u : HO} (h : Rn H a o) (hp : H p = none) : Rn (L2.upd H p u) a o := Rn.mono h fun x e => by rw [upd_ne (ne_of_none e hp)]; exact e
theorem Rel.newF {p : Addr} {o : HO} (R : Rel S ι F G M H) (hp : H p = none) : Rel S ι (upd F p o) G M (upd H p o) ∧ Sub F (upd F p o) := by
 have s := Sub.upd (o := o) (R.fresh_F hp)
 have hι := R.fresh_ι hp
 refine ⟨⟨R.len, R.nd, fun i d a h1 h2 => ?_, fun i a h => ?_, fun a u h => ?_, fun a u h => ?_⟩, s⟩
 ·obtain ⟨u, e1, e2⟩ := R.own i d a h1 h2
  exact ⟨u, by rw [upd_ne (ι_ne h2 hι)]; exact e1, e2.mono (fun _ _ z => z) s⟩
 ·obtain ⟨e1, e2⟩ := R.out i a h
  exact ⟨by rw [upd_ne (ι_ne h hι)]; exact e1, e2⟩
 ·by_cases e : a = p
  ·subst e; rw [upd_same] at h; cases h; exact .inl upd_same
  ·rw [upd_ne e] at h; exact Rn.upd (R.frz a u h) hp
 ·obtain ⟨e1, e2⟩ := R.frm a u h
  have e : a ≠ p := fun z => by rw [z, hp] at e1; cases e1
  exact ⟨by rw [upd_ne e]; exact e1, fun z => by rw [upd_ne e]; exact e2 z⟩
theorem Rel.seeF {p : Addr} {xs : List V} (R : Rel S ι F G M H) (hp : H p = some (.tup xs)) : ∃ F', F' p = some (.tup xs) ∧ Rel S ι F' G M H ∧ Sub F F' := by
 cases hF : F p with
 | some o =>
  have z := R.frz p o hF
  rcases z with z | ⟨_, od, z⟩
  ·rw [hp] at z; cases z; exact ⟨F, hF, R, .refl F⟩
  ·rw [hp] at z; cases z
 | none =>
  have s := Sub.upd (o := HO.tup xs) hF
  refine ⟨_, upd_same, ⟨R.len, R.nd, fun i d a h1 h2 => ?_, fun i a h => ?_, fun a u h => ?_, fun a u h => ?_⟩, s⟩
  ·obtain ⟨u, e1, e2⟩ := R.own i d a h1 h2
   exact ⟨u, e1, e2.mono (fun _ _ z => z) s⟩
  ·obtain ⟨e1, e2⟩ := R.out i a h
   refine ⟨?_, e2⟩
   by_cases z : a = p
   ·subst z
    obtain ⟨d, o, h1, h2, h3⟩ := R.at h
    rw [hp] at h2
    cases h2
    cases h3
   ·rw [upd_ne z]; exact e1
  ·by_cases e : a = p
   ·subst e; rw [upd_same] at h; cases h; exact .inl hp
   ·rw [upd_ne e] at h; exact R.frz a u h
  ·obtain ⟨e1, e2⟩ := R.frm a u h
   refine ⟨e1, fun z => ?_⟩
   by_cases e : a = p
   ·subst e; rw [hp] at e1; cases e1; exact False.elim z
   ·rw [upd_ne e]; exact e2 z
theorem Rel.newX {p : Addr} {o : HO} (R : Rel S ι F G M H) (hp : H p = none) : Rel S ι F G M (upd H p o) := by
 have hι := R.fresh_ι hp
 refine ⟨R.len, R.nd, fun i d a h1 h2 => ?_, R.out, fun a u h => Rn.upd (R.frz a u h) hp, fun a u h => ?_⟩
 ·obtain ⟨u, e1, e2⟩ := R.own i d a h1 h2
  exact ⟨u, by rw [upd_ne (ι_ne h2 hι)]; exact e1, e2⟩
 ·obtain ⟨e1, e2⟩ := R.frm a u h
  exact ⟨by rw [upd_ne (ne_of_none e1 hp)]; exact e1, e2⟩
theorem pre_app (ι : List Addr) (p : Addr) : ∀ (i : Nat) a, ι[i]? = some a → (ι ++ [p])[i]? = some a := fun i a h => pre_get ⟨[p], rfl⟩ h
theorem Rel.newO {p : Addr} {o : HO} {d : D} (R : Rel S ι F G M H) (hp : H p = none) (h : DenO S ι F d o) : Rel S (ι ++ [p]) F G (M ++ [d]) (upd H p o) := by
 have hι := R.fresh_ι hp
 refine ⟨by simp [R.len], ?_, fun i e a h1 h2 => ?_, fun i a h2 => ?_, fun a u h => Rn.upd (R.frz a u h) hp, fun a u h => ?_⟩
 ·rw [List.nodup_append]
  exact ⟨R.nd, by simp, fun a ha b hb => by simp at hb; subst hb; exact fun z => hι (z ▸ ha)⟩
 ·by_cases hi : i < M.length
  ·rw [List.getElem?_append_left hi] at h1
   rw [List.getElem?_append_left (by rw [R.len]; exact hi)] at h2
   obtain ⟨u, e1, e2⟩ := R.own i e a h1 h2
   exact ⟨u, by rw [upd_ne (ι_ne h2 hι)]; exact e1, e2.mono (pre_app ι p) (Sub.refl F)⟩
  ·have hi2 := (List.getElem?_eq_some_iff.mp h1).1
   have e : i = M.length := by simp at hi2; omega
   subst e
   rw [List.getElem?_append_right (Nat.le_refl _)] at h1
   rw [← R.len, List.getElem?_append_right (Nat.le_refl _)] at h2
   simp at h1 h2
   subst h1; subst h2
   exact ⟨o, upd_same, h.mono (pre_app ι p) (Sub.refl F)⟩
 ·by_cases hi : i < ι.length
  ·rw [List.getElem?_append_left hi] at h2
   exact R.out i a h2
  ·have hi2 := (List.getElem?_eq_some_iff.mp h2).1
   have e : i = ι.length := by simp at hi2; omega
   subst e
   rw [List.getElem?_append_right (Nat.le_refl _)] at h2
   simp at h2
   subst h2
   exact ⟨R.fresh_F hp, fun o z => by rw [R.fresh_G hp] at z; cases z⟩
 ·obtain ⟨e1, e2⟩ := R.frm a u h
  exact ⟨by rw [upd_ne (ne_of_none e1 hp)]; exact e1, e2⟩
theorem Rel.write {i : Nat} {a : Addr} {o u : HO} {d : D} (R : Rel S ι F G M H) (ha : ι[i]? = some a) (hu : H a = some u) (hf : ¬ isFrz u) (h : DenO S ι F d o) : Rel S ι F G (M.set i d) (upd H a o) := by
 have hi : i < ι.length := (List.getElem?_eq_some_iff.mp ha).1
 refine ⟨by simp [R.len], R.nd, fun j e b h1 h2 => ?_, R.out, fun b v h3 => ?_, fun b v h3 => ?_⟩
 ·by_cases hj : j = i
  ·subst hj
   rw [ha] at h2
   cases h2
   rw [List.getElem?_set_self (by rw [← R.len]; exact hi)] at h1
   cases h1
   exact ⟨o, upd_same, h⟩
  ·rw [List.getElem?_set_ne (Ne.symm hj)] at h1
   obtain ⟨u, e1, e2⟩ := R.own j e b h1 h2
   have hne : b ≠ a := fun z => by
    subst z
    obtain ⟨hj1, e1⟩ := List.getElem?_eq_some_iff.mp h2
    obtain ⟨hi1, e2⟩ := List.getElem?_eq_some_iff.mp ha
    exact hj ((List.getElem_inj R.nd).mp (e1.trans e2.symm))
   exact ⟨u, by rw [upd_ne hne]; exact e1, e2⟩
 ·obtain ⟨e1, _⟩ := R.out i a ha
  have hne : b ≠ a := fun z => by rw [z, e1] at h3; cases h3
  exact Rn.mono (R.frz b v h3) fun x e => by rw [upd_ne hne]; exact e
 ·obtain ⟨_, e1⟩ := R.out i a ha
  have hne : b ≠ a := fun z => by
   subst z
   have q := (R.frm b v h3).1
   rw [hu] at q
   cases q
   exact hf (e1 _ h3)
  obtain ⟨q1, q2⟩ := R.frm b v h3
  exact ⟨by rw [upd_ne hne]; exact q1, q2⟩
end
end Mn
end
section
namespace Mn
open PySem PySem.Spec PyProof.Rows L2
def Pre (ι ι' : List Addr) : Prop := ∀ (i : Nat) a, ι[i]? = some a → ι'[i]? = some a
theorem Pre.refl (ι : List Addr) : Pre ι ι := fun _ _ h => h
theorem Pre.trans {ι ι1 ι2 : List Addr} (h : Pre ι ι1) (k : Pre ι1 ι2) : Pre ι ι2 := fun i a e => k i a (h i a e)
abbrev WX3 := Value → Option Addr → Hp → Prop
def DenF (S : Sit) (ι : List Addr) (F : Hp) (fs : List (Nat × D)) (gs : List (Str × V)) : Prop := gs.length = fs.length ∧ (∀ (i : Nat) p q, fs[i]? = some p → gs[i]? = some q → q.1 = S.an p.1) ∧ ∀ (i : Nat) p q, fs[i]? = some p → gs[i]? = some q → Den S ι F p.2 q.2
def PostG {α : Type} (S : Sit) (Wx : WX3) (ι : List Addr) (F G : Hp) (k : α → List Addr → Hp → Mem → Hp → Prop) : Res α → Prop
 | .ok a M => ∀ ι' F' H', Pre ι ι' → Sub F F' → Rel S ι' F' G M H' → k a ι' F' M H'
 | .exc c fs M => ∀ ι' F' H' e gs, Pre ι ι' → Sub F F' → Rel S ι' F' G M H' → H' e = some (.xd gs) → DenF S ι' F' fs gs → Wx (.ref (S.ca c)) (some e) H'
 | .bad => False
section
variable {S : Sit} {Wx : WX3} {ι ι1 : List Addr} {F F1 G : Hp} {α β : Type} {k k' : α → List Addr → Hp → Mem → Hp → Prop}
theorem PostG.weak {r : Res α} (h : PostG S Wx ι F G k r) (p : Pre ι ι1) (e : Sub F F1) : PostG S Wx ι1 F1 G k r := by
 cases r with
 | ok a M => exact fun ι' F' H' p' e' R => h ι' F' H' (p.trans p') (e.trans e') R
 | exc c fs M => exact fun ι' F' H' x gs p' e' R => h ι' F' H' x gs (p.trans p') (e.trans e') R
 | bad => exact h
theorem PostG.imp {r : Res α} (h : PostG S Wx ι F G k r) (hk : ∀ a ι' F' M H', Pre ι ι' → Sub F F' → Rel S ι' F' G M H' → k a ι' F' M H' → k' a ι' F' M H') : PostG S Wx ι F G k' r := by
 cases r with
 | ok a M => exact fun ι' F' H' p e R => hk a ι' F' M H' p e R (h ι' F' H' p e R)
 | exc c fs M => exact h
 | bad => exact h
theorem PostG.bind {β : Type} {k : β → List Addr → Hp → Mem → Hp → Prop} {r : Res α} {f : α → Mem → Res β} (h : PostG S Wx ι F G k (r.bind f)) : PostG S Wx ι F G (fun a ι1 F1 M1 _ => PostG S Wx ι1 F1 G k (f a M1)) r := by
 cases r with
 | ok a M => exact fun ι' F' H' p e R => (show PostG S Wx ι F G k (f a M) from h).weak p e
 | exc c fs M => exact h
 | bad => exact h
abbrev kV1 (S : Sit) (Q : VK) : D → List Addr → Hp → Mem → Hp → Prop := fun d ι F _ H => ∀ v, Den S ι F d v → Q v H
def RS (S : Sit) (ι : List Addr) (F : Hp) (σ' : Sl) (σ : L2.St) : Prop := σ'.length = σ.length ∧ ∀ (i : Nat) d, σ'[i]? = some (some d) → ∃ v, σ[i]? = some (some v) ∧ Den S ι F d v
theorem RS.mono {σ' : Sl} {σ : L2.St} (h : RS S ι F σ' σ) (p : Pre ι ι1) (e : Sub F F1) : RS S ι1 F1 σ' σ := ⟨h.1, fun i d q => let ⟨v, a, b⟩ := h.2 i d q; ⟨v, a, b.mono p e⟩⟩
theorem RS.set {σ' : Sl} {σ : L2.St} {i : Nat} {d : D} {v : V} (h : RS S ι F σ' σ) (hd : Den S ι F d v) : RS S ι F (σ'.set i (some d)) (σ.set i (some v)) := by
 refine ⟨by simp [h.1], fun j e q => ?_⟩
 by_cases hj : i = j
 ·subst hj
  have hl : i < σ'.length := by
   have := (List.getElem?_eq_some_iff.mp q).1
   simpa using this
  rw [List.getElem?_set_self hl] at q
  cases q
  exact ⟨v, by rw [List.getElem?_set_self (by rw [← h.1]; exact hl)], hd⟩
 ·rw [List.getElem?_set_ne hj] at q
  obtain ⟨w, a, b⟩ := h.2 j e q
  exact ⟨w, by rw [List.getElem?_set_ne hj]; exact a, b⟩
theorem RS.none {σ' : Sl} {σ : L2.St} {i : Nat} {z : Option V} (h : RS S ι F σ' σ) : RS S ι F (σ'.set i none) (σ.set i z) := by
 refine ⟨by simp [h.1], fun j e q => ?_⟩
 by_cases hj : i = j
 ·subst hj
  by_cases hl : i < σ'.length
  ·rw [List.getElem?_set_self hl] at q; cases q
  ·rw [List.getElem?_eq_none (by simpa using hl)] at q; cases q
 ·rw [List.getElem?_set_ne hj] at q
  obtain ⟨w, a, b⟩ := h.2 j e q
  exact ⟨w, by rw [List.getElem?_set_ne hj]; exact a, b⟩
end
def LE (S : Sit) (W : L2.WX) (f : Sl → Mem → Res D) : TE := fun σ H Q => ∃ ι F G σ' M, Rel S ι F G M H ∧ RS S ι F σ' σ ∧ PostG S (fun c e H => W c e σ H) ι F G (kV1 S Q) (f σ' M)
def LT (S : Sit) (W : L2.WX) (f : Sl → Mem → Res Bool) : TT := fun σ H Q => ∃ ι F G σ' M, Rel S ι F G M H ∧ RS S ι F σ' σ ∧ PostG S (fun c e H => W c e σ H) ι F G (fun b _ _ _ H => Q b H) (f σ' M)
def LA (S : Sit) (W : L2.WX) (f : Sl → Mem → Res (List D)) : TA := fun σ H Q => ∃ ι F G σ' M, Rel S ι F G M H ∧ RS S ι F σ' σ ∧ PostG S (fun c e H => W c e σ H) ι F G (fun ds ι F _ H => ∀ vs, DenL S ι F ds vs → Q vs H) (f σ' M)
def RO (S : Sit) (g : D → D → Mem → Res D) : R2 := fun x y H Q => ∃ ι F G M Wx a b, Rel S ι F G M H ∧ Den S ι F a x ∧ Den S ι F b y ∧ PostG S Wx ι F G (kV1 S Q) (g a b M)
def RU1 (S : Sit) (g : D → Mem → Res D) : V → Hp → VK → Prop := fun x H Q => ∃ ι F G M Wx a, Rel S ι F G M H ∧ Den S ι F a x ∧ PostG S Wx ι F G (kV1 S Q) (g a M)
def RL (S : Sit) (g : List D → Mem → Res D) : List V → Hp → VK → Prop := fun xs H Q => ∃ ι F G M Wx as, Rel S ι F G M H ∧ DenL S ι F as xs ∧ PostG S Wx ι F G (kV1 S Q) (g as M)
theorem _root_.L2.PE.to {X : Cx} {e : Expr} {t t' : TE} (h : PE X e t) (i : ∀ σ H Q, t' σ H Q → t σ H Q) : PE X e t' := ⟨fun pins s σ H Q I q => h.run pins s σ H Q I (i σ H Q q)⟩
theorem _root_.L2.PT.to {X : Cx} {e : Expr} {t t' : TT} (h : PT X e t) (i : ∀ σ H Q, t' σ H Q → t σ H Q) : PT X e t' := ⟨fun pins s σ H Q I q => h.run pins s σ H Q I (i σ H Q q)⟩
theorem _root_.L2.PW.to {X : Cx} {e : Expr} {t t' : TT} (h : PW X e t) (i : ∀ σ H Q, t' σ H Q → t σ H Q) : PW X e t' := ⟨fun wh pins s σ H Q I q => h.run wh pins s σ H Q I (i σ H Q q)⟩
theorem _root_.L2.PA.to {X : Cx} {es : List Expr} {t t' : TA} (h : PA X es t) (i : ∀ σ H Q, t' σ H Q → t σ H Q) : PA X es t' := ⟨fun pos pins s σ H Q I q => h.run pos pins s σ H Q I (i σ H Q q)⟩
section
variable {S : Sit} {W : L2.WX}
theorem le_two {fa fb : Sl → Mem → Res D} {g : D → D → Mem → Res D} {σ : L2.St} {H : Hp} {Q : VK} (h : LE S W (fun σ M => (fa σ M).bind fun x M1 => (fb σ M1).bind fun y M2 => g x y M2) σ H Q) : tOp (RO S g) (LE S W fa) (LE S W fb) σ H Q := by
 obtain ⟨ι, F, G, σ', M, R, rs, p⟩ := h
 refine ⟨ι, F, G, σ', M, R, rs, p.bind.imp fun a ι1 F1 M1 H1 p1 s1 R1 q x dx => ?_⟩
 refine ⟨ι1, F1, G, σ', M1, R1, rs.mono p1 s1, q.bind.imp fun b ι2 F2 M2 H2 p2 s2 R2 q2 y dy => ?_⟩
 exact ⟨ι2, F2, G, M2, _, a, b, R2, dx.mono p2 s2, dy, q2⟩
theorem le_list {fa : Sl → Mem → Res (List D)} {g : List D → Mem → Res D} {σ : L2.St} {H : Hp} {Q : VK} (h : LE S W (fun σ M => (fa σ M).bind fun x M1 => g x M1) σ H Q) : LA S W fa σ H fun vs H1 => RL S g vs H1 Q := by
 obtain ⟨ι, F, G, σ', M, R, rs, p⟩ := h
 refine ⟨ι, F, G, σ', M, R, rs, p.bind.imp fun a ι1 F1 M1 H1 p1 s1 R1 q x dx => ?_⟩
 exact ⟨ι1, F1, G, M1, _, a, R1, dx, q⟩
theorem PostG.of {α : Type} {Wx : WX3} {ι : List Addr} {F G : Hp} {M : Mem} {k : α → List Addr → Hp → Mem → Hp → Prop} {o : Option α} (h : PostG S Wx ι F G k (.of o M)) : ∃ a, o = some a ∧ ∀ ι' F' H', Pre ι ι' → Sub F F' → Rel S ι' F' G M H' → k a ι' F' M H' := by
 cases o with
 | none => exact False.elim h
 | some a => exact ⟨a, rfl, h⟩
theorem le_var {i : Nat} {σ : L2.St} {H : Hp} {Q : VK} (h : LE S W (fun σ M => .of σ[i]?.join M) σ H Q) : tVar i σ H Q := by
 obtain ⟨ι, F, G, σ', M, R, rs, p⟩ := h
 obtain ⟨d, e, p⟩ := PostG.of p
 have e' : σ'[i]? = some (some d) := by
  cases h : σ'[i]? with
  | none => rw [h] at e; cases e
  | some z => rw [h] at e; cases z with
   | none => cases e
   | some y => cases e; rfl
 obtain ⟨v, e1, dv⟩ := rs.2 i d e'
 exact ⟨v, e1, p ι F H (.refl _) (.refl _) R v dv⟩
theorem le_lit {d : D} {v : V} {σ : L2.St} {H : Hp} {Q : VK} (hd : ∀ ι F, Den S ι F d v) (h : LE S W (fun _ M => .ok d M) σ H Q) : tC v σ H Q := by
 obtain ⟨ι, F, G, σ', M, R, rs, p⟩ := h
 exact p ι F H (.refl _) (.refl _) R v (hd ι F)
end
inductive DV (S : Sit) (ι : List Addr) (F H : Hp) : D → V → Prop
 | non : DV S ι F H .non .non
 | bl (b : Bool) : DV S ι F H (.bl b) (.bl b)
 | int (i : Int) : DV S ι F H (.int i) (.int i)
 | str (x : Str) : strOk x = true → DV S ι F H (.str x) (.str x)
 | ty (n : String) : DV S ι F H (.ty n) (.ty n)
 | cls (c : Nat) : (S.T.cl c).isSome = true → DV S ι F H (.cls c) (.ref (S.ca c))
 | tup {a : Addr} {xs : List V} {ds : List D} : Rd H a (.tup xs) → DenL S ι F ds xs → DV S ι F H (.tup ds) (.ref a)
 | scr {a : Addr} {ns : List Int} : SqL S.K H a (ns.map V.int) → DV S ι F H (.scr ns) (.ref a)
 | lst {a : Addr} {xs : List V} {ds : List D} : H a = some (.lst xs) → DenL S ι F ds xs → DV S ι F H (.lst ds) (.ref a)
 | dctK {a : Addr} {kvs : List (L2.Key × V)} {ps : List (D × D)} : Rn H a (.dK kvs) → kvs.length = ps.length → (∀ (i : Nat) p q, ps[i]? = some p → kvs[i]? = some q → p.1 = keyD q.1 ∧ kOk q.1) → (∀ (i : Nat) p q, ps[i]? = some p → kvs[i]? = some q → Den S ι F p.2 q.2) → DV S ι F H (.dct ps) (.ref a)
 | dctT {a : Addr} {kvs : List (List L2.Key × V)} {ps : List (D × D)} : Rn H a (.dT kvs) → kvs.length = ps.length → (∀ (i : Nat) p q, ps[i]? = some p → kvs[i]? = some q → p.1 = .tup (q.1.map keyD) ∧ ∀ k ∈ q.1, kOk k) → (∀ (i : Nat) p q, ps[i]? = some p → kvs[i]? = some q → Den S ι F p.2 q.2) → DV S ι F H (.dct ps) (.ref a)
 | ins {a dx : Addr} {c : Nat} {gs : List (Str × V)} {fs : List (Nat × D)} : H a = some (.ins (S.ca c) dx gs) → InsOk S c fs → DenF S ι F fs gs → DV S ι F H (.ins c fs) (.ref a)
theorem Den.dv {S : Sit} {ι : List Addr} {F G : Hp} {M : Mem} {H : Hp} {d : D} {v : V} (h : Den S ι F d v) (R : Rel S ι F G M H) : DV S ι F H (der M d) v := by
 cases h with
 | non => exact .non
 | bl b => exact .bl b
 | int i => exact .int i
 | str x h => exact .str x h
 | ty n => exact .ty n
 | cls c h => exact .cls c h
 | tup h1 h2 h3 => exact .tup (.inl (SubH.tup R.frz h1)) ⟨h2, h3⟩
 | row h1 h0 h2 h3 => exact .tup (.inr ⟨_, SubH.fz R.frz h1⟩) ⟨h2, h3⟩
 | scr h => exact .scr (sqL_subH R.frz h)
 | lst h1 h2 h3 => exact .lst (SubH.lst R.frz h1) ⟨h2, h3⟩
 | dctK h1 h2 h3 h4 => exact .dctK (R.frz _ _ h1) h2 h3 h4
 | dctT h1 h2 h3 h4 => exact .dctT (R.frz _ _ h1) h2 h3 h4
 | ins h1 h0 h2 h3 h4 => exact .ins (SubH.ins R.frz h1) h0 ⟨h2, h3, h4⟩
 | @ref i a h =>
  obtain ⟨d, o, e1, e2, e3⟩ := R.at h
  cases e3 with
  | lst h => simp only [der, e1]; exact .lst e2 h
  | dctK h1 h2 h3 => simp only [der, e1]; exact .dctK (.inl e2) h1 h2 h3
  | dctT h1 h2 h3 => simp only [der, e1]; exact .dctT (.inl e2) h1 h2 h3
  | ins h0 h1 h2 h3 => simp only [der, e1]; exact .ins e2 h0 ⟨h1, h2, h3⟩
  | lck hf h =>
   simp only [der, e1]
   cases h with
   | dctK h1 h2 h3 => exact .dctK (.inr ⟨hf, _, e2⟩) h1 h2 h3
   | dctT h1 h2 h3 => exact .dctT (.inr ⟨hf, _, e2⟩) h1 h2 h3
mutual
theorem Den.dp {S : Sit} {ι : List Addr} {F H : Hp} (s : SubH F H) : ∀ (n : Nat) (d : D) (v : V), shp n d = true → Den S ι F d v → Dp S.K H v (toP d) ∧ (toP d).canLay0 = true ∧ (toP d).depth ≤ n
 | n, .non, v, _, h => by cases h; exact ⟨.non, by simp [toP, PyData.canLay0], by simp [toP, PyData.depth]⟩
 | n, .bl b, v, _, h => by cases h; exact ⟨.bl b, by simp [toP, PyData.canLay0], by simp [toP, PyData.depth]⟩
 | n, .int i, v, _, h => by cases h; exact ⟨.int i, by simp [toP, PyData.canLay0], by simp [toP, PyData.depth]⟩
 | n, .str x, v, _, h => by cases h with | str _ h => exact ⟨.str x, by simpa [toP, PyData.canLay0, strOk] using h, by simp [toP, PyData.depth]⟩
 | 0, .tup ds, v, k, h => by simp [shp] at k
 | n + 1, .tup ds, v, k, h => by
  cases h with
  | tup h1 h2 h3 =>
   have := Den.dps s n ds _ (by simpa [shp] using k) ⟨h2, h3⟩
   exact ⟨.tup (.inl (.inl (s.tup h1))) this.1, by simpa [toP, PyData.canLay0] using this.2.1, by simp only [toP, PyData.depth]; omega⟩
 | 0, .row ds, v, k, h => by simp [shp] at k
 | n + 1, .row ds, v, k, h => by
  cases h with
  | row h1 h0 h2 h3 =>
   have := Den.dps s n ds _ (by simpa [shp] using k) ⟨h2, h3⟩
   exact ⟨.tup (.inl (.inr ⟨_, s.fz h1⟩)) this.1, by simpa [toP, PyData.canLay0] using this.2.1, by simp only [toP, PyData.depth]; omega⟩
 | 0, .lst ds, v, k, h => by simp [shp] at k
 | n + 1, .lst ds, v, k, h => by
  cases h with
  | lst h1 h2 h3 =>
   have := Den.dps s n ds _ (by simpa [shp] using k) ⟨h2, h3⟩
   exact ⟨.lst (.inl (.inl (s.lst h1))) this.1, by simpa [toP, PyData.canLay0] using this.2.1, by simp only [toP, PyData.depth]; omega⟩
 | _, .ty _, _, k, _ => by simp [shp] at k
 | _, .dct _, _, k, _ => by simp [shp] at k
 | _, .ins _ _, _, k, _ => by simp [shp] at k
 | _, .cls _, _, k, _ => by simp [shp] at k
 | _, .ref _, _, k, _ => by simp [shp] at k
 | _, .scr _, _, k, _ => by simp [shp] at k
theorem Den.dps {S : Sit} {ι : List Addr} {F H : Hp} (s : SubH F H) : ∀ (n : Nat) (ds : List D) (xs : List V), shps n ds = true → DenL S ι F ds xs → DpAll S.K H xs (toPs ds) ∧ PyData.canLayAll0 (toPs ds) = true ∧ PyData.depthAll (toPs ds) ≤ n
 | n, [], xs, _, h => by rw [h.inv0]; exact ⟨.nil, by simp [toPs, PyData.canLayAll0], by simp [toPs, PyData.depthAll]⟩
 | n, d :: ds, xs, k, h => by
  obtain ⟨x, r, rfl, h1, h2⟩ := h.inv
  simp only [shps, Bool.and_eq_true] at k
  have a := Den.dp s n d x k.1 h1
  have b := Den.dps s n ds r k.2 h2
  refine ⟨.cons a.1 b.1, ?_, ?_⟩
  ·simp only [toPs, PyData.canLayAll0, Bool.and_eq_true]; exact ⟨a.2.1, b.2.1⟩
  ·simp only [toPs, PyData.depthAll]; omega
end
theorem DV.dp {S : Sit} {ι : List Addr} {F H : Hp} (s : SubH F H) {n : Nat} {d : D} {v : V} (k : shp n d = true) (h : DV S ι F H d v) : Dp S.K H v (toP d) ∧ (toP d).canLay0 = true ∧ (toP d).depth ≤ n := by
 cases h with
 | non => exact Den.dp (ι := ι) s n _ _ k .non
 | bl b => exact Den.dp (ι := ι) s n _ _ k (.bl b)
 | int i => exact Den.dp (ι := ι) s n _ _ k (.int i)
 | str x h => exact Den.dp (ι := ι) s n _ _ k (.str x h)
 | ty _ => simp [shp] at k
 | scr _ => simp [shp] at k
 | cls _ _ => simp [shp] at k
 | dctK _ _ _ _ => simp [shp] at k
 | dctT _ _ _ _ => simp [shp] at k
 | ins _ _ _ => simp [shp] at k
 | tup h1 h2 =>
  cases n with
  | zero => simp [shp] at k
  | succ n =>
   have := Den.dps s n _ _ (by simpa [shp] using k) h2
   exact ⟨.tup (.inl h1) this.1, by simpa [toP, PyData.canLay0] using this.2.1, by simp only [toP, PyData.depth]; omega⟩
 | lst h1 h2 =>
  cases n with
  | zero => simp [shp] at k
  | succ n =>
   have := Den.dps s n _ _ (by simpa [shp] using k) h2
   exact ⟨.lst (.inl (.inl h1)) this.1, by simpa [toP, PyData.canLay0] using this.2.1, by simp only [toP, PyData.depth]; omega⟩
mutual
theorem eqv_eq : ∀ (n m : Nat) (a b : D), shp n a = true → shp m b = true → PyData.eqv (toP a) (toP b) = eqv a b
 | n, m, .non, b, h, k => by cases b <;> simp_all [shp, toP, eqv, PyData.eqv]
 | n, m, .bl _, b, h, k => by cases b <;> simp_all [shp, toP, eqv, PyData.eqv]
 | n, m, .int _, b, h, k => by cases b <;> simp_all [shp, toP, eqv, PyData.eqv]
 | n, m, .str x, b, h, k => by
  cases b <;> simp_all [shp, toP, eqv, PyData.eqv]
  case str y => by_cases e : x = y <;> simp [e]
 | 0, m, .tup _, b, h, k => by simp [shp] at h
 | n + 1, m, .tup xs, b, h, k => by
  cases b with
  | tup ys =>
   cases m with
   | zero => simp [shp] at k
   | succ m => simpa [toP, eqv, PyData.eqv] using eqvs_eq n m xs ys (by simpa [shp] using h) (by simpa [shp] using k)
  | row ys =>
   cases m with
   | zero => simp [shp] at k
   | succ m => simpa [toP, eqv, PyData.eqv] using eqvs_eq n m xs ys (by simpa [shp] using h) (by simpa [shp] using k)
  | _ => simp_all [shp, toP, eqv, PyData.eqv]
 | 0, m, .row _, b, h, k => by simp [shp] at h
 | n + 1, m, .row xs, b, h, k => by
  cases b with
  | tup ys =>
   cases m with
   | zero => simp [shp] at k
   | succ m => simpa [toP, eqv, PyData.eqv] using eqvs_eq n m xs ys (by simpa [shp] using h) (by simpa [shp] using k)
  | row ys =>
   cases m with
   | zero => simp [shp] at k
   | succ m => simpa [toP, eqv, PyData.eqv] using eqvs_eq n m xs ys (by simpa [shp] using h) (by simpa [shp] using k)
  | _ => simp_all [shp, toP, eqv, PyData.eqv]
 | 0, m, .lst _, b, h, k => by simp [shp] at h
 | n + 1, m, .lst xs, b, h, k => by
  cases b with
  | lst ys =>
   cases m with
   | zero => simp [shp] at k
   | succ m => simpa [toP, eqv, PyData.eqv] using eqvs_eq n m xs ys (by simpa [shp] using h) (by simpa [shp] using k)
  | _ => simp_all [shp, toP, eqv, PyData.eqv]
 | _, _, .ty _, _, h, _ => by simp [shp] at h
 | _, _, .dct _, _, h, _ => by simp [shp] at h
 | _, _, .ins _ _, _, h, _ => by simp [shp] at h
 | _, _, .cls _, _, h, _ => by simp [shp] at h
 | _, _, .ref _, _, h, _ => by simp [shp] at h
 | _, _, .scr _, _, h, _ => by simp [shp] at h
theorem eqvs_eq : ∀ (n m : Nat) (xs ys : List D), shps n xs = true → shps m ys = true → PyData.eqvAll (toPs xs) (toPs ys) = eqvs xs ys
 | n, m, [], ys, h, k => by cases ys <;> simp_all [toPs, eqvs, PyData.eqvAll]
 | n, m, x :: xs, [], h, k => by simp_all [toPs, eqvs, PyData.eqvAll]
 | n, m, x :: xs, y :: ys, h, k => by
  simp only [shps, Bool.and_eq_true] at h k
  simp only [toPs, eqvs, PyData.eqvAll, eqv_eq n m x y h.1 k.1, eqvs_eq n m xs ys h.2 k.2]
end
end Mn
end
section
namespace Mn
open PySem PySem.Spec PyProof.Rows L2
section
variable {S : Sit} {Wx : WX3} {ι : List Addr} {F G : Hp} {M : Mem} {H : Hp} {Q : VK}
abbrev Fin1 (S : Sit) (ι : List Addr) (F G : Hp) (M : Mem) (Q : VK) (d : D) : Prop := ∀ ι' F' H', Pre ι ι' → Sub F F' → Rel S ι' F' G M H' → kV1 S Q d ι' F' M H'
theorem Fin1.val {d : D} {v : V} (p : Fin1 S ι F G M Q d) (R : Rel S ι F G M H) (h : Den S ι F d v) : Q v H := p ι F H (.refl _) (.refl _) R v h
theorem Fin1.bl {b : Bool} (p : Fin1 S ι F G M Q (.bl b)) (R : Rel S ι F G M H) : Q (.bl b) H := p.val R (.bl b)
theorem Fin1.int {b : Int} (p : Fin1 S ι F G M Q (.int b)) (R : Rel S ι F G M H) : Q (.int b) H := p.val R (.int b)
theorem Fin1.tup {ds : List D} {xs : List V} {q : Addr} (p : Fin1 S ι F G M Q (.tup ds)) (R : Rel S ι F G M H) (h : DenL S ι F ds xs) (hq : H q = none) : Q (.ref q) (upd H q (.tup xs)) := by
 obtain ⟨R', s⟩ := R.newF (o := .tup xs) hq
 have h' := h.mono (Pre.refl ι) s
 exact p ι _ _ (.refl _) s R' _ (.tup upd_same h'.1 h'.2)
theorem Fin1.lst {ds : List D} {xs : List V} {q : Addr} (p : Fin1 S ι F G M Q (.lst ds)) (R : Rel S ι F G M H) (h : DenL S ι F ds xs) (hq : H q = none) : Q (.ref q) (upd H q (.lst xs)) := by
 obtain ⟨R', s⟩ := R.newF (o := .lst xs) hq
 have h' := h.mono (Pre.refl ι) s
 exact p ι _ _ (.refl _) s R' _ (.lst upd_same h'.1 h'.2)
end
theorem strOk_app {x y : Str} (hx : strOk x = true) (hy : strOk y = true) : strOk (x ++ y) = true := by
 unfold strOk PyData.strOk at *
 show (x.cps ++ y.cps).all _ = true
 rw [Array.all_append, hx, hy]
 rfl
theorem big_le {n : Nat} (h : n ≤ big) : n ≤ sizeLine := Nat.le_trans h (by rw [sizeLine_eq]; decide)
section
variable {X : Cx} {S : Sit}
theorem lst_add {pins : List (Addr × Obj)} {σ : L2.St} {H : Hp} {s : Shared} {a b : Addr} {xs ys : List V} {Q : Value → Shared → Prop} {E : Value → Shared → Prop} (I : Inv X pins σ H s) (ha : H a = some (.lst xs)) (hb : H b = some (.lst ys)) (hz : xs.length + ys.length ≤ sizeLine)
  (q : ∀ p s', H p = none → Inv X pins σ (upd H p (.lst (xs ++ ys))) s' → Q (.ref p) s') : wpAny (model X.prog X.w) X.A (binaryOp .Add (.ref a) (.ref b)) Q E s := by
 obtain ⟨z, its, n, r, hl, e⟩ := I.lstM ha
 obtain ⟨z2, its2, n2, r2, hl2, e2⟩ := I.lstM hb
 refine PySem.P.add_list e e2 ?_ (by rw [List.size_toArray, List.size_toArray]; omega)
 have ea : its.toArray ++ its2.toArray = (its ++ its2).toArray := by simp
 rw [ea]
 exact q _ _ I.fresh (I.lnew (t' := s.toks) (r.append r2) (by rw [List.length_append]; omega))
theorem ro_bin0 (hK : X.K = S.K) (op : Operator) : OpR X (binaryOp op) (RO S fun a b M => .of (bin op (der M a) (der M b)) M) := by
 intro pins s σ H x y v u Q I rx ry h
 obtain ⟨ι, F, G, M, Wx, a, b, R, da, db, p⟩ := h
 obtain ⟨d, e, p⟩ := PostG.of p
 have va := da.dv R
 have vb := db.dv R
 revert e va vb
 generalize der M a = a'
 generalize der M b = b'
 intro e va vb
 unfold bin at e
 split at e
 ·cases e; cases va; cases vb
  exact op_add pins s σ H _ _ v u Q I rx ry ⟨_, _, rfl, rfl, Fin1.int p R⟩
 ·split at e
  ·rename_i hl
   cases e
   cases va with | str _ h1 =>
   cases vb with | str _ h2 =>
   exact op_add_str pins s σ H _ _ v u Q I rx ry ⟨_, _, rfl, rfl, big_le hl, Fin1.val p R (.str _ (strOk_app h1 h2))⟩
  ·cases e
 ·split at e
  ·rename_i xs ys hl
   cases e
   cases va with | @lst a1 ws1 _ h1 k1 =>
   cases vb with | @lst a2 ws2 _ h2 k2 =>
   have hl' : ws1.length + ws2.length ≤ sizeLine := by rw [k1.1, k2.1]; exact big_le hl
   cases rx
   cases ry
   exact lst_add I h1 h2 hl' fun q s' hq I' => ⟨.ref q, _, I', rfl, Fin1.lst p R (k1.app k2) hq⟩
  ·cases e
 ·cases e; cases va; cases vb
  exact op_sub pins s σ H _ _ v u Q I rx ry ⟨_, _, rfl, rfl, Fin1.int p R⟩
 ·split at e
  ·rename_i hs
   cases e; cases va; cases vb
   refine op_mul pins s σ H _ _ v u Q I rx ry ⟨_, _, rfl, rfl, ?_, Fin1.int p R⟩
   rw [Bool.or_eq_true] at hs
   exact hs.elim (fun z => .inl (of_decide_eq_true z)) fun z => .inr (of_decide_eq_true z)
  ·cases e
 ·split at e
  ·rename_i hs
   cases e; cases va; cases vb
   exact op_fdiv pins s σ H _ _ v u Q I rx ry ⟨_, _, rfl, rfl, hs, Fin1.int p R⟩
  ·cases e
 ·split at e
  ·rename_i hs
   cases e; cases va; cases vb
   exact op_mod pins s σ H _ _ v u Q I rx ry ⟨_, _, rfl, rfl, hs, Fin1.int p R⟩
  ·cases e
 ·split at e
  ·rename_i hs
   cases e; cases va; cases vb
   exact op_pow pins s σ H _ _ v u Q I rx ry ⟨_, _, rfl, rfl, hs, Fin1.int p R⟩
  ·cases e
 ·cases e
theorem ro_bin (hK : X.K = S.K) (op : Operator) : OpR X (binaryOp op) (RO S fun a b M => .of (binR op a b (der M a) (der M b)) M) := by
 intro pins s σ H x y v u Q I rx ry h
 obtain ⟨ι, F, G, M, Wx, a, b, R, da, db, p⟩ := h
 by_cases z : ∃ xs ys, op = .Add ∧ der M a = .tup xs ∧ der M b = .tup ys
 ·obtain ⟨xs, ys, rfl, ea, eb⟩ := z
  have va := da.dv R
  have vb := db.dv R
  rw [ea] at va
  rw [eb] at vb
  replace p : PostG S Wx ι F G (kV1 S Q) (.of (binR .Add a b (der M a) (der M b)) M) := p
  rw [ea, eb] at p
  cases va with | @tup a1 ws1 _ h1 k1 =>
  cases vb with | @tup a2 ws2 _ h2 k2 =>
  replace p : PostG S Wx ι F G (kV1 S Q) (.of (if xs.length + ys.length ≤ big then some (if xs.isEmpty then b else if ys.isEmpty then a else .tup (xs ++ ys)) else none) M) := p
  split at p
  case isFalse => exact False.elim p
  rename_i hl
  have hl' : ws1.length + ws2.length ≤ sizeLine := by rw [k1.1, k2.1]; exact big_le hl
  refine op_catA pins s σ H _ _ v u Q I rx ry ⟨_, _, _, _, rfl, rfl, .inl h1, .inl h2, hl', fun z => ?_, fun z z2 => ?_, fun z z2 q hq => ?_⟩
  ·subst z
   have e1 : xs = [] := by have := k1.1; simpa using this.symm
   subst e1
   exact Fin1.val p R db
  ·subst z2
   have e1 : ys = [] := by have := k2.1; simpa using this.symm
   have e2 : xs ≠ [] := fun e => z (by have := k1.1; rw [e] at this; simpa using this)
   subst e1
   rw [show xs.isEmpty = false by cases xs <;> simp_all] at p
   exact Fin1.val p R da
  ·have e1 : ys ≠ [] := fun e => z2 (by have := k2.1; rw [e] at this; simpa using this)
   have e2 : xs ≠ [] := fun e => z (by have := k1.1; rw [e] at this; simpa using this)
   rw [show xs.isEmpty = false by cases xs <;> simp_all, show ys.isEmpty = false by cases ys <;> simp_all] at p
   exact Fin1.tup p R (k1.app k2) hq
 ·refine ro_bin0 hK op pins s σ H x y v u Q I rx ry ⟨ι, F, G, M, Wx, a, b, R, da, db, ?_⟩
  have e : binR op a b (der M a) (der M b) = bin op (der M a) (der M b) := by
   unfold binR
   split
   ·rename_i h1 h2
    exact absurd ⟨_, _, rfl, h1, h2⟩ z
   ·rfl
  replace p : PostG S Wx ι F G (kV1 S Q) (.of (binR op a b (der M a) (der M b)) M) := p
  rw [e] at p
  exact p
theorem flat_key {ι : List Addr} {F : Hp} {d : D} {v : V} (h : Den S ι F d v) (k : flat d = true) : ∃ q : L2.Key, d = keyD q ∧ v = kV q ∧ kOk q := by
 cases h with
 | int i => exact ⟨.inl i, rfl, rfl, trivial⟩
 | str x h => exact ⟨.inr x, rfl, rfl, h⟩
 | _ => simp [flat] at k
theorem flats_key {ι : List Addr} {F : Hp} : ∀ {ds : List D} {xs : List V}, DenL S ι F ds xs → ds.all flat = true → ∃ ks : List L2.Key, ds = ks.map keyD ∧ xs = ks.map kV ∧ ∀ k ∈ ks, kOk k
 | [], xs, h, _ => ⟨[], rfl, h.inv0, fun _ z => nomatch z⟩
 | d :: ds, xs, h, k => by
  obtain ⟨x, r, rfl, h1, h2⟩ := h.inv
  simp only [List.all_cons, Bool.and_eq_true] at k
  obtain ⟨q, e1, e2, e3⟩ := flat_key h1 k.1
  obtain ⟨ks, f1, f2, f3⟩ := flats_key h2 k.2
  exact ⟨q :: ks, by rw [e1, f1]; rfl, by rw [e2, f2]; rfl, fun z hz => by
   rcases List.mem_cons.mp hz with e | e
   ·rw [e]; exact e3
   ·exact f3 z e⟩
theorem keyD_eqv (a b : L2.Key) : eqv (keyD a) (keyD b) = decide (a = b) := by
 cases a with
 | inl i => cases b with
  | inl j => by_cases e : i = j <;> simp [keyD, eqv, e]
  | inr y => simp [keyD, eqv]
 | inr x => cases b with
  | inl j => simp [keyD, eqv]
  | inr y => by_cases e : x = y <;> simp [keyD, eqv, e]
theorem keysD_eqv : ∀ (a b : List L2.Key), eqvs (a.map keyD) (b.map keyD) = decide (a = b)
 | [], [] => rfl
 | [], _ :: _ => rfl
 | _ :: _, [] => rfl
 | x :: a, y :: b => by
  show (eqv (keyD x) (keyD y) && eqvs (a.map keyD) (b.map keyD)) = _
  rw [keyD_eqv, keysD_eqv a b]
  by_cases e : x = y <;> by_cases f : a = b <;> simp [e, f]
def Rows (S : Sit) (ι : List Addr) (F : Hp) {κ : Type} (kd : κ → D) (ok : κ → Prop) (ps : List (D × D)) (kvs : List (κ × V)) : Prop :=
 kvs.length = ps.length ∧ (∀ (i : Nat) p q, ps[i]? = some p → kvs[i]? = some q → p.1 = kd q.1 ∧ ok q.1) ∧ ∀ (i : Nat) p q, ps[i]? = some p → kvs[i]? = some q → Den S ι F p.2 q.2
section
variable {ι : List Addr} {F : Hp} {κ : Type} [DecidableEq κ] {kd : κ → D} {ok : κ → Prop}
theorem Rows.nil : Rows S ι F kd ok [] [] := ⟨rfl, fun i p q h => by simp at h, fun i p q h => by simp at h⟩
theorem Rows.inv0 {kvs : List (κ × V)} (h : Rows S ι F kd ok [] kvs) : kvs = [] := by
 have := h.1
 simpa using this
theorem Rows.inv {p : D × D} {ps : List (D × D)} {kvs : List (κ × V)} (h : Rows S ι F kd ok (p :: ps) kvs) : ∃ k v r, kvs = (k, v) :: r ∧ p.1 = kd k ∧ ok k ∧ Den S ι F p.2 v ∧ Rows S ι F kd ok ps r := by
 cases kvs with
 | nil => have := h.1; simp at this
 | cons q r =>
  obtain ⟨k, v⟩ := q
  obtain ⟨h1, h2, h3⟩ := h
  have a := h2 0 p (k, v) rfl rfl
  exact ⟨k, v, r, rfl, a.1, a.2, h3 0 p (k, v) rfl rfl, by simpa using h1, fun i p' q' e1 e2 => h2 (i + 1) p' q' (by simpa using e1) (by simpa using e2), fun i p' q' e1 e2 => h3 (i + 1) p' q' (by simpa using e1) (by simpa using e2)⟩
theorem Rows.cons {d e : D} {k : κ} {v : V} {ps : List (D × D)} {kvs : List (κ × V)} (h1 : d = kd k) (h2 : ok k) (h3 : Den S ι F e v) (h : Rows S ι F kd ok ps kvs) : Rows S ι F kd ok ((d, e) :: ps) ((k, v) :: kvs) := by
 refine ⟨by simp [h.1], fun i p q e1 e2 => ?_, fun i p q e1 e2 => ?_⟩
 ·cases i with
  | zero => simp at e1 e2; subst e1; subst e2; exact ⟨h1, h2⟩
  | succ i => exact h.2.1 i p q (by simpa using e1) (by simpa using e2)
 ·cases i with
  | zero => simp at e1 e2; subst e1; subst e2; exact h3
  | succ i => exact h.2.2 i p q (by simpa using e1) (by simpa using e2)
theorem Rows.mono {ι' : List Addr} {F' : Hp} {ps : List (D × D)} {kvs : List (κ × V)} (h : Rows S ι F kd ok ps kvs) (p : Pre ι ι') (e : Sub F F') : Rows S ι' F' kd ok ps kvs := ⟨h.1, h.2.1, fun i x y a b => (h.2.2 i x y a b).mono p e⟩
theorem valV_cons (q v k) (r : List (κ × V)) : valV ((q, v) :: r) k = if q = k then some v else valV r k := by
 unfold valV
 rw [List.find?_cons]
 by_cases e : q = k
 ·simp [e]
 ·simp [e]
theorem Rows.get (hk : ∀ a b : κ, eqv (kd a) (kd b) = decide (a = b)) (k : κ) : ∀ {ps : List (D × D)} {kvs : List (κ × V)}, Rows S ι F kd ok ps kvs → (valV kvs k = none ∧ dget ps (kd k) = none) ∨ ∃ v d, valV kvs k = some v ∧ dget ps (kd k) = some d ∧ Den S ι F d v
 | [], kvs, h => by rw [h.inv0]; exact .inl ⟨rfl, rfl⟩
 | (d, e) :: ps, kvs, h => by
  obtain ⟨q, v, r, rfl, h1, h2, h3, h4⟩ := h.inv
  simp only at h1 h3
  rw [valV_cons]
  show _ ∨ ∃ v d', _ = _ ∧ (if eqv d (kd k) = true then some e else dget ps (kd k)) = _ ∧ _
  have e2 : dget ((d, e) :: ps) (kd k) = if eqv d (kd k) = true then some e else dget ps (kd k) := rfl
  rw [e2, h1, hk]
  by_cases z : q = k
  ·rw [if_pos z, if_pos (by simp [z])]
   exact .inr ⟨v, e, rfl, rfl, h3⟩
  ·rw [if_neg z, if_neg (by simp [z])]
   exact Rows.get hk k h4
end
end
end Mn
end
section
namespace Mn
open PySem PySem.Spec PyProof.Rows L2
section
variable {X : Cx} {S : Sit} {pins : List (Addr × Obj)} {σ : L2.St} {H : Hp} {s : Shared} {a : Addr}
theorem emp_T (I : Inv X pins σ H s) (h : H a = some (.dK [])) : Inv X pins σ (upd H a (.dT [])) s := by
 obtain ⟨z, y, vs, r, o, es, ep, e, ex, dt, ko, pr, nd⟩ := (show ObjOk X.prog X.w H s.heap a (.dK []) from I.hok a _ h)
 cases r
 have e0 : es.toList = [] := by
  cases hh : es.toList with
  | nil => rfl
  | cons x r => rw [hh] at pr; cases pr
 exact I.write (h' := s.heap) (t' := s.toks) (x := a) (e := a) (by rw [h]; trivial) (.inl rfl) (fun b u _ q => q) ⟨o, e⟩ ⟨Nat.zero_le _, y, [], .nil, o, es, ep, e, ex, dt, e0, .nil⟩
theorem emp_K (I : Inv X pins σ H s) (h : H a = some (.dT [])) : Inv X pins σ (upd H a (.dK [])) s := by
 obtain ⟨z, y, xs, r, o, es, ep, e, ex, dt, e0, nd⟩ := (show ObjOk X.prog X.w H s.heap a (.dT []) from I.hok a _ h)
 cases r
 have e0 : es.toList = [] := e0
 refine I.write (h' := s.heap) (t' := s.toks) (x := a) (e := a) (by rw [h]; trivial) (.inl rfl) (fun b u _ q => q) ⟨o, e⟩ ⟨Nat.zero_le _, y, [], .nil, o, es, ep, e, ex, dt, ?_, ?_, .nil⟩
 ·have : es = #[] := by
   apply Array.ext'
   simpa using e0
  subst this
  exact fun e he => by simp at he
 ·rw [e0]; exact .nil
end
section
variable {X : Cx} {S : Sit} {pins : List (Addr × Obj)} {σ : L2.St} {H : Hp} {s : Shared} {ι : List Addr} {F : Hp} {κ : Type} [DecidableEq κ] {kd : κ → D} {ok : κ → Prop}
theorem Rows.any (hk : ∀ a b : κ, eqv (kd a) (kd b) = decide (a = b)) (k : κ) : ∀ {ps : List (D × D)} {kvs : List (κ × V)}, Rows S ι F kd ok ps kvs → (ps.any fun p => eqv p.1 (kd k)) = kvs.any fun kv => decide (kv.1 = k)
 | [], kvs, h => by rw [h.inv0]; rfl
 | (d, e) :: ps, kvs, h => by
  obtain ⟨q, v, r, rfl, h1, h2, h3, h4⟩ := h.inv
  simp only at h1
  rw [List.any_cons, List.any_cons, Rows.any hk k h4, h1, hk]
theorem Rows.put (hk : ∀ a b : κ, eqv (kd a) (kd b) = decide (a = b)) {k : κ} {d : D} {v : V} (hok : ok k) (hd : Den S ι F d v) {ps : List (D × D)} {kvs : List (κ × V)} (h : Rows S ι F kd ok ps kvs) : Rows S ι F kd ok (dput ps (kd k) d) (putK kvs k v) := by
 unfold dput putK
 rw [h.any hk k]
 by_cases z : (kvs.any fun kv => decide (kv.1 = k)) = true
 ·rw [if_pos z, if_pos z]
  clear z
  induction ps generalizing kvs with
  | nil => rw [h.inv0]; exact .nil
  | cons p ps ih =>
   obtain ⟨q, w, r, rfl, h1, h2, h3, h4⟩ := h.inv
   obtain ⟨p1, p2⟩ := p
   simp only at h1 h3
   rw [List.map_cons, List.map_cons]
   by_cases z : q = k
   ·rw [if_pos (by rw [h1, hk]; simp [z]), if_pos z]
    exact .cons h1 h2 hd (ih h4)
   ·rw [if_neg (by rw [h1, hk]; simp [z]), if_neg z]
    exact .cons h1 h2 h3 (ih h4)
 ·rw [if_neg z, if_neg z]
  clear z
  induction ps generalizing kvs with
  | nil => rw [h.inv0]; exact .cons rfl hok hd .nil
  | cons p ps ih =>
   obtain ⟨q, w, r, rfl, h1, h2, h3, h4⟩ := h.inv
   exact .cons h1 h2 h3 (ih h4)
theorem Rows.sort {ps : List (D × D)} {kvs : List (κ × V)} (h : Rows S ι F kd ok ps kvs) {b : Bool} (ht : ∀ k, isT (kd k) = b) : ∀ p ∈ ps, isT p.1 = b := by
 induction ps generalizing kvs with
 | nil => intro p z; cases z
 | cons q ps ih =>
  obtain ⟨k, v, r, rfl, h1, h2, h3, h4⟩ := h.inv
  intro p z
  rcases List.mem_cons.mp z with e | e
  ·rw [e, h1]; exact ht k
  ·exact ih h4 p e
abbrev KD : L2.Key → D := keyD
abbrev KT : List L2.Key → D := fun ks => .tup (ks.map keyD)
abbrev OT : List L2.Key → Prop := fun ks => ∀ k ∈ ks, kOk k
theorem kd_eqv : ∀ a b : L2.Key, eqv (KD a) (KD b) = decide (a = b) := keyD_eqv
theorem kt_eqv : ∀ a b : List L2.Key, eqv (KT a) (KT b) = decide (a = b) := fun a b => by
 show eqvs (a.map keyD) (b.map keyD) = _
 exact keysD_eqv a b
theorem kd_T (k : L2.Key) : isT (KD k) = false := by cases k <;> rfl
theorem key_cases {d : D} {v : V} (h : Den S ι F d v) (k : keyd d = true) : (∃ q, d = KD q ∧ v = kV q ∧ kOk q) ∨ ∃ (ks : List L2.Key) (b : Addr), d = KT ks ∧ v = .ref b ∧ F b = some (.tup (ks.map kV)) ∧ OT ks := by
 cases h with
 | tup h1 h2 h3 =>
  obtain ⟨ks, e1, e2, e3⟩ := flats_key ⟨h2, h3⟩ (by simpa [keyd] using k)
  exact .inr ⟨ks, _, by rw [e1], rfl, by rw [← e2]; exact h1, e3⟩
 | int i => exact .inl (flat_key (Den.int i : Den S ι F _ _) rfl)
 | str x h => exact .inl (flat_key (Den.str x h : Den S ι F _ _) rfl)
 | _ => simp [keyd, flat] at k
theorem dict_ask {G : Hp} {M : Mem} (R : Rel S ι F G M H) {ps : List (D × D)} {a : Addr} {kd : D} {y : V} (hv : DV S ι F H (.dct ps) (.ref a)) (hy : Den S ι F kd y) (hk : keyOk ps kd = true) (I : Inv X pins σ H s) :
  ∃ H1 o, Inv X pins σ H1 s ∧ DGet H1 a y o ∧ (∀ s', Inv X pins σ H1 s' → Inv X pins σ H s') ∧ ((o = none ∧ dget ps kd = none) ∨ ∃ v d, o = some v ∧ dget ps kd = some d ∧ Den S ι F d v) := by
 unfold keyOk at hk
 rw [Bool.and_eq_true] at hk
 obtain ⟨hk1, hk2⟩ := hk
 rw [List.all_eq_true] at hk2
 have hcase : ∀ (kvs : List (L2.Key × V)), Rn H a (.dK kvs) → Rows S ι F KD kOk ps kvs → ∃ H1 o, Inv X pins σ H1 s ∧ DGet H1 a y o ∧ (∀ s', Inv X pins σ H1 s' → Inv X pins σ H s') ∧ ((o = none ∧ dget ps kd = none) ∨ ∃ v d, o = some v ∧ dget ps kd = some d ∧ Den S ι F d v) := fun kvs e rw' => by
  rcases key_cases hy hk1 with ⟨q, rfl, rfl, _⟩ | ⟨ks, b, rfl, rfl, hb, _⟩
  ·exact ⟨H, _, I, .inl ⟨kvs, q, e.rd, rfl, rfl⟩, fun _ z => z, Rows.get kd_eqv q rw'⟩
  ·have e0 : ps = [] := by
    cases ps with
    | nil => rfl
    | cons p r =>
     have h1 := hk2 p List.mem_cons_self
     rw [rw'.sort (b := false) kd_T p List.mem_cons_self] at h1
     cases h1
   subst e0
   rw [rw'.inv0] at e
   replace e := Rn.pl e (fun z => z rfl)
   have hb' := SubH.tup R.frz hb
   have hne : b ≠ a := fun z => by rw [z, e] at hb'; cases hb'
   refine ⟨upd H a (.dT []), none, emp_T I e, .inr ⟨[], ks, b, .inl upd_same, rfl, by rw [upd_ne hne]; exact hb', rfl⟩, fun s' I' => ?_, .inl ⟨rfl, rfl⟩⟩
   have := emp_K I' upd_same
   rw [upd_upd] at this
   have eH : upd H a (.dK []) = H := by
    funext c
    by_cases z : c = a
    ·rw [z, upd_same, e]
    ·rw [upd_ne z]
   rw [eH] at this
   exact this
 cases hv with
 | dctK e h1 h2 h3 => exact hcase _ e ⟨h1, h2, h3⟩
 | @dctT _ kvs _ e h1 h2 h3 =>
  have rw' : Rows S ι F KT OT ps kvs := ⟨h1, h2, h3⟩
  rcases key_cases hy hk1 with ⟨q, rfl, rfl, _⟩ | ⟨ks, b, rfl, rfl, hb, _⟩
  ·have e0 : ps = [] := by
    cases ps with
    | nil => rfl
    | cons p r =>
     have h1 := hk2 p List.mem_cons_self
     rw [rw'.sort (b := true) (fun _ => rfl) p List.mem_cons_self, kd_T] at h1
     cases h1
   subst e0
   rw [rw'.inv0] at e
   replace e := Rn.pl e (fun z => z rfl)
   refine ⟨upd H a (.dK []), none, emp_K I e, .inl ⟨[], q, .inl upd_same, rfl, rfl⟩, fun s' I' => ?_, .inl ⟨rfl, rfl⟩⟩
   have := emp_T I' upd_same
   rw [upd_upd] at this
   have eH : upd H a (.dT []) = H := by
    funext c
    by_cases z : c = a
    ·rw [z, upd_same, e]
    ·rw [upd_ne z]
   rw [eH] at this
   exact this
  ·exact ⟨H, _, I, .inr ⟨kvs, ks, b, e.rd, rfl, SubH.tup R.frz hb, rfl⟩, fun _ z => z, Rows.get kt_eqv ks rw'⟩
end
end Mn
end
section
namespace Mn
open PySem PySem.Spec PyProof.Rows L2
section
variable {X : Cx} {S : Sit} {pins : List (Addr × Obj)} {σ : L2.St} {H : Hp} {s : Shared} {ι : List Addr} {F G : Hp} {M : Mem} {Q : VK}
theorem DV.reads (hK : X.K = S.K) (I : Inv X pins σ H s) (hs : SubH F H) {n : Nat} {d : D} {v : V} {u : Value} (h : DV S ι F H d v) (k : shp n d = true) (r : RelV v u) : (∃ as, Reads s.heap u (toP d) as) ∧ (toP d).canLay0 = true ∧ (toP d).depth ≤ n := by
 obtain ⟨h1, h2, h3⟩ := h.dp hs k
 rw [← hK] at h1
 exact ⟨Dp.reads I _ _ _ h1 r, h2, h3⟩
theorem shaped_of {n : Nat} {d : PyData} (hn : n ≤ 64) (h1 : d.canLay0 = true) (h2 : d.depth ≤ n) : SeqAt.shaped d = true := by
 show (d.canLay0 && decide (d.depth ≤ 64)) = true
 rw [h1, decide_eq_true (show d.depth ≤ 64 by omega)]
 rfl
theorem plain_is {v : V} {u : Value} (r : RelV v u) (b : Bool) : plainIs u (.bool b) = true := by
 cases v <;> first | (cases r; rfl) | (obtain ⟨t, rfl⟩ := r; rfl)
theorem is_bool {A : Around} {E : Value → Shared → Prop} {R : Value → Shared → Prop} {M : Model} {v : V} {u : Value} (r : RelV v u) (b : Bool) {s : Shared} (h : R (.bool (decide (v = .bl b))) s) : wpAny M A (compareOp .Is u (.bool b)) R E s := by
 by_cases e : v = .bl b
 ·subst e
  cases r
  exact wpAny_is_self rfl (by simpa using h)
 ·refine wpAny_is_other (plain_is r b) (fun z => e ?_) (by simpa [e] using h)
  subst z
  cases v with
  | bl c => cases r; rfl
  | _ => first | (cases r; done) | (obtain ⟨t, q⟩ := r; cases q)
theorem isNot_bool {A : Around} {E : Value → Shared → Prop} {R : Value → Shared → Prop} {M : Model} {v : V} {u : Value} (r : RelV v u) (b : Bool) {s : Shared} (h : R (.bool (!decide (v = .bl b))) s) : wpAny M A (compareOp .IsNot u (.bool b)) R E s := by
 by_cases e : v = .bl b
 ·subst e
  cases r
  exact wpAny_isNot_self rfl (by simpa using h)
 ·refine wpAny_isNot_other (plain_is r b) (fun z => e ?_) (by simpa [e] using h)
  subst z
  cases v with
  | bl c => cases r; rfl
  | _ => first | (cases r; done) | (obtain ⟨t, q⟩ := r; cases q)
theorem isV_eq {x y : D} {v w : V} {k : Bool} (hx : DV S ι F H x v) (hy : DV S ι F H y w) (h : isV x y = some k) : (w = .non ∧ k = decide (v = .non)) ∨ ∃ b, w = .bl b ∧ k = decide (v = .bl b) := by
 unfold isV at h
 split at h
 ·cases hy
  refine .inl ⟨rfl, ?_⟩
  cases hx <;> simp_all
 ·cases hy
  rename_i b
  refine .inr ⟨b, rfl, ?_⟩
  cases hx <;> simp_all
  rename_i c
  subst h
  by_cases e : c = b <;> simp [e]
 ·cases h
theorem in_seq {neg : Bool} {x y : D} {v w : V} {vx vy : Value} {k : Bool} {ys : List D} {E : Value → Shared → Prop} {R : Value → Shared → Prop} (hK : X.K = S.K) (hu : X.A.units + 80 < cLine) (I : Inv X pins σ H s) (hs : SubH F H) (hx : DV S ι F H x v) (rx : RelV v vx) (ry : RelV w vy)
  (hy : DV S ι F H y w) (hy' : y = .tup ys ∨ y = .lst ys) (k1 : shp 8 x = true) (k2 : shp 9 y = true) (h : R (.bool (if neg then !ys.any (fun z => eqv z x) else ys.any (fun z => eqv z x))) s) :
  wpAny (model X.prog X.w) X.A (compareOp (if neg then .NotIn else .In) vx vy) R E s := by
 obtain ⟨⟨as, r1⟩, c1, d1⟩ := hx.reads hK I hs k1 rx
 obtain ⟨⟨bs, r2⟩, c2, d2⟩ := hy.reads hK I hs k2 ry
 have hys : ∀ z, z ∈ ys → shp 8 z = true := by
  have : shps 8 ys = true := by rcases hy' with e | e <;> (subst e; simpa [shp] using k2)
  clear h hy' hy r2 c2 d2 k2
  induction ys with
  | nil => intro z q; cases q
  | cons a r ih =>
   simp only [shps, Bool.and_eq_true] at this
   intro z q
   rcases List.mem_cons.mp q with e | e
   ·rw [e]; exact this.1
   ·exact ih this.2 z e
 have hany : ((toPs ys).any fun z => PyData.eqv z (toP x)) = ys.any fun z => eqv z x := by
  clear h hy' hy r2 c2 d2 k2
  induction ys with
  | nil => rfl
  | cons a r ih =>
   show (PyData.eqv (toP a) (toP x) || (toPs r).any fun z => PyData.eqv z (toP x)) = _
   rw [eqv_eq 8 8 a x (hys a List.mem_cons_self) k1, ih fun z q => hys z (List.mem_cons_of_mem _ q)]
   rfl
 have hroom : X.A.units + 1 + min (PyData.depthAll (toPs ys)) (toP x).depth < cLine := by
  have : min (PyData.depthAll (toPs ys)) (toP x).depth ≤ (toP x).depth := Nat.min_le_right _ _
  omega
 rcases hy' with e | e
 ·subst e
  have r2 : Reads s.heap vy (.tuple (toPs ys)) bs := r2
  have c2 : PyData.canLayAll0 (toPs ys) = true := by simpa [toP, PyData.canLay0] using c2
  cases neg with
  | true => exact SeqAt.notIn_tuple_reads r2 r1 c2 c1 hroom (by rw [hany]; exact h)
  | false => exact SeqAt.in_tuple_reads r2 r1 c2 c1 hroom (by rw [hany]; exact h)
 ·subst e
  have r2 : Reads s.heap vy (.list (toPs ys)) bs := r2
  have c2 : PyData.canLayAll0 (toPs ys) = true := by simpa [toP, PyData.canLay0] using c2
  cases neg with
  | true => exact SeqAt.notIn_list_reads r2 r1 c2 c1 hroom (by rw [hany]; exact h)
  | false => exact SeqAt.in_list_reads r2 r1 c2 c1 hroom (by rw [hany]; exact h)
theorem der_key {x : D} (hr : isRw x = false) (h : keyd (der M x) = true) (R : Rel S ι F G M H) {v : V} (hx : Den S ι F x v) : der M x = x := by
 cases hx with
 | @ref i a e =>
  obtain ⟨d, o, e1, e2, e3⟩ := R.at e
  cases e3 <;> simp [der, e1, keyd, flat] at h
 | row _ _ _ _ => cases hr
 | _ => rfl
theorem in_all (neg : Bool) (hK : X.K = S.K) (hu : X.A.units + 80 < cLine) {a b : D} {v w : V} {vx vy : Value} {k : Bool} {E : Value → Shared → Prop} {RR : Value → Shared → Prop} (I : Inv X pins σ H s) (R : Rel S ι F G M H) (da : Den S ι F a v) (db : Den S ι F b w) (rx : RelV v vx) (ry : RelV w vy)
  (hr : isRw a = true → isDc (der M b) = false) (e : inD (der M a) (der M b) = some k) (h : ∀ s', Inv X pins σ H s' → RR (.bool (if neg then !k else k)) s') : wpAny (model X.prog X.w) X.A (compareOp (if neg then .NotIn else .In) vx vy) RR E s := by
 have va := da.dv R
 have vb := db.dv R
 have ek : isRw a = false → keyd (der M a) = true → der M a = a := fun hr h => der_key hr h R da
 revert e va vb ek hr
 generalize der M a = a'
 generalize der M b = b'
 intro hr e va vb ek
 unfold inD at e
 split at e
 ·split at e
  ·rename_i hh
   cases e
   rw [Bool.and_eq_true] at hh
   exact in_seq (k := true) hK hu I R.frz va rx ry vb (.inl rfl) hh.1 hh.2 (h s I)
  ·cases e
 ·split at e
  ·rename_i hh
   cases e
   rw [Bool.and_eq_true] at hh
   exact in_seq (k := true) hK hu I R.frz va rx ry vb (.inr rfl) hh.1 hh.2 (h s I)
  ·cases e
 ·split at e
  case h_2 => cases e
  rename_i x z _ c ec
  cases e
  cases va with | str _ h1 =>
  cases vb with | str _ h2 =>
  obtain ⟨t, rfl⟩ := rx
  obtain ⟨t', rfl⟩ := ry
  obtain rfl : x = ⟨#[c]⟩ := by
   obtain ⟨xs⟩ := x
   have : xs = #[c] := Array.ext' (by simpa using ec)
   rw [this]
  have hf := PySem.StrLaws.found_one z c
  cases neg with
  | true =>
   refine PyProof.Rows.notIn_str ?_
   rw [hf]
   exact h s I
  | false =>
   refine PyProof.Rows.in_str ?_
   rw [hf]
   exact h s I
 ·split at e
  ·rename_i ps hh
   cases e
   have hkd : keyd a' = true := by
    unfold keyOk at hh
    rw [Bool.and_eq_true] at hh
    exact hh.1
   have ea := ek (by cases z : isRw a with | false => rfl | true => cases hr z) hkd
   subst ea
   obtain ⟨wa, rfl⟩ : ∃ wa, w = .ref wa := by cases vb <;> exact ⟨_, rfl⟩
   obtain ⟨H1, o, I1, g, back, hg⟩ := dict_ask R vb da hh I
   have eo : o.isSome = (dget ps a').isSome := by
    rcases hg with ⟨e1, e2⟩ | ⟨v', d', e1, e2, _⟩ <;> rw [e1, e2] <;> rfl
   cases ry
   cases neg with
   | true => exact d_notIn oM I1 g rx fun s' I' => by rw [eo]; exact h s' (back s' I')
   | false => exact d_in oM I1 g rx fun s' I' => by rw [eo]; exact h s' (back s' I')
  ·cases e
 ·cases e
theorem DV.tupR {a : D} {xs : List D} {v : V} (h : DV S ι F H a v) (e : a = .tup xs) : ∃ l ys, v = .ref l ∧ Rd H l (.tup ys) ∧ ys.length = xs.length := by
 cases h <;> cases e
 rename_i l ys h1 h2
 exact ⟨_, _, rfl, h1, h2.1⟩
theorem emp_all {a b d : D} {v w : V} {u z : Value} {neg : Bool} (hu : X.A.units + 80 < cLine) (I : Inv X pins σ H s) (va : DV S ι F H a v) (vb : DV S ι F H b w) (rx : RelV v u) (ry : RelV w z) (e : empT neg a b = some d) : ∃ k, d = .bl k ∧ ∀ (E RR : Value → Shared → Prop), RR (.bool k) s → wpAny (model X.prog X.w) X.A (compareOp (if neg then .NotEq else .Eq) u z) RR E s := by
 unfold empT at e
 split at e
 ·rename_i xs
  cases e
  refine ⟨_, rfl, fun E RR hR => ?_⟩
  obtain ⟨l, ys, rfl, r1, n1⟩ := va.tupR rfl
  obtain ⟨m, zs, rfl, r2, n2⟩ := vb.tupR rfl
  cases rx
  cases ry
  obtain ⟨its, p1, p2, _⟩ := I.tuple (.inl r1)
  obtain ⟨its2, q1, q2, _⟩ := I.tuple (.inl r2)
  have m1 := Vals.length p1
  have m2 := Vals.length q1
  have n3 : zs.length = 0 := n2
  have hz : its2.toArray.size = 0 := by rw [List.size_toArray]; omega
  have he : ∀ j (h1 : j < its.toArray.size) (h2 : j < its2.toArray.size), SeqAt.EqAt X.A.in1 s its.toArray[j] its2.toArray[j] true := fun j _ h2 => by omega
  have hk : ((List.range (min its.toArray.size its2.toArray.size)).all (fun _ => true) && its.toArray.size == its2.toArray.size) = xs.isEmpty := by
   rw [hz]
   cases xs with
   | nil =>
    have n4 : ys.length = 0 := n1
    have : its.toArray.size = 0 := by rw [List.size_toArray]; omega
    rw [this]; rfl
   | cons x r =>
    have n4 : ys.length = r.length + 1 := n1
    have : its.toArray.size = r.length + 1 := by rw [List.size_toArray]; omega
    rw [this]; simp
  have hroom : X.A.units < cLine := by omega
  cases neg with
  | false => exact SeqAt.RcAt.tuples (e := fun _ => true) (s := s) p2 q2 hroom he X.prog X.w E RR (by rw [hk]; simpa using hR)
  | true => exact SeqAt.RcNeAt.tuples (e := fun _ => true) (s := s) p2 q2 hroom he X.prog X.w E RR (by rw [hk]; simpa using hR)
 ·cases e
theorem ro_cmp (hK : X.K = S.K) (hu : X.A.units + 80 < cLine) (op : CmpOp) : OpR X (compareOp op) (RO S fun a b M => .of (cmpM M op a b) M) := by
 intro pins s σ H x y v u Q I rx ry h
 obtain ⟨ι, F, G, M, Wx, a, b, R, da, db, p⟩ := h
 obtain ⟨d, e, p⟩ := PostG.of p
 unfold cmpM at e
 split at e
 ·cases e
 rename_i hrw
 have hr : isRw a = true → isDc (der M b) = false := fun z => by rw [z] at hrw; simpa using hrw
 have va := da.dv R
 have vb := db.dv R
 unfold cmp at e
 cases op with
 | Eq =>
  simp only at e
  split at e
  ·rename_i hh
   cases e
   rw [Bool.and_eq_true] at hh
   obtain ⟨⟨as, r1⟩, c1, d1⟩ := va.reads hK I R.frz hh.1 rx
   obtain ⟨⟨bs, r2⟩, c2, d2⟩ := vb.reads hK I R.frz hh.2 ry
   refine SeqAt.compareEq_shaped r1 r2 (shaped_of (by decide) c1 d1) (shaped_of (by decide) c2 d2) oM ⟨.bl _, H, I, rfl, ?_⟩
   rw [eqv_eq 9 9 _ _ hh.1 hh.2]
   exact Fin1.bl p R
  ·obtain ⟨k, rfl, hk⟩ := emp_all hu I va vb rx ry e
   exact hk _ _ ⟨.bl _, H, I, rfl, Fin1.bl p R⟩
 | NotEq =>
  simp only at e
  split at e
  ·rename_i hh
   cases e
   rw [Bool.and_eq_true] at hh
   obtain ⟨⟨as, r1⟩, c1, d1⟩ := va.reads hK I R.frz hh.1 rx
   obtain ⟨⟨bs, r2⟩, c2, d2⟩ := vb.reads hK I R.frz hh.2 ry
   refine SeqAt.compareNe_shaped r1 r2 (shaped_of (by decide) c1 d1) (shaped_of (by decide) c2 d2) oM ⟨.bl _, H, I, rfl, ?_⟩
   rw [eqv_eq 9 9 _ _ hh.1 hh.2]
   exact Fin1.bl p R
  ·obtain ⟨k, rfl, hk⟩ := emp_all hu I va vb rx ry e
   exact hk _ _ ⟨.bl _, H, I, rfl, Fin1.bl p R⟩
 | Lt =>
  simp only at e
  split at e
  ·rename_i hh
   cases e
   unfold likeD at hh
   simp only [Bool.and_eq_true] at hh
   obtain ⟨⟨⟨h1, h2⟩, h3⟩, h4⟩ := hh
   obtain ⟨⟨as, r1⟩, c1, d1⟩ := va.reads hK I R.frz h1 rx
   obtain ⟨⟨bs, r2⟩, c2, d2⟩ := vb.reads hK I R.frz h2 ry
   have hn : toP (der M a) ≠ .none := by
    intro z
    revert h1 h4 z
    cases der M a <;> simp [toP, notN, shp]
   have hm : X.A.units + min (toP (der M a)).depth (toP (der M b)).depth < cLine := by
    have := Nat.min_le_left (toP (der M a)).depth (toP (der M b)).depth
    omega
   exact PySem.W.rcLt_alike (toP (der M a)) (toP (der M b)) X.A s v u as bs r1 r2 h3 hn hm X.prog X.w _ _ ⟨.bl _, H, I, rfl, Fin1.bl p R⟩
  ·cases e
 | LtE =>
  simp only at e
  split at e
  ·rename_i i j e1 e2
   rw [e1] at va; rw [e2] at vb
   cases e; cases va; cases vb
   exact op_le pins s σ H _ _ v u Q I rx ry ⟨_, _, rfl, rfl, Fin1.bl p R⟩
  ·cases e
 | Gt =>
  simp only at e
  split at e
  ·rename_i i j e1 e2
   rw [e1] at va; rw [e2] at vb
   cases e; cases va; cases vb
   exact op_gt pins s σ H _ _ v u Q I rx ry ⟨_, _, rfl, rfl, Fin1.bl p R⟩
  ·cases e
 | GtE =>
  simp only at e
  split at e
  ·rename_i i j e1 e2
   rw [e1] at va; rw [e2] at vb
   cases e; cases va; cases vb
   exact op_ge pins s σ H _ _ v u Q I rx ry ⟨_, _, rfl, rfl, Fin1.bl p R⟩
  ·cases e
 | In =>
  simp only at e
  obtain ⟨k, e1, rfl⟩ := Option.map_eq_some_iff.mp e
  exact in_all false hK hu I R da db rx ry hr e1 fun s' I' => ⟨.bl _, H, I', rfl, Fin1.bl p R⟩
 | NotIn =>
  simp only at e
  obtain ⟨k, e1, rfl⟩ := Option.map_eq_some_iff.mp e
  exact in_all true hK hu I R da db rx ry hr e1 fun s' I' => ⟨.bl _, H, I', rfl, Fin1.bl p R⟩
 | Is =>
  simp only at e
  obtain ⟨k, e1, rfl⟩ := Option.map_eq_some_iff.mp e
  rcases isV_eq va vb e1 with ⟨rfl, rfl⟩ | ⟨c, rfl, rfl⟩
  ·exact op_isN pins s σ H _ _ v u Q I rx ry ⟨rfl, Fin1.bl p R⟩
  ·cases ry
   exact is_bool rx c ⟨.bl _, H, I, rfl, Fin1.bl p R⟩
 | IsNot =>
  simp only at e
  obtain ⟨k, e1, rfl⟩ := Option.map_eq_some_iff.mp e
  rcases isV_eq va vb e1 with ⟨rfl, rfl⟩ | ⟨c, rfl, rfl⟩
  ·exact op_notN pins s σ H _ _ v u Q I rx ry ⟨rfl, Fin1.bl p R⟩
  ·cases ry
   exact isNot_bool rx c ⟨.bl _, H, I, rfl, Fin1.bl p R⟩
end
end Mn
end
section
namespace Mn
open PySem PySem.Spec PyProof.Rows L2
structure IsF (S : Sit) : Prop where
 b1 : ∀ c n, (S.T.cl c).isSome = true → n ∈ ["NoneType", "bool", "int", "str", "list", "tuple", "dict"] → PySem.W.kitOne S.K (.type n) (.ref (S.ca c)) = some false
 b2 : ∀ c n, (S.T.cl c).isSome = true → n ∈ ["bool", "int", "str", "list", "tuple", "dict"] → PySem.W.kitOne S.K (.ref (S.ca c)) (.type n) = some false
 cc : ∀ c d, (S.T.cl c).isSome = true → (S.T.cl d).isSome = true → PySem.W.kitOne S.K (.ref (S.ca c)) (.ref (S.ca d)) = some (c == d)
 ha : ∀ c, (S.T.cl c).isSome = true → PySem.W.findIn S.K (.ref (S.ca c)) "__class__" = some (some (.builtin "object.__class__"))
 hn : PySem.W.specialIn S.K (.builtin "object.__class__") "__get__" = some (some (.builtin "getset_descriptor.__get__"))
 ht : PySem.W.takesIn S.K (.builtin "object.__class__") = some true
 hm : ∀ c, (S.T.cl c).isSome = true → PySem.W.mroIn S.K (S.ca c) (.type "object") = some true
section
variable {X : Cx} {S : Sit} {pins : List (Addr × Obj)} {σ : L2.St} {H : Hp} {s : Shared} {ι : List Addr} {F G : Hp} {M : Mem} {Q : VK}
theorem truV (hK : X.K = S.K) (hs : SubH F H) {d : D} {v : V} {k : Bool} (h : DV S ι F H d v) (e : tru d = some k) : TruV X.K v H k := by
 cases h with
 | non => cases e; exact rfl
 | bl b => cases e; exact rfl
 | int i => cases e; exact rfl
 | str x hx =>
  unfold tru at e
  simp only at e
  split at e
  ·rename_i hl
   cases e
   exact ⟨big_le hl, rfl⟩
  ·cases e
 | ty _ => cases e
 | cls _ _ => cases e
 | scr _ => cases e
 | dctK _ _ _ _ => cases e
 | dctT _ _ _ _ => cases e
 | ins _ _ _ => cases e
 | @tup a xs ds h1 h2 =>
  cases e
  refine .inr (.inl ⟨xs, .inl h1, ?_⟩)
  have := h2.1
  cases ds <;> cases xs <;> simp_all
 | @lst a xs ds h1 h2 =>
  cases e
  refine .inl ⟨xs, SqL.of h1, ?_⟩
  have := h2.1
  cases ds <;> cases xs <;> simp_all
theorem atI_den {ds : List D} {xs : List V} {i : Int} {d : D} (h : DenL S ι F ds xs) (e : (ixP ds.length i).bind (fun k => ds[k]?) = some d) : ∃ v, atI xs i = some v ∧ Den S ι F d v := by
 obtain ⟨k, e1, e2⟩ := Option.bind_eq_some_iff.mp e
 obtain ⟨v, e3, e4⟩ := h.get e2
 refine ⟨v, ?_, e4⟩
 unfold atI
 rw [h.1, show ixN ds.length i = some k from e1]
 exact e3
theorem ix_all (hK : X.K = S.K) (hu : X.A.units + 80 < cLine) : IxR X (RO S fun a b M => .of (idx (der M a) b) M) := by
 intro value slice pins s σ H x y v u Q I rx ry h hsl
 obtain ⟨ι, F, G, M, Wx, a, b, R, da, db, p⟩ := h
 obtain ⟨d, e, pf⟩ := PostG.of p
 clear p
 have va := da.dv R
 revert e va
 generalize der M a = a'
 intro e va
 unfold idx at e
 split at e
 ·cases va with | tup h1 h2 =>
  cases db
  obtain ⟨w, e1, e2⟩ := atI_den h2 e
  exact ix_tup value slice pins s σ H _ _ v u Q I rx ry ⟨_, _, _, _, rfl, rfl, .inl h1, e1, Fin1.val pf R e2⟩ hsl
 ·cases va with | lst h1 h2 =>
  cases db
  obtain ⟨w, e1, e2⟩ := atI_den h2 e
  exact ix_list value slice pins s σ H _ _ v u Q I rx ry ⟨_, _, _, _, rfl, rfl, SqL.of h1, e1, Fin1.val pf R e2⟩ hsl
 ·split at e
  case isFalse => cases e
  rename_i hl
  obtain ⟨c, e1, rfl⟩ := Option.map_eq_some_iff.mp e
  cases va with | str _ hx =>
  cases db
  refine ix_str value slice pins s σ H _ _ v u Q I rx ry ⟨_, _, c, rfl, rfl, big_le hl, e1, Fin1.val pf R (.str _ ?_)⟩ hsl
  unfold strOk PyData.strOk at hx ⊢
  rw [Array.all_eq_true_iff_forall_mem] at hx
  obtain ⟨k, _, e3⟩ := Option.bind_eq_some_iff.mp e1
  have hc := List.mem_of_getElem? e3
  simpa using hx c (by simpa using hc)
 ·split at e
  case isFalse => cases e
  rename_i hk
  obtain ⟨wa, rfl⟩ : ∃ wa, x = .ref wa := by cases va <;> exact ⟨_, rfl⟩
  obtain ⟨H1, o, I1, g, back, hg⟩ := dict_ask R va db hk I
  rcases hg with ⟨_, e2⟩ | ⟨w, d', rfl, e2, e3⟩
  ·rw [e2] at e; cases e
  ·rw [e2] at e
   cases e
   cases rx
   exact tail_any (dict_typeIs I1 g) PySem.slot_dict_getitem.lookup (d_getItem oM I1 g ry fun w' s' I' r' => ⟨w, H, back s' I', r', Fin1.val pf R e3⟩) hsl
 ·cases e
end
end Mn
namespace Mn
open PySem PySem.Spec PyProof.Rows L2
theorem DenL.cut {S : Sit} {ι : List Addr} {F : Hp} {ds : List D} {xs : List V} (h : DenL S ι F ds xs) (lo hi : Option Int) : DenL S ι F (Mn.cut ds lo hi) (cutV xs lo hi) := by
 unfold Mn.cut cutV
 rw [h.1]
 refine ⟨by simp [h.1], fun i d x h1 h2 => ?_⟩
 rw [List.getElem?_take] at h1 h2
 split at h1
 ·rename_i hi
  rw [if_pos hi] at h2
  rw [List.getElem?_drop] at h1 h2
  exact h.2 _ d x h1 h2
 ·cases h1
section
variable {X : Cx} {S : Sit}
def RSl (S : Sit) : V → Option Int → Option Int → Hp → VK → Prop := fun x lo hi H Q => ∃ ι F G M Wx a, Rel S ι F G M H ∧ Den S ι F a x ∧ PostG S Wx ι F G (kV1 S Q) (.of (slc a (der M a) lo hi) M)
theorem sl_all (hK : X.K = S.K) : SlR X (RSl S) := by
 intro pins s σ H x v vl vu lo hi sl Q I rx hs pl pu h
 obtain ⟨ι, F, G, M, Wx, a, R, da, p⟩ := h
 obtain ⟨d, e, pf⟩ := PostG.of p
 clear p
 have va := da.dv R
 revert e va
 generalize der M a = a'
 intro e va
 unfold slc at e
 cases va with
 | @tup a1 xs ds h1 h2 =>
  refine sl_tupA pins s σ H _ v vl vu lo hi sl Q I rx hs pl pu ⟨_, _, rfl, .inl h1, fun hw => ?_, fun hw q hq => ?_⟩
  ·simp only at e
   have hw' : allOf ds.length lo hi = true := by
    unfold allOf
    rw [← h2.1, hw.1, hw.2]
    simp
   rw [if_pos hw'] at e
   cases e
   exact Fin1.val pf R da
  ·simp only at e
   have hw' : ¬ allOf ds.length lo hi = true := fun z => hw (by
    unfold allOf at z
    rw [← h2.1, Bool.and_eq_true] at z
    exact ⟨by simpa using z.1, by simpa using z.2⟩)
   rw [if_neg hw'] at e
   cases e
   exact Fin1.tup pf R (h2.cut lo hi) hq
 | lst h1 h2 =>
  cases e
  exact sl_list pins s σ H _ v vl vu lo hi sl Q I rx hs pl pu ⟨_, _, rfl, SqL.of h1, fun q hq => Fin1.lst pf R (h2.cut lo hi) hq⟩
 | _ => cases e
def RB (S : Sit) (b : Bi) : List V → Hp → VK → Prop := RL S fun as M => .of (bi b (as.map (der M))) M
theorem bls_vals {ι : List Addr} {F : Hp} : ∀ {ds : List D} {xs : List V} {bs : List Bool}, DenL S ι F ds xs → bls ds = some bs → xs = bs.map V.bl
 | [], xs, bs, h, e => by cases e; exact h.inv0
 | d :: ds, xs, bs, h, e => by
  obtain ⟨x, r, rfl, h1, h2⟩ := h.inv
  cases h1 with
  | bl b =>
   obtain ⟨bs', e1, rfl⟩ := Option.map_eq_some_iff.mp (show (bls ds).map (b :: ·) = some bs from e)
   rw [bls_vals h2 e1]
   rfl
  | _ => cases e
theorem intL_vals {ι : List Addr} {F : Hp} : ∀ {ds : List D} {xs : List V} {bs : List Int}, DenL S ι F ds xs → intL ds = some bs → xs = bs.map V.int
 | [], xs, bs, h, e => by cases e; exact h.inv0
 | d :: ds, xs, bs, h, e => by
  obtain ⟨x, r, rfl, h1, h2⟩ := h.inv
  cases h1 with
  | int b =>
   obtain ⟨bs', e1, rfl⟩ := Option.map_eq_some_iff.mp (show (intL ds).map (b :: ·) = some bs from e)
   rw [intL_vals h2 e1]
   rfl
  | _ => cases e
theorem strOk_join (a : Str) (ha : strOk a = true) : ∀ ys : List Str, (∀ y ∈ ys, strOk y = true) → strOk (Str.join a ys) = true := by
 intro ys
 induction ys with
 | nil => intro _; exact (by decide +kernel : strOk Str.empty = true)
 | cons y r ih =>
  intro h
  cases r with
  | nil => exact h y List.mem_cons_self
  | cons z r =>
   have := ih fun w hw => h w (List.mem_cons_of_mem _ hw)
   exact strOk_app (strOk_app (h y List.mem_cons_self) ha) this
theorem strOk_int {i : Int} (h : 0 ≤ i) : strOk ((toString i : String) : Str) = true := by
 obtain ⟨m, rfl⟩ := Int.eq_ofNat_of_zero_le h
 have e : ((toString ((m : Nat) : Int) : String) : Str).cps.toList = _ := PySem.W.KIN.signs_num m
 unfold strOk PyData.strOk
 rw [← Array.all_toList, e, List.all_map]
 refine List.all_eq_true.mpr fun c _ => ?_
 have := c.valid
 show decide (c.toNat < 1114112) = true
 refine decide_eq_true ?_
 rcases this with h | ⟨_, h⟩
 ·exact Nat.lt_trans h (by decide)
 ·exact h
theorem len_dict {pins : List (Addr × Obj)} {σ : L2.St} {H : Hp} {s : Shared} {a : Addr} {Q : VK} {ι : List Addr} {F : Hp} {ps : List (D × D)} (I : Inv X pins σ H s) (h : DV S ι F H (.dct ps) (.ref a)) (q : Q (.int ps.length) H) :
  wpAny (model X.prog X.w) X.A (call (.builtin "len") [.ref a]) (EP X pins σ Q) X.xe s := by
 cases h with
 | dctK h1 h2 h3 h4 => exact d_len I h1.rd fun t s' J => ⟨.int ps.length, H, J, ⟨t, by rw [h2]⟩, q⟩
 | dctT h1 h2 h3 h4 =>
  obtain ⟨z, hd, ys, rel, dd⟩ := dt_rd I.hok h1.rd
  have hl : ys.length = ps.length := (Paired.length rel).symm.trans h2
  have hz : (ys.length : Int) < 2 ^ 63 := by rw [hl, ← h2]; rw [sizeLine_eq] at z; omega
  exact call_len_dictH hd dd hz ⟨.int ps.length, H, I.tok _, ⟨_, by rw [hl]⟩, q⟩
theorem rb_len (hK : X.K = S.K) : CallR X (.builtin "len") (RB S .len) := by
 intro pins s σ H xs us Q I r h
 obtain ⟨ι, F, G, M, Wx, as, R, da, p⟩ := h
 obtain ⟨d, e, pf⟩ := PostG.of p
 clear p
 match as, da with
 | [], _ => simp [bi, biLen, biInt, biStr, biAll, biAny, biSum] at e
 | _ :: _ :: _, _ => simp [bi, biLen, biInt, biStr, biAll, biAny, biSum] at e
 | [a], da =>
  obtain ⟨x, r0, rfl, hx, h0⟩ := da.inv
  obtain rfl := h0.inv0
  obtain ⟨u, rfl, ru⟩ := vals1 r
  have va := hx.dv R
  replace e : biLen [der M a] = some d := e
  revert e va
  generalize der M a = a'
  intro va e
  cases va with
  | str z hz =>
   unfold biLen at e
   simp only at e
   split at e
   ·rename_i hl
    cases e
    exact call_len pins s σ H _ _ Q I r ⟨_, _, rfl, ⟨big_le hl, rfl⟩, Fin1.int pf R⟩
   ·cases e
  | tup h1 h2 =>
   cases e
   exact call_len pins s σ H _ _ Q I r ⟨_, _, rfl, .inr ⟨_, .inl h1, rfl⟩, by rw [h2.1]; exact Fin1.int pf R⟩
  | lst h1 h2 =>
   cases e
   exact call_len pins s σ H _ _ Q I r ⟨_, _, rfl, .inl ⟨_, SqL.of h1, rfl⟩, by rw [h2.1]; exact Fin1.int pf R⟩
  | dctK h1 h2 h3 h4 =>
   cases e
   cases ru
   exact len_dict I (.dctK h1 h2 h3 h4) (Fin1.int pf R)
  | dctT h1 h2 h3 h4 =>
   cases e
   cases ru
   exact len_dict I (.dctT h1 h2 h3 h4) (Fin1.int pf R)
  | _ => cases e
theorem rb_int (hK : X.K = S.K) : CallR X (.type "int") (RB S .int) := by
 intro pins s σ H xs us Q I r h
 obtain ⟨ι, F, G, M, Wx, as, R, da, p⟩ := h
 obtain ⟨d, e, pf⟩ := PostG.of p
 clear p
 match as, da with
 | [], _ => simp [bi, biLen, biInt, biStr, biAll, biAny, biSum] at e
 | _ :: _ :: _, _ => simp [bi, biLen, biInt, biStr, biAll, biAny, biSum] at e
 | [a], da =>
  obtain ⟨x, r0, rfl, hx, h0⟩ := da.inv
  obtain rfl := h0.inv0
  have va := hx.dv R
  replace e : biInt [der M a] = some d := e
  revert e va
  generalize der M a = a'
  intro va e
  cases va with
  | int i => cases e; exact call_int1 pins s σ H _ _ Q I r (.inl ⟨_, rfl, Fin1.int pf R⟩)
  | bl b => cases e; exact call_int1 pins s σ H _ _ Q I r (.inr ⟨b, rfl, Fin1.int pf R⟩)
  | _ => cases e
theorem rb_str (hK : X.K = S.K) : CallR X (.type "str") (RB S .str) := by
 intro pins s σ H xs us Q I r h
 obtain ⟨ι, F, G, M, Wx, as, R, da, p⟩ := h
 obtain ⟨d, e, pf⟩ := PostG.of p
 clear p
 match as, da with
 | [], _ => simp [bi, biLen, biInt, biStr, biAll, biAny, biSum] at e
 | _ :: _ :: _, _ => simp [bi, biLen, biInt, biStr, biAll, biAny, biSum] at e
 | [a], da =>
  obtain ⟨x, r0, rfl, hx, h0⟩ := da.inv
  obtain rfl := h0.inv0
  have va := hx.dv R
  replace e : biStr [der M a] = some d := e
  revert e va
  generalize der M a = a'
  intro va e
  cases va with
  | int i =>
   unfold biStr at e
   simp only at e
   split at e
   ·rename_i hl
    cases e
    exact call_str_int pins s σ H _ _ Q I r ⟨_, rfl, hl.2, Fin1.val pf R (.str _ (strOk_int hl.1))⟩
   ·cases e
  | _ => cases e
theorem Fin1.row {ι : List Addr} {F G : Hp} {M : Mem} {H : Hp} {Q : VK} {ds : List D} {xs : List V} {q : Addr} {ob : Obj} (p : Fin1 S ι F G M Q (.row ds)) (R : Rel S ι F G M H) (h : DenL S ι F ds xs) (hq : H q = none) (ho : ob.dict = none) : Q (.ref q) (upd H q (.frz ob (.tup xs))) := by
 obtain ⟨R', s⟩ := R.newF (o := .frz ob (.tup xs)) hq
 have h' := h.mono (Pre.refl ι) s
 exact p ι _ _ (.refl _) s R' _ (.row upd_same ho h'.1 h'.2)
theorem Fin1.orRow {ι : List Addr} {F G : Hp} {M : Mem} {H : Hp} {Q : VK} {ds : List D} {xs : List V} {q : Addr} {rw : Bool} {ob : Obj} (p : Fin1 S ι F G M Q (if rw then .row ds else .tup ds)) (R : Rel S ι F G M H) (h : DenL S ι F ds xs) (hq : H q = none) (ho : ob.dict = none) :
  Q (.ref q) (upd H q (if rw then .frz ob (.tup xs) else .tup xs)) := by
 cases rw with
 | true => exact Fin1.row p R h hq ho
 | false => exact Fin1.tup p R h hq
theorem laid_tup {pins : List (Addr × Obj)} {σ : L2.St} {H : Hp} {s : Shared} {xs : List V} {us : List Value} (rw : Bool) (I : Inv X pins σ H s) (r : Vals xs us) (z : xs.length ≤ sizeLine) :
  Inv X pins σ (upd H s.heap.objs.size (if rw then .frz { cls := .type "tuple", data := .seq us.toArray } (.tup xs) else .tup xs)) { s with heap := s.heap.push { cls := .type "tuple", data := .seq us.toArray } } := by
 refine I.laid (t' := s.toks) (fun b u e => Heap.get?_push_of_some _ e) (Nat.le_refl _) ?_
 cases rw with
 | true => exact ⟨Heap.get?_push_size _ rfl, z, us, r, ⟨_, Heap.get?_push_size _ rfl, rfl, _, rfl⟩⟩
 | false => exact ⟨z, us, r, ⟨_, Heap.get?_push_size _ rfl, rfl, _, rfl⟩⟩
theorem rb_tup (hK : X.K = S.K) (rw : Bool) : CallR X (.type "tuple") (RL S fun as M => match as with | [a] => .of (tupD rw a (der M a)) M | _ => .bad) := by
 intro pins s σ H xs us Q I r h
 obtain ⟨ι, F, G, M, Wx, as, R, da, p⟩ := h
 match as, da with
 | [], _ => exact False.elim p
 | _ :: _ :: _, _ => exact False.elim p
 | [a], da =>
  obtain ⟨d, e, pf⟩ := PostG.of (o := tupD rw a (der M a)) p
  clear p
  obtain ⟨x, r0, rfl, hx, h0⟩ := da.inv
  obtain rfl := h0.inv0
  have lists : ∀ {l : Addr} {ws : List V} {ds : List D}, x = .ref l → H l = some (.lst ws) → DenL S ι F ds ws → d = (if rw then .row ds else .tup ds) → wpAny (model X.prog X.w) X.A (call (.type "tuple") us) (EP X pins σ Q) X.xe s := fun {l ws ds} ex hl dl ed => by
   subst ex ed
   obtain ⟨u, rfl, rx⟩ := vals1 r
   cases rx
   obtain ⟨its, r', pl, hz⟩ := I.list (SqL.of hl)
   have hlen := r'.length
   refine call_tuple_list pl.isList (fun h' kp => ?_) (by rw [List.size_toArray]; omega)
   have I1 : Inv X pins σ H { s with heap := h' } := I.kept (t' := s.toks) kp
   exact ⟨.ref h'.objs.size, _, laid_tup rw I1 r' hz, rfl, Fin1.orRow pf R dl (I1.hok.fresh (Nat.le_refl _)) rfl⟩
  cases hx with
  | @row b ob ws ds h1 hz h2 h3 =>
   cases e
   exact call_tuple_of pins s σ H _ _ Q I r ⟨_, _, rfl, .inr ⟨.inl (.inr ⟨_, SubH.fz R.frz h1⟩), Fin1.val pf R (.row h1 hz h2 h3)⟩⟩
  | @tup b ws ds h1 h2 h3 =>
   replace e : (if rw then none else some (D.tup ds)) = some d := e
   cases rw with
   | true => cases e
   | false =>
    cases e
    exact call_tuple_of pins s σ H _ _ Q I r ⟨_, _, rfl, .inr ⟨.inl (.inl (SubH.tup R.frz h1)), Fin1.val pf R (.tup h1 h2 h3)⟩⟩
  | @lst b ws ds h1 h2 h3 =>
   replace e : some (if rw then D.row ds else .tup ds) = some d := e
   cases e
   exact lists rfl (SubH.lst R.frz h1) ⟨h2, h3⟩ rfl
  | @ref i b h1 =>
   obtain ⟨c, o, e1, e2, e3⟩ := R.at h1
   cases e3 with
   | lst h2 =>
    rename_i ws ds
    have e' : some (if rw then D.row ds else .tup ds) = some d := by
     simp only [der, e1] at e
     exact e
    cases e'
    exact lists rfl e2 h2 rfl
   | _ => simp [der, e1, tupD] at e
  | _ => cases e
theorem rb_all (hK : X.K = S.K) (hc : X.calm = true) : CallR X (.builtin "all") (RB S .all) := by
 intro pins s σ H xs us Q I r h
 obtain ⟨ι, F, G, M, Wx, as, R, da, p⟩ := h
 obtain ⟨d, e, pf⟩ := PostG.of p
 clear p
 match as, da with
 | [], _ => simp [bi, biLen, biInt, biStr, biAll, biAny, biSum] at e
 | _ :: _ :: _, _ => simp [bi, biLen, biInt, biStr, biAll, biAny, biSum] at e
 | [a], da =>
  obtain ⟨x, r0, rfl, hx, h0⟩ := da.inv
  obtain rfl := h0.inv0
  have va := hx.dv R
  replace e : biAll [der M a] = some d := e
  revert e va
  generalize der M a = a'
  intro va e
  cases va with
  | lst h1 h2 =>
   obtain ⟨bs, e1, rfl⟩ := Option.map_eq_some_iff.mp e
   have ev := bls_vals h2 e1
   subst ev
   exact cr_all hc pins s σ H _ _ Q I r ⟨_, bs, rfl, SqL.of h1, Fin1.bl pf R⟩
  | _ => cases e
theorem rb_any (hK : X.K = S.K) (hc : X.calm = true) : CallR X (.builtin "any") (RB S .any) := by
 intro pins s σ H xs us Q I r h
 obtain ⟨ι, F, G, M, Wx, as, R, da, p⟩ := h
 obtain ⟨d, e, pf⟩ := PostG.of p
 clear p
 match as, da with
 | [], _ => simp [bi, biLen, biInt, biStr, biAll, biAny, biSum] at e
 | _ :: _ :: _, _ => simp [bi, biLen, biInt, biStr, biAll, biAny, biSum] at e
 | [a], da =>
  obtain ⟨x, r0, rfl, hx, h0⟩ := da.inv
  obtain rfl := h0.inv0
  have va := hx.dv R
  replace e : biAny [der M a] = some d := e
  revert e va
  generalize der M a = a'
  intro va e
  cases va with
  | lst h1 h2 =>
   obtain ⟨bs, e1, rfl⟩ := Option.map_eq_some_iff.mp e
   have ev := bls_vals h2 e1
   subst ev
   exact cr_any hc pins s σ H _ _ Q I r ⟨_, bs, rfl, SqL.of h1, Fin1.bl pf R⟩
  | _ => cases e
theorem maxF_eq : ∀ (r : List Int) (x : Int), r.foldl (fun a b => if b > a then b else a) x ∈ x :: r ∧ ∀ y ∈ x :: r, y ≤ r.foldl (fun a b => if b > a then b else a) x
 | [], x => ⟨List.mem_cons_self, fun y hy => by cases List.mem_singleton.mp hy; exact Int.le_refl _⟩
 | b :: r, x => by
  rw [List.foldl_cons]
  obtain ⟨h1, h2⟩ := maxF_eq r (if b > x then b else x)
  have hx := h2 _ List.mem_cons_self
  refine ⟨?_, fun y hy => ?_⟩
  ·rcases List.mem_cons.mp h1 with e | e
   ·rw [e]; split
    ·exact List.mem_cons_of_mem _ List.mem_cons_self
    ·exact List.mem_cons_self
   ·exact List.mem_cons_of_mem _ (List.mem_cons_of_mem _ e)
  ·have h0 : x ≤ (if b > x then b else x) ∧ b ≤ (if b > x then b else x) := by split <;> constructor <;> omega
   have h3 : x ≤ r.foldl (fun a b => if b > a then b else a) (if b > x then b else x) ∧ b ≤ r.foldl (fun a b => if b > a then b else a) (if b > x then b else x) := ⟨Int.le_trans h0.1 hx, Int.le_trans h0.2 hx⟩
   rcases List.mem_cons.mp hy with rfl | hy
   ·exact h3.1
   ·rcases List.mem_cons.mp hy with rfl | hy
    ·exact h3.2
    ·exact h2 y (List.mem_cons_of_mem _ hy)
theorem maxL_eq {ns : List Int} {m k : Int} (e : maxL ns = some m) (h1 : k ∈ ns) (h2 : ∀ y ∈ ns, y ≤ k) : k = m := by
 match ns, e with
 | x :: r, e =>
  obtain rfl : _ = m := Option.some.inj e
  obtain ⟨h3, h4⟩ := maxF_eq r x
  have a := h4 k h1
  have b := h2 _ h3
  omega
theorem rb_max (hK : X.K = S.K) (hc : X.calm = true) : CallR X (.builtin "max") (RB S .max) := by
 intro pins s σ H xs us Q I r h
 obtain ⟨ι, F, G, M, Wx, as, R, da, p⟩ := h
 obtain ⟨d, e, pf⟩ := PostG.of p
 clear p
 match as, da with
 | [], _ => simp [bi, biMax, biMin] at e
 | [a], da =>
  obtain ⟨x, r0, rfl, hx, h0⟩ := da.inv
  obtain rfl := h0.inv0
  have va := hx.dv R
  replace e : biMax [der M a] = some d := e
  revert e va
  generalize der M a = a'
  intro va e
  cases va with
  | lst h1 h2 =>
   obtain ⟨m, e1, rfl⟩ := Option.map_eq_some_iff.mp e
   obtain ⟨ns, e2, e3⟩ := Option.bind_eq_some_iff.mp e1
   have ev := intL_vals h2 e2
   subst ev
   refine cr_max hc pins s σ H _ _ Q I r ⟨_, ns, rfl, SqL.of h1, ?_, fun k k1 k2 => ?_⟩
   ·cases ns with
    | nil => cases e3
    | cons x r => exact Nat.succ_pos _
   ·rw [maxL_eq e3 k1 k2]
    exact Fin1.int pf R
  | _ => cases e
 | _ :: _ :: _ :: _, _ => simp [bi, biMax] at e
 | [a, b], da =>
  obtain ⟨x, r0, rfl, hx, h0⟩ := da.inv
  obtain ⟨y, r1, rfl, hy, h1⟩ := h0.inv
  obtain rfl := h1.inv0
  have va := hx.dv R
  have vb := hy.dv R
  replace e : biMax [der M a, der M b] = some d := e
  revert e va vb
  generalize der M a = a'
  generalize der M b = b'
  intro va vb e
  cases va with
  | int i => cases vb with
   | int j => cases e; exact call_max2 hc pins s σ H _ _ Q I r ⟨_, _, rfl, Fin1.int pf R⟩
   | _ => cases e
  | _ => cases e
def tyW (S : Sit) : String ⊕ Nat → Value
 | .inl n => .type n
 | .inr c => .ref (S.ca c)
def TyY (K : PySem.W.Frag) (H : Hp) (v : V) (t : Value) : Prop := TyX K H v t ∨ ∃ a od kvs, v = .ref a ∧ H a = some (.frz od (.dT kvs)) ∧ t = .type "dict"
theorem kit_y {X : Cx} {pins : List (Addr × Obj)} {σ : L2.St} {H : Hp} {s : Shared} {v : V} {u t : Value} (I : Inv X pins σ H s) (r : RelV v u) (y : TyY X.K H v t) : ∃ P : Heap → Prop, PySem.W.KitX X.K u t P ∧ P s.heap ∧ u ≠ .builtin "__main__.__loader__#opaque" := by
 rcases y with y | ⟨a, od, kvs, rfl, e, rfl⟩
 ·exact kit_of I r y
 ·cases (show u = Value.ref a from r)
  obtain ⟨-, -, -, -, -, o, -, -, g1, g2, -⟩ := (show ObjOk X.prog X.w H s.heap a (.frz od (.dT kvs)) from I.hok a _ e)
  exact ⟨_, PySem.W.kitx_dict, ⟨o, g1, g2.1⟩, Value.noConfusion⟩
theorem isi_one {X : Cx} : CallR X (.builtin "isinstance") (fun vs H Q => ∃ (v w : V) (t u : Value) (k : Bool), vs = [v, w] ∧ ClsV w u ∧ TyY X.K H v t ∧ PySem.W.kitOne X.K t u = some k ∧ Q (.bl k) H) := by
 rintro pins s σ H vs us Q I r ⟨v, w, t, u, k, rfl, hw, y, e, q⟩
 obtain ⟨c1, c2, rfl, r1, r2⟩ := vals2 r
 obtain rfl := hw.eq r2
 obtain ⟨P, Z, p, hx⟩ := kit_y I r1 y
 refine PySem.W.kia_one Z I.kIn p e hx fun n => ?_
 exact ⟨.bl k, H, I.tok n, rfl, q⟩
theorem isi_any {X : Cx} : CallR X (.builtin "isinstance") (fun vs H Q => ∃ (v : V) (a : Addr) (ws : List V) (t : Value) (cs : List Value) (k : Bool), vs = [v, .ref a] ∧ Rd H a (.tup ws) ∧ Paired ClsV ws cs ∧ TyY X.K H v t ∧ PySem.W.kitAny X.K t cs = some k ∧ Q (.bl k) H) := by
 rintro pins s σ H vs us Q I r ⟨v, a, ws, t, cs, k, rfl, ha, hw, y, e, q⟩
 obtain ⟨c1, c2, rfl, r1, r2⟩ := vals2 r
 obtain rfl : c2 = Value.ref a := r2
 obtain ⟨P, Z, p, hx⟩ := kit_y I r1 y
 obtain ⟨-, its, rv, ⟨oc, od, dt, sl⟩, g1, g2, n, g3⟩ := (show ObjOk X.prog X.w H s.heap a (.tup ws) from ha.ok I.hok)
 obtain rfl := ClsV.all hw rv
 simp only at g2 g3
 subst g2 g3
 refine PySem.W.kia_tup Z I.kIn p g1 e hx fun m => ?_
 exact ⟨.bl k, H, I.tok m, rfl, q⟩
theorem tyx (f : IsF S) {ι : List Addr} {F H : Hp} (hs : SubH F H) {d : D} {v : V} {t : String ⊕ Nat} (h : DV S ι F H d v) (e : tyD d = some t) :
  TyY S.K H v (tyW S t) ∧ (∀ n, t = .inl n → n ∈ ["NoneType", "bool", "int", "str", "list", "tuple", "dict"]) ∧ ∀ c, t = .inr c → (S.T.cl c).isSome = true := by
 cases h with
 | non => cases e; exact ⟨.inl (.base .non), fun n z => by cases z; decide, fun _ z => nomatch z⟩
 | bl b => cases e; exact ⟨.inl (.base (.bl b)), fun n z => by cases z; decide, fun _ z => nomatch z⟩
 | int b => cases e; exact ⟨.inl (.base (.int b)), fun n z => by cases z; decide, fun _ z => nomatch z⟩
 | str b _ => cases e; exact ⟨.inl (.base (.str b)), fun n z => by cases z; decide, fun _ z => nomatch z⟩
 | lst h1 h2 => cases e; exact ⟨.inl (.base (.lst h1)), fun n z => by cases z; decide, fun _ z => nomatch z⟩
 | tup h1 h2 => cases e; exact ⟨h1.elim (fun z => .inl (.base (.tup z))) (fun ⟨_, z⟩ => .inl (.fTuple z)), fun n z => by cases z; decide, fun _ z => nomatch z⟩
 | dctK h1 _ _ _ => cases e; exact ⟨h1.elim (fun z => .inl (.base (.dK z))) (fun ⟨_, _, z⟩ => .inl (.fDict z)), fun n z => by cases z; decide, fun _ z => nomatch z⟩
 | dctT h1 _ _ _ => cases e; exact ⟨h1.elim (fun z => .inl (.base (.dT z))) (fun ⟨_, _, z⟩ => .inr ⟨_, _, _, rfl, z, rfl⟩), fun n z => by cases z; decide, fun _ z => nomatch z⟩
 | @ins a dx c gs fs h1 h2 h3 => cases e; exact ⟨.inl (.base (.ins h1 h2.cls (f.ha c h2.cl) f.hn f.ht (f.hm c h2.cl))), (fun _ z => nomatch z), fun c z => by cases z; exact h2.cl⟩
 | ty n => cases e
 | cls c _ => cases e
 | scr _ => cases e
theorem cls_v {ι : List Addr} {F H : Hp} {t : D} {c : V} (h : DV S ι F H t c) (e : isC t = true) : ∃ u, ClsV c u ∧ ((∃ n, t = .ty n ∧ u = .type n) ∨ ∃ k, t = .cls k ∧ (S.T.cl k).isSome = true ∧ u = .ref (S.ca k)) := by
 cases h with
 | ty n => exact ⟨_, .ty n, .inl ⟨n, rfl, rfl⟩⟩
 | cls k hk => exact ⟨_, .own _, .inr ⟨k, rfl, hk, rfl⟩⟩
 | _ => simp [isC] at e
theorem isA_c {d t : D} {b : Bool} (e : isA d t = some b) : isC t = true := by
 unfold isA at e
 split at e <;> first | rfl | (cases e; done)
theorem isA_kit (f : IsF S) {ι : List Addr} {F H : Hp} (hs : SubH F H) {d t : D} {v : V} {u : Value} {b : Bool} {ty : String ⊕ Nat} (h : DV S ι F H d v) (hu : (∃ n, t = .ty n ∧ u = .type n) ∨ ∃ k, t = .cls k ∧ (S.T.cl k).isSome = true ∧ u = .ref (S.ca k)) (et : tyD d = some ty) (e : isA d t = some b) :
  PySem.W.kitOne S.K (tyW S ty) u = some b := by
 obtain ⟨h0, h1, h2⟩ := tyx f hs h et
 unfold isA at e
 rw [et] at e
 rcases hu with ⟨n, rfl, rfl⟩ | ⟨k, rfl, hk, rfl⟩
 ·cases ty with
  | inl a =>
   simp only at e
   split at e
   ·rename_i hn
    cases e
    have ha := h1 a rfl
    have key : ∀ a ∈ ["NoneType", "bool", "int", "str", "list", "tuple", "dict"], ∀ n ∈ ["str", "int", "bool", "tuple", "list", "dict"], kitB a n = some (a == n || (a == "bool" && n == "int")) := by decide +kernel
    exact kit_ty (key a ha n hn)
   ·cases e
  | inr c =>
   simp only at e
   split at e
   ·rename_i hn
    cases e
    refine f.b2 c n (h2 c rfl) ?_
    revert hn
    simp only [List.mem_cons, List.not_mem_nil, or_false]
    intro hn
    rcases hn with z | z | z | z | z | z <;> simp [z]
   ·cases e
 ·cases ty with
  | inl a => cases e; exact f.b1 k a hk (h1 a rfl)
  | inr c => cases e; exact f.cc c k (h2 c rfl) hk
theorem isA_ty {d t : D} {b : Bool} (e : isA d t = some b) : ∃ ty, tyD d = some ty := by
 unfold isA at e
 cases h : tyD d with
 | none => rw [h] at e; simp at e
 | some ty => exact ⟨ty, rfl⟩
theorem isAs_ty {d : D} {b : Bool} : ∀ {ts : List D}, isAs d ts = some b → ts ≠ [] → ∃ ty, tyD d = some ty
 | [], _, h => absurd rfl h
 | t :: r, e, _ => by
  unfold isAs at e
  cases h : isA d t with
  | none => rw [h] at e; cases e
  | some c => exact isA_ty h
theorem isAs_kit (f : IsF S) {ι : List Addr} {F H : Hp} (hs : SubH F H) {d : D} {v : V} {ty : String ⊕ Nat} (h : DV S ι F H d v) (et : tyD d = some ty) {G : Hp} {M : Mem} (R : Rel S ι F G M H) : ∀ {ts : List D} {cs : List V} {b : Bool}, DenL S ι F ts cs → ts.all isC = true → isAs d ts = some b →
  ∃ us, Paired ClsV cs us ∧ PySem.W.kitAny S.K (tyW S ty) us = some b
 | [], cs, b, hl, _, e => by rw [hl.inv0]; cases e; exact ⟨[], .nil, rfl⟩
 | t :: r, cs, b, hl, ha, e => by
  obtain ⟨c, cr, rfl, h1, h2⟩ := hl.inv
  rw [List.all_cons, Bool.and_eq_true] at ha
  have hn : der M t = t := by
   cases t <;> first | rfl | (have := ha.1; simp [isC] at this)
  have dv := h1.dv R
  rw [hn] at dv
  obtain ⟨u, k1, k2⟩ := cls_v dv ha.1
  unfold isAs at e
  cases hh : isA d t with
  | none => rw [hh] at e; cases e
  | some b0 =>
   rw [hh] at e
   have kk := isA_kit f hs h k2 et hh
   cases b0 with
   | true =>
    cases e
    have : ∃ us, Paired ClsV cr us := by
     have ha2 := ha.2
     clear hh kk ha hl
     induction r generalizing cr with
     | nil => rw [h2.inv0]; exact ⟨[], .nil⟩
     | cons t2 r ih =>
      obtain ⟨c2, cr2, rfl, g1, g2⟩ := h2.inv
      rw [List.all_cons, Bool.and_eq_true] at ha2
      have hn2 : der M t2 = t2 := by
       cases t2 <;> first | rfl | (have := ha2.1; simp [isC] at this)
      have dv2 := g1.dv R
      rw [hn2] at dv2
      obtain ⟨u2, k12, _⟩ := cls_v dv2 ha2.1
      obtain ⟨us, p⟩ := ih cr2 g2 ha2.2
      exact ⟨u2 :: us, .cons k12 p⟩
    obtain ⟨us, p⟩ := this
    exact ⟨u :: us, .cons k1 p, kitAny_cons kk (fun z => nomatch z) fun _ => rfl⟩
   | false =>
    obtain ⟨us, p, q⟩ := isAs_kit f hs h et R h2 ha.2 e
    exact ⟨u :: us, .cons k1 p, kitAny_cons kk (fun _ => q) fun z => nomatch z⟩
theorem rb_isi (hK : X.K = S.K) (f : IsF S) : CallR X (.builtin "isinstance") (RB S .isi) := by
 intro pins s σ H xs us Q I r h
 obtain ⟨ι, F, G, M, Wx, as, R, da, p⟩ := h
 obtain ⟨d, e, pf⟩ := PostG.of p
 clear p
 match as, da with
 | [], _ => simp [bi, biIsi] at e
 | [_], _ => simp [bi, biIsi] at e
 | _ :: _ :: _ :: _, _ => simp [bi, biIsi] at e
 | [a, b], da =>
  obtain ⟨x, r0, rfl, hx, h0⟩ := da.inv
  obtain ⟨y, r1, rfl, hy, h1⟩ := h0.inv
  obtain rfl := h1.inv0
  have va := hx.dv R
  have vb := hy.dv R
  replace e : biIsi [der M a, der M b] = some d := e
  revert e va vb
  generalize der M a = a'
  generalize der M b = b'
  intro va vb e
  unfold biIsi at e
  split at e
  ·rename_i x' ts heq
   cases heq
   split at e
   case isFalse => cases e
   rename_i hall
   rw [Bool.and_eq_true] at hall
   obtain ⟨hall, hne⟩ := hall
   obtain ⟨k, e1, rfl⟩ := Option.map_eq_some_iff.mp e
   cases vb with | @tup t1 cs _ g1 g2 =>
   cases ts with
   | nil =>
    simp at hne
   | cons t0 tr =>
    obtain ⟨ty, et⟩ := isAs_ty e1 (by simp)
    obtain ⟨us', k1, k2⟩ := isAs_kit f R.frz va et R g2 hall e1
    exact isi_any pins s σ H _ _ Q I r ⟨_, _, cs, _, us', k, rfl, g1, k1, by rw [hK]; exact (tyx f R.frz va et).1, by rw [hK]; exact k2, Fin1.bl pf R⟩
  ·rename_i x' t _ heq
   cases heq
   obtain ⟨k, e1, rfl⟩ := Option.map_eq_some_iff.mp e
   obtain ⟨ty, et⟩ := isA_ty e1
   obtain ⟨u, k1, k2⟩ := cls_v vb (isA_c e1)
   refine isi_one pins s σ H _ _ Q I r ⟨_, _, _, u, k, rfl, k1, by rw [hK]; exact (tyx f R.frz va et).1, by rw [hK]; exact isA_kit f R.frz va k2 et e1, Fin1.bl pf R⟩
  ·cases e
end
end Mn
end
section
namespace Mn
open PySem PySem.Spec PyProof.Rows L2
structure Cxt (S : Sit) (sc : Scope) (N : List Str) (X : Cx) : Prop where
 hK : X.K = S.K
 hm : X.mg = S.mg
 hP : X.prog = S.P
 hw : X.w = S.w
 hb : X.base = S.base
 calm : X.calm = true
 hN : X.N = N
 nd : N.Nodup
 sc : X.env.scope = sc
 hu : X.A.units + 80 < cLine
abbrev SE (S : Sit) (W : L2.WX) (cf mf : Calls) (X : Cx) (e : Expr) (c : Ex) : Prop := PE X e (LE S W (ev S.T cf mf c))
abbrev ST (S : Sit) (W : L2.WX) (cf mf : Calls) (X : Cx) (e : Expr) (c : Te) : Prop := PT X e (LT S W (evT S.T cf mf c))
abbrev SA (S : Sit) (W : L2.WX) (cf mf : Calls) (X : Cx) (es : List Expr) (c : Es) : Prop := PA X es (LA S W (evs S.T cf mf c))
section
variable {S : Sit} {W : L2.WX} {cf mf : Calls} {X : Cx} {sc : Scope} {N : List Str} {a b c e : Expr} {ca cb cc : Ex} {pos : Pos}
theorem se_lit {d : D} {v : V} (h : PE X e (tC v)) (hd : ∀ ι F, Den S ι F d v) : SE S W cf mf X e (.lit d) := h.to fun _ _ _ q => le_lit hd q
theorem se_var {i : Nat} (h : PE X e (tVar i)) : SE S W cf mf X e (.var i) := h.to fun _ _ _ q => le_var q
theorem se_bin (C : Cxt S sc N X) {op : Operator} (ha : SE S W cf mf X a ca) (hb : SE S W cf mf X b cb) : SE S W cf mf X (.BinOp a op b pos) (.bin op ca cb) :=
 (pe_op (ro_bin C.hK op) ha hb).to fun _ _ _ q => le_two q
theorem se_cmp (C : Cxt S sc N X) {op : CmpOp} (hm : behindInMarks op b = false) (ha : SE S W cf mf X a ca) (hb : SE S W cf mf X b cb) : SE S W cf mf X (.Compare a [op] [b] pos) (.cmp op ca cb) :=
 (pe_cmpR (ro_cmp C.hK C.hu op) ha hb hm).to fun _ _ _ q => le_two q
theorem se_idx (C : Cxt S sc N X) (hs : PlainIx b) (ha : SE S W cf mf X a ca) (hb : SE S W cf mf X b cb) : SE S W cf mf X (.Subscript a b pos) (.idx ca cb) :=
 (pe_ix (ix_all C.hK C.hu) ha hb hs).to fun _ _ _ q => le_two (g := fun x y M2 => .of (idx (der M2 x) y) M2) q
theorem chn_read (C : Cxt S sc N X) {o1 o2 : CmpOp} {σ : L2.St} {H : Hp} {Q : VK} (q : LE S W (ev S.T cf mf (.chn o1 o2 ca cb cc)) σ H Q) : tChain (RO S fun a b M => .of (cmpM M o1 a b) M) (RO S fun a b M => .of (cmpM M o2 a b) M) (LE S W (ev S.T cf mf ca)) (LE S W (ev S.T cf mf cb)) (LE S W (ev S.T cf mf cc)) σ H Q := by
 obtain ⟨ι, F, G, σ', M, R, rs, p⟩ := q
 refine ⟨ι, F, G, σ', M, R, rs, p.bind.imp fun x' ι1 F1 M1 H1 p1 s1 R1 q1 x dx => ?_⟩
 refine ⟨ι1, F1, G, σ', M1, R1, rs.mono p1 s1, q1.bind.imp fun y' ι2 F2 M2 H2 p2 s2 R2 q2 y dy => ?_⟩
 cases e : Mn.cmpM M2 o1 x' y' with
 | none => rw [e] at q2; exact False.elim q2
 | some z =>
  rw [e] at q2
  refine ⟨ι2, F2, G, M2, fun _ _ _ => False, x', y', R2, dx.mono p2 s2, dy, ?_⟩
  show PostG S _ ι2 F2 G _ (Res.of (Mn.cmpM M2 _ x' y') M2)
  rw [e]
  show ∀ ι' F' H', Pre ι2 ι' → Sub F2 F' → Rel S ι' F' G M2 H' → kV1 S _ z ι' F' M2 H'
  intro ι3 F3 H3 p3 s3 R3 v dv
  cases z with
  | bl k =>
   cases dv
   refine ⟨k, rfl, ?_⟩
   cases k with
   | true =>
    show LE S W (ev S.T cf mf cc) σ H3 _
    refine ⟨ι3, F3, G, σ', M2, R3, ((rs.mono p1 s1).mono p2 s2).mono p3 s3, (PostG.weak q2 p3 s3).bind.imp fun z' ι4 F4 M4 H4 p4 s4 R4 q4 zz dz => ?_⟩
    exact ⟨ι4, F4, G, M4, _, y', z', R4, (dy.mono p3 s3).mono p4 s4, dz, q4⟩
   | false =>
    show Q (.bl false) H3
    exact (PostG.weak (r := Res.ok (D.bl false) M2) q2 p3 s3) ι3 F3 H3 (.refl _) (.refl _) R3 _ (.bl false)
  | _ => exact False.elim q2
theorem se_chn (C : Cxt S sc N X) {o1 o2 : CmpOp} (hm : lastMarks [o1, o2] [b, c] = false) (ha : SE S W cf mf X a ca) (hb : SE S W cf mf X b cb) (hc : SE S W cf mf X c cc) : SE S W cf mf X (.Compare a [o1, o2] [b, c] pos) (.chn o1 o2 ca cb cc) := (pe_chain (ro_cmp C.hK C.hu o1) (ro_cmp C.hK C.hu o2) ha hb hc hm).to fun _ _ _ q => chn_read C q
theorem se_and1 (h : SE S W cf mf X a ca) {op} : SE S W cf mf X (.BoolOp op [a] pos) ca := pe_one h
theorem se_and (C : Cxt S sc N X) {rest : List Expr} (ha : SE S W cf mf X a ca) (hb : SE S W cf mf X (.BoolOp .And (b :: rest) pos) cb) : SE S W cf mf X (.BoolOp .And (a :: b :: rest) pos) (.and ca cb) := by
 refine (pe_andT ha hb).to fun σ H Q q => ?_
 obtain ⟨ι, F, G, σ', M, R, rs, p⟩ := q
 refine ⟨ι, F, G, σ', M, R, rs, p.bind.imp fun x' ι1 F1 M1 H1 p1 s1 R1 q1 x dx => ?_⟩
 cases e : tru (der M1 x') with
 | none => rw [e] at q1; exact False.elim q1
 | some k =>
  rw [e] at q1
  refine ⟨k, truV C.hK R1.frz (dx.dv R1) e, ?_⟩
  cases k with
  | true => exact ⟨ι1, F1, G, σ', M1, R1, rs.mono p1 s1, q1⟩
  | false => exact q1 ι1 F1 H1 (.refl _) (.refl _) R1 x dx
theorem se_not (C : Cxt S sc N X) (ha : SE S W cf mf X a ca) : SE S W cf mf X (.UnaryOp .Not a pos) (.not ca) := by
 refine (pe_notT ha).to fun σ H Q q => ?_
 obtain ⟨ι, F, G, σ', M, R, rs, p⟩ := q
 refine ⟨ι, F, G, σ', M, R, rs, p.bind.imp fun x' ι1 F1 M1 H1 p1 s1 R1 q1 x dx => ?_⟩
 obtain ⟨d, e, pf⟩ := PostG.of q1
 obtain ⟨k, e1, rfl⟩ := Option.map_eq_some_iff.mp e
 exact ⟨k, truV C.hK R1.frz (dx.dv R1) e1, Fin1.bl pf R1⟩
theorem st_v (C : Cxt S sc N X) (ha : SE S W cf mf X a ca) (he : ∀ whole, isTrue a X.env whole = (do let v ← whole; standAt a.pos; holding [v] (truthy v))) : ST S W cf mf X a (.v ca) := by
 refine (pt_truth ha he).to fun σ H Q q => ?_
 obtain ⟨ι, F, G, σ', M, R, rs, p⟩ := q
 refine ⟨ι, F, G, σ', M, R, rs, p.bind.imp fun x' ι1 F1 M1 H1 p1 s1 R1 q1 x dx => ?_⟩
 obtain ⟨k, e, pf⟩ := PostG.of q1
 exact ⟨k, truV C.hK R1.frz (dx.dv R1) e, pf ι1 F1 H1 (.refl _) (.refl _) R1⟩
theorem st_cmp (C : Cxt S sc N X) {op : CmpOp} (hm : behindInMarks op b = false) (ha : SE S W cf mf X a ca) (hb : SE S W cf mf X b cb) : ST S W cf mf X (.Compare a [op] [b] pos) (.cmp op ca cb) := by
 refine (pt_cmpR (ro_cmp C.hK C.hu op) ha hb hm).to fun σ H Q q => ?_
 obtain ⟨ι, F, G, σ', M, R, rs, p⟩ := q
 refine ⟨ι, F, G, σ', M, R, rs, p.bind.imp fun x' ι1 F1 M1 H1 p1 s1 R1 q1 x dx => ?_⟩
 refine ⟨ι1, F1, G, σ', M1, R1, rs.mono p1 s1, q1.bind.imp fun y' ι2 F2 M2 H2 p2 s2 R2 q2 y dy => ?_⟩
 cases e : Mn.cmpM M2 op x' y' with
 | none => rw [e] at q2; exact False.elim q2
 | some z =>
  rw [e] at q2
  refine ⟨ι2, F2, G, M2, fun _ _ _ => False, x', y', R2, dx.mono p2 s2, dy, ?_⟩
  show PostG S _ ι2 F2 G _ (Res.of (Mn.cmpM M2 _ x' y') M2)
  rw [e]
  show ∀ ι' F' H', Pre ι2 ι' → Sub F2 F' → Rel S ι' F' G M2 H' → kV1 S _ z ι' F' M2 H'
  intro ι3 F3 H3 p3 s3 R3 v dv
  cases z with
  | bl k =>
   cases dv
   exact ⟨k, rfl, (PostG.weak (r := Res.ok k M2) q2 p3 s3) ι3 F3 H3 (.refl _) (.refl _) R3⟩
  | _ => exact False.elim q2
theorem sw_one {t : Te} {op} (h : ST S W cf mf X a t) (ho : op = .And ∨ op = .Or) : PW X (.BoolOp op [a] pos) (LT S W (evT S.T cf mf t)) := by
 rcases ho with rfl | rfl
 ·exact pw_and1 h
 ·exact pw_or1 h
theorem sw_and {rest : List Expr} {ta tb : Te} (ha : ST S W cf mf X a ta) (hb : PW X (.BoolOp .And (b :: rest) pos) (LT S W (evT S.T cf mf tb))) : PW X (.BoolOp .And (a :: b :: rest) pos) (LT S W (evT S.T cf mf (.and ta tb))) := by
 refine (pw_and ha hb).to fun σ H Q q => ?_
 obtain ⟨ι, F, G, σ', M, R, rs, p⟩ := q
 refine ⟨ι, F, G, σ', M, R, rs, p.bind.imp fun k ι1 F1 M1 H1 p1 s1 R1 q1 => ?_⟩
 cases k with
 | true => exact ⟨ι1, F1, G, σ', M1, R1, rs.mono p1 s1, q1⟩
 | false => exact q1 ι1 F1 H1 (.refl _) (.refl _) R1
theorem sw_or {rest : List Expr} {ta tb : Te} (ha : ST S W cf mf X a ta) (hb : PW X (.BoolOp .Or (b :: rest) pos) (LT S W (evT S.T cf mf tb))) : PW X (.BoolOp .Or (a :: b :: rest) pos) (LT S W (evT S.T cf mf (.or ta tb))) := by
 refine (pw_or ha hb).to fun σ H Q q => ?_
 obtain ⟨ι, F, G, σ', M, R, rs, p⟩ := q
 refine ⟨ι, F, G, σ', M, R, rs, p.bind.imp fun k ι1 F1 M1 H1 p1 s1 R1 q1 => ?_⟩
 cases k with
 | false => exact ⟨ι1, F1, G, σ', M1, R1, rs.mono p1 s1, q1⟩
 | true => exact q1 ι1 F1 H1 (.refl _) (.refl _) R1
theorem st_not {ta : Te} (ha : ST S W cf mf X a ta) : ST S W cf mf X (.UnaryOp .Not a pos) (.not ta) := by
 refine (pt_not ha).to fun σ H Q q => ?_
 obtain ⟨ι, F, G, σ', M, R, rs, p⟩ := q
 exact ⟨ι, F, G, σ', M, R, rs, p.bind.imp fun k ι1 F1 M1 H1 p1 s1 R1 q1 => q1 ι1 F1 H1 (.refl _) (.refl _) R1⟩
theorem se_ife {t : Te} (hc : ST S W cf mf X c t) (ha : SE S W cf mf X a ca) (hb : SE S W cf mf X b cb) : SE S W cf mf X (.IfExp c a b pos) (.ife t ca cb) := by
 refine (pe_ifExp hc ha hb).to fun σ H Q q => ?_
 obtain ⟨ι, F, G, σ', M, R, rs, p⟩ := q
 refine ⟨ι, F, G, σ', M, R, rs, p.bind.imp fun k ι1 F1 M1 H1 p1 s1 R1 q1 => ?_⟩
 cases k with
 | true => exact ⟨ι1, F1, G, σ', M1, R1, rs.mono p1 s1, q1⟩
 | false => exact ⟨ι1, F1, G, σ', M1, R1, rs.mono p1 s1, q1⟩
theorem sa_nil : SA S W cf mf X [] .nil := pa_nil.to fun σ H Q q => by
 obtain ⟨ι, F, G, σ', M, R, rs, p⟩ := q
 exact p ι F H (.refl _) (.refl _) R [] .nil
theorem sa_cons {es : List Expr} {cs : Es} (hs : starEach (e :: es) X.env = (false, eval e X.env) :: starEach es X.env) (ha : SE S W cf mf X e ca) (hr : SA S W cf mf X es cs) : SA S W cf mf X (e :: es) (.cons ca cs) := by
 refine (pa_cons ha hr hs).to fun σ H Q q => ?_
 obtain ⟨ι, F, G, σ', M, R, rs, p⟩ := q
 refine ⟨ι, F, G, σ', M, R, rs, p.bind.imp fun x' ι1 F1 M1 H1 p1 s1 R1 q1 x dx => ?_⟩
 refine ⟨ι1, F1, G, σ', M1, R1, rs.mono p1 s1, q1.bind.imp fun xs' ι2 F2 M2 H2 p2 s2 R2 q2 xs dxs => ?_⟩
 exact q2 ι2 F2 H2 (.refl _) (.refl _) R2 (x :: xs) (.cons (dx.mono p2 s2) dxs)
def noStar : Es → Bool
 | .nil => true
 | .cons _ r => noStar r
 | .star _ _ => false
def lenE : Es → Nat
 | .nil => 0
 | .cons _ r => lenE r + 1
 | .star _ r => lenE r + 1
theorem evs_len {T : Tab} : ∀ {cs : Es} {σ : Sl} {M M' : Mem} {ds : List D}, noStar cs = true → evs T cf mf cs σ M = .ok ds M' → ds.length = lenE cs
 | .nil, σ, M, M', ds, _, e => by cases e; rfl
 | .cons c r, σ, M, M', ds, h, e => by
  unfold evs at e
  cases e1 : ev T cf mf c σ M with
  | ok x M1 =>
   rw [e1] at e
   cases e2 : evs T cf mf r σ M1 with
   | ok xs M2 =>
    replace e : (evs T cf mf r σ M1).bind (fun xs M2 => .ok (x :: xs) M2) = .ok ds M' := e
    rw [e2] at e
    cases e
    rw [List.length_cons, evs_len (cs := r) h e2]
    rfl
   | exc _ _ _ =>
    replace e : (evs T cf mf r σ M1).bind (fun xs M2 => .ok (x :: xs) M2) = .ok ds M' := e
    rw [e2] at e; cases e
   | bad =>
    replace e : (evs T cf mf r σ M1).bind (fun xs M2 => .ok (x :: xs) M2) = .ok ds M' := e
    rw [e2] at e; cases e
  | exc _ _ _ => rw [e1] at e; cases e
  | bad => rw [e1] at e; cases e
theorem se_tup {es : List Expr} {cs : Es} {k} (h : SA S W cf mf X es cs) (hn : noStar cs = true) (hl : lenE cs ≤ 1000) : SE S W cf mf X (.Tuple es k pos) (.tup cs) := by
 refine (pe_tup h).to fun σ H Q q => ?_
 obtain ⟨ι, F, G, σ', M, R, rs, p⟩ := q
 refine ⟨ι, F, G, σ', M, R, rs, ?_⟩
 cases e : evs S.T cf mf cs σ' M with
 | ok ds M1 =>
  have hl2 := evs_len hn e
  replace p : PostG S _ ι F G (kV1 S Q) ((evs S.T cf mf cs σ' M).bind fun ds M1 => .ok (.tup ds) M1) := p
  rw [e] at p
  intro ι1 F1 H1 p1 s1 R1 vs dvs
  refine ⟨by rw [dvs.1, hl2]; exact big_le (Nat.le_trans hl (by decide)), fun q hq => ?_⟩
  exact Fin1.tup (fun ι' F' H' p' s' R' => p ι' F' H' (p1.trans p') (s1.trans s') R') R1 dvs hq
 | exc _ _ _ =>
  replace p : PostG S _ ι F G (kV1 S Q) ((evs S.T cf mf cs σ' M).bind fun ds M1 => .ok (.tup ds) M1) := p
  rw [e] at p
  exact p
 | bad =>
  replace p : PostG S _ ι F G (kV1 S Q) ((evs S.T cf mf cs σ' M).bind fun ds M1 => .ok (.tup ds) M1) := p
  rw [e] at p
  exact p
end
end Mn
end
section
namespace Mn
open PySem PySem.Spec PyProof.Rows L2
section
variable {S : Sit} {W : L2.WX} {cf mf : Calls} {X : Cx} {sc : Scope} {N : List Str} {a b c e : Expr} {ca cb cc : Ex} {pos : Pos}
theorem an_inj (hn : S.names.Nodup) {f g : Nat} (hf : f < S.names.length) (hg : g < S.names.length) (h : S.an f = S.an g) : f = g := by
 unfold Sit.an at h
 rw [List.getD_eq_getElem?_getD, List.getD_eq_getElem?_getD, List.getElem?_eq_getElem hf, List.getElem?_eq_getElem hg] at h
 exact (List.getElem_inj hn).mp h
theorem lookup_lt {fs : List (Nat × D)} {f : Nat} {d : D} (h : fs.lookup f = some d) : ∃ p ∈ fs, p.1 = f := by
 induction fs with
 | nil => cases h
 | cons p r ih =>
  rw [List.lookup_cons] at h
  split at h
  ·rename_i hh
   exact ⟨p, List.mem_cons_self, by simpa using (beq_iff_eq.mp hh).symm⟩
  ·obtain ⟨q, h1, h2⟩ := ih h
   exact ⟨q, List.mem_cons_of_mem _ h1, h2⟩
theorem lookup_den {ι : List Addr} {F : Hp} (hn : S.names.Nodup) {f : Nat} (hf : f < S.names.length) : ∀ {fs : List (Nat × D)} {gs : List (Str × V)} {d : D}, (∀ p ∈ fs, p.1 < S.names.length) → DenF S ι F fs gs → fs.lookup f = some d → ∃ v, gs.lookup (S.an f) = some v ∧ Den S ι F d v
 | [], _, _, _, _, h => by cases h
 | p :: fs, gs, d, hl, h, e => by
  obtain ⟨h1, h2, h3⟩ := h
  cases gs with
  | nil => simp at h1
  | cons q gs =>
   obtain ⟨q1, q2⟩ := q
   obtain ⟨p1, p2⟩ := p
   have e1 := h2 0 (p1, p2) (q1, q2) rfl rfl
   have e2 := h3 0 (p1, p2) (q1, q2) rfl rfl
   simp only at e1 e2
   rw [List.lookup_cons] at e ⊢
   by_cases z : f = p1
   ·rw [show (f == p1) = true by simpa using z] at e
    cases e
    rw [show (S.an f == q1) = true by rw [e1, z]; simp]
    exact ⟨q2, rfl, e2⟩
   ·rw [show (f == p1) = false by simpa using z] at e
    have hne : (S.an f == q1) = false := by
     rw [e1]
     refine beq_eq_false_iff_ne.mpr fun h => z (an_inj hn hf (hl (p1, p2) List.mem_cons_self) h)
    rw [hne]
    exact lookup_den hn hf (fun r hr => hl r (List.mem_cons_of_mem _ hr)) ⟨by simpa using h1, fun i p q a b => h2 (i + 1) p q (by simpa using a) (by simpa using b), fun i p q a b => h3 (i + 1) p q (by simpa using a) (by simpa using b)⟩ e
theorem se_att (C : Cxt S sc N X) (hn : S.names.Nodup) {f : Nat} {x : Str} (hx : S.an f = x) (hb : attributeBase a x X.env (eval a X.env) = eval a X.env) (ha : SE S W cf mf X a ca) : SE S W cf mf X (.Attribute a x pos) (.att ca f) := by
 refine (pe_fld ha hb).to fun σ H Q q => ?_
 obtain ⟨ι, F, G, σ', M, R, rs, p⟩ := q
 refine ⟨ι, F, G, σ', M, R, rs, p.bind.imp fun x' ι1 F1 M1 H1 p1 s1 R1 q1 x dx => ?_⟩
 obtain ⟨d, e, pf⟩ := PostG.of q1
 have dv := dx.dv R1
 revert e dv
 generalize der M1 x' = y
 intro e dv
 cases dv with
 | @ins ad dxx cc gs fs h1 h2 h3 =>
  have e : fs.lookup f = some d := e
  obtain ⟨p, hp, hpf⟩ := lookup_lt e
  have hf : f < S.names.length := by rw [← hpf]; exact h2.lt p hp
  obtain ⟨v, e1, e2⟩ := lookup_den hn hf h2.lt h3 e
  rw [hx] at e1
  refine ⟨ad, _, dxx, gs, v, rfl, h1, by rw [C.hK]; exact h2.cls, ?_, e1, Fin1.val pf R1 e2⟩
  have := h2.no p hp
  rw [hpf, hx] at this
  rw [C.hK]
  exact this
 | _ => cases e
def LO (S : Sit) (W : L2.WX) (f : Sl → Mem → Res (Option Int)) : TO := fun σ H Q => ∃ ι F G σ' M, Rel S ι F G M H ∧ RS S ι F σ' σ ∧ PostG S (fun c e H => W c e σ H) ι F G (fun o _ _ _ H => Q o H) (f σ' M)
theorem _root_.L2.PO.to {X : Cx} {e : Option Expr} {t t' : TO} (h : PO X e t) (i : ∀ σ H Q, t' σ H Q → t σ H Q) : PO X e t' := ⟨fun pins s σ H Q I q => h.run pins s σ H Q I (i σ H Q q)⟩
theorem so_no : PO X none (LO S W (evp S.T cf mf .no)) := po_none.to fun σ H Q q => by
 obtain ⟨ι, F, G, σ', M, R, rs, p⟩ := q
 exact p ι F H (.refl _) (.refl _) R
theorem so_ex (h : SE S W cf mf X e ca) : PO X (some e) (LO S W (evp S.T cf mf (.ex ca))) := (po_some h).to fun σ H Q q => by
 obtain ⟨ι, F, G, σ', M, R, rs, p⟩ := q
 refine ⟨ι, F, G, σ', M, R, rs, p.bind.imp fun x' ι1 F1 M1 H1 p1 s1 R1 q1 x dx => ?_⟩
 cases dx with
 | int i => exact ⟨i, rfl, q1 ι1 F1 H1 (.refl _) (.refl _) R1⟩
 | _ => exact False.elim q1
theorem se_slc (C : Cxt S sc N X) {lo hi : Option Expr} {cl ch : Eo} {p2 : Pos} (ha : SE S W cf mf X a ca) (hl : PO X lo (LO S W (evp S.T cf mf cl))) (hh : PO X hi (LO S W (evp S.T cf mf ch))) : SE S W cf mf X (.Subscript a (.Slice lo hi none p2) pos) (.slc ca cl ch) := by
 refine (pe_slice (sl_all C.hK) ha hl hh).to fun σ H Q q => ?_
 obtain ⟨ι, F, G, σ', M, R, rs, p⟩ := q
 refine ⟨ι, F, G, σ', M, R, rs, p.bind.imp fun x' ι1 F1 M1 H1 p1 s1 R1 q1 x dx => ?_⟩
 refine ⟨ι1, F1, G, σ', M1, R1, rs.mono p1 s1, q1.bind.imp fun l ι2 F2 M2 H2 p2 s2 R2 q2 => ?_⟩
 refine ⟨ι2, F2, G, σ', M2, R2, (rs.mono p1 s1).mono p2 s2, q2.bind.imp fun h ι3 F3 M3 H3 p3 s3 R3 q3 => ?_⟩
 exact ⟨ι3, F3, G, M3, _, x', R3, (dx.mono p2 s2).mono p3 s3, q3⟩
theorem se_bltB (C : Cxt S sc N X) {id : String} {x : Str} {bf : Bi} {es : List Expr} {cs : Es} {p : Pos} (hr : CallR X (.builtin id) (RB S bf)) (hg : Gl X x) (hm : X.mg x = none) (hv : bootBuiltins x = some (.builtin id)) (ha : SA S W cf mf X (e :: es) cs) (hn : x ≠ "__name__") (hd : (x == ("__debug__" : Str)) = false)
  (he : starEach (e :: es) X.env = (false, eval e X.env) :: starEach es X.env) (hpl : (backTo pos (starEach es X.env)).any (·.1) = false) : SE S W cf mf X (.Call (.Name x p) (e :: es) [] pos) (.blt bf cs) :=
 (pe_callB hr hg hm hv ha hn hd he hpl).to fun σ H Q q => le_list (g := fun as M => .of (bi bf (as.map (der M))) M) q
theorem se_bltT (C : Cxt S sc N X) {T : String} {x : Str} {bf : Bi} {es : List Expr} {cs : Es} {p : Pos} (hr : CallR X (.type T) (RB S bf)) (hg : Gl X x) (hm : X.mg x = none) (hv : bootBuiltins x = some (.type T)) (ha : SA S W cf mf X (e :: es) cs) (hn : x ≠ "__name__") (hd : (x == ("__debug__" : Str)) = false)
  (he : starEach (e :: es) X.env = (false, eval e X.env) :: starEach es X.env) (hpl : (backTo pos (starEach es X.env)).any (·.1) = false) : SE S W cf mf X (.Call (.Name x p) (e :: es) [] pos) (.blt bf cs) :=
 (pe_callTy hr hg hm hv ha hn hd he hpl).to fun σ H Q q => le_list (g := fun as M => .of (bi bf (as.map (der M))) M) q
def SpF (S : Sit) (np : Nat) (g : List D → Mem → Res D) : Sp := fun vs H Q E => vs.length = np ∧ ∃ ι F G M as, Rel S ι F G M H ∧ DenL S ι F as vs ∧ PostG S (fun c e H => E c e H) ι F G (kV1 S Q) (g as M)
structure Callee (S : Sit) (X : Cx) (cf : Calls) (f : Nat) (x : Str) : Prop where
 ok : ∃ k fd ps np, FnOk X.prog X.w X.K X.mg X.base (L2.CX X.prog X.w) k (S.fa f) fd ps (SpF S np (cf f)) ∧ Room k X.A ∧ Binds X.K fd ps [] ∧ ∀ as M, as.length ≠ np → cf f as M = .bad
 hm : X.mg x = some (.ref (S.fa f))
 hk : PySem.W.keepIn X.K (.ref (S.fa f)) = true
theorem se_cal (tk : Takes X W) {f : Nat} {x : Str} {es : List Expr} {cs : Es} {p : Pos} (F : Callee S X cf f x) (hg : Gl X x) (ha : SA S W cf mf X (e :: es) cs) (hd : (x == ("__debug__" : Str)) = false)
  (he : starEach (e :: es) X.env = (false, eval e X.env) :: starEach es X.env) (hpl : (backTo pos (starEach es X.env)).any (·.1) = false) : SE S W cf mf X (.Call (.Name x p) (e :: es) [] pos) (.cal f cs) := by
 obtain ⟨k, fd, ps, np, F1, hr, hb, hnp⟩ := F.ok
 refine (pe_callS F1 hr hg F.hm F.hk hb (passAt tk) ha hd he hpl).to fun σ H Q q => ?_
 obtain ⟨ι, F, G, σ', M, R, rs, p⟩ := q
 refine ⟨ι, F, G, σ', M, R, rs, p.bind.imp fun as ι1 F1 M1 H1 p1 s1 R1 q1 vs dvs => ⟨?_, ι1, F1, G, M1, as, R1, dvs, q1⟩⟩
 by_cases z : as.length = np
 ·rw [dvs.1, z]
 ·rw [hnp as M1 z] at q1
  exact False.elim q1
end
end Mn
end
section
namespace Mn
open PySem PySem.W PySem.SeqAt PySem.Calls PyProof.Rows
section
variable {prog : Program} {w : World} {A : Around} {E : Value → Shared → Prop} {s : Shared}
theorem call_tuple_lt {Q : Value → Shared → Prop} {l b : Addr} {items items2 : Array Value} {e r : Nat → Bool} (hl : s.heap.IsTuple l items) (hb : s.heap.IsTuple b items2)
  (he : ∀ j (h1 : j < items.size) (h2 : j < items2.size), EqAt A.in1 s items[j] items2[j] (e j)) (hr : ∀ j (h1 : j < items.size) (h2 : j < items2.size), e j = false → RcLt A.in1 s items[j] items2[j] (r j))
  (h : Q (.bool (firstLt e r (decide (items.size < items2.size)) (List.range (min items.size items2.size)))) s) : wpAny (model prog w) A (call (.builtin "tuple.__lt__") [.ref l, .ref b]) Q E s := by
 obtain ⟨⟨cls, dd, data, sl⟩, ho, hc, n, hd⟩ := id hl
 obtain ⟨⟨cls2, dd2, data2, sl2⟩, ho2, hc2, n2, hd2⟩ := id hb
 simp only at hc hd hc2 hd2
 subst hc hd hc2 hd2
 exact call_meets F.slot_tuple_lt ⟨_, ho, rfl⟩ F.entry_tuple_lt (F.args_tuple_lt_2 _ _) (tuple_ltAt l b items items2 n n2 dd dd2 sl sl2 e r) ⟨ho, ho2, he, hr, h⟩
theorem oneLt_tup {xs ys : List PyData} {a b : Value} {as bs : List Addr} {Q : Bool → Shared → Prop} (ra : Reads s.heap a (.tuple xs) as) (rb : Reads s.heap b (.tuple ys) bs) (h : alike (.tuple xs) (.tuple ys) = true)
  (hu : A.units + min (PyData.tuple xs).depth (PyData.tuple ys).depth < cLine) (hq : Q (dataLt (.tuple xs) (.tuple ys)) s) : wpAny (model prog w) A (oneLt' true a b) Q E s := by
 have hal : alikeAll xs ys = true := by simpa [alike] using h
 cases ra with
 | @tuple l o vs n _ as₁ h1 h2 h3 h4 =>
  cases rb with
  | @tuple l' o' vs' n' _ bs₁ k1 k2 k3 k4 =>
   have n1 : vs.size = xs.length := by simpa using ReadsAll.length _ _ _ h4
   have n2 : vs'.size = ys.length := by simpa using ReadsAll.length _ _ _ k4
   rw [dataLt_tuple, ← firstLt_toks xs ys hal, ← n1, ← n2] at hq
   rw [oneLt'_eq]
   simp only [if_true]
   refine wpAny_bind (wpAny_cRoomFor (room_here hu) ?_)
   refine wpAny_bind (wpAny_callSpecialIfBound?_slot (T := "tuple") ⟨_, h1, h2⟩ F.slot_tuple_lt (call_tuple_lt (e := pairEq xs ys) (r := fun j => dataLt (xs.getD j .none) (ys.getD j .none)) ⟨_, h1, h2, _, h3⟩ ⟨_, k1, k2, _, k3⟩ (fun j j1 j2 => ?_) (fun j j1 j2 hj => ?_) ?_))
   ·have := eqAt_alikeAll xs ys A.in1 s vs.toList vs'.toList _ _ h4 k4 hal (room_in hu) j (by simpa using j1) (by simpa using j2)
    simpa using this
   ·have := rcLt_alikeAll xs ys A.in1 s vs.toList vs'.toList _ _ h4 k4 hal (room_in hu) j (by simpa using j1) (by simpa using j2) hj
    simpa using this
   ·exact wpAny_truthy_bool hq
end
section
variable {M : Model} {A : Around} {E : Value → Shared → Prop} {s : Shared}
theorem emp_firsts : ∀ (vs : List Value) {Q : List (Option Value) → Shared → Prop}, (∀ v ∈ vs, ∃ xs as, Reads s.heap v (.tuple xs) as) → (∀ fs, Q fs s) → wpAny M A (vs.mapM firstOfTuple') Q E s
 | [], _, _, h => by rw [List.mapM_nil]; exact wpAny_pure (h _)
 | v :: vs, Q, t, h => by
  obtain ⟨xs, as, r⟩ := t v (List.mem_cons_self ..)
  cases r with
  | @tuple a o its n _ _ ho hc hd hr =>
   rw [List.mapM_cons]
   refine wpAny_bind ?_
   rw [kas_first_eq]
   refine wpAny_bind (Looks.here (show Looks M s.heap (typeOf (.ref a)) o.cls from (Looks.ld ho).andThen .now) ?_)
   rw [hc, if_neg (by first | decide | simp)]
   refine wpAny_bind (listItems_at ho hd (wpAny_pure ?_))
   exact wpAny_bind (emp_firsts vs (Q := fun bs s' => wpAny M A (pure (its[0]? :: bs)) Q E s') (fun v hv => t v (List.mem_cons_of_mem _ hv)) (fun fs => wpAny_pure (h _)))
theorem emp_kind {v₁ : Value} {rest : List Value} {as₁ : List Addr} {Q : SortKind → Shared → Prop} (h1 : Reads s.heap v₁ (.tuple []) as₁) (t : ∀ v ∈ v₁ :: rest, ∃ xs as, Reads s.heap v (.tuple xs) as) (h : Q oneType' s) : wpAny M A (keyKind' (v₁ :: rest).toArray) Q E s := by
 have hT : ∀ v ∈ v₁ :: rest, Looks M s.heap (typeOf v) (Value.type "tuple") := fun v hv => by
  obtain ⟨xs, as, r⟩ := t v hv
  exact looks_reads r
 rw [kat_kind_eq, List.mapM_toArray, map_eq_pure_bind]
 refine wpAny_bind (wpAny_bind ?_)
 rw [List.mapM_cons]
 cases h1 with
 | @tuple a o its n _ _ ho hc hd hr =>
  have hits : its[0]? = none := by
   have : its.size = 0 := by simpa using ReadsAll.length _ _ _ hr
   simp [this]
  refine wpAny_bind ?_
  rw [kas_first_eq]
  refine wpAny_bind (Looks.here (show Looks M s.heap (typeOf (.ref a)) o.cls from (Looks.ld ho).andThen .now) ?_)
  rw [hc, if_neg (by first | decide | simp)]
  refine wpAny_bind (listItems_at ho hd (wpAny_pure ?_))
  rw [hits]
  refine wpAny_bind (emp_firsts rest (fun v hv => t v (List.mem_cons_of_mem _ hv)) (fun fs => wpAny_pure (wpAny_pure ?_)))
  rw [if_neg (by simp), if_neg (by simp)]
  rw [oneTypeOnly'_eq, List.mapM_toArray, map_eq_pure_bind]
  refine wpAny_bind (wpAny_bind (wpAny_bind (kas_mapM (r := Value.type "tuple") _ (fun v hv Q' hq => (hT v hv).here hq) (wpAny_pure ?_))))
  have hall : ((List.map (fun _ => Value.type "tuple") (Value.ref a :: rest)).toArray.all fun x => x == Value.type "tuple") = true := by
   simp only [List.all_toArray, List.all_map, List.all_eq_true]
   intro _ _
   rfl
  have h0 : (List.map (fun _ => Value.type "tuple") (Value.ref a :: rest)).toArray[0]? = some (Value.type "tuple") := by simp
  rw [h0]
  simp only [hall, if_true]
  exact wpAny_pure (wpAny_pure h)
end
section
variable {prog : Program} {w : World} {A : Around} {s : Shared}
theorem sortsAt_emp {vs : List Value} {ds : List PyData} (e : EachIs (fun v d => ∃ as, Reads s.heap v d as) vs ds) (hal : AllAlike ds) (hh : ∃ r, ds = .tuple [] :: r) (ht : ∀ d, d ∈ ds → ∃ xs, d = .tuple xs) (hu : ∀ d, d ∈ ds → A.units + d.depth < cLine) : SortsAt prog w A s (dataKind s.heap ds) vs := by
 have room : ∀ {d d' : PyData}, d ∈ ds → A.units + min d.depth d'.depth < cLine := fun {d d'} hd => Nat.lt_of_le_of_lt (Nat.add_le_add_left (Nat.min_le_left _ _) _) (hu d hd)
 refine ⟨fun v hv => ?_, oneType', ?_, fun h2 E Q hq => ?_⟩
 ·obtain ⟨d, hd, as, r⟩ := e.left v hv
  exact ⟨_, dataKind_some hal hd r⟩
 ·intro E x y a b Q ha hb hq
  obtain ⟨d, as, hd, ra, rfl⟩ := dataKind_inv ha
  obtain ⟨d', as', hd', rb, rfl⟩ := dataKind_inv hb
  rw [keyLt'_oneType]
  have hdd := hal d hd d' hd'
  have hroom := room (d' := d') hd
  obtain ⟨x1, rfl⟩ := ht d hd
  obtain ⟨x2, rfl⟩ := ht d' hd'
  exact oneLt_tup ra rb hdd hroom hq
 ·obtain ⟨r, rfl⟩ := hh
  cases e with
  | cons h t =>
   obtain ⟨as, h1⟩ := h
   refine emp_kind h1 (fun v hv => ?_) hq
   rcases List.mem_cons.mp hv with rfl | hv
   ·exact ⟨_, _, h1⟩
   ·obtain ⟨d, hd, as', r'⟩ := t.left v hv
    obtain ⟨xs, rfl⟩ := ht d (List.mem_cons_of_mem _ hd)
    exact ⟨_, _, r'⟩
end
end Mn
end
section
namespace Mn
open PySem PySem.Spec PyProof.Rows L2
section
variable {X : Cx} {S : Sit} {pins : List (Addr × Obj)} {σ : L2.St} {H : Hp} {s : Shared} {ι : List Addr} {F G : Hp} {M : Mem} {Q : VK} {E : Value → Shared → Prop}
def Sd (S : Sit) (ι : List Addr) (F : Hp) (u : Value) (d : D) : Prop := ∃ v, RelV v u ∧ Den S ι F d v
theorem sd_all : ∀ {ds : List D} {vs : List V} {us : List Value}, DenL S ι F ds vs → Vals vs us → PySem.W.EachIs (Sd S ι F) us ds
 | [], vs, us, h, r => by
  obtain rfl := h.inv0
  cases r
  exact .nil
 | d :: ds, vs, us, h, r => by
  obtain ⟨x, xs, rfl, h1, h2⟩ := h.inv
  cases r with
  | cons r1 r2 => exact .cons ⟨x, r1, h1⟩ (sd_all h2 r2)
theorem sd_back : ∀ {ds : List D} {us : List Value}, PySem.W.EachIs (Sd S ι F) us ds → ∃ vs, Vals vs us ∧ DenL S ι F ds vs
 | _, _, .nil => ⟨[], .nil, .nil⟩
 | _, _, .cons ⟨v, r, h⟩ t => by
  obtain ⟨vs, g1, g2⟩ := sd_back t
  exact ⟨v :: vs, .cons r g1, .cons h g2⟩
theorem each_imp {α β : Type} {P P' : α → β → Prop} : ∀ {us : List α} {ds : List β}, PySem.W.EachIs P us ds → (∀ u d, d ∈ ds → P u d → P' u d) → PySem.W.EachIs P' us ds
 | _, _, .nil, _ => .nil
 | _, _, .cons h t, k => .cons (k _ _ List.mem_cons_self h) (each_imp t fun u d m => k u d (List.mem_cons_of_mem _ m))
theorem like_al {a b : D} (h : likeD a b = true) : PySem.W.alike (toP a) (toP b) = true ∧ shp 8 a = true ∧ shp 8 b = true := by
 unfold likeD at h
 simp only [Bool.and_eq_true] at h
 exact ⟨h.1.2, h.1.1.1, h.1.1.2⟩
theorem allAl_mem : ∀ {ds : List D}, allAl ds = true → ∀ a ∈ ds, ∀ b ∈ ds, likeD a b = true
 | [], _, a, ha, _, _ => by cases ha
 | x :: r, h, a, ha, b, hb => by
  unfold allAl at h
  simp only [Bool.and_eq_true, List.all_eq_true] at h
  rcases List.mem_cons.mp ha with ea | ha
  ·rcases List.mem_cons.mp hb with eb | hb
   ·rw [ea, eb]; exact h.1.1
   ·rw [ea]; exact (h.1.2 b hb).1
  ·rcases List.mem_cons.mp hb with eb | hb
   ·rw [eb]; exact (h.1.2 a ha).2
   ·exact allAl_mem h.2 a ha b hb
theorem sortable_of {ds : List D} (hal : allAl ds = true) (h : (ds.all isT1 || ds.all notTN) = true) : PySem.W.Sortable (ds.map toP) := by
 rw [Bool.or_eq_true, List.all_eq_true, List.all_eq_true] at h
 rcases h with h | h
 ·left
  intro d hd
  obtain ⟨x, hx, rfl⟩ := List.mem_map.mp hd
  have := h x hx
  cases x <;> simp [isT1] at this
  all_goals
   rename_i xs
   cases xs with
   | nil => simp [isT1] at this
   | cons y r => exact ⟨toP y, toPs r, by simp [toP, toPs]⟩
 ·right
  intro d hd
  obtain ⟨x, hx, rfl⟩ := List.mem_map.mp hd
  have h1 := h x hx
  have h2 := (like_al (allAl_mem hal x hx x hx)).2.1
  cases x <;> simp_all [notTN, toP, shp]
theorem emp_of {ds : List D} (hal : allAl ds = true) (h : (hdE ds && ds.all isTp) = true) : (∃ r, ds.map toP = .tuple [] :: r) ∧ ∀ d, d ∈ ds.map toP → ∃ xs, d = .tuple xs := by
 rw [Bool.and_eq_true, List.all_eq_true] at h
 refine ⟨?_, fun d hd => ?_⟩
 ·cases ds with
  | nil => cases h.1
  | cons x r =>
   have h1 := h.1
   unfold hdE at h1
   split at h1
   ·rename_i e
    cases e
    exact ⟨List.map toP _, by simp [toP, toPs]; rfl⟩
   ·cases h1
 ·obtain ⟨x, hx, rfl⟩ := List.mem_map.mp hd
  have := h.2 x hx
  cases x <;> simp [isTp] at this
  all_goals exact ⟨toPs _, by simp only [toP]; rfl⟩
theorem sort_tail {ds es : List D} {vs : List V} {acc : List Value} (hK : X.K = S.K) (hu : X.A.units + 80 < cLine) (I : Inv X pins σ H s) (R : Rel S ι F G M H) (hd : DenL S ι F ds vs) (rv : Vals vs acc) (hL : vs.length ≤ sizeLine) (ok : sortD ds = some es)
  (hq : ∀ ws p, DenL S ι F es ws → H p = none → Q (.ref p) (upd H p (.lst ws))) :
  wpAny (model X.prog X.w) X.A.in1 (call (.builtin "list.sort") [.ref s.heap.objs.size]) (fun _ s' => EP X pins σ Q (.ref s.heap.objs.size) s') E { s with heap := s.heap.push { cls := .type "list", data := .seq acc.toArray } } := by
 have hh : (allAl ds = true ∧ ((ds.all isT1 || ds.all notTN) = true ∨ (hdE ds && ds.all isTp) = true)) ∧ es = ds.mergeSort leD := by
  unfold sortD at ok
  split at ok
  ·rename_i hh
   cases ok
   rw [Bool.and_eq_true] at hh
   exact ⟨⟨hh.1, .inl hh.2⟩, rfl⟩
  ·split at ok
   ·rename_i hh
    cases ok
    rw [Bool.and_eq_true] at hh
    exact ⟨⟨hh.1, .inr hh.2⟩, rfl⟩
   ·cases ok
 obtain ⟨⟨hal, hso⟩, rfl⟩ := hh
 have hal2 : PySem.W.AllAlike (ds.map toP) := fun a ha b hb => by
  obtain ⟨x, hx, rfl⟩ := List.mem_map.mp ha
  obtain ⟨y, hy, rfl⟩ := List.mem_map.mp hb
  exact (like_al (allAl_mem hal x hx y hy)).1
 have hlen := rv.length
 have hob : (s.heap.push { cls := .type "list", data := .seq acc.toArray }).get? s.heap.objs.size = some (seqObj "list" acc.toArray 0) := Heap.get?_push_size _ rfl
 have old : ∀ b o, s.heap.get? b = some o → (s.heap.push { cls := .type "list", data := .seq acc.toArray }).get? b = some o := fun b o e => Heap.get?_push_of_some _ e
 have each := sd_all hd rv
 have rd : PySem.W.EachIs (fun v b => ∃ as, Reads (PySem.W.sortingHeap (s.heap.push { cls := .type "list", data := .seq acc.toArray }) s.heap.objs.size acc) v (toP b) as) acc ds := each_imp each fun u d hm hs => by
  obtain ⟨v, r, hv⟩ := hs
  obtain ⟨h1, _, _⟩ := Den.dp (ι := ι) R.frz 8 d v (like_al (allAl_mem hal d hm d hm)).2.1 hv
  rw [← hK] at h1
  obtain ⟨as, q⟩ := Dp.reads I _ _ _ h1 r
  exact ⟨as, PyProof.Rows.Reads.keeps (fun b o e => PySem.W.sortingHeap_old (Nat.ne_of_lt (Heap.lt_size e)) (old b o e)) q⟩
 have hS : PySem.W.SortsAt X.prog X.w X.A.in1.in1 { s with heap := PySem.W.sortingHeap (s.heap.push { cls := .type "list", data := .seq acc.toArray }) s.heap.objs.size acc } (PySem.W.dataKind (PySem.W.sortingHeap (s.heap.push { cls := .type "list", data := .seq acc.toArray }) s.heap.objs.size acc) (ds.map toP)) acc := by
  have hbound : ∀ d, d ∈ ds.map toP → X.A.in1.in1.units + d.depth < cLine := fun d hm => ?_
  ·rcases hso with hso | hso
   ·exact PySem.W.SortsAt.data (PySem.W.each_map (R := fun v d => ∃ as, Reads (PySem.W.sortingHeap (s.heap.push { cls := .type "list", data := .seq acc.toArray }) s.heap.objs.size acc) v d as) toP rd) hal2 (sortable_of hal hso) hbound
   ·obtain ⟨e1, e2⟩ := emp_of hal hso
    exact sortsAt_emp (PySem.W.each_map (R := fun v d => ∃ as, Reads (PySem.W.sortingHeap (s.heap.push { cls := .type "list", data := .seq acc.toArray }) s.heap.objs.size acc) v d as) toP rd) hal2 e1 e2 hbound
  obtain ⟨x, hx, rfl⟩ := List.mem_map.mp hm
  obtain ⟨v, hv⟩ : ∃ v, Den S ι F x v := by
   obtain ⟨i, hi⟩ := List.mem_iff_getElem?.mp hx
   obtain ⟨v, _, hv⟩ := hd.get hi
   exact ⟨v, hv⟩
  obtain ⟨_, _, h3⟩ := Den.dp (ι := ι) R.frz 8 x v (like_al (allAl_mem hal x hx x hx)).2.1 hv
  show X.A.units + 1 + 1 + _ < cLine
  omega
 have hz : (PySem.W.sortVals (PySem.W.dataKind (PySem.W.sortingHeap (s.heap.push { cls := .type "list", data := .seq acc.toArray }) s.heap.objs.size acc) (ds.map toP)) false acc acc).length = acc.length := PySem.W.sortVals_length false rfl
 obtain ⟨ws, g1, g2⟩ := sd_back (PySem.W.sortVals_data false each rd hal2)
 refine wpAny_call_entry PyProof.Rows.slot_list_sort ⟨_, hob, rfl⟩ PyProof.Rows.entry_list_sort (PySem.W.list_sort_vals (s := { s with heap := s.heap.push { cls := .type "list", data := .seq acc.toArray } }) hob hS oM ⟨.none, rfl, ?_⟩) (PyProof.Rows.args_list_sort _)
 revert g1 hz
 generalize PySem.W.sortVals (PySem.W.dataKind (PySem.W.sortingHeap (s.heap.push { cls := .type "list", data := .seq acc.toArray }) s.heap.objs.size acc) (ds.map toP)) false acc acc = out
 intro hz g1
 obtain ⟨e', he'⟩ := PyProof.Rows.sortedHeap_at (vs := acc) (out := out.toArray) hob
 have hl2 : ws.length ≤ sizeLine := by have := g1.length; omega
 refine ⟨.ref s.heap.objs.size, upd H s.heap.objs.size (.lst ws), I.laid (t' := s.toks) (fun b u e => ?_) (Nat.le_refl _) (show ObjOk X.prog X.w _ _ _ (.lst ws) from ⟨hl2, out, e', g1, he'⟩), rfl, hq ws _ g2 (I.hok.fresh (Nat.le_refl _))⟩
 have hb : b < s.heap.objs.size := Heap.lt_size e
 rw [PyProof.Rows.sortedHeap_old (Nat.ne_of_lt hb) (by rw [size_push']; exact Nat.lt_succ_of_lt hb)]
 exact old b u e
end
end Mn
end
section
namespace Mn
open PySem PySem.Spec PyProof.Rows L2
theorem Rel.seeAll {S : Sit} {ι : List Addr} {G : Hp} {M : Mem} {H : Hp} : ∀ (L : List (Addr × List V)) {F : Hp}, Rel S ι F G M H → (∀ p ∈ L, H p.1 = some (.tup p.2)) → ∃ F', Sub F F' ∧ Rel S ι F' G M H ∧ ∀ p ∈ L, F' p.1 = some (.tup p.2)
 | [], F, R, _ => ⟨F, .refl F, R, fun p hp => nomatch hp⟩
 | p :: L, F, R, h => by
  obtain ⟨F1, e1, R1, s1⟩ := R.seeF (h p List.mem_cons_self)
  obtain ⟨F2, s2, R2, k⟩ := Rel.seeAll L R1 fun q hq => h q (List.mem_cons_of_mem _ hq)
  refine ⟨F2, s1.trans s2, R2, fun q hq => ?_⟩
  rcases List.mem_cons.mp hq with rfl | hq
  ·exact s2 _ _ e1
  ·exact k q hq
theorem den_key {S : Sit} {ι : List Addr} {F : Hp} {k : L2.Key} (h : kOk k) : Den S ι F (keyD k) (kV k) := by
 cases k with
 | inl i => exact .int i
 | inr x => exact .str x h
theorem den_keys {S : Sit} {ι : List Addr} {F : Hp} : ∀ {ks : List L2.Key}, (∀ k ∈ ks, kOk k) → DenL S ι F (ks.map keyD) (ks.map kV)
 | [], _ => .nil
 | k :: ks, h => .cons (den_key (h k List.mem_cons_self)) (den_keys fun q hq => h q (List.mem_cons_of_mem _ hq))
theorem Paired.zipGet {α β : Type} {P : α → β → Prop} : ∀ {xs : List α} {ys : List β}, Paired P xs ys → ∀ p ∈ xs.zip ys, P p.1 p.2
 | _, _, .nil, p, h => by cases h
 | _, _, .cons h t, p, hp => by
  rcases List.mem_cons.mp hp with rfl | hp
  ·exact h
  ·exact Paired.zipGet t p hp
section
variable {X : Cx} {S : Sit} {pins : List (Addr × Obj)} {σ : L2.St} {H : Hp} {s : Shared} {ι : List Addr} {F G : Hp} {M : Mem} {Q : VK} {E : Value → Shared → Prop}
theorem den_refs {F : Hp} : ∀ {ps : List (D × D)} {kvs : List (List L2.Key × V)} {bs : List Addr}, Rows S ι F KT OT ps kvs → IsKeys H kvs bs → (∀ p ∈ bs.zip (kvs.map fun kv => kv.1.map kV), F p.1 = some (.tup p.2)) → DenL S ι F (ps.map (·.1)) (bs.map V.ref)
 | [], kvs, bs, h, k, _ => by
  obtain rfl := h.inv0
  cases k
  exact .nil
 | (d, e) :: ps, kvs, bs, h, k, hf => by
  obtain ⟨q, v, r, rfl, h1, h2, h3, h4⟩ := h.inv
  cases k with
  | @cons _ b _ bs g1 g2 =>
   simp only at h1
   refine .cons ?_ (den_refs h4 g2 fun p hp => hf p (List.mem_cons_of_mem _ hp))
   have z := den_keys (S := S) (ι := ι) (F := F) h2
   rw [h1]
   exact .tup (hf (b, q.map kV) List.mem_cons_self) z.1 z.2
theorem den_kvs {F : Hp} : ∀ {ps : List (D × D)} {kvs : List (L2.Key × V)}, Rows S ι F KD kOk ps kvs → DenL S ι F (ps.map (·.1)) (kvs.map fun kv => kV kv.1)
 | [], kvs, h => by
  obtain rfl := h.inv0
  exact .nil
 | (d, e) :: ps, kvs, h => by
  obtain ⟨q, v, r, rfl, h1, h2, h3, h4⟩ := h.inv
  simp only at h1
  rw [List.map_cons, List.map_cons]
  refine .cons ?_ (den_kvs h4)
  rw [h1]
  exact den_key h2
theorem den_ints : ∀ {ns : List Int}, DenL S ι F (ns.map D.int) (ns.map V.int)
 | [] => .nil
 | n :: ns => .cons (.int n) den_ints
theorem coll {d : D} {v : V} {u : Value} {xs : List D} (hK : X.K = S.K) (I : Inv X pins σ H s) (R : Rel S ι F G M H) (h : DV S ι F H d v) (r : RelV v u) (e : colD d = some xs) :
  ∃ F' vs, Rel S ι F' G M H ∧ Sub F F' ∧ DenL S ι F' xs vs ∧ vs.length ≤ sizeLine ∧ ∀ (A : Around) (Q : List Value → Shared → Prop) (E : Value → Shared → Prop), A.handled = none →
   (∀ us h' tk, Inv X pins σ H { s with heap := h', toks := tk } → Vals vs us → Q us { s with heap := h', toks := tk }) → wpAny (model X.prog X.w) A (collect u) Q E s := by
 have seqs : ∀ {a : Addr} {ws : List V} {ds : List D}, (∃ its, Vals ws its ∧ (∃ (o : Obj) (n : Nat) (T : String), (T = "list" ∨ T = "tuple") ∧ s.heap.get? a = some o ∧ o.cls = .type T ∧ o.data = .seq its.toArray n) ∧ ws.length ≤ sizeLine) → DenL S ι F ds ws →
   ∃ F' vs, Rel S ι F' G M H ∧ Sub F F' ∧ DenL S ι F' ds vs ∧ vs.length ≤ sizeLine ∧ ∀ (A : Around) (Q : List Value → Shared → Prop) (E : Value → Shared → Prop), A.handled = none →
   (∀ us h' tk, Inv X pins σ H { s with heap := h', toks := tk } → Vals vs us → Q us { s with heap := h', toks := tk }) → wpAny (model X.prog X.w) A (collect (.ref a)) Q E s := fun {a ws ds} ⟨its, rv, ⟨o, n, T, hT, ho, hc, hd⟩, hz⟩ hl => by
  refine ⟨F, ws, R, .refl F, hl, hz, fun A Q E _ hq => ?_⟩
  have hlen := rv.length
  refine wpAny_collect_seq a hT ho hc hd (fun h' hk => ?_) (by rw [List.size_toArray]; omega)
  have e : its.toArray.toList = its := by simp
  rw [e]
  exact hq its h' s.toks (I.kept (t' := s.toks) hk) rv
 cases h with
 | @tup a ws ds h1 h2 =>
  cases e
  obtain rfl : u = .ref a := r
  obtain ⟨its, rv, ⟨o, ho, hc, n, hd⟩, hz⟩ := I.tuple (.inl h1)
  exact seqs ⟨its, rv, ⟨o, n, _, .inr rfl, ho, hc, hd⟩, hz⟩ h2
 | @lst a ws ds h1 h2 =>
  cases e
  obtain rfl : u = .ref a := r
  obtain ⟨its, rv, pl, hz⟩ := I.list (SqL.of h1)
  obtain ⟨o, ho, hc, n, hd⟩ := pl.isList
  exact seqs ⟨its, rv, ⟨o, n, _, .inl rfl, ho, hc, hd⟩, hz⟩ h2
 | @scr a ns h1 =>
  cases e
  obtain rfl : u = .ref a := r
  rw [← hK] at h1
  obtain ⟨its, rv, pl, hz⟩ := I.list h1
  obtain ⟨o, ho, hc, n, hd⟩ := pl.isList
  exact seqs ⟨its, rv, ⟨o, n, _, .inl rfl, ho, hc, hd⟩, hz⟩ den_ints
 | @dctK a kvs ps h1 h2 h3 h4 =>
  cases e
  obtain rfl : u = .ref a := r
  obtain ⟨z, lo, vs, rel, dd⟩ := dk_rd I.hok h1.rd
  obtain ⟨ep, hat⟩ := dd.dictAt
  have ek : (kvs.map fun kv => kV kv.1) = vs.map fun p => kV p.1 := by
   have q := congrArg (List.map kV) rel.keys
   rw [List.map_map, List.map_map] at q
   exact q
  refine ⟨F, kvs.map fun kv => kV kv.1, R, .refl F, den_kvs ⟨h2, h3, h4⟩, by rw [List.length_map]; exact z, fun A Q E hh hq => ?_⟩
  refine PySem.W.kdu_collect (PySem.W.kdl_dict (knd := mixKind X.prog X.w) (kvs := vs) (ep := ep) lo) hh hat (by rw [← rel.length]; exact z) fun h' tk acc hk hacc => ?_
  refine hq acc.toList h' tk (I.kept hk) ?_
  rw [ek]
  exact keys_at (by rw [Array.length_toList]; exact hacc.1) fun j v q => hacc.2 j v (by rw [← Array.getElem?_toList]; exact q)
 | @dctT a kvs ps h1 h2 h3 h4 =>
  cases e
  obtain rfl : u = .ref a := r
  obtain ⟨z, hs, ks, pr, o, es, ep, ho, hx, hdt, he, hn⟩ := (show ObjOk X.prog X.w H s.heap a (.dT kvs) from h1.rd.ok I.hok)
  have l1 : es.size = ks.length := size_of_entries he
  have l2 : kvs.length = ks.length := Paired.length pr
  have ik := isKeys_of pr
  obtain ⟨F', s1, R1, hf⟩ := R.seeAll ((ks.map fun x => x.2.1).zip (kvs.map fun kv => kv.1.map kV)) fun p hp => by
   have hz := Paired.zipGet ik
   obtain ⟨i, hi⟩ := List.mem_iff_getElem?.mp hp
   rw [List.getElem?_zip_eq_some, List.getElem?_map] at hi
   obtain ⟨i1, i2⟩ := hi
   rw [List.getElem?_map] at i2
   obtain ⟨kv, j1, j2⟩ := Option.map_eq_some_iff.mp i2
   have := hz (kv, p.1) (List.mem_iff_getElem?.mpr ⟨i, by rw [List.getElem?_zip_eq_some]; exact ⟨j1, by simpa using i1⟩⟩)
   rw [← j2]
   exact this
  have rw' : Rows S ι F KT OT ps kvs := ⟨h2, h3, h4⟩
  refine ⟨F', (ks.map fun x => x.2.1).map V.ref, R1, s1, den_refs (H := H) (rw'.mono (fun _ _ z => z) s1) ik hf, by rw [List.length_map, List.length_map]; omega, fun A Q E hh hq => ?_⟩
  refine PySem.W.kdu_collect (kdl_raw hs hx hdt) hh ho oM fun h' tk acc hk hacc => ?_
  refine hq acc.toList h' tk (I.kept hk) ?_
  have ea : acc.toList = (ks.map fun x => x.2.1).map Value.ref := by
   have hl : acc.toList.length = ks.length := by rw [Array.length_toList, hacc.1]; exact l1
   apply List.ext_getElem?
   intro j
   rw [List.getElem?_map, List.getElem?_map]
   cases hj : acc.toList[j]? with
   | none =>
    have := List.getElem?_eq_none_iff.mp hj
    rw [List.getElem?_eq_none oM]
    rfl
   | some v =>
    obtain ⟨en, hen, hv⟩ := hacc.2 j v (by rw [← Array.getElem?_toList]; exact hj)
    have qe := entry_at he j
    rw [hen] at qe
    cases hb : ks[j]? with
    | none => rw [hb] at qe; cases qe
    | some b =>
     rw [hb] at qe
     cases qe
     rw [hv]
     rfl
  rw [ea]
  exact vals_refs _
 | _ => cases e
end
end Mn
end
section
namespace Mn
open PySem PySem.Spec PyProof.Rows L2
abbrev kN (S : Sit) (Q : VK) : D → List Addr → Hp → Mem → Hp → Prop := fun d ι F _ H => ∀ q o, H q = none → DenO S ι F d o → (∀ ps, d ≠ .lck ps) → Q (.ref q) (upd H q o)
def LN (S : Sit) (W : L2.WX) (f : Sl → Mem → Res D) : TE := fun σ H Q => ∃ ι F G σ' M, Rel S ι F G M H ∧ RS S ι F σ' σ ∧ PostG S (fun c e H => W c e σ H) ι F G (kN S Q) (f σ' M)
abbrev SN (S : Sit) (W : L2.WX) (cf mf : Calls) (X : Cx) (e : Expr) (c : Nw) : Prop := PE X e (LN S W (evN S.T cf mf c))
def RN (S : Sit) (g : List D → Mem → Res D) : List V → Hp → VK → Prop := fun xs H Q => ∃ ι F G M Wx as, Rel S ι F G M H ∧ DenL S ι F as xs ∧ PostG S Wx ι F G (kN S Q) (g as M)
section
variable {S : Sit} {W : L2.WX} {cf mf : Calls} {X : Cx} {sc : Scope} {N : List Str} {a b c e : Expr} {ca cb cc ce : Ex} {pos : Pos}
theorem se_new {n : Nw} {own : Bool} (h : SN S W cf mf X e n) : SE S W cf mf X e (.new own n) := h.to fun σ H Q q => by
 obtain ⟨ι, F, G, σ', M, R, rs, p⟩ := q
 refine ⟨ι, F, G, σ', M, R, rs, p.bind.imp fun d ι1 F1 M1 H1 p1 s1 R1 q1 q o hq ho hl => ?_⟩
 cases own with
 | true =>
  have R2 := R1.newO hq ho
  refine q1 (ι1 ++ [q]) F1 _ (pre_app ι1 q) (.refl F1) R2 (.ref q) (.ref ?_)
  rw [← R1.len, List.getElem?_append_right (Nat.le_refl _)]
  simp
 | false =>
  obtain ⟨R2, s2⟩ := R1.newF (o := o) hq
  exact q1 ι1 _ _ (.refl ι1) s2 R2 (.ref q) ((ho.mono (fun _ _ z => z) s2).den hl upd_same)
theorem kN_lst {Q : VK} {ι ι1 : List Addr} {F F1 G : Hp} {M : Mem} {H : Hp} {ds : List D} {xs : List V} (q : ∀ ι' F' H', Pre ι ι' → Sub F F' → Rel S ι' F' G M H' → kN S Q (.lst ds) ι' F' M H') (p : Pre ι ι1) (s : Sub F F1) (R : Rel S ι1 F1 G M H) (h : DenL S ι1 F1 ds xs) : ∀ l, H l = none → Q (.ref l) (upd H l (.lst xs)) :=
 fun l hl => q ι1 F1 H p s R l _ hl (.lst h) (fun _ z => nomatch z)
theorem sn_lst {es : List Expr} {cs : Es} (h : SA S W cf mf X es cs) (hn : noStar cs = true) (hl : lenE cs ≤ 1000) : SN S W cf mf X (.List es pos) (.lst cs) := by
 refine (pe_lst h).to fun σ H Q q => ?_
 obtain ⟨ι, F, G, σ', M, R, rs, p⟩ := q
 refine ⟨ι, F, G, σ', M, R, rs, ?_⟩
 replace p : PostG S _ ι F G (kN S Q) ((evs S.T cf mf cs σ' M).bind fun ds M1 => .ok (.lst ds) M1) := p
 cases e : evs S.T cf mf cs σ' M with
 | ok ds M1 =>
  have hl2 := evs_len hn e
  rw [e] at p
  intro ι1 F1 H1 p1 s1 R1 vs dvs
  exact ⟨by rw [dvs.1, hl2]; exact big_le (Nat.le_trans hl (by decide)), kN_lst p p1 s1 R1 dvs⟩
 | exc _ _ _ => rw [e] at p; exact p
 | bad => rw [e] at p; exact p
def biList : List D → Option D
 | [x] => (colD x).map .lst
 | _ => none
def biSort : List D → Option D
 | [x] => ((colD x).bind sortD).map .lst
 | _ => none
theorem rb_list (hK : X.K = S.K) (hc : X.calm = true) : CallR X (.type "list") (RN S (fun as M => .of (biList (as.map (der M))) M)) := by
 intro pins s σ H xs us Q I r h
 obtain ⟨ι, F, G, M, Wx, as, R, da, p⟩ := h
 obtain ⟨d, e, pf⟩ := PostG.of p
 clear p
 match as, da with
 | [], _ => cases e
 | _ :: _ :: _, _ => cases e
 | [a], da =>
  obtain ⟨x, r0, rfl, hx, h0⟩ := da.inv
  obtain rfl := h0.inv0
  have va := hx.dv R
  replace e : (colD (der M a)).map D.lst = some d := e
  revert e va
  generalize der M a = a'
  intro va e
  obtain ⟨ds, e, rfl⟩ := Option.map_eq_some_iff.mp e
  cases va with
  | @tup b ws ds' h1 h2 =>
   cases e
   exact call_list_of pins s σ H _ us Q I r ⟨_, _, rfl, .inr (.inl h1), kN_lst pf (.refl _) (.refl _) R h2⟩
  | @lst b ws ds' h1 h2 =>
   cases e
   exact call_list_of pins s σ H _ us Q I r ⟨_, _, rfl, .inl (SqL.of h1), kN_lst pf (.refl _) (.refl _) R h2⟩
  | @scr b ns h1 =>
   cases e
   rw [← hK] at h1
   exact call_list_of pins s σ H _ us Q I r ⟨_, _, rfl, .inl h1, kN_lst pf (.refl _) (.refl _) R den_ints⟩
  | @dctK b kvs ps h1 h2 h3 h4 =>
   cases e
   exact call_listD hc pins s σ H _ us Q I r ⟨_, _, rfl, h1.rd, kN_lst pf (.refl _) (.refl _) R (den_kvs ⟨h2, h3, h4⟩)⟩
  | @dctT b kvs ps h1 h2 h3 h4 =>
   cases e
   refine call_list_dT hc pins s σ H _ us Q I r ⟨_, _, rfl, h1.rd, fun l bs hl ik => ?_⟩
   obtain ⟨F', s1, R1, hf⟩ := R.seeAll (bs.zip (kvs.map fun kv => kv.1.map kV)) fun p hp => by
    have hz := Paired.zipGet ik
    obtain ⟨i, hi⟩ := List.mem_iff_getElem?.mp hp
    rw [List.getElem?_zip_eq_some] at hi
    obtain ⟨i1, i2⟩ := hi
    rw [List.getElem?_map] at i2
    obtain ⟨kv, j1, j2⟩ := Option.map_eq_some_iff.mp i2
    have := hz (kv, p.1) (List.mem_iff_getElem?.mpr ⟨i, by rw [List.getElem?_zip_eq_some]; exact ⟨j1, by simpa using i1⟩⟩)
    rw [← j2]
    exact this
   have rw' : Rows S ι F KT OT ps kvs := ⟨h2, h3, h4⟩
   exact kN_lst pf (.refl _) s1 R1 (den_refs (H := H) (rw'.mono (fun _ _ z => z) s1) ik hf) l hl
  | _ => cases e
theorem rb_sort (hK : X.K = S.K) (hc : X.calm = true) (hu : X.A.units + 80 < cLine) : CallR X (.builtin "sorted") (RN S (fun as M => .of (biSort (as.map (der M))) M)) := by
 intro pins s σ H xs us Q I r h
 obtain ⟨ι, F, G, M, Wx, as, R, da, p⟩ := h
 obtain ⟨d, e, pf⟩ := PostG.of p
 clear p
 match as, da with
 | [], _ => cases e
 | _ :: _ :: _, _ => cases e
 | [a], da =>
  obtain ⟨x, r0, rfl, hx, h0⟩ := da.inv
  obtain rfl := h0.inv0
  obtain ⟨u, rfl, ru⟩ := vals1 r
  replace e : ((colD (der M a)).bind sortD).map D.lst = some d := e
  obtain ⟨es, e0, rfl⟩ := Option.map_eq_some_iff.mp e
  obtain ⟨ds, e1, e2⟩ := Option.bind_eq_some_iff.mp e0
  obtain ⟨F', vs, R1, s1, dl, hl, col⟩ := coll hK I R (hx.dv R) ru e1
  refine Calls.call_function_entry PyProof.Rows.kind_sorted PyProof.Rows.plain_sorted PyProof.Rows.entry_sorted (PyProof.Rows.args_sorted1 _) ?_
  unfold Builtin.«sorted»
  refine wpAny_bind (m := checkCount "sorted" 1 1 _) (wpAny_pure ?_)
  refine wpAny_bind (col X.A.in1 _ _ (I.ok.hd hc) fun acc h' tk I' rv => ?_)
  have hacc := rv.length
  refine wpAny_bind (wpAny_newList ?_ oM)
  refine wpAny_bind (wpAny_holding (wpAny_mono (sort_tail (s := { s with heap := h', toks := tk }) hK hu I' R1 dl rv hl e2 fun ws p dws hp => kN_lst pf (.refl _) s1 R1 dws p hp) (fun _ s' x => ?_) fun _ _ e => e))
  exact wpAny_pure ⟨_, rfl, x⟩
end
end Mn
end
section
namespace Mn
open PySem PySem.Spec PyProof.Rows L2
section
variable {S : Sit} {W : L2.WX} {cf mf : Calls} {X : Cx} {sc : Scope} {N : List Str} {a b c e o : Expr} {ca cb cc ce co : Ex} {pos apos cpos p : Pos}
theorem le_arg {f : Sl → Mem → Res D} {g : List D → Mem → Res D} {σ : L2.St} {H : Hp} {Q : VK} (q : LE S W (fun σ M => (f σ M).bind fun x M1 => g [x] M1) σ H Q) : (tCB (RL S g) (tCons (LE S W f) tNil)) σ H Q := by
 obtain ⟨ι, F, G, σ', M, R, rs, p⟩ := q
 exact ⟨ι, F, G, σ', M, R, rs, p.bind.imp fun x ι1 F1 M1 H1 p1 s1 R1 q1 v dv => ⟨ι1, F1, G, M1, _, [x], R1, .cons dv .nil, q1⟩⟩
theorem ln_arg {f : Sl → Mem → Res D} {g : List D → Mem → Res D} {σ : L2.St} {H : Hp} {Q : VK} (q : LN S W (fun σ M => (f σ M).bind fun x M1 => g [x] M1) σ H Q) : (tCB (RN S g) (tCons (LE S W f) tNil)) σ H Q := by
 obtain ⟨ι, F, G, σ', M, R, rs, p⟩ := q
 exact ⟨ι, F, G, σ', M, R, rs, p.bind.imp fun x ι1 F1 M1 H1 p1 s1 R1 q1 v dv => ⟨ι1, F1, G, M1, _, [x], R1, .cons dv .nil, q1⟩⟩
theorem se_tupO (C : Cxt S sc N X) (rw : Bool) {x : Str} (hg : Gl X x) (hm : X.mg x = none) (hv : bootBuiltins x = some (.type "tuple")) (ha : SE S W cf mf X e ce) (hn : x ≠ "__name__") (hd : (x == ("__debug__" : Str)) = false)
  (he : starEach [e] X.env = (false, eval e X.env) :: starEach [] X.env) (hpl : (backTo pos (starEach [] X.env)).any (·.1) = false) : SE S W cf mf X (.Call (.Name x p) [e] [] pos) (.tupO rw ce) :=
 (pe_callTy (rb_tup C.hK rw) hg hm hv (pa_cons ha pa_nil he) hn hd he hpl).to fun σ H Q q => le_arg (g := fun as M => match as with | [a] => .of (tupD rw a (der M a)) M | _ => .bad) q
theorem sn_list (C : Cxt S sc N X) {x : Str} (hg : Gl X x) (hm : X.mg x = none) (hv : bootBuiltins x = some (.type "list")) (ha : SE S W cf mf X e ce) (hn : x ≠ "__name__") (hd : (x == ("__debug__" : Str)) = false)
  (he : starEach [e] X.env = (false, eval e X.env) :: starEach [] X.env) (hpl : (backTo pos (starEach [] X.env)).any (·.1) = false) : SN S W cf mf X (.Call (.Name x p) [e] [] pos) (.lstO ce) :=
 (pe_callTy (rb_list C.hK C.calm) hg hm hv (pa_cons ha pa_nil he) hn hd he hpl).to fun σ H Q q => ln_arg (g := fun as M => .of (biList (as.map (der M))) M) q
theorem sn_sort (C : Cxt S sc N X) {x : Str} (hg : Gl X x) (hm : X.mg x = none) (hv : bootBuiltins x = some (.builtin "sorted")) (ha : SE S W cf mf X e ce) (hn : x ≠ "__name__") (hd : (x == ("__debug__" : Str)) = false)
  (he : starEach [e] X.env = (false, eval e X.env) :: starEach [] X.env) (hpl : (backTo pos (starEach [] X.env)).any (·.1) = false) : SN S W cf mf X (.Call (.Name x p) [e] [] pos) (.sort ce) :=
 (pe_callB (rb_sort C.hK C.calm C.hu) hg hm hv (pa_cons ha pa_nil he) hn hd he hpl).to fun σ H Q q => ln_arg (g := fun as M => .of (biSort (as.map (der M))) M) q
def RSlX (S : Sit) : V → Option Int → Option Int → Hp → VK → Prop := fun x lo hi H Q => ∃ ι F G M Wx a, Rel S ι F G M H ∧ Den S ι F a x ∧ PostG S Wx ι F G (kV1 S Q) (.of (slcX (der M a) lo hi) M)
def TyM (X : Cx) (T : String) (x : V) (H : Hp) : Prop := ∀ pins s σ v, Inv X pins σ H s → RelV x v → s.TypeIs v T ∧ ∀ a, v = .ref a → ∃ ob, s.heap.get? a = some ob ∧ ob.dict = none
def CallM (X : Cx) (id : String) (x : V) (vs : List V) (H : Hp) (Q : VK) : Prop := ∀ pins s σ v us, Inv X pins σ H s → RelV x v → Vals vs us → wpAny (model X.prog X.w) X.A (call (.builtin id) (v :: us)) (EP X pins σ Q) X.xe s
structure MC (X : Cx) (o : Expr) (name : Str) (apos cpos : Pos) (e : Expr) (es : List Expr) : Prop where
 base : attributeBase o name X.env (eval o X.env) = eval o X.env
 few : ((backTo cpos (starEach (e :: es) X.env)).all (fun x => !x.1) && (backToKw cpos (keywordEach [] X.env)).all (fun x => x.1.isSome)
   && decide ((e :: es).length + ([] : List Keyword).length + (if ([] : List Keyword).isEmpty then 0 else 1) < 30)) = true
 line : (apos.endLine == cpos.line) = true
 hs : starEach (e :: es) X.env = (false, eval e X.env) :: starEach es X.env
 plain : (backTo cpos (starEach es X.env)).any (·.1) = false
theorem pe_mG {T id : String} {name : Str} {es : List Expr} {to : TE} {t : TA} (m : MC X o name apos cpos e es) (pa : PlainAttrs T) (slot : Slot T name id) (hty : typeOf (.builtin id) = pure (.type "method_descriptor")) (ho : PE X o to) (ha : PA X (e :: es) t) :
  PE X (.Call (.Attribute o name apos) (e :: es) [] cpos) (fun σ H Q => to σ H fun x H1 => TyM X T x H1 ∧ t σ H1 fun vs H2 => CallM X id x vs H2 Q) := by
 refine ⟨fun pins s σ H Q I h => ?_⟩
 refine wpAny_Call_method_late m.base m.few m.line rfl (thn (ho.run pins s σ H _ I h) fun v s1 ⟨x, H1, I1, r1, ty, q1⟩ => ?_)
 obtain ⟨h1, h2⟩ := ty pins s1 σ v I1 r1
 refine ⟨T, id, pa, slot, hty, h1, h2, ?_⟩
 have hA := ha.run cpos pins s1 σ H1 _ I1 q1
 rw [m.hs] at hA ⊢
 refine Calls.callWith_builtin (by show (false || (backTo cpos (starEach es X.env)).any (·.1)) = false; rw [m.plain]; rfl) (Calls.evalArgs_plain ?_)
 exact thn hA fun us s2 ⟨vs, H2, I2, r2, q2⟩ => q2 pins s2 σ v us I2 r1 r2
theorem tyM_lst {H : Hp} {l : Addr} {xs : List V} (h : H l = some (.lst xs)) : TyM X "list" (.ref l) H := fun pins s σ v I r => tyV_is I r (.inl ⟨rfl, xs, SqL.of h⟩)
theorem store_eq {M M' : Mem} {d : D} {h : D → Option D} (e : store M d h = some M') : ∃ i o o', d = .ref i ∧ M[i]? = some o ∧ h o = some o' ∧ M' = M.set i o' := by
 unfold store at e
 split at e
 ·rename_i i
  split at e
  ·rename_i o ho
   obtain ⟨o', h1, rfl⟩ := Option.map_eq_some_iff.mp e
   exact ⟨i, o, o', rfl, ho, h1, rfl⟩
  ·cases e
 ·cases e
theorem se_app (m : MC X o "append" apos cpos e []) (ho : SE S W cf mf X o co) (he : SE S W cf mf X e ce) : SE S W cf mf X (.Call (.Attribute o "append" apos) [e] [] cpos) (.app co ce) := by
 refine (pe_mG m F.plainAttrs_list F.slot_list_append F.type_list_append ho (pa_cons he pa_nil m.hs)).to fun σ H Q q => ?_
 obtain ⟨ι, F, G, σ', M, R, rs, p⟩ := q
 refine ⟨ι, F, G, σ', M, R, rs, p.bind.imp fun x' ι1 F1 M1 H1 p1 s1 R1 q1 x dx => ?_⟩
 have dv := dx.dv R1
 split at q1
 ·exact False.elim q1
 ·rename_i hl
  have hty : TyM X "list" x H1 := by
   revert hl dv
   generalize der M1 x' = u
   intro dv hl
   cases dv with
   | lst h1 _ => exact tyM_lst h1
   | _ => simp [isL] at hl
  refine ⟨hty, ι1, F1, G, σ', M1, R1, rs.mono p1 s1, q1.bind.imp fun y' ι2 F2 M2 H2 p2 s2 R2 q2 y dy => ?_⟩
  show CallM X "list.append" x [y] H2 Q
  split at q2
  case h_2 => exact False.elim q2
  rename_i M3 hst
  obtain ⟨i, od, od', rfl, e1, e2, rfl⟩ := store_eq hst
  unfold pushL at e2
  split at e2
  case h_2 => cases e2
  rename_i xs
  split at e2
  case isFalse => cases e2
  rename_i hlt
  cases e2
  cases (dx.mono p2 s2) with
  | @ref _ l hι =>
   obtain ⟨oh, g1, g2⟩ := R2.own i _ l e1 hι
   cases g2 with
   | @lst ws _ g2 =>
    intro pins s σ0 v us I r rv
    refine mt_append pins s σ0 H2 _ _ v us Q I r rv ⟨l, ws, y, rfl, rfl, g1, by rw [g2.1]; exact Nat.lt_of_lt_of_le hlt (big_le (Nat.le_refl _)), ?_⟩
    exact q2 ι2 F2 _ (.refl _) (.refl _) (R2.write hι g1 id (.lst (g2.app (.cons dy .nil)))) .non .non
end
end Mn
end
section
namespace Mn
open PySem PySem.Spec PyProof.Rows L2
section
variable {S : Sit} {W : L2.WX} {cf mf : Calls} {X : Cx} {sc : Scope} {N : List Str} {a b c e o f : Expr} {ca cb cc ce co : Ex} {pos apos cpos p : Pos}
variable {pins : List (Addr × Obj)} {σ : L2.St} {H : Hp} {s : Shared} {ι : List Addr} {F G : Hp} {M : Mem}
theorem DenL.erase : ∀ {ds : List D} {xs : List V} (h : DenL S ι F ds xs) (j : Nat), DenL S ι F (ds.eraseIdx j) (xs.eraseIdx j)
 | [], xs, h, j => by rw [h.inv0]; exact .nil
 | d :: ds, xs, h, j => by
  obtain ⟨x, ys, rfl, h1, h2⟩ := h.inv
  cases j with
  | zero => exact h2
  | succ j => exact .cons h1 (h2.erase j)
theorem rowsO {ps : List (D × D)} {o : HO} (h : DenO S ι F (.dct ps) o) : (∃ kvs, o = .dK kvs ∧ Rows S ι F KD kOk ps kvs) ∨ ∃ kvs, o = .dT kvs ∧ Rows S ι F KT OT ps kvs := by
 cases h with
 | dctK h1 h2 h3 => exact .inl ⟨_, rfl, h1, h2, h3⟩
 | dctT h1 h2 h3 => exact .inr ⟨_, rfl, h1, h2, h3⟩
theorem Rows.dK {ps : List (D × D)} {kvs : List (L2.Key × V)} (h : Rows S ι F KD kOk ps kvs) : DenO S ι F (.dct ps) (.dK kvs) := .dctK h.1 h.2.1 h.2.2
theorem Rows.dT {ps : List (D × D)} {kvs : List (List L2.Key × V)} (h : Rows S ι F KT OT ps kvs) : DenO S ι F (.dct ps) (.dT kvs) := .dctT h.1 h.2.1 h.2.2
theorem keyOk_cons {ps : List (D × D)} {kd : D} (hk : keyOk ps kd = true) : keyd kd = true ∧ ∀ p ∈ ps, isT p.1 = isT kd := by
 unfold keyOk at hk
 rw [Bool.and_eq_true, List.all_eq_true] at hk
 exact ⟨hk.1, fun p hp => by simpa using hk.2 p hp⟩
theorem dict_put {i : Nat} {l : Addr} {ps : List (D × D)} {kd d : D} {y v : V} (R : Rel S ι F G M H) (hι : ι[i]? = some l) (hM : M[i]? = some (.dct ps)) (dk : Den S ι F kd y) (hk : keyOk ps kd = true) (hl : ps.length < big) (dv : Den S ι F d v) (I : Inv X pins σ H s) :
  ∃ H1 H2, Inv X pins σ H1 s ∧ DPut H1 l y v H2 ∧ Rel S ι F G (M.set i (.dct (dput ps kd d))) H2 := by
 obtain ⟨o, e, ho⟩ := R.own i _ l hM hι
 obtain ⟨hk1, hk2⟩ := keyOk_cons hk
 have hz : big ≤ sizeLine := big_le (Nat.le_refl _)
 rcases rowsO ho with ⟨kvs, rfl, rw'⟩ | ⟨kvs, rfl, rw'⟩
 ·have hlen : kvs.length < sizeLine := by rw [rw'.1]; omega
  rcases key_cases dk hk1 with ⟨q, rfl, rfl, hq⟩ | ⟨ks, b, rfl, rfl, hb, hks⟩
  ·exact ⟨H, _, I, .k e hlen, R.write hι e id (Rows.dK (rw'.put kd_eqv hq dv))⟩
  ·have e0 : ps = [] := by
    cases ps with
    | nil => rfl
    | cons p r =>
     have h1 := hk2 p List.mem_cons_self
     rw [rw'.sort (b := false) kd_T p List.mem_cons_self] at h1
     cases h1
   subst e0
   rw [rw'.inv0] at e
   have hb' := SubH.tup R.frz hb
   have hne : b ≠ l := fun z => by rw [z, e] at hb'; cases hb'
   refine ⟨upd H l (.dT []), _, emp_T I e, .t (k := ks) upd_same (by rw [upd_ne hne]; exact hb') (by show (0 : Nat) < sizeLine; omega), ?_⟩
   rw [upd_upd]
   exact R.write hι e id (Rows.dT (Rows.put kt_eqv hks dv (Rows.nil)))
 ·have hlen : kvs.length < sizeLine := by rw [rw'.1]; omega
  rcases key_cases dk hk1 with ⟨q, rfl, rfl, hq⟩ | ⟨ks, b, rfl, rfl, hb, hks⟩
  ·have e0 : ps = [] := by
    cases ps with
    | nil => rfl
    | cons p r =>
     have h1 := hk2 p List.mem_cons_self
     rw [rw'.sort (b := true) (fun _ => rfl) p List.mem_cons_self, kd_T] at h1
     cases h1
   subst e0
   rw [rw'.inv0] at e
   refine ⟨upd H l (.dK []), _, emp_K I e, .k (k := q) upd_same (by show (0 : Nat) < sizeLine; omega), ?_⟩
   rw [upd_upd]
   exact R.write hι e id (Rows.dK (Rows.put kd_eqv hq dv (Rows.nil)))
  ·exact ⟨H, _, I, .t e (SubH.tup R.frz hb) hlen, R.write hι e id (Rows.dT (rw'.put kt_eqv hks dv))⟩
theorem se_popi (m : MC X o "pop" apos cpos e []) (ho : SE S W cf mf X o co) (he : SE S W cf mf X e ce) : SE S W cf mf X (.Call (.Attribute o "pop" apos) [e] [] cpos) (.popi co ce) := by
 refine (pe_mG m F.plainAttrs_list F.slot_list_pop F.type_list_pop ho (pa_cons he pa_nil m.hs)).to fun σ H Q q => ?_
 obtain ⟨ι, F, G, σ', M, R, rs, p⟩ := q
 refine ⟨ι, F, G, σ', M, R, rs, p.bind.imp fun x' ι1 F1 M1 H1 p1 s1 R1 q1 x dx => ?_⟩
 have dv := dx.dv R1
 split at q1
 ·exact False.elim q1
 ·rename_i hl
  have hty : TyM X "list" x H1 := by
   revert hl dv
   generalize der M1 x' = u
   intro dv hl
   cases dv with
   | lst h1 _ => exact tyM_lst h1
   | _ => simp [isL] at hl
  refine ⟨hty, ι1, F1, G, σ', M1, R1, rs.mono p1 s1, q1.bind.imp fun y' ι2 F2 M2 H2 p2 s2 R2 q2 y dy => ?_⟩
  show CallM X "list.pop" x [y] H2 Q
  split at q2
  case h_2 => exact False.elim q2
  rename_i xs k hxs
  split at q2
  case h_2 => exact False.elim q2
  rename_i j hj
  split at q2
  case h_2 => exact False.elim q2
  rename_i d M3 hg hst
  obtain ⟨i, od, od', rfl, e1, e2, rfl⟩ := store_eq hst
  have hM : M2[i]? = some (.lst xs) := by
   simp only [der, e1] at hxs
   cases od <;> simp_all [delL]
  rw [e1] at hM
  cases hM
  cases e2
  cases (dx.mono p2 s2) with
  | @ref _ l hι =>
   obtain ⟨oh, g1, g2⟩ := R2.own i _ l e1 hι
   cases g2 with
   | @lst ws _ g2 =>
    cases dy
    obtain ⟨v0, hv0, dv0⟩ := g2.get hg
    obtain ⟨hs1, hs2, hs3, hs4⟩ := ixN_seq hj
    intro pins s σ0 v us I r rv
    have hb : ws.length ≤ sizeLine := (I.lstM g1).1
    have hb2 : (sizeLine : Int) < 2 ^ 62 := by rw [sizeLine_eq]; decide
    have hb3 := g2.1
    refine mt_popAt pins s σ0 H2 _ _ v us Q I r rv ⟨l, ws, k, j, v0, rfl, rfl, g1, ?_, ?_, by rw [g2.1]; exact hs1, hv0, ?_⟩
    ·omega
    ·omega
    ·exact q2 ι2 F2 _ (.refl _) (.refl _) (R2.write hι g1 id (.lst (g2.erase j))) v0 dv0
theorem strs_of : ∀ {ds : List D} {xs : List V} {ys : List Str}, DenL S ι F ds xs → strL ds = some ys → xs = ys.map V.str
 | [], xs, ys, h, e => by cases e; rw [h.inv0]; rfl
 | d :: ds, xs, ys, h, e => by
  obtain ⟨x, r, rfl, h1, h2⟩ := h.inv
  cases d with
  | str z =>
   unfold strL at e
   obtain ⟨zs, e1, rfl⟩ := Option.map_eq_some_iff.mp e
   cases h1
   rw [strs_of h2 e1]
   rfl
  | _ => cases e
theorem strOk_all : ∀ {ds : List D} {xs : List V} {ys : List Str}, DenL S ι F ds xs → strL ds = some ys → ∀ y ∈ ys, strOk y = true
 | [], xs, ys, h, e => by cases e; intro y hy; cases hy
 | d :: ds, xs, ys, h, e => by
  obtain ⟨x, r, rfl, h1, h2⟩ := h.inv
  cases d with
  | str z =>
   unfold strL at e
   obtain ⟨zs, e1, rfl⟩ := Option.map_eq_some_iff.mp e
   cases h1 with
   | str _ hz =>
   intro y hy
   rcases List.mem_cons.mp hy with rfl | hy
   ·exact hz
   ·exact strOk_all h2 e1 y hy
  | _ => cases e
theorem se_join (m : MC X o "join" apos cpos e []) (ho : SE S W cf mf X o co) (he : SE S W cf mf X e ce) : SE S W cf mf X (.Call (.Attribute o "join" apos) [e] [] cpos) (.join co ce) := by
 refine (pe_mG m F.plainAttrs_str F.slot_str_join F.type_str_join ho (pa_cons he pa_nil m.hs)).to fun σ H Q q => ?_
 obtain ⟨ι, F, G, σ', M, R, rs, p⟩ := q
 refine ⟨ι, F, G, σ', M, R, rs, p.bind.imp fun x' ι1 F1 M1 H1 p1 s1 R1 q1 x dx => ?_⟩
 cases dx with
 | @str z hz =>
  refine ⟨fun pins s σ v I r => tyV_is I r rfl, ι1, F1, G, σ', M1, R1, rs.mono p1 s1, q1.bind.imp fun y' ι2 F2 M2 H2 p2 s2 R2 q2 y dy => ?_⟩
  show CallM X "str.join" (.str z) [y] H2 Q
  obtain ⟨d, e, pf⟩ := PostG.of q2
  have va := dy.dv R2
  revert e va
  generalize der M2 y' = y''
  intro e va
  cases va with
  | @lst l ws ds h1 h2 =>
   obtain ⟨ys, e1, e2⟩ := Option.bind_eq_some_iff.mp e
   split at e2
   case isFalse => cases e2
   rename_i hl
   cases e2
   have ews := strs_of h2 e1
   intro pins s σ0 v us I r rv
   refine mt_join pins s σ0 H2 _ _ v us Q I r rv ⟨z, l, ys, rfl, rfl, .inl (by rw [← ews]; exact SqL.of h1), Nat.le_trans hl (by decide), ?_⟩
   rw [TL.join_eq]
   exact Fin1.val pf R2 (.str _ (strOk_join z hz ys (strOk_all h2 e1)))
  | _ => cases e
 | _ => exact False.elim q1
end
end Mn
end
section
namespace Mn
open PySem PySem.Spec PyProof.Rows L2
section
variable {S : Sit} {ι ι' : List Addr} {F F' F'' G H : Hp} {M M' : Mem} {n : Nat}
theorem bels_get : ∀ {ds : List D} {i : Nat} {d : D}, bels n ds = true → ds[i]? = some d → bel n d = true
 | [], i, d, _, e => by simp at e
 | x :: r, i, d, h, e => by
  simp only [bels, Bool.and_eq_true] at h
  cases i with
  | zero => cases e; exact h.1
  | succ i => exact bels_get h.2 (by simpa using e)
theorem belp_get : ∀ {ps : List (D × D)} {i : Nat} {p : D × D}, belp n ps = true → ps[i]? = some p → bel n p.1 = true ∧ bel n p.2 = true
 | [], i, d, _, e => by simp at e
 | (a, b) :: r, i, d, h, e => by
  simp only [belp, Bool.and_eq_true] at h
  cases i with
  | zero => cases e; exact h.1
  | succ i => exact belp_get h.2 (by simpa using e)
theorem belf_get : ∀ {ps : List (Nat × D)} {i : Nat} {p : Nat × D}, belf n ps = true → ps[i]? = some p → bel n p.2 = true
 | [], i, d, _, e => by simp at e
 | (a, b) :: r, i, d, h, e => by
  simp only [belf, Bool.and_eq_true] at h
  cases i with
  | zero => cases e; exact h.1
  | succ i => exact belf_get h.2 (by simpa using e)
theorem bels_of : ∀ {ds : List D}, (∀ (i : Nat) (d : D), ds[i]? = some d → bel n d = true) → bels n ds = true
 | [], _ => rfl
 | x :: r, h => by
  simp only [bels, Bool.and_eq_true]
  exact ⟨h 0 x rfl, bels_of fun i d e => h (i + 1) d (by simpa using e)⟩
theorem belp_of : ∀ {ps : List (D × D)}, (∀ (i : Nat) (p : D × D), ps[i]? = some p → bel n p.1 = true ∧ bel n p.2 = true) → belp n ps = true
 | [], _ => rfl
 | (a, b) :: r, h => by
  simp only [belp, Bool.and_eq_true]
  exact ⟨h 0 (a, b) rfl, belp_of fun i d e => h (i + 1) d (by simpa using e)⟩
theorem belf_of : ∀ {ps : List (Nat × D)}, (∀ (i : Nat) (p : Nat × D), ps[i]? = some p → bel n p.2 = true) → belf n ps = true
 | [], _ => rfl
 | (a, b) :: r, h => by
  simp only [belf, Bool.and_eq_true]
  exact ⟨h 0 (a, b) rfl, belf_of fun i d e => h (i + 1) d (by simpa using e)⟩
theorem bel_key (k : L2.Key) : bel n (keyD k) = true := by cases k <;> simp [keyD, bel]
theorem bel_keys : ∀ ks : List L2.Key, bels n (ks.map keyD) = true
 | [] => rfl
 | k :: ks => by simp [bels, bel_key, bel_keys ks]
theorem rows_at {α β : Type} {ps : List α} {kvs : List β} (hl : kvs.length = ps.length) {i : Nat} {p : α} (e : ps[i]? = some p) : ∃ q, kvs[i]? = some q := by
 have h := (List.getElem?_eq_some_iff.mp e).1
 exact ⟨kvs[i], List.getElem?_eq_getElem oM⟩
theorem Den.bel {d : D} {v : V} (h : Den S ι F d v) : Mn.bel ι.length d = true := by
 induction h with
 | ref e => simpa [Mn.bel] using (List.getElem?_eq_some_iff.mp e).1
 | tup h1 h2 _ ih => simp only [Mn.bel]; exact bels_of fun i d e => let ⟨x, hx⟩ := rows_at h2 e; ih i d x e hx
 | row h1 h0 h2 _ ih => simp only [Mn.bel]; exact bels_of fun i d e => let ⟨x, hx⟩ := rows_at h2 e; ih i d x e hx
 | lst h1 h2 _ ih => simp only [Mn.bel]; exact bels_of fun i d e => let ⟨x, hx⟩ := rows_at h2 e; ih i d x e hx
 | dctK h1 h2 h3 _ ih => simp only [Mn.bel]; exact belp_of fun i d e => let ⟨x, hx⟩ := rows_at h2 e; ⟨by rw [(h3 i d x e hx).1]; exact bel_key _, ih i d x e hx⟩
 | dctT h1 h2 h3 _ ih => simp only [Mn.bel]; exact belp_of fun i d e => let ⟨x, hx⟩ := rows_at h2 e; ⟨by rw [(h3 i d x e hx).1]; simp only [Mn.bel]; exact bel_keys _, ih i d x e hx⟩
 | ins h1 h0 h2 h3 _ ih => simp only [Mn.bel]; exact belf_of fun i d e => let ⟨x, hx⟩ := rows_at h2 e; ih i d x e hx
 | _ => rfl
theorem DenO.bel {d : D} {o : HO} (h : DenO S ι F d o) : Mn.bel ι.length d = true := by
 induction h with
 | lst h => simp only [Mn.bel]; exact bels_of fun i d e => let ⟨x, hx⟩ := rows_at h.1 e; (h.2 i d x e hx).bel
 | dctK h2 h3 h4 => simp only [Mn.bel]; exact belp_of fun i d e => let ⟨x, hx⟩ := rows_at h2 e; ⟨by rw [(h3 i d x e hx).1]; exact bel_key _, (h4 i d x e hx).bel⟩
 | dctT h2 h3 h4 => simp only [Mn.bel]; exact belp_of fun i d e => let ⟨x, hx⟩ := rows_at h2 e; ⟨by rw [(h3 i d x e hx).1]; simp only [Mn.bel]; exact bel_keys _, (h4 i d x e hx).bel⟩
 | lck _ _ ih => simpa [Mn.bel] using ih
 | ins h0 h2 h3 h4 => simp only [Mn.bel]; exact belf_of fun i d e => let ⟨x, hx⟩ := rows_at h2 e; (h4 i d x e hx).bel
theorem Den.low {d : D} {v : V} (h : Den S ι' F d v) (p : ∀ (i : Nat) (a : Addr), i < n → ι'[i]? = some a → ι[i]? = some a) (s : Sub F F') : Mn.bel n d = true → Den S ι F' d v := by
 induction h with
 | non => intro _; exact .non
 | bl b => intro _; exact .bl b
 | int i => intro _; exact .int i
 | str x h => intro _; exact .str x h
 | ty n => intro _; exact .ty n
 | cls c h => intro _; exact .cls c h
 | ref e => intro hb; exact .ref (p _ _ (by simpa [Mn.bel] using hb) e)
 | scr h => intro _; exact .scr (sqL_sub s h)
 | tup h1 h2 _ ih => intro hb; simp only [Mn.bel] at hb; exact .tup (s _ _ h1) h2 fun i d x e1 e2 => ih i d x e1 e2 (bels_get hb e1)
 | row h1 h0 h2 _ ih => intro hb; simp only [Mn.bel] at hb; exact .row (s _ _ h1) h0 h2 fun i d x e1 e2 => ih i d x e1 e2 (bels_get hb e1)
 | lst h1 h2 _ ih => intro hb; simp only [Mn.bel] at hb; exact .lst (s _ _ h1) h2 fun i d x e1 e2 => ih i d x e1 e2 (bels_get hb e1)
 | dctK h1 h2 h3 _ ih => intro hb; simp only [Mn.bel] at hb; exact .dctK (s _ _ h1) h2 h3 fun i d x e1 e2 => ih i d x e1 e2 (belp_get hb e1).2
 | dctT h1 h2 h3 _ ih => intro hb; simp only [Mn.bel] at hb; exact .dctT (s _ _ h1) h2 h3 fun i d x e1 e2 => ih i d x e1 e2 (belp_get hb e1).2
 | ins h1 h0 h2 h3 _ ih => intro hb; simp only [Mn.bel] at hb; exact .ins (s _ _ h1) h0 h2 h3 fun i d x e1 e2 => ih i d x e1 e2 (belf_get hb e1)
theorem DenO.low {d : D} {o : HO} (h : DenO S ι' F d o) (p : ∀ (i : Nat) (a : Addr), i < n → ι'[i]? = some a → ι[i]? = some a) (s : Sub F F') : Mn.bel n d = true → DenO S ι F' d o := by
 induction h with
 | lst h => intro hb; simp only [Mn.bel] at hb; exact .lst ⟨h.1, fun i d x e1 e2 => (h.2 i d x e1 e2).low p s (bels_get hb e1)⟩
 | dctK h2 h3 h4 => intro hb; simp only [Mn.bel] at hb; exact .dctK h2 h3 fun i d x e1 e2 => (h4 i d x e1 e2).low p s (belp_get hb e1).2
 | dctT h2 h3 h4 => intro hb; simp only [Mn.bel] at hb; exact .dctT h2 h3 fun i d x e1 e2 => (h4 i d x e1 e2).low p s (belp_get hb e1).2
 | lck hf _ ih => intro hb; exact .lck hf (ih (by simpa [Mn.bel] using hb))
 | ins h0 h2 h3 h4 => intro hb; simp only [Mn.bel] at hb; exact .ins h0 h2 h3 fun i d x e1 e2 => (h4 i d x e1 e2).low p s (belf_get hb e1)
theorem subs_get (g : Nat → D) : ∀ {ds : List D} {i : Nat}, (subs g ds)[i]? = (ds[i]?).map (sub g)
 | [], i => by simp [subs]
 | d :: ds, 0 => by simp [subs]
 | d :: ds, i + 1 => by simpa [subs] using subs_get g (ds := ds) (i := i)
theorem subp_get (g : Nat → D) : ∀ {ds : List (D × D)} {i : Nat}, (subp g ds)[i]? = (ds[i]?).map fun p => (sub g p.1, sub g p.2)
 | [], i => by simp [subp]
 | (a, b) :: ds, 0 => by simp [subp]
 | (a, b) :: ds, i + 1 => by simpa [subp] using subp_get g (ds := ds) (i := i)
theorem subf_get (g : Nat → D) : ∀ {ds : List (Nat × D)} {i : Nat}, (subf g ds)[i]? = (ds[i]?).map fun p => (p.1, sub g p.2)
 | [], i => by simp [subf]
 | (a, b) :: ds, 0 => by simp [subf]
 | (a, b) :: ds, i + 1 => by simpa [subf] using subf_get g (ds := ds) (i := i)
theorem subs_len (g : Nat → D) (ds : List D) : (subs g ds).length = ds.length := by
 induction ds with
 | nil => rfl
 | cons d ds ih => simp [subs, ih]
theorem subp_len (g : Nat → D) (ds : List (D × D)) : (subp g ds).length = ds.length := by
 induction ds with
 | nil => rfl
 | cons d ds ih => obtain ⟨a, b⟩ := d; simp [subp, ih]
theorem subf_len (g : Nat → D) (ds : List (Nat × D)) : (subf g ds).length = ds.length := by
 induction ds with
 | nil => rfl
 | cons d ds ih => obtain ⟨a, b⟩ := d; simp [subf, ih]
theorem sub_key (g : Nat → D) (k : L2.Key) : sub g (keyD k) = keyD k := by cases k <;> simp [keyD, sub]
theorem sub_keys (g : Nat → D) : ∀ ks : List L2.Key, subs g (ks.map keyD) = ks.map keyD
 | [] => rfl
 | k :: ks => by simp [subs, sub_key, sub_keys g ks]
theorem insOk_sub {c : Nat} {fs : List (Nat × D)} {g : Nat → D} (h : InsOk S c fs) : InsOk S c (subf g fs) := by
 have mem : ∀ p ∈ subf g fs, ∃ q ∈ fs, q.1 = p.1 := fun p hp => by
  obtain ⟨i, hi⟩ := List.mem_iff_getElem?.mp hp
  rw [subf_get] at hi
  obtain ⟨q, hq, rfl⟩ := Option.map_eq_some_iff.mp hi
  exact ⟨q, List.mem_iff_getElem?.mpr ⟨i, hq⟩, rfl⟩
 exact ⟨h.cl, h.cls, fun p hp => by obtain ⟨q, hq, e⟩ := mem p hp; rw [← e]; exact h.no q hq, fun p hp => by obtain ⟨q, hq, e⟩ := mem p hp; rw [← e]; exact h.lt q hq⟩
theorem Den.subst {g : Nat → D} (hg : ∀ (i : Nat) (a : Addr), ι'[i]? = some a → Mn.bel n (g i) = true → Den S ι F'' (g i) (.ref a)) (s : Sub F F'') {d : D} {v : V} (h : Den S ι' F d v) : Mn.bel n (sub g d) = true → Den S ι F'' (sub g d) v := by
 induction h with
 | non => intro _; exact .non
 | bl b => intro _; exact .bl b
 | int i => intro _; exact .int i
 | str x h => intro _; exact .str x h
 | ty n => intro _; exact .ty n
 | cls c h => intro _; exact .cls c h
 | ref e => intro hb; exact hg _ _ e (by simpa [sub] using hb)
 | scr h => intro _; exact .scr (sqL_sub s h)
 | tup h1 h2 _ ih =>
  intro hb
  simp only [sub, Mn.bel] at hb ⊢
  refine .tup (s _ _ h1) (by rw [subs_len]; exact h2) fun i d x e1 e2 => ?_
  rw [subs_get] at e1
  obtain ⟨d0, e0, rfl⟩ := Option.map_eq_some_iff.mp e1
  exact ih i d0 x e0 e2 (bels_get hb (by rw [subs_get, e0]; rfl))
 | row h1 h0 h2 _ ih =>
  intro hb
  simp only [sub, Mn.bel] at hb ⊢
  refine .row (s _ _ h1) h0 (by rw [subs_len]; exact h2) fun i d x e1 e2 => ?_
  rw [subs_get] at e1
  obtain ⟨d0, e0, rfl⟩ := Option.map_eq_some_iff.mp e1
  exact ih i d0 x e0 e2 (bels_get hb (by rw [subs_get, e0]; rfl))
 | lst h1 h2 _ ih =>
  intro hb
  simp only [sub, Mn.bel] at hb ⊢
  refine .lst (s _ _ h1) (by rw [subs_len]; exact h2) fun i d x e1 e2 => ?_
  rw [subs_get] at e1
  obtain ⟨d0, e0, rfl⟩ := Option.map_eq_some_iff.mp e1
  exact ih i d0 x e0 e2 (bels_get hb (by rw [subs_get, e0]; rfl))
 | dctK h1 h2 h3 _ ih =>
  intro hb
  simp only [sub, Mn.bel] at hb ⊢
  refine .dctK (s _ _ h1) (by rw [subp_len]; exact h2) (fun i p q e1 e2 => ?_) fun i p q e1 e2 => ?_
  ·rw [subp_get] at e1
   obtain ⟨d0, e0, rfl⟩ := Option.map_eq_some_iff.mp e1
   obtain ⟨k1, k2⟩ := h3 i d0 q e0 e2
   exact ⟨by show sub g d0.1 = _; rw [k1, sub_key], k2⟩
  ·rw [subp_get] at e1
   obtain ⟨d0, e0, rfl⟩ := Option.map_eq_some_iff.mp e1
   exact ih i d0 q e0 e2 (belp_get hb (i := i) (by rw [subp_get, e0]; rfl)).2
 | dctT h1 h2 h3 _ ih =>
  intro hb
  simp only [sub, Mn.bel] at hb ⊢
  refine .dctT (s _ _ h1) (by rw [subp_len]; exact h2) (fun i p q e1 e2 => ?_) fun i p q e1 e2 => ?_
  ·rw [subp_get] at e1
   obtain ⟨d0, e0, rfl⟩ := Option.map_eq_some_iff.mp e1
   obtain ⟨k1, k2⟩ := h3 i d0 q e0 e2
   exact ⟨by show sub g d0.1 = _; rw [k1]; simp only [sub]; rw [sub_keys], k2⟩
  ·rw [subp_get] at e1
   obtain ⟨d0, e0, rfl⟩ := Option.map_eq_some_iff.mp e1
   exact ih i d0 q e0 e2 (belp_get hb (i := i) (by rw [subp_get, e0]; rfl)).2
 | ins h1 h0 h2 h3 _ ih =>
  intro hb
  simp only [sub, Mn.bel] at hb ⊢
  refine .ins (s _ _ h1) (insOk_sub h0) (by rw [subf_len]; exact h2) (fun i p q e1 e2 => ?_) fun i p q e1 e2 => ?_
  ·rw [subf_get] at e1
   obtain ⟨d0, e0, rfl⟩ := Option.map_eq_some_iff.mp e1
   exact h3 i d0 q e0 e2
  ·rw [subf_get] at e1
   obtain ⟨d0, e0, rfl⟩ := Option.map_eq_some_iff.mp e1
   exact ih i d0 q e0 e2 (belf_get hb (i := i) (by rw [subf_get, e0]; rfl))
theorem DenL.subst {g : Nat → D} (hg : ∀ (i : Nat) (a : Addr), ι'[i]? = some a → Mn.bel n (g i) = true → Den S ι F'' (g i) (.ref a)) (s : Sub F F'') {ds : List D} {xs : List V} (h : DenL S ι' F ds xs) (hb : bels n (subs g ds) = true) : DenL S ι F'' (subs g ds) xs := by
 refine ⟨by rw [subs_len]; exact h.1, fun i d x e1 e2 => ?_⟩
 rw [subs_get] at e1
 obtain ⟨d0, e0, rfl⟩ := Option.map_eq_some_iff.mp e1
 exact (h.2 i d0 x e0 e2).subst hg s (bels_get hb (by rw [subs_get, e0]; rfl))
theorem DenF.subst {g : Nat → D} (hg : ∀ (i : Nat) (a : Addr), ι'[i]? = some a → Mn.bel n (g i) = true → Den S ι F'' (g i) (.ref a)) (s : Sub F F'') {ds : List (Nat × D)} {xs : List (Str × V)} (h : DenF S ι' F ds xs) (hb : belf n (subf g ds) = true) : DenF S ι F'' (subf g ds) xs := by
 obtain ⟨h1, h2, h3⟩ := h
 refine ⟨by rw [subf_len]; exact h1, fun i p q e1 e2 => ?_, fun i p q e1 e2 => ?_⟩
 ·rw [subf_get] at e1
  obtain ⟨d0, e0, rfl⟩ := Option.map_eq_some_iff.mp e1
  exact h2 i d0 q e0 e2
 ·rw [subf_get] at e1
  obtain ⟨d0, e0, rfl⟩ := Option.map_eq_some_iff.mp e1
  exact (h3 i d0 q e0 e2).subst hg s (belf_get hb (i := i) (by rw [subf_get, e0]; rfl))
theorem DenO.subst {g : Nat → D} (hg : ∀ (i : Nat) (a : Addr), ι'[i]? = some a → Mn.bel n (g i) = true → Den S ι F'' (g i) (.ref a)) (s : Sub F F'') {d : D} {o : HO} (h : DenO S ι' F d o) (hl : ∀ ps, d ≠ .lck ps) (hb : Mn.bel n (sub g d) = true) : DenO S ι F'' (sub g d) o := by
 cases h with
 | lck _ _ => exact absurd rfl (hl _)
 | lst h =>
  simp only [sub, Mn.bel] at hb ⊢
  exact .lst (h.subst hg s hb)
 | dctK h2 h3 h4 =>
  simp only [sub, Mn.bel] at hb ⊢
  refine .dctK (by rw [subp_len]; exact h2) (fun i p q e1 e2 => ?_) fun i p q e1 e2 => ?_
  ·rw [subp_get] at e1
   obtain ⟨d0, e0, rfl⟩ := Option.map_eq_some_iff.mp e1
   obtain ⟨k1, k2⟩ := h3 i d0 q e0 e2
   exact ⟨by show sub g d0.1 = _; rw [k1, sub_key], k2⟩
  ·rw [subp_get] at e1
   obtain ⟨d0, e0, rfl⟩ := Option.map_eq_some_iff.mp e1
   exact (h4 i d0 q e0 e2).subst hg s (belp_get hb (i := i) (by rw [subp_get, e0]; rfl)).2
 | dctT h2 h3 h4 =>
  simp only [sub, Mn.bel] at hb ⊢
  refine .dctT (by rw [subp_len]; exact h2) (fun i p q e1 e2 => ?_) fun i p q e1 e2 => ?_
  ·rw [subp_get] at e1
   obtain ⟨d0, e0, rfl⟩ := Option.map_eq_some_iff.mp e1
   obtain ⟨k1, k2⟩ := h3 i d0 q e0 e2
   exact ⟨by show sub g d0.1 = _; rw [k1]; simp only [sub]; rw [sub_keys], k2⟩
  ·rw [subp_get] at e1
   obtain ⟨d0, e0, rfl⟩ := Option.map_eq_some_iff.mp e1
   exact (h4 i d0 q e0 e2).subst hg s (belp_get hb (i := i) (by rw [subp_get, e0]; rfl)).2
 | ins h0 h2 h3 h4 =>
  simp only [sub, Mn.bel] at hb ⊢
  have := DenF.subst hg s ⟨h2, h3, h4⟩ hb
  exact .ins (insOk_sub h0) this.1 this.2.1 this.2.2
open Classical in
noncomputable def frozen (n : Nat) (x : Option Nat) (ι' : List Addr) (F' H : Hp) : Hp := fun a => if ∃ i, n ≤ i ∧ x ≠ some i ∧ ι'[i]? = some a ∧ ¬ ∃ ob o, H a = some (.frz ob o) then H a else F' a
theorem frozen_at {x : Option Nat} {i : Nat} {a : Addr} (h1 : n ≤ i) (h2 : x ≠ some i) (h3 : ι'[i]? = some a) (h4 : ¬ ∃ ob o, H a = some (.frz ob o)) : frozen n x ι' F' H a = H a := if_pos ⟨i, h1, h2, h3, h4⟩
theorem frozen_or {x : Option Nat} (a : Addr) : frozen n x ι' F' H a = F' a ∨ ∃ i, n ≤ i ∧ x ≠ some i ∧ ι'[i]? = some a ∧ (¬ ∃ ob o, H a = some (.frz ob o)) ∧ frozen n x ι' F' H a = H a := by
 by_cases h : ∃ i, n ≤ i ∧ x ≠ some i ∧ ι'[i]? = some a ∧ ¬ ∃ ob o, H a = some (.frz ob o)
 ·obtain ⟨i, h1, h2, h3, h4⟩ := h
  exact .inr ⟨i, h1, h2, h3, h4, frozen_at h1 h2 h3 h4⟩
 ·exact .inl (if_neg h)
theorem frozen_sub {x : Option Nat} (R : Rel S ι' F' G M' H) : Sub F' (frozen n x ι' F' H) := fun a o e => by
 rcases frozen_or (n := n) (x := x) (ι' := ι') (F' := F') (H := H) a with h | ⟨i, h1, h2, h3, _, _⟩
 ·rw [h]; exact e
 ·rw [(R.out i a h3).1] at e; cases e
theorem look_den {x : Option Nat} (R : Rel S ι' F' G M' H) (hp : ∀ (i : Nat) (a : Addr), i < n → ι'[i]? = some a → ι[i]? = some a) : ∀ (k i : Nat) (a : Addr), ι'[i]? = some a → Mn.bel n (look n x M' k i) = true → Den S ι (frozen n x ι' F' H) (look n x M' k i) (.ref a)
 | 0, i, a, e, hb => by
  have hi : i < n := by simpa [look, Mn.bel] using hb
  exact .ref (hp i a hi e)
 | k + 1, i, a, e, hb => by
  unfold look at hb ⊢
  split at hb
  ·rename_i hc
   have hi : i < n := by simpa [Mn.bel] using hb
   rw [if_pos hc]
   exact .ref (hp i a hi e)
  ·rename_i hc
   rw [if_neg hc]
   rw [not_or, Nat.not_lt] at hc
   obtain ⟨d, o, e1, e2, e3⟩ := R.at e
   rw [e1] at hb ⊢
   have s := frozen_sub (n := n) (x := x) R
   have ih := look_den (x := x) R hp k
   have at_ : ¬ (∃ ob o, H a = some (.frz ob o)) → frozen n x ι' F' H a = some o := fun hz => by rw [frozen_at hc.1 hc.2 e hz]; exact e2
   cases e3 with
   | lck _ _ => 
    have hi : i < n := by simpa [Mn.bel] using hb
    omega
   | lst h =>
    have z := at_ (by rw [e2]; rintro ⟨_, _, q⟩; cases q)
    have zd := Den.lst (S := S) (ι := ι') (F := upd F' a (.lst _)) upd_same h.1 fun i d x a b => (h.2 i d x a b).mono (fun _ _ w => w) (Sub.upd (R.out _ _ e).1)
    exact zd.subst ih (fun b u q => by
     by_cases hba : b = a
     ·subst hba; rw [upd_same] at q; cases q; exact z
     ·rw [upd_ne hba] at q; exact s b u q) hb
   | dctK h1 h2 h3 =>
    have z := at_ (by rw [e2]; rintro ⟨_, _, q⟩; cases q)
    have zd := Den.dctK (S := S) (ι := ι') (F := upd F' a (.dK _)) upd_same h1 h2 fun i d x a b => (h3 i d x a b).mono (fun _ _ w => w) (Sub.upd (R.out _ _ e).1)
    exact zd.subst ih (fun b u q => by
     by_cases hba : b = a
     ·subst hba; rw [upd_same] at q; cases q; exact z
     ·rw [upd_ne hba] at q; exact s b u q) hb
   | dctT h1 h2 h3 =>
    have z := at_ (by rw [e2]; rintro ⟨_, _, q⟩; cases q)
    have zd := Den.dctT (S := S) (ι := ι') (F := upd F' a (.dT _)) upd_same h1 h2 fun i d x a b => (h3 i d x a b).mono (fun _ _ w => w) (Sub.upd (R.out _ _ e).1)
    exact zd.subst ih (fun b u q => by
     by_cases hba : b = a
     ·subst hba; rw [upd_same] at q; cases q; exact z
     ·rw [upd_ne hba] at q; exact s b u q) hb
   | @ins dx c gs fs h0 h1 h2 h3 =>
    have z := at_ (by rw [e2]; rintro ⟨_, _, q⟩; cases q)
    have zd := Den.ins (S := S) (ι := ι') (F := upd F' a (.ins (S.ca c) dx gs)) upd_same h0 h1 h2 fun i d x a b => (h3 i d x a b).mono (fun _ _ w => w) (Sub.upd (R.out _ _ e).1)
    exact zd.subst ih (fun b u q => by
     by_cases hba : b = a
     ·subst hba; rw [upd_same] at q; cases q; exact z
     ·rw [upd_ne hba] at q; exact s b u q) hb
theorem Rel.exit {x : Option Nat} {H0 : Hp} (R0 : Rel S ι F G M H0) (hn : M.length = n) (p : Pre ι ι') (s0 : Sub F F') (R : Rel S ι' F' G M' H) (hok : okM n M M') : Rel S ι (frozen n x ι' F' H) G (M'.take n) H := by
 have hι : ι.length = n := by rw [R0.len, hn]
 have low : ∀ (i : Nat) (a : Addr), i < n → ι'[i]? = some a → ι[i]? = some a := fun i a hi e => by
  have h1 : i < ι.length := by omega
  have h2 := p i ι[i] (List.getElem?_eq_getElem h1)
  rw [h2] at e
  cases e
  exact List.getElem?_eq_getElem h1
 have s := frozen_sub (n := n) (x := x) R
 refine ⟨?_, R0.nd, fun i d a h1 h2 => ?_, fun i a h => ?_, fun a o h => ?_, fun a o h => ?_⟩
 ·rw [List.length_take, hι, Nat.min_eq_left hok.1]
 ·rw [List.getElem?_take] at h1
  split at h1
  case isFalse => cases h1
  rename_i hi
  obtain ⟨o, e1, e2⟩ := R.own i d a h1 (p i a h2)
  have hb : Mn.bel n d = true := by
   rcases hok.2 i hi with h | ⟨d', h, hb⟩
   ·rw [h1] at h
    obtain ⟨o0, _, e0⟩ := R0.own i d a h.symm h2
    rw [← hι]
    exact e0.bel
   ·rw [h1] at h
    cases h
    exact hb
  exact ⟨o, e1, (e2.low low (Sub.refl F') hb).mono (fun _ _ w => w) s⟩
 ·obtain ⟨e1, e2⟩ := R.out i a (p i a h)
  refine ⟨?_, e2⟩
  rcases frozen_or (n := n) (x := x) (ι' := ι') (F' := F') (H := H) a with h' | ⟨j, h1, h2, h3, _, _⟩
  ·rw [h']; exact e1
  ·have hi := (List.getElem?_eq_some_iff.mp h).1
   obtain ⟨hj, ej⟩ := List.getElem?_eq_some_iff.mp h3
   obtain ⟨hi', ei⟩ := List.getElem?_eq_some_iff.mp (p i a h)
   have := (List.getElem_inj R.nd).mp (ei.trans ej.symm)
   omega
 ·rcases frozen_or (n := n) (x := x) (ι' := ι') (F' := F') (H := H) a with h' | ⟨j, h1, h2, h3, _, h'⟩
  ·rw [h'] at h; exact R.frz a o h
  ·rw [h'] at h; exact .inl h
 ·obtain ⟨e1, e2⟩ := R.frm a o h
  refine ⟨e1, fun hd => ?_⟩
  rcases frozen_or (n := n) (x := x) (ι' := ι') (F' := F') (H := H) a with h' | ⟨j, h1, h2, h3, _, _⟩
  ·rw [h']; exact e2 hd
  ·have := (R.out j a h3).2 o h
   cases o <;> first | exact False.elim hd | exact False.elim this
theorem Rel.exitO {j : Nat} {a : Addr} {H0 : Hp} {c d : D} {o : HO} (R0 : Rel S ι F G M H0) (hn : M.length = n) (p : Pre ι ι') (s0 : Sub F F') (R : Rel S ι' F' G M' H) (hok : okM n M M') (hj : n ≤ j) (ha : ι'[j]? = some a) (hH : H a = some o) (hd : DenO S ι (frozen n (some j) ι' F' H) d o) :
  Rel S (ι ++ [a]) (frozen n (some j) ι' F' H) G (M'.take n ++ [d]) H := by
 have R1 := R0.exit (x := some j) hn p s0 R hok
 have hι : ι.length = n := by rw [R0.len, hn]
 have fn : frozen n (some j) ι' F' H a = none := by
  rcases frozen_or (n := n) (x := some j) (ι' := ι') (F' := F') (H := H) a with h' | ⟨i, h1, h2, h3, _, _⟩
  ·rw [h']; exact (R.out j a ha).1
  ·obtain ⟨hi, ei⟩ := List.getElem?_eq_some_iff.mp h3
   obtain ⟨hj', ej⟩ := List.getElem?_eq_some_iff.mp ha
   have := (List.getElem_inj R.nd).mp (ei.trans ej.symm)
   subst this
   exact absurd rfl h2
 have nin : a ∉ ι := fun h => by
  obtain ⟨i, hi, e⟩ := List.getElem_of_mem h
  obtain ⟨hi', ei⟩ := List.getElem?_eq_some_iff.mp (p i a (by rw [List.getElem?_eq_getElem hi, e]))
  obtain ⟨hj', ej⟩ := List.getElem?_eq_some_iff.mp ha
  have := (List.getElem_inj R.nd).mp (ei.trans ej.symm)
  omega
 refine ⟨by simp [R1.len], ?_, fun i e b h1 h2 => ?_, fun i b h2 => ?_, R1.frz, R1.frm⟩
 ·rw [List.nodup_append]
  exact ⟨R1.nd, by simp, fun y hy b hb => by simp at hb; subst hb; exact fun z => nin (z ▸ hy)⟩
 ·by_cases hi : i < ι.length
  ·rw [List.getElem?_append_left (by rw [← R1.len]; exact hi)] at h1
   rw [List.getElem?_append_left hi] at h2
   obtain ⟨u, e1, e2⟩ := R1.own i e b h1 h2
   exact ⟨u, e1, e2.mono (pre_app ι a) (Sub.refl _)⟩
  ·have hi2 := (List.getElem?_eq_some_iff.mp h2).1
   have ei : i = ι.length := by simp at hi2; omega
   subst ei
   rw [List.getElem?_append_right (Nat.le_refl _)] at h2
   rw [R1.len, List.getElem?_append_right (Nat.le_refl _)] at h1
   simp at h1 h2
   subst h1; subst h2
   exact ⟨o, hH, hd.mono (pre_app ι a) (Sub.refl _)⟩
 ·by_cases hi : i < ι.length
  ·rw [List.getElem?_append_left hi] at h2
   exact R1.out i b h2
  ·have hi2 := (List.getElem?_eq_some_iff.mp h2).1
   have ei : i = ι.length := by simp at hi2; omega
   subst ei
   rw [List.getElem?_append_right (Nat.le_refl _)] at h2
   simp at h2
   subst h2
   exact ⟨fn, (R.out j a ha).2⟩
theorem low_of {H0 : Hp} (R0 : Rel S ι F G M H0) (hn : M.length = n) (p : Pre ι ι') : ∀ (i : Nat) (a : Addr), i < n → ι'[i]? = some a → ι[i]? = some a := fun i a hi e => by
 have h1 : i < ι.length := by rw [R0.len]; omega
 have h2 := p i ι[i] (List.getElem?_eq_getElem h1)
 rw [h2] at e
 cases e
 exact List.getElem?_eq_getElem h1
theorem fin_ok {esc : Bool} {d : D} {v : V} {Q : VK} {Wx : WX3} {H0 : Hp} (R0 : Rel S ι F G M H0) (hn : M.length = n) (p : Pre ι ι') (s0 : Sub F F') (R : Rel S ι' F' G M' H) (dv : Den S ι' F' d v) (q : PostG S Wx ι F G (kV1 S Q) (fin esc n M M' d)) : Q v H := by
 unfold fin at q
 split at q
 case isFalse => exact False.elim q
 rename_i hok
 have low := low_of R0 hn p
 split at q
 ·split at q
  case h_2 => exact False.elim q
  rename_i j
  split at q
  case isFalse => exact False.elim q
  rename_i hj
  split at q
  case h_1 => exact False.elim q
  case h_3 => exact False.elim q
  rename_i c hl hc
  split at q
  case isFalse => exact False.elim q
  rename_i hb
  cases dv with
  | @ref _ a e =>
   obtain ⟨o, e1, e2⟩ := R.own j c a hc e
   have s := frozen_sub (n := n) (x := some j) R
   have hd := DenO.subst (g := look n (some j) M' 6) (look_den R low 6) s e2 (fun ps z => hl ps z) hb
   refine q (ι ++ [a]) _ H (pre_app ι a) (s0.trans s) (R0.exitO (c := c) hn p s0 R hok hj e e1 hd) (.ref a) (.ref ?_)
   rw [← hn, ← R0.len, List.getElem?_append_right (Nat.le_refl _)]
   simp
 ·split at q
  case isFalse => exact False.elim q
  rename_i hb
  have s := frozen_sub (n := n) (x := none) R
  exact q ι _ H (.refl ι) (s0.trans s) (R0.exit hn p s0 R hok) v (dv.subst (g := look n none M' 6) (look_den R low 6) s hb)
theorem finX_ok {c : Nat} {fs : List (Nat × D)} {gs : List (Str × V)} {k : D → List Addr → Hp → Mem → Hp → Prop} {Wx : WX3} {H0 : Hp} {e : Addr} (R0 : Rel S ι F G M H0) (hn : M.length = n) (p : Pre ι ι') (s0 : Sub F F') (R : Rel S ι' F' G M' H) (he : H e = some (.xd gs)) (df : DenF S ι' F' fs gs)
  (q : PostG S Wx ι F G k (finX n M M' c fs)) : Wx (.ref (S.ca c)) (some e) H := by
 unfold finX at q
 split at q
 case isFalse => exact False.elim q
 rename_i hok
 have s := frozen_sub (n := n) (x := none) R
 exact q ι _ H e gs (.refl ι) (s0.trans s) (R0.exit hn p s0 R hok.1) he (df.subst (g := look n none M' 6) (look_den R (low_of R0 hn p) 6) s hok.2)
end
end Mn
end
section
namespace Mn
open PySem PySem.Spec PyProof.Rows L2
def SqB : Bool → PySem.W.Frag → Hp → Addr → List V → Prop
 | true => SqT
 | false => SqL
def ItB : Bool → Heap → Addr → Addr → Nat → Prop
 | true => Heap.IsTupleIter
 | false => Heap.IsListIter
def SeqB : Bool → Heap → Addr → Array Value → Prop
 | true => Heap.IsTuple
 | false => Heap.IsList
def iterO : Bool → Addr → Obj
 | true, a => { cls := .type "tuple_iterator", data := .fields #[.ref a, .int 0 0] }
 | false, a => { cls := .type "list_iterator", data := .fields #[.ref a, .int 0 0] }
theorem ItB.at {b : Bool} {h h' : Heap} {it a : Addr} {i : Nat} (x : ItB b h it a i) (k : ∀ o, h.get? it = some o → h'.get? it = some o) : ItB b h' it a i := by
 cases b
 ·exact Heap.IsListIter.at x k
 ·exact Heap.IsTupleIter.at x k
theorem SeqB.ne {b : Bool} {h : Heap} {it a : Addr} {its : Array Value} (x : SeqB b h a its) {o : Obj} (e : h.get? it = some o) (c : o.cls = .type "tuple_iterator" ∨ o.cls = .type "list_iterator") : a ≠ it := fun z => by
 subst z
 cases b
 ·obtain ⟨u, e2, c2, _⟩ := (show Heap.IsList h a its from x)
  rw [e] at e2
  cases e2
  rw [c2] at c
  rcases c with c | c <;> (injection c with c; exact absurd c (by decide))
 ·obtain ⟨u, e2, c2, _⟩ := (show Heap.IsTuple h a its from x)
  rw [e] at e2
  cases e2
  rw [c2] at c
  rcases c with c | c <;> (injection c with c; exact absurd c (by decide))
section
variable {X : Cx} {pins : List (Addr × Obj)} {σ : L2.St} {H : Hp} {s : Shared}
theorem Inv.seqB {b : Bool} {a : Addr} {xs : List V} (I : Inv X pins σ H s) (h : SqB b X.K H a xs) : ∃ its : List Value, Vals xs its ∧ SeqB b s.heap a its.toArray ∧ xs.length ≤ sizeLine := by
 cases b
 ·obtain ⟨its, rv, p, hz⟩ := L2.Inv.list I h
  exact ⟨its, rv, p.isList, hz⟩
 ·obtain ⟨its, rv, p, hz⟩ := L2.Inv.tuple I h
  exact ⟨its, rv, p, hz⟩
end
def ItE (b : Bool) (K : PySem.W.Frag) (a : Addr) : L2.It :=
 ⟨fun i H => ∃ (xs : List V) (x : V), SqB b K H a xs ∧ xs[i]? = some x, fun i H v H' => ∃ T x, v = .ref T ∧ H T = none ∧ H' = upd H T (.tup [.int (i : Nat), x]) ∧ ∀ xs, SqB b K H a xs → xs[i]? = some x, fun i H => ∃ xs : List V, SqB b K H a xs ∧ xs.length = i⟩
end Mn
end
section
namespace Mn
open PySem PySem.Spec PyProof.Rows L2
def ItZ (b b' : Bool) (K : PySem.W.Frag) (a c : Addr) : L2.It :=
 ⟨fun i H => ∃ (xs ys : List V) (x y : V), SqB b K H a xs ∧ SqB b' K H c ys ∧ xs[i]? = some x ∧ ys[i]? = some y,
  fun i H v H' => ∃ T x y, v = .ref T ∧ H T = none ∧ H' = upd H T (.tup [x, y]) ∧ (∀ xs, SqB b K H a xs → xs[i]? = some x) ∧ ∀ ys, SqB b' K H c ys → ys[i]? = some y,
  fun i H => ∃ xs ys : List V, SqB b K H a xs ∧ SqB b' K H c ys ∧ min xs.length ys.length = i⟩
structure Apart (z TI TO i1 i2 a c : Addr) : Prop where
 s : ZipSep2 z TI TO i1 i2 [i1, a] [i2, c]
end Mn
end
section
namespace Mn
open PySem PySem.Spec PyProof.Rows L2
def Cv (X : Cx) (H H' : Hp) : Prop := ∀ pins σ s, Inv X pins σ H s → Inv X pins σ H' s
def Thin : Option HO → Prop
 | none => True
 | some (.xd _) => True
 | _ => False
theorem Cv.refl (X : Cx) (H : Hp) : Cv X H H := fun _ _ _ I => I
structure Wlk (S : Sit) (ι0 : List Addr) (F0 G : Hp) (w : Walk) (J : L2.It) : Prop where
 go : ∀ (i : Nat) ι F G' M H, (∀ b o, G b = some o → G' b = some o) → Pre ι0 ι → Sub F0 F → Rel S ι F G' M H → w.ok M = true → i < w.xs.length → J.go i H
 yld : ∀ (i : Nat) ι F G' M H x H' d, (∀ b o, G b = some o → G' b = some o) → Pre ι0 ι → Sub F0 F → Rel S ι F G' M H → w.ok M = true → w.xs[i]? = some d → J.yld i H x H' → ∃ F', Sub F F' ∧ Rel S ι F' G' M H' ∧ Den S ι F' d x
 stop : ∀ ι F G' M H, (∀ b o, G b = some o → G' b = some o) → Pre ι0 ι → Sub F0 F → Rel S ι F G' M H → w.ok M = true → J.stop w.xs.length H
structure Lkd (S : Sit) (X : Cx) (ι : List Addr) (F G : Hp) (w : Walk) (M : Mem) (J : L2.It) (G2 H2 : Hp) : Prop where
 rel : Rel S ι F G2 (w.lock M) H2
 wlk : Wlk S ι F G2 w J
 back : ∀ ι' F' M' H', Pre ι ι' → Sub F F' → Rel S ι' F' G2 M' H' → ∃ H3, Cv X H' H3 ∧ Rel S ι' F' G (w.ulk M') H3 ∧ ∀ b, H2 b = none ∨ Thin (H' b) → H3 b = H' b
 gs : ∀ b, G2 b = none → G b = none
structure Emp (X : Cx) (J : L2.It) (H2 H : Hp) : Prop where
 stop : J.stop 0 H2
 stopU : ∀ D o, H2 D = none → J.stop 0 (upd H2 D o)
 cv : Cv X H2 H
 cvU : ∀ D o, H2 D = none → Cv X (upd H2 D o) (upd H D o)
 non : ∀ b, H2 b = none → H b = none
abbrev kW (S : Sit) (X : Cx) (G : Hp) (R : L2.It → Hp → Prop) : Walk → List Addr → Hp → Mem → Hp → Prop := fun w ι F M H => (∀ J G2 H2, w.xs.length ≤ sizeLine → Lkd S X ι F G w M J G2 H2 → R J H2) ∧ (w.xs = [] → w.lk = none → ∀ J H2, Emp X J H2 H → R J H2)
def LI (S : Sit) (X : Cx) (W : L2.WX) (f : Sl → Mem → Res Walk) : TI := fun σ H R => ∃ ι F G σ' M, Rel S ι F G M H ∧ RS S ι F σ' σ ∧ PostG S (fun c e H => W c e σ H) ι F G (kW S X G R) (f σ' M)
abbrev SI (S : Sit) (W : L2.WX) (cf mf : Calls) (X : Cx) (tg e : Expr) (c : It) : Prop := PI X tg e (LI S X W (evI S.T cf mf c))
structure SeqW (S : Sit) (ι0 : List Addr) (F0 : Hp) (w : Walk) (b : Bool) (a : Addr) : Prop where
 at_ : ∀ ι F G M H, Pre ι0 ι → Sub F0 F → Rel S ι F G M H → w.ok M = true → ∃ ws, SqB b S.K H a ws ∧ DenL S ι F w.xs ws
 lk : w.lk = none
section
variable {S : Sit} {ι : List Addr} {F G H : Hp} {M : Mem} {w : Walk}
theorem seqW_of {d : D} {x : V} (dx : Den S ι F d x) (R : Rel S ι F G M H) (e : seqOf M d = some w) : ∃ a b, x = .ref a ∧ SeqW S ι F w b a := by
 cases dx with
 | @tup a ws ds h1 h2 h3 =>
  cases e
  exact ⟨a, true, rfl, ⟨fun ι1 F1 G1 M1 H1 p s R1 _ => ⟨ws, .inl (.inl (SubH.tup R1.frz (s _ _ h1))), DenL.mono ⟨h2, h3⟩ p s⟩, rfl⟩⟩
 | @row a ob ws ds h1 h0 h2 h3 =>
  cases e
  exact ⟨a, true, rfl, ⟨fun ι1 F1 G1 M1 H1 p s R1 _ => ⟨ws, .inl (.inr ⟨_, SubH.fz R1.frz (s _ _ h1)⟩), DenL.mono ⟨h2, h3⟩ p s⟩, rfl⟩⟩
 | @lst a ws ds h1 h2 h3 =>
  cases e
  exact ⟨a, false, rfl, ⟨fun ι1 F1 G1 M1 H1 p s R1 _ => ⟨ws, SqL.of (SubH.lst R1.frz (s _ _ h1)), DenL.mono ⟨h2, h3⟩ p s⟩, rfl⟩⟩
 | @scr a ns h1 =>
  cases e
  exact ⟨a, false, rfl, ⟨fun ι1 F1 G1 M1 H1 p s R1 _ => ⟨_, sqL_subH R1.frz (sqL_sub s h1), den_ints⟩, rfl⟩⟩
 | @ref i a h =>
  obtain ⟨c, o, e1, e2, e3⟩ := R.at h
  unfold seqOf at e
  simp only [e1] at e
  cases e3 with
  | @lst ws ds h2 =>
   cases e
   refine ⟨a, false, rfl, ⟨fun ι1 F1 G1 M1 H1 p s R1 ok => ?_, rfl⟩⟩
   have hM : M1[i]? = some (.lst ds) := by
    unfold Walk.ok at ok
    by_cases z : M1[i]? = some (.lst ds)
    ·exact z
    ·simp [z] at ok
   obtain ⟨o, g1, g2⟩ := R1.own i _ a hM (p i a h)
   cases g2 with
   | lst g2 => exact ⟨_, SqL.of g1, g2⟩
  | _ => cases e
 | _ => cases e
theorem SeqW.wlk {b : Bool} {a : Addr} (h : SeqW S ι F w b a) (G : Hp) : Wlk S ι F G w (match b with | true => Itt S.K a | false => Itl S.K a) where
 go := fun i ι1 F1 G M1 H1 hG p s R ok hi => by
  obtain ⟨ws, h1, h2⟩ := h.at_ ι1 F1 G M1 H1 p s R ok
  obtain ⟨v, hv, _⟩ := h2.get (List.getElem?_eq_getElem hi)
  cases b
  ·exact ⟨ws, v, h1, hv⟩
  ·exact ⟨ws, v, h1, hv⟩
 yld := fun i ι1 F1 G M1 H1 x H' d hG p s R ok hd hy => by
  obtain ⟨ws, h1, h2⟩ := h.at_ ι1 F1 G M1 H1 p s R ok
  obtain ⟨v, hv, dv⟩ := h2.get hd
  have key : H' = H1 ∧ ws[i]? = some x := by
   cases b
   ·exact ⟨hy.1, hy.2 ws h1⟩
   ·exact ⟨hy.1, hy.2 ws h1⟩
  obtain ⟨rfl, hx⟩ := key
  rw [hv] at hx
  cases hx
  exact ⟨F1, .refl F1, R, dv⟩
 stop := fun ι1 F1 G M1 H1 hG p s R ok => by
  obtain ⟨ws, h1, h2⟩ := h.at_ ι1 F1 G M1 H1 p s R ok
  cases b
  ·exact ⟨ws, h1, by rw [h2.1]; exact Nat.le_refl _⟩
  ·exact ⟨ws, h1, by rw [h2.1]; exact Nat.le_refl _⟩
theorem Lkd.plain {X : Cx} {J : L2.It} (hl : w.lk = none) (R : Rel S ι F G M H) (k : Wlk S ι F G w J) : Lkd S X ι F G w M J G H where
 rel := by unfold Walk.lock; rw [hl]; exact R
 wlk := k
 back := fun ι' F' M' H' _ _ R' => ⟨H', Cv.refl X H', by unfold Walk.ulk; rw [hl]; exact R', fun _ _ => rfl⟩
 gs := fun _ z => z
theorem pair_new {ι1 : List Addr} {F1 : Hp} {M1 : Mem} {H1 : Hp} {T : Addr} {u v : V} {d e : D} (R : Rel S ι1 F1 G M1 H1) (hT : H1 T = none) (du : Den S ι1 F1 d u) (dv : Den S ι1 F1 e v) :
  ∃ F', Sub F1 F' ∧ Rel S ι1 F' G M1 (upd H1 T (.tup [u, v])) ∧ Den S ι1 F' (pair d e) (.ref T) := by
 obtain ⟨R', s'⟩ := R.newF (o := .tup [u, v]) hT
 have hl : DenL S ι1 F1 [d, e] [u, v] := .cons du (.cons dv .nil)
 have := hl.mono (Pre.refl ι1) s'
 exact ⟨_, s', R', .tup upd_same this.1 this.2⟩
theorem SeqW.zip {b b' : Bool} {a c : Addr} {w' : Walk} (h : SeqW S ι F w b a) (h' : SeqW S ι F w' b' c) (G : Hp) : Wlk S ι F G ⟨List.zipWith pair w.xs w'.xs, w.st ++ w'.st, none⟩ (ItZ b b' S.K a c) where
 go := fun i ι1 F1 G M1 H1 hG p s R ok hi => by
  have ok' : w.ok M1 = true ∧ w'.ok M1 = true := by simpa [Walk.ok, List.all_append, Bool.and_eq_true] using ok
  obtain ⟨ws, h1, h2⟩ := h.at_ ι1 F1 G M1 H1 p s R ok'.1
  obtain ⟨ws', h1', h2'⟩ := h'.at_ ι1 F1 G M1 H1 p s R ok'.2
  have hi' : i < w.xs.length ∧ i < w'.xs.length := by simpa [List.length_zipWith, Nat.lt_min] using hi
  obtain ⟨v, hv, _⟩ := h2.get (List.getElem?_eq_getElem hi'.1)
  obtain ⟨v', hv', _⟩ := h2'.get (List.getElem?_eq_getElem hi'.2)
  exact ⟨ws, ws', v, v', h1, h1', hv, hv'⟩
 yld := fun i ι1 F1 G M1 H1 x H' d hG p s R ok hd hy => by
  have ok' : w.ok M1 = true ∧ w'.ok M1 = true := by simpa [Walk.ok, List.all_append, Bool.and_eq_true] using ok
  obtain ⟨ws, h1, h2⟩ := h.at_ ι1 F1 G M1 H1 p s R ok'.1
  obtain ⟨ws', h1', h2'⟩ := h'.at_ ι1 F1 G M1 H1 p s R ok'.2
  have hd' : (List.zipWith pair w.xs w'.xs)[i]? = some d := hd
  rw [List.getElem?_zipWith] at hd'
  split at hd'
  case h_2 => cases hd'
  rename_i d1 d2 g1 g2
  cases hd'
  obtain ⟨v, hv, dv⟩ := h2.get g1
  obtain ⟨v', hv', dv'⟩ := h2'.get g2
  obtain ⟨T, y, y', rfl, hT, rfl, hy, hy'⟩ := hy
  have e1 := hy ws h1
  rw [hv] at e1
  cases e1
  have e2 := hy' ws' h1'
  rw [hv'] at e2
  cases e2
  exact pair_new R hT dv dv'
 stop := fun ι1 F1 G M1 H1 hG p s R ok => by
  have ok' : w.ok M1 = true ∧ w'.ok M1 = true := by simpa [Walk.ok, List.all_append, Bool.and_eq_true] using ok
  obtain ⟨ws, h1, h2⟩ := h.at_ ι1 F1 G M1 H1 p s R ok'.1
  obtain ⟨ws', h1', h2'⟩ := h'.at_ ι1 F1 G M1 H1 p s R ok'.2
  exact ⟨ws, ws', h1, h1', by rw [h2.1, h2'.1]; simp⟩
theorem wlk_range (lo : Int) (n : Nat) : Wlk S ι F G ⟨(List.range n).map fun k => .int (lo + (k : Nat)), [], none⟩ (Itr lo n) where
 go := fun i ι1 F1 G M1 H1 hG p s R ok hi => (show i < n by simpa using hi)
 yld := fun i ι1 F1 G M1 H1 x H' d hG p s R ok hd hy => by
  obtain ⟨rfl, rfl⟩ := hy
  have hd' : ((List.range n).map fun k => D.int (lo + (k : Nat)))[i]? = some d := hd
  rw [List.getElem?_map] at hd'
  obtain ⟨k, hk, rfl⟩ := Option.map_eq_some_iff.mp hd'
  have : k = i := by
   rw [List.getElem?_range] at hk
   ·exact (Option.some.inj hk).symm
   ·have := (List.getElem?_eq_some_iff.mp hk).1
    simpa using this
  subst this
  exact ⟨F1, .refl F1, R, .int _⟩
 stop := fun ι1 F1 G M1 H1 hG p s R ok => by simp [Itr]
theorem wlk_str (x : Str) (hx : strOk x = true) : Wlk S ι F G ⟨x.cps.toList.map sgn, [], none⟩ (Its x) where
 go := fun i ι1 F1 G M1 H1 hG p s R ok hi => by simpa [Its] using hi
 yld := fun i ι1 F1 G M1 H1 v H' d hG p s R ok hd hy => by
  obtain ⟨rfl, c, hc, rfl⟩ := hy
  have hd' : (x.cps.toList.map sgn)[i]? = some d := hd
  rw [List.getElem?_map, Array.getElem?_toList, hc] at hd'
  cases hd'
  refine ⟨F1, .refl F1, R, .str _ ?_⟩
  have hm : c ∈ x.cps := by
   obtain ⟨h1, h2⟩ := Array.getElem?_eq_some_iff.mp hc
   rw [← h2]
   exact Array.getElem_mem h1
  unfold strOk PyData.strOk at hx ⊢
  rw [Array.all_eq_true_iff_forall_mem] at hx ⊢
  intro y hy
  have : y = c := by simpa using hy
  rw [this]
  exact hx c hm
 stop := fun ι1 F1 G M1 H1 hG p s R ok => by simp [Its]
end
end Mn
end
section
namespace Mn
open PySem PySem.Spec PyProof.Rows L2
section
variable {S : Sit} {X : Cx} {ι ι' : List Addr} {F F' G H : Hp} {M M' : Mem} {a : Addr} {od : Obj} {u : HO}
theorem Rel.hold (R : Rel S ι F G M H) (h : H a = some (.frz od u)) : Rel S ι F (upd G a (.frz od u)) M H := by
 refine ⟨R.len, R.nd, R.own, fun i b e => ?_, R.frz, fun b o e => ?_⟩
 ·obtain ⟨e1, e2⟩ := R.out i b e
  refine ⟨e1, fun o z => ?_⟩
  by_cases hb : b = a
  ·subst hb; rw [upd_same] at z; cases z; exact trivial
  ·rw [upd_ne hb] at z; exact e2 o z
 ·by_cases hb : b = a
  ·subst hb; rw [upd_same] at e; cases e; exact ⟨h, fun z => False.elim z⟩
  ·rw [upd_ne hb] at e; exact R.frm b o e
theorem Rel.unhold {H0 : Hp} {M0 : Mem} (R0 : Rel S ι F G M0 H0) (h0 : H0 a = some (.frz od u)) (R : Rel S ι' F' (upd G a (.frz od u)) M' H) : Rel S ι' F' G M' H := by
 refine ⟨R.len, R.nd, R.own, fun i b e => ?_, R.frz, fun b o e => ?_⟩
 ·obtain ⟨e1, e2⟩ := R.out i b e
  refine ⟨e1, fun o z => ?_⟩
  by_cases hb : b = a
  ·subst hb
   have := (R0.frm b o z).1
   rw [h0] at this
   cases this
   exact trivial
  ·exact e2 o (by rw [upd_ne hb]; exact z)
 ·by_cases hb : b = a
  ·subst hb
   have := (R0.frm b o e).1
   rw [h0] at this
   cases this
   exact ⟨(R.frm b (.frz od u) upd_same).1, fun z => False.elim z⟩
  ·exact R.frm b o (by rw [upd_ne hb]; exact e)
theorem Rel.lockF (R : Rel S ι F G M H) (hF : F a = some u) (hu : full u) : Rel S ι F (upd G a (.frz od u)) M (upd H a (.frz od u)) := by
 have ne : ∀ (i : Nat) b, ι[i]? = some b → b ≠ a := fun i b e z => by have := (R.out i b e).1; rw [z, hF] at this; cases this
 refine ⟨R.len, R.nd, fun i d b h1 h2 => ?_, fun i b e => ?_, fun b o e => ?_, fun b o e => ?_⟩
 ·obtain ⟨o, e1, e2⟩ := R.own i d b h1 h2
  exact ⟨o, by rw [upd_ne (ne i b h2)]; exact e1, e2⟩
 ·obtain ⟨e1, e2⟩ := R.out i b e
  exact ⟨e1, fun o z => e2 o (by rw [upd_ne (ne i b e)] at z; exact z)⟩
 ·by_cases hb : b = a
  ·subst hb
   rw [hF] at e
   cases e
   exact .inr ⟨hu, od, upd_same⟩
  ·exact Rn.mono (R.frz b o e) fun x z => by rw [upd_ne hb]; exact z
 ·by_cases hb : b = a
  ·subst hb; rw [upd_same] at e; cases e; exact ⟨upd_same, fun z => False.elim z⟩
  ·rw [upd_ne hb] at e
   obtain ⟨e1, e2⟩ := R.frm b o e
   exact ⟨by rw [upd_ne hb]; exact e1, e2⟩
theorem Rel.unlockF (hG : G a = none) (hF : F' a = some u) (hu : full u) (R : Rel S ι' F' (upd G a (.frz od u)) M' H) : Rel S ι' F' G M' (upd H a u) := by
 have ne : ∀ (i : Nat) b, ι'[i]? = some b → b ≠ a := fun i b e z => by have := (R.out i b e).1; rw [z, hF] at this; cases this
 refine ⟨R.len, R.nd, fun i d b h1 h2 => ?_, fun i b e => ?_, fun b o e => ?_, fun b o e => ?_⟩
 ·obtain ⟨o, e1, e2⟩ := R.own i d b h1 h2
  exact ⟨o, by rw [upd_ne (ne i b h2)]; exact e1, e2⟩
 ·obtain ⟨e1, e2⟩ := R.out i b e
  exact ⟨e1, fun o z => e2 o (by rw [upd_ne (ne i b e)]; exact z)⟩
 ·by_cases hb : b = a
  ·subst hb
   rw [hF] at e
   cases e
   exact .inl upd_same
  ·exact Rn.mono (R.frz b o e) fun x z => by rw [upd_ne hb]; exact z
 ·have hb : b ≠ a := fun z => by rw [z, hG] at e; cases e
  obtain ⟨e1, e2⟩ := R.frm b o (by rw [upd_ne hb]; exact e)
  exact ⟨by rw [upd_ne hb]; exact e1, e2⟩
theorem Rel.lockO {i : Nat} {ps : List (D × D)} (R : Rel S ι F G M H) (hι : ι[i]? = some a) (hd : DenO S ι F (.dct ps) u) (hu : full u) : Rel S ι F (upd G a (.frz od u)) (M.set i (.lck ps)) (upd H a (.frz od u)) := by
 have hi : i < ι.length := (List.getElem?_eq_some_iff.mp hι).1
 have hne : ∀ (j : Nat) b, ι[j]? = some b → j ≠ i → b ≠ a := fun j b h2 hj z => by
  subst z
  obtain ⟨hj1, e1⟩ := List.getElem?_eq_some_iff.mp h2
  obtain ⟨hi1, e2⟩ := List.getElem?_eq_some_iff.mp hι
  exact hj ((List.getElem_inj R.nd).mp (e1.trans e2.symm))
 refine ⟨by simp [R.len], R.nd, fun j e b h1 h2 => ?_, fun j b h => ?_, fun b v h3 => ?_, fun b v h3 => ?_⟩
 ·by_cases hj : j = i
  ·subst hj
   rw [hι] at h2
   cases h2
   rw [List.getElem?_set_self (by rw [← R.len]; exact hi)] at h1
   cases h1
   exact ⟨_, upd_same, .lck hu hd⟩
  ·rw [List.getElem?_set_ne (Ne.symm hj)] at h1
   obtain ⟨v, e1, e2⟩ := R.own j e b h1 h2
   exact ⟨v, by rw [upd_ne (hne j b h2 hj)]; exact e1, e2⟩
 ·obtain ⟨e1, e2⟩ := R.out j b h
  refine ⟨e1, fun o z => ?_⟩
  by_cases hb : b = a
  ·subst hb; rw [upd_same] at z; cases z; exact trivial
  ·rw [upd_ne hb] at z; exact e2 o z
 ·have hb : b ≠ a := fun z => by rw [z, (R.out i a hι).1] at h3; cases h3
  exact Rn.mono (R.frz b v h3) fun x e => by rw [upd_ne hb]; exact e
 ·by_cases hb : b = a
  ·subst hb; rw [upd_same] at h3; cases h3; exact ⟨upd_same, fun z => False.elim z⟩
  ·rw [upd_ne hb] at h3
   obtain ⟨e1, e2⟩ := R.frm b v h3
   exact ⟨by rw [upd_ne hb]; exact e1, e2⟩
theorem Rel.unlockO {i : Nat} (hG : G a = none) (hι : ι'[i]? = some a) (R : Rel S ι' F' (upd G a (.frz od u)) M' H) : Rel S ι' F' G (ulkM i M') (upd H a u) := by
 have hi : i < ι'.length := (List.getElem?_eq_some_iff.mp hι).1
 have hH := (R.frm a _ upd_same).1
 obtain ⟨d, o, e1, e2, e3⟩ := R.at hι
 rw [hH] at e2
 cases e2
 cases e3 with
 | @lck _ _ ps hf hd =>
  have hM : ulkM i M' = M'.set i (.dct ps) := by unfold ulkM; rw [e1]
  rw [hM]
  have hne : ∀ (j : Nat) b, ι'[j]? = some b → j ≠ i → b ≠ a := fun j b h2 hj z => by
   subst z
   obtain ⟨hj1, e1⟩ := List.getElem?_eq_some_iff.mp h2
   obtain ⟨hi1, e2⟩ := List.getElem?_eq_some_iff.mp hι
   exact hj ((List.getElem_inj R.nd).mp (e1.trans e2.symm))
  refine ⟨by simp [R.len], R.nd, fun j e b h1 h2 => ?_, fun j b h => ?_, fun b v h3 => ?_, fun b v h3 => ?_⟩
  ·by_cases hj : j = i
   ·subst hj
    rw [hι] at h2
    cases h2
    rw [List.getElem?_set_self (by rw [← R.len]; exact hi)] at h1
    cases h1
    exact ⟨_, upd_same, hd⟩
   ·rw [List.getElem?_set_ne (Ne.symm hj)] at h1
    obtain ⟨v, e1, e2⟩ := R.own j e b h1 h2
    exact ⟨v, by rw [upd_ne (hne j b h2 hj)]; exact e1, e2⟩
  ·obtain ⟨e1, e2⟩ := R.out j b h
   refine ⟨e1, fun o z => e2 o ?_⟩
   by_cases hb : b = a
   ·rw [hb, hG] at z; cases z
   ·rw [upd_ne hb]; exact z
  ·have hb : b ≠ a := fun z => by rw [z, (R.out i a hι).1] at h3; cases h3
   exact Rn.mono (R.frz b v h3) fun x e => by rw [upd_ne hb]; exact e
  ·have hb : b ≠ a := fun z => by rw [z, hG] at h3; cases h3
   obtain ⟨e1, e2⟩ := R.frm b v (by rw [upd_ne hb]; exact h3)
   exact ⟨by rw [upd_ne hb]; exact e1, e2⟩
end
section
variable {S : Sit} {ι : List Addr} {F G H : Hp} {M : Mem} {ps : List (D × D)} {a : Addr} {od : Obj}
theorem wlk_keysK {kvs : List (L2.Key × V)} {l : Option Nat} (h : Rows S ι F KD kOk ps kvs) : Wlk S ι F (upd G a (.frz od (.dK kvs))) ⟨ps.map (·.1), [], l⟩ (Itk a od kvs) where
 go := fun i ι1 F1 G' M1 H1 hG p s R ok hi => ⟨(R.frm a _ (hG _ _ upd_same)).1, by rw [h.1]; simpa using hi⟩
 yld := fun i ι1 F1 G' M1 H1 x H' d hG p s R ok hd hy => by
  obtain ⟨rfl, k, v, hk, rfl⟩ := hy
  have hd' : (ps.map (·.1))[i]? = some d := hd
  rw [List.getElem?_map] at hd'
  obtain ⟨q, hq, rfl⟩ := Option.map_eq_some_iff.mp hd'
  obtain ⟨e1, e2⟩ := h.2.1 i q (k, v) hq hk
  exact ⟨F1, .refl F1, R, by rw [e1]; exact den_key e2⟩
 stop := fun ι1 F1 G' M1 H1 hG p s R ok => ⟨(R.frm a _ (hG _ _ upd_same)).1, by rw [h.1]; simp⟩
theorem wlk_keysT {kvs : List (List L2.Key × V)} {l : Option Nat} (h : Rows S ι F KT OT ps kvs) : Wlk S ι F (upd G a (.frz od (.dT kvs))) ⟨ps.map (·.1), [], l⟩ (Itkt a od kvs) where
 go := fun i ι1 F1 G' M1 H1 hG p s R ok hi => ⟨(R.frm a _ (hG _ _ upd_same)).1, by rw [h.1]; simpa using hi⟩
 yld := fun i ι1 F1 G' M1 H1 x H' d hG p s R ok hd hy => by
  obtain ⟨rfl, k, v, q, hk, rfl, hq⟩ := hy
  have hd' : (ps.map (·.1))[i]? = some d := hd
  rw [List.getElem?_map] at hd'
  obtain ⟨r, hr, rfl⟩ := Option.map_eq_some_iff.mp hd'
  obtain ⟨e1, e2⟩ := h.2.1 i r (k, v) hr hk
  obtain ⟨F2, g1, R2, s2⟩ := R.seeF hq
  have z := den_keys (S := S) (ι := ι1) (F := F2) e2
  exact ⟨F2, s2, R2, by rw [e1]; exact .tup g1 z.1 z.2⟩
 stop := fun ι1 F1 G' M1 H1 hG p s R ok => ⟨(R.frm a _ (hG _ _ upd_same)).1, by rw [h.1]; simp⟩
end
def lkOf (M : Mem) : D → Option Nat
 | .ref i => match M[i]? with
  | some (.dct _) => some i
  | _ => none
 | _ => none
def Locked (S : Sit) (X : Cx) (ι : List Addr) (F G H : Hp) (M : Mem) (d : D) (ps : List (D × D)) (a : Addr) (od : Obj) (u : HO) (H2 : Hp) : Prop :=
 (ps ≠ [] ∧ ∀ w : Walk, w.lk = lkOf M d → Rel S ι F (upd G a (.frz od u)) (w.lock M) H2 ∧ ∀ ι' F' M' H', Pre ι ι' → Sub F F' → Rel S ι' F' (upd G a (.frz od u)) M' H' → ∃ H3, Cv X H' H3 ∧ Rel S ι' F' G (w.ulk M') H3 ∧ ∀ b, H2 b = none ∨ Thin (H' b) → H3 b = H' b) ∨ (ps = [] ∧ Cv X H2 H ∧ (∀ D o, H2 D = none → Cv X (upd H2 D o) (upd H D o)) ∧ ∀ b, H2 b = none → H b = none)
theorem rows_nil {S : Sit} {ι : List Addr} {F : Hp} {ps : List (D × D)} {u : HO} (h : (∃ kvs, u = .dK kvs ∧ Rows S ι F KD kOk ps kvs) ∨ ∃ kvs, u = .dT kvs ∧ Rows S ι F KT OT ps kvs) : full u ↔ ps ≠ [] := by
 rcases h with ⟨kvs, rfl, h⟩ | ⟨kvs, rfl, h⟩
 ·show kvs ≠ [] ↔ ps ≠ []
  have := h.1
  cases kvs <;> cases ps <;> simp_all
 ·show kvs ≠ [] ↔ ps ≠ []
  have := h.1
  cases kvs <;> cases ps <;> simp_all
theorem upd_comm {H : Hp} {a b : Addr} {u v : HO} (h : a ≠ b) : upd (upd H a u) b v = upd (upd H b v) a u := by
 funext c
 by_cases z : c = b
 ·subst z; rw [upd_same, upd_ne (Ne.symm h), upd_same]
 ·by_cases y : c = a
  ·subst y; rw [upd_ne z, upd_same, upd_same]
  ·rw [upd_ne z, upd_ne y, upd_ne y, upd_ne z]
theorem upd_back {H : Hp} {a : Addr} {u : HO} (e : H a = some u) : upd H a u = H := by
 funext c
 by_cases z : c = a
 ·rw [z, upd_same, e]
 ·rw [upd_ne z]
theorem dict_lock {S : Sit} {X : Cx} {ι : List Addr} {F G H : Hp} {M : Mem} {d : D} {x : V} {ps : List (D × D)} {σ : L2.St} {pins : List (Addr × Obj)} {s : Shared} (R : Rel S ι F G M H) (dx : Den S ι F d x) (hd : der M d = .dct ps) (I : Inv X pins σ H s) :
  ∃ a od u, x = .ref a ∧ ((∃ kvs, u = .dK kvs ∧ Rows S ι F KD kOk ps kvs) ∨ ∃ kvs, u = .dT kvs ∧ Rows S ι F KT OT ps kvs) ∧ ∃ H2, Inv X pins σ H2 s ∧ H2 a = some (.frz od u) ∧ Locked S X ι F G H M d ps a od u H2 := by
 have plainF : ∀ {a : Addr} {u : HO}, F a = some u → isDct u → (full u ↔ ps ≠ []) → lkOf M d = none → ∃ od H2, Inv X pins σ H2 s ∧ H2 a = some (.frz od u) ∧ Locked S X ι F G H M d ps a od u H2 := fun {a u} hF hdu hfu hlk => by
  have mu : Mut (some u) := by cases u <;> first | exact trivial | exact False.elim hdu
  rcases R.frz a u hF with e | ⟨hf, od, e⟩
  ·obtain ⟨od, I2⟩ := I.lock e mu
   have hn := I.nofrz e mu
   refine ⟨od, _, I2, upd_same, ?_⟩
   by_cases hp : ps = []
   ·refine .inr ⟨hp, fun pins' σ' s' I' => ?_, fun D o hD pins' σ' s' I' => ?_, fun b hb => ?_⟩
    ·have := I'.unlock upd_same hn
     rw [upd_upd, upd_back e] at this
     exact this
    ·have hne : D ≠ a := fun z => by rw [z, upd_same] at hD; cases hD
     have := I'.unlock (d := a) (od := od) (u := u) (by rw [upd_ne (Ne.symm hne)]; exact upd_same) hn
     rw [upd_comm hne, upd_upd, upd_back e] at this
     exact this
    ·by_cases z : b = a
     ·rw [z, upd_same] at hb; cases hb
     ·rw [upd_ne z] at hb; exact hb
   ·have hu := hfu.mpr hp
    have hG : G a = none := by
     cases hg : G a with
     | none => rfl
     | some o =>
      obtain ⟨e1, e2⟩ := R.frm a o hg
      rw [e] at e1
      cases e1
      rw [e2 hdu.own] at hF
      cases hF
    refine .inl ⟨hp, fun w hw => ?_⟩
    rw [hlk] at hw
    have w1 : w.lock M = M := by unfold Walk.lock; rw [hw]
    rw [w1]
    refine ⟨R.lockF hF hu, fun ι' F' M' H' p s' R' => ?_⟩
    have w2 : w.ulk M' = M' := by unfold Walk.ulk; rw [hw]
    rw [w2]
    have hH := (R'.frm a _ upd_same).1
    exact ⟨_, fun pins' σ' s0 I' => I'.unlock hH hn, R'.unlockF hG (s' _ _ hF) hu, fun b hb => upd_ne (fun z => by rcases hb with hb | hb; (rw [z, upd_same] at hb; cases hb); (rw [z, hH] at hb; exact hb))⟩
  ·refine ⟨od, H, I, e, .inl ⟨hfu.mp hf, fun w hw => ?_⟩⟩
   rw [hlk] at hw
   have w1 : w.lock M = M := by unfold Walk.lock; rw [hw]
   rw [w1]
   refine ⟨R.hold e, fun ι' F' M' H' p s' R' => ⟨H', Cv.refl X H', ?_, fun _ _ => rfl⟩⟩
   have w2 : w.ulk M' = M' := by unfold Walk.ulk; rw [hw]
   rw [w2]
   exact R.unhold e R'
 cases dx with
 | @dctK a kvs ps' h1 h2 h3 h4 =>
  cases hd
  have hr : (∃ kvs', HO.dK kvs = .dK kvs' ∧ Rows S ι F KD kOk ps kvs') ∨ ∃ kvs', HO.dK kvs = .dT kvs' ∧ Rows S ι F KT OT ps kvs' := .inl ⟨kvs, rfl, h2, h3, h4⟩
  obtain ⟨od, H2, g⟩ := plainF h1 trivial (rows_nil hr) rfl
  exact ⟨a, od, _, rfl, hr, H2, g⟩
 | @dctT a kvs ps' h1 h2 h3 h4 =>
  cases hd
  have hr : (∃ kvs', HO.dT kvs = .dK kvs' ∧ Rows S ι F KD kOk ps kvs') ∨ ∃ kvs', HO.dT kvs = .dT kvs' ∧ Rows S ι F KT OT ps kvs' := .inr ⟨kvs, rfl, h2, h3, h4⟩
  obtain ⟨od, H2, g⟩ := plainF h1 trivial (rows_nil hr) rfl
  exact ⟨a, od, _, rfl, hr, H2, g⟩
 | @ref i a hι =>
  obtain ⟨c, o, e1, e2, e3⟩ := R.at hι
  have hown : ∀ {u : HO}, H a = some u → M[i]? = some (.dct ps) → DenO S ι F (.dct ps) u → isDct u → ((∃ kvs, u = .dK kvs ∧ Rows S ι F KD kOk ps kvs) ∨ ∃ kvs, u = .dT kvs ∧ Rows S ι F KT OT ps kvs) →
    ∃ od H2, Inv X pins σ H2 s ∧ H2 a = some (.frz od u) ∧ Locked S X ι F G H M (.ref i) ps a od u H2 := fun {u} e hM hD hdu hr => by
   have mu : Mut (some u) := by cases u <;> first | exact trivial | exact False.elim hdu
   obtain ⟨od, I2⟩ := I.lock e mu
   have hn := I.nofrz e mu
   refine ⟨od, _, I2, upd_same, ?_⟩
   by_cases hp : ps = []
   ·refine .inr ⟨hp, fun pins' σ' s' I' => ?_, fun D o hD pins' σ' s' I' => ?_, fun b hb => ?_⟩
    ·have := I'.unlock upd_same hn
     rw [upd_upd, upd_back e] at this
     exact this
    ·have hne : D ≠ a := fun z => by rw [z, upd_same] at hD; cases hD
     have := I'.unlock (d := a) (od := od) (u := u) (by rw [upd_ne (Ne.symm hne)]; exact upd_same) hn
     rw [upd_comm hne, upd_upd, upd_back e] at this
     exact this
    ·by_cases z : b = a
     ·rw [z, upd_same] at hb; cases hb
     ·rw [upd_ne z] at hb; exact hb
   ·have hu := (rows_nil hr).mpr hp
    have hG : G a = none := by
     cases hg : G a with
     | none => rfl
     | some o =>
      have z1 := (R.out i a hι).2 o hg
      have z2 := (R.frm a o hg).1
      rw [e] at z2
      cases z2
      cases u <;> first | exact False.elim hdu | exact False.elim z1
    refine .inl ⟨hp, fun w hw => ?_⟩
    have hw' : w.lk = some i := by rw [hw]; unfold lkOf; simp only [hM]
    have w1 : w.lock M = M.set i (.lck ps) := by unfold Walk.lock lckM; rw [hw']; simp only [hM]
    rw [w1]
    refine ⟨R.lockO hι hD hu, fun ι' F' M' H' p s' R' => ?_⟩
    have w2 : w.ulk M' = ulkM i M' := by unfold Walk.ulk; rw [hw']
    rw [w2]
    have hH := (R'.frm a _ upd_same).1
    exact ⟨_, fun pins' σ' s0 I' => I'.unlock hH hn, R'.unlockO hG (p i a hι), fun b hb => upd_ne (fun z => by rcases hb with hb | hb; (rw [z, upd_same] at hb; cases hb); (rw [z, hH] at hb; exact hb))⟩
  cases e3 with
  | @dctK kvs ps' h1 h2 h3 =>
   have ep : ps' = ps := by simpa [der, e1] using hd
   subst ep
   have hr : (∃ kvs', HO.dK kvs = .dK kvs' ∧ Rows S ι F KD kOk ps' kvs') ∨ ∃ kvs', HO.dK kvs = .dT kvs' ∧ Rows S ι F KT OT ps' kvs' := .inl ⟨kvs, rfl, h1, h2, h3⟩
   obtain ⟨od, H2, g⟩ := hown e2 e1 (.dctK h1 h2 h3) trivial hr
   exact ⟨a, od, _, rfl, hr, H2, g⟩
  | @dctT kvs ps' h1 h2 h3 =>
   have ep : ps' = ps := by simpa [der, e1] using hd
   subst ep
   have hr : (∃ kvs', HO.dT kvs = .dK kvs' ∧ Rows S ι F KD kOk ps' kvs') ∨ ∃ kvs', HO.dT kvs = .dT kvs' ∧ Rows S ι F KT OT ps' kvs' := .inr ⟨kvs, rfl, h1, h2, h3⟩
   obtain ⟨od, H2, g⟩ := hown e2 e1 (.dctT h1 h2 h3) trivial hr
   exact ⟨a, od, _, rfl, hr, H2, g⟩
  | @lck od u ps' hf hD =>
   have ep : ps' = ps := by simpa [der, e1] using hd
   subst ep
   have hr : (∃ kvs', u = .dK kvs' ∧ Rows S ι F KD kOk ps' kvs') ∨ ∃ kvs', u = .dT kvs' ∧ Rows S ι F KT OT ps' kvs' := rowsO hD
   refine ⟨a, od, u, rfl, hr, H, I, e2, .inl ⟨(rows_nil hr).mp hf, fun w hw => ?_⟩⟩
   have hlk : lkOf M (.ref i) = none := by unfold lkOf; simp only [e1]
   rw [hlk] at hw
   have w1 : w.lock M = M := by unfold Walk.lock; rw [hw]
   rw [w1]
   refine ⟨R.hold e2, fun ι' F' M' H' p s' R' => ⟨H', Cv.refl X H', ?_, fun _ _ => rfl⟩⟩
   have w2 : w.ulk M' = M' := by unfold Walk.ulk; rw [hw]
   rw [w2]
   exact R.unhold e2 R'
  | _ => simp [der, e1] at hd
 | _ => cases hd
end Mn
end
section
namespace Mn
open PySem PySem.Spec PyProof.Rows L2
section
variable {S : Sit} {W : L2.WX} {cf mf : Calls} {X : Cx} {sc : Scope} {N : List Str} {a b c e tg : Expr} {ca cb cc ce : Ex} {pos p apos cpos tpos : Pos}
def wlkLk (M : Mem) : D → Option Nat
 | .ref i => match M[i]? with
  | some (.dct ps) => if ps.isEmpty then none else some i
  | _ => none
 | _ => none
theorem wlkLk_nil {M : Mem} {d : D} (hd : der M d = .dct []) : wlkLk M d = none := by
 cases d with
 | ref i =>
  cases hM : M[i]? with
  | none => simp [wlkLk, hM]
  | some o =>
   cases o with
   | dct qs =>
    have : qs = [] := by simpa [der, hM] using hd
    subst this
    simp [wlkLk, hM]
   | _ => simp [wlkLk, hM]
 | _ => rfl
theorem walk_lk {M : Mem} {d : D} {ps : List (D × D)} {xs : List D} (hp : ps ≠ []) (hd : der M d = .dct ps) {w : Walk} (e : w = ⟨xs, [], wlkLk M d⟩) : w.lk = lkOf M d := by
 subst e
 cases d with
 | ref i =>
  unfold lkOf wlkLk
  simp only
  cases hM : M[i]? with
  | none => rfl
  | some o =>
   cases o with
   | dct qs =>
    have : qs = ps := by simpa [der, hM] using hd
    subst this
    cases qs with
    | nil => exact absurd rfl hp
    | cons _ _ => rfl
   | _ => rfl
 | _ => rfl
theorem walk_dct {M : Mem} {d : D} {ps : List (D × D)} (hd : der M d = .dct ps) : walkOf M d = some ⟨ps.map (·.1), [], wlkLk M d⟩ ∧
  itemsOf M d = some ⟨ps.map fun p => pair p.1 p.2, [], wlkLk M d⟩ := by
 cases d with
 | dct qs => cases hd; exact ⟨rfl, rfl⟩
 | ref i =>
  cases hM : M[i]? with
  | none => simp [der, hM] at hd
  | some o =>
   cases o with
   | dct qs =>
    have : qs = ps := by simpa [der, hM] using hd
    subst this
    unfold walkOf itemsOf wlkLk
    simp only [hM]
    exact ⟨trivial, trivial⟩
   | lck qs =>
    have : qs = ps := by simpa [der, hM] using hd
    subst this
    unfold walkOf itemsOf wlkLk
    simp only [hM]
    exact ⟨trivial, trivial⟩
   | _ => simp [der, hM] at hd
 | _ => cases hd
theorem walk_cases {M : Mem} {d : D} {w : Walk} (e : walkOf M d = some w) : seqOf M d = some w ∨ (∃ x, d = .str x ∧ x.length ≤ big ∧ w = ⟨x.cps.toList.map sgn, [], none⟩) ∨ ∃ ps, der M d = .dct ps := by
 unfold walkOf at e
 split at e
 ·rename_i i
  split at e
  ·rename_i xs hM
   cases e
   left
   unfold seqOf
   simp only [hM]
  ·rename_i ps hM
   exact .inr (.inr ⟨ps, by simp [der, hM]⟩)
  ·rename_i ps hM
   exact .inr (.inr ⟨ps, by simp [der, hM]⟩)
  ·cases e
 ·cases e; exact .inl rfl
 ·cases e; exact .inl rfl
 ·cases e; exact .inl rfl
 ·rename_i ps; exact .inr (.inr ⟨ps, rfl⟩)
 ·rename_i x
  split at e
  ·rename_i hb; cases e; exact .inr (.inl ⟨x, rfl, hb, rfl⟩)
  ·cases e
 ·cases e; exact .inl rfl
 ·cases e
theorem si_it (C : Cxt S sc N X) (h : SE S W cf mf X e ce) : SI S W cf mf X tg e (.it ce) := by
 refine ⟨fun pins s σ H R I q => ?_⟩
 obtain ⟨ι, F, G, σ', M, R0, rs, p⟩ := q
 refine thn (h.run pins s σ H (fun x H1 => ∃ ι1 F1 M1 d w, Rel S ι1 F1 G M1 H1 ∧ Den S ι1 F1 d x ∧ walkOf M1 d = some w ∧ kW S X G R w ι1 F1 M1 H1) I ⟨ι, F, G, σ', M, R0, rs, p.bind.imp fun d ι1 F1 M1 H1 p1 s1 R1 q1 x dx => ?_⟩) fun u s1 ⟨x, H1, I1, ru, ι1, F1, M1, d, w, R1, dx, ew, k⟩ => ?_
 ·obtain ⟨w, e, pf⟩ := PostG.of q1
  exact ⟨ι1, F1, M1, d, w, R1, dx, e, pf ι1 F1 H1 (.refl _) (.refl _) R1⟩
 ·rcases walk_cases ew with hs | ⟨y, rfl, hyl, rfl⟩ | ⟨ps, hd⟩
  ·obtain ⟨l, b, rfl, sw⟩ := seqW_of dx R1 hs
   obtain ⟨ws, hw, hdl⟩ := sw.at_ ι1 F1 G M1 H1 (.refl _) (.refl _) R1 (by
    have : ∀ {M : Mem} {d : D} {w : Walk}, seqOf M d = some w → w.ok M = true := fun {M d w} e => by
     unfold seqOf at e
     split at e
     ·split at e
      ·rename_i hM
       cases e
       simp [Walk.ok, hM]
      ·cases e
     all_goals first | (cases e; rfl) | (cases e; done)
    exact this hs)
   cases ru
   cases b with
   | true =>
    rw [← C.hK] at hw
    obtain ⟨its, rv, pp, hz⟩ := L2.Inv.tuple I1 hw
    have hR := k.1 _ G H1 (by rw [← hdl.1]; exact hz) (Lkd.plain sw.lk R1 (sw.wlk G))
    rw [← C.hK] at hR
    exact wpAny_pyIter_tuple (show s1.heap.IsTuple l its.toArray from pp) (pi_one (tk := s1.toks) I1 _ (turn_tuple l _) ⟨_, Heap.get?_push_size _ rfl, rfl, rfl⟩ hR)
   | false =>
    rw [← C.hK] at hw
    obtain ⟨its, rv, pp, hz⟩ := L2.Inv.list I1 hw
    have hR := k.1 _ G H1 (by rw [← hdl.1]; exact hz) (Lkd.plain sw.lk R1 (sw.wlk G))
    rw [← C.hK] at hR
    exact wpAny_pyIter_list pp.isList (pi_one (tk := s1.toks) I1 _ (turn_list l _) ⟨_, Heap.get?_push_size _ rfl, rfl, rfl⟩ hR)
  ·cases dx with
   | @str _ hy =>
    have hR := k.1 _ G H1 (by show (y.cps.toList.map sgn).length ≤ sizeLine; rw [List.length_map, Array.length_toList]; exact big_le hyl) (Lkd.plain rfl R1 (wlk_str y hy))
    obtain ⟨t, rfl⟩ := ru
    cases ha : y.cps.all (· < 128)
    ·exact wpAny_pyIter_wide ha (pi_one (tk := s1.toks) I1 _ (turn_str _ y t "str_iterator" (.inr rfl)) ⟨_, Heap.get?_push_size _ rfl, rfl, rfl⟩ hR)
    ·exact wpAny_pyIter_ascii ha (pi_one (tk := s1.toks) I1 _ (turn_str _ y t "str_ascii_iterator" (.inl rfl)) ⟨_, Heap.get?_push_size _ rfl, rfl, rfl⟩ hR)
  ·rw [(walk_dct hd).1] at ew
   have ew' := (Option.some.inj ew).symm
   obtain ⟨l, od, u, rfl, hr, H2, I2, hH2, lk⟩ := dict_lock R1 dx hd I1
   cases ru
   have hlen : ps.length ≤ sizeLine := by
    rcases hr with ⟨kvs, rfl, hr⟩ | ⟨kvs, rfl, hr⟩
    ·rw [← hr.1]; exact (dk_rd I2.hok (.inr ⟨_, hH2⟩)).1
    ·rw [← hr.1]; exact (dt_rd I2.hok (.inr ⟨_, hH2⟩)).1
   have hR : ∀ J, Wlk S ι1 F1 (upd G l (.frz od u)) w J → (ps = [] → J.stop 0 H2 ∧ ∀ D o, H2 D = none → J.stop 0 (upd H2 D o)) → R J H2 := fun J wk hst => by
    rcases lk with ⟨hp, g⟩ | ⟨hp, cv, cvU, non⟩
    ·obtain ⟨g1, g2⟩ := g w (walk_lk hp hd ew')
     exact k.1 J _ H2 (by rw [ew']; show (ps.map (·.1)).length ≤ sizeLine; rw [List.length_map]; exact hlen) ⟨g1, wk, g2, fun b hb => by
      by_cases z : b = l
      ·rw [z, upd_same] at hb; cases hb
      ·rw [upd_ne z] at hb; exact hb⟩
    ·exact k.2 (by rw [ew', hp]; rfl) (by rw [ew']; exact wlkLk_nil (by rw [← hp]; exact hd)) J H2 ⟨(hst hp).1, (hst hp).2, cv, cvU, non⟩
   rcases hr with ⟨kvs, rfl, hr⟩ | ⟨kvs, rfl, hr⟩
   ·have := hR (Itk l od kvs) (by rw [ew']; exact wlk_keysK hr) (fun hp => ⟨⟨hH2, by rw [hr.1, hp]; exact Nat.le_refl _⟩, fun D o hD => ⟨by rw [upd_ne (fun z => by rw [← z, hH2] at hD; cases hD)]; exact hH2, by rw [hr.1, hp]; exact Nat.le_refl _⟩⟩)
    obtain ⟨hs, hgd, hx, es, ep, vs, hdt, hsz, kv, hm⟩ := I2.frzK hH2
    refine iter_keys hs hgd hx hdt (pi_one (tk := s1.toks) I2 _ (turn_keys _ hdt) ⟨_, Heap.get?_push_size _ rfl, rfl, ?_⟩ this)
    rw [hsz]; rfl
   ·have := hR (Itkt l od kvs) (by rw [ew']; exact wlk_keysT hr) (fun hp => ⟨⟨hH2, by rw [hr.1, hp]; exact Nat.le_refl _⟩, fun D o hD => ⟨by rw [upd_ne (fun z => by rw [← z, hH2] at hD; cases hD)]; exact hH2, by rw [hr.1, hp]; exact Nat.le_refl _⟩⟩)
    obtain ⟨hs, hgd, hx, es, ep, hdt, hsz, ent⟩ := I2.frzT hH2
    refine iter_keys hs hgd hx hdt (pi_one (tk := s1.toks) I2 _ (turn_keysT _ hdt) ⟨_, Heap.get?_push_size _ rfl, rfl, ?_⟩ this)
    rw [hsz]; rfl
theorem rng_some {lo hi : Int} {xs : List D} (h : rngD lo hi = some xs) : (-(2 ^ 62) ≤ lo ∧ lo < 2 ^ 62 ∧ -(2 ^ 62) ≤ hi ∧ hi < 2 ^ 62) ∧ ((hi - lo).toNat ≤ sizeLine) ∧ xs = (List.range (hi - lo).toNat).map fun k => D.int (lo + (k : Nat)) := by
 unfold rngD at h
 split at h
 ·rename_i hc
  cases h
  have := big_le (Nat.le_refl big)
  exact ⟨by omega, by omega, rfl⟩
 ·cases h
theorem si_rng1 (C : Cxt S sc N X) (hg : Gl X "range") (hm : X.mg "range" = none) (hs : starEach [a] X.env = (false, eval a X.env) :: starEach [] X.env) (hs2 : starEach ([] : List Expr) X.env = []) (ha : SE S W cf mf X a ca) : SI S W cf mf X tg (.Call (.Name "range" p) [a] [] pos) (.rng1 ca) := by
 have h1 := pi_range1 (tg := tg) (p := p) (pos := pos) hg hm (pa_cons ha pa_nil hs) (by rw [hs, hs2])
 refine ⟨fun pins s σ H R I q => h1.run pins s σ H R I ?_⟩
 obtain ⟨ι, F, G, σ', M, R0, rs, p⟩ := q
 refine ⟨ι, F, G, σ', M, R0, rs, p.bind.imp fun d ι1 F1 M1 H1 p1 s1 R1 q1 x dx => ?_⟩
 show ∃ j : Int, _
 cases dx with
 | int j =>
  obtain ⟨w, e, pf⟩ := PostG.of q1
  obtain ⟨xs, e0, rfl⟩ := Option.map_eq_some_iff.mp e
  obtain ⟨hb, hbl, rfl⟩ := rng_some e0
  have hk := (pf ι1 F1 H1 (.refl _) (.refl _) R1).1 _ G H1 (by show ((List.range (j - 0).toNat).map _).length ≤ sizeLine; rw [List.length_map, List.length_range]; exact hbl) (Lkd.plain rfl R1 (wlk_range 0 (j - 0).toNat))
  refine ⟨j, rfl, hb.2.2.1, hb.2.2.2, ?_⟩
  have : (j - 0).toNat = j.toNat := by congr 1; omega
  rw [this] at hk
  exact hk
 | _ => exact False.elim q1
theorem seq_ok {M : Mem} {d : D} {w : Walk} (e : seqOf M d = some w) : w.ok M = true := by
 unfold seqOf at e
 split at e
 ·split at e
  ·rename_i hM
   cases e
   simp [Walk.ok, hM]
  ·cases e
 all_goals first | (cases e; rfl) | (cases e; done)
end
end Mn
end
section
namespace Mn
open PySem PySem.Spec PyProof.Rows L2
theorem pe_cv {X : Cx} {e : Expr} {t : TE} (h : PE X e t) : PE X e (fun σ H Q => t σ H fun v H1 => ∃ H3, Cv X H1 H3 ∧ Q v H3) :=
 ⟨fun pins s σ H Q I q => thn (h.run pins s σ H _ I q) fun v s1 ⟨x, H1, I1, r, H3, cv, q⟩ => ⟨x, H3, cv _ _ _ I1, r, q⟩⟩
section
variable {S : Sit} {Wx Wx' : WX3} {ι : List Addr} {F G H : Hp} {M : Mem} {α : Type} {D0 : Addr} {o o' : HO}
theorem Rel.gadd (R : Rel S ι F G M H) (h : H D0 = none) : Rel S ι F (upd G D0 o) M (upd H D0 o) := by
 have hι := R.fresh_ι h
 have hF := R.fresh_F h
 refine ⟨R.len, R.nd, fun i d a h1 h2 => ?_, fun i a e => ?_, fun a u e => Rn.upd (R.frz a u e) h, fun a u e => ?_⟩
 ·obtain ⟨u, e1, e2⟩ := R.own i d a h1 h2
  exact ⟨u, by rw [upd_ne (ι_ne h2 hι)]; exact e1, e2⟩
 ·obtain ⟨e1, e2⟩ := R.out i a e
  exact ⟨e1, fun u z => e2 u (by rw [upd_ne (ι_ne e hι)] at z; exact z)⟩
 ·by_cases z : a = D0
  ·subst z; rw [upd_same] at e; cases e; exact ⟨upd_same, fun _ => hF⟩
  ·rw [upd_ne z] at e
   obtain ⟨e1, e2⟩ := R.frm a u e
   exact ⟨by rw [upd_ne z]; exact e1, e2⟩
theorem Rel.gless (hG : G D0 = none) (R : Rel S ι F (upd G D0 o) M H) : Rel S ι F G M H := by
 have key : ∀ a u, G a = some u → (upd G D0 o) a = some u := fun a u e => by
  rw [upd_ne (ne_of_none e hG)]; exact e
 exact ⟨R.len, R.nd, R.own, fun i a e => ⟨(R.out i a e).1, fun u z => (R.out i a e).2 u (key a u z)⟩, R.frz, fun a u e => R.frm a u (key a u e)⟩
theorem own_ι (ho : isOwn o) (R : Rel S ι F (upd G D0 o) M H) : D0 ∉ ι ∧ F D0 = none ∧ H D0 = some o := by
 refine ⟨fun h => ?_, (R.frm D0 o upd_same).2 ho, (R.frm D0 o upd_same).1⟩
 obtain ⟨i, hi, e⟩ := List.getElem_of_mem h
 have := (R.out i D0 (by rw [List.getElem?_eq_getElem hi, e])).2 o upd_same
 cases o <;> first | exact False.elim ho | exact False.elim this
theorem Rel.gput (ho : isOwn o) (R : Rel S ι F (upd G D0 o) M H) : Rel S ι F (upd G D0 o') M (upd H D0 o') := by
 obtain ⟨hι, hF, hH⟩ := own_ι ho R
 refine ⟨R.len, R.nd, fun i d a h1 h2 => ?_, fun i a e => ?_, fun a u e => ?_, fun a u e => ?_⟩
 ·obtain ⟨u, e1, e2⟩ := R.own i d a h1 h2
  exact ⟨u, by rw [upd_ne (ι_ne h2 hι)]; exact e1, e2⟩
 ·obtain ⟨e1, e2⟩ := R.out i a e
  exact ⟨e1, fun u z => e2 u (by rw [upd_ne (ι_ne e hι)] at z ⊢; exact z)⟩
 ·have hne : a ≠ D0 := fun z => by rw [z, hF] at e; cases e
  exact Rn.mono (R.frz a u e) fun x z => by rw [upd_ne hne]; exact z
 ·by_cases z : a = D0
  ·subst z; rw [upd_same] at e; cases e; exact ⟨upd_same, fun _ => hF⟩
  ·rw [upd_ne z] at e
   obtain ⟨e1, e2⟩ := R.frm a u (by rw [upd_ne z]; exact e)
   exact ⟨by rw [upd_ne z]; exact e1, e2⟩
def hide (H : Hp) (a : Addr) : Hp := fun b => if b = a then none else H b
theorem hide_same {H : Hp} {a : Addr} : hide H a a = none := if_pos rfl
theorem hide_ne {H : Hp} {a b : Addr} (h : b ≠ a) : hide H a b = H b := if_neg h
theorem hide_upd {H : Hp} {a : Addr} {o : HO} (e : H a = some o) : upd (hide H a) a o = H := by
 funext c
 by_cases z : c = a
 ·rw [z, upd_same, e]
 ·rw [upd_ne z, hide_ne z]
theorem Rel.hide {a : Addr} (hι : a ∉ ι) (hF : F a = none) (hG : G a = none) (R : Rel S ι F G M H) : Rel S ι F G M (Mn.hide H a) := by
 refine ⟨R.len, R.nd, fun i d b h1 h2 => ?_, R.out, fun b u e => ?_, fun b u e => ?_⟩
 ·obtain ⟨u, e1, e2⟩ := R.own i d b h1 h2
  exact ⟨u, by rw [hide_ne (ι_ne h2 hι)]; exact e1, e2⟩
 ·exact Rn.mono (R.frz b u e) fun x z => by rw [hide_ne (ne_of_none e hF)]; exact z
 ·obtain ⟨e1, e2⟩ := R.frm b u e
  exact ⟨by rw [hide_ne (ne_of_none e hG)]; exact e1, e2⟩
theorem PostG.gadd {k : α → List Addr → Hp → Mem → Hp → Prop} {r : Res α} (hG : G D0 = none) (h : PostG S Wx ι F G k r) : PostG S Wx ι F (upd G D0 o) (fun a ι F M H => k a ι F M H) r := by
 cases r with
 | ok a M => exact fun ι' F' H' p s R => h ι' F' H' p s (R.gless hG)
 | exc c fs M => exact fun ι' F' H' x gs p s R => h ι' F' H' x gs p s (R.gless hG)
 | bad => exact h
theorem PostG.unnox {k : α → List Addr → Hp → Mem → Hp → Prop} {r : Res α} (h : PostG S Wx ι F G k r.nox) : PostG S Wx' ι F G k r := by
 cases r with
 | ok a M => exact h
 | exc c fs M => exact False.elim h
 | bad => exact h
end
mutual
def tgV : Tg → List Nat
 | .nm i => [i]
 | .tp ts => tgsV ts
 | .at _ _ => []
 | .sb _ _ => []
def tgsV : Ts → List Nat
 | .nil => []
 | .cons t r => tgV t ++ tgsV r
end
def Same (vs : List Nat) (σ σ2 : L2.St) : Prop := ∀ ws, (∀ i ∈ vs, i ∈ ws) → L2.wipe σ2 ws = L2.wipe σ ws
abbrev WX0 : WX3 := fun _ _ _ => False
abbrev kG (S : Sit) (vs : List Nat) (σ : L2.St) (K : L2.St → Hp → Prop) : Sl → List Addr → Hp → Mem → Hp → Prop := fun σ2' ι F _ H => ∀ σ2, RS S ι F σ2' σ2 → Same vs σ σ2 → K σ2 H
def LG (S : Sit) (vs : List Nat) (f : D → Sl → Mem → Res Sl) : TG := fun x σ H K => ∃ ι F G σ' M d, Rel S ι F G M H ∧ RS S ι F σ' σ ∧ Den S ι F d x ∧ PostG S WX0 ι F G (kG S vs σ K) (f d σ' M)
def LGs (S : Sit) (vs : List Nat) (f : List D → Sl → Mem → Res Sl) : TGs := fun xs σ H K => ∃ ι F G σ' M ds, Rel S ι F G M H ∧ RS S ι F σ' σ ∧ DenL S ι F ds xs ∧ PostG S WX0 ι F G (kG S vs σ K) (f ds σ' M)
theorem wipe_set {σ : L2.St} {i : Nat} {z : Option V} : ∀ {ws : List Nat}, i ∈ ws → L2.wipe (σ.set i z) ws = L2.wipe σ ws
 | [], h => by cases h
 | w :: ws, h => by
  unfold L2.wipe
  by_cases e : i = w
  ·subst e
   by_cases hm : i ∈ ws
   ·rw [wipe_set hm]
   ·have : ∀ {ws : List Nat}, i ∉ ws → L2.wipe (σ.set i z) ws = (L2.wipe σ ws).set i z := fun {ws} => by
     induction ws with
     | nil => intro _; rfl
     | cons v vs ih =>
      intro hm
      rw [List.mem_cons, not_or] at hm
      unfold L2.wipe
      rw [ih hm.2, List.set_comm _ _ (Ne.symm hm.1)]
    rw [this hm, List.set_set]
  ·rcases List.mem_cons.mp h with h | h
   ·exact absurd h e
   ·rw [wipe_set h]
theorem wipe_wipe {σ : L2.St} : ∀ {vs ws : List Nat}, (∀ i ∈ vs, i ∈ ws) → L2.wipe (L2.wipe σ vs) ws = L2.wipe σ ws
 | [], ws, _ => rfl
 | v :: vs, ws, h => by
  show L2.wipe ((L2.wipe σ vs).set v none) ws = _
  rw [wipe_set (h v List.mem_cons_self)]
  exact wipe_wipe fun i hi => h i (List.mem_cons_of_mem _ hi)
theorem Same.set {σ : L2.St} {i : Nat} {x : V} : Same [i] σ (σ.set i (some x)) := fun ws h => wipe_set (h i (by simp))
theorem RS.wipe {S : Sit} {ι : List Addr} {F : Hp} {σ' : Sl} {σ : L2.St} (h : RS S ι F σ' σ) : ∀ vs : List Nat, RS S ι F (Mn.wipe σ' vs) (L2.wipe σ vs)
 | [] => h
 | v :: vs => RS.none (RS.wipe h vs)
section
variable {S : Sit} {W : L2.WX} {cf mf : Calls} {X : Cx} {sc : Scope} {N : List Str} {a b c e tg : Expr} {ca cb cc ce : Ex} {pos p : Pos}
theorem Same.refl (vs : List Nat) (σ : L2.St) : Same vs σ σ := fun _ _ => rfl
theorem Same.app {vs vs' : List Nat} {σ σ1 σ2 : L2.St} (h : Same vs σ σ1) (k : Same vs' σ1 σ2) : Same (vs ++ vs') σ σ2 := fun ws hw =>
 (k ws fun i hi => hw i (List.mem_append_right _ hi)).trans (h ws fun i hi => hw i (List.mem_append_left _ hi))
theorem sg_nm (C : Cxt S sc N X) {i : Nat} {x : Str} (hi : N[i]? = some x) (hx : Loc X.env.scope x) (hf : X.fn x = true ∨ X.env.scope.names.lookup x = some .local) : PG X (.Name x pos) (LG S (tgV (.nm i)) (asgT S.T cf mf (.nm i))) := by
 have h := pg_name (pos := pos) (X := X) (by rw [C.hN]; exact C.nd) (by rw [C.hN]; exact hi) hx hf
 refine ⟨fun pins s σ H v u Q I r q => h.run pins s σ H v u Q I r ?_⟩
 obtain ⟨ι, F, G, σ', M, d, R, rs, dx, p⟩ := q
 exact p ι F H (.refl _) (.refl _) R _ (rs.set dx) Same.set
theorem sgs_nil : PGs X [] (LGs S (tgsV .nil) (asgTs S.T cf mf .nil)) := by
 refine ⟨fun pins s σ H vs us Q I r q => pgs_nil.run pins s σ H vs us Q I r ?_⟩
 obtain ⟨ι, F, G, σ', M, ds, R, rs, dl, p⟩ := q
 cases ds with
 | nil => exact ⟨dl.inv0, p ι F H (.refl _) (.refl _) R σ rs (Same.refl _ _)⟩
 | cons d ds => exact False.elim p
theorem sgs_cons {es : List Expr} {t : Tg} {ts : Ts} (h1 : PG X e (LG S (tgV t) (asgT S.T cf mf t))) (h2 : PGs X es (LGs S (tgsV ts) (asgTs S.T cf mf ts))) (hs : (assignEach (e :: es) X.env).map (·.2) = assign e X.env :: (assignEach es X.env).map (·.2)) :
  PGs X (e :: es) (LGs S (tgsV (.cons t ts)) (asgTs S.T cf mf (.cons t ts))) := by
 refine ⟨fun pins s σ H vs us Q I r q => (pgs_cons h1 h2 hs).run pins s σ H vs us Q I r ?_⟩
 obtain ⟨ι, F, G, σ', M, ds, R, rs, dl, p⟩ := q
 cases ds with
 | nil => exact False.elim p
 | cons d ds =>
  obtain ⟨v, vr, rfl, dv, dr⟩ := dl.inv
  refine ⟨v, vr, rfl, ι, F, G, σ', M, d, R, rs, dv, (show PostG S WX0 ι F G _ ((asgT S.T cf mf t d σ' M).bind fun σ1 M1 => asgTs S.T cf mf ts ds σ1 M1) from p).bind.imp fun σ1' ι1 F1 M1 H1 p1 s1 R1 q1 σ1 rs1 sm => ?_⟩
  refine ⟨ι1, F1, G, σ1', M1, ds, R1, rs1, dr.mono p1 s1, q1.imp fun σ2' ι2 F2 M2 H2 p2 s2 R2 q2 σ2 rs2 sm2 => ?_⟩
  exact q2 σ2 rs2 (sm.app sm2)
theorem sg_tp (C : Cxt S sc N X) {es : List Expr} {k : Nat} {ts : Ts} (h : PGs X es (LGs S (tgsV ts) (asgTs S.T cf mf ts))) (hn : (assignEach es X.env).length = lenT ts) (hst : (assignEach es X.env).findIdx? (·.1) = none) :
  PG X (.Tuple es k pos) (LG S (tgV (.tp ts)) (asgT S.T cf mf (.tp ts))) := by
 refine ⟨fun pins s σ H v u Q I r q => (pg_tup C.calm h hn hst).run pins s σ H v u Q I r ?_⟩
 obtain ⟨ι, F, G, σ', M, d, R, rs, dx, p⟩ := q
 have dv := dx.dv R
 replace p : PostG S WX0 ι F G (kG S (tgsV ts) σ Q) (match der M d with | .tup xs => if xs.length = lenT ts then asgTs S.T cf mf ts xs σ' M else .bad | _ => .bad) := p
 revert p dv
 generalize der M d = d'
 intro dv p
 cases dv with
 | @tup a xs ds h1 h2 =>
  replace p : PostG S WX0 ι F G (kG S (tgsV ts) σ Q) (if ds.length = lenT ts then asgTs S.T cf mf ts ds σ' M else .bad) := p
  split at p
  ·rename_i hl
   exact ⟨a, xs, rfl, .inl h1, by rw [h2.1, hl], ι, F, G, σ', M, ds, R, rs, h2, p⟩
  ·exact False.elim p
 | _ => exact False.elim p
abbrev WF0 : L2.WX := fun _ _ _ _ => False
theorem tests_none {X : Cx} : PTs X [] (LT S WF0 (evT S.T cf mf (.v (.lit (.bl true))))) := ⟨fun pins s σ H Q I q => pts_nil.run pins s σ H Q I (by
 obtain ⟨ι, F, G, σ', M, R, rs, p⟩ := q
 exact p ι F H (.refl _) (.refl _) R)⟩
theorem tests_one {X : Cx} {c : Expr} {t : Te} (h : PT X c (LT S WF0 (evT S.T cf mf t))) : PTs X [c] (LT S WF0 (evT S.T cf mf t)) := pts_one h
noncomputable def lcB (T : Tab) (cf mf : Calls) (vs : List Nat) (t : Tg) (c : Te) (e : Ex) (σ : Sl) (x : D) (M2 : Mem) : Res (Option D) :=
 (asgT T cf mf t x (wipe σ vs) M2).bind fun σ2 M3 => (evT T cf mf c σ2 M3).bind fun k M4 => if k then (ev T cf mf e σ2 M4).bind fun y M5 => .ok (some y) M5 else .ok none M4
abbrev WXT : WX3 := fun _ _ _ => True
theorem PostG.mapOk {Wx : WX3} {ι : List Addr} {F G : Hp} {α β : Type} {f : α → β} {k : β → List Addr → Hp → Mem → Hp → Prop} {r : Res α} (h : PostG S Wx ι F G k (r.bind fun a M => .ok (f a) M)) : PostG S Wx ι F G (fun a ι F M H => k (f a) ι F M H) r := by
 cases r with
 | ok a M => exact h
 | exc c fs M => exact h
 | bad => exact h
def endL (S : Sit) (Q : VK) (G : Hp) (w : Walk) : List D → List Addr → Hp → Mem → Hp → Prop := fun ys ι F M _ => ∀ H3, Rel S ι F G (w.ulk M) H3 → kN S Q (.lst ys) ι F (w.ulk M) H3
theorem lc_read {σ : L2.St} {H : Hp} {Q : VK} {vs : List Nat} {t : Tg} {it : It} {c : Te} {e : Ex} (hv : ∀ i ∈ tgV t, i ∈ vs) (q : LN S W (evN S.T cf mf (.lcp vs t it c e)) σ H Q) :
  tLc (LI S X W (evI S.T cf mf it)) (LG S (tgV t) (asgT S.T cf mf t)) (LT S WF0 (evT S.T cf mf c)) (LE S WF0 (ev S.T cf mf e)) vs σ H (fun v H1 => ∃ H3, Cv X H1 H3 ∧ Q v H3) := by
 obtain ⟨ι, F, G, σ', M, R, rs, p⟩ := q
 refine ⟨ι, F, G, σ', M, R, rs, (show PostG S _ ι F G (kN S Q) ((evI S.T cf mf it σ' M).bind fun w M1 => (((lcL (lcB S.T cf mf vs t c e σ') w w.xs (w.lock M1)).mapM w.ulk).bind fun ys M2 => .ok (.lst ys) M2)) from p).bind.imp fun w ι1 F1 M1 H1 p1 s1 R1 q1 => ⟨fun J G2 H2 hz lk D hD => ?_, fun hw hlk J H2 em D hD => ?_⟩⟩
 ·have hG2 : G2 D = none := lk.rel.fresh_G hD
  have q2 : PostG S WXT ι1 F1 G2 (endL S Q G w) (lcL (lcB S.T cf mf vs t c e σ') w w.xs (w.lock M1)) := by
   revert q1
   generalize lcL (lcB S.T cf mf vs t c e σ') w w.xs (w.lock M1) = r
   intro q1
   cases r with
   | ok ys M2 => exact fun ι' F' H' p s _ H3 R3 => q1 ι' F' H3 p s R3
   | exc _ _ _ => exact fun _ _ _ _ _ _ _ _ _ _ => trivial
   | bad => exact q1
  refine ⟨fun i m H => m + i = w.xs.length ∧ ∃ ι' F' M' acc dacc, Pre ι1 ι' ∧ Sub F1 F' ∧ Rel S ι' F' (upd G2 D (.lst acc)) M' H ∧ DenL S ι' F' dacc acc ∧ acc.length ≤ i ∧ PostG S WXT ι' F' G2 (fun ys => endL S Q G w (dacc ++ ys)) (lcL (lcB S.T cf mf vs t c e σ') w (w.xs.drop i) M'), ⟨w.xs.length, by simp, ι1, F1, w.lock M1, [], [], .refl _, .refl _, lk.rel.gadd hD, .nil, Nat.le_refl _, q2⟩, ?_⟩
  rintro i m H ⟨him, ι2, F2, M2, acc, dacc, p2, s2, R2, dl, ha, q3⟩
  have R2' := R2.gless hG2
  have gs : ∀ b o, G2 b = some o → (upd G2 D (.lst acc)) b = some o := fun b o z => by rw [upd_ne (ne_of_none z hG2)]; exact z
  by_cases hi : i < w.xs.length
  ·rw [List.drop_eq_getElem_cons hi] at q3
   replace q3 : PostG S WXT ι2 F2 G2 (fun ys => endL S Q G w (dacc ++ ys)) (if w.ok M2 then (lcB S.T cf mf vs t c e σ' w.xs[i] M2).nox.bind fun o M1 => (lcL (lcB S.T cf mf vs t c e σ') w (w.xs.drop (i + 1)) M1).bind fun ys M2 => .ok (match o with | some y => y :: ys | none => ys) M2 else .bad) := q3
   split at q3
   case isFalse => exact False.elim q3
   rename_i hok
   refine .inr ⟨lk.wlk.go i ι2 F2 _ M2 H gs p2 s2 R2 hok hi, fun H' => ∃ ι' F' M' acc dacc, Pre ι1 ι' ∧ Sub F1 F' ∧ Rel S ι' F' (upd G2 D (.lst acc)) M' H' ∧ DenL S ι' F' dacc acc ∧ acc.length ≤ i + 1 ∧ PostG S WXT ι' F' G2 (fun ys => endL S Q G w (dacc ++ ys)) (lcL (lcB S.T cf mf vs t c e σ') w (w.xs.drop (i + 1)) M'), fun H' h' => ⟨m - 1, by omega, by omega, h'⟩, fun x H' hy => ?_⟩
   obtain ⟨F3, s3, R3, dx⟩ := lk.wlk.yld i ι2 F2 _ M2 H x H' _ gs p2 s2 R2 hok (List.getElem?_eq_getElem hi) hy
   have q4 := (PostG.gadd (D0 := D) (o := .lst acc) hG2 ((PostG.unnox (Wx' := WX0) q3.bind).weak (.refl ι2) s3))
   refine ⟨ι2, F3, _, Mn.wipe σ' vs, M2, w.xs[i], R3, (rs.mono (p1.trans p2) ((s1.trans s2).trans s3)).wipe vs, dx, q4.bind.imp fun σ2' ι4 F4 M4 H4 p4 s4 R4 q5 σ2 rs2 sm => ⟨?_, ?_⟩⟩
   ·rw [sm vs hv]
    exact wipe_wipe fun _ z => z
   ·refine ⟨ι4, F4, _, σ2', M4, R4, rs2, q5.bind.imp fun k ι5 F5 M5 H5 p5 s5 R5 q6 => ?_⟩
    cases k with
    | false =>
     have q7 := q6 ι5 F5 H5 (.refl _) (.refl _) R5
     exact ⟨ι5, F5, M5, acc, dacc, ((p2.trans p4).trans p5), (((s2.trans s3).trans s4).trans s5), R5, dl.mono (p4.trans p5) ((s3.trans s4).trans s5), by omega, PostG.mapOk (f := id) (k := fun ys => endL S Q G w (dacc ++ ys)) q7⟩
    | true =>
     refine ⟨ι5, F5, _, σ2', M5, R5, rs2.mono p5 s5, q6.bind.imp fun y ι6 F6 M6 H6 p6 s6 R6 q7 v dv => ?_⟩
     have q8 := q7 ι6 F6 H6 (.refl _) (.refl _) R6
     have hown := own_ι (show isOwn (.lst acc) from trivial) R6
     refine ⟨acc, hown.2.2, by omega, ι6, F6, M6, acc ++ [v], dacc ++ [y], (((p2.trans p4).trans p5).trans p6), ((((s2.trans s3).trans s4).trans s5).trans s6), R6.gput (show isOwn (.lst acc) from trivial), (dl.mono ((p4.trans p5).trans p6) (((s3.trans s4).trans s5).trans s6)).app (.cons dv .nil), by rw [List.length_append]; simp; omega, ?_⟩
     refine (PostG.mapOk (f := fun ys => y :: ys) (k := fun ys => endL S Q G w (dacc ++ ys)) q8).imp fun ys ι' F' M' H' _ _ _ z => ?_
     rw [List.append_assoc]
     exact z
  ·have hi' : i = w.xs.length := by omega
   subst hi'
   rw [List.drop_length] at q3
   replace q3 : PostG S WXT ι2 F2 G2 (fun ys => endL S Q G w (dacc ++ ys)) (if w.ok M2 then .ok [] M2 else .bad) := q3
   split at q3
   case isFalse => exact False.elim q3
   rename_i hok
   refine .inl ⟨lk.wlk.stop ι2 F2 _ M2 H gs p2 s2 R2 hok, ?_⟩
   obtain ⟨H3, cv, R3, same⟩ := lk.back ι2 F2 M2 H p2 s2 R2'
   have q4 := q3 ι2 F2 H (.refl _) (.refl _) R2' H3 R3
   rw [List.append_nil] at q4
   obtain ⟨hι, hF, hHD⟩ := own_ι (show isOwn (.lst acc) from trivial) R2
   have hG : G D = none := lk.gs D hG2
   have h3 : H3 D = some (.lst acc) := by rw [same D (.inl hD), hHD]
   refine ⟨H3, cv, ?_⟩
   have R4 := R3.hide hι hF hG
   have q5 := q3 ι2 F2 H (.refl _) (.refl _) R2' (Mn.hide H3 D) R4
   rw [List.append_nil] at q5
   have := q5 D (.lst acc) hide_same (.lst dl) (fun _ z => nomatch z)
   rw [hide_upd h3] at this
   exact this
 ·refine ⟨fun i m H => H = upd H2 D (.lst []) ∧ i = 0, ⟨0, rfl, rfl⟩, ?_⟩
  rintro i m H ⟨rfl, rfl⟩
  refine .inl ⟨em.stopU D _ hD, upd H1 D (.lst []), em.cvU D _ hD, ?_⟩
  rw [hw] at q1
  have e1 : w.lock M1 = M1 := by unfold Walk.lock; rw [hlk]
  have e2 : ∀ M, w.ulk M = M := fun M => by unfold Walk.ulk; rw [hlk]
  rw [e1] at q1
  replace q1 : PostG S _ ι1 F1 G (kN S Q) (((if w.ok M1 then Res.ok ([] : List Mn.D) M1 else .bad).mapM w.ulk).bind fun ys M2 => .ok (.lst ys) M2) := q1
  split at q1
  case isFalse => exact False.elim q1
  replace q1 : PostG S _ ι1 F1 G (kN S Q) (.ok (.lst []) (w.ulk M1)) := q1
  rw [e2] at q1
  exact q1 ι1 F1 H1 (.refl _) (.refl _) R1 D (.lst []) (em.non D hD) (.lst .nil) (fun _ z => nomatch z)
theorem sn_lc (C : Cxt S sc N X) {elt iter : Expr} {ifs : List Expr} {scope : Scope} {own : List (Str × Nat)} {t : Tg} {it : It} {c : Te} {ce : Ex} (hi : SI S W cf mf X tg iter it) (ok : BlkOk X.N X.env.scope scope own) (hv : ∀ i ∈ tgV t, i ∈ own.map (·.2))
  (hg : ∀ (s : Shared) (H : Hp) (K : Addr) (cl : List (Str × Addr)) (fp : List Addr), PG (X.blk s H scope (compEnvC scope cl K X.env) fp) tg (LG S (tgV t) (asgT S.T cf mf t)))
  (ht : ∀ (s : Shared) (H : Hp) (K : Addr) (cl : List (Str × Addr)) (fp : List Addr), PTs (X.blk s H scope (compEnvC scope cl K X.env) fp) ifs (LT S WF0 (evT S.T cf mf c)))
  (he : ∀ (s : Shared) (H : Hp) (K : Addr) (cl : List (Str × Addr)) (fp : List Addr), PE (X.blk s H scope (compEnvC scope cl K X.env) fp) elt (LE S WF0 (ev S.T cf mf ce))) (hs : ∀ x, foldedSetIterable iter X.env x = pure x) :
  SN S W cf mf X (.ListComp elt [⟨tg, iter, ifs, 0⟩] scope pos) (.lcp (own.map (·.2)) t it c ce) :=
 (pe_cv (pe_lc C.calm (by rw [C.hN]; exact C.nd) hi ok hg ht he hs)).to fun σ H Q q => lc_read (X := X) hv q
end
end Mn
end
section
namespace Mn
open PySem PySem.Spec PyProof.Rows L2
def CvA (H H' : Hp) : Prop := ∀ (X : Cx) pins σ s, Inv X pins σ H s → Inv X pins σ H' s
theorem put_any {X : Cx} {pins : List (Addr × Obj)} {σ : L2.St} {H H' : Hp} {s : Shared} {a : Addr} {y v : V} {u r : Value} {E : Value → Shared → Prop} {Q : Unit → Shared → Prop} (hu : X.A.units + 80 < cLine) (I : Inv X pins σ H s) (g : DPut H a y v H') (ry : RelV y u) (rv : RelV v r) (h : ∀ s', Inv X pins σ H' s' → Q () s') :
  wpAny (model X.prog X.w) X.A (dictSet a u r) Q E s := by
 rcases g with ⟨kvs, k, e, rfl, l, rfl⟩ | ⟨kvs, k, b, e, rfl, eb, l, rfl⟩
 ·obtain ⟨z, hd, vs, rel, dd⟩ := dk_of I.hok e
  have hz : vs.length ≤ sizeLine := by have := rel.length; omega
  have hl : (putK kvs k v).length ≤ sizeLine := Nat.le_trans (length_putK kvs k v) l
  refine wpAny_dictSet_pairs (hsz := hz) (kV_is ry) dd fun h' dd' hs => h _ ?_
  obtain ⟨q, es, ep, hq, rest⟩ := id dd'
  exact d_write I (by rw [e]; trivial) hs ⟨q, hq⟩ (dk_new hl hd (rel.put k rv) dd')
 ·obtain rfl : u = .ref b := ry
  obtain ⟨z, hd, xs, rel, dd⟩ := dt_of I.hok e
  have hz : xs.length ≤ sizeLine := by have := Paired.length rel; omega
  have hl : (putK kvs k v).length ≤ sizeLine := Nat.le_trans (length_putK kvs k v) l
  refine wpAny_dictSet_heap (hsz := hz) (Nat.lt_of_le_of_lt (Nat.le_add_right _ 80) hu) (key_of I.hok eb) dd fun h' dd' hs => h _ ?_
  obtain ⟨q, es, ep, hq, g2, g3, g4, g6, g5⟩ := dd'
  refine d_write I (by rw [e]; trivial) hs ⟨q, hq⟩ ⟨hl, hd, _, KT.keeps (rel.put k eb rv) fun c ys ec => ?_, q, es, ep, hq, g2, g3, g4, g5⟩
  rw [upd_ne (ne_of ec e nofun)]
  exact ec
section
variable {X : Cx}
def tDcG (wi : TI) (g : TG) (tt : TT) (tk tv : TE) (vs : List Nat) : TE := fun σ H Q => wi σ H fun J H1 => ∀ A, H1 A = none → ∃ W : Nat → Nat → Hp → Prop, (∃ m, W 0 m (upd H1 A (.dK []))) ∧ ∀ i m H, W i m H →
 (J.stop i H ∧ Q (.ref A) H) ∨ (J.go i H ∧ ∃ Nx : Hp → Prop, (∀ H', Nx H' → ∃ m', m' < m ∧ W (i + 1) m' H') ∧ ∀ x H', J.yld i H x H' → g x (L2.wipe σ vs) H' fun σ2 H2 => L2.wipe σ2 vs = L2.wipe σ vs ∧ tt σ2 H2 fun b H3 =>
  if b = true then tk σ2 H3 fun y H4 => tv σ2 H4 fun z H5 => ∃ H6 H7, CvA H5 H6 ∧ DPut H6 A y z H7 ∧ Nx H7 else Nx H3)
end
section
variable {S : Sit} {ι : List Addr} {F G2 H : Hp} {M : Mem} {D0 : Addr} {o : HO} {cf mf : Calls} {W : L2.WX} {X : Cx} {sc : Scope} {N : List Str} {pos : Pos}
theorem comp_put {ps : List (D × D)} {kd d : D} {y v : V} (hD : H D0 = some o) (ho : DenO S ι F (.dct ps) o) (R : Rel S ι F (upd G2 D0 o) M H) (dk : Den S ι F kd y) (hk : keyOk ps kd = true) (hl : ps.length < sizeLine) (dv : Den S ι F d v) :
  ∃ H6 H7 o', CvA H H6 ∧ DPut H6 D0 y v H7 ∧ H7 = upd H D0 o' ∧ DenO S ι F (.dct (dput ps kd d)) o' ∧ isOwn o' := by
 obtain ⟨hk1, hk2⟩ := keyOk_cons hk
 rcases rowsO ho with ⟨kvs, rfl, rw'⟩ | ⟨kvs, rfl, rw'⟩
 ·have hlen : kvs.length < sizeLine := by rw [rw'.1]; omega
  rcases key_cases dk hk1 with ⟨q, rfl, rfl, hq⟩ | ⟨ks, b, rfl, rfl, hb, hks⟩
  ·exact ⟨H, _, _, fun X pins σ s I => I, .k hD hlen, rfl, Rows.dK (rw'.put kd_eqv hq dv), trivial⟩
  ·have e0 : ps = [] := by
    cases ps with
    | nil => rfl
    | cons p r =>
     have h1 := hk2 p List.mem_cons_self
     rw [rw'.sort (b := false) kd_T p List.mem_cons_self] at h1
     cases h1
   subst e0
   rw [rw'.inv0] at hD
   have hb' := SubH.tup R.frz hb
   have hne : b ≠ D0 := fun z => by rw [z, hD] at hb'; cases hb'
   refine ⟨upd H D0 (.dT []), _, _, fun X pins σ s I => emp_T I hD, .t (k := ks) upd_same (by rw [upd_ne hne]; exact hb') (by show (0 : Nat) < sizeLine; exact Nat.lt_of_le_of_lt (Nat.zero_le _) hl), by rw [upd_upd], Rows.dT (Rows.put kt_eqv hks dv (Rows.nil)), trivial⟩
 ·have hlen : kvs.length < sizeLine := by rw [rw'.1]; omega
  rcases key_cases dk hk1 with ⟨q, rfl, rfl, hq⟩ | ⟨ks, b, rfl, rfl, hb, hks⟩
  ·have e0 : ps = [] := by
    cases ps with
    | nil => rfl
    | cons p r =>
     have h1 := hk2 p List.mem_cons_self
     rw [rw'.sort (b := true) (fun _ => rfl) p List.mem_cons_self, kd_T] at h1
     cases h1
   subst e0
   rw [rw'.inv0] at hD
   refine ⟨upd H D0 (.dK []), _, _, fun X pins σ s I => emp_K I hD, .k (k := q) upd_same (by show (0 : Nat) < sizeLine; exact Nat.lt_of_le_of_lt (Nat.zero_le _) hl), by rw [upd_upd], Rows.dK (Rows.put kd_eqv hq dv (Rows.nil)), trivial⟩
  ·exact ⟨H, _, _, fun X pins σ s I => I, .t hD (SubH.tup R.frz hb) hlen, rfl, Rows.dT (rw'.put kt_eqv hks dv), trivial⟩
theorem dput_len (ps : List (D × D)) (k v : D) : (dput ps k v).length ≤ ps.length + 1 := by
 unfold dput
 split <;> simp
noncomputable def dcB (T : Tab) (cf mf : Calls) (vs : List Nat) (t : Tg) (c : Te) (ek ev' : Ex) (σ : Sl) (x : D) (M2 : Mem) : Res (Option (D × D)) :=
 (asgT T cf mf t x (wipe σ vs) M2).bind fun σ2 M3 => (evT T cf mf c σ2 M3).bind fun b M4 => if b then (ev T cf mf ek σ2 M4).bind fun y M5 => (ev T cf mf ev' σ2 M5).bind fun z M6 => .ok (some (y, z)) M6 else .ok none M4
def endD (S : Sit) (Q : VK) (G : Hp) (w : Walk) : List (D × D) → List Addr → Hp → Mem → Hp → Prop := fun ys ι F M _ => ∀ H3, Rel S ι F G (w.ulk M) H3 → kN S Q (.dct ys) ι F (w.ulk M) H3
end
end Mn
end
section
namespace Mn
open PySem PySem.Spec PyProof.Rows L2
def WC (X : Cx) (W : L2.WX) : L2.WX := fun c e σ H => ∃ H3, Cv X H H3 ∧ (∀ b, Thin (H b) → H3 b = H b) ∧ W c e σ H3
theorem takes_WC {X : Cx} {W : L2.WX} (tk : L2.Takes X W) : L2.Takes X (WC X W) := fun u s' ⟨a, B, sI, pins, σ, H, cls, d, e, I, nb, up, sky, na, os, ag, H3, cv, th, w⟩ =>
 tk u s' ⟨a, B, sI, pins, σ, H3, cls, d, e, cv _ _ _ I, nb, up, sky, (th a (by rw [na]; trivial)).trans na, os, ag, w⟩
def cvE (X : Cx) (D : Ends) : Ends := ⟨fun σ H => ∃ H3, Cv X H H3 ∧ D.nx σ H3, fun v H => ∃ H3, Cv X H H3 ∧ D.rt v H3, fun σ H => ∃ H3, Cv X H H3 ∧ D.bk σ H3, fun σ H => ∃ H3, Cv X H H3 ∧ D.ct σ H3⟩
theorem ps_cvE {X : Cx} {st : Stmt} {t : TS} (h : PS X st t) : PS X st (fun D => t (cvE X D)) :=
 ⟨fun pins s σ H D I q => thn (h.run pins s σ H _ I q) fun f s1 z => by
  cases f with
  | next => obtain ⟨σ', H', I2, H3, cv, q⟩ := z; exact ⟨σ', H3, cv _ _ _ I2, q⟩
  | brk => obtain ⟨σ', H', I2, H3, cv, q⟩ := z; exact ⟨σ', H3, cv _ _ _ I2, q⟩
  | cont => obtain ⟨σ', H', I2, H3, cv, q⟩ := z; exact ⟨σ', H3, cv _ _ _ I2, q⟩
  | ret v => obtain ⟨x, σ', H', I2, r, H3, cv, q⟩ := z; exact ⟨x, σ', H3, cv _ _ _ I2, r, q⟩⟩
def PostO (S : Sit) (W : L2.WX) (ι : List Addr) (F G : Hp) (D : Ends) : Out → Prop
 | .nx σ' M => ∀ ι' F' H' σ, Pre ι ι' → Sub F F' → Rel S ι' F' G M H' → RS S ι' F' σ' σ → D.nx σ H'
 | .bk σ' M => ∀ ι' F' H' σ, Pre ι ι' → Sub F F' → Rel S ι' F' G M H' → RS S ι' F' σ' σ → D.bk σ H'
 | .ct σ' M => ∀ ι' F' H' σ, Pre ι ι' → Sub F F' → Rel S ι' F' G M H' → RS S ι' F' σ' σ → D.ct σ H'
 | .rt d M => ∀ ι' F' H', Pre ι ι' → Sub F F' → Rel S ι' F' G M H' → ∀ v, Den S ι' F' d v → D.rt v H'
 | .exc c fs σ' M => ∀ ι' F' H' σ e gs, Pre ι ι' → Sub F F' → Rel S ι' F' G M H' → RS S ι' F' σ' σ → H' e = some (.xd gs) → DenF S ι' F' fs gs → W (.ref (S.ca c)) (some e) σ H'
 | .bad => False
section
variable {S : Sit} {W : L2.WX} {ι ι1 : List Addr} {F F1 G : Hp} {D : Ends} {σ' : Sl} {σ : L2.St} {α : Type}
theorem PostO.weak {r : Out} (h : PostO S W ι F G D r) (p : Pre ι ι1) (e : Sub F F1) : PostO S W ι1 F1 G D r := by
 cases r with
 | nx a M => exact fun ι' F' H' z p' e' => h ι' F' H' z (p.trans p') (e.trans e')
 | bk a M => exact fun ι' F' H' z p' e' => h ι' F' H' z (p.trans p') (e.trans e')
 | ct a M => exact fun ι' F' H' z p' e' => h ι' F' H' z (p.trans p') (e.trans e')
 | rt a M => exact fun ι' F' H' p' e' => h ι' F' H' (p.trans p') (e.trans e')
 | exc c fs a M => exact fun ι' F' H' z x gs p' e' => h ι' F' H' z x gs (p.trans p') (e.trans e')
 | bad => exact h
theorem PostO.out {r : Res α} {k : α → Mem → Out} (h : PostO S W ι F G D (r.out σ' k)) (rs : RS S ι F σ' σ) : PostG S (fun c e H => W c e σ H) ι F G (fun a ι1 F1 M1 _ => PostO S W ι1 F1 G D (k a M1)) r := by
 cases r with
 | ok a M => exact fun ι' F' H' p e R => PostO.weak (show PostO S W ι F G D (k a M) from h) p e
 | exc c fs M => exact fun ι' F' H' x gs p s R hx df => h ι' F' H' σ x gs p s R (rs.mono p s) hx df
 | bad => exact h
end
def LS (S : Sit) (W : L2.WX) (f : Sl → Mem → Out) : TS := fun D σ H => ∃ ι F G σ' M, Rel S ι F G M H ∧ RS S ι F σ' σ ∧ PostO S W ι F G D (f σ' M)
section
variable {S : Sit} {W : L2.WX} {cf mf : Calls} {n : Nat} {X : Cx} {sc : Scope} {N : List Str} {st : Stmt} {rest : List Stmt} {a b c e tg iter : Expr} {ca cb cc ce : Ex} {pos p : Pos} {k : Sm} {ks : Ss}
theorem sb_nil : PSs X [] (LS S W (exB S.T cf mf n .nil)) := ⟨fun pins s σ H D I ⟨ι, F, G, σ', M, R, rs, p⟩ => pss_nil.run pins s σ H D I (p ι F H σ (.refl _) (.refl _) R rs)⟩
theorem sb_cons (h1 : PS X st (LS S W (exS S.T cf mf n k))) (h2 : PSs X rest (LS S W (exB S.T cf mf n ks))) : PSs X (st :: rest) (LS S W (exB S.T cf mf n (.cons k ks))) := by
 refine ⟨fun pins s σ H D I q => (pss_cons h1 h2).run pins s σ H D I ?_⟩
 obtain ⟨ι, F, G, σ', M, R, rs, p⟩ := q
 refine ⟨ι, F, G, σ', M, R, rs, ?_⟩
 replace p : PostO S W ι F G D (match exS S.T cf mf n k σ' M with
  | .nx σ2 M2 => exB S.T cf mf n ks σ2 M2
  | .rt d M2 => .rt d M2
  | .bk σ2 M2 => .bk σ2 M2
  | .ct σ2 M2 => .ct σ2 M2
  | .exc c fs σ2 M2 => .exc c fs σ2 M2
  | .bad => .bad) := p
 revert p
 generalize exS S.T cf mf n k σ' M = r
 intro p
 cases r with
 | nx σ2 M2 => exact fun ι' F' H' σ1 p1 s1 R1 rs1 => ⟨ι', F', G, σ2, M2, R1, rs1, PostO.weak p p1 s1⟩
 | bk _ _ => exact p
 | ct _ _ => exact p
 | rt _ _ => exact p
 | exc _ _ _ _ => exact p
 | bad => exact p
theorem ss_dead : PS X st (LS S W (exS S.T cf mf n .dead)) := ⟨fun pins s σ H D I ⟨ι, F, G, σ', M, R, rs, p⟩ => False.elim p⟩
theorem ss_ret (h : SE S W cf mf X e ce) : PS X (.Return (some e) pos) (LS S W (exS S.T cf mf n (.ret ce))) := by
 refine ⟨fun pins s σ H D I q => (ps_ret h).run pins s σ H D I ?_⟩
 obtain ⟨ι, F, G, σ', M, R, rs, p⟩ := q
 exact ⟨ι, F, G, σ', M, R, rs, (PostO.out p rs).imp fun d ι1 F1 M1 H1 p1 s1 R1 q1 v dv => q1 ι1 F1 H1 (.refl _) (.refl _) R1 v dv⟩
theorem ss_drop (h : SE S W cf mf X e ce) (hs : swapsWith e none pos.line X.env = pure false) : PS X (.Expr e pos) (LS S W (exS S.T cf mf n (.drop ce))) := by
 refine ⟨fun pins s σ H D I q => (ps_expr h hs).run pins s σ H D I ?_⟩
 obtain ⟨ι, F, G, σ', M, R, rs, p⟩ := q
 exact ⟨ι, F, G, σ', M, R, rs, (PostO.out p rs).imp fun d ι1 F1 M1 H1 p1 s1 R1 q1 v dv => q1 ι1 F1 H1 σ (.refl _) (.refl _) R1 (rs.mono p1 s1)⟩
theorem ss_if {ct : Te} {x y : List Stmt} {cx cy : Ss} (h : ST S W cf mf X c ct) (hx : PSs X x (LS S W (exB S.T cf mf n cx))) (hy : PSs X y (LS S W (exB S.T cf mf n cy))) : PS X (.If c x y pos) (LS S W (exS S.T cf mf n (.ifs ct cx cy))) := by
 refine ⟨fun pins s σ H D I q => (ps_if h hx hy).run pins s σ H D I ?_⟩
 obtain ⟨ι, F, G, σ', M, R, rs, p⟩ := q
 refine ⟨ι, F, G, σ', M, R, rs, (PostO.out p rs).imp fun d ι1 F1 M1 H1 p1 s1 R1 q1 => ?_⟩
 cases d with
 | true => exact ⟨ι1, F1, G, σ', M1, R1, rs.mono p1 s1, q1⟩
 | false => exact ⟨ι1, F1, G, σ', M1, R1, rs.mono p1 s1, q1⟩
theorem ss_asg {t : Tg} (h : SE S W cf mf X e ce) (hg : PG X tg (LG S (tgV t) (asgT S.T cf mf t))) (hs : swapsWithSole [tg] e pos.line X.env = pure false) (hw : swappedStores [tg] e X.env = pure none) (h1 : (assignEach [tg] X.env).map (·.2) = [assign tg X.env]) :
  PS X (.Assign [tg] e pos) (LS S W (exS S.T cf mf n (.asg t ce))) := by
 refine ⟨fun pins s σ H D I q => (ps_asg h hg hs hw h1).run pins s σ H D I ?_⟩
 obtain ⟨ι, F, G, σ', M, R, rs, p⟩ := q
 exact ⟨ι, F, G, σ', M, R, rs, (PostO.out p rs).imp fun d ι1 F1 M1 H1 p1 s1 R1 q1 x dx => ⟨ι1, F1, G, σ', M1, d, R1, rs.mono p1 s1, dx, (PostG.unnox (Wx' := WX0) (PostO.out q1 (rs.mono p1 s1))).imp fun σ2' ι2 F2 M2 H2 p2 s2 R2 q2 σ2 rs2 sm => q2 ι2 F2 H2 σ2 (.refl _) (.refl _) R2 rs2⟩⟩
theorem ss_set (C : Cxt S sc N X) {i : Nat} {x : Str} {pos' : Pos} (hi : N[i]? = some x) (hx : Loc X.env.scope x) (hf : X.fn x = true ∨ X.env.scope.names.lookup x = some .local) (h : SE S W cf mf X e ce) (hs : swapsWith e (some (.Name x pos')) pos.line X.env = pure false) :
  PS X (.Assign [.Name x pos'] e pos) (LS S W (exS S.T cf mf n (.asg (.nm i) ce))) := by
 refine ⟨fun pins s σ H D I q => (ps_set (by rw [C.hN]; exact C.nd) (by rw [C.hN]; exact hi) hx h hs hf).run pins s σ H D I ?_⟩
 obtain ⟨ι, F, G, σ', M, R, rs, p⟩ := q
 exact ⟨ι, F, G, σ', M, R, rs, (PostO.out p rs).imp fun d ι1 F1 M1 H1 p1 s1 R1 q1 x dx => (show PostO S W ι1 F1 G D (.nx (σ'.set i (some d)) M1) from q1) ι1 F1 H1 _ (.refl _) (.refl _) R1 ((rs.mono p1 s1).set dx)⟩
theorem ss_whl {ct : Te} {body : List Stmt} {cb : Ss} (hp : PassesOwn (model X.prog X.w) X.A X.env X.xe) (hc : ST S W cf mf X c ct) (hb : PSs X body (LS S W (exB S.T cf mf n cb))) :
  PS X (.While c body [] pos) (LS S W (exS S.T cf mf n (.whl ct cb))) := by
 refine ⟨fun pins s σ H D I q => (ps_while hp hc hb).run pins s σ H D I ?_⟩
 obtain ⟨ι, F, G, σ', M, R, rs, p⟩ := q
 refine ⟨fun m σ H => ∃ ι F G σ' M, Rel S ι F G M H ∧ RS S ι F σ' σ ∧ PostO S W ι F G D (whlL (evT S.T cf mf ct) (exB S.T cf mf n cb) m σ' M), ⟨n, ι, F, G, σ', M, R, rs, p⟩, ?_⟩
 rintro m σ0 H0 ⟨ι, F, G, σ', M, R, rs, p⟩
 cases m with
 | zero => exact False.elim p
 | succ m =>
  refine ⟨ι, F, G, σ', M, R, rs, ?_⟩
  replace p : PostO S W ι F G D (match evT S.T cf mf ct σ' M with
   | .ok true M1 => match exB S.T cf mf n cb σ' M1 with
    | .nx σ2 M2 => whlL (evT S.T cf mf ct) (exB S.T cf mf n cb) m σ2 M2
    | .ct σ2 M2 => whlL (evT S.T cf mf ct) (exB S.T cf mf n cb) m σ2 M2
    | .bk σ2 M2 => .nx σ2 M2
    | .rt d M2 => .rt d M2
    | .exc x fs σ2 M2 => .exc x fs σ2 M2
    | .bad => .bad
   | .ok false M1 => .nx σ' M1
   | .exc x fs M1 => .exc x fs σ' M1
   | .bad => .bad) := p
  revert p
  generalize evT S.T cf mf ct σ' M = r
  intro p
  cases r with
  | bad => exact p
  | exc x fs M1 => exact fun ι' F' H' y gs p1 s1 R1 hx df => p ι' F' H' σ0 y gs p1 s1 R1 (rs.mono p1 s1) hx df
  | ok b M1 =>
   cases b with
   | false => exact fun ι1 F1 H1 p1 s1 R1 => p ι1 F1 H1 σ0 p1 s1 R1 (rs.mono p1 s1)
   | true =>
    refine fun ι1 F1 H1 p1 s1 R1 => ⟨_, fun _ _ h => ⟨m, Nat.lt_succ_self m, h⟩, ι1, F1, G, σ', M1, R1, rs.mono p1 s1, ?_⟩
    replace p := PostO.weak p p1 s1
    dsimp only at p
    revert p
    generalize exB S.T cf mf n cb σ' M1 = r2
    intro p
    cases r2 with
    | nx σ2 M2 => exact fun ι' F' H' σ2s p s R rs2 => ⟨ι', F', G, σ2, M2, R, rs2, PostO.weak (show PostO S W ι1 F1 G D (whlL (evT S.T cf mf ct) (exB S.T cf mf n cb) m σ2 M2) by assumption) p s⟩
    | ct σ2 M2 => exact fun ι' F' H' σ2s p s R rs2 => ⟨ι', F', G, σ2, M2, R, rs2, PostO.weak (show PostO S W ι1 F1 G D (whlL (evT S.T cf mf ct) (exB S.T cf mf n cb) m σ2 M2) by assumption) p s⟩
    | bk σ2 M2 => exact p
    | rt d M2 => exact p
    | exc x fs σ2 M2 => exact p
    | bad => exact p
theorem ss_for (C : Cxt S sc N X) {t : Tg} {it : It} {body : List Stmt} {cb : Ss} (hp : PassesOwn (model X.prog X.w) X.A X.env X.xe) (hi : SI S W cf mf X tg iter it) (hg : PG X tg (LG S (tgV t) (asgT S.T cf mf t))) (hb : PSs X body (LS S (WC X W) (exB S.T cf mf n cb)))
  (hs : ∀ x, foldedSetIterable iter X.env x = pure x) : PS X (.For tg iter body [] pos) (LS S W (exS S.T cf mf n (.for t it cb))) := by
 refine ⟨fun pins s σ H D I q => (ps_cvE (ps_for hp C.calm hi hg hb hs)).run pins s σ H D I ?_⟩
 obtain ⟨ι, F, G, σ', M, R, rs, p⟩ := q
 refine ⟨ι, F, G, σ', M, R, rs, (PostO.out p rs).imp fun w ι1 F1 M1 H1 p1 s1 R1 q1 => ⟨fun J G2 H2 hz lk => ?_, fun hw hlk J H2 em => ?_⟩⟩
 ·replace q1 : PostO S W ι1 F1 G D ((forL (fun x σ1 M2 => (asgT S.T cf mf t x σ1 M2).nox.out σ1 fun σ2 M3 => exB S.T cf mf n cb σ2 M3) w w.xs σ' (w.lock M1)).mapM w.ulk) := q1
  generalize hf : (fun (x : Mn.D) (σ1 : Sl) (M2 : Mem) => (asgT S.T cf mf t x σ1 M2).nox.out σ1 fun σ2 M3 => exB S.T cf mf n cb σ2 M3) = f at q1
  have q2 : PostO S (WC X W) ι1 F1 G2 (cvE X D) (forL f w w.xs σ' (w.lock M1)) := by
   revert q1
   generalize forL f w w.xs σ' (w.lock M1) = r
   intro q1
   cases r with
   | nx σ2 M2 => exact fun ι' F' H' σ p s R rs2 => let ⟨H3, cv, R3, same⟩ := lk.back ι' F' M2 H' p s R; ⟨H3, cv, q1 ι' F' H3 σ p s R3 rs2⟩
   | bk σ2 M2 => exact fun ι' F' H' σ p s R rs2 => let ⟨H3, cv, R3, same⟩ := lk.back ι' F' M2 H' p s R; ⟨H3, cv, q1 ι' F' H3 σ p s R3 rs2⟩
   | ct σ2 M2 => exact fun ι' F' H' σ p s R rs2 => let ⟨H3, cv, R3, same⟩ := lk.back ι' F' M2 H' p s R; ⟨H3, cv, q1 ι' F' H3 σ p s R3 rs2⟩
   | rt d M2 => exact fun ι' F' H' p s R v dv => let ⟨H3, cv, R3, same⟩ := lk.back ι' F' M2 H' p s R; ⟨H3, cv, q1 ι' F' H3 p s R3 v dv⟩
   | exc c fs σ2 M2 => exact fun ι' F' H' σ e gs p s R rs2 hx df => let ⟨H3, cv, R3, same⟩ := lk.back ι' F' M2 H' p s R; ⟨H3, cv, fun b hb => same b (.inr hb), q1 ι' F' H3 σ e gs p s R3 rs2 ((same e (.inr (by rw [hx]; trivial))).trans hx) df⟩
   | bad => exact q1
  refine ⟨fun i m σ H => m + i = w.xs.length ∧ ∃ ι' F' σ' M', Pre ι1 ι' ∧ Sub F1 F' ∧ Rel S ι' F' G2 M' H ∧ RS S ι' F' σ' σ ∧ PostO S (WC X W) ι' F' G2 (cvE X D) (forL f w (w.xs.drop i) σ' M'), ⟨w.xs.length, by simp, ι1, F1, σ', w.lock M1, .refl _, .refl _, lk.rel, rs.mono p1 s1, q2⟩, ?_⟩
  rintro i m σ2s H0 ⟨him, ι2, F2, σ2, M2, p2, s2, R2, rs2, q3⟩
  by_cases hi : i < w.xs.length
  ·rw [List.drop_eq_getElem_cons hi] at q3
   replace q3 : PostO S (WC X W) ι2 F2 G2 (cvE X D) (if w.ok M2 then match f w.xs[i] σ2 M2 with
    | .nx σ2 M2 => forL f w (w.xs.drop (i + 1)) σ2 M2
    | .ct σ2 M2 => forL f w (w.xs.drop (i + 1)) σ2 M2
    | .bk σ2 M2 => .nx σ2 M2
    | .rt d M2 => .rt d M2
    | .exc c fs σ2 M2 => .exc c fs σ2 M2
    | .bad => .bad
    else .bad) := q3
   split at q3
   case isFalse => exact False.elim q3
   rename_i hok
   refine .inr ⟨lk.wlk.go i ι2 F2 _ M2 H0 (fun _ _ z => z) p2 s2 R2 hok hi, fun σs H' => ∃ ι' F' σ' M', Pre ι1 ι' ∧ Sub F1 F' ∧ Rel S ι' F' G2 M' H' ∧ RS S ι' F' σ' σs ∧ PostO S (WC X W) ι' F' G2 (cvE X D) (forL f w (w.xs.drop (i + 1)) σ' M'), fun σs H' h' => ⟨m - 1, by omega, by omega, h'⟩, fun x H' hy => ?_⟩
   obtain ⟨F3, s3, R3, dx⟩ := lk.wlk.yld i ι2 F2 _ M2 H0 x H' _ (fun _ _ z => z) p2 s2 R2 hok (List.getElem?_eq_getElem hi) hy
   refine ⟨ι2, F3, G2, σ2, M2, w.xs[i], R3, rs2.mono (.refl _) s3, dx, ?_⟩
   rw [← hf] at q3
   dsimp only at q3
   rw [hf] at q3
   replace q3 := PostO.weak q3 (.refl ι2) s3
   revert q3
   generalize asgT S.T cf mf t w.xs[i] σ2 M2 = r
   intro q3
   cases r with
   | bad => exact q3
   | exc _ _ _ => exact False.elim q3
   | ok a M4 =>
    refine fun ι4 F4 H4 p4 s4 R4 σ4 rs4 sm => ⟨ι4, F4, G2, a, M4, R4, rs4, ?_⟩
    replace q3 := PostO.weak q3 p4 s4
    dsimp only [Res.nox, Res.out] at q3
    revert q3
    generalize exB S.T cf mf n cb a M4 = r2
    intro q3
    cases r2 with
    | nx σ5 M5 => exact fun ι' F' H' σ5s p5 s5 R5 rs5 => ⟨ι', F', σ5, M5, (p2.trans p4).trans p5, ((s2.trans s3).trans s4).trans s5, R5, rs5, PostO.weak (show PostO S (WC X W) ι4 F4 G2 (cvE X D) (forL f w (w.xs.drop (i + 1)) σ5 M5) from q3) p5 s5⟩
    | ct σ5 M5 => exact fun ι' F' H' σ5s p5 s5 R5 rs5 => ⟨ι', F', σ5, M5, (p2.trans p4).trans p5, ((s2.trans s3).trans s4).trans s5, R5, rs5, PostO.weak (show PostO S (WC X W) ι4 F4 G2 (cvE X D) (forL f w (w.xs.drop (i + 1)) σ5 M5) from q3) p5 s5⟩
    | bk _ _ => exact q3
    | rt _ _ => exact q3
    | exc _ _ _ _ => exact q3
    | bad => exact q3
  ·have hi' : i = w.xs.length := by omega
   subst hi'
   rw [List.drop_length] at q3
   replace q3 : PostO S (WC X W) ι2 F2 G2 (cvE X D) (if w.ok M2 then .nx σ2 M2 else .bad) := q3
   split at q3
   case isFalse => exact False.elim q3
   rename_i hok
   exact .inl ⟨lk.wlk.stop ι2 F2 _ M2 H0 (fun _ _ z => z) p2 s2 R2 hok, q3 ι2 F2 H0 σ2s (.refl _) (.refl _) R2 rs2⟩
 ·refine ⟨fun i m σ0 H => σ0 = σ ∧ H = H2 ∧ i = 0, ⟨0, rfl, rfl, rfl⟩, ?_⟩
  rintro i m σ0 H ⟨rfl, rfl, rfl⟩
  refine .inl ⟨em.stop, H1, em.cv, ?_⟩
  have e1 : w.lock M1 = M1 := by unfold Walk.lock; rw [hlk]
  have e2 : ∀ M, w.ulk M = M := fun M => by unfold Walk.ulk; rw [hlk]
  rw [hw, e1] at q1
  replace q1 : PostO S W ι1 F1 G D ((if w.ok M1 then Out.nx σ' M1 else .bad).mapM w.ulk) := q1
  split at q1
  case isFalse => exact False.elim q1
  replace q1 : PostO S W ι1 F1 G D (.nx σ' (w.ulk M1)) := q1
  rw [e2] at q1
  exact q1 ι1 F1 H1 σ0 (.refl _) (.refl _) R1 (rs.mono p1 s1)
end
end Mn
end
section
namespace Mn
open PySem PySem.Spec PyProof.Rows L2
theorem new_read {S : Sit} {W : L2.WX} {cf mf : Calls} {σ : L2.St} {H : Hp} {Q : VK} {n : Nw} {own : Bool} (q : LE S W (ev S.T cf mf (.new own n)) σ H Q) : LN S W (evN S.T cf mf n) σ H Q := by
 obtain ⟨ι, F, G, σ', M, R, rs, p⟩ := q
 refine ⟨ι, F, G, σ', M, R, rs, p.bind.imp fun d ι1 F1 M1 H1 p1 s1 R1 q1 q o hq ho hl => ?_⟩
 cases own with
 | true =>
  have R2 := R1.newO hq ho
  refine q1 (ι1 ++ [q]) F1 _ (pre_app ι1 q) (.refl F1) R2 (.ref q) (.ref ?_)
  rw [← R1.len, List.getElem?_append_right (Nat.le_refl _)]
  simp
 | false =>
  obtain ⟨R2, s2⟩ := R1.newF (o := o) hq
  exact q1 ι1 _ _ (.refl ι1) s2 R2 (.ref q) ((ho.mono (fun _ _ z => z) s2).den hl upd_same)
section
variable {S : Sit} {W : L2.WX} {cf mf : Calls} {n : Nat} {X : Cx} {sc : Scope} {N : List Str} {st : Stmt} {rest : List Stmt} {a b c e tg iter : Expr} {ca cb cc ce : Ex} {pos p : Pos} {k : Sm} {ks : Ss}
theorem asg_read {D : Ends} {σ : L2.St} {H : Hp} {i : Nat} (q : LS S W (exS S.T cf mf n (.asg (.nm i) ce)) D σ H) : LE S W (ev S.T cf mf ce) σ H (fun v H1 => D.nx (σ.set i (some v)) H1) := by
 obtain ⟨ι, F, G, σ', M, R, rs, p⟩ := q
 exact ⟨ι, F, G, σ', M, R, rs, (PostO.out p rs).imp fun d ι1 F1 M1 H1 p1 s1 R1 q1 x dx => (show PostO S W ι1 F1 G D (.nx (σ'.set i (some d)) M1) from q1) ι1 F1 H1 _ (.refl _) (.refl _) R1 ((rs.mono p1 s1).set dx)⟩
theorem ss_setLc (C : Cxt S sc N X) {i : Nat} {y : Str} {py spos : Pos} {elt : Expr} {ifs : List Expr} {scope : Scope} {own : List (Str × Nat)} {t : Tg} {it : It} {ct : Te} {o : Bool} (hy : N[i]? = some y) (hyl : X.env.scope.names.lookup y = some .local)
  (hsw : swapsWith (.ListComp elt [⟨tg, iter, ifs, 0⟩] scope pos) (some (.Name y py)) spos.line X.env = pure true) (hi : SI S W cf mf X tg iter it) (ok : BlkOk X.N X.env.scope scope own) (hv : ∀ i ∈ tgV t, i ∈ own.map (·.2))
  (hg : ∀ (s : Shared) (H : Hp) (K : Addr) (cl : List (Str × Addr)) (fp : List Addr), PG (X.blk s H scope (compEnvC scope cl K X.env) fp) tg (LG S (tgV t) (asgT S.T cf mf t)))
  (ht : ∀ (s : Shared) (H : Hp) (K : Addr) (cl : List (Str × Addr)) (fp : List Addr), PTs (X.blk s H scope (compEnvC scope cl K X.env) fp) ifs (LT S WF0 (evT S.T cf mf ct)))
  (he : ∀ (s : Shared) (H : Hp) (K : Addr) (cl : List (Str × Addr)) (fp : List Addr), PE (X.blk s H scope (compEnvC scope cl K X.env) fp) elt (LE S WF0 (ev S.T cf mf ce))) (hs : ∀ x, foldedSetIterable iter X.env x = pure x) :
  PS X (.Assign [.Name y py] (.ListComp elt [⟨tg, iter, ifs, 0⟩] scope pos) spos) (LS S W (exS S.T cf mf n (.asg (.nm i) (.new o (.lcp (own.map (·.2)) t it ct ce))))) :=
 ⟨fun pins s σ H D I q => (ps_cvE (ps_setLc C.calm (by rw [C.hN]; exact C.nd) (by rw [C.hN]; exact hy) hyl hsw hi ok hg ht he hs)).run pins s σ H D I (lc_read (X := X) hv (new_read (asg_read q)))⟩
def rSetM (S : Sit) : TSet := fun o i v H Q => ∃ ι F G M d di dv M', Rel S ι F G M H ∧ Den S ι F d o ∧ Den S ι F di i ∧ Den S ι F dv v ∧ store M d (setI di dv) = some M' ∧ ∀ H', Rel S ι F G M' H' → Q H'
theorem set_any (C : Cxt S sc N X) : PSet X (rSetM S) := by
 intro pins s σ H o i v ov iv u Q I ro ri rv h
 obtain ⟨ι, F, G, M, d, di, dv, M', R, ho, hi, hv, hst, q⟩ := h
 obtain ⟨j, od, od', rfl, e1, e2, rfl⟩ := store_eq hst
 cases ho with
 | @ref _ l hι =>
  unfold setI at e2
  split at e2
  ·-- a list
   rename_i xs
   split at e2
   case h_2 => cases e2
   rename_i k
   obtain ⟨m, hm, rfl⟩ := Option.map_eq_some_iff.mp e2
   obtain ⟨u', e, hd⟩ := R.own j _ l e1 hι
   cases hd with
   | @lst ws ds hdl =>
    cases hi with
    | int _ =>
     have hlen : ws.length = xs.length := hdl.1
     refine set_list pins s σ H _ _ v ov iv u Q I ro ri rv ⟨l, ws, k, m, rfl, rfl, e, by rw [hlen]; exact hm, q _ (R.write hι e id (.lst ⟨by rw [List.length_set, List.length_set]; exact hdl.1, fun i d x h1 h2 => ?_⟩))⟩
     rw [List.getElem?_set] at h1 h2
     rw [hlen] at h2
     split at h1
     ·rename_i hmi
      rw [if_pos hmi] at h2
      split at h1
      ·rename_i hl
       rw [if_pos hl] at h2
       cases h1; cases h2
       exact hv
      ·cases h1
     ·rename_i hmi
      rw [if_neg hmi] at h2
      exact hdl.2 i d x h1 h2
  ·-- a dict
   rename_i ps
   split at e2
   case isFalse => cases e2
   rename_i hk
   split at e2
   case isFalse => cases e2
   rename_i hb
   cases e2
   obtain ⟨H1, H2, I1, gp, R2⟩ := dict_put R hι e1 hi hk hb hv I
   cases ro
   exact d_setItem (Nat.lt_of_le_of_lt (Nat.add_le_add_left (by decide) _) C.hu) I1 gp ri rv fun s' I' => ⟨H2, I', q _ R2⟩
  ·cases e2
theorem sg_sub (C : Cxt S sc N X) {o i : Expr} {co ci : Ex} (ho : SE S (fun _ _ _ _ => False) cf mf X o co) (hi : SE S (fun _ _ _ _ => False) cf mf X i ci)
  (ha : ∀ v, assign (.Subscript o i pos) X.env v = (do
   let ov ← holding [v] (eval o X.env)
   let iv ← holding [v, ov] (eval i X.env)
   standAt pos
   holding [v, ov, iv] (setItem ov iv v)
   release [v, ov, iv] [])) : PG X (.Subscript o i pos) (LG S (tgV (.sb co ci)) (asgT S.T cf mf (.sb co ci))) := by
 refine ⟨fun pins s σ H v u Q I r q => (pg_sub ho hi (set_any C) ha).run pins s σ H v u Q I r ?_⟩
 obtain ⟨ι, F, G, σ', M, d, R, rs, dx, p⟩ := q
 refine ⟨ι, F, G, σ', M, R, rs, (show PostG S WX0 ι F G (kG S [] σ Q) ((ev S.T cf mf co σ' M).bind fun x M1 => (ev S.T cf mf ci σ' M1).bind fun y M2 => match store M2 x (setI y d) with
  | some M3 => .ok σ' M3
  | none => .bad) from p).bind.imp fun x' ι1 F1 M1 H1 p1 s1 R1 q1 x hx => ⟨ι1, F1, G, σ', M1, R1, rs.mono p1 s1, q1.bind.imp fun y' ι2 F2 M2 H2 p2 s2 R2 q2 y hy => ?_⟩⟩
 split at q2
 case h_2 => exact False.elim q2
 rename_i M3 hst
 exact ⟨ι2, F2, G, M2, x', y', d, M3, R2, hx.mono p2 s2, hy, dx.mono (p1.trans p2) (s1.trans s2), hst, fun H' R' => q2 ι2 F2 H' (.refl _) (.refl _) R' σ (rs.mono (p1.trans p2) (s1.trans s2)) (Same.refl _ _)⟩
structure ClsOk (S : Sit) : Prop where
 nd : S.names.Nodup
 at_ : ∀ c k, S.T.cl c = some k → ∀ f ∈ k.ats, f < S.names.length ∧ NoAttr S.K (S.ca c) (S.an f)
theorem putF_den {ι : List Addr} {F : Hp} (hn : S.names.Nodup) {f : Nat} (hf : f < S.names.length) {d : D} {v : V} (dv : Den S ι F d v) : ∀ {fs : List (Nat × D)} {gs : List (Str × V)}, (∀ p ∈ fs, p.1 < S.names.length) → DenF S ι F fs gs → DenF S ι F (putA f d fs) (putF (S.an f) v gs)
 | [], gs, _, h => by
  have : gs = [] := by have := h.1; simpa using this
  subst this
  refine ⟨rfl, fun i p q a b => ?_, fun i p q a b => ?_⟩
  ·cases i with
   | zero => cases a; cases b; rfl
   | succ i => simp [putA] at a
  ·cases i with
   | zero => cases a; cases b; exact dv
   | succ i => simp [putA] at a
 | p :: fs, gs, hl, h => by
  obtain ⟨h1, h2, h3⟩ := h
  cases gs with
  | nil => simp at h1
  | cons q gs =>
   obtain ⟨q1, q2⟩ := q
   obtain ⟨p1, p2⟩ := p
   have e1 : q1 = S.an p1 := h2 0 (p1, p2) (q1, q2) rfl rfl
   have e2 : Den S ι F p2 q2 := h3 0 (p1, p2) (q1, q2) rfl rfl
   have tl : DenF S ι F fs gs := ⟨by simpa using h1, fun i p q a b => h2 (i + 1) p q (by simpa using a) (by simpa using b), fun i p q a b => h3 (i + 1) p q (by simpa using a) (by simpa using b)⟩
   have cons : ∀ {p : Nat × D} {q : Str × V} {fs : List (Nat × D)} {gs : List (Str × V)}, q.1 = S.an p.1 → Den S ι F p.2 q.2 → DenF S ι F fs gs → DenF S ι F (p :: fs) (q :: gs) := fun {p q fs gs} a b t => by
    refine ⟨by simp [t.1], fun i x y c d => ?_, fun i x y c d => ?_⟩
    ·cases i with
     | zero => cases c; cases d; exact a
     | succ i => exact t.2.1 i x y (by simpa using c) (by simpa using d)
    ·cases i with
     | zero => cases c; cases d; exact b
     | succ i => exact t.2.2 i x y (by simpa using c) (by simpa using d)
   have hp1 : p1 < S.names.length := hl (p1, p2) List.mem_cons_self
   unfold putA putF
   by_cases z : p1 = f
   ·rw [if_pos z, if_pos (by rw [e1, z])]
    exact cons e1 dv tl
   ·rw [if_neg z, if_neg (fun y => z (an_inj hn hp1 hf (e1.symm.trans y)))]
    exact cons e1 e2 (putF_den hn hf dv (fun r hr => hl r (List.mem_cons_of_mem _ hr)) tl)
theorem putA_mem {f : Nat} {d : D} : ∀ {fs : List (Nat × D)} {p : Nat × D}, p ∈ putA f d fs → p.1 = f ∨ p ∈ fs
 | [], p, h => by
  have : p = (f, d) := by simpa [putA] using h
  exact .inl (by rw [this])
 | q :: fs, p, h => by
  unfold putA at h
  split at h
  ·rename_i hq
   rcases List.mem_cons.mp h with h | h
   ·exact .inl (by rw [h]; exact hq)
   ·exact .inr (List.mem_cons_of_mem _ h)
  ·rcases List.mem_cons.mp h with h | h
   ·exact .inr (by rw [h]; exact List.mem_cons_self)
   ·rcases putA_mem h with h | h
    ·exact .inl h
    ·exact .inr (List.mem_cons_of_mem _ h)
theorem ss_fld (C : Cxt S sc N X) (K : ClsOk S) {o e : Expr} {x : Str} {f : Nat} {co : Ex} {pos' : Pos} (hx : S.an f = x) (ho : SE S W cf mf X o co) (he : SE S W cf mf X e ce) (hs : swapsWith e (some (.Attribute o x pos')) pos.line X.env = pure false) :
  PS X (.Assign [.Attribute o x pos'] e pos) (LS S W (exS S.T cf mf n (.asg (.at co f) ce))) := by
 refine ⟨fun pins s σ H D I q => (ps_fld ho he hs).run pins s σ H D I ?_⟩
 obtain ⟨ι, F, G, σ', M, R, rs, p⟩ := q
 refine ⟨ι, F, G, σ', M, R, rs, (PostO.out p rs).imp fun d ι1 F1 M1 H1 p1 s1 R1 q1 v dv => ⟨ι1, F1, G, σ', M1, R1, rs.mono p1 s1, ?_⟩⟩
 have q2 := PostG.unnox (Wx' := fun c e H => W c e σ H) (PostO.out q1 (rs.mono p1 s1))
 refine (show PostG S (fun c e H => W c e σ H) ι1 F1 G _ ((ev S.T cf mf co σ' M1).bind fun x M1 => match store M1 x (setA S.T f d) with
  | some M2 => .ok σ' M2
  | none => .bad) from q2).bind.imp fun x' ι2 F2 M2 H2 p2 s2 R2 q2 y dy => ?_
 split at q2
 case h_2 => exact False.elim q2
 rename_i M3 hst
 obtain ⟨j, od, od', rfl, e1, e2, rfl⟩ := store_eq hst
 cases dy with
 | @ref _ l hι =>
  unfold setA at e2
  split at e2
  case h_2 => cases e2
  rename_i c fs
  split at e2
  case isFalse => cases e2
  rename_i hc
  cases e2
  obtain ⟨u', e, hd⟩ := R2.own j _ l e1 hι
  cases hd with
  | @ins dx _ gs _ h0 h1 h2 h3 =>
   obtain ⟨hl, hat⟩ := hc
   obtain ⟨k, hk, hf⟩ := (Option.any_eq_true _ _).mp hat
   have hf' : f ∈ k.ats := by simpa using hf
   obtain ⟨hfl, hna⟩ := K.at_ c k hk f hf'
   rw [← hx]
   refine ⟨l, S.ca c, dx, gs, rfl, e, by rw [C.hK]; exact h0.cls, by rw [C.hK]; exact hna, by omega, ?_⟩
   have hdf := putF_den K.nd hfl (dv.mono p2 s2) h0.lt ⟨h1, h2, h3⟩
   have R3 := R2.write hι e id (DenO.ins (dx := dx) ⟨h0.cl, h0.cls, fun p hp => by
    rcases putA_mem hp with z | z
    ·rw [z]; exact hna
    ·exact h0.no p z, fun p hp => by
    rcases putA_mem hp with z | z
    ·rw [z]; exact hfl
    ·exact h0.lt p z⟩ hdf.1 hdf.2.1 hdf.2.2)
   exact (show PostO S W ι2 F2 G D (.nx σ' (M2.set j (.ins c (putA f d fs)))) from q2 ι2 F2 _ (.refl _) (.refl _) R3) ι2 F2 _ σ (.refl _) (.refl _) R3 (rs.mono (p1.trans p2) (s1.trans s2))
end
end Mn
end
section
namespace Mn
open PySem PySem.Spec PyProof.Rows L2
section
variable {S : Sit} {W : L2.WX} {cf mf : Calls} {n : Nat} {X : Cx} {sc : Scope} {N : List Str} {st : Stmt} {rest : List Stmt} {a b c e tg iter : Expr} {ca cb cc ce : Ex} {pos p : Pos} {k : Sm} {ks : Ss}
theorem ss_par (C : Cxt S sc N X) {i j : Nat} {x y : Str} {cs : Es} {px py pt : Pos} {kt k2 pt2} (hi : N[i]? = some x) (hj : N[j]? = some y) (hij : i ≠ j)
  (hx : X.env.scope.names.lookup x = some .local) (hy : X.env.scope.names.lookup y = some .local) (ha : SA S W cf mf X [a, b] cs)
  (hw : swappedStores [.Tuple [.Name x px, .Name y py] kt pt] (.Tuple [a, b] k2 pt2) X.env = pure (some [x, y]))
  (hs : swapsWithSole [.Tuple [.Name x px, .Name y py] kt pt] (.Tuple [a, b] k2 pt2) pos.line X.env = pure false) :
  PS X (.Assign [.Tuple [.Name x px, .Name y py] kt pt] (.Tuple [a, b] k2 pt2) pos) (LS S W (exS S.T cf mf n (.asg (.tp (.cons (.nm i) (.cons (.nm j) .nil))) (.tup cs)))) := by
 refine ⟨fun pins s σ H D I q => (ps_par C.calm (by rw [C.hN]; exact C.nd) (by rw [C.hN]; exact hi) (by rw [C.hN]; exact hj) hij hx hy ha hw hs).run pins s σ H D I ?_⟩
 obtain ⟨ι, F, G, σ', M, R, rs, p⟩ := q
 refine ⟨ι, F, G, σ', M, R, rs, (show PostG S _ ι F G _ ((evs S.T cf mf cs σ' M).bind fun ds M1 => .ok (Mn.D.tup ds) M1) from PostO.out (r := ev S.T cf mf (.tup cs) σ' M) p rs).bind.imp fun ds ι1 F1 M1 H1 p1 s1 R1 q1 vs dv => ?_⟩
 have q2 := q1 ι1 F1 H1 (.refl _) (.refl _) R1
 match ds, dv with
 | [], dv => exact False.elim q2
 | [_], dv => exact False.elim q2
 | _ :: _ :: _ :: _, dv => exact False.elim q2
 | [d1, d2], dv =>
  obtain ⟨v1, r1, rfl, h1, hr1⟩ := dv.inv
  obtain ⟨v2, r2, rfl, h2, hr2⟩ := hr1.inv
  obtain rfl := hr2.inv0
  exact ⟨v1, v2, rfl, (show PostO S W ι1 F1 G D (.nx ((σ'.set i (some d1)).set j (some d2)) M1) from q2) ι1 F1 H1 _ (.refl _) (.refl _) R1 (((rs.mono p1 s1).set h1).set h2)⟩
end
end Mn
end
section
namespace Mn
open PySem PySem.Spec PyProof.Rows L2
inductive DenP (S : Sit) (ι : List Addr) (F : Hp) : List (D × D) → List (V × V) → Prop
 | nil : DenP S ι F [] []
 | cons {k v : D} {x y : V} {r : List (D × D)} {q : List (V × V)} : Den S ι F k x → Den S ι F v y → DenP S ι F r q → DenP S ι F ((k, v) :: r) ((x, y) :: q)
def LP (S : Sit) (W : L2.WX) (f : Sl → Mem → Res (List (D × D))) : L2.St → Hp → (List (V × V) → Hp → Prop) → Prop := fun σ H Q => ∃ ι F G σ' M, Rel S ι F G M H ∧ RS S ι F σ' σ ∧ PostG S (fun c e H => W c e σ H) ι F G (fun ds ι F _ H => ∀ ps, DenP S ι F ds ps → Q ps H) (f σ' M)
def SP' (S : Sit) (W : L2.WX) (cf mf : Calls) (X : Cx) (pos : Pos) (keys : List (Option Expr)) (values : List Expr) (c : Ds) : Prop := ∀ (pins : List (Addr × Obj)) (s : Shared) (σ : L2.St) (H : Hp) (Q : List (V × V) → Hp → Prop), Inv X pins σ H s → LP S W (evd S.T cf mf c) σ H Q →
 wpAny (model X.prog X.w) X.A (evalPairs (pairTrees keys values X.env pos)) (fun vs s' => ∃ ps H', Inv X pins σ H' s' ∧ VV ps vs ∧ Q ps H') X.xe s
theorem DenP.mono {S : Sit} {ι ι' : List Addr} {F F' : Hp} {ds : List (D × D)} {ps : List (V × V)} (h : DenP S ι F ds ps) (p : Pre ι ι') (e : Sub F F') : DenP S ι' F' ds ps := by
 induction h with
 | nil => exact .nil
 | cons a b _ ih => exact .cons (a.mono p e) (b.mono p e) ih
theorem DenP.len {S : Sit} {ι : List Addr} {F : Hp} {ds : List (D × D)} {ps : List (V × V)} (h : DenP S ι F ds ps) : ds.length = ps.length := by
 induction h with
 | nil => rfl
 | cons _ _ _ ih => rw [List.length_cons, List.length_cons, ih]
section
variable {S : Sit} {W : L2.WX} {cf mf : Calls} {n : Nat} {X : Cx} {sc : Scope} {N : List Str} {st : Stmt} {rest : List Stmt} {a b c e tg iter : Expr} {ca cb cc ce : Ex} {pos p : Pos}
theorem sp_nil : SP' S W cf mf X pos [] [] .nil := fun pins s σ H Q I ⟨ι, F, G, σ', M, R, rs, p⟩ => pairTrees_nil_walk ⟨[], H, I, .nil, p ι F H (.refl _) (.refl _) R [] .nil⟩
theorem sp_cons {k v : Expr} {ks : List (Option Expr)} {vs : List Expr} {ck cv : Ex} {cs : Ds} (hk : SE S W cf mf X k ck) (hv : SE S W cf mf X v cv) (hr : SP' S W cf mf X pos ks vs cs) : SP' S W cf mf X pos (some k :: ks) (v :: vs) (.cons ck cv cs) := by
 intro pins s σ H Q I q
 obtain ⟨ι, F, G, σ', M, R, rs, p⟩ := q
 replace p : PostG S (fun c e H => W c e σ H) ι F G (fun ds ι F _ H => ∀ ps, DenP S ι F ds ps → Q ps H) ((ev S.T cf mf ck σ' M).bind fun x M1 => (ev S.T cf mf cv σ' M1).bind fun y M2 => (evd S.T cf mf cs σ' M2).bind fun ps M3 => .ok ((x, y) :: ps) M3) := p
 refine pairTrees_cons_walk (thn (hk.run pins s σ H (fun x H1 => LE S W (ev S.T cf mf cv) σ H1 fun y H2 => LP S W (evd S.T cf mf cs) σ H2 fun ps H3 => Q ((x, y) :: ps) H3) I ⟨ι, F, G, σ', M, R, rs, p.bind.imp fun x' ι1 F1 M1 H1 p1 s1 R1 q1 x dx => ⟨ι1, F1, G, σ', M1, R1, rs.mono p1 s1, q1.bind.imp fun y' ι2 F2 M2 H2 p2 s2 R2 q2 y dy => ⟨ι2, F2, G, σ', M2, R2, rs.mono (p1.trans p2) (s1.trans s2), q2.bind.imp fun ds ι3 F3 M3 H3 p3 s3 R3 q3 ps dp => q3 ι3 F3 H3 (.refl _) (.refl _) R3 _ (.cons (dx.mono (p2.trans p3) (s2.trans s3)) (dy.mono p3 s3) dp)⟩⟩⟩) fun u s1 ⟨x, H1, I1, rx, q1⟩ => ?_)
 exact thn (hv.run pins s1 σ H1 _ I1 q1) fun w2 s2 ⟨y, H2, I2, ry, q2⟩ => thn (hr pins s2 σ H2 _ I2 q2) fun ws s3 ⟨ps, H3, I3, rel, q3⟩ => ⟨(x, y) :: ps, H3, I3, .cons ⟨rx, ry⟩ rel, q3⟩
theorem puts {ι : List Addr} {F G : Hp} {M : Mem} {d0 : Addr} {E : Value → Shared → Prop} {pins : List (Addr × Obj)} {σ : L2.St} {Q : PUnit → Shared → Prop} (hu : X.A.units + 80 < cLine) {res : List (D × D)}
  (fin : ∀ H' o' s', Inv X pins σ H' s' → Rel S ι F (upd G d0 o') M H' → isOwn o' → DenO S ι F (.dct res) o' → Q PUnit.unit s') : ∀ (ds : List (D × D)) (ps : List (V × V)) (vs : List (Value × Value)) (acc : List (D × D)) (o : HO) (H : Hp) (s : Shared), DenP S ι F ds ps → VV ps vs → Inv X pins σ H s → Rel S ι F (upd G d0 o) M H → isOwn o → DenO S ι F (.dct acc) o → acc.length + ds.length ≤ 16 → putAll ds acc = some res →
   wpAny (model X.prog X.w) X.A (forIn vs PUnit.unit fun (x : Value × Value) (_ : PUnit) => (do dictSet d0 x.1 x.2; pure (ForInStep.yield PUnit.unit) : Sem (ForInStep PUnit))) Q E s
 | [], ps, vs, acc, o, H, s, dp, rv, I, R, own, ho, hl, e => by
  cases dp
  cases rv
  cases e
  rw [List.forIn_nil]
  exact wpAny_pure (fin H o s I R own ho)
 | (k, v) :: ds, ps, vs, acc, o, H, s, dp, rv, I, R, own, ho, hl, e => by
  cases dp with
  | cons dk dv dr =>
   cases rv with
   | @cons a b as bs h t =>
    unfold putAll at e
    split at e
    case isFalse => cases e
    rename_i hk
    rw [List.length_cons] at hl
    have h63 := line63
    obtain ⟨H6, H7, o', cva, gp, rfl, dl', own'⟩ := comp_put (own_ι own R).2.2 ho R dk hk (by rw [sizeLine_eq]; omega) dv
    rw [List.forIn_cons]
    refine wpAny_bind (wpAny_bind (put_any hu (cva _ _ _ _ I) gp h.1 h.2 fun s' I' => wpAny_pure ?_))
    exact puts hu fin ds _ _ (dput acc k v) o' _ s' dr t I' (R.gput own) own' dl' (by have := dput_len acc k v; omega) e
theorem sn_dct {keys : List (Option Expr)} {values : List Expr} {cs : Ds} (C : Cxt S sc N X) (h : SP' S W cf mf X pos keys values cs) (hall : keys.all (·.isSome) = true) (hl : keys.length = values.length) (h0 : keys ≠ []) (h15 : keys.length ≤ 15) :
  SN S W cf mf X (.Dict keys values pos) (.dct cs) := by
 refine ⟨fun pins s σ H Q I q => ?_⟩
 obtain ⟨ι, F, G, σ', M, R, rs, p⟩ := q
 have hn := I.hok.fresh (Nat.le_refl s.heap.objs.size)
 have I1 := I.laid (a := s.heap.objs.size) (o := .dK []) (h' := s.heap.push { cls := .type "dict", data := .dict #[] }) (t' := s.toks) (fun _ _ q => Heap.get?_push_of_some _ q) (Nat.le_refl _) (dk_empty s.heap I.big)
 have hlen := pairTrees_length keys values X.env pos hall hl
 rw [arm_eval_Dict, zip_pairTrees keys values X.env pos hall hl, dictDisplay_pairs _ (fun z => h0 (List.length_eq_zero_iff.mp (by rw [← hlen, z]; rfl))) oM]
 refine wpAny_bind (wpAny_standAt (wpAny_bind ?_))
 unfold subDict
 refine wpAny_bind (wpAny_alloc ?_)
 refine wpAny_bind (wpAny_holding ?_)
 rw [if_pos oM]
 generalize s.heap.objs.size = d0 at hn I1
 have hG : G d0 = none := R.fresh_G hn
 have R1 := R.gadd (o := .dK []) hn
 refine wpAny_bind (thn (wpAny_evalPairs_len (h pins _ σ _ (fun ps H2 => ∃ ι2 F2 M2 ds res, Rel S ι2 F2 (upd G d0 (.dK [])) M2 H2 ∧ DenP S ι2 F2 ds ps ∧ putAll ds [] = some res ∧ ∀ ι' F' H', Pre ι2 ι' → Sub F2 F' → Rel S ι' F' G M2 H' → kN S Q (.dct res) ι' F' M2 H') I1 ⟨ι, F, _, σ', M, R1, rs, ?_⟩)) fun vs s2 ⟨hvl, ps, H2, I2, rel, ι2, F2, M2, ds, res, R2, dp, hres, q2⟩ => ?_)
 ·refine (PostG.gadd (D0 := d0) (o := .dK []) hG (show PostG S _ ι F G (kN S Q) ((evd S.T cf mf cs σ' M).bind fun ps M1 => .of ((putAll ps []).map .dct) M1) from p).bind).imp fun ds ι1 F1 M1 H1 p1 s1 R2 q1 ps dp => ?_
  obtain ⟨d, e, pf⟩ := PostG.of q1
  obtain ⟨res, hres, rfl⟩ := Option.map_eq_some_iff.mp e
  exact ⟨ι1, F1, M1, ds, res, R2, dp, hres, pf⟩
 ·refine wpAny_holding ?_
  have hds : ds.length = vs.length := dp.len.trans (Paired.length rel)
  refine wpAny_bind (puts C.hu (fun H' o' s' I' R' own' ho' => ?_) ds ps vs [] (.dK []) H2 s2 dp rel I2 R2 trivial (Rows.dK Rows.nil) (by rw [List.length_nil]; omega) hres)
  refine wpAny_pure (wpAny_pure ?_)
  obtain ⟨hι, hF, hHD⟩ := own_ι own' R'
  have R3 := (R'.gless hG).hide hι hF hG
  have := q2 ι2 F2 (Mn.hide H' d0) (.refl _) (.refl _) R3 d0 o' hide_same ho' (fun _ z => nomatch z)
  rw [hide_upd hHD] at this
  exact wpAny_pure ⟨.ref d0, H', I', rfl, this⟩
theorem sn_dct0 : SN S W cf mf X (.Dict [] [] pos) (.dct .nil) := pe_dnewK.to fun σ H Q q => by
 obtain ⟨ι, F, G, σ', M, R, rs, p⟩ := q
 exact fun l hl => p ι F H (.refl _) (.refl _) R l _ hl (Rows.dK Rows.nil) (fun _ z => nomatch z)
end
end Mn
end
section
namespace Mn
open PySem PySem.Spec PyProof.Rows L2
section
variable {S : Sit} {W : L2.WX} {cf mf : Calls} {X : Cx} {sc : Scope} {N : List Str} {pos p : Pos} {pins : List (Addr × Obj)} {σ : L2.St} {H : Hp} {s : Shared} {ι : List Addr} {F G : Hp} {M : Mem}
theorem Rel.up {H2 : Hp} (R : Rel S ι F G M H) (h : ∀ b o, H b = some o → H2 b = some o) : Rel S ι F G M H2 :=
 ⟨R.len, R.nd, fun i d a h1 h2 => let ⟨u, e1, e2⟩ := R.own i d a h1 h2; ⟨u, h _ _ e1, e2⟩, R.out, fun a u e => Rn.mono (R.frz a u e) fun x z => h _ _ z, fun a u e => ⟨h _ _ (R.frm a u e).1, (R.frm a u e).2⟩⟩
def RI (S : Sit) : List V → Hp → VK → Prop := fun vs H Q => ∃ (p a : Addr) (ι : List Addr) (F G : Hp) (M : Mem) (ps : List (D × D)) (es : List D), vs = [.ref p] ∧ H p = some (L2.DX.itemsO p a) ∧ Rel S ι F G M H ∧ DV S ι F H (.dct ps) (.ref a) ∧ sortD (ps.map fun p => pair p.1 p.2) = some es ∧
 ∀ ι' F' H', Pre ι ι' → Sub F F' → Rel S ι' F' G M H' → kN S Q (.lst es) ι' F' M H'
end
end Mn
end
section
namespace Mn
open PySem PySem.Spec PyProof.Rows L2
section
variable {S : Sit} {W : L2.WX} {cf mf : Calls} {X : Cx} {sc : Scope} {N : List Str} {e o : Expr} {es : List Expr} {co : Ex} {cs : Es} {pos p apos : Pos}
structure CalleeF (S : Sit) (X : Cx) (cf : Calls) (f : Nat) : Prop where
 ok : ∃ k fd ps np, FnOk X.prog X.w X.K X.mg X.base (L2.CX X.prog X.w) k (S.fa f) fd ps (SpF S np (cf f)) ∧ Room k X.A ∧ Binds X.K fd ps [] ∧ ∀ as M, as.length ≠ np → cf f as M = .bad
def MthOk (S : Sit) (X : Cx) (cf : Calls) : Prop := ∀ c k m f, S.T.cl c = some k → k.mth m = some f → Meth X.K (S.ca c) (S.an m) (S.fa f) ∧ CalleeF S X cf f
def SpI (S : Sit) (np : Nat) (c : Nat) (g : List D → Mem → Res D) : Sp := fun vs H Q E => vs.length = np ∧ ∃ x dx H0 args ι F G M as, vs = .ref x :: args ∧ H0 x = none ∧ H0 dx = none ∧ dx ≠ x ∧ H = upd (upd H0 dx (.own x)) x (.ins (S.ca c) dx []) ∧ Rel S ι F G M H0 ∧ DenL S ι F as args ∧
 PostG S (fun c e H => E c e H) ι F G (fun d ι F _ H => Den S ι F d (.ref x) → Q .non H) (g as M)
structure CalleeI (S : Sit) (X : Cx) (mf : Calls) (c : Nat) (x : Str) : Prop where
 ok : ∃ f k fd ps np, Mk X.K (S.ca c) f ∧ FnOk X.prog X.w X.K X.mg X.base (L2.CX X.prog X.w) k f fd ps (SpI S (np + 1) c (mf c)) ∧ Room (k + 1) X.A ∧ Binds X.K fd ps [] ∧ ∀ as M, as.length ≠ np → mf c as M = .bad
 hm : X.mg x = some (.ref (S.ca c))
theorem run_makeS {C f : Addr} {k : Nat} {fd : FuncData} {ps : List Str} {sp : Sp} {E : XK} {CX : CXT} {pins : List (Addr × Obj)} {σ : L2.St} {H : Hp} {s : Shared} {Q : VK} {us : List Value} {vs : List V} (M : Mk X.K C f) (F : FnOk X.prog X.w X.K X.mg X.base CX k f fd ps sp) (hr : Room (k + 1) X.A) (hb : Binds X.K fd ps [])
  (hx : PassesAt CX X σ E) (I : Inv X pins σ H s) (r : Vals vs us)
  (h : ∀ x dx, H x = none → H dx = none → dx ≠ x → sp (.ref x :: vs) (upd (upd H dx (.own x)) x (.ins C dx [])) (fun v H2 => v = .non ∧ Q (.ref x) H2) E) :
  wpAny (model X.prog X.w) X.A (call (.ref C) us) (EP X pins σ Q) X.xe s := by
 have hq := h (s.heap.objs.size + 1) s.heap.objs.size (I.hok.fresh (Nat.le_succ _)) (I.hok.fresh (Nat.le_refl _)) (Nat.ne_of_lt (Nat.lt_succ_self _))
 have I2 := Inv.made (C := C) I
 have r2 : Vals (V.ref (s.heap.objs.size + 1) :: vs) (Value.ref (s.heap.objs.size + 1) :: us) := .cons rfl r
 have hl : (Value.ref (s.heap.objs.size + 1) :: us ++ []).length = ps.length := by
  have z := r2.length
  rw [F.len _ _ _ _ hq] at z
  rw [List.append_nil]
  exact z.symm
 have b := hb { s with heap := (s.heap.push PySem.W.emptyDict).push (PySem.W.instObj C s.heap.objs.size) } (Value.ref (s.heap.objs.size + 1) :: us) I2.kIn hl
 rw [List.append_nil] at b
 refine wpAny_call (make_map (f := f) I.kIn M.makes M.init (beq_iff_eq.mp M.fn) (codeAny_mono (F.run _ X.stack _ _ ⟨Value.ref (s.heap.objs.size + 1) :: us, []⟩ (Value.ref (s.heap.objs.size + 1) :: us) _ _ E (hr.make C us [])
  (I2.env0.make C us []) b r2 hq) fun r s' hq' => ?_))
 cases r with
 | error e => exact hx pins _ _ e s' I2 hq'
 | ok fl =>
  cases fl with
  | ret u =>
   obtain ⟨v, H', I3, rv, ev, q3⟩ := I2.after hq'
   subst ev
   exact ⟨rv, ⟨V.ref (s.heap.objs.size + 1), H', I3, rfl, q3⟩⟩
  | next => exact False.elim hq'
  | brk => exact False.elim hq'
  | cont => exact False.elim hq'
theorem se_mak (tk : L2.Takes X W) {c : Nat} {x : Str} (K : CalleeI S X mf c x) (hg : Gl X x) (ha : SA S W cf mf X (e :: es) cs) (hdb : (x == ("__debug__" : Str)) = false) (he : starEach (e :: es) X.env = (false, eval e X.env) :: starEach es X.env) (hpl : (backTo pos (starEach es X.env)).any (·.1) = false) :
  SE S W cf mf X (.Call (.Name x p) (e :: es) [] pos) (.mak c cs) := by
 obtain ⟨f, k, fd, ps, np, mk, F0, hr, hb, hnp⟩ := K.ok
 refine ⟨fun pins s σ H Q I q => ?_⟩
 obtain ⟨ι, F, G, σ', M, R, rs, p⟩ := q
 refine wpAny_Call_Name_kw (ld_glob I hg K.hm ?_ hdb)
 refine PySem.W.callWith_K (h₀ := X.base) I.ok.mod.kin mk.kp (thn (ha.run pos pins s σ H (fun vs H1 => ∃ ι1 F1 M1 as, Rel S ι1 F1 G M1 H1 ∧ DenL S ι1 F1 as vs ∧ PostG S (fun c e H => W c e σ H) ι1 F1 G (kV1 S Q) (mf c as M1)) I ⟨ι, F, G, σ', M, R, rs, p.bind.imp fun as ι1 F1 M1 H1 p1 s1 R1 q1 vs dvs => ⟨ι1, F1, M1, as, R1, dvs, q1⟩⟩) fun us s1 ⟨vs, H1, I1, r, ι1, F1, M1, as, R1, dvs, q1⟩ => ⟨I1.kIn, ?_⟩) he hpl
 refine run_makeS (E := WE W σ) mk F0 hr hb (passAt tk σ) I1 r fun y dx hy hdx hne => ?_
 refine ⟨?_, y, dx, H1, vs, ι1, F1, G, M1, as, rfl, hy, hdx, hne, rfl, R1, dvs, q1.imp fun d ι2 F2 M2 H2 p2 s2 R2 q2 dd => ⟨rfl, q2 _ dd⟩⟩
 by_cases z : as.length = np
 ·rw [List.length_cons, dvs.1, z]
 ·rw [hnp as M1 z] at q1
  exact False.elim q1
end
end Mn
end
section
namespace Mn
open PySem PySem.Spec PyProof.Rows L2
section
variable {S : Sit} {cf mf : Calls} {n : Nat} {N : List Str}
theorem rs_start {ι : List Addr} {F0 : Hp} {as : List D} {vs : List V} {m : Nat} (dl : DenL S ι F0 as vs) (hm : m = N.length - vs.length) : RS S ι F0 (as.map some ++ List.replicate m none) (L2.start N vs) := by
 subst hm
 unfold L2.start
 refine ⟨by simp [dl.1], fun i d h => ?_⟩
 by_cases hi : i < as.length
 ·rw [List.getElem?_append_left (by simpa using hi), List.getElem?_map] at h
  obtain ⟨d', h1, h2⟩ := Option.map_eq_some_iff.mp h
  cases h2
  obtain ⟨v, hv, dv⟩ := dl.get h1
  refine ⟨v, ?_, dv⟩
  have hi' : i < vs.length := by rw [dl.1]; exact hi
  rw [List.getElem?_append_left (by simpa using hi'), List.getElem?_map, hv]
  rfl
 ·rw [List.getElem?_append_right (by simpa using Nat.le_of_not_lt hi), List.getElem?_replicate] at h
  split at h <;> cases h
theorem spF_start {f : Fn} {vs : List V} {H : Hp} {Q : VK} {E : XK} (hN : N.length = f.ns) (h : SpF S f.np (fun as M => bodyR S.T n cf mf f f.esc M.length as none M M) vs H Q E) :
  LS S (fun c d _ H => E c d H) (exB S.T cf mf n f.body) { nx := fun _ H' => Q .non H', rt := Q } (L2.start N vs) H := by
 obtain ⟨hl, ι, F0, G, M, as, R, dl, p⟩ := h
 refine ⟨ι, F0, G, as.map some ++ List.replicate (f.ns - f.np) none, M, R, rs_start dl (by rw [hN, hl]), ?_⟩
 replace p : PostG S (fun c e H => E c e H) ι F0 G (kV1 S Q) (bodyR S.T n cf mf f f.esc M.length as none M M) := p
 unfold bodyR at p
 by_cases hnp : as.length = f.np
 case neg => rw [if_neg hnp] at p; exact False.elim p
 rw [if_pos hnp] at p
 revert p
 generalize exB S.T cf mf n f.body (as.map some ++ List.replicate (f.ns - f.np) none) M = r
 intro p
 cases r with
 | nx σ2 M2 => exact fun ι' F' H' σ p1 s1 R1 _ => fin_ok R rfl p1 s1 R1 .non p
 | rt d M2 => exact fun ι' F' H' p1 s1 R1 v dv => fin_ok R rfl p1 s1 R1 dv p
 | exc c fs σ2 M2 => exact fun ι' F' H' σ e gs p1 s1 R1 _ he df => finX_ok (k := kV1 S Q) (Wx := fun c e H => E c e H) R rfl p1 s1 R1 he df p
 | bk _ _ => exact False.elim p
 | ct _ _ => exact False.elim p
 | bad => exact False.elim p
theorem spI_start {f : Fn} {c : Nat} {vs : List V} {H : Hp} {Q : VK} {E : XK} (hN : N.length = f.ns) (hc : (S.T.cl c).isSome = true) (hcl : Cls S.K (S.ca c))
  (h : SpI S f.np c (fun as M => bodyR S.T n cf mf f false M.length (.ref M.length :: as) (some (.ref M.length)) M (M ++ [.ins c []])) vs H Q E) :
  LS S (fun c d _ H => E c d H) (exB S.T cf mf n f.body) { nx := fun _ H' => Q .non H', rt := Q } (L2.start N vs) H := by
 obtain ⟨hl, x, dx, H0, args, ι, F0, G, M, as, rfl, hx, hdx, hne, rfl, R, dl, p⟩ := h
 have R1 := R.newX (o := .own x) hdx
 have hx1 : (upd H0 dx (.own x)) x = none := by rw [upd_ne (Ne.symm hne)]; exact hx
 have R2 : Rel S (ι ++ [x]) F0 G (M ++ [.ins c []]) (upd (upd H0 dx (.own x)) x (.ins (S.ca c) dx [])) := R1.newO hx1 (DenO.ins (dx := dx) ⟨hc, hcl, (by intro p h; cases h), (by intro p h; cases h)⟩ rfl (by intro i p q h; simp at h) (by intro i p q h; simp at h))
 have hn : (ι ++ [x])[M.length]? = some x := by
  rw [← R.len, List.getElem?_append_right (Nat.le_refl _)]
  simp
 have dl2 : DenL S (ι ++ [x]) F0 (.ref M.length :: as) (.ref x :: args) := .cons (.ref hn) (dl.mono (pre_app ι x) (.refl F0))
 refine ⟨ι ++ [x], F0, G, (.ref M.length :: as).map some ++ List.replicate (f.ns - f.np) none, M ++ [.ins c []], R2, rs_start dl2 (by rw [hN, hl]), ?_⟩
 have p0 : PostG S (fun c e H => E c e H) ι F0 G (kV1 S fun v H => v = .ref x → Q .non H) (bodyR S.T n cf mf f false M.length (.ref M.length :: as) (some (.ref M.length)) M (M ++ [.ins c []])) := p.imp fun d ι F _ H _ _ _ q v dv e => q (e ▸ dv)
 clear p
 unfold bodyR at p0
 by_cases hnp : (Mn.D.ref M.length :: as).length = f.np
 case neg => rw [if_neg hnp] at p0; exact False.elim p0
 rw [if_pos hnp] at p0
 revert p0
 generalize exB S.T cf mf n f.body ((.ref M.length :: as).map some ++ List.replicate (f.ns - f.np) none) (M ++ [.ins c []]) = r
 intro p0
 cases r with
 | nx σ2 M2 => exact fun ι' F' H' σ p1 s1 R3 _ => fin_ok R rfl (Pre.trans (pre_app ι x) p1) s1 R3 (.ref (p1 _ _ hn)) p0 rfl
 | rt d M2 =>
  refine fun ι' F' H' p1 s1 R3 v dv => ?_
  cases d with
  | non =>
   cases dv
   exact fin_ok R rfl (Pre.trans (pre_app ι x) p1) s1 R3 (.ref (p1 _ _ hn)) p0 rfl
  | _ => exact False.elim p0
 | exc c fs σ2 M2 => exact fun ι' F' H' σ e gs p1 s1 R3 _ he df => finX_ok (k := kV1 S fun v H => v = .ref x → Q .non H) (Wx := fun c e H => E c e H) R rfl (Pre.trans (pre_app ι x) p1) s1 R3 he df p0
 | bk _ _ => exact False.elim p0
 | ct _ _ => exact False.elim p0
 | bad => exact False.elim p0
end
end Mn
end
section
namespace Mn
open PySem PySem.Spec PyProof.Rows L2
structure CalleeJ (S : Sit) (X : Cx) (mf : Calls) (c : Nat) : Prop where
 ok : ∃ f k fd ps np, Mk X.K (S.ca c) f ∧ FnOk X.prog X.w X.K X.mg X.base (L2.CX X.prog X.w) k f fd ps (SpI S (np + 1) c (mf c)) ∧ Room (k + 1) X.A ∧ Binds X.K fd ps [] ∧ ∀ as M, as.length ≠ np → mf c as M = .bad
structure CallsOk (S : Sit) (X : Cx) (cf mf : Calls) : Prop where
 fn : ∀ f F, S.T.fn f = some F → CalleeF S X cf f
 new : ∀ c C, S.T.cl c = some C → C.frz = true → CalleeJ S X mf c
structure FnE (S : Sit) (n f : Nat) (F : Fn) : Prop where
 ok : ∃ (x qual : Str) (params : Arguments) (body : List Stmt) (scope : Scope) (N ps : List Str) (fd : FuncData), FunD S.K x qual params body scope [] [] (S.fa f) fd ∧ Binds S.K fd ps [] ∧ FnScope N ps scope ∧ ps.length = F.np ∧ N.length = F.ns ∧
  ∀ (cf mf : Calls) (X : Cx) (W : L2.WX), Cxt S scope N X → (∀ x, X.fn x = true) → L2.Takes X W → PassesOwn (model X.prog X.w) X.A X.env X.xe → CallsOk S X cf mf → PSs X body (LS S W (exB S.T cf mf n F.body))
structure TabOk (S : Sit) (n : Nat) : Prop where
 fn : ∀ f F, S.T.fn f = some F → FnE S n f F
 cl : ∀ c C, S.T.cl c = some C → ∃ F, S.T.fn C.init = some F ∧ 0 < F.np ∧ Mk S.K (S.ca c) (S.fa C.init) ∧ Cls S.K (S.ca c)
section
variable {S : Sit} {n : Nat}
theorem fnOk_bad {k : Nat} {f : Addr} {fd : FuncData} {ps : List Str} {sp : Sp} (h : ∀ vs H Q E, ¬ sp vs H Q E) : FnOk S.P S.w S.K S.mg S.base (L2.CX S.P S.w) k f fd ps sp :=
 ⟨fun vs H Q E q => absurd q (h vs H Q E), fun A outer s H args us vs Q E _ _ _ _ q => absurd q (h vs H Q E)⟩
def LevA (S : Sit) (n k : Nat) : Prop := ∀ f F, S.T.fn f = some F → ∃ fd ps, FnOk S.P S.w S.K S.mg S.base (L2.CX S.P S.w) (k + 1) (S.fa f) fd ps (SpF S F.np (run S.T n k false f)) ∧ Binds S.K fd ps [] ∧ ∀ as M, as.length ≠ F.np → run S.T n k false f as M = .bad
def LevB (S : Sit) (n k : Nat) : Prop := ∀ c C F, S.T.cl c = some C → C.frz = true → S.T.fn C.init = some F → ∃ fd ps, FnOk S.P S.w S.K S.mg S.base (L2.CX S.P S.w) k (S.fa C.init) fd ps (SpI S F.np c (run S.T n k true c)) ∧ Binds S.K fd ps [] ∧ ∀ as M, as.length + 1 ≠ F.np → run S.T n k true c as M = .bad
theorem calls_of (T : TabOk S n) {k : Nat} (a : LevA S n k) (b : LevB S n k) {X : Cx} (hK : X.K = S.K) (hm : X.mg = S.mg) (hP : X.prog = S.P) (hw : X.w = S.w) (hb : X.base = S.base) (hr : Room (k + 1) X.A) : CallsOk S X (run S.T n k false) (run S.T n k true) where
 fn := fun f F hf => by
  obtain ⟨fd, ps, h1, h2, h3⟩ := a f F hf
  exact ⟨k + 1, fd, ps, F.np, by rw [hK, hm, hP, hw, hb]; exact h1, hr, by rw [hK]; exact h2, h3⟩
 new := fun c C hc hz => by
  obtain ⟨F, hF, h0, mk, _⟩ := T.cl c C hc
  obtain ⟨fd, ps, h1, h2, h3⟩ := b c C F hc hz hF
  obtain ⟨np, hnp⟩ : ∃ np, F.np = np + 1 := ⟨F.np - 1, by omega⟩
  refine ⟨S.fa C.init, k, fd, ps, np, by rw [hK]; exact mk, by rw [hK, hm, hP, hw, hb, ← hnp]; exact h1, hr, by rw [hK]; exact h2, fun as M hl => h3 as M oM⟩
theorem levs (T : TabOk S n) : ∀ k, LevA S n k ∧ LevB S n k := by
 intro k
 induction k using Nat.strongRecOn with
 | ind k ih =>
  refine ⟨fun f F hf => ?_, fun c C F hc hz hF => ?_⟩
  ·obtain ⟨x, qual, params, body, scope, N, ps, fd, fD, hb, hs, hp, hN, bd⟩ := (T.fn f F hf).ok
   cases k with
   | zero => exact ⟨fd, ps, fnOk_bad fun vs H Q E ⟨_, ι, F0, G, M, as, _, _, p⟩ => p, hb, fun _ _ _ => rfl⟩
   | succ k =>
    obtain ⟨a, b⟩ := ih k (Nat.lt_succ_self k)
    have er : ∀ as M, run S.T n (k + 1) false f as M = bodyR S.T n (run S.T n k false) (run S.T n k true) F F.esc M.length as none M M := fun as M => by
     show (match S.T.fn f with | some F => bodyR S.T n (run S.T n k false) (run S.T n k true) F F.esc M.length as none M M | none => .bad) = _
     rw [hf]
    refine ⟨fd, ps, fD.ok hs (fun vs H Q E q => by rw [q.1, hp]) (fun cdv A outer s H vs Q E hr hsp => ⟨_, bd (run S.T n k false) (run S.T n k true) _ (fun c d _ H => E c d H) ?_ (fun _ => rfl) ?_ ?_ (calls_of T a b rfl rfl rfl rfl rfl hr), spF_start hN ?_⟩), hb, fun as M hl => ?_⟩
    ·exact ⟨rfl, rfl, rfl, rfl, rfl, rfl, rfl, hs.nd, rfl, by have := hr.un; show (A.deeper _).units + 80 < cLine; omega⟩
    ·exact L2.takes_of rfl rfl rfl rfl
    ·exact L2.passes_of rfl
    ·have : run S.T n (k + 1) false f = fun as M => bodyR S.T n (run S.T n k false) (run S.T n k true) F F.esc M.length as none M M := funext fun as => funext fun M => er as M
     rw [this] at hsp
     exact hsp
    ·rw [er]
     unfold bodyR
     rw [if_neg hl]
  ·obtain ⟨x, qual, params, body, scope, N, ps, fd, fD, hb, hs, hp, hN, bd⟩ := (T.fn C.init F hF).ok
   obtain ⟨_, _, h0, _, hcl⟩ := T.cl c C hc
   match k with
   | 0 => exact ⟨fd, ps, fnOk_bad fun vs H Q E ⟨_, _, _, _, _, ι, F0, G, M, as, _, _, _, _, _, _, _, p⟩ => p, hb, fun _ _ _ => rfl⟩
   | 1 =>
    have er : ∀ as M, run S.T n 1 true c as M = .bad := fun as M => by
     simp only [run, hc, hF]
    exact ⟨fd, ps, fnOk_bad fun vs H Q E ⟨_, _, _, _, _, ι, F0, G, M, as, _, _, _, _, _, _, _, p⟩ => (by rw [er] at p; exact p), hb, fun as M _ => er as M⟩
   | j + 2 =>
    obtain ⟨a, b⟩ := ih j oM
    have er : ∀ as M, run S.T n (j + 2) true c as M = bodyR S.T n (run S.T n j false) (run S.T n j true) F false M.length (.ref M.length :: as) (some (.ref M.length)) M (M ++ [.ins c []]) := fun as M => by
     rw [run]
     simp only [hc, hF, hz, if_true]
    refine ⟨fd, ps, fD.ok hs (fun vs H Q E q => by rw [q.1, hp]) (fun cdv A outer s H vs Q E hr hsp => ⟨_, bd (run S.T n j false) (run S.T n j true) _ (fun c d _ H => E c d H) ?_ (fun _ => rfl) ?_ ?_ (calls_of T a b rfl rfl rfl rfl rfl hr), spI_start hN (by rw [hc]; rfl) hcl ?_⟩), hb, fun as M hl => ?_⟩
    ·exact ⟨rfl, rfl, rfl, rfl, rfl, rfl, rfl, hs.nd, rfl, by have := hr.un; show (A.deeper _).units + 80 < cLine; omega⟩
    ·exact L2.takes_of rfl rfl rfl rfl
    ·exact L2.passes_of rfl
    ·have : run S.T n (j + 2) true c = fun as M => bodyR S.T n (run S.T n j false) (run S.T n j true) F false M.length (.ref M.length :: as) (some (.ref M.length)) M (M ++ [.ins c []]) := funext fun as => funext fun M => er as M
     rw [this] at hsp
     exact hsp
    ·rw [er]
     unfold bodyR
     rw [if_neg (by rw [List.length_cons]; exact hl)]
end
end Mn
end
section
namespace Mn
open PySem PySem.Spec PyProof.Rows L2
def relab (scope sc : Scope) : Scope := { scope with names := scope.names.map fun (n, k) => if (k == .free && sc.kind == .function && sc.names.lookup n == some .cell) then (n, .cell) else (n, k) }
structure Cxk (S : Sit) (sc : Scope) (N : List Str) (top : Bool) (cf mf : Calls) (X : Cx) : Prop where
 cx : Cxt S sc N X
 fn : top = true → ∀ x, X.fn x = true
 co : CallsOk S X cf mf
section
variable {S : Sit} {sc : Scope} {N : List Str} {top : Bool} {cf mf : Calls} {X : Cx}
theorem Cxk.blk (C : Cxk S sc N top cf mf X) (scope : Scope) (s : Shared) (H : Hp) (K : Addr) (cl : List (Str × Addr)) (fp : List Addr) : Cxk S (relab scope sc) N false cf mf (X.blk s H scope (compEnvC scope cl K X.env) fp) where
 cx := ⟨C.cx.hK, C.cx.hm, C.cx.hP, C.cx.hw, C.cx.hb, C.cx.calm, C.cx.hN, C.cx.nd, by rw [← C.cx.sc]; rfl, C.cx.hu⟩
 fn := fun h => nomatch h
 co := ⟨fun f F h => ⟨(C.co.fn f F h).ok⟩, fun c D h z => ⟨(C.co.new c D h z).ok⟩⟩
theorem takes_blk (scope : Scope) (s : Shared) (H : Hp) (cenv : Env) (fp : List Addr) : L2.Takes (X.blk s H scope cenv fp) WF0 := fun u s' ⟨a, B, sI, pins, σ, H, cls, d, e, I, nb, up, sky, na, os, ag, w⟩ => w
end
end Mn
end
section
namespace Mn
open PySem PySem.Spec PyProof.Rows L2
def noStarE : Expr → Bool
 | .Starred _ _ => false
 | _ => true
theorem star_cons {e : Expr} {es : List Expr} {env : Env} (h : noStarE e = true) : starEach (e :: es) env = (false, eval e env) :: starEach es env := by
 cases e <;> first | rfl | cases h
theorem star_all {env : Env} : ∀ {es : List Expr}, es.all noStarE = true → (starEach es env).any (·.1) = false
 | [], _ => rfl
 | e :: es, h => by
  rw [List.all_cons, Bool.and_eq_true] at h
  rw [star_cons h.1, List.any_cons, star_all h.2]
  rfl
theorem back_any {pos : Pos} : ∀ {l : List (Bool × Sem Value)}, l.any (·.1) = false → (backTo pos l).any (·.1) = false
 | [], _ => rfl
 | (b, x) :: r, h => by
  rw [List.any_cons, Bool.or_eq_false_iff] at h
  show (b || (backTo pos r).any (·.1)) = false
  rw [back_any h.2]
  have : b = false := h.1
  rw [this]
  rfl
def plainB : Expr → Bool
 | .Call _ [] _ _ => false
 | _ => true
theorem base_of {o : Expr} {m : Str} {env : Env} (h : plainB o = true) : attributeBase o m env (eval o env) = eval o env := by
 cases o with
 | Call f as ks p =>
  cases as with
  | nil => cases h
  | cons a as => cases f <;> rfl
 | _ => rfl
def noComp : Expr → Bool
 | .ListComp _ _ _ _ => false
 | .SetComp _ _ _ _ => false
 | .DictComp _ _ _ _ _ => false
 | _ => true
theorem sw_no {e : Expr} {t : Option Expr} {l : Nat} {env : Env} (h : noComp e = true) : swapsWith e t l env = pure false := by
 cases e <;> first | rfl | cases h
def isName : Expr → Bool
 | .Name _ _ => true
 | _ => false
theorem sw_else {e t : Expr} {l : Nat} {env : Env} (h : isName t = false) : swapsWith e (some t) l env = pure false := by
 cases t with
 | Name _ _ => cases h
 | _ => cases e <;> rfl
def swB (sc scope : Scope) (x : Str) (p pv : Pos) : Bool := (sc.kind == .function) && (sc.names.lookup x == some .local) && (p.line == pv.line) && !(scope.names.any fun (n, k) => n == x && (k == .local || k == .cell))
theorem sw_lc {elt : Expr} {gs : List Comprehension} {scope sc : Scope} {pos py : Pos} {y : Str} {l : Nat} {env : Env} (he : env.scope = sc) (hk : sc.kind = .function) : swapsWith (.ListComp elt gs scope pos) (some (.Name y py)) l env = pure (swB sc scope y py pos) := by
 subst he
 have hb : env.blockKind = .function := by unfold Env.blockKind; rw [hk]; rfl
 unfold swapsWith swB
 simp only [hb, hk, Expr.pos]
 rfl
end Mn
end
section
namespace Mn
open PySem PySem.Spec PyProof.Rows L2
structure Gd where
 T : Tab
 names : List Str
 fns : List (Str × Nat)
 cls : List (Str × Nat)
 bi : List Str
 con : List (Str × D)
structure Glob (g : Gd) (S : Sit) : Prop where
 hT : S.T = g.T
 hn : S.names = g.names
 co : ClsOk S
 isf : IsF S
 fn : ∀ p ∈ g.fns, S.mg p.1 = some (.ref (S.fa p.2)) ∧ PySem.W.keepIn S.K (.ref (S.fa p.2)) = true
 cl : ∀ p ∈ g.cls, S.mg p.1 = some (.ref (S.ca p.2)) ∧ (S.T.cl p.2).isSome = true
 bi : ∀ x ∈ g.bi, S.mg x = none
 con : ∀ p ∈ g.con, ∃ u, S.mg p.1 = some u ∧ ∃ v, RelV v u ∧ ∀ ι F, Den S ι F p.2 v
 me : ∀ c k m f, S.T.cl c = some k → k.mth m = some f → Meth S.K (S.ca c) (S.an m) (S.fa f) ∧ ∃ F, S.T.fn f = some F
def visB (sc : Scope) (x : Str) : Bool := (match sc.names.lookup x with
 | some .local => true
 | some .cell => true
 | some .free => true
 | _ => false) && !(x == ("__debug__" : Str)) && !(x == ("__classdict__" : Str))
def glB (sc : Scope) (x : Str) : Bool := (match sc.names.lookup x with
 | some .globalImplicit => true
 | _ => false) && !(x == ("__debug__" : Str)) && !(x == ("__name__" : Str))
def stoB (top : Bool) (sc : Scope) (x : Str) : Bool := match sc.names.lookup x with
 | some .local => true
 | some .cell => top
 | _ => false
def loB (sc : Scope) (x : Str) : Bool := match sc.names.lookup x with
 | some .local => true
 | _ => false
section
variable {g : Gd} {S : Sit} {W : L2.WX} {cf mf : Calls} {n : Nat} {X : Cx} {sc : Scope} {N : List Str} {top : Bool} {st : Stmt} {rest : List Stmt} {a b c d e o tg iter : Expr} {es : List Expr} {ca cb cc ce cd co : Ex} {cs : Es} {pos p apos p1 p2 p3 : Pos} {k : Sm} {ks : Ss} {x : Str}
theorem vis_of {sc : Scope} (h : visB sc x = true) : Vis sc x ∧ (x == ("__debug__" : Str)) = false ∧ (x == ("__classdict__" : Str)) = false := by
 unfold visB at h
 simp only [Bool.and_eq_true, Bool.not_eq_true'] at h
 refine ⟨?_, h.1.2, h.2⟩
 have h1 := h.1.1
 unfold Vis
 split at h1
 ·rename_i q; exact .inl q
 ·rename_i q; exact .inr (.inl q)
 ·rename_i q; exact .inr (.inr q)
 ·cases h1
theorem gl_of (C : Cxk S sc N top cf mf X) (h : glB sc x = true) : Gl X x ∧ (x == ("__debug__" : Str)) = false ∧ x ≠ "__name__" := by
 unfold glB at h
 simp only [Bool.and_eq_true, Bool.not_eq_true'] at h
 refine ⟨?_, h.1.2, fun q => ?_⟩
 ·have h1 := h.1.1
  show X.env.scope.names.lookup x = _
  rw [C.cx.sc]
  split at h1
  ·rename_i q; exact q
  ·cases h1
 ·have h2 := h.2
  rw [q] at h2
  exact absurd h2 (by decide)
theorem sto_of (C : Cxk S sc N top cf mf X) (h : stoB top sc x = true) : Loc X.env.scope x ∧ (X.fn x = true ∨ X.env.scope.names.lookup x = some .local) := by
 unfold stoB at h
 rw [C.cx.sc]
 split at h
 ·rename_i q; exact ⟨.inl q, .inr q⟩
 ·rename_i q; exact ⟨.inr q, .inl (C.fn h x)⟩
 ·cases h
theorem lo_of (C : Cxk S sc N top cf mf X) (h : loB sc x = true) : X.env.scope.names.lookup x = some .local := by
 unfold loB at h
 rw [C.cx.sc]
 split at h
 ·rename_i q; exact q
 ·cases h
theorem ix_of (C : Cxk S sc N top cf mf X) {i : Nat} (h : N[i]? = some x) : X.N[i]? = some x := by rw [C.cx.hN]; exact h
theorem w_var (C : Cxk S sc N top cf mf X) {i : Nat} (h : N[i]? = some x) (hv : visB sc x = true) : SE S W cf mf X (.Name x pos) (.var i) := by
 obtain ⟨h1, h2, h3⟩ := vis_of hv
 exact se_var (pe_var (ix_of C h) (by rw [C.cx.sc]; exact h1) h2 h3)
theorem w_int {i j} : SE S W cf mf X (.Constant (.int i) j pos) (.lit (.int i)) := se_lit pe_int fun _ _ => .int _
theorem w_bl {i j} : SE S W cf mf X (.Constant (.bool i) j pos) (.lit (.bl i)) := se_lit pe_bl fun _ _ => .bl _
theorem w_non {j} : SE S W cf mf X (.Constant .none j pos) (.lit .non) := se_lit pe_non fun _ _ => .non
theorem w_str {j} (h : strOk x = true) : SE S W cf mf X (.Constant (.str x) j pos) (.lit (.str x)) := se_lit pe_str fun _ _ => .str _ h
theorem mg_bi (G : Glob g S) (C : Cxk S sc N top cf mf X) {i : Nat} (hb : g.bi[i]? = some x) : X.mg x = none := by
 rw [C.cx.hm]; exact G.bi x (List.mem_of_getElem? hb)
theorem w_ty (G : Glob g S) (C : Cxk S sc N top cf mf X) {i : Nat} {t : String} (hb : g.bi[i]? = some x) (hg : glB sc x = true) (hv : bootBuiltins x = some (.type t)) : SE S W cf mf X (.Name x pos) (.lit (.ty t)) := by
 obtain ⟨h1, h2, h3⟩ := gl_of C hg
 exact se_lit (pe_bltn h1 (mg_bi G C hb) hv (show RelV (.ty t) (.type t) from rfl) h3 h2) fun _ _ => .ty _
theorem w_cls (G : Glob g S) (C : Cxk S sc N top cf mf X) {i : Nat} {c : Nat} (hb : g.cls[i]? = some (x, c)) (hg : glB sc x = true) : SE S W cf mf X (.Name x pos) (.lit (.cls c)) := by
 obtain ⟨h1, h2, h3⟩ := gl_of C hg
 obtain ⟨h4, h5⟩ := G.cl _ (List.mem_of_getElem? hb)
 exact se_lit (pe_glob h1 (by rw [C.cx.hm]; exact h4) (show RelV (.ref (S.ca c)) (.ref (S.ca c)) from rfl) h2) fun _ _ => .cls c h5
theorem w_con (G : Glob g S) (C : Cxk S sc N top cf mf X) {i : Nat} {c : D} (hb : g.con[i]? = some (x, c)) (hg : glB sc x = true) : SE S W cf mf X (.Name x pos) (.lit c) := by
 obtain ⟨h1, h2, h3⟩ := gl_of C hg
 obtain ⟨u, h4, v, h5, h6⟩ := G.con _ (List.mem_of_getElem? hb)
 exact se_lit (pe_glob h1 (by rw [C.cx.hm]; exact h4) h5 h2) h6
theorem w_bin (C : Cxk S sc N top cf mf X) {op : Operator} (ha : SE S W cf mf X a ca) (hb : SE S W cf mf X b cb) : SE S W cf mf X (.BinOp a op b pos) (.bin op ca cb) := se_bin C.cx ha hb
theorem w_cmp (C : Cxk S sc N top cf mf X) {op : CmpOp} (ha : SE S W cf mf X a ca) (hb : SE S W cf mf X b cb) (hm : behindInMarks op b = false) : SE S W cf mf X (.Compare a [op] [b] pos) (.cmp op ca cb) := se_cmp C.cx hm ha hb
theorem w_chn (C : Cxk S sc N top cf mf X) {o1 o2 : CmpOp} (ha : SE S W cf mf X a ca) (hb : SE S W cf mf X b cb) (hc : SE S W cf mf X c cc) (hm : lastMarks [o1, o2] [b, c] = false) : SE S W cf mf X (.Compare a [o1, o2] [b, c] pos) (.chn o1 o2 ca cb cc) := se_chn C.cx hm ha hb hc
theorem w_idx (C : Cxk S sc N top cf mf X) (ha : SE S W cf mf X a ca) (hb : SE S W cf mf X b cb) (hs : PlainIx b) : SE S W cf mf X (.Subscript a b pos) (.idx ca cb) := se_idx C.cx hs ha hb
theorem w_not (C : Cxk S sc N top cf mf X) (ha : SE S W cf mf X a ca) : SE S W cf mf X (.UnaryOp .Not a pos) (.not ca) := se_not C.cx ha
theorem w_one {op} (h : SE S W cf mf X a ca) : SE S W cf mf X (.BoolOp op [a] pos) ca := se_and1 h
theorem w_and (C : Cxk S sc N top cf mf X) {rest : List Expr} (ha : SE S W cf mf X a ca) (hb : SE S W cf mf X (.BoolOp .And (b :: rest) pos) cb) : SE S W cf mf X (.BoolOp .And (a :: b :: rest) pos) (.and ca cb) := se_and C.cx ha hb
theorem t_v (C : Cxk S sc N top cf mf X) (ha : SE S W cf mf X a ca) (he : ∀ whole, isTrue a X.env whole = (do let v ← whole; standAt a.pos; holding [v] (truthy v))) : ST S W cf mf X a (.v ca) := st_v C.cx ha he
theorem t_cmp (C : Cxk S sc N top cf mf X) {op : CmpOp} (ha : SE S W cf mf X a ca) (hb : SE S W cf mf X b cb) (hm : behindInMarks op b = false) : ST S W cf mf X (.Compare a [op] [b] pos) (.cmp op ca cb) := st_cmp C.cx hm ha hb
theorem t_not {ta : Te} (ha : ST S W cf mf X a ta) : ST S W cf mf X (.UnaryOp .Not a pos) (.not ta) := st_not ha
abbrev SW' (S : Sit) (W : L2.WX) (cf mf : Calls) (X : Cx) (e : Expr) (t : Te) : Prop := PW X e (LT S W (evT S.T cf mf t))
theorem t_w {t : Te} (h : SW' S W cf mf X e t) : ST S W cf mf X e t := PW.pt h
theorem t_a1 {t : Te} (h : ST S W cf mf X a t) : SW' S W cf mf X (.BoolOp .And [a] pos) t := sw_one h (.inl rfl)
theorem t_o1 {t : Te} (h : ST S W cf mf X a t) : SW' S W cf mf X (.BoolOp .Or [a] pos) t := sw_one h (.inr rfl)
theorem t_and {rest : List Expr} {ta tb : Te} (ha : ST S W cf mf X a ta) (hb : SW' S W cf mf X (.BoolOp .And (b :: rest) pos) tb) : SW' S W cf mf X (.BoolOp .And (a :: b :: rest) pos) (.and ta tb) := sw_and ha hb
theorem t_or {rest : List Expr} {ta tb : Te} (ha : ST S W cf mf X a ta) (hb : SW' S W cf mf X (.BoolOp .Or (b :: rest) pos) tb) : SW' S W cf mf X (.BoolOp .Or (a :: b :: rest) pos) (.or ta tb) := sw_or ha hb
theorem chn_bl {T : Tab} {o1 o2 : CmpOp} {σ : Sl} {M M' : Mem} {d : D} (e : ev T cf mf (.chn o1 o2 ca cb cc) σ M = .ok d M') : ∃ k, d = .bl k := by
 have cm : ∀ (M : Mem) op (x y z : D), cmpM M op x y = some z → ∃ k, z = .bl k := by
  intro M op x y z h
  unfold cmpM at h
  split at h
  ·cases h
  unfold cmp at h
  cases op <;> simp only [] at h
  case In => obtain ⟨k, _, rfl⟩ := Option.map_eq_some_iff.mp h; exact ⟨_, rfl⟩
  case NotIn => obtain ⟨k, _, rfl⟩ := Option.map_eq_some_iff.mp h; exact ⟨_, rfl⟩
  case Is => obtain ⟨k, _, rfl⟩ := Option.map_eq_some_iff.mp h; exact ⟨_, rfl⟩
  case IsNot => obtain ⟨k, _, rfl⟩ := Option.map_eq_some_iff.mp h; exact ⟨_, rfl⟩
  all_goals (split at h <;> first | (cases h; done) | (cases h; exact ⟨_, rfl⟩) | (unfold empT at h; split at h <;> first | (cases h; done) | (cases h; exact ⟨_, rfl⟩)))
 unfold ev at e
 cases e1 : ev T cf mf ca σ M with
 | ok x M1 =>
  rw [e1] at e
  replace e : (ev T cf mf cb σ M1).bind _ = _ := e
  cases e2 : ev T cf mf cb σ M1 with
  | ok y M2 =>
   rw [e2] at e
   replace e : (match cmpM M2 o1 x y with
    | some (.bl true) => (ev T cf mf cc σ M2).bind fun z M3 => .of (cmpM M3 o2 y z) M3
    | some (.bl false) => .ok (.bl false) M2
    | _ => .bad) = .ok d M' := e
   split at e
   ·cases e3 : ev T cf mf cc σ M2 with
    | ok z M3 =>
     rw [e3] at e
     replace e : Res.of (cmpM M3 o2 y z) M3 = .ok d M' := e
     cases e4 : cmpM M3 o2 y z with
     | none => rw [e4] at e; cases e
     | some w => rw [e4] at e; cases e; exact cm _ _ _ _ _ e4
    | exc _ _ _ => rw [e3] at e; cases e
    | bad => rw [e3] at e; cases e
   ·cases e; exact ⟨_, rfl⟩
   ·cases e
  | exc _ _ _ => rw [e2] at e; cases e
  | bad => rw [e2] at e; cases e
 | exc _ _ _ => rw [e1] at e; cases e
 | bad => rw [e1] at e; cases e
end
end Mn
end
section
namespace Mn
open PySem PySem.Spec PyProof.Rows L2
section
variable {g : Gd} {S : Sit} {W : L2.WX} {cf mf : Calls} {n : Nat} {X : Cx} {sc : Scope} {N : List Str} {top : Bool} {st : Stmt} {rest : List Stmt} {a b c d e o tg iter : Expr} {es : List Expr} {ca cb cc ce cd co : Ex} {cs : Es} {pos p apos cpos p1 p2 p3 : Pos} {k : Sm} {ks : Ss} {x : Str}
theorem t_chn (C : Cxk S sc N top cf mf X) {o1 o2 : CmpOp} (ha : SE S W cf mf X a ca) (hb : SE S W cf mf X b cb) (hc : SE S W cf mf X c cc) (hm : lastMarks [o1, o2] [b, c] = false) : ST S W cf mf X (.Compare a [o1, o2] [b, c] pos) (.v (.chn o1 o2 ca cb cc)) := by
 refine (pt_chain (ro_cmp C.cx.hK C.cx.hu o1) (ro_cmp C.cx.hK C.cx.hu o2) ha hb hc hm).to fun σ H Q q => ?_
 have q' : LE S W (ev S.T cf mf (.chn o1 o2 ca cb cc)) σ H (fun v H' => ∃ k, v = .bl k ∧ Q k H') := by
  obtain ⟨ι, F, G, σ', M, R, rs, pp⟩ := q
  refine ⟨ι, F, G, σ', M, R, rs, ?_⟩
  have e : evT S.T cf mf (.v (.chn o1 o2 ca cb cc)) σ' M = (ev S.T cf mf (.chn o1 o2 ca cb cc) σ' M).bind fun x M1 => .of (tru (der M1 x)) M1 := by conv => lhs; unfold evT
  rw [e] at pp
  cases e1 : ev S.T cf mf (.chn o1 o2 ca cb cc) σ' M with
  | ok d M1 =>
   obtain ⟨kk, rfl⟩ := chn_bl e1
   rw [e1] at pp
   intro ι' F' H' h1 h2 h3 v hv
   cases hv
   exact ⟨kk, rfl, pp ι' F' H' h1 h2 h3⟩
  | exc _ _ _ => rw [e1] at pp; exact pp
  | bad => rw [e1] at pp; exact pp
 obtain ⟨ι, F, G, σ', M, R, rs, p⟩ := q'
 have p' := p
 unfold ev at p'
 exact chn_read C.cx ⟨ι, F, G, σ', M, R, rs, p⟩
theorem a_nil : SA S W cf mf X [] .nil := sa_nil
theorem a_cons (ha : SE S W cf mf X e ca) (hr : SA S W cf mf X es cs) (h : noStarE e = true) : SA S W cf mf X (e :: es) (.cons ca cs) := sa_cons (star_cons h) ha hr
theorem w_tup {k} (h : SA S W cf mf X es cs) (hn : (noStar cs && Nat.ble (lenE cs) 1000) = true) : SE S W cf mf X (.Tuple es k pos) (.tup cs) := by
 rw [Bool.and_eq_true] at hn
 exact se_tup h hn.1 (Nat.le_of_ble_eq_true hn.2)
theorem w_new {n : Nw} (own : Bool) (h : SN S W cf mf X e n) : SE S W cf mf X e (.new own n) := se_new h
theorem n_lst (h : SA S W cf mf X es cs) (hn : (noStar cs && Nat.ble (lenE cs) 1000) = true) : SN S W cf mf X (.List es pos) (.lst cs) := by
 rw [Bool.and_eq_true] at hn
 exact sn_lst h hn.1 (Nat.le_of_ble_eq_true hn.2)
theorem one_arg {env : Env} (h : noStarE e = true) : starEach [e] env = (false, eval e env) :: starEach [] env := star_cons h
theorem no_any {env : Env} : (backTo pos (starEach [] env)).any (·.1) = false := rfl
theorem w_tupO (G : Glob g S) (C : Cxk S sc N top cf mf X) (rw : Bool) {i : Nat} (hb : g.bi[i]? = some "tuple") (hg : glB sc "tuple" = true) (ha : SE S W cf mf X e ce) (h : noStarE e = true) : SE S W cf mf X (.Call (.Name "tuple" p) [e] [] pos) (.tupO rw ce) := by
 obtain ⟨h1, h2, h3⟩ := gl_of C hg
 exact se_tupO C.cx rw h1 (mg_bi G C hb) kR ha h3 h2 (one_arg h) no_any
theorem n_list (G : Glob g S) (C : Cxk S sc N top cf mf X) {i : Nat} (hb : g.bi[i]? = some "list") (hg : glB sc "list" = true) (ha : SE S W cf mf X e ce) (h : noStarE e = true) : SN S W cf mf X (.Call (.Name "list" p) [e] [] pos) (.lstO ce) := by
 obtain ⟨h1, h2, h3⟩ := gl_of C hg
 exact sn_list C.cx h1 (mg_bi G C hb) kR ha h3 h2 (one_arg h) no_any
theorem n_sort (G : Glob g S) (C : Cxk S sc N top cf mf X) {i : Nat} (hb : g.bi[i]? = some "sorted") (hg : glB sc "sorted" = true) (ha : SE S W cf mf X e ce) (h : noStarE e = true) : SN S W cf mf X (.Call (.Name "sorted" p) [e] [] pos) (.sort ce) := by
 obtain ⟨h1, h2, h3⟩ := gl_of C hg
 exact sn_sort C.cx h1 (mg_bi G C hb) kR ha h3 h2 (one_arg h) no_any
theorem n_dct0 : SN S W cf mf X (.Dict [] [] pos) (.dct .nil) := sn_dct0
theorem d_nil : SP' S W cf mf X pos [] [] .nil := sp_nil
theorem d_cons {k v : Expr} {ks : List (Option Expr)} {vs : List Expr} {ck cv : Ex} {cs : Ds} (hk : SE S W cf mf X k ck) (hv : SE S W cf mf X v cv) (hr : SP' S W cf mf X pos ks vs cs) : SP' S W cf mf X pos (some k :: ks) (v :: vs) (.cons ck cv cs) := sp_cons hk hv hr
theorem n_dct (C : Cxk S sc N top cf mf X) {keys : List (Option Expr)} {values : List Expr} {cs : Ds} (h : SP' S W cf mf X pos keys values cs) (hb : (keys.all (·.isSome) && (keys.length == values.length) && !keys.isEmpty && Nat.ble keys.length 15) = true) : SN S W cf mf X (.Dict keys values pos) (.dct cs) := by
 simp only [Bool.and_eq_true, beq_iff_eq, Bool.not_eq_true'] at hb
 refine sn_dct C.cx h hb.1.1.1 hb.1.1.2 (fun q => ?_) (Nat.le_of_ble_eq_true hb.2)
 rw [q] at hb
 exact absurd hb.1.2 (by decide)
theorem w_att (G : Glob g S) (C : Cxk S sc N top cf mf X) {f : Nat} (ha : SE S W cf mf X a ca) (hf : g.names[f]? = some x) (hp : plainB a = true) : SE S W cf mf X (.Attribute a x pos) (.att ca f) :=
 se_att C.cx G.co.nd (by unfold Sit.an; rw [G.hn, List.getD_eq_getElem?_getD, hf]; rfl) (base_of hp) ha
theorem s_no : PO X none (LO S W (evp S.T cf mf .no)) := so_no
theorem s_ex (h : SE S W cf mf X e ca) : PO X (some e) (LO S W (evp S.T cf mf (.ex ca))) := so_ex h
theorem w_slc (C : Cxk S sc N top cf mf X) {lo hi : Option Expr} {cl ch : Eo} (ha : SE S W cf mf X a ca) (hl : PO X lo (LO S W (evp S.T cf mf cl))) (hh : PO X hi (LO S W (evp S.T cf mf ch))) : SE S W cf mf X (.Subscript a (.Slice lo hi none p2) pos) (.slc ca cl ch) := se_slc C.cx ha hl hh
theorem args_of {env : Env} (h : (e :: es).all noStarE = true) : starEach (e :: es) env = (false, eval e env) :: starEach es env ∧ (backTo pos (starEach es env)).any (·.1) = false := by
 rw [List.all_cons, Bool.and_eq_true] at h
 exact ⟨star_cons h.1, back_any (star_all h.2)⟩
theorem w_bB (G : Glob g S) (C : Cxk S sc N top cf mf X) {id : String} {bf : Bi} (hr : CallR X (.builtin id) (RB S bf)) {i : Nat} (hv : bootBuiltins x = some (.builtin id)) (hb : g.bi[i]? = some x) (hg : glB sc x = true) (ha : SA S W cf mf X (e :: es) cs) (h : (e :: es).all noStarE = true) :
  SE S W cf mf X (.Call (.Name x p) (e :: es) [] pos) (.blt bf cs) := by
 obtain ⟨h1, h2, h3⟩ := gl_of C hg
 exact se_bltB C.cx hr h1 (mg_bi G C hb) hv ha h3 h2 (args_of (pos := pos) h).1 (args_of h).2
theorem w_bT (G : Glob g S) (C : Cxk S sc N top cf mf X) {id : String} {bf : Bi} (hr : CallR X (.type id) (RB S bf)) {i : Nat} (hv : bootBuiltins x = some (.type id)) (hb : g.bi[i]? = some x) (hg : glB sc x = true) (ha : SA S W cf mf X (e :: es) cs) (h : (e :: es).all noStarE = true) :
  SE S W cf mf X (.Call (.Name x p) (e :: es) [] pos) (.blt bf cs) := by
 obtain ⟨h1, h2, h3⟩ := gl_of C hg
 exact se_bltT C.cx hr h1 (mg_bi G C hb) hv ha h3 h2 (args_of (pos := pos) h).1 (args_of h).2
theorem w_len (G : Glob g S) (C : Cxk S sc N top cf mf X) {i : Nat} (hb : g.bi[i]? = some "len") (hg : glB sc "len" = true) (ha : SA S W cf mf X (e :: es) cs) (h : (e :: es).all noStarE = true) : SE S W cf mf X (.Call (.Name "len" p) (e :: es) [] pos) (.blt .len cs) := w_bB G C (rb_len C.cx.hK) kR hb hg ha h
theorem w_isi (G : Glob g S) (C : Cxk S sc N top cf mf X) {i : Nat} (hb : g.bi[i]? = some "isinstance") (hg : glB sc "isinstance" = true) (ha : SA S W cf mf X (e :: es) cs) (h : (e :: es).all noStarE = true) : SE S W cf mf X (.Call (.Name "isinstance" p) (e :: es) [] pos) (.blt .isi cs) := w_bB G C (rb_isi C.cx.hK G.isf) kR hb hg ha h
theorem w_biI (G : Glob g S) (C : Cxk S sc N top cf mf X) {i : Nat} (hb : g.bi[i]? = some "int") (hg : glB sc "int" = true) (ha : SA S W cf mf X (e :: es) cs) (h : (e :: es).all noStarE = true) : SE S W cf mf X (.Call (.Name "int" p) (e :: es) [] pos) (.blt .int cs) := w_bT G C (rb_int C.cx.hK) kR hb hg ha h
theorem w_biS (G : Glob g S) (C : Cxk S sc N top cf mf X) {i : Nat} (hb : g.bi[i]? = some "str") (hg : glB sc "str" = true) (ha : SA S W cf mf X (e :: es) cs) (h : (e :: es).all noStarE = true) : SE S W cf mf X (.Call (.Name "str" p) (e :: es) [] pos) (.blt .str cs) := w_bT G C (rb_str C.cx.hK) kR hb hg ha h
theorem w_all (G : Glob g S) (C : Cxk S sc N top cf mf X) {i : Nat} (hb : g.bi[i]? = some "all") (hg : glB sc "all" = true) (ha : SA S W cf mf X (e :: es) cs) (h : (e :: es).all noStarE = true) : SE S W cf mf X (.Call (.Name "all" p) (e :: es) [] pos) (.blt .all cs) := w_bB G C (rb_all C.cx.hK C.cx.calm) kR hb hg ha h
theorem w_any (G : Glob g S) (C : Cxk S sc N top cf mf X) {i : Nat} (hb : g.bi[i]? = some "any") (hg : glB sc "any" = true) (ha : SA S W cf mf X (e :: es) cs) (h : (e :: es).all noStarE = true) : SE S W cf mf X (.Call (.Name "any" p) (e :: es) [] pos) (.blt .any cs) := w_bB G C (rb_any C.cx.hK C.cx.calm) kR hb hg ha h
theorem w_max (G : Glob g S) (C : Cxk S sc N top cf mf X) {i : Nat} (hb : g.bi[i]? = some "max") (hg : glB sc "max" = true) (ha : SA S W cf mf X (e :: es) cs) (h : (e :: es).all noStarE = true) : SE S W cf mf X (.Call (.Name "max" p) (e :: es) [] pos) (.blt .max cs) := w_bB G C (rb_max C.cx.hK C.cx.calm) kR hb hg ha h
theorem w_cal (G : Glob g S) (C : Cxk S sc N top cf mf X) (tk : L2.Takes X W) {i f : Nat} {F : Fn} (hb : g.fns[i]? = some (x, f)) (hF : g.T.fn f = some F) (hg : glB sc x = true) (ha : SA S W cf mf X (e :: es) cs) (h : (e :: es).all noStarE = true) : SE S W cf mf X (.Call (.Name x p) (e :: es) [] pos) (.cal f cs) := by
 obtain ⟨h1, h2, h3⟩ := gl_of C hg
 obtain ⟨q1, q2⟩ := G.fn _ (List.mem_of_getElem? hb)
 exact se_cal tk ⟨(C.co.fn f F (by rw [G.hT]; exact hF)).ok, by rw [C.cx.hm]; exact q1, by rw [C.cx.hK]; exact q2⟩ h1 ha h2 (args_of (pos := pos) h).1 (args_of h).2
theorem w_mak (G : Glob g S) (C : Cxk S sc N top cf mf X) (tk : L2.Takes X W) {i f : Nat} {F : Cl} (hb : g.cls[i]? = some (x, f)) (hF : g.T.cl f = some F) (hz : F.frz = true) (hg : glB sc x = true) (ha : SA S W cf mf X (e :: es) cs) (h : (e :: es).all noStarE = true) : SE S W cf mf X (.Call (.Name x p) (e :: es) [] pos) (.mak f cs) := by
 obtain ⟨h1, h2, h3⟩ := gl_of C hg
 obtain ⟨q1, q2⟩ := G.cl _ (List.mem_of_getElem? hb)
 exact se_mak tk ⟨(C.co.new f F (by rw [G.hT]; exact hF) hz).ok, by rw [C.cx.hm]; exact q1⟩ h1 ha h2 (args_of (pos := pos) h).1 (args_of h).2
theorem mc1 {name : Str} (hp : plainB o = true) (hl : (apos.endLine == cpos.line) = true) (h : noStarE e = true) : MC X o name apos cpos e [] where
 base := base_of hp
 few := by rw [one_arg h]; rfl
 line := hl
 hs := one_arg h
 plain := rfl
def mB (o e : Expr) (apos cpos : Pos) : Bool := plainB o && (apos.endLine == cpos.line) && noStarE e
theorem mb_of {name : Str} (h : mB o e apos cpos = true) : MC X o name apos cpos e [] := by
 unfold mB at h
 rw [Bool.and_eq_true, Bool.and_eq_true] at h
 exact mc1 h.1.1 h.1.2 h.2
theorem w_app (ho : SE S W cf mf X o co) (he : SE S W cf mf X e ce) (h : mB o e apos cpos = true) : SE S W cf mf X (.Call (.Attribute o "append" apos) [e] [] cpos) (.app co ce) := se_app (mb_of h) ho he
theorem w_popi (ho : SE S W cf mf X o co) (he : SE S W cf mf X e ce) (h : mB o e apos cpos = true) : SE S W cf mf X (.Call (.Attribute o "pop" apos) [e] [] cpos) (.popi co ce) := se_popi (mb_of h) ho he
theorem w_join (ho : SE S W cf mf X o co) (he : SE S W cf mf X e ce) (h : mB o e apos cpos = true) : SE S W cf mf X (.Call (.Attribute o "join" apos) [e] [] cpos) (.join co ce) := se_join (mb_of h) ho he
theorem i_it (C : Cxk S sc N top cf mf X) (h : SE S W cf mf X e ce) : SI S W cf mf X tg e (.it ce) := si_it C.cx h
theorem i_rng1 (G : Glob g S) (C : Cxk S sc N top cf mf X) {i : Nat} (hb : g.bi[i]? = some "range") (hg : glB sc "range" = true) (ha : SE S W cf mf X a ca) (h : noStarE a = true) : SI S W cf mf X tg (.Call (.Name "range" p) [a] [] pos) (.rng1 ca) :=
 si_rng1 C.cx (gl_of C hg).1 (mg_bi G C hb) (one_arg h) rfl ha
end
end Mn
end
section
namespace Mn
open PySem PySem.Spec PyProof.Rows L2
section
variable {g : Gd} {S : Sit} {W : L2.WX} {cf mf : Calls} {n : Nat} {X : Cx} {sc : Scope} {N : List Str} {top : Bool} {st : Stmt} {rest : List Stmt} {a b c d e o tg iter : Expr} {es : List Expr} {ca cb cc ce cd co : Ex} {cs : Es} {pos p apos cpos p1 p2 p3 : Pos} {k : Sm} {ks : Ss} {x y z : Str}
abbrev SG (S : Sit) (cf mf : Calls) (X : Cx) (e : Expr) (t : Tg) : Prop := PG X e (LG S (tgV t) (asgT S.T cf mf t))
abbrev SGs (S : Sit) (cf mf : Calls) (X : Cx) (es : List Expr) (t : Ts) : Prop := PGs X es (LGs S (tgsV t) (asgTs S.T cf mf t))
theorem g_nm (C : Cxk S sc N top cf mf X) {i : Nat} (hi : N[i]? = some x) (h : stoB top sc x = true) : SG S cf mf X (.Name x pos) (.nm i) :=
 sg_nm C.cx hi (sto_of C h).1 (sto_of C h).2
theorem g_nil : SGs S cf mf X [] .nil := sgs_nil
theorem g_cons {t : Tg} {ts : Ts} (h1 : SG S cf mf X e t) (h2 : SGs S cf mf X es ts) (hs : (assignEach (e :: es) X.env).map (·.2) = assign e X.env :: (assignEach es X.env).map (·.2)) : SGs S cf mf X (e :: es) (.cons t ts) := sgs_cons h1 h2 hs
theorem g_tp (C : Cxk S sc N top cf mf X) {kk : Nat} {ts : Ts} (h : SGs S cf mf X es ts) (hn : (assignEach es X.env).length = lenT ts) (hst : (assignEach es X.env).findIdx? (·.1) = none) : SG S cf mf X (.Tuple es kk pos) (.tp ts) := sg_tp C.cx h hn hst
theorem g_sub (C : Cxk S sc N top cf mf X) {i : Expr} {ci : Ex} (ho : SE S (fun _ _ _ _ => False) cf mf X o co) (hi : SE S (fun _ _ _ _ => False) cf mf X i ci)
  (ha : ∀ v, assign (.Subscript o i pos) X.env v = (do
   let ov ← holding [v] (eval o X.env)
   let iv ← holding [v, ov] (eval i X.env)
   standAt pos
   holding [v, ov, iv] (setItem ov iv v)
   release [v, ov, iv] [])) : SG S cf mf X (.Subscript o i pos) (.sb co ci) := sg_sub C.cx ho hi ha
def hvB (t : Tg) (own : List (Str × Nat)) : Bool := (tgV t).all fun i => (own.map (·.2)).contains i
theorem hv_of {t : Tg} {own : List (Str × Nat)} (h : hvB t own = true) : ∀ i ∈ tgV t, i ∈ own.map (·.2) := fun i hi => by
 have := List.all_eq_true.mp h i hi
 simpa using this
theorem blk_of (C : Cxk S sc N top cf mf X) {scope : Scope} {own : List (Str × Nat)} (h : blkC N sc scope own = true) : BlkOk X.N X.env.scope scope own := by
 rw [C.cx.hN, C.cx.sc]; exact blkOk_by h
theorem c_none : PTs X [] (LT S WF0 (evT S.T cf mf (.v (.lit (.bl true))))) := tests_none
theorem c_one {t : Te} (h : ST S WF0 cf mf X c t) : PTs X [c] (LT S WF0 (evT S.T cf mf t)) := tests_one h
theorem n_lc (C : Cxk S sc N top cf mf X) {elt iter : Expr} {ifs : List Expr} {scope : Scope} (own : List (Str × Nat)) {t : Tg} {it : It} {c : Te} {ce : Ex} (hi : SI S W cf mf X tg iter it) (ok : blkC N sc scope own = true) (hv : hvB t own = true)
  (h : ∀ X', Cxk S (relab scope sc) N false cf mf X' → L2.Takes X' WF0 → SG S cf mf X' tg t ∧ PTs X' ifs (LT S WF0 (evT S.T cf mf c)) ∧ SE S WF0 cf mf X' elt ce)
  (hs : ∀ x, foldedSetIterable iter X.env x = pure x) : SN S W cf mf X (.ListComp elt [⟨tg, iter, ifs, 0⟩] scope pos) (.lcp (own.map (·.2)) t it c ce) :=
 sn_lc C.cx hi (blk_of C ok) (hv_of hv) (fun s H K cl fp => (h _ (C.blk scope s H K cl fp) (takes_blk _ _ _ _ _)).1) (fun s H K cl fp => (h _ (C.blk scope s H K cl fp) (takes_blk _ _ _ _ _)).2.1) (fun s H K cl fp => (h _ (C.blk scope s H K cl fp) (takes_blk _ _ _ _ _)).2.2) hs
abbrev SS (S : Sit) (W : L2.WX) (cf mf : Calls) (n : Nat) (X : Cx) (st : Stmt) (k : Sm) : Prop := PS X st (LS S W (exS S.T cf mf n k))
abbrev SB (S : Sit) (W : L2.WX) (cf mf : Calls) (n : Nat) (X : Cx) (st : List Stmt) (k : Ss) : Prop := PSs X st (LS S W (exB S.T cf mf n k))
theorem b_nil : SB S W cf mf n X [] .nil := sb_nil
theorem b_cons (h1 : SS S W cf mf n X st k) (h2 : SB S W cf mf n X rest ks) : SB S W cf mf n X (st :: rest) (.cons k ks) := sb_cons h1 h2
theorem x_dead : SS S W cf mf n X st .dead := ss_dead
theorem x_ret (h : SE S W cf mf X e ce) : SS S W cf mf n X (.Return (some e) pos) (.ret ce) := ss_ret h
theorem x_drop (h : SE S W cf mf X e ce) (hs : noComp e = true) : SS S W cf mf n X (.Expr e pos) (.drop ce) := ss_drop h (sw_no hs)
theorem x_if {ct : Te} {x y : List Stmt} {cx cy : Ss} (h : ST S W cf mf X c ct) (hx : SB S W cf mf n X x cx) (hy : SB S W cf mf n X y cy) : SS S W cf mf n X (.If c x y pos) (.ifs ct cx cy) := ss_if h hx hy
theorem x_asg {t : Tg} (h : SE S W cf mf X e ce) (hg : SG S cf mf X tg t) (hn : isName tg = false) (hw : swappedStores [tg] e X.env = pure none) (h1 : (assignEach [tg] X.env).map (·.2) = [assign tg X.env]) : SS S W cf mf n X (.Assign [tg] e pos) (.asg t ce) := ss_asg h hg (sw_else hn) hw h1
theorem x_set (C : Cxk S sc N top cf mf X) {i : Nat} {pos' : Pos} (h : SE S W cf mf X e ce) (hi : N[i]? = some x) (hx : stoB top sc x = true) (hs : noComp e = true) : SS S W cf mf n X (.Assign [.Name x pos'] e pos) (.asg (.nm i) ce) :=
 ss_set C.cx hi (sto_of C hx).1 (sto_of C hx).2 h (sw_no hs)
theorem x_whl {ct : Te} {body : List Stmt} {cb : Ss} (hp : PassesOwn (model X.prog X.w) X.A X.env X.xe) (hc : ST S W cf mf X c ct) (hb : SB S W cf mf n X body cb) : SS S W cf mf n X (.While c body [] pos) (.whl ct cb) := ss_whl hp hc hb
theorem x_for (C : Cxk S sc N top cf mf X) {t : Tg} {it : It} {body : List Stmt} {cb : Ss} (hp : PassesOwn (model X.prog X.w) X.A X.env X.xe) (hi : SI S W cf mf X tg iter it) (hg : SG S cf mf X tg t) (hb : SB S (WC X W) cf mf n X body cb) (hs : ∀ x, foldedSetIterable iter X.env x = pure x) :
  SS S W cf mf n X (.For tg iter body [] pos) (.for t it cb) := ss_for C.cx hp hi hg hb hs
theorem x_fld (G : Glob g S) (C : Cxk S sc N top cf mf X) {f : Nat} {pos' : Pos} (ho : SE S W cf mf X o co) (he : SE S W cf mf X e ce) (hf : g.names[f]? = some x) : SS S W cf mf n X (.Assign [.Attribute o x pos'] e pos) (.asg (.at co f) ce) :=
 ss_fld C.cx G.co (by unfold Sit.an; rw [G.hn, List.getD_eq_getElem?_getD, hf]; rfl) ho he (sw_else rfl)
def kfB (sc : Scope) : Bool := match sc.kind with
 | .function => true
 | _ => false
theorem kf_of (h : kfB sc = true) : sc.kind = .function := by
 unfold kfB at h
 split at h
 ·assumption
 ·cases h
theorem x_setLc (C : Cxk S sc N top cf mf X) {i : Nat} {py spos : Pos} {elt : Expr} {ifs : List Expr} {scope : Scope} (own : List (Str × Nat)) {t : Tg} {it : It} {ct : Te} (o : Bool) (hy : N[i]? = some y) (hb : (loB sc y && kfB sc && swB sc scope y py pos) = true)
  (hi : SI S W cf mf X tg iter it) (ok : blkC N sc scope own = true) (hv : hvB t own = true)
  (h : ∀ X', Cxk S (relab scope sc) N false cf mf X' → L2.Takes X' WF0 → SG S cf mf X' tg t ∧ PTs X' ifs (LT S WF0 (evT S.T cf mf ct)) ∧ SE S WF0 cf mf X' elt ce)
  (hs : ∀ x, foldedSetIterable iter X.env x = pure x) : SS S W cf mf n X (.Assign [.Name y py] (.ListComp elt [⟨tg, iter, ifs, 0⟩] scope pos) spos) (.asg (.nm i) (.new o (.lcp (own.map (·.2)) t it ct ce))) := by
 rw [Bool.and_eq_true, Bool.and_eq_true] at hb
 exact ss_setLc C.cx hy (lo_of C hb.1.1) (by rw [sw_lc C.cx.sc (kf_of hb.1.2), hb.2]) hi (blk_of C ok) (hv_of hv) (fun s H K cl fp => (h _ (C.blk scope s H K cl fp) (takes_blk _ _ _ _ _)).1) (fun s H K cl fp => (h _ (C.blk scope s H K cl fp) (takes_blk _ _ _ _ _)).2.1) (fun s H K cl fp => (h _ (C.blk scope s H K cl fp) (takes_blk _ _ _ _ _)).2.2) hs
theorem x_setLn (C : Cxk S sc N top cf mf X) {i : Nat} {py spos : Pos} {elt : Expr} {gs : List Comprehension} {scope : Scope} (h : SE S W cf mf X (.ListComp elt gs scope pos) ce) (hi : N[i]? = some y) (hx : stoB top sc y = true) (hb : (kfB sc && !swB sc scope y py pos) = true) : SS S W cf mf n X (.Assign [.Name y py] (.ListComp elt gs scope pos) spos) (.asg (.nm i) ce) := by
 rw [Bool.and_eq_true, Bool.not_eq_true'] at hb
 exact ss_set C.cx hi (sto_of C hx).1 (sto_of C hx).2 h (by rw [sw_lc C.cx.sc (kf_of hb.1), hb.2])
def parB (sc : Scope) (ts : List Expr) (vs : List Expr) : Bool := match sc.kind with
 | .function => (ts.length == 2 || ts.length == 3) && vs.length == ts.length && !(vs.any fun | .Starred .. => true | _ => false) &&
   (let line := (ts.head?.map (·.pos.line)).getD 0
    let names := ts.filterMap fun
    | .Name id pos => if sc.names.lookup id == some .local && pos.line == line then some id else none
    | _ => none
    names.length == ts.length && names.eraseDups.length == names.length && !(vs.all (foldedForSure 8)) && !(vs.all (constantsAlone 8)))
 | _ => false
def noParB (sc : Scope) (ts : List Expr) (vs : List Expr) : Bool := match sc.kind with
 | .function => !(ts.length == 2 || ts.length == 3) || vs.length != ts.length || (vs.any fun | .Starred .. => true | _ => false) ||
   (let line := (ts.head?.map (·.pos.line)).getD 0
    let names := ts.filterMap fun
    | .Name id pos => if sc.names.lookup id == some .local && pos.line == line then some id else none
    | _ => none
    names.length != ts.length || names.eraseDups.length != names.length || (vs.all (foldedForSure 8)))
 | _ => false
end
end Mn
end
section
namespace Mn
open PySem PySem.Spec PyProof.Rows L2
def isStarE : Expr → Bool
 | .Starred .. => true
 | _ => false
def nmIf (sc : Scope) (line : Nat) : Expr → Option Str
 | .Name id pos => if sc.names.lookup id == some .local && pos.line == line then some id else none
 | _ => none
def bkS (sc : Scope) : ScopeKind := if sc.kind.isAnnotationScope then .function else sc.kind
def lnS (ts : List Expr) : Nat := (ts.head?.map (·.pos.line)).getD 0
def nmS (sc : Scope) (ts : List Expr) : List Str := ts.filterMap (nmIf sc (lnS ts))
def swS (sc : Scope) (ts vs : List Expr) : Option (Option (List Str)) :=
 if (!(ts.length == 2 || ts.length == 3) || vs.length != ts.length || bkS sc != .function) = true then some none else
 if vs.any isStarE = true then some none else
 if ((nmS sc ts).length != ts.length || (nmS sc ts).eraseDups.length != (nmS sc ts).length) = true then some none else
 if vs.all (foldedForSure 8) = true then some none else
 if vs.all (constantsAlone 8) = true then none else some (some (nmS sc ts))
theorem sw_is {env : Env} {sc : Scope} {ts vs : List Expr} {kt k2 : _} {pt pt2 : Pos} {r : Option (List Str)} (he : env.scope = sc) (h : swS sc ts vs = some r) : swappedStores [.Tuple ts kt pt] (.Tuple vs k2 pt2) env = pure r := by
 subst he
 have key : swappedStores [.Tuple ts kt pt] (.Tuple vs k2 pt2) env = (
  if (!(ts.length == 2 || ts.length == 3) || vs.length != ts.length || bkS env.scope != .function) = true then pure none else
  if vs.any isStarE = true then pure none else
  if ((nmS env.scope ts).length != ts.length || (nmS env.scope ts).eraseDups.length != (nmS env.scope ts).length) = true then pure none else
  if vs.all (foldedForSure 8) = true then pure none else
  if vs.all (constantsAlone 8) = true then (do unsupported "assign.tuple-of-constant-expressions:order-of-the-stores"; pure (some (nmS env.scope ts))) else pure (some (nmS env.scope ts))) := rfl
 rw [key]
 unfold swS at h
 by_cases q1 : (!(ts.length == 2 || ts.length == 3) || vs.length != ts.length || bkS env.scope != .function) = true
 ·rw [if_pos q1] at h ⊢; cases h; rfl
 rw [if_neg q1] at h ⊢
 by_cases q2 : vs.any isStarE = true
 ·rw [if_pos q2] at h ⊢; cases h; rfl
 rw [if_neg q2] at h ⊢
 by_cases q3 : ((nmS env.scope ts).length != ts.length || (nmS env.scope ts).eraseDups.length != (nmS env.scope ts).length) = true
 ·rw [if_pos q3] at h ⊢; cases h; rfl
 rw [if_neg q3] at h ⊢
 by_cases q4 : vs.all (foldedForSure 8) = true
 ·rw [if_pos q4] at h ⊢; cases h; rfl
 rw [if_neg q4] at h ⊢
 by_cases q5 : vs.all (constantsAlone 8) = true
 ·rw [if_pos q5] at h; cases h
 rw [if_neg q5] at h ⊢; cases h; rfl
theorem sole {t e : Expr} {l : Nat} {env : Env} (h : isName t = false) : swapsWithSole [t] e l env = pure false := sw_else h
section
variable {g : Gd} {S : Sit} {W : L2.WX} {cf mf : Calls} {n : Nat} {X : Cx} {sc : Scope} {N : List Str} {top : Bool} {st : Stmt} {rest : List Stmt} {a b c d e o tg iter : Expr} {es : List Expr} {ca cb cc ce cd co : Ex} {cs : Es} {pos p apos cpos p1 p2 p3 : Pos} {k : Sm} {ks : Ss} {x y z : Str}
theorem x_asgT (C : Cxk S sc N top cf mf X) {ts vs : List Expr} {kt k2 : _} {pt pt2 : Pos} {t : Tg} (h : SE S W cf mf X (.Tuple vs k2 pt2) ce) (hg : SG S cf mf X (.Tuple ts kt pt) t) (hw : swS sc ts vs = some none) (h1 : (assignEach [.Tuple ts kt pt] X.env).map (·.2) = [assign (.Tuple ts kt pt) X.env]) :
  SS S W cf mf n X (.Assign [.Tuple ts kt pt] (.Tuple vs k2 pt2) pos) (.asg t ce) := ss_asg h hg (sole rfl) (sw_is C.cx.sc hw) h1
theorem x_par (C : Cxk S sc N top cf mf X) {i j : Nat} {px py pt : Pos} {kt k2 pt2} (ha : SA S W cf mf X [a, b] cs) (hi : N[i]? = some x) (hj : N[j]? = some y) (hb : (loB sc x && loB sc y && !(i == j)) = true) (hw : swS sc [.Name x px, .Name y py] [a, b] = some (some [x, y])) :
  SS S W cf mf n X (.Assign [.Tuple [.Name x px, .Name y py] kt pt] (.Tuple [a, b] k2 pt2) pos) (.asg (.tp (.cons (.nm i) (.cons (.nm j) .nil))) (.tup cs)) := by
 simp only [Bool.and_eq_true, Bool.not_eq_true', beq_eq_false_iff_ne, ne_eq] at hb
 exact ss_par C.cx hi hj hb.2 (lo_of C hb.1.1) (lo_of C hb.1.2) ha (sw_is C.cx.sc hw) (sole rfl)
end
end Mn
end
section
namespace Mn
open PySem PySem.Spec PyProof.Rows L2
section
variable {g : Gd} {S : Sit} {W : L2.WX} {cf mf : Calls} {n : Nat} {X : Cx} {sc : Scope} {N : List Str} {top : Bool} {o : Expr} {co : Ex} {pos : Pos} {x : Str}
end
end Mn
end
section
namespace Mn
open PySem PySem.Spec PyProof.Rows L2
section
variable {S : Sit} {W : L2.WX} {cf mf : Calls} {X : Cx} {sc : Scope} {N : List Str} {o : Expr} {co : Ex} {pos p apos : Pos}
end
section
variable {g : Gd} {S : Sit} {W : L2.WX} {cf mf : Calls} {n : Nat} {X : Cx} {sc : Scope} {N : List Str} {top : Bool} {e o : Expr} {es : List Expr} {co : Ex} {cs : Es} {pos p apos : Pos} {x : Str}
end
end Mn
end
section
namespace Mn
open PySem PySem.Spec PyProof.Rows L2
structure Lw where
 g : Gd
 cn : List Str
 dfs : List He.DefD
def Lw.cl (L : Lw) (i : Nat) : Str := L.cn.getD i ⟨#[]⟩
def Lw.at_ (L : Lw) (i : Nat) : Str × Option Str := ((L.dfs[i]?).map (·.at_)).getD (⟨#[]⟩, none)
noncomputable def sit (L : Lw) (P : Program) (w : World) (K : PySem.W.Frag) (mg : Str → Option Value) (base : Heap) : Sit where
 P := P
 w := w
 K := K
 mg := mg
 base := base
 ca := fun i => He.ga K (L.cl i)
 fa := fun i => He.fAd K (L.at_ i)
 names := L.g.names
 T := L.g.T
def conFa : Str × D → He.Fa
 | (x, .int i) => .int x i
 | (x, .str z) => .str x z
 | (x, _) => .glo x
def conSt : Str × D → Bool
 | (_, .int _) => true
 | (_, .str z) => strOk z
 | _ => false
def basT : List String := ["bool", "int", "str", "list", "tuple", "dict"]
def tellB (L : Lw) (nc : Nat) (K : PySem.W.Frag) : Bool :=
 (L.g.fns.all fun p => (He.Fa.glo p.1).ok K) && (L.g.cls.all fun p => (He.Fa.glo p.1).ok K) && (L.g.bi.all fun x => (He.Fa.free x).ok K) && (L.g.con.all fun p => (conFa p).ok K) &&
 ((List.range nc).all fun c => (He.Fa.cls (L.cl c)).ok K && (He.Fa.mkr (L.cl c)).ok K &&
  (match L.g.T.cl c with
   | some k => (k.ats.all fun f => (He.Fa.noat (L.cl c) (L.g.names.getD f ⟨#[]⟩)).ok K) && ((List.range L.g.names.length).all fun m => match k.mth m with
    | some _ => (He.Fa.meth (L.cl c) (L.g.names.getD m ⟨#[]⟩)).ok K
    | none => true)
   | none => false) &&
  (("NoneType" :: basT).all fun n => decide (PySem.W.kitOne K (.type n) (.ref (He.ga K (L.cl c))) = some false)) && (basT.all fun n => decide (PySem.W.kitOne K (.ref (He.ga K (L.cl c))) (.type n) = some false)) &&
  ((List.range nc).all fun d => decide (PySem.W.kitOne K (.ref (He.ga K (L.cl c))) (.ref (He.ga K (L.cl d))) = some (c == d))) &&
  decide (PySem.W.findIn K (.ref (He.ga K (L.cl c))) "__class__" = some (some (.builtin "object.__class__"))) && decide (PySem.W.mroIn K (He.ga K (L.cl c)) (.type "object") = some true)) &&
 decide (PySem.W.specialIn K (.builtin "object.__class__") "__get__" = some (some (.builtin "getset_descriptor.__get__"))) && decide (PySem.W.takesIn K (.builtin "object.__class__") = some true)
def stB (L : Lw) (nc nf : Nat) : Bool :=
 decide L.g.names.Nodup && (L.g.fns.all fun p => decide (L.at_ p.2 = (p.1, none)) && Nat.blt p.2 nf) && (L.g.cls.all fun p => decide (L.cl p.2 = p.1) && Nat.blt p.2 nc) && (L.g.con.all conSt) &&
 ((List.range nc).all fun c => match L.g.T.cl c with
  | some k => (k.ats.all fun f => Nat.blt f L.g.names.length) && decide (L.at_ k.init = (L.cl c, some ("__init__" : Str))) && Nat.blt k.init nf && ((List.range L.g.names.length).all fun m => match k.mth m with
   | some f => decide (L.at_ f = (L.cl c, some (L.g.names.getD m ⟨#[]⟩))) && Nat.blt f nf
   | none => true)
  | none => false)
section
variable {L : Lw} {P : Program} {w : World} {K : PySem.W.Frag} {mg : Str → Option Value} {base h : Heap} {nc nf : Nat}
theorem glob_of (st : stB L nc nf = true) (hc : ∀ c, (L.g.T.cl c).isSome = true → c < nc) (hm : ∀ c k m f, L.g.T.cl c = some k → k.mth m = some f → m < L.g.names.length)
  (hf : ∀ f, f < nf → ∃ F, L.g.T.fn f = some F) (X : K.In h) (G : h.Ns mainGlobals mg) (hd : ∀ (i : Nat) (d : He.DefD), L.dfs[i]? = some d → PySem.W.keepIn K (.ref (He.fAd K d.at_)) = true) (hl : L.dfs.length = nf) (ex : tellB L nc K = true) : Glob L.g (sit L P w K mg base) := by
 unfold stB at st
 unfold tellB at ex
 simp only [Bool.and_eq_true, List.all_eq_true, decide_eq_true_eq] at st ex
 obtain ⟨⟨⟨⟨s1, s2⟩, s3⟩, s4⟩, s5⟩ := st
 obtain ⟨⟨⟨⟨⟨⟨x1, x2⟩, x3⟩, x4⟩, x5⟩, x6⟩, x7⟩ := ex
 have cls : ∀ c k, L.g.T.cl c = some k → c ∈ List.range nc := fun c k e => List.mem_range.mpr (hc c (by rw [e]; rfl))
 refine ⟨rfl, rfl, ⟨s1, fun c k e f hf => ?_⟩, ?_, fun p hp => ?_, fun p hp => ?_, fun x hx => He.free_ok X G (x3 x hx), fun p hp => ?_, fun c k m f e1 e2 => ?_⟩
 ·have a := s5 c (cls c k e)
  have b := (x5 c (cls c k e)).1.1.1.1.1.2
  rw [show L.g.T.cl c = some k from e] at a b
  simp only [Bool.and_eq_true, List.all_eq_true, decide_eq_true_eq] at a b
  exact ⟨Nat.blt_eq.mp (a.1.1.1 f hf), He.noat_ok (b.1 f hf)⟩
 ·refine ⟨fun c n h1 h2 => ?_, fun c n h1 h2 => ?_, fun c d h1 h2 => ?_, fun c h1 => ?_, x6, x7, fun c h1 => ?_⟩
  ·exact (x5 c (List.mem_range.mpr (hc c h1))).1.1.1.1.2 n h2
  ·exact (x5 c (List.mem_range.mpr (hc c h1))).1.1.1.2 n h2
  ·exact (x5 c (List.mem_range.mpr (hc c h1))).1.1.2 d (List.mem_range.mpr (hc d h2))
  ·exact (x5 c (List.mem_range.mpr (hc c h1))).1.2
  ·exact (x5 c (List.mem_range.mpr (hc c h1))).2
 ·obtain ⟨a1, a2⟩ := s2 p hp
  have a3 := Nat.blt_eq.mp a2
  obtain ⟨d, ed⟩ : ∃ d, L.dfs[p.2]? = some d := ⟨_, List.getElem?_eq_getElem oM⟩
  have e : (sit L P w K mg base).fa p.2 = He.ga K p.1 := by
   show He.fAd K (L.at_ p.2) = _
   rw [a1]; rfl
  have e2 : L.at_ p.2 = d.at_ := by unfold Lw.at_; rw [ed]; rfl
  refine ⟨by rw [e]; exact He.glo_ok X G (x1 p hp), ?_⟩
  show PySem.W.keepIn K (.ref (He.fAd K (L.at_ p.2))) = true
  rw [e2]
  exact hd _ d ed
 ·obtain ⟨a1, a2⟩ := s3 p hp
  refine ⟨?_, ?_⟩
  ·show mg p.1 = some (.ref (He.ga K (L.cl p.2)))
   rw [a1]
   exact He.glo_ok X G (x2 p hp)
  ·have := s5 p.2 (List.mem_range.mpr (Nat.blt_eq.mp a2))
   show (L.g.T.cl p.2).isSome = true
   cases e : L.g.T.cl p.2 with
   | none => rw [e] at this; cases this
   | some k => rfl
 ·have a := s4 p hp
  have b := x4 p hp
  obtain ⟨x, d⟩ := p
  cases d with
  | int i =>
   obtain ⟨t, e⟩ := He.int_ok X G b
   exact ⟨_, e, .int i, ⟨t, rfl⟩, fun _ _ => .int i⟩
  | str z =>
   obtain ⟨t, e⟩ := He.str_ok X G b
   exact ⟨_, e, .str z, ⟨t, rfl⟩, fun _ _ => .str z a⟩
  | _ => cases a
 ·have a := s5 c (cls c k e1)
  have b := (x5 c (cls c k e1)).1.1.1.1.1.2
  rw [show L.g.T.cl c = some k from e1] at a b
  simp only [Bool.and_eq_true, List.all_eq_true, decide_eq_true_eq] at a b
  have hml := List.mem_range.mpr (hm c k m f e1 e2)
  have a2 := a.2 m hml
  have b2 := b.2 m hml
  rw [e2] at a2 b2
  simp only [Bool.and_eq_true, decide_eq_true_eq] at a2
  refine ⟨?_, hf f (Nat.blt_eq.mp a2.2)⟩
  show Meth K (He.ga K (L.cl c)) _ (He.fAd K (L.at_ f))
  rw [a2.1]
  exact He.meth_ok b2
theorem clOk_of (st : stB L nc nf = true) (hc : ∀ c, (L.g.T.cl c).isSome = true → c < nc) (hf : ∀ f, f < nf → ∃ F, L.g.T.fn f = some F) (h0 : ∀ c C F, L.g.T.cl c = some C → L.g.T.fn C.init = some F → 0 < F.np) (ex : tellB L nc K = true) :
  ∀ c C, (sit L P w K mg base).T.cl c = some C → ∃ F, (sit L P w K mg base).T.fn C.init = some F ∧ 0 < F.np ∧ Mk (sit L P w K mg base).K ((sit L P w K mg base).ca c) ((sit L P w K mg base).fa C.init) ∧ Cls (sit L P w K mg base).K ((sit L P w K mg base).ca c) := by
 intro c C e
 unfold stB at st
 unfold tellB at ex
 simp only [Bool.and_eq_true, List.all_eq_true, decide_eq_true_eq] at st ex
 have hr := List.mem_range.mpr (hc c (by rw [show L.g.T.cl c = some C from e]; rfl))
 have a := st.2 c hr
 have b := ex.1.1.2 c hr
 rw [show L.g.T.cl c = some C from e] at a
 simp only [Bool.and_eq_true, List.all_eq_true, decide_eq_true_eq] at a
 obtain ⟨F, hF⟩ := hf _ (Nat.blt_eq.mp a.1.2)
 refine ⟨F, hF, h0 c C F e hF, ?_, He.cls_ok b.1.1.1.1.1.1.1⟩
 show Mk K (He.ga K (L.cl c)) (He.fAd K (L.at_ C.init))
 rw [a.1.1.2]
 exact He.mkr_ok b.1.1.1.1.1.1.2
end
theorem mem_lt : ∀ (l : List (Nat × Nat)) (m f : Nat), l.lookup m = some f → ∀ n, (l.all fun p => Nat.blt p.1 n) = true → m < n
 | [], m, f, h, _, _ => by cases h
 | (a, b) :: r, m, f, h, n, hn => by
  rw [List.all_cons, Bool.and_eq_true] at hn
  rw [List.lookup_cons] at h
  split at h
  ·rename_i hb
   rw [eq_of_beq hb]
   exact Nat.blt_eq.mp hn.1
  ·exact mem_lt r m f h n hn.2
theorem top_ok {S : Sit} {n k f : Nat} {F : Fn} (T : TabOk S n) (hf : S.T.fn f = some F) {x qual : Str} {params : Arguments} {body : List Stmt} {scope : Scope} {N ps : List Str} {fd : FuncData} (fD : FunD S.K x qual params body scope [] [] (S.fa f) fd) (hs : FnScope N ps scope) (hp : ps.length = F.np) (hN : N.length = F.ns)
  (bd : ∀ (cf mf : Calls) (X : Cx) (W : L2.WX), Cxt S scope N X → (∀ x, X.fn x = true) → L2.Takes X W → PassesOwn (model X.prog X.w) X.A X.env X.xe → CallsOk S X cf mf → PSs X body (LS S W (exB S.T cf mf n F.body))) :
  FnOk S.P S.w S.K S.mg S.base (L2.CX S.P S.w) (k + 2) (S.fa f) fd ps (SpF S F.np (run S.T n (k + 1) false f)) := by
 obtain ⟨a, b⟩ := levs T k
 have er : (run S.T n (k + 1) false f) = fun as M => bodyR S.T n (run S.T n k false) (run S.T n k true) F F.esc M.length as none M M := by
  funext as M
  show (match S.T.fn f with | some F => bodyR S.T n (run S.T n k false) (run S.T n k true) F F.esc M.length as none M M | none => .bad) = _
  rw [hf]
 rw [er]
 refine fD.ok hs (fun vs H Q E q => by rw [q.1, hp]) (fun cdv A outer s H vs Q E hr hsp => ⟨_, bd (run S.T n k false) (run S.T n k true) _ (fun c d _ H => E c d H) ?_ (fun _ => rfl) ?_ ?_ (calls_of T a b rfl rfl rfl rfl rfl hr), spF_start hN hsp⟩)
 ·exact ⟨rfl, rfl, rfl, rfl, rfl, rfl, rfl, hs.nd, rfl, by have := hr.un; show (A.deeper _).units + 80 < cLine; omega⟩
 ·exact L2.takes_of rfl rfl rfl rfl
 ·exact L2.passes_of rfl
theorem sp_of {S : Sit} {k f n : Nat} {H : Hp} {a : Addr} {ns : List Int} {M : Mem} (hS : SqL S.K H a (ns.map V.int)) (e : run S.T n k false f [.scr ns] [] = .ok (.bl true) M) : SpF S 1 (run S.T n k false f) [.ref a] H (fun v _ => v = .bl true) fun _ _ _ => False := by
 refine ⟨rfl, [], H, fun _ => none, [], [.scr ns], ⟨rfl, List.nodup_nil, fun i d a h => by simp at h, fun i a h => by simp at h, fun a o h => .inl h, fun a o h => by cases h⟩, .cons (.scr hS) .nil, ?_⟩
 rw [e]
 intro ι' F' H' _ _ _ v dv
 cases dv
 rfl
theorem walk_w {l : PySem.W.OpenLaw} {L : Lw} {m k f hx : Nat} {F : Fn} {q : Program} {loose : List Str} {XP : (Str → Option Value) → Heap → Prop} {fa : List He.Fa} {ts : List He.Tab} {tf : List He.Defn} {ex : PySem.W.Frag → Bool} {d : DefRec} {x : Str} {dl : He.DefD} {N : List Str}
  (hn : l.most = some m) (hn2 : m ≤ sizeLine) (hdf : d.params.defaults = []) (hr : Room (k + 2) callerA) (hnm : d.name = dl.at_.1)
  (hT : ∀ (w : World) (K : PySem.W.Frag) (mg : Str → Option Value) (base h : Heap), K.In h → h.Ns mainGlobals mg → He.SaysD fa L.dfs K → ex K = true → ∀ n, TabOk (sit L l.prog w K mg base) n)
  (hf : L.g.T.fn f = some F) (hp : F.np = 1) (hd : L.dfs[f]? = some dl) (hat : dl.at_.2 = none) (hgl : ∀ K, ex K = true → (He.Fa.glo dl.at_.1).ok K = true) (hdv : dl.dfl = [] ∧ dl.kwd = []) (hs : FnScope N [x] dl.scope) (hN : N.length = F.ns)
  (hb : ∀ (kV doc pm : Value) (an : Option Addr) (cdv ct : Value) (us : List Value), us.length = 1 → bindArgs (PySem.W.fnOf dl.name dl.qual dl.params dl.body dl.scope .none kV doc pm an cdv ct) ⟨us, []⟩ = pure ([x].zip us))
  (bd : ∀ (w : World) (K : PySem.W.Frag) (mg : Str → Option Value) (base h : Heap), K.In h → h.Ns mainGlobals mg → He.SaysD fa L.dfs K → ex K = true → ∀ n (cf mf : Calls) (X : Cx) (W : L2.WX), Cxt (sit L l.prog w K mg base) dl.scope N X → (∀ x, X.fn x = true) → L2.Takes X W → PassesOwn (model X.prog X.w) X.A X.env X.xe → CallsOk (sit L l.prog w K mg base) X cf mf → PSs X dl.body (LS (sit L l.prog w K mg base) W (exB L.g.T cf mf n F.body)))
  (law : ∀ ns : List Int, ns.length ≤ m → ∃ n M, run L.g.T n (k + 1) false f [.scr ns] [] = .ok (.bl true) M) :
  PySem.W.WalkO q loose XP (He.hookX hx fa L.dfs ts tf ex).says l.row.toRowW d [] (fun f vs => PySem.call f vs) := by
 refine Att.attach_call hn hdf fun w s₀ s₁ mg mb fa' o pm cd doc a vs ns G Y ho hd' hcd hmg hobj hints hlen hg => ?_
 obtain ⟨K, KX, sx⟩ := Y
 have c := sx.t.d
 obtain ⟨fd, FD⟩ := c.def_ f hd
 have e0 : dl.dvs K = [] := by unfold He.DefD.dvs; rw [hdv.1]; rfl
 have e1 : dl.kws K = [] := by unfold He.DefD.kws; rw [hdv.2]; rfl
 rw [e0, e1] at FD
 have eat : L.at_ f = dl.at_ := by unfold Lw.at_; rw [hd]; rfl
 have efa : fa' = He.fAd K dl.at_ := by
  have h1 := He.glo_ok KX G.T.g (hgl K sx.more)
  rw [hnm, h1] at hmg
  have h2 : He.ga K dl.at_.1 = fa' := by cases hmg; rfl
  rw [← h2]
  unfold He.fAd
  rw [hat]
 subst efa
 have bA := FunD.bindsA (ps := [x]) FD hb
 refine law_call (CX := L2.CX l.prog w) (k := k + 2) (x := x) (fd := fd) (sp := fun vs H Q E => ∀ base, ∃ n, SpF (sit L l.prog w K mg base) 1 (run L.g.T n (k + 1) false f) vs H Q E) KX G.T.g G.T.b G.T.builtins G.T.nolimit hg hobj hints (Nat.le_trans hlen hn2) hr (fun base kb gb => ?_) (fun s u => bA s [u] rfl) (fun H _ hS base => ?_) ?_
 ·have key : ∀ n, FnOk l.prog w K mg base (L2.CX l.prog w) (k + 2) (He.fAd K dl.at_) fd [x] (SpF (sit L l.prog w K mg base) 1 (run L.g.T n (k + 1) false f)) := fun n => by
   have z := top_ok (S := sit L l.prog w K mg base) (k := k) (hT w K mg base base kb gb c sx.more n) hf (x := dl.name) (qual := dl.qual) (params := dl.params) (body := dl.body) (scope := dl.scope) (fd := fd) (by show FunD K _ _ _ _ _ [] [] (He.fAd K (L.at_ f)) fd; rw [eat]; exact FD) hs hp.symm hN (bd w K mg base base kb gb c sx.more n)
   rw [hp] at z
   rw [← eat]
   exact z
  exact ⟨fun vs H Q E h => by obtain ⟨n, hn⟩ := h base; exact (key n).len vs H Q E hn, fun A outer s H args us vs Q E h1 h2 h3 h4 h5 => by obtain ⟨n, hn⟩ := h5 base; exact (key n).run A outer s H args us vs Q E h1 h2 h3 h4 hn⟩
 ·obtain ⟨n, M, e⟩ := law ns hlen
  exact ⟨n, sp_of hS e⟩
 ·intro H e s' ⟨_, _, _, _, _, _, _, _, _, _, _, _, z⟩
  exact z
end Mn
end
section
namespace Mn
open PySem PySem.Spec PyProof.Rows L2
def obsL (as : List Addr) (fn : List He.DefD) (ex : PySem.W.Frag → Bool) (g : Addr → Option Obj) : He.AlX := (He.obsT [] fn [] (He.frT g as), ex (He.frT g as))
def hookL (as : List Addr) (fn : List He.DefD) (ex : PySem.W.Frag → Bool) : PySem.W.Hook where
 α := He.AlX
 obs := fun s => obsL as fn ex s.heap.get?
 val := fun w => He.valX fn [] w
 says := fun w h => ∃ K : PySem.W.Frag, K.In h ∧ He.SaysX [] fn [] [] ex w h K
 of := fun _ _ e => ⟨_, He.frT_in, ⟨congrArg (fun z : He.AlX => z.1) e, congrArg (fun z : He.AlX => z.2) e, fun _ hp => (nomatch hp), fun _ hp => (nomatch hp), fun _ hp => (nomatch hp)⟩⟩
 keeps := fun _ _ _ ⟨K, hK, c⟩ k => ⟨K, PySem.W.Frag.In.keeps hK k, ⟨c.t, c.more, c.hd, c.out, fun p hp => k _ _ (c.empty p hp)⟩⟩
theorem obsL_eq {as : List Addr} {fn : List He.DefD} {ex : PySem.W.Frag → Bool} {g : Addr → Option Obj} {s : Shared} (h : ∀ a, g a = s.heap.get? a) : obsL as fn ex g = (hookL as fn ex).obs s := by
 have e : g = s.heap.get? := funext h
 rw [e] <;> rfl
end Mn
end
section
namespace Mn
open PySem PySem.Spec PyProof.Rows L2
def celB (sc : Scope) (x : Str) : Bool := match sc.names.lookup x with
 | some .cell => true
 | _ => false
theorem cel_of {sc : Scope} {x : Str} (h : celB sc x = true) : sc.names.lookup x = some .cell := by
 unfold celB at h
 split at h
 ·assumption
 ·cases h
section
variable {g : Gd} {S : Sit} {W : L2.WX} {cf mf : Calls} {n : Nat} {X : Cx} {sc : Scope} {N : List Str} {top : Bool} {st : Stmt} {rest : List Stmt} {a b c d e o tg iter : Expr} {es : List Expr} {ca cb cc ce cd co : Ex} {cs : Es} {pos p apos cpos p1 p2 p3 : Pos} {k : Sm} {ks : Ss} {x y z : Str}
theorem blk_fn (scope : Scope) (s : Shared) (H : Hp) (cenv : Env) (fp : List Addr) : ∀ x, celB scope x = true → (X.blk s H scope cenv fp).fn x = true := fun x hx => by
 show (scope.names.lookup x == some .cell) = true
 rw [cel_of hx]; rfl
theorem g_nmF (C : Cxk S sc N top cf mf X) {sc0 : Scope} (F : ∀ x, celB sc0 x = true → X.fn x = true) {i : Nat} (hi : N[i]? = some x) (h : (celB sc x && celB sc0 x) = true) : SG S cf mf X (.Name x pos) (.nm i) := by
 rw [Bool.and_eq_true] at h
 refine sg_nm C.cx hi ?_ (.inl (F x h.2))
 rw [C.cx.sc]
 exact .inr (cel_of h.1)
theorem n_lcF (C : Cxk S sc N top cf mf X) {elt iter : Expr} {ifs : List Expr} {scope : Scope} (own : List (Str × Nat)) {t : Tg} {it : It} {c : Te} {ce : Ex} (hi : SI S W cf mf X tg iter it) (ok : blkC N sc scope own = true) (hv : hvB t own = true)
  (h : ∀ X', Cxk S (relab scope sc) N false cf mf X' → L2.Takes X' WF0 → (∀ x, celB scope x = true → X'.fn x = true) → SG S cf mf X' tg t ∧ PTs X' ifs (LT S WF0 (evT S.T cf mf c)) ∧ SE S WF0 cf mf X' elt ce)
  (hs : ∀ x, foldedSetIterable iter X.env x = pure x) : SN S W cf mf X (.ListComp elt [⟨tg, iter, ifs, 0⟩] scope pos) (.lcp (own.map (·.2)) t it c ce) :=
 sn_lc C.cx hi (blk_of C ok) (hv_of hv) (fun s H K cl fp => (h _ (C.blk scope s H K cl fp) (takes_blk _ _ _ _ _) (blk_fn _ _ _ _ _)).1) (fun s H K cl fp => (h _ (C.blk scope s H K cl fp) (takes_blk _ _ _ _ _) (blk_fn _ _ _ _ _)).2.1) (fun s H K cl fp => (h _ (C.blk scope s H K cl fp) (takes_blk _ _ _ _ _) (blk_fn _ _ _ _ _)).2.2) hs
end
end Mn
end
section
namespace L2
open PySem PySem.Spec PyProof.Rows
def Itit (d : Addr) (o : Obj) (kvs : List (List Key × V)) : It :=
 ⟨fun i H => H d = some (.frz o (.dT kvs)) ∧ i < kvs.length, fun i H x H' => ∃ T k v q, kvs[i]? = some (k, v) ∧ x = .ref T ∧ H T = none ∧ H q = some (.tup (k.map kV)) ∧ H' = upd H T (.tup [.ref q, v]), fun i H => H d = some (.frz o (.dT kvs)) ∧ kvs.length ≤ i⟩
end L2
namespace Mn
open PySem PySem.Spec PyProof.Rows L2
section
variable {S : Sit} {W : L2.WX} {cf mf : Calls} {X : Cx} {sc : Scope} {N : List Str} {e : Expr} {ce : Ex} {apos cpos tpos : Pos}
variable {top : Bool} in
end
end Mn
end
section
namespace Mn
open PySem PySem.Spec PyProof.Rows L2
section
variable {S : Sit} {W : L2.WX} {cf mf : Calls} {X : Cx} {sc : Scope} {N : List Str} {a b : Expr} {ca cb : Ex} {pos : Pos}
theorem dun_core (C : Cxt S sc N X) (isf : IsF S) (tk : L2.Takes X W) (K : MthOk S X cf) {op : CmpOp} (hop : ∀ a b, compareOp op a b = richCompare op a b) {m : Nat} (hx : S.an m = (cmpInfo op).2.1) {pins : List (Addr × Obj)} {σ : L2.St} {H : Hp} {s : Shared} {ι : List Addr} {F G : Hp} {M : Mem} {x' y' : D} {x y : V} {v u : Value} {Q : VK}
  (I : Inv X pins σ H s) (R : Rel S ι F G M H) (dx : Den S ι F x' x) (dy : Den S ι F y' y) (rx : RelV x v) (ry : RelV y u)
  (q : PostG S (fun c e H => W c e σ H) ι F G (kV1 S Q) (match der M x' with
   | .ins c _ => match tyD (der M y') with
    | some _ => match (S.T.cl c).bind fun k => k.mth m with
     | some f => cf f [x', y'] M
     | none => .bad
    | none => .bad
   | _ => .bad)) : wpAny (model X.prog X.w) X.A (compareOp op v u) (EP X pins σ Q) X.xe s := by
 have dvx := dx.dv R
 have dvy := dy.dv R
 revert q dvx dvy
 generalize der M x' = z
 generalize der M y' = z2
 intro q dvx dvy
 cases dvx with
 | @ins a dx1 c gs fs h1 h2 h3 =>
  cases et : tyD z2 with
  | none => simp only [et] at q; exact False.elim q
  | some ty =>
   simp only [et] at q
   cases ef : (S.T.cl c).bind fun k => k.mth m with
   | none => simp only [ef] at q; exact False.elim q
   | some f =>
    simp only [ef] at q
    obtain ⟨k, hk, hf⟩ := Option.bind_eq_some_iff.mp ef
    obtain ⟨hm, cal⟩ := K c k m f hk hf
    obtain ⟨kk, fd, ps, np, F1', hr, hb, hnp⟩ := cal.ok
    obtain rfl : v = Value.ref a := rx
    rw [hx] at hm
    obtain ⟨mA, J, _⟩ := ins_get I.hok h1
    obtain ⟨od, J, _⟩ := J.look
    obtain ⟨mm, hF⟩ := I.fr
    obtain ⟨y1, y2, y3⟩ := tyx isf R.frz dvy et
    obtain ⟨P, Z, p, _⟩ := kit_y I ry (by rw [C.hK]; exact y1)
    have hsc : (S.T.cl c).isSome = true := by rw [hk]; rfl
    have hone : ∃ bb, PySem.W.kitOne S.K (tyW S ty) (.ref (S.ca c)) = some bb ∧ (bb = true → tyW S ty = .ref (S.ca c)) := by
     cases ty with
     | inl n => exact ⟨false, isf.b1 c n hsc (y2 n rfl), fun e => by cases e⟩
     | inr c2 =>
      refine ⟨c2 == c, isf.cc c2 c (y3 c2 rfl) hsc, fun e => ?_⟩
      have : c2 = c := eq_of_beq e
      rw [this]; rfl
    have hnf : PySem.W.notFirst X.K (S.ca c) (tyW S ty) = true := by
     rw [C.hK]
     obtain ⟨bb, e1, e2⟩ := hone
     unfold PySem.W.notFirst
     cases bb with
     | true => rw [e2 rfl]; simp
     | false =>
      unfold PySem.W.kitOne at e1
      split at e1
      ·cases e1
      ·unfold PySem.W.kitCls at e1
       simp only at e1
       split at e1
       ·rw [e1]; simp
       ·cases e1
    rw [hop]
    refine PySem.W.cmp_K (op := op) (tb := tyW S ty) (by have := C.hu; omega) hF I.ok.mod.kin J (Z.ty _ _ I.kIn p) hnf hm.at_ hm.fn ?_
    have hl : DenL S ι F [x', y'] [.ref a, y] := .cons dx (.cons dy .nil)
    refine wpAny_mono (run_fnS (us := [.ref a, u]) (vs := [.ref a, y]) (Q := Q) F1' hr hb (passAt tk σ) I (.cons rfl (.cons ry .nil)) ⟨?_, ι, F, G, M, [x', y'], R, hl, q⟩) (fun w s' z => ?_) fun _ _ x => x
    ·by_cases z : [x', y'].length = np
     ·exact z
     ·rw [hnp [x', y'] M z] at q
      exact False.elim q
    ·obtain ⟨z', H', I', rz, qz⟩ := z
     exact SlX.cmpback rz ⟨z', H', I', rz, qz⟩
 | _ => exact False.elim q
theorem se_dun (C : Cxt S sc N X) (isf : IsF S) (tk : L2.Takes X W) (K : MthOk S X cf) {op : CmpOp} (hop : ∀ a b, compareOp op a b = richCompare op a b) {m : Nat} (hx : S.an m = (cmpInfo op).2.1) (hm : behindInMarks op b = false) (ha : SE S W cf mf X a ca) (hb : SE S W cf mf X b cb) : SE S W cf mf X (.Compare a [op] [b] pos) (.dun m ca cb) := by
 refine ⟨fun pins s σ H Q I q => ?_⟩
 obtain ⟨ι, F, G, σ', M, R, rs, p⟩ := q
 have p := p.bind
 refine wpAny_Compare1 (thn (ha.run pins s σ H (fun x H1 => ∃ ι1 F1 M1 x', Rel S ι1 F1 G M1 H1 ∧ RS S ι1 F1 σ' σ ∧ Den S ι1 F1 x' x ∧ PostG S (fun c e H => W c e σ H) ι1 F1 G (kV1 S Q) ((ev S.T cf mf cb σ' M1).bind fun y' M2 => match der M2 x' with
   | .ins c _ => match tyD (der M2 y') with
    | some _ => match (S.T.cl c).bind fun k => k.mth m with
     | some f => cf f [x', y'] M2
     | none => .bad
    | none => .bad
   | _ => .bad)) I ⟨ι, F, G, σ', M, R, rs, p.imp fun x' ι1 F1 M1 H1 p1 s1 R1 q1 x dx => ⟨ι1, F1, M1, x', R1, rs.mono p1 s1, dx, q1⟩⟩) fun v s1 ⟨x, H1, I1, r1, ι1, F1, M1, x', R1, rs1, dx, q1⟩ => ?_) hm
 refine thn (hb.run pins s1 σ H1 (fun y H2 => ∃ ι2 F2 M2 y', Rel S ι2 F2 G M2 H2 ∧ Den S ι2 F2 x' x ∧ Den S ι2 F2 y' y ∧ PostG S (fun c e H => W c e σ H) ι2 F2 G (kV1 S Q) (match der M2 x' with
   | .ins c _ => match tyD (der M2 y') with
    | some _ => match (S.T.cl c).bind fun k => k.mth m with
     | some f => cf f [x', y'] M2
     | none => .bad
    | none => .bad
   | _ => .bad)) I1 ⟨ι1, F1, G, σ', M1, R1, rs1, q1.bind.imp fun y' ι2 F2 M2 H2 p2 s2 R2 q2 y dy => ⟨ι2, F2, M2, y', R2, dx.mono p2 s2, dy, q2⟩⟩) fun u s2 ⟨y, H2, I2, r2, ι2, F2, M2, y', R2, dx2, dy2, q2⟩ => ?_
 exact dun_core C isf tk K hop hx I2 R2 dx2 dy2 r1 r2 q2
end
section
variable {prog : Program} {w : World} {A : Around} {E : Value → Shared → Prop} {s : Shared}
theorem adjust_rev (n : Nat) : Builtin.Slice.sliceAdjust none none (-1) (n : Int) = ((n : Int) - 1, -1) := rfl
theorem places_rev (n : Nat) : Builtin.Slice.slicePlaces ((n : Int) - 1) (-1) (-1) = n := by
 unfold Builtin.Slice.slicePlaces
 have h1 : ¬ ((-1 : Int) > 0) := by omega
 simp only [h1, if_false]
 split
 ·have e : (-(-1 : Int)) = 1 := rfl
  rw [e, Int.ediv_one]
  omega
 ·omega
theorem sliceApplied_rev {sl : Addr} {vl vu vs : Value} {n : Nat} {Q : Int × Int × Nat → Shared → Prop} (hs : s.heap.IsSliceOf sl vl vu vs) (pl : IsPart vl none) (pu : IsPart vu none) (ps : IsPart vs (some (-1)))
  (h : Q ((n : Int) - 1, -1, n) s) : wpAny (model prog w) A (Builtin.Slice.sliceApplied (.ref sl) (pure (n : Int))) Q E s := by
 obtain ⟨os, hos, hcs, hds⟩ := id hs
 unfold Builtin.Slice.sliceApplied Builtin.Slice.sliceFields
 refine wpAny_bind (wpAny_bind (wpAny_field hos hds (x := vl) rfl (wpAny_bind (wpAny_field hos hds (x := vu) rfl (wpAny_bind (wpAny_field hos hds (x := vs) rfl (wpAny_pure ?_)))))))
 refine wpAny_bind (HT.slicePart_ ps ?_)
 show wpAny _ _ (if ((-1 : Int) == 0) = true then _ else _) _ _ s
 rw [if_neg (by decide)]
 refine wpAny_bind (HT.slicePart_ pl (wpAny_bind (HT.slicePart_ pu (wpAny_bind (wpAny_pure ?_)))))
 show wpAny _ _ (match Builtin.Slice.sliceAdjust none none (-1) (n : Int) with | (lo, hi) => pure (lo, (-1 : Int), Builtin.Slice.slicePlaces lo hi (-1))) _ _ s
 rw [adjust_rev]
 show wpAny _ _ (pure ((n : Int) - 1, (-1 : Int), Builtin.Slice.slicePlaces ((n : Int) - 1) (-1) (-1))) _ _ s
 rw [places_rev]
 exact wpAny_pure h
theorem pick_rev (xs : Array Value) : ((List.range xs.size).filterMap fun (m : Nat) => xs[(((xs.size : Int) - 1) + (m : Int) * (-1)).toNat]?).toArray = xs.toList.reverse.toArray := by
 have key : ∀ l : List Nat, (∀ m ∈ l, m < xs.size) → l.filterMap (fun (m : Nat) => xs[(((xs.size : Int) - 1) + (m : Int) * (-1)).toNat]?) = (l.map fun m => xs.size - 1 - m).filterMap fun i => xs[i]? := by
  intro l
  induction l with
  | nil => intro _; rfl
  | cons m r ih =>
   intro h
   have hm := h m List.mem_cons_self
   rw [List.map_cons, List.filterMap_cons, List.filterMap_cons, ih fun x hx => h x (List.mem_cons_of_mem _ hx)]
   have e : (((xs.size : Int) - 1) + (m : Int) * (-1)).toNat = xs.size - 1 - m := by omega
   rw [e]
 rw [key _ fun m hm => List.mem_range.mp hm, PySem.W.krv_range, List.filterMap_reverse, PySem.W.krv_all]
theorem getItem_tuple_rev {t sl : Addr} {items : Array Value} {vl vu vs : Value} {Q : Value → Shared → Prop} (ht : IsTup s.heap t items) (hs : s.heap.IsSliceOf sl vl vu vs) (pl : IsPart vl none) (pu : IsPart vu none) (ps : IsPart vs (some (-1)))
  (h : Q (.ref s.heap.objs.size) { s with heap := s.heap.push { cls := .type "tuple", data := .seq items.toList.reverse.toArray } })
  (hsz : items.size ≤ sizeLine) : wpAny (model prog w) A (getItem (.ref t) (.ref sl)) Q E s := by
 have htake : sizeOk (.seq items.toList.reverse.toArray) := by
  show items.toList.reverse.toArray.size ≤ sizeLine
  rw [List.size_toArray, List.length_reverse, Array.length_toList]
  exact hsz
 obtain ⟨os, hos, hcs, hds⟩ := id hs
 have hTs : s.TypeIs (.ref sl) "slice" := ⟨os, hos, hcs⟩
 unfold getItem
 try with_reducible refine wpAny_holding ?_
 first | refine wpAny_bind (wpAny_pure ?_) | skip
 refine wpAny_bind (wpAny_sequenceKey ht.typeIs (by decide) ?_)
 refine wpAny_bind (wpAny_callSpecial?_slot (name := Str.ofString "__getitem__") ht.typeIs PyProof.Rows.slot_tuple_getitem
  (wpAny_call_entry PyProof.Rows.slot_tuple_getitem ht.typeIs PyProof.Rows.entry_tuple_getitem ?_ (PyProof.Rows.args_tuple_getitem _ _)))
 show wpAny _ _ (Builtin.Tuple.tupleItemsOf (.ref t) >>= _) _ _ s
 refine wpAny_bind (PyProof.Rows.tupleItemsOf_ ht ?_)
 refine wpAny_bind (wpAny_typeOf hTs ?_)
 rw [if_pos (by decide)]
 refine wpAny_bind (sliceApplied_rev hs pl pu ps ?_)
 have hno : ¬ ((((items.size : Int) - 1 == 0) && ((-1 : Int) == 1) && (items.size == items.size)) = true) := by
  intro q
  rw [Bool.and_eq_true, Bool.and_eq_true] at q
  exact absurd q.1.2 (by decide)
 show wpAny _ _ (if (((items.size : Int) - 1 == 0) && ((-1 : Int) == 1) && (items.size == items.size)) = true then _ else _) _ _ s
 rw [if_neg hno, pick_rev]
 first
  | exact wpAny_bind (m := Builtin.Tuple.tupleExact _) (wpAny_newObj_type (wpAny_pure ⟨_, rfl, wpAny_pure h⟩) htake)
  | exact wpAny_bind (m := Builtin.Tuple.tupleExact _) (wpAny_newObj_type (wpAny_bind (wpAny_pure (wpAny_pure ⟨_, rfl, wpAny_pure h⟩))) htake)
  | exact wpAny_bind (wpAny_bind (m := Builtin.Tuple.tupleExact _) (wpAny_newObj_type (wpAny_pure (wpAny_pure ⟨_, rfl, wpAny_pure h⟩)) htake))
  | exact wpAny_bind (wpAny_bind (m := Builtin.Tuple.tupleExact _) (wpAny_newObj_type (wpAny_pure ⟨_, rfl, wpAny_pure h⟩) htake))
end
section
variable {S : Sit} {W : L2.WX} {cf mf : Calls} {X : Cx} {sc : Scope} {N : List Str} {a : Expr} {ca : Ex} {pos p1 p2 p3 : Pos} {k : Nat}
theorem DenL.reverse {ι : List Addr} {F : Hp} {ds : List D} {xs : List V} (h : DenL S ι F ds xs) : DenL S ι F ds.reverse xs.reverse := by
 refine ⟨by rw [List.length_reverse, List.length_reverse]; exact h.1, fun i x y a b => ?_⟩
 have hi : i < ds.length := by
  have := (List.getElem?_eq_some_iff.mp a).1
  rwa [List.length_reverse] at this
 have hi2 : i < xs.length := by
  have := (List.getElem?_eq_some_iff.mp b).1
  rwa [List.length_reverse] at this
 rw [List.getElem?_reverse hi] at a
 rw [List.getElem?_reverse hi2] at b
 have e : xs.length = ds.length := h.1
 rw [e] at b
 exact h.2 _ x y a b
theorem se_rev (C : Cxt S sc N X) (ha : SE S W cf mf X a ca) : SE S W cf mf X (.Subscript a (.Slice none none (some (.UnaryOp .USub (.Constant (.int 1) k p1) p2)) p3) pos) (.rev ca) := by
 refine ⟨fun pins s σ H Q I q => ?_⟩
 obtain ⟨ι, F, G, σ', M, R, rs, p⟩ := q
 refine Subscript_ (thn (ha.run pins s σ H (fun x H1 => ∃ ι1 F1 M1 x', Rel S ι1 F1 G M1 H1 ∧ Den S ι1 F1 x' x ∧ PostG S (fun c e H => W c e σ H) ι1 F1 G (kV1 S Q) (match der M1 x' with
   | .tup xs => .ok (.tup xs.reverse) M1
   | _ => .bad)) I ⟨ι, F, G, σ', M, R, rs, p.bind.imp fun x' ι1 F1 M1 H1 p1 s1 R1 q1 x dx => ⟨ι1, F1, M1, x', R1, dx, q1⟩⟩) fun v s1 ⟨x, H1, I1, r1, ι1, F1, M1, x', R1, dx, q1⟩ => ?_)
 have va := dx.dv R1
 revert q1 va
 generalize der M1 x' = z
 intro q1 va
 cases va with
 | @tup a1 xs ds h1 h2 =>
  cases r1
  have hst : PO X (some (.UnaryOp .USub (.Constant (.int 1) k p1) p2)) (tPart (tUn (rU fun i => .int (-i)) (tC (.int 1)))) := po_some (pe_un un_neg pe_int)
  refine wpAny_Slice (thn (po_none.run pins s1 σ H1 (fun o H2 => o = none ∧ H2 = H1) I1 ⟨rfl, rfl⟩) fun vl s2 ⟨l, H2, I2, pl, el, e2⟩ => ?_)
  subst el e2
  refine thn (po_none.run pins s2 σ H2 (fun o H3 => o = none ∧ H3 = H2) I2 ⟨rfl, rfl⟩) fun vu s3 ⟨u, H3, I3, pu, eu, e3⟩ => ?_
  subst eu e3
  refine thn (hst.run pins s3 σ H3 (fun o H4 => o = some (-1) ∧ H4 = H3) I3 ⟨1, rfl, -1, rfl, rfl, rfl⟩) fun vs s4 ⟨o, H4, I4, ps, eo, e4⟩ => ?_
  subst eo e4
  have I5 : Inv X pins σ H4 { s4 with heap := s4.heap.push { cls := .type "slice", data := .fields #[vl, vu, vs] } } := I4.kept (t' := s4.toks) fun b ob q => Heap.get?_push_of_some _ q
  obtain ⟨its, r, ht, hz⟩ := I5.tuple (.inl h1)
  have hlen := r.length
  show wpAny (model X.prog X.w) X.A (subscriptTail a (.Slice none none (some (.UnaryOp .USub (.Constant (.int 1) k p1) p2)) p3) (.ref a1) (.ref s4.heap.objs.size)) (EP X pins σ Q) X.xe { s4 with heap := s4.heap.push { cls := .type "slice", data := .fields #[vl, vu, vs] } }
  refine tail_any (ops := [.ref a1, .ref s4.heap.objs.size]) ht.typeIs (PyProof.Rows.slot_tuple_getitem.lookup) ?_ (by with_unfolding_all rfl)
  refine getItem_tuple_rev ht (Heap.IsSliceOf.new _ vl vu vs) pl pu ps ?_ (by rw [List.size_toArray]; omega)
  exact ⟨.ref _, _, laid_tup false I5 (xs := xs.reverse) r.reverse (by rw [List.length_reverse]; exact hz), rfl, Fin1.tup (fun ι' F' H' p' s' R' => q1 ι' F' H' p' s' R') R1 h2.reverse (I5.hok.fresh (Nat.le_refl _))⟩
 | _ => exact False.elim q1
end
section
variable {g : Gd} {S : Sit} {W : L2.WX} {cf mf : Calls} {n : Nat} {X : Cx} {sc : Scope} {N : List Str} {top : Bool} {a b : Expr} {ca cb : Ex} {pos : Pos}
theorem w_rev (C : Cxk S sc N top cf mf X) {k : Nat} {p1 p2 p3 : Pos} (ha : SE S W cf mf X a ca) : SE S W cf mf X (.Subscript a (.Slice none none (some (.UnaryOp .USub (.Constant (.int 1) k p1) p2)) p3) pos) (.rev ca) := se_rev C.cx ha
theorem w_dun (G : Glob g S) (C : Cxk S sc N top cf mf X) (tk : L2.Takes X W) {op : CmpOp} {m : Nat} (ha : SE S W cf mf X a ca) (hb : SE S W cf mf X b cb) (hop : ∀ a b, compareOp op a b = richCompare op a b) (hf : g.names[m]? = some (cmpInfo op).2.1) (hm : behindInMarks op b = false) :
  SE S W cf mf X (.Compare a [op] [b] pos) (.dun m ca cb) := by
 refine se_dun C.cx G.isf tk (fun c k m f h1 h2 => ?_) hop (by unfold Sit.an; rw [G.hn, List.getD_eq_getElem?_getD, hf]; rfl) hm ha hb
 obtain ⟨q1, F, q2⟩ := G.me c k m f h1 h2
 rw [C.cx.hK]
 exact ⟨q1, C.co.fn f F q2⟩
end
end Mn
end
section
namespace Mn
open PySem PySem.Spec PyProof.Rows L2
section
variable {prog : Program} {w : World} {A : Around} {E : Value → Shared → Prop} {s : Shared} {z TI TO i1 i2 : Addr} {fp1 fp2 : List Addr} {n1 n2 i : Nat} {P1 P2 : Nat → Value → Prop} {St1 St2 : Nat → Heap → Prop} {a1 a2 : Value}
structure ZSt (z TI TO i1 i2 S : Addr) (St1 St2 : Nat → Heap → Prop) (i : Nat) (h : Heap) : Prop where
 ti : IsTupOf2 h TI (.ref i1) (.ref i2)
 s1 : St1 i h
 s2 : St2 i h
 zz : (IsZip h z TI TO .none ∧ ∃ a1 a2, IsTupOf2 h TO a1 a2) ∨ ∃ T f oT, IsZipHeld h z TI TO T f ∧ h.get? T = some oT ∧ T ≠ z ∧ T ≠ i1 ∧ T ≠ i2 ∧ T ≠ S
structure ZG (P1 P2 : Nat → Value → Prop) (lo : Addr) (h : Heap) (as : List Addr) : Prop where
 rise : as.Pairwise (· < ·)
 above : ∀ a ∈ as, lo < a
 pairs : ∀ (j : Nat) (a : Addr), as[j]? = some a → ∃ x1 x2, P1 j x1 ∧ P2 j x2 ∧ h.get? a = some { cls := .type "tuple", data := .seq #[x1, x2] }
theorem ZG.there {lo : Addr} {h : Heap} {as : List Addr} (g : ZG P1 P2 lo h as) {a : Addr} (ha : a ∈ as) : a < h.objs.size := by
 obtain ⟨j, hj⟩ := List.mem_iff_getElem?.mp ha
 obtain ⟨_, _, _, _, e⟩ := g.pairs j a hj
 exact Heap.lt_size e
structure Off (z TI TO i1 i2 : Addr) (fp1 fp2 : List Addr) (S : Addr) : Prop where
 z : z < S
 TI : TI < S
 TO : TO < S
 i1 : i1 < S
 i2 : i2 < S
 f1 : ∀ b ∈ fp1, b < S
 f2 : ∀ b ∈ fp2, b < S
end
section
variable {prog : Program} {w : World} {A : Around} {s : Shared} {z TI TO i1 i2 : Addr} {fp1 fp2 : List Addr} {n1 n2 : Nat} {P1 P2 : Nat → Value → Prop} {St1 St2 : Nat → Heap → Prop} {R : Result → Shared → Prop}
end
section
variable {prog : Program} {w : World} {A : Around} {E : Value → Shared → Prop} {s : Shared} {z TI TO i1 i2 : Addr} {fp1 fp2 : List Addr} {n1 n2 : Nat} {P1 P2 : Nat → Value → Prop} {St1 St2 : Nat → Heap → Prop}
end
section
variable {S : Sit} {W : L2.WX} {cf mf : Calls} {X : Cx} {sc : Scope} {N : List Str} {a b : Expr} {ca cb : Ex} {pos pos2 p p2 : Pos}
end
section
variable {g : Gd} {S : Sit} {W : L2.WX} {cf mf : Calls} {X : Cx} {sc : Scope} {N : List Str} {top : Bool} {a b : Expr} {ca cb : Ex} {pos pos2 p p2 : Pos}
end
end Mn
end
section
namespace Mn
open PySem PySem.Spec PyProof.Rows L2
theorem ext_list (l : Addr) (items : Array Value) (n : Nat) (b : Addr) (items2 : Array Value) (n2 : Nat) (od : Option Addr) (sl : Array (Option Value)) (hc0 : ¬(!items.isEmpty && Builtin.List.listTooLong (items.size + items2.size)) = true) (hc1 : items.size ≤ sizeLine) (hs2 : items.size + items2.size ≤ sizeLine + 1) :
  Meets (Builtin.«list.extend» ⟨[.ref l, .ref b], []⟩) (fun _ R s => s.heap.get? l = some { cls := .type "list", dict := none, data := .seq items n, slots := #[] } ∧ s.heap.get? b = some { cls := .type "list", dict := od, data := .seq items2 n2, slots := sl } ∧ R (.ok (.ret Value.none)) { s with heap := s.heap.update l (Obj.mapSeq fun x => x ++ items2), toks := s.toks }) :=
 .of_wp fun prog w A R s h => by
  obtain ⟨hp, g, d, tk, os⟩ := s; obtain ⟨hl, hb, h⟩ := h; have f1 := PySem.AutoSeq1.idx_int; have f2 := PySem.AutoSeq1.sub_tuple_tuple; have f3 := PySem.AutoSeq1.sub_list_list; have f4 := PySem.AutoSeq1.sub_tuple_list; have f5 := PySem.AutoSeq1.sub_list_tuple;
  have hz' : (items ++ items2).size ≤ sizeLine + 1 := by rw [Array.size_append]; exact hs2
  wp_walk using (wpAny_updateSeq hl rfl (hz := hc1) (_hz' := hz')), PySem.AutoSeq1.wpAny_loadPart' hl, PySem.AutoSeq1.wpAny_loadPart' hb; exact ⟨_, rfl, h⟩
theorem ext_tuple (l : Addr) (items : Array Value) (n : Nat) (b : Addr) (items2 : Array Value) (n2 : Nat) (od : Option Addr) (sl : Array (Option Value)) (hc0 : ¬(!items.isEmpty && Builtin.List.listTooLong (items.size + items2.size)) = true) (hc1 : items.size ≤ sizeLine) (hs2 : items.size + items2.size ≤ sizeLine + 1) :
  Meets (Builtin.«list.extend» ⟨[.ref l, .ref b], []⟩) (fun _ R s => s.heap.get? l = some { cls := .type "list", dict := none, data := .seq items n, slots := #[] } ∧ s.heap.get? b = some { cls := .type "tuple", dict := od, data := .seq items2 n2, slots := sl } ∧ R (.ok (.ret Value.none)) { s with heap := s.heap.update l (Obj.mapSeq fun x => x ++ items2), toks := s.toks }) :=
 .of_wp fun prog w A R s h => by
  obtain ⟨hp, g, d, tk, os⟩ := s; obtain ⟨hl, hb, h⟩ := h; have f1 := PySem.AutoSeq1.idx_int; have f2 := PySem.AutoSeq1.sub_tuple_tuple; have f3 := PySem.AutoSeq1.sub_list_list; have f4 := PySem.AutoSeq1.sub_tuple_list; have f5 := PySem.AutoSeq1.sub_list_tuple;
  have hz' : (items ++ items2).size ≤ sizeLine + 1 := by rw [Array.size_append]; exact hs2
  wp_walk using (wpAny_updateSeq hl rfl (hz := hc1) (_hz' := hz')), PySem.AutoSeq1.wpAny_loadPart' hl, PySem.AutoSeq1.wpAny_loadPart' hb; exact ⟨_, rfl, h⟩
def rExtB (K : PySem.W.Frag) : V → List V → Hp → VK → Prop := fun x vs H Q => ∃ l c xs zs, x = .ref l ∧ vs = [.ref c] ∧ H l = some (.lst xs) ∧ (∃ b, SqB b K H c zs) ∧ xs.length + zs.length ≤ sizeLine ∧ Q .non (upd H l (.lst (xs ++ zs)))
theorem mt_extB {X : Cx} : MtM X "list.extend" (rExtB X.K) := by
 intro pins s σ H x vs v us Q I rx rv h
 obtain ⟨l, c, xs, zs, rfl, rfl, hH, ⟨b, hB⟩, hz, q⟩ := h
 cases rx
 obtain ⟨u, rfl, ru⟩ := rv.one
 cases ru
 obtain ⟨z, its, n, r, hl, e⟩ := I.lstM hH
 obtain ⟨its2, r2, p2, _⟩ := Inv.seqB I hB
 have l2 := r2.length
 have hsz : its.toArray.size + its2.toArray.size ≤ sizeLine := by rw [List.size_toArray, List.size_toArray]; omega
 have hlong : ¬ (!its.toArray.isEmpty && Builtin.List.listTooLong (its.toArray.size + its2.toArray.size)) = true := by
  rw [notLongL hsz, Bool.and_false]
  exact Bool.false_ne_true
 cases b with
 | false =>
  obtain ⟨⟨oc, od, odt, osl⟩, e2, c2, n2, d2⟩ := (show Heap.IsList s.heap c its2.toArray from p2)
  cases c2
  cases d2
  refine call_meets F.slot_list_extend ⟨_, e, rfl⟩ F.entry_list_extend (F.args_list_extend_2 _ _)
   (ext_list l its.toArray n c its2.toArray n2 od osl hlong (by rw [List.size_toArray]; omega) oM) ⟨e, e2, ?_⟩
  refine ⟨.non, _, I.lset (its' := its ++ its2) hH e (by simp) (r.append r2) ?_, rfl, q⟩
  rw [List.length_append]
  omega
 | true =>
  obtain ⟨⟨oc, od, odt, osl⟩, e2, c2, n2, d2⟩ := (show Heap.IsTuple s.heap c its2.toArray from p2)
  cases c2
  cases d2
  refine call_meets F.slot_list_extend ⟨_, e, rfl⟩ F.entry_list_extend (F.args_list_extend_2 _ _)
   (ext_tuple l its.toArray n c its2.toArray n2 od osl hlong (by rw [List.size_toArray]; omega) oM) ⟨e, e2, ?_⟩
  refine ⟨.non, _, I.lset (its' := its ++ its2) hH e (by simp) (r.append r2) ?_, rfl, q⟩
  rw [List.length_append]
  omega
section
variable {S : Sit} {W : L2.WX} {cf mf : Calls} {X : Cx} {sc : Scope} {N : List Str} {o e : Expr} {co ce : Ex} {apos cpos : Pos}
theorem se_ext (C : Cxt S sc N X) (m : MC X o "extend" apos cpos e []) (ho : SE S W cf mf X o co) (he : SE S W cf mf X e ce) : SE S W cf mf X (.Call (.Attribute o "extend" apos) [e] [] cpos) (.ext co ce) := by
 refine (pe_mG m F.plainAttrs_list F.slot_list_extend F.type_list_extend ho (pa_cons he pa_nil m.hs)).to fun σ H Q q => ?_
 obtain ⟨ι, F, G, σ', M, R, rs, p⟩ := q
 refine ⟨ι, F, G, σ', M, R, rs, p.bind.imp fun x' ι1 F1 M1 H1 p1 s1 R1 q1 x dx => ?_⟩
 have dv := dx.dv R1
 split at q1
 ·exact False.elim q1
 ·rename_i hl
  have hty : TyM X "list" x H1 := by
   revert hl dv
   generalize der M1 x' = u
   intro dv hl
   cases dv with
   | lst h1 _ => exact tyM_lst h1
   | _ => simp [isL] at hl
  refine ⟨hty, ι1, F1, G, σ', M1, R1, rs.mono p1 s1, q1.bind.imp fun y' ι2 F2 M2 H2 p2 s2 R2 q2 y dy => ?_⟩
  show CallM X "list.extend" x [y] H2 Q
  split at q2
  case h_2 => exact False.elim q2
  rename_i w hw
  split at q2
  case h_2 => exact False.elim q2
  rename_i M3 hst
  obtain ⟨c, b, rfl, sw⟩ := seqW_of dy R2 hw
  obtain ⟨zs, hzs, hdl⟩ := sw.at_ ι2 F2 G M2 H2 (.refl _) (.refl _) R2 (seq_ok hw)
  obtain ⟨i, od, od', rfl, e1, e2, rfl⟩ := store_eq hst
  unfold extL at e2
  split at e2
  case h_2 => cases e2
  rename_i xs
  split at e2
  case isFalse => cases e2
  rename_i hlt
  cases e2
  cases (dx.mono p2 s2) with
  | @ref _ l hι =>
   obtain ⟨oh, g1, g2⟩ := R2.own i _ l e1 hι
   cases g2 with
   | @lst ws _ g2 =>
    intro pins s σ0 v us I r rv
    refine mt_extB pins s σ0 H2 _ _ v us Q I r rv ⟨l, c, ws, zs, rfl, rfl, g1, ⟨b, by rw [C.hK]; exact hzs⟩, by rw [g2.1, hdl.1]; exact Nat.le_trans hlt (big_le (Nat.le_refl _)), ?_⟩
    exact q2 ι2 F2 _ (.refl _) (.refl _) (R2.write hι g1 id (.lst (g2.app hdl))) .non .non
end
section
variable {S : Sit} {W : L2.WX} {cf mf : Calls} {X : Cx} {sc : Scope} {N : List Str} {top : Bool} {o e : Expr} {co ce : Ex} {apos cpos : Pos}
theorem w_ext (C : Cxk S sc N top cf mf X) (ho : SE S W cf mf X o co) (he : SE S W cf mf X e ce) (h : mB o e apos cpos = true) : SE S W cf mf X (.Call (.Attribute o "extend" apos) [e] [] cpos) (.ext co ce) := se_ext C.cx (mb_of h) ho he
end
end Mn
end
section
namespace Mn
open PySem PySem.Spec PyProof.Rows L2
end Mn
end
section
namespace Mn
open PySem PySem.Spec PyProof.Rows L2
section
variable {S : Sit} {X : Cx}
end
section
variable {S : Sit} {W : L2.WX} {cf mf : Calls} {X : Cx} {sc : Scope} {N : List Str} {top : Bool} {a b : Expr} {ca cb : Ex} {pos : Pos} {n : Nat}
theorem Cxk.nox (C : Cxk S sc N top cf mf X) : Cxk S sc N top cf mf X.nox where
 cx := ⟨C.cx.hK, C.cx.hm, C.cx.hP, C.cx.hw, C.cx.hb, C.cx.calm, C.cx.hN, C.cx.nd, C.cx.sc, C.cx.hu⟩
 fn := C.fn
 co := ⟨fun f F h => ⟨(C.co.fn f F h).ok⟩, fun c D h z => ⟨(C.co.new c D h z).ok⟩⟩
theorem takes_nox : L2.Takes X.nox WF0 := fun u s' ⟨a, B, sI, pins, σ, H, cls, d, e, I, nb, up, sky, na, os, ag, w⟩ => w
theorem x_try {st : List Stmt} {h₀ : ExceptHandler} {hs : List ExceptHandler} {k : Ss} (h : PSs X.nox st (LS S WF0 (exB S.T cf mf n k))) : SS S W cf mf n X (.Try st (h₀ :: hs) [] [] pos) (.tryS k) := by
 refine ⟨fun pins s σ H D I q => ?_⟩
 refine (ps_try_thru0 h).run pins s σ H D I ?_
 obtain ⟨ι, F, G, σ', M, R, rs, p⟩ := q
 refine ⟨ι, F, G, σ', M, R, rs, ?_⟩
 replace p : PostO S W ι F G D (match exB S.T cf mf n k σ' M with | .exc _ _ _ _ => .bad | o => o) := p
 cases e : exB S.T cf mf n k σ' M with
 | exc c fs σ2 M2 => rw [e] at p; exact False.elim p
 | nx σ2 M2 => rw [e] at p; exact p
 | rt d M2 => rw [e] at p; exact p
 | bk σ2 M2 => rw [e] at p; exact p
 | ct σ2 M2 => rw [e] at p; exact p
 | bad => rw [e] at p; exact p
end
end Mn
end
section
namespace Mn
open PySem PySem.Spec PyProof.Rows L2 RT
section
variable {prog : Program} {w : World} {A : Around} {E : Value → Shared → Prop} {s : Shared}
end
section
variable {S : Sit} {X : Cx}
end
section
variable {S : Sit} {W : L2.WX} {cf mf : Calls} {X : Cx} {sc : Scope} {N : List Str} {top : Bool} {e : Expr} {ce : Ex} {pos p : Pos}
end
end Mn
end
section
namespace Mn.K62
open PySem PySem.Spec PyProof.Rows L2
def top (i : Nat) : Stmt := PySem.Challenge.pw_dealsafe_k62_whole_wantings.main.body.getD i (.Pass ⟨0, 0, 0, 0⟩)
def mem : Stmt → Nat → Stmt
 | .ClassDef (body := b) .., j => b.getD j (.Pass ⟨0, 0, 0, 0⟩)
 | s, _ => s
abbrev s0 : Stmt := top 7
def N0 : List Str := [(Str.ofString "value")]
def F0 : Fn := { np := 1, ns := 1, esc := false, body := (.cons (.ret (.and (.blt .isi (.cons (.var 0) (.cons (.lit (.ty "int")) .nil))) (.not (.blt .isi (.cons (.var 0) (.cons (.lit (.ty "bool")) .nil)))))) .nil) }
abbrev s1 : Stmt := top 8
def N1 : List Str := [(Str.ofString "value"), (Str.ofString "one")]
def F1 : Fn := { np := 1, ns := 2, esc := false, body := (.cons (.ifs (.v (.blt .isi (.cons (.var 0) (.cons (.tup (.cons (.lit (.ty "list")) (.cons (.lit (.ty "tuple")) .nil))) .nil)))) (.cons (.ret (.tupO false (.new false (.lcp [1] (.nm 1) (.it (.var 0)) (.v (.lit (.bl true))) (.cal 1 (.cons (.var 1) .nil)))))) .nil) .nil) (.cons (.ret (.var 0)) .nil)) }
abbrev s2 : Stmt := top 9
def N2 : List Str := [(Str.ofString "value"), (Str.ofString "many")]
def F2 : Fn := { np := 2, ns := 2, esc := false, body := (.cons (.ret (.and (.cal 0 (.cons (.var 0) .nil)) (.chn .LtE .Lt (.lit (.int 0)) (.var 0) (.var 1)))) .nil) }
abbrev s3 : Stmt := top 14
def N3 : List Str := [(Str.ofString "value"), (Str.ofString "sign")]
def F3 : Fn := { np := 1, ns := 2, esc := false, body := (.cons (.ifs (.or (.not (.v (.blt .isi (.cons (.var 0) (.cons (.lit (.ty "str")) .nil))))) (.or (.not (.v (.chn .LtE .LtE (.lit (.int 1)) (.blt .len (.cons (.var 0) .nil)) (.lit (.int 12))))) (.cmp .NotIn (.idx (.var 0) (.lit (.int 0))) (.lit (.str (Str.ofString "abcdefghijklmnopqrstuvwxyz")))))) (.cons (.ret (.lit (.bl false))) .nil) .nil) (.cons (.ret (.blt .all (.cons (.new false (.lcp [1] (.nm 1) (.it (.var 0)) (.v (.lit (.bl true))) (.cmp .In (.var 1) (.lit (.str (Str.ofString "abcdefghijklmnopqrstuvwxyz0123456789")))))) .nil))) .nil)) }
abbrev s4 : Stmt := mem (top 16) 0
def N4 : List Str := [(Str.ofString "self"), (Str.ofString "rows"), (Str.ofString "row"), (Str.ofString "brought"), (Str.ofString "wanted"), (Str.ofString "at")]
def F4 : Fn := { np := 2, ns := 6, esc := false, body := (.cons (.ifs (.or (.not (.v (.blt .isi (.cons (.var 1) (.cons (.tup (.cons (.lit (.ty "list")) (.cons (.lit (.ty "tuple")) .nil))) .nil))))) (.not (.v (.chn .LtE .LtE (.lit (.int 2)) (.blt .len (.cons (.var 1) .nil)) (.lit (.int 4)))))) (.cons .dead .nil) .nil) (.cons (.for (.nm 2) (.it (.var 1)) (.cons (.ifs (.not (.v (.cal 5 (.cons (.var 2) .nil)))) (.cons .dead .nil) .nil) .nil)) (.cons (.drop (.cal 6 (.cons (.var 1) .nil))) (.cons (.asg (.nm 3) (.new false (.lcp [2] (.nm 2) (.it (.var 1)) (.v (.lit (.bl true))) (.idx (.var 2) (.lit (.int 1)))))) (.cons (.for (.nm 2) (.it (.var 1)) (.cons (.ifs (.cmp .NotIn (.idx (.var 2) (.lit (.int 2))) (.var 3)) (.cons .dead .nil) .nil) .nil)) (.cons (.asg (.nm 4) (.new false (.lcp [2] (.nm 2) (.it (.var 1)) (.v (.lit (.bl true))) (.idx (.var 2) (.lit (.int 2)))))) (.cons (.ifs (.or (.v (.blt .any (.cons (.new false (.lcp [2] (.nm 2) (.it (.var 1)) (.v (.lit (.bl true))) (.cmp .Eq (.idx (.var 2) (.lit (.int 1))) (.idx (.var 2) (.lit (.int 2)))))) .nil))) (.v (.blt .any (.cons (.new false (.lcp [5] (.nm 5) (.rng1 (.blt .len (.cons (.var 4) .nil))) (.v (.lit (.bl true))) (.cmp .In (.idx (.var 4) (.var 5)) (.slc (.var 4) .no (.ex (.var 5)))))) .nil)))) (.cons .dead .nil) .nil) (.cons (.asg (.at (.var 0) 0) (.tupO false (.var 1))) .nil)))))))) }
abbrev s5 : Stmt := top 17
def N5 : List Str := [(Str.ofString "row"), (Str.ofString "one")]
def F5 : Fn := { np := 1, ns := 2, esc := false, body := (.cons (.ret (.and (.blt .isi (.cons (.var 0) (.cons (.lit (.ty "tuple")) .nil))) (.and (.cmp .Eq (.blt .len (.cons (.var 0) .nil)) (.lit (.int 3))) (.blt .all (.cons (.new false (.lcp [1] (.nm 1) (.it (.var 0)) (.v (.lit (.bl true))) (.cal 3 (.cons (.var 1) .nil)))) .nil))))) .nil) }
abbrev s6 : Stmt := top 18
def N6 : List Str := [(Str.ofString "rows"), (Str.ofString "known"), (Str.ofString "row")]
def F6 : Fn := { np := 1, ns := 3, esc := false, body := (.cons (.asg (.nm 1) (.new true (.dct .nil))) (.cons (.for (.nm 2) (.it (.var 0)) (.cons (.ifs (.cmp .In (.idx (.var 2) (.lit (.int 0))) (.var 1)) (.cons .dead .nil) .nil) (.cons (.asg (.sb (.var 1) (.idx (.var 2) (.lit (.int 0)))) (.lit (.bl true))) .nil))) (.cons (.for (.nm 2) (.it (.var 0)) (.cons (.ifs (.cmp .In (.idx (.var 2) (.lit (.int 1))) (.var 1)) (.cons .dead .nil) .nil) (.cons (.asg (.sb (.var 1) (.idx (.var 2) (.lit (.int 1)))) (.lit (.bl true))) .nil))) .nil))) }
abbrev s7 : Stmt := mem (top 20) 0
def N7 : List Str := [(Str.ofString "self"), (Str.ofString "rows")]
def F7 : Fn := { np := 2, ns := 2, esc := false, body := (.cons (.asg (.at (.var 0) 0) (.cal 1 (.cons (.var 1) .nil))) .nil) }
abbrev s8 : Stmt := mem (top 20) 1
def N8 : List Str := [(Str.ofString "self"), (Str.ofString "other")]
def F8 : Fn := { np := 2, ns := 2, esc := false, body := (.cons (.ret (.and (.blt .isi (.cons (.var 1) (.cons (.lit (.cls 1)) .nil))) (.cmp .Eq (.att (.var 0) 0) (.att (.var 1) 0)))) .nil) }
abbrev s9 : Stmt := mem (top 20) 2
def N9 : List Str := [(Str.ofString "self"), (Str.ofString "other")]
def F9 : Fn := { np := 2, ns := 2, esc := false, body := (.cons (.ret (.not (.dun 5 (.var 0) (.var 1)))) .nil) }
abbrev s10 : Stmt := top 21
def N10 : List Str := [(Str.ofString "row"), (Str.ofString "good"), (Str.ofString "at")]
def F10 : Fn := { np := 1, ns := 3, esc := false, body := (.cons (.ifs (.or (.not (.v (.blt .isi (.cons (.var 0) (.cons (.lit (.ty "tuple")) .nil))))) (.or (.cmp .NotEq (.blt .len (.cons (.var 0) .nil)) (.lit (.int 3))) (.or (.not (.v (.cal 3 (.cons (.idx (.var 0) (.lit (.int 0))) .nil)))) (.not (.v (.cal 3 (.cons (.idx (.var 0) (.lit (.int 1))) .nil))))))) (.cons (.ret (.lit (.bl false))) .nil) .nil) (.cons (.ifs (.or (.not (.v (.blt .isi (.cons (.idx (.var 0) (.lit (.int 2))) (.cons (.lit (.ty "tuple")) .nil))))) (.not (.v (.blt .all (.cons (.new false (.lcp [1] (.nm 1) (.it (.idx (.var 0) (.lit (.int 2)))) (.v (.lit (.bl true))) (.cal 3 (.cons (.var 1) .nil)))) .nil))))) (.cons (.ret (.lit (.bl false))) .nil) .nil) (.cons (.ret (.not (.blt .any (.cons (.new false (.lcp [2] (.nm 2) (.rng1 (.blt .len (.cons (.idx (.var 0) (.lit (.int 2))) .nil))) (.v (.lit (.bl true))) (.cmp .In (.idx (.idx (.var 0) (.lit (.int 2))) (.var 2)) (.slc (.idx (.var 0) (.lit (.int 2))) .no (.ex (.var 2)))))) .nil)))) .nil))) }
abbrev s11 : Stmt := top 22
def N11 : List Str := [(Str.ofString "value"), (Str.ofString "brought"), (Str.ofString "row"), (Str.ofString "good")]
def F11 : Fn := { np := 1, ns := 4, esc := false, body := (.cons (.ifs (.or (.not (.v (.blt .isi (.cons (.var 0) (.cons (.tup (.cons (.lit (.ty "list")) (.cons (.lit (.ty "tuple")) .nil))) .nil))))) (.or (.not (.v (.chn .LtE .LtE (.lit (.int 2)) (.blt .len (.cons (.var 0) .nil)) (.lit (.int 4))))) (.not (.v (.blt .all (.cons (.new false (.lcp [2] (.nm 2) (.it (.var 0)) (.v (.lit (.bl true))) (.cal 10 (.cons (.var 2) .nil)))) .nil)))))) (.cons (.ret (.lit (.bl false))) .nil) .nil) (.cons (.tryS (.cons (.drop (.cal 6 (.cons (.var 0) .nil))) .nil)) (.cons (.asg (.nm 1) (.new false (.lcp [2] (.nm 2) (.it (.var 0)) (.v (.lit (.bl true))) (.idx (.var 2) (.lit (.int 1)))))) (.cons (.ret (.blt .all (.cons (.new false (.lcp [2] (.nm 2) (.it (.var 0)) (.v (.lit (.bl true))) (.blt .all (.cons (.new false (.lcp [3] (.nm 3) (.it (.idx (.var 2) (.lit (.int 2)))) (.v (.lit (.bl true))) (.and (.cmp .In (.var 3) (.var 1)) (.cmp .NotEq (.var 3) (.idx (.var 2) (.lit (.int 1))))))) .nil)))) .nil))) .nil)))) }
abbrev s12 : Stmt := top 23
def N12 : List Str := [(Str.ofString "wantings")]
def F12 : Fn := { np := 1, ns := 1, esc := false, body := (.cons (.ifs (.not (.v (.cal 11 (.cons (.var 0) .nil)))) (.cons .dead .nil) .nil) (.cons (.ret (.tupO false (.var 0))) .nil)) }
abbrev s13 : Stmt := top 24
def N13 : List Str := [(Str.ofString "wantings"), (Str.ofString "places"), (Str.ofString "brought"), (Str.ofString "rows"), (Str.ofString "place"), (Str.ofString "party"), (Str.ofString "good"), (Str.ofString "wants"), (Str.ofString "longer"), (Str.ofString "row"), (Str.ofString "used"), (Str.ofString "want"), (Str.ofString "one")]
def F13 : Fn := { np := 2, ns := 13, esc := false, body := (.cons (.asg (.nm 2) (.new false (.lcp [4] (.nm 4) (.it (.var 1)) (.v (.lit (.bl true))) (.idx (.idx (.var 0) (.var 4)) (.lit (.int 1)))))) (.cons (.asg (.nm 3) (.new false (.lst (.cons (.tup .nil) .nil)))) (.cons (.for (.nm 4) (.it (.var 1)) (.cons (.asg (.tp (.cons (.nm 5) (.cons (.nm 6) (.cons (.nm 7) .nil)))) (.idx (.var 0) (.var 4))) (.cons (.asg (.nm 8) (.new true (.lst .nil))) (.cons (.for (.nm 9) (.it (.var 3)) (.cons (.asg (.nm 10) (.new false (.lcp [12] (.nm 12) (.it (.var 9)) (.v (.lit (.bl true))) (.idx (.var 12) (.lit (.int 2)))))) (.cons (.for (.nm 11) (.it (.var 7)) (.cons (.ifs (.and (.cmp .In (.var 11) (.var 2)) (.cmp .NotIn (.var 11) (.var 10))) (.cons (.drop (.app (.var 8) (.bin .Add (.var 9) (.tup (.cons (.tup (.cons (.var 5) (.cons (.var 6) (.cons (.var 11) .nil)))) .nil))))) .nil) .nil) .nil)) .nil))) (.cons (.asg (.nm 3) (.var 8)) .nil))))) (.cons (.ret (.var 3)) .nil)))) }
abbrev s14 : Stmt := top 25
def N14 : List Str := [(Str.ofString "many"), (Str.ofString "found"), (Str.ofString "place"), (Str.ofString "lot")]
def F14 : Fn := { np := 1, ns := 4, esc := false, body := (.cons (.asg (.nm 1) (.new false (.lst (.cons (.tup .nil) .nil)))) (.cons (.for (.nm 2) (.rng1 (.var 0)) (.cons (.asg (.nm 1) (.bin .Add (.var 1) (.new false (.lcp [3] (.nm 3) (.it (.var 1)) (.v (.lit (.bl true))) (.bin .Add (.var 3) (.tup (.cons (.var 2) .nil))))))) .nil)) (.cons (.ret (.new false (.lcp [3] (.nm 3) (.it (.new false (.sort (.var 1)))) (.cmp .Gt (.blt .len (.cons (.var 3) .nil)) (.lit (.int 1))) (.var 3)))) .nil))) }
abbrev s15 : Stmt := top 26
def N15 : List Str := [(Str.ofString "wantings"), (Str.ofString "found"), (Str.ofString "places")]
def F15 : Fn := { np := 1, ns := 3, esc := false, body := (.cons (.asg (.nm 1) (.new true (.lst .nil))) (.cons (.for (.nm 2) (.it (.cal 14 (.cons (.blt .len (.cons (.var 0) .nil)) .nil))) (.cons (.drop (.ext (.var 1) (.cal 13 (.cons (.var 0) (.cons (.var 2) .nil))))) .nil)) (.cons (.ret (.new false (.sort (.var 1)))) .nil))) }
abbrev s16 : Stmt := top 27
def N16 : List Str := [(Str.ofString "wantings")]
def F16 : Fn := { np := 1, ns := 1, esc := false, body := (.cons (.ret (.tupO false (.cal 15 (.cons (.cal 12 (.cons (.var 0) .nil)) .nil)))) .nil) }
abbrev s17 : Stmt := top 28
def N17 : List Str := [(Str.ofString "wantings"), (Str.ofString "some"), (Str.ofString "most"), (Str.ofString "rows")]
def F17 : Fn := { np := 1, ns := 4, esc := false, body := (.cons (.asg (.nm 1) (.cal 15 (.cons (.cal 12 (.cons (.var 0) .nil)) .nil))) (.cons (.ifs (.not (.v (.var 1))) (.cons (.ret (.tup (.cons (.lit (.int 0)) (.cons (.tup .nil) .nil)))) .nil) .nil) (.cons (.asg (.nm 2) (.blt .max (.cons (.new false (.lcp [3] (.nm 3) (.it (.var 1)) (.v (.lit (.bl true))) (.blt .len (.cons (.var 3) .nil)))) .nil))) (.cons (.ret (.tup (.cons (.var 2) (.cons (.idx (.new false (.lcp [3] (.nm 3) (.it (.var 1)) (.cmp .Eq (.blt .len (.cons (.var 3) .nil)) (.var 2)) (.var 3))) (.lit (.int 0))) .nil)))) .nil)))) }
abbrev s18 : Stmt := top 29
def N18 : List Str := [(Str.ofString "wantings"), (Str.ofString "value"), (Str.ofString "known"), (Str.ofString "place"), (Str.ofString "at")]
def F18 : Fn := { np := 2, ns := 5, esc := false, body := (.cons (.asg (.nm 2) (.cal 12 (.cons (.var 0) .nil))) (.cons (.ifs (.or (.not (.v (.blt .isi (.cons (.var 1) (.cons (.lit (.cls 1)) .nil))))) (.or (.not (.v (.blt .isi (.cons (.att (.var 1) 0) (.cons (.lit (.ty "tuple")) .nil))))) (.cmp .Lt (.blt .len (.cons (.att (.var 1) 0) .nil)) (.lit (.int 2))))) (.cons (.ret (.lit (.bl false))) .nil) .nil) (.cons (.ifs (.not (.v (.blt .all (.cons (.new false (.lcp [3] (.nm 3) (.it (.att (.var 1) 0)) (.v (.lit (.bl true))) (.cal 2 (.cons (.var 3) (.cons (.blt .len (.cons (.var 2) .nil)) .nil))))) .nil)))) (.cons (.ret (.lit (.bl false))) .nil) .nil) (.cons (.ifs (.v (.blt .any (.cons (.new false (.lcp [4] (.nm 4) (.rng1 (.bin .Sub (.blt .len (.cons (.att (.var 1) 0) .nil)) (.lit (.int 1)))) (.v (.lit (.bl true))) (.cmp .GtE (.idx (.att (.var 1) 0) (.var 4)) (.idx (.att (.var 1) 0) (.bin .Add (.var 4) (.lit (.int 1))))))) .nil))) (.cons (.ret (.lit (.bl false))) .nil) .nil) (.cons (.ret (.cmp .Gt (.blt .len (.cons (.cal 13 (.cons (.var 2) (.cons (.att (.var 1) 0) .nil))) .nil)) (.lit (.int 0)))) .nil))))) }
abbrev s19 : Stmt := top 30
def N19 : List Str := [(Str.ofString "wantings"), (Str.ofString "known"), (Str.ofString "served"), (Str.ofString "rows"), (Str.ofString "row")]
def F19 : Fn := { np := 1, ns := 5, esc := false, body := (.cons (.asg (.nm 1) (.cal 12 (.cons (.var 0) .nil))) (.cons (.asg (.nm 2) (.new true (.dct .nil))) (.cons (.for (.nm 3) (.it (.cal 15 (.cons (.var 1) .nil))) (.cons (.for (.nm 4) (.it (.var 3)) (.cons (.asg (.sb (.var 2) (.idx (.var 4) (.lit (.int 0)))) (.lit (.bl true))) .nil)) .nil)) (.cons (.ret (.tupO false (.new false (.sort (.new false (.lcp [4] (.nm 4) (.it (.var 1)) (.cmp .NotIn (.idx (.var 4) (.lit (.int 0))) (.var 2)) (.idx (.var 4) (.lit (.int 0))))))))) .nil)))) }
abbrev s20 : Stmt := top 31
def N20 : List Str := [(Str.ofString "wantings"), (Str.ofString "rows"), (Str.ofString "some"), (Str.ofString "known"), (Str.ofString "parties"), (Str.ofString "other"), (Str.ofString "row")]
def F20 : Fn := { np := 2, ns := 7, esc := false, body := (.cons (.asg (.nm 2) (.cal 15 (.cons (.cal 12 (.cons (.var 0) .nil)) .nil))) (.cons (.asg (.nm 3) (.ife (.v (.blt .isi (.cons (.var 1) (.cons (.lit (.ty "list")) .nil)))) (.tupO false (.var 1)) (.var 1))) (.cons (.ifs (.and (.cmp .NotEq (.var 3) (.tup .nil)) (.cmp .NotIn (.var 3) (.var 2))) (.cons .dead .nil) .nil) (.cons (.asg (.nm 4) (.new false (.lcp [6] (.nm 6) (.it (.var 3)) (.v (.lit (.bl true))) (.idx (.var 6) (.lit (.int 0)))))) (.cons (.for (.nm 5) (.it (.var 2)) (.cons (.ifs (.not (.v (.blt .any (.cons (.new false (.lcp [6] (.nm 6) (.it (.var 5)) (.v (.lit (.bl true))) (.cmp .In (.idx (.var 6) (.lit (.int 0))) (.var 4)))) .nil)))) (.cons (.ret (.var 5)) .nil) .nil) .nil)) (.cons (.ret (.lit .non)) .nil)))))) }
abbrev s21 : Stmt := top 33
def N21 : List Str := [(Str.ofString "script"), (Str.ofString "fold"), (Str.ofString "cell")]
def F21 : Fn := { np := 1, ns := 3, esc := true, body := (.cons (.asg (.nm 1) (.lit (.int 0))) (.cons (.for (.nm 2) (.it (.var 0)) (.cons (.asg (.nm 1) (.bin .Mod (.blt .int (.cons (.bin .Add (.bin .Mult (.var 1) (.lit (.int 47))) (.var 2)) .nil)) (.lit (.int 1000000007)))) .nil)) (.cons (.ret (.new true (.dct (.cons (.lit (.str (Str.ofString "cells"))) (.new false (.lstO (.var 0))) (.cons (.lit (.str (Str.ofString "at"))) (.lit (.int 0)) (.cons (.lit (.str (Str.ofString "digits"))) (.lit (.int 0)) (.cons (.lit (.str (Str.ofString "count"))) (.lit (.int 0)) (.cons (.lit (.str (Str.ofString "fold"))) (.var 1) .nil)))))))) .nil))) }
abbrev s22 : Stmt := top 34
def N22 : List Str := [(Str.ofString "pen"), (Str.ofString "many"), (Str.ofString "cell"), (Str.ofString "digit"), (Str.ofString "blend")]
def F22 : Fn := { np := 2, ns := 5, esc := false, body := (.cons (.asg (.sb (.var 0) (.lit (.str (Str.ofString "count")))) (.bin .Add (.idx (.var 0) (.lit (.str (Str.ofString "count")))) (.lit (.int 1)))) (.cons (.ifs (.and (.cmp .Eq (.idx (.var 0) (.lit (.str (Str.ofString "digits")))) (.lit (.int 0))) (.cmp .Lt (.idx (.var 0) (.lit (.str (Str.ofString "at")))) (.blt .len (.cons (.idx (.var 0) (.lit (.str (Str.ofString "cells")))) .nil)))) (.cons (.asg (.nm 2) (.idx (.idx (.var 0) (.lit (.str (Str.ofString "cells")))) (.idx (.var 0) (.lit (.str (Str.ofString "at")))))) (.cons (.asg (.sb (.var 0) (.lit (.str (Str.ofString "at")))) (.bin .Add (.idx (.var 0) (.lit (.str (Str.ofString "at")))) (.lit (.int 1)))) (.cons (.ifs (.cmp .GtE (.var 2) (.bin .Pow (.lit (.int 10)) (.lit (.int 18)))) (.cons (.asg (.sb (.var 0) (.lit (.str (Str.ofString "digits")))) (.bin .Sub (.var 2) (.bin .Pow (.lit (.int 10)) (.lit (.int 18))))) .nil) (.cons (.asg (.sb (.var 0) (.lit (.str (Str.ofString "fold")))) (.bin .Mod (.blt .int (.cons (.bin .Add (.bin .Mult (.idx (.var 0) (.lit (.str (Str.ofString "fold")))) (.lit (.int 69069))) (.var 2)) .nil)) (.lit (.int 2147483587)))) .nil)) .nil))) .nil) (.cons (.ifs (.cmp .Gt (.idx (.var 0) (.lit (.str (Str.ofString "digits")))) (.lit (.int 0))) (.cons (.asg (.nm 3) (.bin .Mod (.blt .int (.cons (.idx (.var 0) (.lit (.str (Str.ofString "digits")))) .nil)) (.var 1))) (.cons (.asg (.sb (.var 0) (.lit (.str (Str.ofString "digits")))) (.bin .FloorDiv (.idx (.var 0) (.lit (.str (Str.ofString "digits")))) (.var 1))) (.cons (.ret (.var 3)) .nil))) .nil) (.cons (.asg (.nm 4) (.bin .Mod (.blt .int (.cons (.bin .Add (.bin .Add (.bin .Mult (.idx (.var 0) (.lit (.str (Str.ofString "fold")))) (.lit (.int 48271))) (.bin .Mult (.idx (.var 0) (.lit (.str (Str.ofString "count")))) (.lit (.int 7919)))) (.lit (.int 13))) .nil)) (.lit (.int 2147483647)))) (.cons (.asg (.nm 4) (.bin .Mod (.blt .int (.cons (.bin .Add (.bin .Add (.bin .Mult (.var 4) (.var 4)) (.bin .Mult (.lit (.int 31)) (.var 4))) (.idx (.var 0) (.lit (.str (Str.ofString "count"))))) .nil)) (.lit (.int 2147483629)))) (.cons (.asg (.sb (.var 0) (.lit (.str (Str.ofString "fold")))) (.bin .Mod (.blt .int (.cons (.bin .Add (.bin .Mult (.var 4) (.lit (.int 16807))) (.lit (.int 7))) .nil)) (.lit (.int 2147483647)))) (.cons (.ret (.bin .Mod (.blt .int (.cons (.bin .FloorDiv (.var 4) (.lit (.int 64))) .nil)) (.var 1))) .nil))))))) }
abbrev s23 : Stmt := top 35
def N23 : List Str := [(Str.ofString "pen"), (Str.ofString "some")]
def F23 : Fn := { np := 2, ns := 2, esc := false, body := (.cons (.ret (.idx (.var 1) (.cal 22 (.cons (.var 0) (.cons (.blt .len (.cons (.var 1) .nil)) .nil))))) .nil) }
abbrev s24 : Stmt := top 36
def N24 : List Str := [(Str.ofString "pen"), (Str.ofString "some"), (Str.ofString "left"), (Str.ofString "found"), (Str.ofString "lap")]
def F24 : Fn := { np := 2, ns := 5, esc := false, body := (.cons (.asg (.tp (.cons (.nm 2) (.cons (.nm 3) .nil))) (.tup (.cons (.new true (.lstO (.var 1))) (.cons (.new true (.lst .nil)) .nil)))) (.cons (.for (.nm 4) (.rng1 (.blt .len (.cons (.var 1) .nil))) (.cons (.drop (.app (.var 3) (.popi (.var 2) (.cal 22 (.cons (.var 0) (.cons (.blt .len (.cons (.var 2) .nil)) .nil)))))) .nil)) (.cons (.ret (.var 3)) .nil))) }
abbrev s25 : Stmt := top 37
def N25 : List Str := [(Str.ofString "told"), (Str.ofString "due"), (Str.ofString "at")]
def F25 : Fn := { np := 2, ns := 3, esc := false, body := (.cons (.ifs (.v (.blt .isi (.cons (.var 1) (.cons (.lit (.ty "tuple")) .nil)))) (.cons (.ifs (.or (.not (.v (.blt .isi (.cons (.var 0) (.cons (.lit (.ty "tuple")) .nil))))) (.cmp .NotEq (.blt .len (.cons (.var 0) .nil)) (.blt .len (.cons (.var 1) .nil)))) (.cons (.ret (.lit (.bl false))) .nil) .nil) (.cons (.ret (.cmp .Eq (.new false (.lcp [2] (.nm 2) (.rng1 (.blt .len (.cons (.var 1) .nil))) (.not (.v (.cal 25 (.cons (.idx (.var 0) (.var 2)) (.cons (.idx (.var 1) (.var 2)) .nil))))) (.var 2))) (.new false (.lst .nil)))) .nil)) .nil) (.cons (.ifs (.cmp .Is (.var 1) (.lit .non)) (.cons (.ret (.cmp .Is (.var 0) (.lit .non))) .nil) .nil) (.cons (.ifs (.cmp .Is (.var 1) (.lit (.bl true))) (.cons (.ret (.cmp .Is (.var 0) (.lit (.bl true)))) .nil) .nil) (.cons (.ifs (.cmp .Is (.var 1) (.lit (.bl false))) (.cons (.ret (.cmp .Is (.var 0) (.lit (.bl false)))) .nil) .nil) (.cons (.ifs (.v (.blt .isi (.cons (.var 1) (.cons (.lit (.ty "str")) .nil)))) (.cons (.ret (.and (.blt .isi (.cons (.var 0) (.cons (.lit (.ty "str")) .nil))) (.cmp .Eq (.var 0) (.var 1)))) .nil) .nil) (.cons (.ret (.and (.blt .isi (.cons (.var 0) (.cons (.lit (.ty "int")) .nil))) (.and (.not (.blt .isi (.cons (.var 0) (.cons (.lit (.ty "bool")) .nil)))) (.cmp .Eq (.var 0) (.var 1))))) .nil)))))) }
abbrev s26 : Stmt := top 38
def N26 : List Str := [(Str.ofString "pen"), (Str.ofString "letters"), (Str.ofString "signs"), (Str.ofString "long"), (Str.ofString "lap")]
def F26 : Fn := { np := 1, ns := 5, esc := false, body := (.cons (.asg (.tp (.cons (.nm 1) (.cons (.nm 2) .nil))) (.tup (.cons (.lit (.str (Str.ofString "abcdefghijklmnopqrstuvwxyz"))) (.cons (.lit (.str (Str.ofString "abcdefghijklmnopqrstuvwxyz0123456789"))) .nil)))) (.cons (.asg (.nm 3) (.idx (.new false (.lst (.cons (.lit (.int 0)) (.cons (.lit (.int 0)) (.cons (.lit (.int 1)) (.cons (.lit (.int 2)) (.cons (.lit (.int 5)) (.cons (.lit (.int 11)) .nil)))))))) (.cal 22 (.cons (.var 0) (.cons (.lit (.int 6)) .nil))))) (.cons (.ret (.bin .Add (.cal 23 (.cons (.var 0) (.cons (.var 1) .nil))) (.join (.lit (.str (Str.ofString ""))) (.new false (.lcp [4] (.nm 4) (.rng1 (.var 3)) (.v (.lit (.bl true))) (.cal 23 (.cons (.var 0) (.cons (.var 2) .nil)))))))) .nil))) }
abbrev s27 : Stmt := top 39
def N27 : List Str := [(Str.ofString "pen"), (Str.ofString "many"), (Str.ofString "found"), (Str.ofString "lap"), (Str.ofString "name")]
def F27 : Fn := { np := 2, ns := 5, esc := false, body := (.cons (.asg (.nm 2) (.new true (.lst .nil))) (.cons (.for (.nm 3) (.rng1 (.var 1)) (.cons (.asg (.nm 4) (.cal 26 (.cons (.var 0) .nil))) (.cons (.ifs (.cmp .In (.var 4) (.var 2)) (.cons (.asg (.nm 4) (.bin .Add (.bin .Add (.lit (.str (Str.ofString "z"))) (.blt .str (.cons (.var 3) .nil))) (.lit (.str (Str.ofString "q"))))) .nil) .nil) (.cons (.whl (.cmp .In (.var 4) (.var 2)) (.cons (.asg (.nm 4) (.bin .Add (.var 4) (.lit (.str (Str.ofString "0"))))) .nil)) (.cons (.drop (.app (.var 2) (.var 4))) .nil))))) (.cons (.ret (.tupO false (.var 2))) .nil))) }
abbrev s28 : Stmt := top 40
def N28 : List Str := [(Str.ofString "pen"), (Str.ofString "many"), (Str.ofString "names"), (Str.ofString "parties"), (Str.ofString "goods"), (Str.ofString "thin"), (Str.ofString "rows"), (Str.ofString "at"), (Str.ofString "wants"), (Str.ofString "good")]
def F28 : Fn := { np := 1, ns := 10, esc := false, body := (.cons (.asg (.nm 1) (.bin .Add (.lit (.int 2)) (.cal 22 (.cons (.var 0) (.cons (.lit (.int 3)) .nil))))) (.cons (.asg (.nm 2) (.cal 27 (.cons (.var 0) (.cons (.bin .Mult (.lit (.int 2)) (.var 1)) .nil)))) (.cons (.asg (.tp (.cons (.nm 3) (.cons (.nm 4) (.cons (.nm 5) .nil)))) (.tup (.cons (.slc (.var 2) .no (.ex (.var 1))) (.cons (.slc (.var 2) (.ex (.var 1)) .no) (.cons (.bin .Add (.lit (.int 2)) (.cal 22 (.cons (.var 0) (.cons (.lit (.int 2)) .nil)))) .nil))))) (.cons (.asg (.nm 6) (.new true (.lst .nil))) (.cons (.for (.nm 7) (.rng1 (.var 1)) (.cons (.asg (.nm 8) (.new false (.lcp [9] (.nm 9) (.it (.var 4)) (.and (.cmp .NotEq (.var 9) (.idx (.var 4) (.var 7))) (.cmp .Eq (.cal 22 (.cons (.var 0) (.cons (.var 5) .nil))) (.lit (.int 0)))) (.var 9)))) (.cons (.drop (.app (.var 6) (.tup (.cons (.idx (.var 3) (.var 7)) (.cons (.idx (.var 4) (.var 7)) (.cons (.tupO false (.cal 24 (.cons (.var 0) (.cons (.var 8) .nil)))) .nil)))))) .nil))) (.cons (.ret (.tupO false (.var 6))) .nil)))))) }
abbrev s29 : Stmt := top 41
def N29 : List Str := [(Str.ofString "rows"), (Str.ofString "lots"), (Str.ofString "found"), (Str.ofString "row"), (Str.ofString "longer"), (Str.ofString "lot"), (Str.ofString "brought"), (Str.ofString "wanted"), (Str.ofString "want")]
def F29 : Fn := { np := 1, ns := 9, esc := false, body := (.cons (.asg (.tp (.cons (.nm 1) (.cons (.nm 2) .nil))) (.tup (.cons (.new false (.lst (.cons (.tup .nil) .nil))) (.cons (.new true (.lst .nil)) .nil)))) (.cons (.for (.nm 3) (.it (.var 0)) (.cons (.asg (.nm 4) (.new true (.lstO (.var 1)))) (.cons (.for (.nm 5) (.it (.var 1)) (.cons (.drop (.ext (.var 4) (.new false (.lcp [8] (.nm 8) (.it (.idx (.var 3) (.lit (.int 2)))) (.v (.lit (.bl true))) (.bin .Add (.var 5) (.tup (.cons (.tup (.cons (.idx (.var 3) (.lit (.int 0))) (.cons (.idx (.var 3) (.lit (.int 1))) (.cons (.var 8) .nil)))) .nil))))))) .nil)) (.cons (.asg (.nm 1) (.var 4)) .nil)))) (.cons (.for (.nm 5) (.it (.var 1)) (.cons (.asg (.tp (.cons (.nm 6) (.cons (.nm 7) .nil))) (.tup (.cons (.new false (.sort (.new false (.lcp [3] (.nm 3) (.it (.var 5)) (.v (.lit (.bl true))) (.idx (.var 3) (.lit (.int 1))))))) (.cons (.new false (.sort (.new false (.lcp [3] (.nm 3) (.it (.var 5)) (.v (.lit (.bl true))) (.idx (.var 3) (.lit (.int 2))))))) .nil)))) (.cons (.ifs (.and (.cmp .Gt (.blt .len (.cons (.var 5) .nil)) (.lit (.int 1))) (.cmp .Eq (.var 6) (.var 7))) (.cons (.drop (.app (.var 2) (.var 5))) .nil) .nil) .nil))) (.cons (.ret (.new false (.sort (.var 2)))) .nil)))) }
abbrev s30 : Stmt := top 42
def N30 : List Str := [(Str.ofString "script"), (Str.ofString "pen"), (Str.ofString "lap"), (Str.ofString "rows"), (Str.ofString "given"), (Str.ofString "due"), (Str.ofString "most"), (Str.ofString "best"), (Str.ofString "served"), (Str.ofString "one"), (Str.ofString "parties"), (Str.ofString "free"), (Str.ofString "lot"), (Str.ofString "places"), (Str.ofString "is_there"), (Str.ofString "odd"), (Str.ofString "value"), (Str.ofString "row"), (Str.ofString "other"), (Str.ofString "place")]
def F30 : Fn := { np := 1, ns := 20, esc := false, body := (.cons (.asg (.nm 1) (.cal 21 (.cons (.var 0) .nil))) (.cons (.for (.nm 2) (.rng1 (.lit (.int 4))) (.cons (.asg (.nm 3) (.cal 28 (.cons (.var 1) .nil))) (.cons (.asg (.tp (.cons (.nm 4) (.cons (.nm 5) .nil))) (.tup (.cons (.cal 23 (.cons (.var 1) (.cons (.new false (.lst (.cons (.var 3) (.cons (.new false (.lstO (.var 3))) .nil)))) .nil))) (.cons (.cal 29 (.cons (.var 3) .nil)) .nil)))) (.cons (.ifs (.not (.v (.cal 25 (.cons (.cal 16 (.cons (.var 4) .nil)) (.cons (.tupO false (.var 5)) .nil))))) (.cons (.ret (.lit (.bl false))) .nil) .nil) (.cons (.ifs (.cmp .NotEq (.new false (.lcp [9] (.nm 9) (.it (.var 5)) (.cmp .NotEq (.att (.mak 0 (.cons (.var 9) .nil)) 0) (.var 9)) (.var 9))) (.new false (.lst .nil))) (.cons (.ret (.lit (.bl false))) .nil) .nil) (.cons (.asg (.nm 6) (.blt .max (.cons (.bin .Add (.new false (.lst (.cons (.lit (.int 0)) .nil))) (.new false (.lcp [9] (.nm 9) (.it (.var 5)) (.v (.lit (.bl true))) (.blt .len (.cons (.var 9) .nil))))) .nil))) (.cons (.asg (.nm 7) (.new false (.lcp [9] (.nm 9) (.it (.var 5)) (.cmp .Eq (.blt .len (.cons (.var 9) .nil)) (.var 6)) (.var 9)))) (.cons (.ifs (.not (.v (.cal 25 (.cons (.cal 17 (.cons (.var 4) .nil)) (.cons (.tup (.cons (.var 6) (.cons (.ife (.cmp .NotEq (.var 7) (.new false (.lst .nil))) (.idx (.var 7) (.lit (.int 0))) (.tup .nil)) .nil))) .nil))))) (.cons (.ret (.lit (.bl false))) .nil) .nil) (.cons (.asg (.nm 8) (.new true (.lst .nil))) (.cons (.for (.nm 9) (.it (.var 5)) (.cons (.drop (.ext (.var 8) (.new false (.lcp [17] (.nm 17) (.it (.var 9)) (.v (.lit (.bl true))) (.idx (.var 17) (.lit (.int 0))))))) .nil)) (.cons (.ifs (.not (.v (.cal 25 (.cons (.cal 19 (.cons (.var 4) .nil)) (.cons (.tupO false (.new false (.sort (.new false (.lcp [17] (.nm 17) (.it (.var 3)) (.cmp .NotIn (.idx (.var 17) (.lit (.int 0))) (.var 8)) (.idx (.var 17) (.lit (.int 0)))))))) .nil))))) (.cons (.ret (.lit (.bl false))) .nil) .nil) (.cons (.for (.nm 9) (.it (.bin .Add (.bin .Add (.new false (.lst (.cons (.tup .nil) .nil))) (.slc (.var 5) .no (.ex (.lit (.int 3))))) (.slc (.var 7) .no (.ex (.lit (.int 1)))))) (.cons (.asg (.nm 10) (.new false (.lcp [17] (.nm 17) (.it (.var 9)) (.v (.lit (.bl true))) (.idx (.var 17) (.lit (.int 0)))))) (.cons (.asg (.nm 11) (.new false (.lcp [18] (.nm 18) (.it (.var 5)) (.cmp .Eq (.new false (.lcp [17] (.nm 17) (.it (.var 18)) (.cmp .In (.idx (.var 17) (.lit (.int 0))) (.var 10)) (.var 17))) (.new false (.lst .nil))) (.var 18)))) (.cons (.ifs (.not (.v (.cal 25 (.cons (.cal 20 (.cons (.var 4) (.cons (.var 9) .nil))) (.cons (.ife (.cmp .NotEq (.var 11) (.new false (.lst .nil))) (.idx (.var 11) (.lit (.int 0))) (.lit .non)) .nil))))) (.cons (.ret (.lit (.bl false))) .nil) .nil) .nil)))) (.cons (.ifs (.and (.cmp .NotEq (.var 7) (.new false (.lst .nil))) (.cmp .IsNot (.cal 20 (.cons (.var 4) (.cons (.idx (.var 7) (.lit (.int 0))) .nil))) (.lit .non))) (.cons (.ret (.lit (.bl false))) .nil) .nil) (.cons (.for (.nm 12) (.rng1 (.lit (.int 6))) (.cons (.asg (.nm 13) (.tupO false (.new false (.lcp [19] (.nm 19) (.rng1 (.blt .len (.cons (.var 3) .nil))) (.cmp .Eq (.cal 22 (.cons (.var 1) (.cons (.lit (.int 2)) .nil))) (.lit (.int 0))) (.var 19))))) (.cons (.asg (.nm 10) (.new false (.lcp [19] (.nm 19) (.it (.var 13)) (.v (.lit (.bl true))) (.idx (.idx (.var 3) (.var 19)) (.lit (.int 0)))))) (.cons (.asg (.nm 14) (.cmp .NotEq (.new false (.lcp [9] (.nm 9) (.it (.var 5)) (.cmp .Eq (.new false (.lcp [17] (.nm 17) (.it (.var 9)) (.v (.lit (.bl true))) (.idx (.var 17) (.lit (.int 0))))) (.var 10)) (.var 9))) (.new false (.lst .nil)))) (.cons (.ifs (.not (.v (.cal 25 (.cons (.cal 18 (.cons (.var 4) (.cons (.mak 1 (.cons (.var 13) .nil)) .nil))) (.cons (.and (.var 14) (.cmp .Gt (.blt .len (.cons (.var 13) .nil)) (.lit (.int 1)))) .nil))))) (.cons (.ret (.lit (.bl false))) .nil) .nil) (.cons (.for (.nm 15) (.it (.new false (.lst (.cons (.ife (.cmp .Gt (.blt .len (.cons (.var 13) .nil)) (.lit (.int 1))) (.rev (.var 13)) (.lit .non)) (.cons (.bin .Add (.var 13) (.tup (.cons (.blt .len (.cons (.var 3) .nil)) .nil))) (.cons (.lit .non) (.cons (.bin .Add (.tup (.cons (.lit (.bl true)) .nil)) (.var 13)) .nil))))))) (.cons (.ifs (.cmp .IsNot (.cal 18 (.cons (.var 4) (.cons (.mak 1 (.cons (.var 15) .nil)) .nil))) (.lit (.bl false))) (.cons (.ret (.lit (.bl false))) .nil) .nil) .nil)) .nil)))))) (.cons (.for (.nm 16) (.it (.new false (.lst (.cons (.lit .non) (.cons (.lit (.int 5)) (.cons (.tup (.cons (.lit (.int 0)) (.cons (.lit (.int 1)) .nil))) .nil)))))) (.cons (.ifs (.cmp .IsNot (.cal 18 (.cons (.var 4) (.cons (.var 16) .nil))) (.lit (.bl false))) (.cons (.ret (.lit (.bl false))) .nil) .nil) .nil)) .nil))))))))))))))) (.cons (.ret (.and (.dun 5 (.mak 1 (.cons (.new false (.lst (.cons (.lit (.int 0)) (.cons (.lit (.int 1)) .nil)))) .nil)) (.mak 1 (.cons (.tup (.cons (.lit (.int 0)) (.cons (.lit (.int 1)) .nil))) .nil))) (.and (.dun 6 (.mak 1 (.cons (.tup (.cons (.lit (.int 0)) (.cons (.lit (.int 1)) .nil))) .nil)) (.mak 1 (.cons (.tup (.cons (.lit (.int 0)) .nil)) .nil))) (.not (.dun 5 (.mak 1 (.cons (.tup (.cons (.lit (.int 0)) (.cons (.lit (.int 1)) .nil))) .nil)) (.tup (.cons (.lit (.int 0)) (.cons (.lit (.int 1)) .nil)))))))) .nil))) }
def fnL : List Fn := [F0, F1, F2, F3, F4, F5, F6, F7, F8, F9, F10, F11, F12, F13, F14, F15, F16, F17, F18, F19, F20, F21, F22, F23, F24, F25, F26, F27, F28, F29, F30]
def clL : List Cl := [{ init := 4, frz := true, mth := fun m => [].lookup m, ats := [0] },
 { init := 7, frz := true, mth := fun m => [(5, 8), (6, 9)].lookup m, ats := [0] }]
def tab : Tab := { fn := fun i => fnL[i]?, cl := fun i => clL[i]?, gl := fun _ => none, xc := fun _ => none }
def names : List Str := [(Str.ofString "rows"), (Str.ofString "append"), (Str.ofString "extend"), (Str.ofString "pop"), (Str.ofString "join"), (Str.ofString "__eq__"), (Str.ofString "__ne__")]
def gd : Gd := { T := tab, names := names, fns := [((Str.ofString "is_whole"), 0), ((Str.ofString "as_tuples"), 1), ((Str.ofString "is_index"), 2), ((Str.ofString "is_name"), 3), ((Str.ofString "is_triple"), 5), ((Str.ofString "need_names"), 6), ((Str.ofString "is_wanting"), 10), ((Str.ofString "are_wantings"), 11), ((Str.ofString "known_wantings"), 12), ((Str.ofString "chosen"), 13), ((Str.ofString "lots_of_places"), 14), ((Str.ofString "orders_by"), 15), ((Str.ofString "orders_in"), 16), ((Str.ofString "most_served"), 17), ((Str.ofString "matched_holds"), 18), ((Str.ofString "left_alone"), 19), ((Str.ofString "blocking"), 20), ((Str.ofString "_law_pen"), 21), ((Str.ofString "_law_draw"), 22), ((Str.ofString "_law_pick"), 23), ((Str.ofString "_law_shuffled"), 24), ((Str.ofString "_law_is"), 25), ((Str.ofString "_law_name"), 26), ((Str.ofString "_law_names"), 27), ((Str.ofString "_law_drawn_wantings"), 28), ((Str.ofString "_law_orders"), 29), ((Str.ofString "law"), 30)], cls := [((Str.ofString "Order"), 0), ((Str.ofString "Matched"), 1)], bi := [(Str.ofString "len"), (Str.ofString "isinstance"), (Str.ofString "int"), (Str.ofString "str"), (Str.ofString "all"), (Str.ofString "any"), (Str.ofString "sum"), (Str.ofString "max"), (Str.ofString "min"), (Str.ofString "tuple"), (Str.ofString "list"), (Str.ofString "sorted"), (Str.ofString "range"), (Str.ofString "enumerate"), (Str.ofString "zip"), (Str.ofString "bool"), (Str.ofString "dict")], con := [((Str.ofString "LETTERS"), (.str (Str.ofString "abcdefghijklmnopqrstuvwxyz"))), ((Str.ofString "DIGITS"), (.str (Str.ofString "0123456789"))), ((Str.ofString "SIGNS"), (.str (Str.ofString "abcdefghijklmnopqrstuvwxyz0123456789")))] }
end Mn.K62
end
section
namespace Mn.K62.Hd
open PySem PySem.Spec PyProof.Rows L2
def d0 : He.DefD := ⟨((Str.ofString "is_whole"), none), (Str.ofString "is_whole"), (Str.ofString "is_whole"), L2.defArgs s0, L2.defBody s0, L2.defScope s0, [], []⟩
def d1 : He.DefD := ⟨((Str.ofString "as_tuples"), none), (Str.ofString "as_tuples"), (Str.ofString "as_tuples"), L2.defArgs s1, L2.defBody s1, L2.defScope s1, [], []⟩
def d2 : He.DefD := ⟨((Str.ofString "is_index"), none), (Str.ofString "is_index"), (Str.ofString "is_index"), L2.defArgs s2, L2.defBody s2, L2.defScope s2, [], []⟩
def d3 : He.DefD := ⟨((Str.ofString "is_name"), none), (Str.ofString "is_name"), (Str.ofString "is_name"), L2.defArgs s3, L2.defBody s3, L2.defScope s3, [], []⟩
def d4 : He.DefD := ⟨((Str.ofString "Order"), some (Str.ofString "__init__")), (Str.ofString "__init__"), (Str.ofString "Order.__init__"), L2.defArgs s4, L2.defBody s4, L2.defScope s4, [], []⟩
def d5 : He.DefD := ⟨((Str.ofString "is_triple"), none), (Str.ofString "is_triple"), (Str.ofString "is_triple"), L2.defArgs s5, L2.defBody s5, L2.defScope s5, [], []⟩
def d6 : He.DefD := ⟨((Str.ofString "need_names"), none), (Str.ofString "need_names"), (Str.ofString "need_names"), L2.defArgs s6, L2.defBody s6, L2.defScope s6, [], []⟩
def d7 : He.DefD := ⟨((Str.ofString "Matched"), some (Str.ofString "__init__")), (Str.ofString "__init__"), (Str.ofString "Matched.__init__"), L2.defArgs s7, L2.defBody s7, L2.defScope s7, [], []⟩
def d8 : He.DefD := ⟨((Str.ofString "Matched"), some (Str.ofString "__eq__")), (Str.ofString "__eq__"), (Str.ofString "Matched.__eq__"), L2.defArgs s8, L2.defBody s8, L2.defScope s8, [], []⟩
def d9 : He.DefD := ⟨((Str.ofString "Matched"), some (Str.ofString "__ne__")), (Str.ofString "__ne__"), (Str.ofString "Matched.__ne__"), L2.defArgs s9, L2.defBody s9, L2.defScope s9, [], []⟩
def d10 : He.DefD := ⟨((Str.ofString "is_wanting"), none), (Str.ofString "is_wanting"), (Str.ofString "is_wanting"), L2.defArgs s10, L2.defBody s10, L2.defScope s10, [], []⟩
def d11 : He.DefD := ⟨((Str.ofString "are_wantings"), none), (Str.ofString "are_wantings"), (Str.ofString "are_wantings"), L2.defArgs s11, L2.defBody s11, L2.defScope s11, [], []⟩
def d12 : He.DefD := ⟨((Str.ofString "known_wantings"), none), (Str.ofString "known_wantings"), (Str.ofString "known_wantings"), L2.defArgs s12, L2.defBody s12, L2.defScope s12, [], []⟩
def d13 : He.DefD := ⟨((Str.ofString "chosen"), none), (Str.ofString "chosen"), (Str.ofString "chosen"), L2.defArgs s13, L2.defBody s13, L2.defScope s13, [], []⟩
def d14 : He.DefD := ⟨((Str.ofString "lots_of_places"), none), (Str.ofString "lots_of_places"), (Str.ofString "lots_of_places"), L2.defArgs s14, L2.defBody s14, L2.defScope s14, [], []⟩
def d15 : He.DefD := ⟨((Str.ofString "orders_by"), none), (Str.ofString "orders_by"), (Str.ofString "orders_by"), L2.defArgs s15, L2.defBody s15, L2.defScope s15, [], []⟩
def d16 : He.DefD := ⟨((Str.ofString "orders_in"), none), (Str.ofString "orders_in"), (Str.ofString "orders_in"), L2.defArgs s16, L2.defBody s16, L2.defScope s16, [], []⟩
def d17 : He.DefD := ⟨((Str.ofString "most_served"), none), (Str.ofString "most_served"), (Str.ofString "most_served"), L2.defArgs s17, L2.defBody s17, L2.defScope s17, [], []⟩
def d18 : He.DefD := ⟨((Str.ofString "matched_holds"), none), (Str.ofString "matched_holds"), (Str.ofString "matched_holds"), L2.defArgs s18, L2.defBody s18, L2.defScope s18, [], []⟩
def d19 : He.DefD := ⟨((Str.ofString "left_alone"), none), (Str.ofString "left_alone"), (Str.ofString "left_alone"), L2.defArgs s19, L2.defBody s19, L2.defScope s19, [], []⟩
def d20 : He.DefD := ⟨((Str.ofString "blocking"), none), (Str.ofString "blocking"), (Str.ofString "blocking"), L2.defArgs s20, L2.defBody s20, L2.defScope s20, [], []⟩
def d21 : He.DefD := ⟨((Str.ofString "_law_pen"), none), (Str.ofString "_law_pen"), (Str.ofString "_law_pen"), L2.defArgs s21, L2.defBody s21, L2.defScope s21, [], []⟩
def d22 : He.DefD := ⟨((Str.ofString "_law_draw"), none), (Str.ofString "_law_draw"), (Str.ofString "_law_draw"), L2.defArgs s22, L2.defBody s22, L2.defScope s22, [], []⟩
def d23 : He.DefD := ⟨((Str.ofString "_law_pick"), none), (Str.ofString "_law_pick"), (Str.ofString "_law_pick"), L2.defArgs s23, L2.defBody s23, L2.defScope s23, [], []⟩
def d24 : He.DefD := ⟨((Str.ofString "_law_shuffled"), none), (Str.ofString "_law_shuffled"), (Str.ofString "_law_shuffled"), L2.defArgs s24, L2.defBody s24, L2.defScope s24, [], []⟩
def d25 : He.DefD := ⟨((Str.ofString "_law_is"), none), (Str.ofString "_law_is"), (Str.ofString "_law_is"), L2.defArgs s25, L2.defBody s25, L2.defScope s25, [], []⟩
def d26 : He.DefD := ⟨((Str.ofString "_law_name"), none), (Str.ofString "_law_name"), (Str.ofString "_law_name"), L2.defArgs s26, L2.defBody s26, L2.defScope s26, [], []⟩
def d27 : He.DefD := ⟨((Str.ofString "_law_names"), none), (Str.ofString "_law_names"), (Str.ofString "_law_names"), L2.defArgs s27, L2.defBody s27, L2.defScope s27, [], []⟩
def d28 : He.DefD := ⟨((Str.ofString "_law_drawn_wantings"), none), (Str.ofString "_law_drawn_wantings"), (Str.ofString "_law_drawn_wantings"), L2.defArgs s28, L2.defBody s28, L2.defScope s28, [], []⟩
def d29 : He.DefD := ⟨((Str.ofString "_law_orders"), none), (Str.ofString "_law_orders"), (Str.ofString "_law_orders"), L2.defArgs s29, L2.defBody s29, L2.defScope s29, [], []⟩
def d30 : He.DefD := ⟨((Str.ofString "law"), none), (Str.ofString "law"), (Str.ofString "law"), L2.defArgs s30, L2.defBody s30, L2.defScope s30, [], []⟩
def dfs : List He.DefD := [d0, d1, d2, d3, d4, d5, d6, d7, d8, d9, d10, d11, d12, d13, d14, d15, d16, d17, d18, d19, d20, d21, d22, d23, d24, d25, d26, d27, d28, d29, d30]
def lw : Lw := ⟨gd, [(Str.ofString "Order"), (Str.ofString "Matched")], dfs⟩
def loose0 : List PySem.Str := [(Str.ofString "DealError"), (Str.ofString "BadRow"), (Str.ofString "NoGood"), (Str.ofString "TakenName"), (Str.ofString "Unlike"), (Str.ofString "is_whole"), (Str.ofString "as_tuples"), (Str.ofString "is_index"), (Str.ofString "LETTERS"), (Str.ofString "DIGITS"), (Str.ofString "SIGNS"), (Str.ofString "is_name"), (Str.ofString "Order"), (Str.ofString "is_triple"), (Str.ofString "need_names"), (Str.ofString "Matched"), (Str.ofString "is_wanting"), (Str.ofString "are_wantings"), (Str.ofString "known_wantings"), (Str.ofString "chosen"), (Str.ofString "lots_of_places"), (Str.ofString "orders_by"), (Str.ofString "orders_in"), (Str.ofString "most_served"), (Str.ofString "matched_holds"), (Str.ofString "left_alone"), (Str.ofString "blocking"), (Str.ofString "_law_pen"), (Str.ofString "_law_draw"), (Str.ofString "_law_pick")]
def loose1 : List PySem.Str := [(Str.ofString "_law_shuffled"), (Str.ofString "_law_is"), (Str.ofString "_law_name"), (Str.ofString "_law_names"), (Str.ofString "_law_drawn_wantings"), (Str.ofString "_law_orders")]
abbrev R : PySem.W.OpenRow := PySem.W.OpenLaw.row PySem.Challenge.rw_dealsafe_k62_whole_wantings
def loose : List PySem.Str := loose0 ++ loose1
def ads : List Nat := [3, 6, 4, 24, 44, 63, 82, 101, 110, 115, 122, 127, 156, 165, 172, 203, 212, 217, 224, 229, 234, 241, 248, 253, 258, 263, 268, 275, 282, 289, 296, 301, 306, 313, 318, 323, 328, 0, 23, 43, 62, 81, 100, 109, 114, 121, 126, 155, 164, 171, 202, 211, 216, 223, 228, 233, 240, 247, 252, 257, 262, 267, 274, 281, 288, 295, 300, 305, 312, 317, 322, 327, 22, 25, 41, 42, 60, 61, 79, 80, 98, 99, 104, 106, 107, 108, 111, 113, 116, 118, 119, 120, 123, 125, 139, 146, 153, 154, 157, 158, 161, 163, 166, 168, 169, 170, 186, 193, 200, 201, 204, 205, 208, 210, 213, 215, 218, 220, 221, 222, 225, 227, 230, 232, 235, 237, 238, 239, 242, 244, 245, 246, 249, 251, 254, 256, 259, 261, 264, 266, 269, 271, 272, 273, 276, 278, 279, 280, 283, 285, 286, 287, 290, 292, 293, 294, 297, 299, 302, 304, 307, 309, 310, 311, 314, 316, 319, 321, 324, 326, 40, 59, 78, 97, 138, 145, 152, 185, 192, 199]
abbrev hk : PySem.W.Hook := hookL ads dfs (tellB lw 2)
def ob (s : PySem.W.SharedT) : He.AlX := obsL ads dfs (tellB lw 2) (HandSHeadRun.getT s)
theorem ob_eq (s : PySem.W.SharedT) : ob s = hk.obs s.abs := obsL_eq (HandSHeadRun.getT_eq s)
theorem comb {α β γ δ ε : Type} {o : Option α} {A : α → β} {B : α → γ} {C : α → δ × ε} {a : β} {b : γ} {c : δ × ε} (h1 : o.map (fun s => (A s, B s)) = some (a, b)) (h2 : o.map (fun s => (C s).1) = some c.1) (h3 : o.map (fun s => (C s).2) = some c.2) : o.map (fun s => (A s, B s, C s)) = some (a, b, c) := by
 cases o with
 | none => cases h1
 | some s =>
  have e1 := Option.some.inj h1
  have e2 := Option.some.inj h2
  have e3 := Option.some.inj h3
  obtain ⟨c1, c2⟩ := c
  simp only [Prod.mk.injEq] at e1
  show some (A s, B s, C s) = _
  rw [e1.1, e1.2]
  exact congrArg (fun z => some (a, b, z)) (Prod.ext e2 e3)
open PySem.W HandSHeadRun in
theorem runA (w : World) : ∀ os : OsState, (endF (stepQ (denQ tabQ) R.prog w) 20000 R.prog w os).map (fun s => (looksF R.prog (boot_heap w.params) s.abs, seenQ (view R.prog [42]) loose (importedModules R.prog.main.body) (fun s => xlAt (view R.prog [42]) [] s && recOk R.toRowW.records s) s.abs)) = some (true, openGood (view R.prog [42]) loose) := by
 intro os
 kernel_rfl
theorem comb2 {α β γ δ : Type} {o : Option α} {C : α → (β × γ) × δ} {c : (β × γ) × δ} (h1 : o.map (fun s => (C s).1.1) = some c.1.1) (h2 : o.map (fun s => ((C s).1.2, (C s).2)) = some (c.1.2, c.2)) : o.map C = some c := by
 cases o with
 | none => cases h1
 | some s =>
  have e1 := Option.some.inj h1
  have e2 := Option.some.inj h2
  simp only [Prod.mk.injEq] at e2
  exact congrArg some (Prod.ext (Prod.ext e1 e2.1) e2.2)
open PySem.W HandSHeadRun in
theorem runB1 (w : World) : ∀ os : OsState, (endF (stepQ (denQ tabQ) R.prog w) 20000 R.prog w os).map (fun s => (ob s).1.1.1) = some ((He.valX dfs [] w).1.1.1) := by
 intro os
 kernel_rfl
open PySem.W HandSHeadRun in
theorem runB2 (w : World) : ∀ os : OsState, (endF (stepQ (denQ tabQ) R.prog w) 20000 R.prog w os).map (fun s => ((ob s).1.1.2, (ob s).1.2)) = some (((He.valX dfs [] w).1.1.2, (He.valX dfs [] w).1.2)) := by
 intro os
 kernel_rfl
open PySem.W HandSHeadRun in
theorem runC (w : World) : ∀ os : OsState, (endF (stepQ (denQ tabQ) R.prog w) 20000 R.prog w os).map (fun s => (ob s).2) = some ((He.valX dfs [] w).2) := by
 intro os
 kernel_rfl
open PySem.W HandSHeadRun in
theorem runB (w : World) : ∀ os : OsState, (endF (stepQ (denQ tabQ) R.prog w) 20000 R.prog w os).map (fun s => (ob s).1) = some (He.valX dfs [] w).1 := fun os => comb2 (C := fun s => (ob s).1) (c := (He.valX dfs [] w).1) (runB1 w os) (runB2 w os)
theorem run (w : World) : HandSHeadRun.RunEq R (PySem.W.view R.prog [42]) hk ob 20000 loose w := fun os => comb (C := ob) (c := He.valX dfs [] w) (runA w os) (runB w os) (runC w os)
theorem st_ok : stB lw 2 31 = true := by kernel_rfl
end Mn.K62.Hd
end
section
namespace Mn.K62
open PySem PySem.Spec PyProof.Rows L2
theorem e0 {S : Sit} (G : Glob gd S) {n : Nat} (cf mf : Calls) (X : Cx) (W : L2.WX) (cx : Cxt S (L2.defScope s0) N0 X) (fn : ∀ x, X.fn x = true) (tk : L2.Takes X W) (po : PassesOwn (model X.prog X.w) X.A X.env X.xe) (co : CallsOk S X cf mf) : SB S W cf mf n X (L2.defBody s0) F0.body := by
 have C : Cxk S (L2.defScope s0) N0 true cf mf X := ⟨cx, fun _ => fn, co⟩
 have v_0 : ∀ {W : L2.WX} {pos : Pos}, SE S W cf mf X (.Name (Str.ofString "value") pos) (.var 0) := fun {_ _} => w_var C rfl kR
 refine b_cons ?_ (b_nil)
 ·exact x_ret (w_and C (w_isi G C (i := 1) rfl kR (a_cons v_0 (a_cons (w_ty G C (i := 2) rfl kR kR) a_nil kR) kR) kR) (w_one (w_not C (w_isi G C (i := 1) rfl kR (a_cons v_0 (a_cons (w_ty G C (i := 15) rfl kR kR) a_nil kR) kR) kR))))
theorem e1 {S : Sit} (G : Glob gd S) {n : Nat} (cf mf : Calls) (X : Cx) (W : L2.WX) (cx : Cxt S (L2.defScope s1) N1 X) (fn : ∀ x, X.fn x = true) (tk : L2.Takes X W) (po : PassesOwn (model X.prog X.w) X.A X.env X.xe) (co : CallsOk S X cf mf) : SB S W cf mf n X (L2.defBody s1) F1.body := by
 have C : Cxk S (L2.defScope s1) N1 true cf mf X := ⟨cx, fun _ => fn, co⟩
 have v_0 : ∀ {W : L2.WX} {pos : Pos}, SE S W cf mf X (.Name (Str.ofString "value") pos) (.var 0) := fun {_ _} => w_var C rfl kR
 refine b_cons ?_ (b_cons ?_ (b_nil))
 ·refine x_if (t_v C (w_isi G C (i := 1) rfl kR (a_cons v_0 (a_cons (w_tup (a_cons (w_ty G C (i := 10) rfl kR kR) (a_cons (w_ty G C (i := 9) rfl kR kR) a_nil kR) kR) kR) a_nil kR) kR) kR) (fun _ => rfl)) ?_ ?_
  ·refine b_cons ?_ (b_nil)
   ·exact x_ret (w_tupO G C false (i := 9) rfl kR (w_new false (n_lc C [((Str.ofString "one"), 1)] (i_it C v_0) kR kR (fun Xb1 Cb1 Tb1 => have vb1_1 : ∀ {W : L2.WX} {pos : Pos}, SE S W cf mf Xb1 (.Name (Str.ofString "one") pos) (.var 1) := fun {_ _} => w_var Cb1 rfl kR; ⟨(g_nm Cb1 rfl kR), c_none, (w_cal G Cb1 Tb1 (i := 1) rfl rfl kR (a_cons vb1_1 a_nil kR) kR)⟩) (fun _ => rfl))) kR)
  ·exact b_nil
 ·exact x_ret v_0
theorem e2 {S : Sit} (G : Glob gd S) {n : Nat} (cf mf : Calls) (X : Cx) (W : L2.WX) (cx : Cxt S (L2.defScope s2) N2 X) (fn : ∀ x, X.fn x = true) (tk : L2.Takes X W) (po : PassesOwn (model X.prog X.w) X.A X.env X.xe) (co : CallsOk S X cf mf) : SB S W cf mf n X (L2.defBody s2) F2.body := by
 have C : Cxk S (L2.defScope s2) N2 true cf mf X := ⟨cx, fun _ => fn, co⟩
 have v_0 : ∀ {W : L2.WX} {pos : Pos}, SE S W cf mf X (.Name (Str.ofString "value") pos) (.var 0) := fun {_ _} => w_var C rfl kR
 have v_1 : ∀ {W : L2.WX} {pos : Pos}, SE S W cf mf X (.Name (Str.ofString "many") pos) (.var 1) := fun {_ _} => w_var C rfl kR
 refine b_cons ?_ (b_nil)
 ·exact x_ret (w_and C (w_cal G C tk (i := 0) rfl rfl kR (a_cons v_0 a_nil kR) kR) (w_one (w_chn C w_int v_0 v_1 kR)))
theorem e3 {S : Sit} (G : Glob gd S) {n : Nat} (cf mf : Calls) (X : Cx) (W : L2.WX) (cx : Cxt S (L2.defScope s3) N3 X) (fn : ∀ x, X.fn x = true) (tk : L2.Takes X W) (po : PassesOwn (model X.prog X.w) X.A X.env X.xe) (co : CallsOk S X cf mf) : SB S W cf mf n X (L2.defBody s3) F3.body := by
 have C : Cxk S (L2.defScope s3) N3 true cf mf X := ⟨cx, fun _ => fn, co⟩
 have v_0 : ∀ {W : L2.WX} {pos : Pos}, SE S W cf mf X (.Name (Str.ofString "value") pos) (.var 0) := fun {_ _} => w_var C rfl kR
 refine b_cons ?_ (b_cons ?_ (b_nil))
 ·refine x_if (t_w (t_or (t_not (t_v C (w_isi G C (i := 1) rfl kR (a_cons v_0 (a_cons (w_ty G C (i := 3) rfl kR kR) a_nil kR) kR) kR) (fun _ => rfl))) (t_or (t_not (t_chn C w_int (w_len G C (i := 0) rfl kR (a_cons v_0 a_nil kR) kR) w_int kR)) (t_o1 (t_cmp C (w_idx C v_0 w_int (fun _ _ => rfl)) (w_con G C (i := 0) rfl kR) kR))))) ?_ ?_
  ·refine b_cons ?_ (b_nil)
   ·exact x_ret w_bl
  ·exact b_nil
 ·exact x_ret (w_all G C (i := 4) rfl kR (a_cons (w_new false (n_lc C [((Str.ofString "sign"), 1)] (i_it C v_0) kR kR (fun Xb2 Cb2 Tb2 => have vb2_1 : ∀ {W : L2.WX} {pos : Pos}, SE S W cf mf Xb2 (.Name (Str.ofString "sign") pos) (.var 1) := fun {_ _} => w_var Cb2 rfl kR; ⟨(g_nm Cb2 rfl kR), c_none, (w_cmp Cb2 vb2_1 (w_con G Cb2 (i := 2) rfl kR) kR)⟩) (fun _ => rfl))) a_nil kR) kR)
theorem e4 {S : Sit} (G : Glob gd S) {n : Nat} (cf mf : Calls) (X : Cx) (W : L2.WX) (cx : Cxt S (L2.defScope s4) N4 X) (fn : ∀ x, X.fn x = true) (tk : L2.Takes X W) (po : PassesOwn (model X.prog X.w) X.A X.env X.xe) (co : CallsOk S X cf mf) : SB S W cf mf n X (L2.defBody s4) F4.body := by
 have C : Cxk S (L2.defScope s4) N4 true cf mf X := ⟨cx, fun _ => fn, co⟩
 have v_0 : ∀ {W : L2.WX} {pos : Pos}, SE S W cf mf X (.Name (Str.ofString "self") pos) (.var 0) := fun {_ _} => w_var C rfl kR
 have v_1 : ∀ {W : L2.WX} {pos : Pos}, SE S W cf mf X (.Name (Str.ofString "rows") pos) (.var 1) := fun {_ _} => w_var C rfl kR
 have v_2 : ∀ {W : L2.WX} {pos : Pos}, SE S W cf mf X (.Name (Str.ofString "row") pos) (.var 2) := fun {_ _} => w_var C rfl kR
 have v_3 : ∀ {W : L2.WX} {pos : Pos}, SE S W cf mf X (.Name (Str.ofString "brought") pos) (.var 3) := fun {_ _} => w_var C rfl kR
 have v_4 : ∀ {W : L2.WX} {pos : Pos}, SE S W cf mf X (.Name (Str.ofString "wanted") pos) (.var 4) := fun {_ _} => w_var C rfl kR
 refine b_cons ?_ (b_cons ?_ (b_cons ?_ (b_cons ?_ (b_cons ?_ (b_cons ?_ (b_cons ?_ (b_cons ?_ (b_nil))))))))
 ·refine x_if (t_w (t_or (t_not (t_v C (w_isi G C (i := 1) rfl kR (a_cons v_1 (a_cons (w_tup (a_cons (w_ty G C (i := 10) rfl kR kR) (a_cons (w_ty G C (i := 9) rfl kR kR) a_nil kR) kR) kR) a_nil kR) kR) kR) (fun _ => rfl))) (t_o1 (t_not (t_chn C w_int (w_len G C (i := 0) rfl kR (a_cons v_1 a_nil kR) kR) w_int kR))))) ?_ ?_
  ·refine b_cons ?_ (b_nil)
   ·exact x_dead
  ·exact b_nil
 ·refine x_for C po (i_it C v_1) (g_nm C rfl kR) ?_ (fun _ => rfl)
  refine b_cons ?_ (b_nil)
  ·refine x_if (t_not (t_v C (w_cal G C (takes_WC tk) (i := 4) rfl rfl kR (a_cons v_2 a_nil kR) kR) (fun _ => rfl))) ?_ ?_
   ·refine b_cons ?_ (b_nil)
    ·exact x_dead
   ·exact b_nil
 ·exact x_drop (w_cal G C tk (i := 5) rfl rfl kR (a_cons v_1 a_nil kR) kR) kR
 ·exact x_setLc C [((Str.ofString "row"), 2)] false rfl kR (i_it C v_1) kR kR (fun Xb3 Cb3 Tb3 => have vb3_2 : ∀ {W : L2.WX} {pos : Pos}, SE S W cf mf Xb3 (.Name (Str.ofString "row") pos) (.var 2) := fun {_ _} => w_var Cb3 rfl kR; ⟨(g_nm Cb3 rfl kR), c_none, (w_idx Cb3 vb3_2 w_int (fun _ _ => rfl))⟩) (fun _ => rfl)
 ·refine x_for C po (i_it C v_1) (g_nm C rfl kR) ?_ (fun _ => rfl)
  refine b_cons ?_ (b_nil)
  ·refine x_if (t_cmp C (w_idx C v_2 w_int (fun _ _ => rfl)) v_3 kR) ?_ ?_
   ·refine b_cons ?_ (b_nil)
    ·exact x_dead
   ·exact b_nil
 ·exact x_setLn C (w_new false (n_lc C [((Str.ofString "row"), 2)] (i_it C v_1) kR kR (fun Xb4 Cb4 Tb4 => have vb4_2 : ∀ {W : L2.WX} {pos : Pos}, SE S W cf mf Xb4 (.Name (Str.ofString "row") pos) (.var 2) := fun {_ _} => w_var Cb4 rfl kR; ⟨(g_nm Cb4 rfl kR), c_none, (w_idx Cb4 vb4_2 w_int (fun _ _ => rfl))⟩) (fun _ => rfl))) rfl kR kR
 ·refine x_if (t_w (t_or (t_v C (w_any G C (i := 5) rfl kR (a_cons (w_new false (n_lc C [((Str.ofString "row"), 2)] (i_it C v_1) kR kR (fun Xb6 Cb6 Tb6 => have vb6_2 : ∀ {W : L2.WX} {pos : Pos}, SE S W cf mf Xb6 (.Name (Str.ofString "row") pos) (.var 2) := fun {_ _} => w_var Cb6 rfl kR; ⟨(g_nm Cb6 rfl kR), c_none, (w_cmp Cb6 (w_idx Cb6 vb6_2 w_int (fun _ _ => rfl)) (w_idx Cb6 vb6_2 w_int (fun _ _ => rfl)) kR)⟩) (fun _ => rfl))) a_nil kR) kR) (fun _ => rfl)) (t_o1 (t_v C (w_any G C (i := 5) rfl kR (a_cons (w_new false (n_lc C [((Str.ofString "at"), 5)] (i_rng1 G C (i := 12) rfl kR (w_len G C (i := 0) rfl kR (a_cons v_4 a_nil kR) kR) kR) kR kR (fun Xb5 Cb5 Tb5 => have vb5_4 : ∀ {W : L2.WX} {pos : Pos}, SE S W cf mf Xb5 (.Name (Str.ofString "wanted") pos) (.var 4) := fun {_ _} => w_var Cb5 rfl kR; have vb5_5 : ∀ {W : L2.WX} {pos : Pos}, SE S W cf mf Xb5 (.Name (Str.ofString "at") pos) (.var 5) := fun {_ _} => w_var Cb5 rfl kR; ⟨(g_nm Cb5 rfl kR), c_none, (w_cmp Cb5 (w_idx Cb5 vb5_4 vb5_5 (fun _ _ => rfl)) (w_slc Cb5 vb5_4 s_no (s_ex vb5_5)) kR)⟩) (fun _ => rfl))) a_nil kR) kR) (fun _ => rfl))))) ?_ ?_
  ·refine b_cons ?_ (b_nil)
   ·exact x_dead
  ·exact b_nil
 ·exact x_fld G C v_0 (w_tupO G C false (i := 9) rfl kR v_1 kR) rfl
theorem e5 {S : Sit} (G : Glob gd S) {n : Nat} (cf mf : Calls) (X : Cx) (W : L2.WX) (cx : Cxt S (L2.defScope s5) N5 X) (fn : ∀ x, X.fn x = true) (tk : L2.Takes X W) (po : PassesOwn (model X.prog X.w) X.A X.env X.xe) (co : CallsOk S X cf mf) : SB S W cf mf n X (L2.defBody s5) F5.body := by
 have C : Cxk S (L2.defScope s5) N5 true cf mf X := ⟨cx, fun _ => fn, co⟩
 have v_0 : ∀ {W : L2.WX} {pos : Pos}, SE S W cf mf X (.Name (Str.ofString "row") pos) (.var 0) := fun {_ _} => w_var C rfl kR
 refine b_cons ?_ (b_nil)
 ·exact x_ret (w_and C (w_isi G C (i := 1) rfl kR (a_cons v_0 (a_cons (w_ty G C (i := 9) rfl kR kR) a_nil kR) kR) kR) (w_and C (w_cmp C (w_len G C (i := 0) rfl kR (a_cons v_0 a_nil kR) kR) w_int kR) (w_one (w_all G C (i := 4) rfl kR (a_cons (w_new false (n_lc C [((Str.ofString "one"), 1)] (i_it C v_0) kR kR (fun Xb7 Cb7 Tb7 => have vb7_1 : ∀ {W : L2.WX} {pos : Pos}, SE S W cf mf Xb7 (.Name (Str.ofString "one") pos) (.var 1) := fun {_ _} => w_var Cb7 rfl kR; ⟨(g_nm Cb7 rfl kR), c_none, (w_cal G Cb7 Tb7 (i := 3) rfl rfl kR (a_cons vb7_1 a_nil kR) kR)⟩) (fun _ => rfl))) a_nil kR) kR))))
theorem e6 {S : Sit} (G : Glob gd S) {n : Nat} (cf mf : Calls) (X : Cx) (W : L2.WX) (cx : Cxt S (L2.defScope s6) N6 X) (fn : ∀ x, X.fn x = true) (tk : L2.Takes X W) (po : PassesOwn (model X.prog X.w) X.A X.env X.xe) (co : CallsOk S X cf mf) : SB S W cf mf n X (L2.defBody s6) F6.body := by
 have C : Cxk S (L2.defScope s6) N6 true cf mf X := ⟨cx, fun _ => fn, co⟩
 have v_0 : ∀ {W : L2.WX} {pos : Pos}, SE S W cf mf X (.Name (Str.ofString "rows") pos) (.var 0) := fun {_ _} => w_var C rfl kR
 have v_1 : ∀ {W : L2.WX} {pos : Pos}, SE S W cf mf X (.Name (Str.ofString "known") pos) (.var 1) := fun {_ _} => w_var C rfl kR
 have v_2 : ∀ {W : L2.WX} {pos : Pos}, SE S W cf mf X (.Name (Str.ofString "row") pos) (.var 2) := fun {_ _} => w_var C rfl kR
 refine b_cons ?_ (b_cons ?_ (b_cons ?_ (b_nil)))
 ·exact x_set C (w_new true n_dct0) rfl kR kR
 ·refine x_for C po (i_it C v_0) (g_nm C rfl kR) ?_ (fun _ => rfl)
  refine b_cons ?_ (b_cons ?_ (b_nil))
  ·refine x_if (t_cmp C (w_idx C v_2 w_int (fun _ _ => rfl)) v_1 kR) ?_ ?_
   ·refine b_cons ?_ (b_nil)
    ·exact x_dead
   ·exact b_nil
  ·exact x_asg w_bl (g_sub C v_1 (w_idx C v_2 w_int (fun _ _ => rfl)) (fun _ => rfl)) rfl rfl rfl
 ·refine x_for C po (i_it C v_0) (g_nm C rfl kR) ?_ (fun _ => rfl)
  refine b_cons ?_ (b_cons ?_ (b_nil))
  ·refine x_if (t_cmp C (w_idx C v_2 w_int (fun _ _ => rfl)) v_1 kR) ?_ ?_
   ·refine b_cons ?_ (b_nil)
    ·exact x_dead
   ·exact b_nil
  ·exact x_asg w_bl (g_sub C v_1 (w_idx C v_2 w_int (fun _ _ => rfl)) (fun _ => rfl)) rfl rfl rfl
theorem e7 {S : Sit} (G : Glob gd S) {n : Nat} (cf mf : Calls) (X : Cx) (W : L2.WX) (cx : Cxt S (L2.defScope s7) N7 X) (fn : ∀ x, X.fn x = true) (tk : L2.Takes X W) (po : PassesOwn (model X.prog X.w) X.A X.env X.xe) (co : CallsOk S X cf mf) : SB S W cf mf n X (L2.defBody s7) F7.body := by
 have C : Cxk S (L2.defScope s7) N7 true cf mf X := ⟨cx, fun _ => fn, co⟩
 have v_0 : ∀ {W : L2.WX} {pos : Pos}, SE S W cf mf X (.Name (Str.ofString "self") pos) (.var 0) := fun {_ _} => w_var C rfl kR
 have v_1 : ∀ {W : L2.WX} {pos : Pos}, SE S W cf mf X (.Name (Str.ofString "rows") pos) (.var 1) := fun {_ _} => w_var C rfl kR
 refine b_cons ?_ (b_nil)
 ·exact x_fld G C v_0 (w_cal G C tk (i := 1) rfl rfl kR (a_cons v_1 a_nil kR) kR) rfl
theorem e8 {S : Sit} (G : Glob gd S) {n : Nat} (cf mf : Calls) (X : Cx) (W : L2.WX) (cx : Cxt S (L2.defScope s8) N8 X) (fn : ∀ x, X.fn x = true) (tk : L2.Takes X W) (po : PassesOwn (model X.prog X.w) X.A X.env X.xe) (co : CallsOk S X cf mf) : SB S W cf mf n X (L2.defBody s8) F8.body := by
 have C : Cxk S (L2.defScope s8) N8 true cf mf X := ⟨cx, fun _ => fn, co⟩
 have v_0 : ∀ {W : L2.WX} {pos : Pos}, SE S W cf mf X (.Name (Str.ofString "self") pos) (.var 0) := fun {_ _} => w_var C rfl kR
 have v_1 : ∀ {W : L2.WX} {pos : Pos}, SE S W cf mf X (.Name (Str.ofString "other") pos) (.var 1) := fun {_ _} => w_var C rfl kR
 refine b_cons ?_ (b_nil)
 ·exact x_ret (w_and C (w_isi G C (i := 1) rfl kR (a_cons v_1 (a_cons (w_cls G C (i := 1) rfl kR) a_nil kR) kR) kR) (w_one (w_cmp C (w_att G C v_0 rfl kR) (w_att G C v_1 rfl kR) kR)))
theorem e9 {S : Sit} (G : Glob gd S) {n : Nat} (cf mf : Calls) (X : Cx) (W : L2.WX) (cx : Cxt S (L2.defScope s9) N9 X) (fn : ∀ x, X.fn x = true) (tk : L2.Takes X W) (po : PassesOwn (model X.prog X.w) X.A X.env X.xe) (co : CallsOk S X cf mf) : SB S W cf mf n X (L2.defBody s9) F9.body := by
 have C : Cxk S (L2.defScope s9) N9 true cf mf X := ⟨cx, fun _ => fn, co⟩
 have v_0 : ∀ {W : L2.WX} {pos : Pos}, SE S W cf mf X (.Name (Str.ofString "self") pos) (.var 0) := fun {_ _} => w_var C rfl kR
 have v_1 : ∀ {W : L2.WX} {pos : Pos}, SE S W cf mf X (.Name (Str.ofString "other") pos) (.var 1) := fun {_ _} => w_var C rfl kR
 refine b_cons ?_ (b_nil)
 ·exact x_ret (w_not C (w_dun G C tk v_0 v_1 (fun _ _ => rfl) rfl kR))
theorem e10 {S : Sit} (G : Glob gd S) {n : Nat} (cf mf : Calls) (X : Cx) (W : L2.WX) (cx : Cxt S (L2.defScope s10) N10 X) (fn : ∀ x, X.fn x = true) (tk : L2.Takes X W) (po : PassesOwn (model X.prog X.w) X.A X.env X.xe) (co : CallsOk S X cf mf) : SB S W cf mf n X (L2.defBody s10) F10.body := by
 have C : Cxk S (L2.defScope s10) N10 true cf mf X := ⟨cx, fun _ => fn, co⟩
 have v_0 : ∀ {W : L2.WX} {pos : Pos}, SE S W cf mf X (.Name (Str.ofString "row") pos) (.var 0) := fun {_ _} => w_var C rfl kR
 refine b_cons ?_ (b_cons ?_ (b_cons ?_ (b_nil)))
 ·refine x_if (t_w (t_or (t_not (t_v C (w_isi G C (i := 1) rfl kR (a_cons v_0 (a_cons (w_ty G C (i := 9) rfl kR kR) a_nil kR) kR) kR) (fun _ => rfl))) (t_or (t_cmp C (w_len G C (i := 0) rfl kR (a_cons v_0 a_nil kR) kR) w_int kR) (t_or (t_not (t_v C (w_cal G C tk (i := 3) rfl rfl kR (a_cons (w_idx C v_0 w_int (fun _ _ => rfl)) a_nil kR) kR) (fun _ => rfl))) (t_o1 (t_not (t_v C (w_cal G C tk (i := 3) rfl rfl kR (a_cons (w_idx C v_0 w_int (fun _ _ => rfl)) a_nil kR) kR) (fun _ => rfl)))))))) ?_ ?_
  ·refine b_cons ?_ (b_nil)
   ·exact x_ret w_bl
  ·exact b_nil
 ·refine x_if (t_w (t_or (t_not (t_v C (w_isi G C (i := 1) rfl kR (a_cons (w_idx C v_0 w_int (fun _ _ => rfl)) (a_cons (w_ty G C (i := 9) rfl kR kR) a_nil kR) kR) kR) (fun _ => rfl))) (t_o1 (t_not (t_v C (w_all G C (i := 4) rfl kR (a_cons (w_new false (n_lc C [((Str.ofString "good"), 1)] (i_it C (w_idx C v_0 w_int (fun _ _ => rfl))) kR kR (fun Xb8 Cb8 Tb8 => have vb8_1 : ∀ {W : L2.WX} {pos : Pos}, SE S W cf mf Xb8 (.Name (Str.ofString "good") pos) (.var 1) := fun {_ _} => w_var Cb8 rfl kR; ⟨(g_nm Cb8 rfl kR), c_none, (w_cal G Cb8 Tb8 (i := 3) rfl rfl kR (a_cons vb8_1 a_nil kR) kR)⟩) (fun _ => rfl))) a_nil kR) kR) (fun _ => rfl)))))) ?_ ?_
  ·refine b_cons ?_ (b_nil)
   ·exact x_ret w_bl
  ·exact b_nil
 ·exact x_ret (w_not C (w_any G C (i := 5) rfl kR (a_cons (w_new false (n_lc C [((Str.ofString "at"), 2)] (i_rng1 G C (i := 12) rfl kR (w_len G C (i := 0) rfl kR (a_cons (w_idx C v_0 w_int (fun _ _ => rfl)) a_nil kR) kR) kR) kR kR (fun Xb9 Cb9 Tb9 => have vb9_0 : ∀ {W : L2.WX} {pos : Pos}, SE S W cf mf Xb9 (.Name (Str.ofString "row") pos) (.var 0) := fun {_ _} => w_var Cb9 rfl kR; have vb9_2 : ∀ {W : L2.WX} {pos : Pos}, SE S W cf mf Xb9 (.Name (Str.ofString "at") pos) (.var 2) := fun {_ _} => w_var Cb9 rfl kR; ⟨(g_nm Cb9 rfl kR), c_none, (w_cmp Cb9 (w_idx Cb9 (w_idx Cb9 vb9_0 w_int (fun _ _ => rfl)) vb9_2 (fun _ _ => rfl)) (w_slc Cb9 (w_idx Cb9 vb9_0 w_int (fun _ _ => rfl)) s_no (s_ex vb9_2)) kR)⟩) (fun _ => rfl))) a_nil kR) kR))
theorem e11 {S : Sit} (G : Glob gd S) {n : Nat} (cf mf : Calls) (X : Cx) (W : L2.WX) (cx : Cxt S (L2.defScope s11) N11 X) (fn : ∀ x, X.fn x = true) (tk : L2.Takes X W) (po : PassesOwn (model X.prog X.w) X.A X.env X.xe) (co : CallsOk S X cf mf) : SB S W cf mf n X (L2.defBody s11) F11.body := by
 have C : Cxk S (L2.defScope s11) N11 true cf mf X := ⟨cx, fun _ => fn, co⟩
 have v_0 : ∀ {W : L2.WX} {pos : Pos}, SE S W cf mf X (.Name (Str.ofString "value") pos) (.var 0) := fun {_ _} => w_var C rfl kR
 refine b_cons ?_ (b_cons ?_ (b_cons ?_ (b_cons ?_ (b_nil))))
 ·refine x_if (t_w (t_or (t_not (t_v C (w_isi G C (i := 1) rfl kR (a_cons v_0 (a_cons (w_tup (a_cons (w_ty G C (i := 10) rfl kR kR) (a_cons (w_ty G C (i := 9) rfl kR kR) a_nil kR) kR) kR) a_nil kR) kR) kR) (fun _ => rfl))) (t_or (t_not (t_chn C w_int (w_len G C (i := 0) rfl kR (a_cons v_0 a_nil kR) kR) w_int kR)) (t_o1 (t_not (t_v C (w_all G C (i := 4) rfl kR (a_cons (w_new false (n_lc C [((Str.ofString "row"), 2)] (i_it C v_0) kR kR (fun Xb10 Cb10 Tb10 => have vb10_2 : ∀ {W : L2.WX} {pos : Pos}, SE S W cf mf Xb10 (.Name (Str.ofString "row") pos) (.var 2) := fun {_ _} => w_var Cb10 rfl kR; ⟨(g_nm Cb10 rfl kR), c_none, (w_cal G Cb10 Tb10 (i := 6) rfl rfl kR (a_cons vb10_2 a_nil kR) kR)⟩) (fun _ => rfl))) a_nil kR) kR) (fun _ => rfl))))))) ?_ ?_
  ·refine b_cons ?_ (b_nil)
   ·exact x_ret w_bl
  ·exact b_nil
 ·refine x_try ?_
  refine b_cons ?_ (b_nil)
  ·exact x_drop (w_cal G (Cxk.nox C) takes_nox (i := 5) rfl rfl kR (a_cons (w_var (Cxk.nox C) rfl kR) a_nil kR) kR) kR
 ·exact x_setLn C (w_new false (n_lc C [((Str.ofString "row"), 2)] (i_it C v_0) kR kR (fun Xb11 Cb11 Tb11 => have vb11_2 : ∀ {W : L2.WX} {pos : Pos}, SE S W cf mf Xb11 (.Name (Str.ofString "row") pos) (.var 2) := fun {_ _} => w_var Cb11 rfl kR; ⟨(g_nm Cb11 rfl kR), c_none, (w_idx Cb11 vb11_2 w_int (fun _ _ => rfl))⟩) (fun _ => rfl))) rfl kR kR
 ·exact x_ret (w_all G C (i := 4) rfl kR (a_cons (w_new false (n_lcF C [((Str.ofString "row"), 2)] (i_it C v_0) kR kR (fun Xb12 Cb12 Tb12 Fb12 => have vb12_2 : ∀ {W : L2.WX} {pos : Pos}, SE S W cf mf Xb12 (.Name (Str.ofString "row") pos) (.var 2) := fun {_ _} => w_var Cb12 rfl kR; ⟨(g_nmF Cb12 Fb12 rfl kR), c_none, (w_all G Cb12 (i := 4) rfl kR (a_cons (w_new false (n_lc Cb12 [((Str.ofString "good"), 3)] (i_it Cb12 (w_idx Cb12 vb12_2 w_int (fun _ _ => rfl))) kR kR (fun Xb13 Cb13 Tb13 => have vb13_1 : ∀ {W : L2.WX} {pos : Pos}, SE S W cf mf Xb13 (.Name (Str.ofString "brought") pos) (.var 1) := fun {_ _} => w_var Cb13 rfl kR; have vb13_2 : ∀ {W : L2.WX} {pos : Pos}, SE S W cf mf Xb13 (.Name (Str.ofString "row") pos) (.var 2) := fun {_ _} => w_var Cb13 rfl kR; have vb13_3 : ∀ {W : L2.WX} {pos : Pos}, SE S W cf mf Xb13 (.Name (Str.ofString "good") pos) (.var 3) := fun {_ _} => w_var Cb13 rfl kR; ⟨(g_nm Cb13 rfl kR), c_none, (w_and Cb13 (w_cmp Cb13 vb13_3 vb13_1 kR) (w_one (w_cmp Cb13 vb13_3 (w_idx Cb13 vb13_2 w_int (fun _ _ => rfl)) kR)))⟩) (fun _ => rfl))) a_nil kR) kR)⟩) (fun _ => rfl))) a_nil kR) kR)
theorem e12 {S : Sit} (G : Glob gd S) {n : Nat} (cf mf : Calls) (X : Cx) (W : L2.WX) (cx : Cxt S (L2.defScope s12) N12 X) (fn : ∀ x, X.fn x = true) (tk : L2.Takes X W) (po : PassesOwn (model X.prog X.w) X.A X.env X.xe) (co : CallsOk S X cf mf) : SB S W cf mf n X (L2.defBody s12) F12.body := by
 have C : Cxk S (L2.defScope s12) N12 true cf mf X := ⟨cx, fun _ => fn, co⟩
 have v_0 : ∀ {W : L2.WX} {pos : Pos}, SE S W cf mf X (.Name (Str.ofString "wantings") pos) (.var 0) := fun {_ _} => w_var C rfl kR
 refine b_cons ?_ (b_cons ?_ (b_nil))
 ·refine x_if (t_not (t_v C (w_cal G C tk (i := 7) rfl rfl kR (a_cons v_0 a_nil kR) kR) (fun _ => rfl))) ?_ ?_
  ·refine b_cons ?_ (b_nil)
   ·exact x_dead
  ·exact b_nil
 ·exact x_ret (w_tupO G C false (i := 9) rfl kR v_0 kR)
theorem e13 {S : Sit} (G : Glob gd S) {n : Nat} (cf mf : Calls) (X : Cx) (W : L2.WX) (cx : Cxt S (L2.defScope s13) N13 X) (fn : ∀ x, X.fn x = true) (tk : L2.Takes X W) (po : PassesOwn (model X.prog X.w) X.A X.env X.xe) (co : CallsOk S X cf mf) : SB S W cf mf n X (L2.defBody s13) F13.body := by
 have C : Cxk S (L2.defScope s13) N13 true cf mf X := ⟨cx, fun _ => fn, co⟩
 have v_0 : ∀ {W : L2.WX} {pos : Pos}, SE S W cf mf X (.Name (Str.ofString "wantings") pos) (.var 0) := fun {_ _} => w_var C rfl kR
 have v_1 : ∀ {W : L2.WX} {pos : Pos}, SE S W cf mf X (.Name (Str.ofString "places") pos) (.var 1) := fun {_ _} => w_var C rfl kR
 have v_10 : ∀ {W : L2.WX} {pos : Pos}, SE S W cf mf X (.Name (Str.ofString "used") pos) (.var 10) := fun {_ _} => w_var C rfl kR
 have v_11 : ∀ {W : L2.WX} {pos : Pos}, SE S W cf mf X (.Name (Str.ofString "want") pos) (.var 11) := fun {_ _} => w_var C rfl kR
 have v_2 : ∀ {W : L2.WX} {pos : Pos}, SE S W cf mf X (.Name (Str.ofString "brought") pos) (.var 2) := fun {_ _} => w_var C rfl kR
 have v_3 : ∀ {W : L2.WX} {pos : Pos}, SE S W cf mf X (.Name (Str.ofString "rows") pos) (.var 3) := fun {_ _} => w_var C rfl kR
 have v_4 : ∀ {W : L2.WX} {pos : Pos}, SE S W cf mf X (.Name (Str.ofString "place") pos) (.var 4) := fun {_ _} => w_var C rfl kR
 have v_5 : ∀ {W : L2.WX} {pos : Pos}, SE S W cf mf X (.Name (Str.ofString "party") pos) (.var 5) := fun {_ _} => w_var C rfl kR
 have v_6 : ∀ {W : L2.WX} {pos : Pos}, SE S W cf mf X (.Name (Str.ofString "good") pos) (.var 6) := fun {_ _} => w_var C rfl kR
 have v_7 : ∀ {W : L2.WX} {pos : Pos}, SE S W cf mf X (.Name (Str.ofString "wants") pos) (.var 7) := fun {_ _} => w_var C rfl kR
 have v_8 : ∀ {W : L2.WX} {pos : Pos}, SE S W cf mf X (.Name (Str.ofString "longer") pos) (.var 8) := fun {_ _} => w_var C rfl kR
 have v_9 : ∀ {W : L2.WX} {pos : Pos}, SE S W cf mf X (.Name (Str.ofString "row") pos) (.var 9) := fun {_ _} => w_var C rfl kR
 refine b_cons ?_ (b_cons ?_ (b_cons ?_ (b_cons ?_ (b_nil))))
 ·exact x_setLc C [((Str.ofString "place"), 4)] false rfl kR (i_it C v_1) kR kR (fun Xb14 Cb14 Tb14 => have vb14_0 : ∀ {W : L2.WX} {pos : Pos}, SE S W cf mf Xb14 (.Name (Str.ofString "wantings") pos) (.var 0) := fun {_ _} => w_var Cb14 rfl kR; have vb14_4 : ∀ {W : L2.WX} {pos : Pos}, SE S W cf mf Xb14 (.Name (Str.ofString "place") pos) (.var 4) := fun {_ _} => w_var Cb14 rfl kR; ⟨(g_nm Cb14 rfl kR), c_none, (w_idx Cb14 (w_idx Cb14 vb14_0 vb14_4 (fun _ _ => rfl)) w_int (fun _ _ => rfl))⟩) (fun _ => rfl)
 ·exact x_set C (w_new false (n_lst (a_cons (w_tup a_nil kR) a_nil kR) kR)) rfl kR kR
 ·refine x_for C po (i_it C v_1) (g_nm C rfl kR) ?_ (fun _ => rfl)
  refine b_cons ?_ (b_cons ?_ (b_cons ?_ (b_cons ?_ (b_nil))))
  ·exact x_asg (w_idx C v_0 v_4 (fun _ _ => rfl)) (g_tp C (g_cons (g_nm C rfl kR) (g_cons (g_nm C rfl kR) (g_cons (g_nm C rfl kR) g_nil rfl) rfl) rfl) rfl rfl) rfl rfl rfl
  ·exact x_set C (w_new true (n_lst a_nil kR)) rfl kR kR
  ·refine x_for C po (i_it C v_3) (g_nm C rfl kR) ?_ (fun _ => rfl)
   refine b_cons ?_ (b_cons ?_ (b_nil))
   ·exact x_setLc C [((Str.ofString "one"), 12)] false rfl kR (i_it C v_9) kR kR (fun Xb15 Cb15 Tb15 => have vb15_12 : ∀ {W : L2.WX} {pos : Pos}, SE S W cf mf Xb15 (.Name (Str.ofString "one") pos) (.var 12) := fun {_ _} => w_var Cb15 rfl kR; ⟨(g_nm Cb15 rfl kR), c_none, (w_idx Cb15 vb15_12 w_int (fun _ _ => rfl))⟩) (fun _ => rfl)
   ·refine x_for C po (i_it C v_7) (g_nm C rfl kR) ?_ (fun _ => rfl)
    refine b_cons ?_ (b_nil)
    ·refine x_if (t_w (t_and (t_cmp C v_11 v_2 kR) (t_a1 (t_cmp C v_11 v_10 kR)))) ?_ ?_
     ·refine b_cons ?_ (b_nil)
      ·exact x_drop (w_app v_8 (w_bin C v_9 (w_tup (a_cons (w_tup (a_cons v_5 (a_cons v_6 (a_cons v_11 a_nil kR) kR) kR) kR) a_nil kR) kR)) kR) kR
     ·exact b_nil
  ·exact x_set C v_8 rfl kR kR
 ·exact x_ret v_3
theorem e14 {S : Sit} (G : Glob gd S) {n : Nat} (cf mf : Calls) (X : Cx) (W : L2.WX) (cx : Cxt S (L2.defScope s14) N14 X) (fn : ∀ x, X.fn x = true) (tk : L2.Takes X W) (po : PassesOwn (model X.prog X.w) X.A X.env X.xe) (co : CallsOk S X cf mf) : SB S W cf mf n X (L2.defBody s14) F14.body := by
 have C : Cxk S (L2.defScope s14) N14 true cf mf X := ⟨cx, fun _ => fn, co⟩
 have v_0 : ∀ {W : L2.WX} {pos : Pos}, SE S W cf mf X (.Name (Str.ofString "many") pos) (.var 0) := fun {_ _} => w_var C rfl kR
 have v_1 : ∀ {W : L2.WX} {pos : Pos}, SE S W cf mf X (.Name (Str.ofString "found") pos) (.var 1) := fun {_ _} => w_var C rfl kR
 refine b_cons ?_ (b_cons ?_ (b_cons ?_ (b_nil)))
 ·exact x_set C (w_new false (n_lst (a_cons (w_tup a_nil kR) a_nil kR) kR)) rfl kR kR
 ·refine x_for C po (i_rng1 G C (i := 12) rfl kR v_0 kR) (g_nm C rfl kR) ?_ (fun _ => rfl)
  refine b_cons ?_ (b_nil)
  ·exact x_set C (w_bin C v_1 (w_new false (n_lc C [((Str.ofString "lot"), 3)] (i_it C v_1) kR kR (fun Xb16 Cb16 Tb16 => have vb16_2 : ∀ {W : L2.WX} {pos : Pos}, SE S W cf mf Xb16 (.Name (Str.ofString "place") pos) (.var 2) := fun {_ _} => w_var Cb16 rfl kR; have vb16_3 : ∀ {W : L2.WX} {pos : Pos}, SE S W cf mf Xb16 (.Name (Str.ofString "lot") pos) (.var 3) := fun {_ _} => w_var Cb16 rfl kR; ⟨(g_nm Cb16 rfl kR), c_none, (w_bin Cb16 vb16_3 (w_tup (a_cons vb16_2 a_nil kR) kR))⟩) (fun _ => rfl)))) rfl kR kR
 ·exact x_ret (w_new false (n_lc C [((Str.ofString "lot"), 3)] (i_it C (w_new false (n_sort G C (i := 11) rfl kR v_1 kR))) kR kR (fun Xb17 Cb17 Tb17 => have vb17_3 : ∀ {W : L2.WX} {pos : Pos}, SE S W cf mf Xb17 (.Name (Str.ofString "lot") pos) (.var 3) := fun {_ _} => w_var Cb17 rfl kR; ⟨(g_nm Cb17 rfl kR), (c_one (t_cmp Cb17 (w_len G Cb17 (i := 0) rfl kR (a_cons vb17_3 a_nil kR) kR) w_int kR)), vb17_3⟩) (fun _ => rfl)))
theorem e15 {S : Sit} (G : Glob gd S) {n : Nat} (cf mf : Calls) (X : Cx) (W : L2.WX) (cx : Cxt S (L2.defScope s15) N15 X) (fn : ∀ x, X.fn x = true) (tk : L2.Takes X W) (po : PassesOwn (model X.prog X.w) X.A X.env X.xe) (co : CallsOk S X cf mf) : SB S W cf mf n X (L2.defBody s15) F15.body := by
 have C : Cxk S (L2.defScope s15) N15 true cf mf X := ⟨cx, fun _ => fn, co⟩
 have v_0 : ∀ {W : L2.WX} {pos : Pos}, SE S W cf mf X (.Name (Str.ofString "wantings") pos) (.var 0) := fun {_ _} => w_var C rfl kR
 have v_1 : ∀ {W : L2.WX} {pos : Pos}, SE S W cf mf X (.Name (Str.ofString "found") pos) (.var 1) := fun {_ _} => w_var C rfl kR
 have v_2 : ∀ {W : L2.WX} {pos : Pos}, SE S W cf mf X (.Name (Str.ofString "places") pos) (.var 2) := fun {_ _} => w_var C rfl kR
 refine b_cons ?_ (b_cons ?_ (b_cons ?_ (b_nil)))
 ·exact x_set C (w_new true (n_lst a_nil kR)) rfl kR kR
 ·refine x_for C po (i_it C (w_cal G C tk (i := 10) rfl rfl kR (a_cons (w_len G C (i := 0) rfl kR (a_cons v_0 a_nil kR) kR) a_nil kR) kR)) (g_nm C rfl kR) ?_ (fun _ => rfl)
  refine b_cons ?_ (b_nil)
  ·exact x_drop (w_ext C v_1 (w_cal G C (takes_WC tk) (i := 9) rfl rfl kR (a_cons v_0 (a_cons v_2 a_nil kR) kR) kR) kR) kR
 ·exact x_ret (w_new false (n_sort G C (i := 11) rfl kR v_1 kR))
theorem e16 {S : Sit} (G : Glob gd S) {n : Nat} (cf mf : Calls) (X : Cx) (W : L2.WX) (cx : Cxt S (L2.defScope s16) N16 X) (fn : ∀ x, X.fn x = true) (tk : L2.Takes X W) (po : PassesOwn (model X.prog X.w) X.A X.env X.xe) (co : CallsOk S X cf mf) : SB S W cf mf n X (L2.defBody s16) F16.body := by
 have C : Cxk S (L2.defScope s16) N16 true cf mf X := ⟨cx, fun _ => fn, co⟩
 have v_0 : ∀ {W : L2.WX} {pos : Pos}, SE S W cf mf X (.Name (Str.ofString "wantings") pos) (.var 0) := fun {_ _} => w_var C rfl kR
 refine b_cons ?_ (b_nil)
 ·exact x_ret (w_tupO G C false (i := 9) rfl kR (w_cal G C tk (i := 11) rfl rfl kR (a_cons (w_cal G C tk (i := 8) rfl rfl kR (a_cons v_0 a_nil kR) kR) a_nil kR) kR) kR)
theorem e17 {S : Sit} (G : Glob gd S) {n : Nat} (cf mf : Calls) (X : Cx) (W : L2.WX) (cx : Cxt S (L2.defScope s17) N17 X) (fn : ∀ x, X.fn x = true) (tk : L2.Takes X W) (po : PassesOwn (model X.prog X.w) X.A X.env X.xe) (co : CallsOk S X cf mf) : SB S W cf mf n X (L2.defBody s17) F17.body := by
 have C : Cxk S (L2.defScope s17) N17 true cf mf X := ⟨cx, fun _ => fn, co⟩
 have v_0 : ∀ {W : L2.WX} {pos : Pos}, SE S W cf mf X (.Name (Str.ofString "wantings") pos) (.var 0) := fun {_ _} => w_var C rfl kR
 have v_1 : ∀ {W : L2.WX} {pos : Pos}, SE S W cf mf X (.Name (Str.ofString "some") pos) (.var 1) := fun {_ _} => w_var C rfl kR
 have v_2 : ∀ {W : L2.WX} {pos : Pos}, SE S W cf mf X (.Name (Str.ofString "most") pos) (.var 2) := fun {_ _} => w_var C rfl kR
 refine b_cons ?_ (b_cons ?_ (b_cons ?_ (b_cons ?_ (b_nil))))
 ·exact x_set C (w_cal G C tk (i := 11) rfl rfl kR (a_cons (w_cal G C tk (i := 8) rfl rfl kR (a_cons v_0 a_nil kR) kR) a_nil kR) kR) rfl kR kR
 ·refine x_if (t_not (t_v C v_1 (fun _ => rfl))) ?_ ?_
  ·refine b_cons ?_ (b_nil)
   ·exact x_ret (w_tup (a_cons w_int (a_cons (w_tup a_nil kR) a_nil kR) kR) kR)
  ·exact b_nil
 ·exact x_set C (w_max G C (i := 7) rfl kR (a_cons (w_new false (n_lc C [((Str.ofString "rows"), 3)] (i_it C v_1) kR kR (fun Xb18 Cb18 Tb18 => have vb18_3 : ∀ {W : L2.WX} {pos : Pos}, SE S W cf mf Xb18 (.Name (Str.ofString "rows") pos) (.var 3) := fun {_ _} => w_var Cb18 rfl kR; ⟨(g_nm Cb18 rfl kR), c_none, (w_len G Cb18 (i := 0) rfl kR (a_cons vb18_3 a_nil kR) kR)⟩) (fun _ => rfl))) a_nil kR) kR) rfl kR kR
 ·exact x_ret (w_tup (a_cons v_2 (a_cons (w_idx C (w_new false (n_lc C [((Str.ofString "rows"), 3)] (i_it C v_1) kR kR (fun Xb19 Cb19 Tb19 => have vb19_2 : ∀ {W : L2.WX} {pos : Pos}, SE S W cf mf Xb19 (.Name (Str.ofString "most") pos) (.var 2) := fun {_ _} => w_var Cb19 rfl kR; have vb19_3 : ∀ {W : L2.WX} {pos : Pos}, SE S W cf mf Xb19 (.Name (Str.ofString "rows") pos) (.var 3) := fun {_ _} => w_var Cb19 rfl kR; ⟨(g_nm Cb19 rfl kR), (c_one (t_cmp Cb19 (w_len G Cb19 (i := 0) rfl kR (a_cons vb19_3 a_nil kR) kR) vb19_2 kR)), vb19_3⟩) (fun _ => rfl))) w_int (fun _ _ => rfl)) a_nil kR) kR) kR)
theorem e18 {S : Sit} (G : Glob gd S) {n : Nat} (cf mf : Calls) (X : Cx) (W : L2.WX) (cx : Cxt S (L2.defScope s18) N18 X) (fn : ∀ x, X.fn x = true) (tk : L2.Takes X W) (po : PassesOwn (model X.prog X.w) X.A X.env X.xe) (co : CallsOk S X cf mf) : SB S W cf mf n X (L2.defBody s18) F18.body := by
 have C : Cxk S (L2.defScope s18) N18 true cf mf X := ⟨cx, fun _ => fn, co⟩
 have v_0 : ∀ {W : L2.WX} {pos : Pos}, SE S W cf mf X (.Name (Str.ofString "wantings") pos) (.var 0) := fun {_ _} => w_var C rfl kR
 have v_1 : ∀ {W : L2.WX} {pos : Pos}, SE S W cf mf X (.Name (Str.ofString "value") pos) (.var 1) := fun {_ _} => w_var C rfl kR
 have v_2 : ∀ {W : L2.WX} {pos : Pos}, SE S W cf mf X (.Name (Str.ofString "known") pos) (.var 2) := fun {_ _} => w_var C rfl kR
 refine b_cons ?_ (b_cons ?_ (b_cons ?_ (b_cons ?_ (b_cons ?_ (b_nil)))))
 ·exact x_set C (w_cal G C tk (i := 8) rfl rfl kR (a_cons v_0 a_nil kR) kR) rfl kR kR
 ·refine x_if (t_w (t_or (t_not (t_v C (w_isi G C (i := 1) rfl kR (a_cons v_1 (a_cons (w_cls G C (i := 1) rfl kR) a_nil kR) kR) kR) (fun _ => rfl))) (t_or (t_not (t_v C (w_isi G C (i := 1) rfl kR (a_cons (w_att G C v_1 rfl kR) (a_cons (w_ty G C (i := 9) rfl kR kR) a_nil kR) kR) kR) (fun _ => rfl))) (t_o1 (t_cmp C (w_len G C (i := 0) rfl kR (a_cons (w_att G C v_1 rfl kR) a_nil kR) kR) w_int kR))))) ?_ ?_
  ·refine b_cons ?_ (b_nil)
   ·exact x_ret w_bl
  ·exact b_nil
 ·refine x_if (t_not (t_v C (w_all G C (i := 4) rfl kR (a_cons (w_new false (n_lc C [((Str.ofString "place"), 3)] (i_it C (w_att G C v_1 rfl kR)) kR kR (fun Xb20 Cb20 Tb20 => have vb20_2 : ∀ {W : L2.WX} {pos : Pos}, SE S W cf mf Xb20 (.Name (Str.ofString "known") pos) (.var 2) := fun {_ _} => w_var Cb20 rfl kR; have vb20_3 : ∀ {W : L2.WX} {pos : Pos}, SE S W cf mf Xb20 (.Name (Str.ofString "place") pos) (.var 3) := fun {_ _} => w_var Cb20 rfl kR; ⟨(g_nm Cb20 rfl kR), c_none, (w_cal G Cb20 Tb20 (i := 2) rfl rfl kR (a_cons vb20_3 (a_cons (w_len G Cb20 (i := 0) rfl kR (a_cons vb20_2 a_nil kR) kR) a_nil kR) kR) kR)⟩) (fun _ => rfl))) a_nil kR) kR) (fun _ => rfl))) ?_ ?_
  ·refine b_cons ?_ (b_nil)
   ·exact x_ret w_bl
  ·exact b_nil
 ·refine x_if (t_v C (w_any G C (i := 5) rfl kR (a_cons (w_new false (n_lc C [((Str.ofString "at"), 4)] (i_rng1 G C (i := 12) rfl kR (w_bin C (w_len G C (i := 0) rfl kR (a_cons (w_att G C v_1 rfl kR) a_nil kR) kR) w_int) kR) kR kR (fun Xb21 Cb21 Tb21 => have vb21_1 : ∀ {W : L2.WX} {pos : Pos}, SE S W cf mf Xb21 (.Name (Str.ofString "value") pos) (.var 1) := fun {_ _} => w_var Cb21 rfl kR; have vb21_4 : ∀ {W : L2.WX} {pos : Pos}, SE S W cf mf Xb21 (.Name (Str.ofString "at") pos) (.var 4) := fun {_ _} => w_var Cb21 rfl kR; ⟨(g_nm Cb21 rfl kR), c_none, (w_cmp Cb21 (w_idx Cb21 (w_att G Cb21 vb21_1 rfl kR) vb21_4 (fun _ _ => rfl)) (w_idx Cb21 (w_att G Cb21 vb21_1 rfl kR) (w_bin Cb21 vb21_4 w_int) (fun _ _ => rfl)) kR)⟩) (fun _ => rfl))) a_nil kR) kR) (fun _ => rfl)) ?_ ?_
  ·refine b_cons ?_ (b_nil)
   ·exact x_ret w_bl
  ·exact b_nil
 ·exact x_ret (w_cmp C (w_len G C (i := 0) rfl kR (a_cons (w_cal G C tk (i := 9) rfl rfl kR (a_cons v_2 (a_cons (w_att G C v_1 rfl kR) a_nil kR) kR) kR) a_nil kR) kR) w_int kR)
theorem e19 {S : Sit} (G : Glob gd S) {n : Nat} (cf mf : Calls) (X : Cx) (W : L2.WX) (cx : Cxt S (L2.defScope s19) N19 X) (fn : ∀ x, X.fn x = true) (tk : L2.Takes X W) (po : PassesOwn (model X.prog X.w) X.A X.env X.xe) (co : CallsOk S X cf mf) : SB S W cf mf n X (L2.defBody s19) F19.body := by
 have C : Cxk S (L2.defScope s19) N19 true cf mf X := ⟨cx, fun _ => fn, co⟩
 have v_0 : ∀ {W : L2.WX} {pos : Pos}, SE S W cf mf X (.Name (Str.ofString "wantings") pos) (.var 0) := fun {_ _} => w_var C rfl kR
 have v_1 : ∀ {W : L2.WX} {pos : Pos}, SE S W cf mf X (.Name (Str.ofString "known") pos) (.var 1) := fun {_ _} => w_var C rfl kR
 have v_2 : ∀ {W : L2.WX} {pos : Pos}, SE S W cf mf X (.Name (Str.ofString "served") pos) (.var 2) := fun {_ _} => w_var C rfl kR
 have v_3 : ∀ {W : L2.WX} {pos : Pos}, SE S W cf mf X (.Name (Str.ofString "rows") pos) (.var 3) := fun {_ _} => w_var C rfl kR
 have v_4 : ∀ {W : L2.WX} {pos : Pos}, SE S W cf mf X (.Name (Str.ofString "row") pos) (.var 4) := fun {_ _} => w_var C rfl kR
 refine b_cons ?_ (b_cons ?_ (b_cons ?_ (b_cons ?_ (b_nil))))
 ·exact x_set C (w_cal G C tk (i := 8) rfl rfl kR (a_cons v_0 a_nil kR) kR) rfl kR kR
 ·exact x_set C (w_new true n_dct0) rfl kR kR
 ·refine x_for C po (i_it C (w_cal G C tk (i := 11) rfl rfl kR (a_cons v_1 a_nil kR) kR)) (g_nm C rfl kR) ?_ (fun _ => rfl)
  refine b_cons ?_ (b_nil)
  ·refine x_for C po (i_it C v_3) (g_nm C rfl kR) ?_ (fun _ => rfl)
   refine b_cons ?_ (b_nil)
   ·exact x_asg w_bl (g_sub C v_2 (w_idx C v_4 w_int (fun _ _ => rfl)) (fun _ => rfl)) rfl rfl rfl
 ·exact x_ret (w_tupO G C false (i := 9) rfl kR (w_new false (n_sort G C (i := 11) rfl kR (w_new false (n_lc C [((Str.ofString "row"), 4)] (i_it C v_1) kR kR (fun Xb22 Cb22 Tb22 => have vb22_2 : ∀ {W : L2.WX} {pos : Pos}, SE S W cf mf Xb22 (.Name (Str.ofString "served") pos) (.var 2) := fun {_ _} => w_var Cb22 rfl kR; have vb22_4 : ∀ {W : L2.WX} {pos : Pos}, SE S W cf mf Xb22 (.Name (Str.ofString "row") pos) (.var 4) := fun {_ _} => w_var Cb22 rfl kR; ⟨(g_nm Cb22 rfl kR), (c_one (t_cmp Cb22 (w_idx Cb22 vb22_4 w_int (fun _ _ => rfl)) vb22_2 kR)), (w_idx Cb22 vb22_4 w_int (fun _ _ => rfl))⟩) (fun _ => rfl))) kR)) kR)
theorem e20 {S : Sit} (G : Glob gd S) {n : Nat} (cf mf : Calls) (X : Cx) (W : L2.WX) (cx : Cxt S (L2.defScope s20) N20 X) (fn : ∀ x, X.fn x = true) (tk : L2.Takes X W) (po : PassesOwn (model X.prog X.w) X.A X.env X.xe) (co : CallsOk S X cf mf) : SB S W cf mf n X (L2.defBody s20) F20.body := by
 have C : Cxk S (L2.defScope s20) N20 true cf mf X := ⟨cx, fun _ => fn, co⟩
 have v_0 : ∀ {W : L2.WX} {pos : Pos}, SE S W cf mf X (.Name (Str.ofString "wantings") pos) (.var 0) := fun {_ _} => w_var C rfl kR
 have v_1 : ∀ {W : L2.WX} {pos : Pos}, SE S W cf mf X (.Name (Str.ofString "rows") pos) (.var 1) := fun {_ _} => w_var C rfl kR
 have v_2 : ∀ {W : L2.WX} {pos : Pos}, SE S W cf mf X (.Name (Str.ofString "some") pos) (.var 2) := fun {_ _} => w_var C rfl kR
 have v_3 : ∀ {W : L2.WX} {pos : Pos}, SE S W cf mf X (.Name (Str.ofString "known") pos) (.var 3) := fun {_ _} => w_var C rfl kR
 have v_5 : ∀ {W : L2.WX} {pos : Pos}, SE S W cf mf X (.Name (Str.ofString "other") pos) (.var 5) := fun {_ _} => w_var C rfl kR
 refine b_cons ?_ (b_cons ?_ (b_cons ?_ (b_cons ?_ (b_cons ?_ (b_cons ?_ (b_nil))))))
 ·exact x_set C (w_cal G C tk (i := 11) rfl rfl kR (a_cons (w_cal G C tk (i := 8) rfl rfl kR (a_cons v_0 a_nil kR) kR) a_nil kR) kR) rfl kR kR
 ·exact x_set C (se_ife (t_v C (w_isi G C (i := 1) rfl kR (a_cons v_1 (a_cons (w_ty G C (i := 10) rfl kR kR) a_nil kR) kR) kR) (fun _ => rfl)) (w_tupO G C false (i := 9) rfl kR v_1 kR) v_1) rfl kR kR
 ·refine x_if (t_w (t_and (t_cmp C v_3 (w_tup a_nil kR) kR) (t_a1 (t_cmp C v_3 v_2 kR)))) ?_ ?_
  ·refine b_cons ?_ (b_nil)
   ·exact x_dead
  ·exact b_nil
 ·exact x_setLn C (w_new false (n_lc C [((Str.ofString "row"), 6)] (i_it C v_3) kR kR (fun Xb23 Cb23 Tb23 => have vb23_6 : ∀ {W : L2.WX} {pos : Pos}, SE S W cf mf Xb23 (.Name (Str.ofString "row") pos) (.var 6) := fun {_ _} => w_var Cb23 rfl kR; ⟨(g_nm Cb23 rfl kR), c_none, (w_idx Cb23 vb23_6 w_int (fun _ _ => rfl))⟩) (fun _ => rfl))) rfl kR kR
 ·refine x_for C po (i_it C v_2) (g_nm C rfl kR) ?_ (fun _ => rfl)
  refine b_cons ?_ (b_nil)
  ·refine x_if (t_not (t_v C (w_any G C (i := 5) rfl kR (a_cons (w_new false (n_lc C [((Str.ofString "row"), 6)] (i_it C v_5) kR kR (fun Xb24 Cb24 Tb24 => have vb24_4 : ∀ {W : L2.WX} {pos : Pos}, SE S W cf mf Xb24 (.Name (Str.ofString "parties") pos) (.var 4) := fun {_ _} => w_var Cb24 rfl kR; have vb24_6 : ∀ {W : L2.WX} {pos : Pos}, SE S W cf mf Xb24 (.Name (Str.ofString "row") pos) (.var 6) := fun {_ _} => w_var Cb24 rfl kR; ⟨(g_nm Cb24 rfl kR), c_none, (w_cmp Cb24 (w_idx Cb24 vb24_6 w_int (fun _ _ => rfl)) vb24_4 kR)⟩) (fun _ => rfl))) a_nil kR) kR) (fun _ => rfl))) ?_ ?_
   ·refine b_cons ?_ (b_nil)
    ·exact x_ret v_5
   ·exact b_nil
 ·exact x_ret w_non
theorem e21 {S : Sit} (G : Glob gd S) {n : Nat} (cf mf : Calls) (X : Cx) (W : L2.WX) (cx : Cxt S (L2.defScope s21) N21 X) (fn : ∀ x, X.fn x = true) (tk : L2.Takes X W) (po : PassesOwn (model X.prog X.w) X.A X.env X.xe) (co : CallsOk S X cf mf) : SB S W cf mf n X (L2.defBody s21) F21.body := by
 have C : Cxk S (L2.defScope s21) N21 true cf mf X := ⟨cx, fun _ => fn, co⟩
 have v_0 : ∀ {W : L2.WX} {pos : Pos}, SE S W cf mf X (.Name (Str.ofString "script") pos) (.var 0) := fun {_ _} => w_var C rfl kR
 have v_1 : ∀ {W : L2.WX} {pos : Pos}, SE S W cf mf X (.Name (Str.ofString "fold") pos) (.var 1) := fun {_ _} => w_var C rfl kR
 have v_2 : ∀ {W : L2.WX} {pos : Pos}, SE S W cf mf X (.Name (Str.ofString "cell") pos) (.var 2) := fun {_ _} => w_var C rfl kR
 refine b_cons ?_ (b_cons ?_ (b_cons ?_ (b_nil)))
 ·exact x_set C w_int rfl kR kR
 ·refine x_for C po (i_it C v_0) (g_nm C rfl kR) ?_ (fun _ => rfl)
  refine b_cons ?_ (b_nil)
  ·exact x_set C (w_bin C (w_biI G C (i := 2) rfl kR (a_cons (w_bin C (w_bin C v_1 w_int) v_2) a_nil kR) kR) w_int) rfl kR kR
 ·exact x_ret (w_new true (n_dct C (d_cons (w_str kR) (w_new false (n_list G C (i := 10) rfl kR v_0 kR)) (d_cons (w_str kR) w_int (d_cons (w_str kR) w_int (d_cons (w_str kR) w_int (d_cons (w_str kR) v_1 d_nil))))) kR))
theorem e22 {S : Sit} (G : Glob gd S) {n : Nat} (cf mf : Calls) (X : Cx) (W : L2.WX) (cx : Cxt S (L2.defScope s22) N22 X) (fn : ∀ x, X.fn x = true) (tk : L2.Takes X W) (po : PassesOwn (model X.prog X.w) X.A X.env X.xe) (co : CallsOk S X cf mf) : SB S W cf mf n X (L2.defBody s22) F22.body := by
 have C : Cxk S (L2.defScope s22) N22 true cf mf X := ⟨cx, fun _ => fn, co⟩
 have v_0 : ∀ {W : L2.WX} {pos : Pos}, SE S W cf mf X (.Name (Str.ofString "pen") pos) (.var 0) := fun {_ _} => w_var C rfl kR
 have v_1 : ∀ {W : L2.WX} {pos : Pos}, SE S W cf mf X (.Name (Str.ofString "many") pos) (.var 1) := fun {_ _} => w_var C rfl kR
 have v_2 : ∀ {W : L2.WX} {pos : Pos}, SE S W cf mf X (.Name (Str.ofString "cell") pos) (.var 2) := fun {_ _} => w_var C rfl kR
 have v_3 : ∀ {W : L2.WX} {pos : Pos}, SE S W cf mf X (.Name (Str.ofString "digit") pos) (.var 3) := fun {_ _} => w_var C rfl kR
 have v_4 : ∀ {W : L2.WX} {pos : Pos}, SE S W cf mf X (.Name (Str.ofString "blend") pos) (.var 4) := fun {_ _} => w_var C rfl kR
 refine b_cons ?_ (b_cons ?_ (b_cons ?_ (b_cons ?_ (b_cons ?_ (b_cons ?_ (b_cons ?_ (b_nil)))))))
 ·exact x_asg (w_bin C (w_idx C v_0 (w_str kR) (fun _ _ => rfl)) w_int) (g_sub C v_0 (w_str kR) (fun _ => rfl)) rfl rfl rfl
 ·refine x_if (t_w (t_and (t_cmp C (w_idx C v_0 (w_str kR) (fun _ _ => rfl)) w_int kR) (t_a1 (t_cmp C (w_idx C v_0 (w_str kR) (fun _ _ => rfl)) (w_len G C (i := 0) rfl kR (a_cons (w_idx C v_0 (w_str kR) (fun _ _ => rfl)) a_nil kR) kR) kR)))) ?_ ?_
  ·refine b_cons ?_ (b_cons ?_ (b_cons ?_ (b_nil)))
   ·exact x_set C (w_idx C (w_idx C v_0 (w_str kR) (fun _ _ => rfl)) (w_idx C v_0 (w_str kR) (fun _ _ => rfl)) (fun _ _ => rfl)) rfl kR kR
   ·exact x_asg (w_bin C (w_idx C v_0 (w_str kR) (fun _ _ => rfl)) w_int) (g_sub C v_0 (w_str kR) (fun _ => rfl)) rfl rfl rfl
   ·refine x_if (t_cmp C v_2 (w_bin C w_int w_int) kR) ?_ ?_
    ·refine b_cons ?_ (b_nil)
     ·exact x_asg (w_bin C v_2 (w_bin C w_int w_int)) (g_sub C v_0 (w_str kR) (fun _ => rfl)) rfl rfl rfl
    ·refine b_cons ?_ (b_nil)
     ·exact x_asg (w_bin C (w_biI G C (i := 2) rfl kR (a_cons (w_bin C (w_bin C (w_idx C v_0 (w_str kR) (fun _ _ => rfl)) w_int) v_2) a_nil kR) kR) w_int) (g_sub C v_0 (w_str kR) (fun _ => rfl)) rfl rfl rfl
  ·exact b_nil
 ·refine x_if (t_cmp C (w_idx C v_0 (w_str kR) (fun _ _ => rfl)) w_int kR) ?_ ?_
  ·refine b_cons ?_ (b_cons ?_ (b_cons ?_ (b_nil)))
   ·exact x_set C (w_bin C (w_biI G C (i := 2) rfl kR (a_cons (w_idx C v_0 (w_str kR) (fun _ _ => rfl)) a_nil kR) kR) v_1) rfl kR kR
   ·exact x_asg (w_bin C (w_idx C v_0 (w_str kR) (fun _ _ => rfl)) v_1) (g_sub C v_0 (w_str kR) (fun _ => rfl)) rfl rfl rfl
   ·exact x_ret v_3
  ·exact b_nil
 ·exact x_set C (w_bin C (w_biI G C (i := 2) rfl kR (a_cons (w_bin C (w_bin C (w_bin C (w_idx C v_0 (w_str kR) (fun _ _ => rfl)) w_int) (w_bin C (w_idx C v_0 (w_str kR) (fun _ _ => rfl)) w_int)) w_int) a_nil kR) kR) w_int) rfl kR kR
 ·exact x_set C (w_bin C (w_biI G C (i := 2) rfl kR (a_cons (w_bin C (w_bin C (w_bin C v_4 v_4) (w_bin C w_int v_4)) (w_idx C v_0 (w_str kR) (fun _ _ => rfl))) a_nil kR) kR) w_int) rfl kR kR
 ·exact x_asg (w_bin C (w_biI G C (i := 2) rfl kR (a_cons (w_bin C (w_bin C v_4 w_int) w_int) a_nil kR) kR) w_int) (g_sub C v_0 (w_str kR) (fun _ => rfl)) rfl rfl rfl
 ·exact x_ret (w_bin C (w_biI G C (i := 2) rfl kR (a_cons (w_bin C v_4 w_int) a_nil kR) kR) v_1)
theorem e23 {S : Sit} (G : Glob gd S) {n : Nat} (cf mf : Calls) (X : Cx) (W : L2.WX) (cx : Cxt S (L2.defScope s23) N23 X) (fn : ∀ x, X.fn x = true) (tk : L2.Takes X W) (po : PassesOwn (model X.prog X.w) X.A X.env X.xe) (co : CallsOk S X cf mf) : SB S W cf mf n X (L2.defBody s23) F23.body := by
 have C : Cxk S (L2.defScope s23) N23 true cf mf X := ⟨cx, fun _ => fn, co⟩
 have v_0 : ∀ {W : L2.WX} {pos : Pos}, SE S W cf mf X (.Name (Str.ofString "pen") pos) (.var 0) := fun {_ _} => w_var C rfl kR
 have v_1 : ∀ {W : L2.WX} {pos : Pos}, SE S W cf mf X (.Name (Str.ofString "some") pos) (.var 1) := fun {_ _} => w_var C rfl kR
 refine b_cons ?_ (b_nil)
 ·exact x_ret (w_idx C v_1 (w_cal G C tk (i := 18) rfl rfl kR (a_cons v_0 (a_cons (w_len G C (i := 0) rfl kR (a_cons v_1 a_nil kR) kR) a_nil kR) kR) kR) (fun _ _ => rfl))
theorem e24 {S : Sit} (G : Glob gd S) {n : Nat} (cf mf : Calls) (X : Cx) (W : L2.WX) (cx : Cxt S (L2.defScope s24) N24 X) (fn : ∀ x, X.fn x = true) (tk : L2.Takes X W) (po : PassesOwn (model X.prog X.w) X.A X.env X.xe) (co : CallsOk S X cf mf) : SB S W cf mf n X (L2.defBody s24) F24.body := by
 have C : Cxk S (L2.defScope s24) N24 true cf mf X := ⟨cx, fun _ => fn, co⟩
 have v_0 : ∀ {W : L2.WX} {pos : Pos}, SE S W cf mf X (.Name (Str.ofString "pen") pos) (.var 0) := fun {_ _} => w_var C rfl kR
 have v_1 : ∀ {W : L2.WX} {pos : Pos}, SE S W cf mf X (.Name (Str.ofString "some") pos) (.var 1) := fun {_ _} => w_var C rfl kR
 have v_2 : ∀ {W : L2.WX} {pos : Pos}, SE S W cf mf X (.Name (Str.ofString "left") pos) (.var 2) := fun {_ _} => w_var C rfl kR
 have v_3 : ∀ {W : L2.WX} {pos : Pos}, SE S W cf mf X (.Name (Str.ofString "found") pos) (.var 3) := fun {_ _} => w_var C rfl kR
 refine b_cons ?_ (b_cons ?_ (b_cons ?_ (b_nil)))
 ·exact x_par C (a_cons (w_new true (n_list G C (i := 10) rfl kR v_1 kR)) (a_cons (w_new true (n_lst a_nil kR)) a_nil kR) kR) rfl rfl kR kR
 ·refine x_for C po (i_rng1 G C (i := 12) rfl kR (w_len G C (i := 0) rfl kR (a_cons v_1 a_nil kR) kR) kR) (g_nm C rfl kR) ?_ (fun _ => rfl)
  refine b_cons ?_ (b_nil)
  ·exact x_drop (w_app v_3 (w_popi v_2 (w_cal G C (takes_WC tk) (i := 18) rfl rfl kR (a_cons v_0 (a_cons (w_len G C (i := 0) rfl kR (a_cons v_2 a_nil kR) kR) a_nil kR) kR) kR) kR) kR) kR
 ·exact x_ret v_3
theorem e25 {S : Sit} (G : Glob gd S) {n : Nat} (cf mf : Calls) (X : Cx) (W : L2.WX) (cx : Cxt S (L2.defScope s25) N25 X) (fn : ∀ x, X.fn x = true) (tk : L2.Takes X W) (po : PassesOwn (model X.prog X.w) X.A X.env X.xe) (co : CallsOk S X cf mf) : SB S W cf mf n X (L2.defBody s25) F25.body := by
 have C : Cxk S (L2.defScope s25) N25 true cf mf X := ⟨cx, fun _ => fn, co⟩
 have v_0 : ∀ {W : L2.WX} {pos : Pos}, SE S W cf mf X (.Name (Str.ofString "told") pos) (.var 0) := fun {_ _} => w_var C rfl kR
 have v_1 : ∀ {W : L2.WX} {pos : Pos}, SE S W cf mf X (.Name (Str.ofString "due") pos) (.var 1) := fun {_ _} => w_var C rfl kR
 refine b_cons ?_ (b_cons ?_ (b_cons ?_ (b_cons ?_ (b_cons ?_ (b_cons ?_ (b_nil))))))
 ·refine x_if (t_v C (w_isi G C (i := 1) rfl kR (a_cons v_1 (a_cons (w_ty G C (i := 9) rfl kR kR) a_nil kR) kR) kR) (fun _ => rfl)) ?_ ?_
  ·refine b_cons ?_ (b_cons ?_ (b_nil))
   ·refine x_if (t_w (t_or (t_not (t_v C (w_isi G C (i := 1) rfl kR (a_cons v_0 (a_cons (w_ty G C (i := 9) rfl kR kR) a_nil kR) kR) kR) (fun _ => rfl))) (t_o1 (t_cmp C (w_len G C (i := 0) rfl kR (a_cons v_0 a_nil kR) kR) (w_len G C (i := 0) rfl kR (a_cons v_1 a_nil kR) kR) kR)))) ?_ ?_
    ·refine b_cons ?_ (b_nil)
     ·exact x_ret w_bl
    ·exact b_nil
   ·exact x_ret (w_cmp C (w_new false (n_lc C [((Str.ofString "at"), 2)] (i_rng1 G C (i := 12) rfl kR (w_len G C (i := 0) rfl kR (a_cons v_1 a_nil kR) kR) kR) kR kR (fun Xb25 Cb25 Tb25 => have vb25_0 : ∀ {W : L2.WX} {pos : Pos}, SE S W cf mf Xb25 (.Name (Str.ofString "told") pos) (.var 0) := fun {_ _} => w_var Cb25 rfl kR; have vb25_1 : ∀ {W : L2.WX} {pos : Pos}, SE S W cf mf Xb25 (.Name (Str.ofString "due") pos) (.var 1) := fun {_ _} => w_var Cb25 rfl kR; have vb25_2 : ∀ {W : L2.WX} {pos : Pos}, SE S W cf mf Xb25 (.Name (Str.ofString "at") pos) (.var 2) := fun {_ _} => w_var Cb25 rfl kR; ⟨(g_nm Cb25 rfl kR), (c_one (t_not (t_v Cb25 (w_cal G Cb25 Tb25 (i := 21) rfl rfl kR (a_cons (w_idx Cb25 vb25_0 vb25_2 (fun _ _ => rfl)) (a_cons (w_idx Cb25 vb25_1 vb25_2 (fun _ _ => rfl)) a_nil kR) kR) kR) (fun _ => rfl)))), vb25_2⟩) (fun _ => rfl))) (w_new false (n_lst a_nil kR)) kR)
  ·exact b_nil
 ·refine x_if (t_cmp C v_1 w_non kR) ?_ ?_
  ·refine b_cons ?_ (b_nil)
   ·exact x_ret (w_cmp C v_0 w_non kR)
  ·exact b_nil
 ·refine x_if (t_cmp C v_1 w_bl kR) ?_ ?_
  ·refine b_cons ?_ (b_nil)
   ·exact x_ret (w_cmp C v_0 w_bl kR)
  ·exact b_nil
 ·refine x_if (t_cmp C v_1 w_bl kR) ?_ ?_
  ·refine b_cons ?_ (b_nil)
   ·exact x_ret (w_cmp C v_0 w_bl kR)
  ·exact b_nil
 ·refine x_if (t_v C (w_isi G C (i := 1) rfl kR (a_cons v_1 (a_cons (w_ty G C (i := 3) rfl kR kR) a_nil kR) kR) kR) (fun _ => rfl)) ?_ ?_
  ·refine b_cons ?_ (b_nil)
   ·exact x_ret (w_and C (w_isi G C (i := 1) rfl kR (a_cons v_0 (a_cons (w_ty G C (i := 3) rfl kR kR) a_nil kR) kR) kR) (w_one (w_cmp C v_0 v_1 kR)))
  ·exact b_nil
 ·exact x_ret (w_and C (w_isi G C (i := 1) rfl kR (a_cons v_0 (a_cons (w_ty G C (i := 2) rfl kR kR) a_nil kR) kR) kR) (w_and C (w_not C (w_isi G C (i := 1) rfl kR (a_cons v_0 (a_cons (w_ty G C (i := 15) rfl kR kR) a_nil kR) kR) kR)) (w_one (w_cmp C v_0 v_1 kR))))
theorem e26 {S : Sit} (G : Glob gd S) {n : Nat} (cf mf : Calls) (X : Cx) (W : L2.WX) (cx : Cxt S (L2.defScope s26) N26 X) (fn : ∀ x, X.fn x = true) (tk : L2.Takes X W) (po : PassesOwn (model X.prog X.w) X.A X.env X.xe) (co : CallsOk S X cf mf) : SB S W cf mf n X (L2.defBody s26) F26.body := by
 have C : Cxk S (L2.defScope s26) N26 true cf mf X := ⟨cx, fun _ => fn, co⟩
 have v_0 : ∀ {W : L2.WX} {pos : Pos}, SE S W cf mf X (.Name (Str.ofString "pen") pos) (.var 0) := fun {_ _} => w_var C rfl kR
 have v_1 : ∀ {W : L2.WX} {pos : Pos}, SE S W cf mf X (.Name (Str.ofString "letters") pos) (.var 1) := fun {_ _} => w_var C rfl kR
 have v_3 : ∀ {W : L2.WX} {pos : Pos}, SE S W cf mf X (.Name (Str.ofString "long") pos) (.var 3) := fun {_ _} => w_var C rfl kR
 refine b_cons ?_ (b_cons ?_ (b_cons ?_ (b_nil)))
 ·exact x_asgT C (w_tup (a_cons (w_str kR) (a_cons (w_str kR) a_nil kR) kR) kR) (g_tp C (g_cons (g_nm C rfl kR) (g_cons (g_nm C rfl kR) g_nil rfl) rfl) rfl rfl) kR rfl
 ·exact x_set C (w_idx C (w_new false (n_lst (a_cons w_int (a_cons w_int (a_cons w_int (a_cons w_int (a_cons w_int (a_cons w_int a_nil kR) kR) kR) kR) kR) kR) kR)) (w_cal G C tk (i := 18) rfl rfl kR (a_cons v_0 (a_cons w_int a_nil kR) kR) kR) (fun _ _ => rfl)) rfl kR kR
 ·exact x_ret (w_bin C (w_cal G C tk (i := 19) rfl rfl kR (a_cons v_0 (a_cons v_1 a_nil kR) kR) kR) (w_join (w_str kR) (w_new false (n_lc C [((Str.ofString "lap"), 4)] (i_rng1 G C (i := 12) rfl kR v_3 kR) kR kR (fun Xb26 Cb26 Tb26 => have vb26_0 : ∀ {W : L2.WX} {pos : Pos}, SE S W cf mf Xb26 (.Name (Str.ofString "pen") pos) (.var 0) := fun {_ _} => w_var Cb26 rfl kR; have vb26_2 : ∀ {W : L2.WX} {pos : Pos}, SE S W cf mf Xb26 (.Name (Str.ofString "signs") pos) (.var 2) := fun {_ _} => w_var Cb26 rfl kR; ⟨(g_nm Cb26 rfl kR), c_none, (w_cal G Cb26 Tb26 (i := 19) rfl rfl kR (a_cons vb26_0 (a_cons vb26_2 a_nil kR) kR) kR)⟩) (fun _ => rfl))) kR))
theorem e27 {S : Sit} (G : Glob gd S) {n : Nat} (cf mf : Calls) (X : Cx) (W : L2.WX) (cx : Cxt S (L2.defScope s27) N27 X) (fn : ∀ x, X.fn x = true) (tk : L2.Takes X W) (po : PassesOwn (model X.prog X.w) X.A X.env X.xe) (co : CallsOk S X cf mf) : SB S W cf mf n X (L2.defBody s27) F27.body := by
 have C : Cxk S (L2.defScope s27) N27 true cf mf X := ⟨cx, fun _ => fn, co⟩
 have v_0 : ∀ {W : L2.WX} {pos : Pos}, SE S W cf mf X (.Name (Str.ofString "pen") pos) (.var 0) := fun {_ _} => w_var C rfl kR
 have v_1 : ∀ {W : L2.WX} {pos : Pos}, SE S W cf mf X (.Name (Str.ofString "many") pos) (.var 1) := fun {_ _} => w_var C rfl kR
 have v_2 : ∀ {W : L2.WX} {pos : Pos}, SE S W cf mf X (.Name (Str.ofString "found") pos) (.var 2) := fun {_ _} => w_var C rfl kR
 have v_3 : ∀ {W : L2.WX} {pos : Pos}, SE S W cf mf X (.Name (Str.ofString "lap") pos) (.var 3) := fun {_ _} => w_var C rfl kR
 have v_4 : ∀ {W : L2.WX} {pos : Pos}, SE S W cf mf X (.Name (Str.ofString "name") pos) (.var 4) := fun {_ _} => w_var C rfl kR
 refine b_cons ?_ (b_cons ?_ (b_cons ?_ (b_nil)))
 ·exact x_set C (w_new true (n_lst a_nil kR)) rfl kR kR
 ·refine x_for C po (i_rng1 G C (i := 12) rfl kR v_1 kR) (g_nm C rfl kR) ?_ (fun _ => rfl)
  refine b_cons ?_ (b_cons ?_ (b_cons ?_ (b_cons ?_ (b_nil))))
  ·exact x_set C (w_cal G C (takes_WC tk) (i := 22) rfl rfl kR (a_cons v_0 a_nil kR) kR) rfl kR kR
  ·refine x_if (t_cmp C v_4 v_2 kR) ?_ ?_
   ·refine b_cons ?_ (b_nil)
    ·exact x_set C (w_bin C (w_bin C (w_str kR) (w_biS G C (i := 3) rfl kR (a_cons v_3 a_nil kR) kR)) (w_str kR)) rfl kR kR
   ·exact b_nil
  ·refine x_whl po (t_cmp C v_4 v_2 kR) ?_
   refine b_cons ?_ (b_nil)
   ·exact x_set C (w_bin C v_4 (w_str kR)) rfl kR kR
  ·exact x_drop (w_app v_2 v_4 kR) kR
 ·exact x_ret (w_tupO G C false (i := 9) rfl kR v_2 kR)
theorem e28 {S : Sit} (G : Glob gd S) {n : Nat} (cf mf : Calls) (X : Cx) (W : L2.WX) (cx : Cxt S (L2.defScope s28) N28 X) (fn : ∀ x, X.fn x = true) (tk : L2.Takes X W) (po : PassesOwn (model X.prog X.w) X.A X.env X.xe) (co : CallsOk S X cf mf) : SB S W cf mf n X (L2.defBody s28) F28.body := by
 have C : Cxk S (L2.defScope s28) N28 true cf mf X := ⟨cx, fun _ => fn, co⟩
 have v_0 : ∀ {W : L2.WX} {pos : Pos}, SE S W cf mf X (.Name (Str.ofString "pen") pos) (.var 0) := fun {_ _} => w_var C rfl kR
 have v_1 : ∀ {W : L2.WX} {pos : Pos}, SE S W cf mf X (.Name (Str.ofString "many") pos) (.var 1) := fun {_ _} => w_var C rfl kR
 have v_2 : ∀ {W : L2.WX} {pos : Pos}, SE S W cf mf X (.Name (Str.ofString "names") pos) (.var 2) := fun {_ _} => w_var C rfl kR
 have v_3 : ∀ {W : L2.WX} {pos : Pos}, SE S W cf mf X (.Name (Str.ofString "parties") pos) (.var 3) := fun {_ _} => w_var C rfl kR
 have v_4 : ∀ {W : L2.WX} {pos : Pos}, SE S W cf mf X (.Name (Str.ofString "goods") pos) (.var 4) := fun {_ _} => w_var C rfl kR
 have v_6 : ∀ {W : L2.WX} {pos : Pos}, SE S W cf mf X (.Name (Str.ofString "rows") pos) (.var 6) := fun {_ _} => w_var C rfl kR
 have v_7 : ∀ {W : L2.WX} {pos : Pos}, SE S W cf mf X (.Name (Str.ofString "at") pos) (.var 7) := fun {_ _} => w_var C rfl kR
 have v_8 : ∀ {W : L2.WX} {pos : Pos}, SE S W cf mf X (.Name (Str.ofString "wants") pos) (.var 8) := fun {_ _} => w_var C rfl kR
 refine b_cons ?_ (b_cons ?_ (b_cons ?_ (b_cons ?_ (b_cons ?_ (b_cons ?_ (b_nil))))))
 ·exact x_set C (w_bin C w_int (w_cal G C tk (i := 18) rfl rfl kR (a_cons v_0 (a_cons w_int a_nil kR) kR) kR)) rfl kR kR
 ·exact x_set C (w_cal G C tk (i := 23) rfl rfl kR (a_cons v_0 (a_cons (w_bin C w_int v_1) a_nil kR) kR) kR) rfl kR kR
 ·exact x_asgT C (w_tup (a_cons (w_slc C v_2 s_no (s_ex v_1)) (a_cons (w_slc C v_2 (s_ex v_1) s_no) (a_cons (w_bin C w_int (w_cal G C tk (i := 18) rfl rfl kR (a_cons v_0 (a_cons w_int a_nil kR) kR) kR)) a_nil kR) kR) kR) kR) (g_tp C (g_cons (g_nm C rfl kR) (g_cons (g_nm C rfl kR) (g_cons (g_nm C rfl kR) g_nil rfl) rfl) rfl) rfl rfl) kR rfl
 ·exact x_set C (w_new true (n_lst a_nil kR)) rfl kR kR
 ·refine x_for C po (i_rng1 G C (i := 12) rfl kR v_1 kR) (g_nm C rfl kR) ?_ (fun _ => rfl)
  refine b_cons ?_ (b_cons ?_ (b_nil))
  ·exact x_setLc C [((Str.ofString "good"), 9)] false rfl kR (i_it C v_4) kR kR (fun Xb27 Cb27 Tb27 => have vb27_0 : ∀ {W : L2.WX} {pos : Pos}, SE S W cf mf Xb27 (.Name (Str.ofString "pen") pos) (.var 0) := fun {_ _} => w_var Cb27 rfl kR; have vb27_4 : ∀ {W : L2.WX} {pos : Pos}, SE S W cf mf Xb27 (.Name (Str.ofString "goods") pos) (.var 4) := fun {_ _} => w_var Cb27 rfl kR; have vb27_5 : ∀ {W : L2.WX} {pos : Pos}, SE S W cf mf Xb27 (.Name (Str.ofString "thin") pos) (.var 5) := fun {_ _} => w_var Cb27 rfl kR; have vb27_7 : ∀ {W : L2.WX} {pos : Pos}, SE S W cf mf Xb27 (.Name (Str.ofString "at") pos) (.var 7) := fun {_ _} => w_var Cb27 rfl kR; have vb27_9 : ∀ {W : L2.WX} {pos : Pos}, SE S W cf mf Xb27 (.Name (Str.ofString "good") pos) (.var 9) := fun {_ _} => w_var Cb27 rfl kR; ⟨(g_nm Cb27 rfl kR), (c_one (t_w (t_and (t_cmp Cb27 vb27_9 (w_idx Cb27 vb27_4 vb27_7 (fun _ _ => rfl)) kR) (t_a1 (t_cmp Cb27 (w_cal G Cb27 Tb27 (i := 18) rfl rfl kR (a_cons vb27_0 (a_cons vb27_5 a_nil kR) kR) kR) w_int kR))))), vb27_9⟩) (fun _ => rfl)
  ·exact x_drop (w_app v_6 (w_tup (a_cons (w_idx C v_3 v_7 (fun _ _ => rfl)) (a_cons (w_idx C v_4 v_7 (fun _ _ => rfl)) (a_cons (w_tupO G C false (i := 9) rfl kR (w_cal G C (takes_WC tk) (i := 20) rfl rfl kR (a_cons v_0 (a_cons v_8 a_nil kR) kR) kR) kR) a_nil kR) kR) kR) kR) kR) kR
 ·exact x_ret (w_tupO G C false (i := 9) rfl kR v_6 kR)
theorem e29 {S : Sit} (G : Glob gd S) {n : Nat} (cf mf : Calls) (X : Cx) (W : L2.WX) (cx : Cxt S (L2.defScope s29) N29 X) (fn : ∀ x, X.fn x = true) (tk : L2.Takes X W) (po : PassesOwn (model X.prog X.w) X.A X.env X.xe) (co : CallsOk S X cf mf) : SB S W cf mf n X (L2.defBody s29) F29.body := by
 have C : Cxk S (L2.defScope s29) N29 true cf mf X := ⟨cx, fun _ => fn, co⟩
 have v_0 : ∀ {W : L2.WX} {pos : Pos}, SE S W cf mf X (.Name (Str.ofString "rows") pos) (.var 0) := fun {_ _} => w_var C rfl kR
 have v_1 : ∀ {W : L2.WX} {pos : Pos}, SE S W cf mf X (.Name (Str.ofString "lots") pos) (.var 1) := fun {_ _} => w_var C rfl kR
 have v_2 : ∀ {W : L2.WX} {pos : Pos}, SE S W cf mf X (.Name (Str.ofString "found") pos) (.var 2) := fun {_ _} => w_var C rfl kR
 have v_3 : ∀ {W : L2.WX} {pos : Pos}, SE S W cf mf X (.Name (Str.ofString "row") pos) (.var 3) := fun {_ _} => w_var C rfl kR
 have v_4 : ∀ {W : L2.WX} {pos : Pos}, SE S W cf mf X (.Name (Str.ofString "longer") pos) (.var 4) := fun {_ _} => w_var C rfl kR
 have v_5 : ∀ {W : L2.WX} {pos : Pos}, SE S W cf mf X (.Name (Str.ofString "lot") pos) (.var 5) := fun {_ _} => w_var C rfl kR
 have v_6 : ∀ {W : L2.WX} {pos : Pos}, SE S W cf mf X (.Name (Str.ofString "brought") pos) (.var 6) := fun {_ _} => w_var C rfl kR
 have v_7 : ∀ {W : L2.WX} {pos : Pos}, SE S W cf mf X (.Name (Str.ofString "wanted") pos) (.var 7) := fun {_ _} => w_var C rfl kR
 refine b_cons ?_ (b_cons ?_ (b_cons ?_ (b_cons ?_ (b_nil))))
 ·exact x_par C (a_cons (w_new false (n_lst (a_cons (w_tup a_nil kR) a_nil kR) kR)) (a_cons (w_new true (n_lst a_nil kR)) a_nil kR) kR) rfl rfl kR kR
 ·refine x_for C po (i_it C v_0) (g_nm C rfl kR) ?_ (fun _ => rfl)
  refine b_cons ?_ (b_cons ?_ (b_cons ?_ (b_nil)))
  ·exact x_set C (w_new true (n_list G C (i := 10) rfl kR v_1 kR)) rfl kR kR
  ·refine x_for C po (i_it C v_1) (g_nm C rfl kR) ?_ (fun _ => rfl)
   refine b_cons ?_ (b_nil)
   ·exact x_drop (w_ext C v_4 (w_new false (n_lc C [((Str.ofString "want"), 8)] (i_it C (w_idx C v_3 w_int (fun _ _ => rfl))) kR kR (fun Xb28 Cb28 Tb28 => have vb28_3 : ∀ {W : L2.WX} {pos : Pos}, SE S W cf mf Xb28 (.Name (Str.ofString "row") pos) (.var 3) := fun {_ _} => w_var Cb28 rfl kR; have vb28_5 : ∀ {W : L2.WX} {pos : Pos}, SE S W cf mf Xb28 (.Name (Str.ofString "lot") pos) (.var 5) := fun {_ _} => w_var Cb28 rfl kR; have vb28_8 : ∀ {W : L2.WX} {pos : Pos}, SE S W cf mf Xb28 (.Name (Str.ofString "want") pos) (.var 8) := fun {_ _} => w_var Cb28 rfl kR; ⟨(g_nm Cb28 rfl kR), c_none, (w_bin Cb28 vb28_5 (w_tup (a_cons (w_tup (a_cons (w_idx Cb28 vb28_3 w_int (fun _ _ => rfl)) (a_cons (w_idx Cb28 vb28_3 w_int (fun _ _ => rfl)) (a_cons vb28_8 a_nil kR) kR) kR) kR) a_nil kR) kR))⟩) (fun _ => rfl))) kR) kR
  ·exact x_set C v_4 rfl kR kR
 ·refine x_for C po (i_it C v_1) (g_nm C rfl kR) ?_ (fun _ => rfl)
  refine b_cons ?_ (b_cons ?_ (b_nil))
  ·exact x_par C (a_cons (w_new false (n_sort G C (i := 11) rfl kR (w_new false (n_lc C [((Str.ofString "row"), 3)] (i_it C v_5) kR kR (fun Xb29 Cb29 Tb29 => have vb29_3 : ∀ {W : L2.WX} {pos : Pos}, SE S W cf mf Xb29 (.Name (Str.ofString "row") pos) (.var 3) := fun {_ _} => w_var Cb29 rfl kR; ⟨(g_nm Cb29 rfl kR), c_none, (w_idx Cb29 vb29_3 w_int (fun _ _ => rfl))⟩) (fun _ => rfl))) kR)) (a_cons (w_new false (n_sort G C (i := 11) rfl kR (w_new false (n_lc C [((Str.ofString "row"), 3)] (i_it C v_5) kR kR (fun Xb30 Cb30 Tb30 => have vb30_3 : ∀ {W : L2.WX} {pos : Pos}, SE S W cf mf Xb30 (.Name (Str.ofString "row") pos) (.var 3) := fun {_ _} => w_var Cb30 rfl kR; ⟨(g_nm Cb30 rfl kR), c_none, (w_idx Cb30 vb30_3 w_int (fun _ _ => rfl))⟩) (fun _ => rfl))) kR)) a_nil kR) kR) rfl rfl kR kR
  ·refine x_if (t_w (t_and (t_cmp C (w_len G C (i := 0) rfl kR (a_cons v_5 a_nil kR) kR) w_int kR) (t_a1 (t_cmp C v_6 v_7 kR)))) ?_ ?_
   ·refine b_cons ?_ (b_nil)
    ·exact x_drop (w_app v_2 v_5 kR) kR
   ·exact b_nil
 ·exact x_ret (w_new false (n_sort G C (i := 11) rfl kR v_2 kR))
theorem e30 {S : Sit} (G : Glob gd S) {n : Nat} (cf mf : Calls) (X : Cx) (W : L2.WX) (cx : Cxt S (L2.defScope s30) N30 X) (fn : ∀ x, X.fn x = true) (tk : L2.Takes X W) (po : PassesOwn (model X.prog X.w) X.A X.env X.xe) (co : CallsOk S X cf mf) : SB S W cf mf n X (L2.defBody s30) F30.body := by
 have C : Cxk S (L2.defScope s30) N30 true cf mf X := ⟨cx, fun _ => fn, co⟩
 have v_0 : ∀ {W : L2.WX} {pos : Pos}, SE S W cf mf X (.Name (Str.ofString "script") pos) (.var 0) := fun {_ _} => w_var C rfl kR
 have v_1 : ∀ {W : L2.WX} {pos : Pos}, SE S W cf mf X (.Name (Str.ofString "pen") pos) (.var 1) := fun {_ _} => w_var C rfl kR
 have v_11 : ∀ {W : L2.WX} {pos : Pos}, SE S W cf mf X (.Name (Str.ofString "free") pos) (.var 11) := fun {_ _} => w_var C rfl kR
 have v_13 : ∀ {W : L2.WX} {pos : Pos}, SE S W cf mf X (.Name (Str.ofString "places") pos) (.var 13) := fun {_ _} => w_var C rfl kR
 have v_14 : ∀ {W : L2.WX} {pos : Pos}, SE S W cf mf X (.Name (Str.ofString "is_there") pos) (.var 14) := fun {_ _} => w_var C rfl kR
 have v_15 : ∀ {W : L2.WX} {pos : Pos}, SE S W cf mf X (.Name (Str.ofString "odd") pos) (.var 15) := fun {_ _} => w_var C rfl kR
 have v_16 : ∀ {W : L2.WX} {pos : Pos}, SE S W cf mf X (.Name (Str.ofString "value") pos) (.var 16) := fun {_ _} => w_var C rfl kR
 have v_3 : ∀ {W : L2.WX} {pos : Pos}, SE S W cf mf X (.Name (Str.ofString "rows") pos) (.var 3) := fun {_ _} => w_var C rfl kR
 have v_4 : ∀ {W : L2.WX} {pos : Pos}, SE S W cf mf X (.Name (Str.ofString "given") pos) (.var 4) := fun {_ _} => w_var C rfl kR
 have v_5 : ∀ {W : L2.WX} {pos : Pos}, SE S W cf mf X (.Name (Str.ofString "due") pos) (.var 5) := fun {_ _} => w_var C rfl kR
 have v_6 : ∀ {W : L2.WX} {pos : Pos}, SE S W cf mf X (.Name (Str.ofString "most") pos) (.var 6) := fun {_ _} => w_var C rfl kR
 have v_7 : ∀ {W : L2.WX} {pos : Pos}, SE S W cf mf X (.Name (Str.ofString "best") pos) (.var 7) := fun {_ _} => w_var C rfl kR
 have v_8 : ∀ {W : L2.WX} {pos : Pos}, SE S W cf mf X (.Name (Str.ofString "served") pos) (.var 8) := fun {_ _} => w_var C rfl kR
 have v_9 : ∀ {W : L2.WX} {pos : Pos}, SE S W cf mf X (.Name (Str.ofString "one") pos) (.var 9) := fun {_ _} => w_var C rfl kR
 refine b_cons ?_ (b_cons ?_ (b_cons ?_ (b_nil)))
 ·exact x_set C (w_cal G C tk (i := 17) rfl rfl kR (a_cons v_0 a_nil kR) kR) rfl kR kR
 ·refine x_for C po (i_rng1 G C (i := 12) rfl kR w_int kR) (g_nm C rfl kR) ?_ (fun _ => rfl)
  refine b_cons ?_ (b_cons ?_ (b_cons ?_ (b_cons ?_ (b_cons ?_ (b_cons ?_ (b_cons ?_ (b_cons ?_ (b_cons ?_ (b_cons ?_ (b_cons ?_ (b_cons ?_ (b_cons ?_ (b_cons ?_ (b_nil))))))))))))))
  ·exact x_set C (w_cal G C (takes_WC tk) (i := 24) rfl rfl kR (a_cons v_1 a_nil kR) kR) rfl kR kR
  ·exact x_par C (a_cons (w_cal G C (takes_WC tk) (i := 19) rfl rfl kR (a_cons v_1 (a_cons (w_new false (n_lst (a_cons v_3 (a_cons (w_new false (n_list G C (i := 10) rfl kR v_3 kR)) a_nil kR) kR) kR)) a_nil kR) kR) kR) (a_cons (w_cal G C (takes_WC tk) (i := 25) rfl rfl kR (a_cons v_3 a_nil kR) kR) a_nil kR) kR) rfl rfl kR kR
  ·refine x_if (t_not (t_v C (w_cal G C (takes_WC tk) (i := 21) rfl rfl kR (a_cons (w_cal G C (takes_WC tk) (i := 12) rfl rfl kR (a_cons v_4 a_nil kR) kR) (a_cons (w_tupO G C false (i := 9) rfl kR v_5 kR) a_nil kR) kR) kR) (fun _ => rfl))) ?_ ?_
   ·refine b_cons ?_ (b_nil)
    ·exact x_ret w_bl
   ·exact b_nil
  ·refine x_if (t_cmp C (w_new false (n_lc C [((Str.ofString "one"), 9)] (i_it C v_5) kR kR (fun Xb31 Cb31 Tb31 => have vb31_9 : ∀ {W : L2.WX} {pos : Pos}, SE S W cf mf Xb31 (.Name (Str.ofString "one") pos) (.var 9) := fun {_ _} => w_var Cb31 rfl kR; ⟨(g_nm Cb31 rfl kR), (c_one (t_cmp Cb31 (w_att G Cb31 (w_mak G Cb31 Tb31 (i := 0) rfl rfl rfl kR (a_cons vb31_9 a_nil kR) kR) rfl kR) vb31_9 kR)), vb31_9⟩) (fun _ => rfl))) (w_new false (n_lst a_nil kR)) kR) ?_ ?_
   ·refine b_cons ?_ (b_nil)
    ·exact x_ret w_bl
   ·exact b_nil
  ·exact x_set C (w_max G C (i := 7) rfl kR (a_cons (w_bin C (w_new false (n_lst (a_cons w_int a_nil kR) kR)) (w_new false (n_lc C [((Str.ofString "one"), 9)] (i_it C v_5) kR kR (fun Xb32 Cb32 Tb32 => have vb32_9 : ∀ {W : L2.WX} {pos : Pos}, SE S W cf mf Xb32 (.Name (Str.ofString "one") pos) (.var 9) := fun {_ _} => w_var Cb32 rfl kR; ⟨(g_nm Cb32 rfl kR), c_none, (w_len G Cb32 (i := 0) rfl kR (a_cons vb32_9 a_nil kR) kR)⟩) (fun _ => rfl)))) a_nil kR) kR) rfl kR kR
  ·exact x_setLc C [((Str.ofString "one"), 9)] false rfl kR (i_it C v_5) kR kR (fun Xb33 Cb33 Tb33 => have vb33_6 : ∀ {W : L2.WX} {pos : Pos}, SE S W cf mf Xb33 (.Name (Str.ofString "most") pos) (.var 6) := fun {_ _} => w_var Cb33 rfl kR; have vb33_9 : ∀ {W : L2.WX} {pos : Pos}, SE S W cf mf Xb33 (.Name (Str.ofString "one") pos) (.var 9) := fun {_ _} => w_var Cb33 rfl kR; ⟨(g_nm Cb33 rfl kR), (c_one (t_cmp Cb33 (w_len G Cb33 (i := 0) rfl kR (a_cons vb33_9 a_nil kR) kR) vb33_6 kR)), vb33_9⟩) (fun _ => rfl)
  ·refine x_if (t_not (t_v C (w_cal G C (takes_WC tk) (i := 21) rfl rfl kR (a_cons (w_cal G C (takes_WC tk) (i := 13) rfl rfl kR (a_cons v_4 a_nil kR) kR) (a_cons (w_tup (a_cons v_6 (a_cons (se_ife (t_cmp C v_7 (w_new false (n_lst a_nil kR)) kR) (w_idx C v_7 w_int (fun _ _ => rfl)) (w_tup a_nil kR)) a_nil kR) kR) kR) a_nil kR) kR) kR) (fun _ => rfl))) ?_ ?_
   ·refine b_cons ?_ (b_nil)
    ·exact x_ret w_bl
   ·exact b_nil
  ·exact x_set C (w_new true (n_lst a_nil kR)) rfl kR kR
  ·refine x_for C po (i_it C v_5) (g_nm C rfl kR) ?_ (fun _ => rfl)
   refine b_cons ?_ (b_nil)
   ·exact x_drop (w_ext C v_8 (w_new false (n_lc C [((Str.ofString "row"), 17)] (i_it C v_9) kR kR (fun Xb34 Cb34 Tb34 => have vb34_17 : ∀ {W : L2.WX} {pos : Pos}, SE S W cf mf Xb34 (.Name (Str.ofString "row") pos) (.var 17) := fun {_ _} => w_var Cb34 rfl kR; ⟨(g_nm Cb34 rfl kR), c_none, (w_idx Cb34 vb34_17 w_int (fun _ _ => rfl))⟩) (fun _ => rfl))) kR) kR
  ·refine x_if (t_not (t_v C (w_cal G C (takes_WC tk) (i := 21) rfl rfl kR (a_cons (w_cal G C (takes_WC tk) (i := 15) rfl rfl kR (a_cons v_4 a_nil kR) kR) (a_cons (w_tupO G C false (i := 9) rfl kR (w_new false (n_sort G C (i := 11) rfl kR (w_new false (n_lc C [((Str.ofString "row"), 17)] (i_it C v_3) kR kR (fun Xb35 Cb35 Tb35 => have vb35_17 : ∀ {W : L2.WX} {pos : Pos}, SE S W cf mf Xb35 (.Name (Str.ofString "row") pos) (.var 17) := fun {_ _} => w_var Cb35 rfl kR; have vb35_8 : ∀ {W : L2.WX} {pos : Pos}, SE S W cf mf Xb35 (.Name (Str.ofString "served") pos) (.var 8) := fun {_ _} => w_var Cb35 rfl kR; ⟨(g_nm Cb35 rfl kR), (c_one (t_cmp Cb35 (w_idx Cb35 vb35_17 w_int (fun _ _ => rfl)) vb35_8 kR)), (w_idx Cb35 vb35_17 w_int (fun _ _ => rfl))⟩) (fun _ => rfl))) kR)) kR) a_nil kR) kR) kR) (fun _ => rfl))) ?_ ?_
   ·refine b_cons ?_ (b_nil)
    ·exact x_ret w_bl
   ·exact b_nil
  ·refine x_for C po (i_it C (w_bin C (w_bin C (w_new false (n_lst (a_cons (w_tup a_nil kR) a_nil kR) kR)) (w_slc C v_5 s_no (s_ex w_int))) (w_slc C v_7 s_no (s_ex w_int)))) (g_nm C rfl kR) ?_ (fun _ => rfl)
   refine b_cons ?_ (b_cons ?_ (b_cons ?_ (b_nil)))
   ·exact x_setLn C (w_new false (n_lc C [((Str.ofString "row"), 17)] (i_it C v_9) kR kR (fun Xb36 Cb36 Tb36 => have vb36_17 : ∀ {W : L2.WX} {pos : Pos}, SE S W cf mf Xb36 (.Name (Str.ofString "row") pos) (.var 17) := fun {_ _} => w_var Cb36 rfl kR; ⟨(g_nm Cb36 rfl kR), c_none, (w_idx Cb36 vb36_17 w_int (fun _ _ => rfl))⟩) (fun _ => rfl))) rfl kR kR
   ·exact x_setLc C [((Str.ofString "other"), 18)] false rfl kR (i_it C v_5) kR kR (fun Xb37 Cb37 Tb37 => have vb37_18 : ∀ {W : L2.WX} {pos : Pos}, SE S W cf mf Xb37 (.Name (Str.ofString "other") pos) (.var 18) := fun {_ _} => w_var Cb37 rfl kR; ⟨(g_nm Cb37 rfl kR), (c_one (t_cmp Cb37 (w_new false (n_lc Cb37 [((Str.ofString "row"), 17)] (i_it Cb37 vb37_18) kR kR (fun Xb38 Cb38 Tb38 => have vb38_10 : ∀ {W : L2.WX} {pos : Pos}, SE S W cf mf Xb38 (.Name (Str.ofString "parties") pos) (.var 10) := fun {_ _} => w_var Cb38 rfl kR; have vb38_17 : ∀ {W : L2.WX} {pos : Pos}, SE S W cf mf Xb38 (.Name (Str.ofString "row") pos) (.var 17) := fun {_ _} => w_var Cb38 rfl kR; ⟨(g_nm Cb38 rfl kR), (c_one (t_cmp Cb38 (w_idx Cb38 vb38_17 w_int (fun _ _ => rfl)) vb38_10 kR)), vb38_17⟩) (fun _ => rfl))) (w_new false (n_lst a_nil kR)) kR)), vb37_18⟩) (fun _ => rfl)
   ·refine x_if (t_not (t_v C (w_cal G C (takes_WC (takes_WC tk)) (i := 21) rfl rfl kR (a_cons (w_cal G C (takes_WC (takes_WC tk)) (i := 16) rfl rfl kR (a_cons v_4 (a_cons v_9 a_nil kR) kR) kR) (a_cons (se_ife (t_cmp C v_11 (w_new false (n_lst a_nil kR)) kR) (w_idx C v_11 w_int (fun _ _ => rfl)) w_non) a_nil kR) kR) kR) (fun _ => rfl))) ?_ ?_
    ·refine b_cons ?_ (b_nil)
     ·exact x_ret w_bl
    ·exact b_nil
  ·refine x_if (t_w (t_and (t_cmp C v_7 (w_new false (n_lst a_nil kR)) kR) (t_a1 (t_cmp C (w_cal G C (takes_WC tk) (i := 16) rfl rfl kR (a_cons v_4 (a_cons (w_idx C v_7 w_int (fun _ _ => rfl)) a_nil kR) kR) kR) w_non kR)))) ?_ ?_
   ·refine b_cons ?_ (b_nil)
    ·exact x_ret w_bl
   ·exact b_nil
  ·refine x_for C po (i_rng1 G C (i := 12) rfl kR w_int kR) (g_nm C rfl kR) ?_ (fun _ => rfl)
   refine b_cons ?_ (b_cons ?_ (b_cons ?_ (b_cons ?_ (b_cons ?_ (b_nil)))))
   ·exact x_set C (w_tupO G C false (i := 9) rfl kR (w_new false (n_lc C [((Str.ofString "place"), 19)] (i_rng1 G C (i := 12) rfl kR (w_len G C (i := 0) rfl kR (a_cons v_3 a_nil kR) kR) kR) kR kR (fun Xb39 Cb39 Tb39 => have vb39_1 : ∀ {W : L2.WX} {pos : Pos}, SE S W cf mf Xb39 (.Name (Str.ofString "pen") pos) (.var 1) := fun {_ _} => w_var Cb39 rfl kR; have vb39_19 : ∀ {W : L2.WX} {pos : Pos}, SE S W cf mf Xb39 (.Name (Str.ofString "place") pos) (.var 19) := fun {_ _} => w_var Cb39 rfl kR; ⟨(g_nm Cb39 rfl kR), (c_one (t_cmp Cb39 (w_cal G Cb39 Tb39 (i := 18) rfl rfl kR (a_cons vb39_1 (a_cons w_int a_nil kR) kR) kR) w_int kR)), vb39_19⟩) (fun _ => rfl))) kR) rfl kR kR
   ·exact x_setLn C (w_new false (n_lc C [((Str.ofString "place"), 19)] (i_it C v_13) kR kR (fun Xb40 Cb40 Tb40 => have vb40_19 : ∀ {W : L2.WX} {pos : Pos}, SE S W cf mf Xb40 (.Name (Str.ofString "place") pos) (.var 19) := fun {_ _} => w_var Cb40 rfl kR; have vb40_3 : ∀ {W : L2.WX} {pos : Pos}, SE S W cf mf Xb40 (.Name (Str.ofString "rows") pos) (.var 3) := fun {_ _} => w_var Cb40 rfl kR; ⟨(g_nm Cb40 rfl kR), c_none, (w_idx Cb40 (w_idx Cb40 vb40_3 vb40_19 (fun _ _ => rfl)) w_int (fun _ _ => rfl))⟩) (fun _ => rfl))) rfl kR kR
   ·exact x_set C (w_cmp C (w_new false (n_lc C [((Str.ofString "one"), 9)] (i_it C v_5) kR kR (fun Xb41 Cb41 Tb41 => have vb41_10 : ∀ {W : L2.WX} {pos : Pos}, SE S W cf mf Xb41 (.Name (Str.ofString "parties") pos) (.var 10) := fun {_ _} => w_var Cb41 rfl kR; have vb41_9 : ∀ {W : L2.WX} {pos : Pos}, SE S W cf mf Xb41 (.Name (Str.ofString "one") pos) (.var 9) := fun {_ _} => w_var Cb41 rfl kR; ⟨(g_nm Cb41 rfl kR), (c_one (t_cmp Cb41 (w_new false (n_lc Cb41 [((Str.ofString "row"), 17)] (i_it Cb41 vb41_9) kR kR (fun Xb42 Cb42 Tb42 => have vb42_17 : ∀ {W : L2.WX} {pos : Pos}, SE S W cf mf Xb42 (.Name (Str.ofString "row") pos) (.var 17) := fun {_ _} => w_var Cb42 rfl kR; ⟨(g_nm Cb42 rfl kR), c_none, (w_idx Cb42 vb42_17 w_int (fun _ _ => rfl))⟩) (fun _ => rfl))) vb41_10 kR)), vb41_9⟩) (fun _ => rfl))) (w_new false (n_lst a_nil kR)) kR) rfl kR kR
   ·refine x_if (t_not (t_v C (w_cal G C (takes_WC (takes_WC tk)) (i := 21) rfl rfl kR (a_cons (w_cal G C (takes_WC (takes_WC tk)) (i := 14) rfl rfl kR (a_cons v_4 (a_cons (w_mak G C (takes_WC (takes_WC tk)) (i := 1) rfl rfl rfl kR (a_cons v_13 a_nil kR) kR) a_nil kR) kR) kR) (a_cons (w_and C v_14 (w_one (w_cmp C (w_len G C (i := 0) rfl kR (a_cons v_13 a_nil kR) kR) w_int kR))) a_nil kR) kR) kR) (fun _ => rfl))) ?_ ?_
    ·refine b_cons ?_ (b_nil)
     ·exact x_ret w_bl
    ·exact b_nil
   ·refine x_for C po (i_it C (w_new false (n_lst (a_cons (se_ife (t_cmp C (w_len G C (i := 0) rfl kR (a_cons v_13 a_nil kR) kR) w_int kR) (w_rev C v_13) w_non) (a_cons (w_bin C v_13 (w_tup (a_cons (w_len G C (i := 0) rfl kR (a_cons v_3 a_nil kR) kR) a_nil kR) kR)) (a_cons w_non (a_cons (w_bin C (w_tup (a_cons w_bl a_nil kR) kR) v_13) a_nil kR) kR) kR) kR) kR))) (g_nm C rfl kR) ?_ (fun _ => rfl)
    refine b_cons ?_ (b_nil)
    ·refine x_if (t_cmp C (w_cal G C (takes_WC (takes_WC (takes_WC tk))) (i := 14) rfl rfl kR (a_cons v_4 (a_cons (w_mak G C (takes_WC (takes_WC (takes_WC tk))) (i := 1) rfl rfl rfl kR (a_cons v_15 a_nil kR) kR) a_nil kR) kR) kR) w_bl kR) ?_ ?_
     ·refine b_cons ?_ (b_nil)
      ·exact x_ret w_bl
     ·exact b_nil
  ·refine x_for C po (i_it C (w_new false (n_lst (a_cons w_non (a_cons w_int (a_cons (w_tup (a_cons w_int (a_cons w_int a_nil kR) kR) kR) a_nil kR) kR) kR) kR))) (g_nm C rfl kR) ?_ (fun _ => rfl)
   refine b_cons ?_ (b_nil)
   ·refine x_if (t_cmp C (w_cal G C (takes_WC (takes_WC tk)) (i := 14) rfl rfl kR (a_cons v_4 (a_cons v_16 a_nil kR) kR) kR) w_bl kR) ?_ ?_
    ·refine b_cons ?_ (b_nil)
     ·exact x_ret w_bl
    ·exact b_nil
 ·exact x_ret (w_and C (w_dun G C tk (w_mak G C tk (i := 1) rfl rfl rfl kR (a_cons (w_new false (n_lst (a_cons w_int (a_cons w_int a_nil kR) kR) kR)) a_nil kR) kR) (w_mak G C tk (i := 1) rfl rfl rfl kR (a_cons (w_tup (a_cons w_int (a_cons w_int a_nil kR) kR) kR) a_nil kR) kR) (fun _ _ => rfl) rfl kR) (w_and C (w_dun G C tk (w_mak G C tk (i := 1) rfl rfl rfl kR (a_cons (w_tup (a_cons w_int (a_cons w_int a_nil kR) kR) kR) a_nil kR) kR) (w_mak G C tk (i := 1) rfl rfl rfl kR (a_cons (w_tup (a_cons w_int a_nil kR) kR) a_nil kR) kR) (fun _ _ => rfl) rfl kR) (w_one (w_not C (w_dun G C tk (w_mak G C tk (i := 1) rfl rfl rfl kR (a_cons (w_tup (a_cons w_int (a_cons w_int a_nil kR) kR) kR) a_nil kR) kR) (w_tup (a_cons w_int (a_cons w_int a_nil kR) kR) kR) (fun _ _ => rfl) rfl kR)))))
end Mn.K62
end
section
namespace Mn.Sh
open PySem Mn
abbrev KE := Sl → Mem → Res D
abbrev KT := Sl → Mem → Res Bool
abbrev KA := Sl → Mem → Res (List D)
abbrev KO := Sl → Mem → Res (Option D)
abbrev KP := Sl → Mem → Res (Option Int)
abbrev KN := Sl → Mem → Res D
abbrev KD' := Sl → Mem → Res (List (D × D))
abbrev KI := Sl → Mem → Res Walk
abbrev KG := D → Sl → Mem → Res Sl
abbrev KGs := List D → Sl → Mem → Res Sl
abbrev KS := Sl → Mem → Out
def slot : Sl → Nat → Option D
 | [], _ => none
 | x :: _, 0 => x
 | _ :: r, i + 1 => slot r i
theorem slot_eq : ∀ (σ : Sl) (i : Nat), σ[i]?.join = slot σ i
 | [], i => by simp [slot]
 | x :: r, 0 => by simp [slot]
 | x :: r, i + 1 => by simp only [slot, List.getElem?_cons_succ, slot_eq r i]
def memAt : Mem → Nat → Option D
 | [], _ => none
 | x :: _, 0 => some x
 | _ :: r, i + 1 => memAt r i
theorem memAt_eq : ∀ (M : Mem) (i : Nat), M[i]? = memAt M i
 | [], i => by simp [memAt]
 | x :: r, 0 => by simp [memAt]
 | x :: r, i + 1 => by simp only [memAt, List.getElem?_cons_succ, memAt_eq r i]
def dr (M : Mem) : D → D
 | .ref i => match memAt M i with
  | some (.lck ps) => .dct ps
  | some d => d
  | none => .ref i
 | .row xs => .tup xs
 | d => d
theorem dr_eq : der = dr := by
 funext M d
 cases d <;> simp only [der, dr, memAt_eq]
 all_goals rfl
def memN (c : Nat) : List Nat → Bool
 | [] => false
 | a :: r => match Nat.beq c a with
  | true => true
  | false => memN c r
theorem memN_eq (c : Nat) : ∀ l : List Nat, decide (c ∈ l) = memN c l
 | [] => by simp [memN]
 | a :: r => by
  have ih := memN_eq c r
  unfold memN
  cases h : Nat.beq c a with
  | true => simp [Nat.eq_of_beq_eq_true h]
  | false =>
   have h2 := Nat.ne_of_beq_eq_false h
   simp only [← ih, List.mem_cons, h2, false_or]
mutual
def eq2 : D → D → Bool
 | .non, .non => true
 | .bl a, .bl b => a == b
 | .bl a, .int j => (if a then 1 else 0) == j
 | .int i, .bl b => i == (if b then 1 else 0)
 | .int i, .int j => i == j
 | .str x, .str y => seqS x y
 | .tup xs, .tup ys => eq2s xs ys
 | .tup xs, .row ys => eq2s xs ys
 | .row xs, .tup ys => eq2s xs ys
 | .row xs, .row ys => eq2s xs ys
 | .lst xs, .lst ys => eq2s xs ys
 | _, _ => false
def eq2s : List D → List D → Bool
 | [], [] => true
 | x :: r, y :: s => match eq2 x y with
  | true => eq2s r s
  | false => false
 | _, _ => false
end
theorem seqS_dec (x y : Str) : decide (x = y) = seqS x y := by
 cases h : seqS x y with
 | true => simp [seqS_iff.mp h]
 | false => simp; intro e; rw [seqS_iff.mpr e] at h; cases h
mutual
theorem eq2_eq : ∀ a b : D, eqv a b = eq2 a b
 | .non, b => by cases b <;> simp [eqv, eq2]
 | .bl _, b => by cases b <;> simp [eqv, eq2]
 | .int _, b => by cases b <;> simp [eqv, eq2]
 | .str _, b => by cases b <;> simp [eqv, eq2, seqS_dec]
 | .ty _, b => by cases b <;> simp [eqv, eq2]
 | .tup xs, b => by cases b <;> simp [eqv, eq2] <;> exact eq2s_eq xs _
 | .row xs, b => by cases b <;> simp [eqv, eq2] <;> exact eq2s_eq xs _
 | .lst xs, b => by cases b <;> simp [eqv, eq2] <;> exact eq2s_eq xs _
 | .dct xs, b => by cases b <;> simp [eqv, eq2]
 | .ins c fs, b => by cases b <;> simp [eqv, eq2]
 | .cls _, b => by cases b <;> simp [eqv, eq2]
 | .ref _, b => by cases b <;> simp [eqv, eq2]
 | .scr _, b => by cases b <;> simp [eqv, eq2]
 | .lck xs, b => by cases b <;> simp [eqv, eq2]
theorem eq2s_eq : ∀ a b : List D, eqvs a b = eq2s a b
 | [], b => by cases b <;> simp [eqvs, eq2s]
 | x :: r, [] => by simp [eqvs, eq2s]
 | x :: r, y :: s => by
  rw [eqvs, eq2s, eq2_eq x y, eq2s_eq r s]
  cases eq2 x y <;> rfl
end
def get2 : List (D × D) → D → Option D
 | [], _ => none
 | (k, v) :: r, x => match eq2 k x with
  | true => some v
  | false => get2 r x
theorem get2_eq : ∀ (ps : List (D × D)) (x : D), dget ps x = get2 ps x
 | [], _ => rfl
 | (k, v) :: r, x => by
  unfold dget get2
  rw [eq2_eq, get2_eq r x]
  cases eq2 k x <;> rfl
def any2 (x : D) : List D → Bool
 | [] => false
 | y :: r => match eq2 y x with
  | true => true
  | false => any2 x r
theorem any2_eq (x : D) : ∀ ys : List D, (ys.any fun z => eqv z x) = any2 x ys
 | [] => rfl
 | y :: r => by
  unfold any2
  rw [List.any_cons, any2_eq x r, eq2_eq]
  cases eq2 y x <;> rfl
def kal : List D → Bool
 | [] => true
 | x :: r => match flat x with
  | true => kal r
  | false => false
theorem kal_eq : ∀ xs : List D, xs.all flat = kal xs
 | [] => rfl
 | x :: r => by
  unfold kal
  rw [List.all_cons, kal_eq r]
  cases flat x <;> rfl
def kd2 : D → Bool
 | .tup xs => kal xs
 | d => flat d
theorem kd2_eq (d : D) : keyd d = kd2 d := by cases d <;> simp [keyd, kd2, kal_eq, flat]
def kall (b : Bool) : List (D × D) → Bool
 | [] => true
 | (k, _) :: r => match isT k, b with
  | true, true => kall b r
  | false, false => kall b r
  | _, _ => false
def kok2 (ps : List (D × D)) (k : D) : Bool := match kd2 k with
 | true => kall (isT k) ps
 | false => false
theorem kok2_eq (ps : List (D × D)) (k : D) : keyOk ps k = kok2 ps k := by
 unfold keyOk kok2
 rw [kd2_eq]
 cases kd2 k with
 | false => rfl
 | true =>
  show (ps.all fun p => isT p.1 == isT k) = kall (isT k) ps
  generalize isT k = b
  induction ps with
  | nil => rfl
  | cons p r ih =>
   obtain ⟨p1, p2⟩ := p
   rw [List.all_cons, ih]
   cases h : isT p1 <;> cases b <;> simp [kall, h]
def in2 (x y : D) : Option Bool :=
 match x, y with
 | x, .tup ys => if shp 8 x && shp 9 (.tup ys) then some (any2 x ys) else none
 | x, .lst ys => if shp 8 x && shp 9 (.lst ys) then some (any2 x ys) else none
 | .str x, .str z => match x.cps.toList with
  | [c] => some (memN c z.cps.toList)
  | _ => none
 | x, .dct ps => match kok2 ps x with
  | true => some (match get2 ps x with | some _ => true | none => false)
  | false => none
 | _, _ => none
theorem in2_eq (x y : D) : inD x y = in2 x y := by
 cases y <;> cases x <;> simp only [inD, in2, any2_eq, memN_eq, kok2_eq, get2_eq] <;> (try split) <;> (try simp_all) <;> (try (split <;> simp_all))
def cmp2 (op : CmpOp) (a b : D) : Option D :=
 match op with
 | .Eq => match shp 9 a, shp 9 b with
  | true, true => some (.bl (eq2 a b))
  | _, _ => empT false a b
 | .NotEq => match shp 9 a, shp 9 b with
  | true, true => some (.bl (!eq2 a b))
  | _, _ => empT true a b
 | .In => (in2 a b).map .bl
 | .NotIn => (in2 a b).map fun k => .bl (!k)
 | op => cmp op a b
theorem cmp2_eq (op : CmpOp) (a b : D) : cmp op a b = cmp2 op a b := by
 cases op <;> simp only [cmp, cmp2, in2_eq, eq2_eq] <;> (cases shp 9 a <;> cases shp 9 b <;> rfl)
def cmpK (M : Mem) (op : CmpOp) (x y : D) : Option D := match isRw x, isDc (dr M y) with
 | true, true => none
 | _, _ => cmp2 op (dr M x) (dr M y)
theorem cmpK_eq (M : Mem) (op : CmpOp) (x y : D) : cmpM M op x y = cmpK M op x y := by
 unfold cmpM cmpK
 rw [cmp2_eq, dr_eq]
 cases isRw x <;> cases isDc (dr M y) <;> rfl
section
variable (T : Tab) (cf mf : Calls)
@[irreducible] def kLit (d : D) : KE := fun _ M => .ok d M
@[irreducible] def kVar (i : Nat) : KE := fun σ M => match slot σ i with
 | some d => .ok d M
 | none => .bad
@[irreducible] def kGlb (o : Option D) : KE := fun _ M => .of o M
@[irreducible] def kTup (es : KA) : KE := fun σ M => (es σ M).bind fun ds M1 => .ok (.tup ds) M1
@[irreducible] def kTupR (es : KA) : KE := fun σ M => (es σ M).bind fun ds M1 => .ok (.row ds) M1
@[irreducible] def kCat (es : KA) : KE := fun σ M => (es σ M).bind fun ds M1 => if ds.length ≤ big then .ok (.tup ds) M1 else .bad
@[irreducible] def kTupO (r : Bool) (e : KE) : KE := fun σ M => (e σ M).bind fun x M1 => .of (tupD r x (dr M1 x)) M1
@[irreducible] def kBin (op : Operator) (a b : KE) : KE := fun σ M => (a σ M).bind fun x M1 => (b σ M1).bind fun y M2 => .of (binR op x y (dr M2 x) (dr M2 y)) M2
@[irreducible] def kNeg (a : KE) : KE := fun σ M => (a σ M).bind fun x M1 => match x with
 | .int i => .ok (.int (-i)) M1
 | _ => .bad
@[irreducible] def kCmp (op : CmpOp) (a b : KE) : KE := fun σ M => (a σ M).bind fun x M1 => (b σ M1).bind fun y M2 => .of (cmpK M2 op x y) M2
@[irreducible] def kChn (o1 o2 : CmpOp) (a b c : KE) : KE := fun σ M => (a σ M).bind fun x M1 => (b σ M1).bind fun y M2 => match cmpK M2 o1 x y with
 | some (.bl true) => (c σ M2).bind fun z M3 => .of (cmpK M3 o2 y z) M3
 | some (.bl false) => .ok (.bl false) M2
 | _ => .bad
@[irreducible] def kAnd (a b : KE) : KE := fun σ M => (a σ M).bind fun x M1 => match tru (dr M1 x) with
 | some true => b σ M1
 | some false => .ok x M1
 | none => .bad
@[irreducible] def kOr (a b : KE) : KE := fun σ M => (a σ M).bind fun x M1 => match tru (dr M1 x) with
 | some true => .ok x M1
 | some false => b σ M1
 | none => .bad
@[irreducible] def kNot (a : KE) : KE := fun σ M => (a σ M).bind fun x M1 => .of ((tru (dr M1 x)).map fun k => .bl (!k)) M1
@[irreducible] def kIfe (c : KT) (a b : KE) : KE := fun σ M => (c σ M).bind fun k M1 => match k with
 | true => a σ M1
 | false => b σ M1
@[irreducible] def kIdx (a b : KE) : KE := fun σ M => (a σ M).bind fun x M1 => (b σ M1).bind fun y M2 => .of (idx (dr M2 x) y) M2
@[irreducible] def kSlc (a : KE) (lo hi : KP) : KE := fun σ M => (a σ M).bind fun x M1 => (lo σ M1).bind fun l M2 => (hi σ M2).bind fun h M3 => .of (slc x (dr M3 x) l h) M3
@[irreducible] def kSlcR (a : KE) (lo hi : KP) : KE := fun σ M => (a σ M).bind fun x M1 => (lo σ M1).bind fun l M2 => (hi σ M2).bind fun h M3 => .of (slcX (dr M3 x) l h) M3
@[irreducible] def kAtt (a : KE) (f : Nat) : KE := fun σ M => (a σ M).bind fun x M1 => .of (att (dr M1 x) f) M1
@[irreducible] def kCal (f : Nat) (es : KA) : KE := fun σ M => (es σ M).bind fun ds M1 => cf f ds M1
@[irreducible] def kMak (c : Nat) (es : KA) : KE := fun σ M => (es σ M).bind fun ds M1 => mf c ds M1
@[irreducible] def kMth (m : Nat) (a : KE) (es : KA) : KE := fun σ M => (a σ M).bind fun x M1 => match dr M1 x with
  | .ins c _ => match (T.cl c).bind fun k => k.mth m with
   | some f => (es σ M1).bind fun ds M2 => cf f (x :: ds) M2
   | none => .bad
  | _ => .bad
@[irreducible] def kDun (m : Nat) (a b : KE) : KE := fun σ M => (a σ M).bind fun x M1 => (b σ M1).bind fun y M2 => match dr M2 x with
  | .ins c _ => match tyD (dr M2 y) with
   | some _ => match (T.cl c).bind fun k => k.mth m with
    | some f => cf f [x, y] M2
    | none => .bad
   | none => .bad
  | _ => .bad
@[irreducible] def kTzip (a b : KE) : KE := fun σ M => (a σ M).bind fun x M1 => (b σ M1).bind fun y M2 => match seqOf M2 x, seqOf M2 y with
 | some u, some w => .ok (.tup (List.zipWith pair u.xs w.xs)) M2
 | _, _ => .bad
@[irreducible] def kExt (a e : KE) : KE := fun σ M => (a σ M).bind fun x M1 => if !isL (dr M1 x) then .bad else (e σ M1).bind fun y M2 => match seqOf M2 y with
 | some w => match store M2 x (extL w.xs) with
  | some M3 => .ok .non M3
  | none => .bad
 | none => .bad
@[irreducible] def kAddR (a b : KE) : KE := fun σ M => (a σ M).bind fun x M1 => (b σ M1).bind fun y M2 => .of (addR x y (dr M2 x) (dr M2 y)) M2
@[irreducible] def kTupK (e : KE) : KE := fun σ M => (e σ M).bind fun x M1 => match dr M1 x with
 | .dct ps => .ok (.tup (ps.map (·.1))) M1
 | _ => .bad
@[irreducible] def kUpd (a e : KE) : KE := fun σ M => (a σ M).bind fun x M1 => if !isDc (dr M1 x) then .bad else (e σ M1).bind fun y M2 => if beqD x y then .bad else match dr M2 y with
 | .dct qs => match store M2 x (updD qs) with
  | some M3 => .ok .non M3
  | none => .bad
 | _ => .bad
@[irreducible] def kRev (a : KE) : KE := fun σ M => (a σ M).bind fun x M1 => match dr M1 x with
  | .tup xs => .ok (.tup xs.reverse) M1
  | _ => .bad
@[irreducible] def kBlt (b : Bi) (es : KA) : KE := fun σ M => (es σ M).bind fun ds M1 => .of (bi b (ds.map (dr M1))) M1
@[irreducible] def kNew (own : Bool) (c : KN) : KE := fun σ M => (c σ M).bind fun d M1 => mk own d M1
@[irreducible] def kApp (a e : KE) : KE := fun σ M => (a σ M).bind fun x M1 => if !isL (dr M1 x) then .bad else (e σ M1).bind fun v M2 => match store M2 x (pushL v) with
  | some M3 => .ok .non M3
  | none => .bad
@[irreducible] def kPopi (a e : KE) : KE := fun σ M => (a σ M).bind fun x M1 => if !isL (dr M1 x) then .bad else (e σ M1).bind fun k M2 => match dr M2 x, k with
  | .lst xs, .int i => match ixP xs.length i with
   | some j => match xs[j]?, store M2 x (delL j) with
    | some v, some M3 => .ok v M3
    | _, _ => .bad
   | none => .bad
  | _, _ => .bad
@[irreducible] def kPopk (a e : KE) : KE := fun σ M => (a σ M).bind fun x M1 => if !isDc (dr M1 x) then .bad else (e σ M1).bind fun k M2 => match dr M2 x with
  | .dct ps => if kok2 ps k then match get2 ps k, store M2 x (delK k) with
    | some v, some M3 => .ok v M3
    | _, _ => .bad
   else .bad
  | _ => .bad
@[irreducible] def kIndex (a e : KE) : KE := fun σ M => (a σ M).bind fun x M1 => if !isL (dr M1 x) then .bad else (e σ M1).bind fun y M2 => match dr M2 x with
  | .lst xs => if shp 9 (.lst xs) && shp 8 y then .of ((findE y xs).map fun k : Nat => D.int k) M2 else .bad
  | _ => .bad
@[irreducible] def kIndexT (a e : KE) : KE := fun σ M => (a σ M).bind fun x M1 => match x with
  | .row xs => (e σ M1).bind fun y M2 => match y with
   | .str z => if xs.all isSt then .of ((findE (.str z) xs).map fun k : Nat => D.int k) M2 else .bad
   | _ => .bad
  | _ => .bad
@[irreducible] def kJoin (a e : KE) : KE := fun σ M => (a σ M).bind fun x M1 => match x with
  | .str z => (e σ M1).bind fun y M2 => .of (joinD z (dr M2 y)) M2
  | _ => .bad
@[irreducible] def kGet (a e : KE) (x : KO) : KE := fun σ M => (a σ M).bind fun d M1 => if !isDc (dr M1 d) then .bad else (e σ M1).bind fun k M2 => (x σ M2).bind fun z M3 => match dr M3 d with
  | .dct ps => if kok2 ps k then .ok ((get2 ps k).getD (z.getD .non)) M3 else .bad
  | _ => .bad
@[irreducible] def tAnd (a b : KT) : KT := fun σ M => (a σ M).bind fun k M1 => match k with
 | true => b σ M1
 | false => .ok false M1
@[irreducible] def tOr (a b : KT) : KT := fun σ M => (a σ M).bind fun k M1 => match k with
 | true => .ok true M1
 | false => b σ M1
@[irreducible] def tNot (a : KT) : KT := fun σ M => (a σ M).bind fun k M1 => .ok (!k) M1
@[irreducible] def tCmp (op : CmpOp) (a b : KE) : KT := fun σ M => (a σ M).bind fun x M1 => (b σ M1).bind fun y M2 => match cmpK M2 op x y with
  | some (.bl k) => .ok k M2
  | _ => .bad
@[irreducible] def tVal (e : KE) : KT := fun σ M => (e σ M).bind fun x M1 => .of (tru (dr M1 x)) M1
@[irreducible] def aNil : KA := fun _ M => .ok [] M
@[irreducible] def aCons (e : KE) (r : KA) : KA := fun σ M => (e σ M).bind fun x M1 => (r σ M1).bind fun xs M2 => .ok (x :: xs) M2
@[irreducible] def aStar (e : KE) (r : KA) : KA := fun σ M => (e σ M).bind fun x M1 => match dr M1 x with
  | .tup ys => (r σ M1).bind fun xs M2 => .ok (ys ++ xs) M2
  | .lst ys => (r σ M1).bind fun xs M2 => .ok (ys ++ xs) M2
  | _ => .bad
@[irreducible] def oNo : KO := fun _ M => .ok none M
@[irreducible] def oEx (e : KE) : KO := fun σ M => (e σ M).bind fun x M1 => .ok (some x) M1
@[irreducible] def pNo : KP := fun _ M => .ok none M
@[irreducible] def pEx (e : KE) : KP := fun σ M => (e σ M).bind fun x M1 => match x with
  | .int i => .ok (some i) M1
  | _ => .bad
@[irreducible] def nLst (es : KA) : KN := fun σ M => (es σ M).bind fun ds M1 => .ok (.lst ds) M1
@[irreducible] def nCat (es : KA) : KN := fun σ M => (es σ M).bind fun ds M1 => if ds.length ≤ big then .ok (.lst ds) M1 else .bad
@[irreducible] def nDct (ds : KD') : KN := fun σ M => (ds σ M).bind fun ps M1 => .of ((putAll ps []).map .dct) M1
@[irreducible] def nLstO (e : KE) : KN := fun σ M => (e σ M).bind fun x M1 => .of ((colD (dr M1 x)).map .lst) M1
@[irreducible] def nRng (e : KE) : KN := fun σ M => (e σ M).bind fun x M1 => match x with
  | .int n => .of ((rngD 0 n).map .lst) M1
  | _ => .bad
@[irreducible] def nSort (e : KE) : KN := fun σ M => (e σ M).bind fun x M1 => .of (((colD (dr M1 x)).bind sortD).map .lst) M1
@[irreducible] def nAdd (a b : KE) : KN := fun σ M => (a σ M).bind fun x M1 => (b σ M1).bind fun y M2 => match dr M2 x, dr M2 y with
  | .lst xs, .lst ys => if xs.length + ys.length ≤ big then .ok (.lst (xs ++ ys)) M2 else .bad
  | _, _ => .bad
@[irreducible] def nRep (a n : KE) : KN := fun σ M => (a σ M).bind fun x M1 => (n σ M1).bind fun y M2 => match dr M2 x, y with
  | .lst xs, .int k => if 0 ≤ k ∧ k ≤ 1000 ∧ xs.length ≤ 1000 then .ok (.lst (List.replicate k.toNat xs).flatten) M2 else .bad
  | _, _ => .bad
@[irreducible] def nItems (a : KE) : KN := fun σ M => (a σ M).bind fun x M1 => match dr M1 x with
  | .dct ps => .of ((sortD (ps.map fun p => pair p.1 p.2)).map .lst) M1
  | _ => .bad
def lcF (vs : List Nat) (t : KG) (c : KT) (e : KE) (σ : Sl) (x : D) (M2 : Mem) : Res (Option D) := (t x (wipe σ vs) M2).bind fun σ2 M3 => (c σ2 M3).bind fun k M4 => match k with
 | true => (e σ2 M4).bind fun y M5 => .ok (some y) M5
 | false => .ok none M4
@[irreducible] def nLcp (vs : List Nat) (t : KG) (it : KI) (c : KT) (e : KE) : KN := fun σ M => (it σ M).bind fun w M1 => (lcL (lcF vs t c e σ) w w.xs (w.lock M1)).mapM w.ulk |>.bind fun ys M2 => .ok (.lst ys) M2
def dcL2 (f : D → Mem → Res (Option (D × D))) (w : Walk) : List D → List (D × D) → Mem → Res (List (D × D))
 | [], ps, M => if w.ok M then .ok ps M else .bad
 | x :: r, ps, M => if w.ok M then (f x M).nox.bind fun o M1 => match o with
  | some (k, v) => match kok2 ps k with
   | true => dcL2 f w r (dput ps k v) M1
   | false => .bad
  | none => dcL2 f w r ps M1
  else .bad
def dcF (vs : List Nat) (t : KG) (c : KT) (k v : KE) (σ : Sl) (x : D) (M2 : Mem) : Res (Option (D × D)) := (t x (wipe σ vs) M2).bind fun σ2 M3 => (c σ2 M3).bind fun b M4 => match b with
 | true => (k σ2 M4).bind fun y M5 => (v σ2 M5).bind fun z M6 => .ok (some (y, z)) M6
 | false => .ok none M4
@[irreducible] def nDcp (vs : List Nat) (t : KG) (it : KI) (c : KT) (k v : KE) : KN := fun σ M => (it σ M).bind fun w M1 => (dcL2 (dcF vs t c k v σ) w w.xs [] (w.lock M1)).mapM w.ulk |>.bind fun ps M2 => .ok (.dct ps) M2
@[irreducible] def dNil : KD' := fun _ M => .ok [] M
@[irreducible] def dCons (k v : KE) (r : KD') : KD' := fun σ M => (k σ M).bind fun x M1 => (v σ M1).bind fun y M2 => (r σ M2).bind fun ps M3 => .ok ((x, y) :: ps) M3
@[irreducible] def iIt (e : KE) : KI := fun σ M => (e σ M).bind fun x M1 => .of (walkOf M1 x) M1
@[irreducible] def iRng1 (e : KE) : KI := fun σ M => (e σ M).bind fun x M1 => match x with
  | .int n => .of ((rngD 0 n).map fun xs => ⟨xs, [], none⟩) M1
  | _ => .bad
@[irreducible] def iRng2 (a b : KE) : KI := fun σ M => (a σ M).bind fun x M1 => (b σ M1).bind fun y M2 => match x, y with
  | .int m, .int n => .of ((rngD m n).map fun xs => ⟨xs, [], none⟩) M2
  | _, _ => .bad
@[irreducible] def iEnm (e : KE) : KI := fun σ M => (e σ M).bind fun x M1 => .of ((seqOf M1 x).map fun w => ⟨enumFrom 0 w.xs, w.st, none⟩) M1
@[irreducible] def iZip (a b : KE) : KI := fun σ M => (a σ M).bind fun x M1 => (b σ M1).bind fun y M2 => match seqOf M2 x, seqOf M2 y with
  | some u, some w => .ok ⟨List.zipWith pair u.xs w.xs, u.st ++ w.st, none⟩ M2
  | _, _ => .bad
@[irreducible] def iItm (e : KE) : KI := fun σ M => (e σ M).bind fun x M1 => .of (itemsOf M1 x) M1
@[irreducible] def gNm (i : Nat) : KG := fun d σ M => .ok (σ.set i (some d)) M
@[irreducible] def gTp (n : Nat) (ts : KGs) : KG := fun d σ M => match dr M d with
  | .tup xs => match Nat.beq xs.length n with
   | true => ts xs σ M
   | false => .bad
  | _ => .bad
@[irreducible] def gAt (o : KE) (f : Nat) : KG := fun d σ M => (o σ M).bind fun x M1 => match store M1 x (setA T f d) with
  | some M2 => .ok σ M2
  | none => .bad
@[irreducible] def gSb (o i : KE) : KG := fun d σ M => (o σ M).bind fun x M1 => (i σ M1).bind fun y M2 => match store M2 x (setI y d) with
  | some M3 => .ok σ M3
  | none => .bad
@[irreducible] def gNil : KGs
 | [], σ, M => .ok σ M
 | _ :: _, _, _ => .bad
@[irreducible] def gCons (t : KG) (r : KGs) : KGs
 | x :: xs, σ, M => (t x σ M).bind fun σ1 M1 => r xs σ1 M1
 | [], _, _ => .bad
@[irreducible] def sAsg (t : KG) (e : KE) : KS := fun σ M => (e σ M).out σ fun d M1 => (t d σ M1).nox.out σ fun σ2 M2 => .nx σ2 M2
@[irreducible] def sDrop (e : KE) : KS := fun σ M => (e σ M).out σ fun _ M1 => .nx σ M1
@[irreducible] def sRet (e : KE) : KS := fun σ M => (e σ M).out σ fun d M1 => .rt d M1
@[irreducible] def sRetn : KS := fun _ M => .rt .non M
@[irreducible] def sIf (c : KT) (a b : KS) : KS := fun σ M => (c σ M).out σ fun k M1 => match k with
 | true => a σ M1
 | false => b σ M1
def foF (t : KG) (b : KS) (x : D) (σ1 : Sl) (M2 : Mem) : Out := (t x σ1 M2).nox.out σ1 fun σ2 M3 => b σ2 M3
@[irreducible] def sFor (t : KG) (it : KI) (b : KS) : KS := fun σ M => (it σ M).out σ fun w M1 => (forL (foF t b) w w.xs σ (w.lock M1)).mapM w.ulk
@[irreducible] def sWhl (n : Nat) (c : KT) (b : KS) : KS := fun σ M => whlL c b n σ M
@[irreducible] def sPass : KS := fun σ M => .nx σ M
@[irreducible] def sBrk : KS := fun σ M => .bk σ M
@[irreducible] def sCnt : KS := fun σ M => .ct σ M
@[irreducible] def sTry (b : KS) : KS := fun σ M => match b σ M with
  | .exc _ _ _ _ => .bad
  | o => o
@[irreducible] def sDead : KS := fun _ _ => .bad
@[irreducible] def bNil : KS := fun σ M => .nx σ M
@[irreducible] def bCons (s r : KS) : KS := fun σ M => match s σ M with
  | .nx σ2 M2 => r σ2 M2
  | .rt d M2 => .rt d M2
  | .bk σ2 M2 => .bk σ2 M2
  | .ct σ2 M2 => .ct σ2 M2
  | .exc c fs σ2 M2 => .exc c fs σ2 M2
  | .bad => .bad
variable {T cf mf}
theorem dcL2_eq (f : D → Mem → Res (Option (D × D))) (w : Walk) : ∀ (xs : List D) (ps : List (D × D)) (M : Mem), dcL f w xs ps M = dcL2 f w xs ps M
 | [], ps, M => rfl
 | x :: r, ps, M => by
  unfold dcL dcL2
  split
  ·congr 1
   funext o M1
   cases o with
   | none => exact dcL2_eq f w r ps M1
   | some p =>
    obtain ⟨k, v⟩ := p
    simp only [kok2_eq, dcL2_eq f w r]
    cases kok2 ps k <;> rfl
  ·rfl
theorem q_lit (d : D) : ev T cf mf (.lit d) = kLit d := by funext σ M; rw [ev]; unfold kLit; rfl
theorem q_var (i : Nat) : ev T cf mf (.var i) = kVar i := by
 funext σ M; rw [ev, slot_eq]; unfold kVar
 cases slot σ i <;> rfl
theorem q_tup (es) : ev T cf mf (.tup es) = kTup (evs T cf mf es) := by funext σ M; rw [ev]; unfold kTup; rfl
theorem q_tupR (es) : ev T cf mf (.tupR es) = kTupR (evs T cf mf es) := by funext σ M; rw [ev]; unfold kTupR; rfl
theorem q_cat (es) : ev T cf mf (.cat es) = kCat (evs T cf mf es) := by funext σ M; rw [ev]; unfold kCat; rfl
theorem q_tupO (r e) : ev T cf mf (.tupO r e) = kTupO r (ev T cf mf e) := by funext σ M; rw [ev]; unfold kTupO; rw [dr_eq]
theorem q_bin (op a b) : ev T cf mf (.bin op a b) = kBin op (ev T cf mf a) (ev T cf mf b) := by funext σ M; rw [ev]; unfold kBin; rw [dr_eq]
theorem q_neg (a) : ev T cf mf (.neg a) = kNeg (ev T cf mf a) := by funext σ M; rw [ev]; unfold kNeg; rfl
theorem q_cmp (op a b) : ev T cf mf (.cmp op a b) = kCmp op (ev T cf mf a) (ev T cf mf b) := by funext σ M; rw [ev]; unfold kCmp; simp only [cmpK_eq]
theorem q_chn (o1 o2 a b c) : ev T cf mf (.chn o1 o2 a b c) = kChn o1 o2 (ev T cf mf a) (ev T cf mf b) (ev T cf mf c) := by funext σ M; rw [ev]; unfold kChn; simp only [cmpK_eq]; all_goals rfl
theorem q_and (a b) : ev T cf mf (.and a b) = kAnd (ev T cf mf a) (ev T cf mf b) := by funext σ M; rw [ev]; unfold kAnd; rw [dr_eq]; all_goals rfl
theorem q_or (a b) : ev T cf mf (.or a b) = kOr (ev T cf mf a) (ev T cf mf b) := by funext σ M; rw [ev]; unfold kOr; rw [dr_eq]; all_goals rfl
theorem q_not (a) : ev T cf mf (.not a) = kNot (ev T cf mf a) := by funext σ M; rw [ev]; unfold kNot; rw [dr_eq]
theorem q_ife (c a b) : ev T cf mf (.ife c a b) = kIfe (evT T cf mf c) (ev T cf mf a) (ev T cf mf b) := by
 funext σ M; rw [ev]; unfold kIfe
 congr 1; funext k M1; cases k <;> rfl
theorem q_idx (a b) : ev T cf mf (.idx a b) = kIdx (ev T cf mf a) (ev T cf mf b) := by funext σ M; rw [ev]; unfold kIdx; rw [dr_eq]
theorem q_slc (a l h) : ev T cf mf (.slc a l h) = kSlc (ev T cf mf a) (evp T cf mf l) (evp T cf mf h) := by funext σ M; rw [ev]; unfold kSlc; rw [dr_eq]
theorem q_slcR (a l h) : ev T cf mf (.slcR a l h) = kSlcR (ev T cf mf a) (evp T cf mf l) (evp T cf mf h) := by funext σ M; rw [ev]; unfold kSlcR; rw [dr_eq]
theorem q_att (a f) : ev T cf mf (.att a f) = kAtt (ev T cf mf a) f := by funext σ M; rw [ev]; unfold kAtt; rw [dr_eq]
theorem q_cal (f es) : ev T cf mf (.cal f es) = kCal cf f (evs T cf mf es) := by funext σ M; rw [ev]; unfold kCal; rfl
theorem q_mak (f es) : ev T cf mf (.mak f es) = kMak mf f (evs T cf mf es) := by funext σ M; rw [ev]; unfold kMak; rfl
theorem q_mth (m a es) : ev T cf mf (.mth m a es) = kMth T cf m (ev T cf mf a) (evs T cf mf es) := by funext σ M; rw [ev]; unfold kMth; rw [dr_eq]; all_goals rfl
theorem q_dun (m a b) : ev T cf mf (.dun m a b) = kDun T cf m (ev T cf mf a) (ev T cf mf b) := by funext σ M; rw [ev]; unfold kDun; simp only [dr_eq]; all_goals rfl
theorem q_rev (a) : ev T cf mf (.rev a) = kRev (ev T cf mf a) := by funext σ M; rw [ev]; unfold kRev; simp only [dr_eq]; all_goals rfl
theorem q_tzip (a b) : ev T cf mf (.tzip a b) = kTzip (ev T cf mf a) (ev T cf mf b) := by funext σ M; rw [ev]; unfold kTzip; rfl
theorem q_addR (a b) : ev T cf mf (.addR a b) = kAddR (ev T cf mf a) (ev T cf mf b) := by funext σ M; rw [ev]; unfold kAddR; rw [dr_eq]
theorem q_tupK (e) : ev T cf mf (.tupK e) = kTupK (ev T cf mf e) := by funext σ M; rw [ev]; unfold kTupK; rw [dr_eq]; all_goals rfl
theorem q_upd (a e) : ev T cf mf (.upd a e) = kUpd (ev T cf mf a) (ev T cf mf e) := by funext σ M; rw [ev]; unfold kUpd; rw [dr_eq]; all_goals rfl
theorem q_ext (a e) : ev T cf mf (.ext a e) = kExt (ev T cf mf a) (ev T cf mf e) := by funext σ M; rw [ev]; unfold kExt; rw [dr_eq]; all_goals rfl
theorem q_blt (b es) : ev T cf mf (.blt b es) = kBlt b (evs T cf mf es) := by funext σ M; rw [ev]; unfold kBlt; rw [dr_eq]
theorem q_new (o c) : ev T cf mf (.new o c) = kNew o (evN T cf mf c) := by funext σ M; rw [ev]; unfold kNew; rfl
theorem q_app (a e) : ev T cf mf (.app a e) = kApp (ev T cf mf a) (ev T cf mf e) := by funext σ M; rw [ev]; unfold kApp; rw [dr_eq]; all_goals rfl
theorem q_popi (a e) : ev T cf mf (.popi a e) = kPopi (ev T cf mf a) (ev T cf mf e) := by funext σ M; rw [ev]; unfold kPopi; rw [dr_eq]; all_goals rfl
theorem q_popk (a e) : ev T cf mf (.popk a e) = kPopk (ev T cf mf a) (ev T cf mf e) := by funext σ M; rw [ev]; unfold kPopk; simp only [dr_eq, kok2_eq, get2_eq]; all_goals rfl
theorem q_index (a e) : ev T cf mf (.index a e) = kIndex (ev T cf mf a) (ev T cf mf e) := by funext σ M; rw [ev]; unfold kIndex; rw [dr_eq]; all_goals rfl
theorem q_indexT (a e) : ev T cf mf (.indexT a e) = kIndexT (ev T cf mf a) (ev T cf mf e) := by funext σ M; rw [ev]; unfold kIndexT; rfl
theorem q_join (a e) : ev T cf mf (.join a e) = kJoin (ev T cf mf a) (ev T cf mf e) := by funext σ M; rw [ev]; unfold kJoin; rw [dr_eq]; all_goals rfl
theorem q_get (a e x) : ev T cf mf (.get a e x) = kGet (ev T cf mf a) (ev T cf mf e) (evo T cf mf x) := by funext σ M; rw [ev]; unfold kGet; simp only [dr_eq, kok2_eq, get2_eq]; all_goals rfl
theorem q_tand (a b) : evT T cf mf (.and a b) = tAnd (evT T cf mf a) (evT T cf mf b) := by
 funext σ M; rw [evT]; unfold tAnd
 congr 1; funext k M1; cases k <;> rfl
theorem q_tor (a b) : evT T cf mf (.or a b) = tOr (evT T cf mf a) (evT T cf mf b) := by
 funext σ M; rw [evT]; unfold tOr
 congr 1; funext k M1; cases k <;> rfl
theorem q_tnot (a) : evT T cf mf (.not a) = tNot (evT T cf mf a) := by funext σ M; rw [evT]; unfold tNot; rfl
theorem q_tcmp (op a b) : evT T cf mf (.cmp op a b) = tCmp op (ev T cf mf a) (ev T cf mf b) := by funext σ M; rw [evT]; unfold tCmp; simp only [cmpK_eq]; all_goals rfl
theorem q_tv (e) : evT T cf mf (.v e) = tVal (ev T cf mf e) := by funext σ M; rw [evT]; unfold tVal; rw [dr_eq]
theorem q_anil : evs T cf mf .nil = aNil := by funext σ M; rw [evs]; unfold aNil; rfl
theorem q_acons (e r) : evs T cf mf (.cons e r) = aCons (ev T cf mf e) (evs T cf mf r) := by funext σ M; rw [evs]; unfold aCons; rfl
theorem q_astar (e r) : evs T cf mf (.star e r) = aStar (ev T cf mf e) (evs T cf mf r) := by funext σ M; rw [evs]; unfold aStar; rw [dr_eq]; all_goals rfl
theorem q_ono : evo T cf mf .no = oNo := by funext σ M; rw [evo]; unfold oNo; rfl
theorem q_oex (e) : evo T cf mf (.ex e) = oEx (ev T cf mf e) := by funext σ M; rw [evo]; unfold oEx; rfl
theorem q_pno : evp T cf mf .no = pNo := by funext σ M; rw [evp]; unfold pNo; rfl
theorem q_pex (e) : evp T cf mf (.ex e) = pEx (ev T cf mf e) := by funext σ M; rw [evp]; unfold pEx; rfl
theorem q_nlst (es) : evN T cf mf (.lst es) = nLst (evs T cf mf es) := by funext σ M; rw [evN]; unfold nLst; rfl
theorem q_ncat (es) : evN T cf mf (.cat es) = nCat (evs T cf mf es) := by funext σ M; rw [evN]; unfold nCat; rfl
theorem q_ndct (ds) : evN T cf mf (.dct ds) = nDct (evd T cf mf ds) := by funext σ M; rw [evN]; unfold nDct; rfl
theorem q_nlstO (e) : evN T cf mf (.lstO e) = nLstO (ev T cf mf e) := by funext σ M; rw [evN]; unfold nLstO; rw [dr_eq]
theorem q_nrng (e) : evN T cf mf (.rng e) = nRng (ev T cf mf e) := by funext σ M; rw [evN]; unfold nRng; rfl
theorem q_nsort (e) : evN T cf mf (.sort e) = nSort (ev T cf mf e) := by funext σ M; rw [evN]; unfold nSort; rw [dr_eq]
theorem q_nadd (a b) : evN T cf mf (.add a b) = nAdd (ev T cf mf a) (ev T cf mf b) := by funext σ M; rw [evN]; unfold nAdd; rw [dr_eq]; all_goals rfl
theorem q_nrep (a b) : evN T cf mf (.rep a b) = nRep (ev T cf mf a) (ev T cf mf b) := by funext σ M; rw [evN]; unfold nRep; rw [dr_eq]; all_goals rfl
theorem q_nitems (a) : evN T cf mf (.items a) = nItems (ev T cf mf a) := by funext σ M; rw [evN]; unfold nItems; rw [dr_eq]; all_goals rfl
theorem q_nlcp (vs t it c e) : evN T cf mf (.lcp vs t it c e) = nLcp vs (asgT T cf mf t) (evI T cf mf it) (evT T cf mf c) (ev T cf mf e) := by
 funext σ M; rw [evN]; unfold nLcp
 congr 1; funext w M1; congr 1; congr 1; congr 1; funext x M2; congr 1; funext σ2 M3; congr 1; funext k M4; cases k <;> rfl
theorem q_ndcp (vs t it c k v) : evN T cf mf (.dcp vs t it c k v) = nDcp vs (asgT T cf mf t) (evI T cf mf it) (evT T cf mf c) (ev T cf mf k) (ev T cf mf v) := by
 funext σ M; rw [evN]; unfold nDcp
 congr 1; funext w M1; simp only [dcL2_eq]; congr 1; congr 1; congr 1; funext x M2; congr 1; funext σ2 M3; congr 1; funext k M4; cases k <;> rfl
theorem q_dnil : evd T cf mf .nil = dNil := by funext σ M; rw [evd]; unfold dNil; rfl
theorem q_dcons (k v r) : evd T cf mf (.cons k v r) = dCons (ev T cf mf k) (ev T cf mf v) (evd T cf mf r) := by funext σ M; rw [evd]; unfold dCons; rfl
theorem q_iit (e) : evI T cf mf (.it e) = iIt (ev T cf mf e) := by funext σ M; rw [evI]; unfold iIt; rfl
theorem q_irng1 (e) : evI T cf mf (.rng1 e) = iRng1 (ev T cf mf e) := by funext σ M; rw [evI]; unfold iRng1; rfl
theorem q_irng2 (a b) : evI T cf mf (.rng2 a b) = iRng2 (ev T cf mf a) (ev T cf mf b) := by funext σ M; rw [evI]; unfold iRng2; rfl
theorem q_ienm (e) : evI T cf mf (.enm e) = iEnm (ev T cf mf e) := by funext σ M; rw [evI]; unfold iEnm; rfl
theorem q_izip (a b) : evI T cf mf (.zip a b) = iZip (ev T cf mf a) (ev T cf mf b) := by funext σ M; rw [evI]; unfold iZip; rfl
theorem q_iitm (e) : evI T cf mf (.itm e) = iItm (ev T cf mf e) := by funext σ M; rw [evI]; unfold iItm; rfl
theorem q_gnm (i) : asgT T cf mf (.nm i) = gNm i := by funext d σ M; rw [asgT]; unfold gNm; rfl
theorem q_gtp (ts) : asgT T cf mf (.tp ts) = gTp (lenT ts) (asgTs T cf mf ts) := by
 funext d σ M; rw [asgT]; unfold gTp; rw [dr_eq]
 cases dr M d with
 | tup xs =>
  simp only []
  cases h : Nat.beq xs.length (lenT ts) with
  | true => simp [Nat.eq_of_beq_eq_true h]
  | false => simp [Nat.ne_of_beq_eq_false h]
 | _ => rfl
theorem q_gat (o f) : asgT T cf mf (.at o f) = gAt T (ev T cf mf o) f := by funext d σ M; rw [asgT]; unfold gAt; rfl
theorem q_gsb (o i) : asgT T cf mf (.sb o i) = gSb (ev T cf mf o) (ev T cf mf i) := by funext d σ M; rw [asgT]; unfold gSb; rfl
theorem q_gnil : asgTs T cf mf .nil = gNil := by funext d σ M; cases d <;> simp [asgTs, gNil]
theorem q_gcons (t r) : asgTs T cf mf (.cons t r) = gCons (asgT T cf mf t) (asgTs T cf mf r) := by funext d σ M; cases d <;> simp [asgTs, gCons]
variable {n : Nat}
theorem q_asg (t e) : exS T cf mf n (.asg t e) = sAsg (asgT T cf mf t) (ev T cf mf e) := by funext σ M; rw [exS]; unfold sAsg; rfl
theorem q_drop (e) : exS T cf mf n (.drop e) = sDrop (ev T cf mf e) := by funext σ M; rw [exS]; unfold sDrop; rfl
theorem q_ret (e) : exS T cf mf n (.ret e) = sRet (ev T cf mf e) := by funext σ M; rw [exS]; unfold sRet; rfl
theorem q_retn : exS T cf mf n .retn = sRetn := by funext σ M; rw [exS]; unfold sRetn; rfl
theorem q_ifs (c a b) : exS T cf mf n (.ifs c a b) = sIf (evT T cf mf c) (exB T cf mf n a) (exB T cf mf n b) := by
 funext σ M; rw [exS]; unfold sIf
 congr 1; funext k M1; cases k <;> rfl
theorem q_for (t it b) : exS T cf mf n (.for t it b) = sFor (asgT T cf mf t) (evI T cf mf it) (exB T cf mf n b) := by funext σ M; rw [exS]; unfold sFor; rfl
theorem q_whl (c b) : exS T cf mf n (.whl c b) = sWhl n (evT T cf mf c) (exB T cf mf n b) := by funext σ M; rw [exS]; unfold sWhl; rfl
theorem q_pass : exS T cf mf n .pass = sPass := by funext σ M; rw [exS]; unfold sPass; rfl
theorem q_brk : exS T cf mf n .brk = sBrk := by funext σ M; rw [exS]; unfold sBrk; rfl
theorem q_cnt : exS T cf mf n .cnt = sCnt := by funext σ M; rw [exS]; unfold sCnt; rfl
theorem q_dead : exS T cf mf n .dead = sDead := by funext σ M; rw [exS]; unfold sDead; rfl
theorem q_tryS (b) : exS T cf mf n (.tryS b) = sTry (exB T cf mf n b) := by funext σ M; rw [exS]; unfold sTry; rfl
theorem q_bnil : exB T cf mf n .nil = bNil := by funext σ M; rw [exB]; unfold bNil; rfl
theorem q_bcons (s r) : exB T cf mf n (.cons s r) = bCons (exS T cf mf n s) (exB T cf mf n r) := by funext σ M; rw [exB]; unfold bCons; rfl
end
structure FnS where
 np : Nat
 ns : Nat
 esc : Bool
 b : Calls → Calls → Nat → KS
structure Shal (T : Tab) (TS : Nat → Option FnS) : Prop where
 no : ∀ f, T.fn f = none → TS f = none
 ok : ∀ f F, T.fn f = some F → ∃ s, TS f = some s ∧ s.np = F.np ∧ s.ns = F.ns ∧ s.esc = F.esc ∧ ∀ cf mf n, exB T cf mf n F.body = s.b cf mf n
def bodyS (W : Nat) (cf mf : Calls) (F : FnS) (esc : Bool) (n : Nat) (as : List D) (r : Option D) (M0 M : Mem) : Res D :=
 match Nat.beq as.length F.np with
 | true => match F.b cf mf W (as.map some ++ List.replicate (F.ns - F.np) none) M with
  | .nx _ M' => fin esc n M0 M' (r.getD .non)
  | .rt d M' => match r with
   | none => fin esc n M0 M' d
   | some x => match d with
    | .non => fin esc n M0 M' x
    | _ => .bad
  | .exc c fs _ M' => finX n M0 M' c fs
  | _ => .bad
 | false => .bad
def runS (T : Tab) (TS : Nat → Option FnS) (W : Nat) : Nat → Bool → Nat → List D → Mem → Res D
 | 0, _, _, _, _ => .bad
 | k + 1, false, f, as, M => match TS f with
  | some F => bodyS W (runS T TS W k false) (runS T TS W k true) F F.esc M.length as none M M
  | none => .bad
 | k + 1, true, c, as, M => match T.cl c with
  | some C => match TS C.init with
   | some F => match k with
    | 0 => .bad
    | j + 1 => match C.frz with
     | true => bodyS W (runS T TS W j false) (runS T TS W j true) F false M.length (.ref M.length :: as) (some (.ref M.length)) M (M ++ [.ins c []])
     | false => .bad
   | none => .bad
  | none => .bad
theorem bodyS_eq {T : Tab} {W : Nat} {cf mf : Calls} {F : Fn} {s : FnS} (h1 : s.np = F.np) (h2 : s.ns = F.ns) (h : ∀ cf mf n, exB T cf mf n F.body = s.b cf mf n) (esc : Bool) (n : Nat) (as : List D) (r : Option D) (M0 M : Mem) :
  bodyR T W cf mf F esc n as r M0 M = bodyS W cf mf s esc n as r M0 M := by
 unfold bodyR bodyS
 rw [h, h1, h2]
 cases e : Nat.beq as.length F.np with
 | true => simp [Nat.eq_of_beq_eq_true e]; all_goals rfl
 | false => simp [Nat.ne_of_beq_eq_false e]
theorem runS_eq {T : Tab} {TS : Nat → Option FnS} (S : Shal T TS) (W : Nat) : ∀ k, run T W k = runS T TS W k := by
 intro k
 induction k using Nat.strongRecOn with
 | ind k ih =>
  funext b f as M
  match k, b with
  | 0, b => rw [run, runS]
  | k + 1, false =>
   rw [run, runS]
   cases e : T.fn f with
   | none => rw [S.no f e]
   | some F =>
    obtain ⟨s, e2, h1, h2, h3, h4⟩ := S.ok f F e
    rw [e2]
    show bodyR T W (run T W k false) (run T W k true) F F.esc M.length as none M M = bodyS W (runS T TS W k false) (runS T TS W k true) s s.esc M.length as none M M
    rw [bodyS_eq h1 h2 h4, ih k (Nat.lt_succ_self k), h3]
  | 1, true =>
   rw [run, runS]
   cases T.cl f with
   | none => rfl
   | some C =>
    show (match T.fn C.init with | some F => .bad | none => .bad : Res D) = (match TS C.init with | some F => .bad | none => .bad : Res D)
    cases T.fn C.init <;> cases TS C.init <;> rfl
  | j + 2, true =>
   rw [run, runS]
   cases T.cl f with
   | none => rfl
   | some C =>
    simp only []
    cases e : T.fn C.init with
    | none => rw [S.no _ e]
    | some F =>
     obtain ⟨s, e2, h1, h2, h3, h4⟩ := S.ok _ F e
     rw [e2]
     simp only []
     cases C.frz with
     | false => rfl
     | true =>
      simp only [if_true]
      rw [bodyS_eq h1 h2 h4, ih j oM]
end Mn.Sh
end
section
namespace Mn.Sh
open PySem Mn
mutual
theorem sub_id {n : Nat} {g : Nat → D} (hg : ∀ i, i < n → g i = .ref i) : ∀ d : D, bel n d = true → sub g d = d
 | .non, _ => rfl
 | .bl _, _ => rfl
 | .int _, _ => rfl
 | .str _, _ => rfl
 | .ty _, _ => rfl
 | .tup xs, h => by rw [sub, subs_id hg xs (by simpa [bel] using h)]
 | .row xs, h => by rw [sub, subs_id hg xs (by simpa [bel] using h)]
 | .lst xs, h => by rw [sub, subs_id hg xs (by simpa [bel] using h)]
 | .dct ps, h => by rw [sub, subp_id hg ps (by simpa [bel] using h)]
 | .ins c fs, h => by rw [sub, subf_id hg fs (by simpa [bel] using h)]
 | .cls _, _ => rfl
 | .ref i, h => by rw [sub]; exact hg i (by simpa [bel] using h)
 | .scr _, _ => rfl
 | .lck _, _ => rfl
theorem subs_id {n : Nat} {g : Nat → D} (hg : ∀ i, i < n → g i = .ref i) : ∀ ds : List D, bels n ds = true → subs g ds = ds
 | [], _ => rfl
 | x :: r, h => by
  have h' : bel n x = true ∧ bels n r = true := by simpa [bels] using h
  rw [subs, sub_id hg x h'.1, subs_id hg r h'.2]
theorem subp_id {n : Nat} {g : Nat → D} (hg : ∀ i, i < n → g i = .ref i) : ∀ ds : List (D × D), belp n ds = true → subp g ds = ds
 | [], _ => rfl
 | (x, y) :: r, h => by
  have h' : (bel n x = true ∧ bel n y = true) ∧ belp n r = true := by simpa [belp] using h
  rw [subp, sub_id hg x h'.1.1, sub_id hg y h'.1.2, subp_id hg r h'.2]
theorem subf_id {n : Nat} {g : Nat → D} (hg : ∀ i, i < n → g i = .ref i) : ∀ ds : List (Nat × D), belf n ds = true → subf g ds = ds
 | [], _ => rfl
 | (x, y) :: r, h => by
  have h' : bel n y = true ∧ belf n r = true := by simpa [belf] using h
  rw [subf, sub_id hg y h'.1, subf_id hg r h'.2]
end
theorem okM_app (M X : Mem) : okM M.length M (M ++ X) := ⟨by simp, fun i hi => .inl (by rw [List.getElem?_append_left hi])⟩
theorem look_low {n : Nat} {x : Option Nat} {M : Mem} : ∀ (k i : Nat), i < n → look n x M k i = .ref i
 | 0, i, _ => rfl
 | k + 1, i, h => by rw [look, if_pos (.inl h)]
theorem frz_id {n : Nat} {x : Option Nat} {M : Mem} {d : D} (h : bel n d = true) : frz n x M d = d := sub_id (fun i hi => look_low 6 i hi) d h
theorem fin_id {M X : Mem} {d : D} (h : bel M.length d = true) : fin false M.length M (M ++ X) d = .ok d M := by
 unfold fin
 rw [if_pos (okM_app M X), frz_id h]
 simp [h]
theorem fin_id0 {M : Mem} {d : D} (h : bel M.length d = true) : fin false M.length M M d = .ok d M := by
 have := fin_id (X := []) h
 rwa [List.append_nil] at this
theorem fin_new {M X : Mem} {j : Nat} {c : D} (h : X[j]? = some c) (hl : ∀ ps, c ≠ .lck ps) (hb : bel M.length c = true) : fin false M.length M (M ++ X) (.ref (M.length + j)) = .ok c M := by
 have e : frz M.length none (M ++ X) (.ref (M.length + j)) = c := by
  show look M.length none (M ++ X) 6 (M.length + j) = c
  rw [look, if_neg (by simp), List.getElem?_append_right oM, Nat.add_sub_cancel_left, h]
  cases c with
  | lck ps => exact absurd rfl (hl ps)
  | _ => exact sub_id (fun i hi => look_low 5 i hi) _ hb
 unfold fin
 rw [if_pos (okM_app M X), e]
 simp [hb]
theorem call_of {T : Tab} {TS : Nat → Option FnS} (S : Shal T TS) {f : Nat} {s : FnS} (h : TS f = some s) (n k : Nat) (as : List D) (M : Mem) : run T n (k + 1) false f as M = bodyS n (run T n k false) (run T n k true) s s.esc M.length as none M M := by
 rw [runS_eq S]
 show (match TS f with | some F => bodyS n (runS T TS n k false) (runS T TS n k true) F F.esc M.length as none M M | none => .bad) = _
 rw [h, ← runS_eq S]
theorem make_of {T : Tab} {TS : Nat → Option FnS} (S : Shal T TS) {c : Nat} {C : Cl} {s : FnS} (hc : T.cl c = some C) (hz : C.frz = true) (h : TS C.init = some s) (n k : Nat) (as : List D) (M : Mem) :
  run T n (k + 2) true c as M = bodyS n (run T n k false) (run T n k true) s false M.length (.ref M.length :: as) (some (.ref M.length)) M (M ++ [.ins c []]) := by
 rw [runS_eq S, runS]
 simp only [hc, h, hz, ← runS_eq S]
theorem body_rt {W : Nat} {cf mf : Calls} {F : FnS} {esc : Bool} {n : Nat} {as : List D} {M0 M M' : Mem} {d : D} (hl : as.length = F.np) (h : F.b cf mf W (as.map some ++ List.replicate (F.ns - F.np) none) M = .rt d M') : bodyS W cf mf F esc n as none M0 M = fin esc n M0 M' d := by
 unfold bodyS
 rw [h, hl, show Nat.beq F.np F.np = true from Nat.beq_refl _]
theorem body_nx {W : Nat} {cf mf : Calls} {F : FnS} {esc : Bool} {n : Nat} {as : List D} {M0 M M' : Mem} {σ : Sl} {r : Option D} (hl : as.length = F.np) (h : F.b cf mf W (as.map some ++ List.replicate (F.ns - F.np) none) M = .nx σ M') : bodyS W cf mf F esc n as r M0 M = fin esc n M0 M' (r.getD .non) := by
 unfold bodyS
 rw [h, hl, show Nat.beq F.np F.np = true from Nat.beq_refl _]
end Mn.Sh
end
section
namespace Mn.Sh
open PySem Mn
section
variable {T : Tab} {cf mf : Calls} {n : Nat} {σ σ2 : Sl} {M M1 M2 M3 : Mem} {x y z d : D} {a b c e : KE} {es r : KA} {ds xs : List D} {k kb : Bool} {i f : Nat} {o : Out} {R : Res D}
theorem ug_nm : gNm i d σ M = .ok (σ.set i (some d)) M := by unfold gNm; rfl
theorem r_lit : kLit d σ M = .ok d M := by unfold kLit; rfl
theorem r_var (h : slot σ i = some d) : kVar i σ M = .ok d M := by unfold kVar; rw [h]
theorem r_tup (h : es σ M = .ok ds M1) : kTup es σ M = .ok (.tup ds) M1 := by unfold kTup; rw [h]; rfl
theorem r_tupR (h : es σ M = .ok ds M1) : kTupR es σ M = .ok (.row ds) M1 := by unfold kTupR; rw [h]; rfl
theorem r_tupO {q : Bool} (h : e σ M = .ok x M1) (h2 : tupD q x (dr M1 x) = some d) : kTupO q e σ M = .ok d M1 := by unfold kTupO; rw [h]; show Res.of (tupD q x (dr M1 x)) M1 = _; rw [h2]; rfl
theorem r_ext {X : Mem} {j : Nat} {ys : List D} {w : Walk} (ha : a σ (M ++ X) = .ok (.ref (M.length + j)) (M ++ X)) (hx : X[j]? = some (.lst ys)) (hd : dr (M ++ X) (.ref (M.length + j)) = .lst ys) (he : e σ (M ++ X) = .ok y (M ++ X)) (hs : seqOf (M ++ X) y = some w) (hst : store (M ++ X) (.ref (M.length + j)) (extL w.xs) = some M3) : kExt a e σ (M ++ X) = .ok .non M3 := by
 unfold kExt
 rw [ha]
 show (if !isL (dr (M ++ X) (.ref (M.length + j))) then .bad else (e σ (M ++ X)).bind _) = _
 rw [hd]
 show ((e σ (M ++ X)).bind _) = _
 rw [he]
 show (match seqOf (M ++ X) y with
 | some w => match store (M ++ X) (.ref (M.length + j)) (extL w.xs) with
  | some M3 => .ok .non M3
  | none => .bad
 | none => .bad : Res D) = _
 rw [hs]
 show (match store (M ++ X) (.ref (M.length + j)) (extL w.xs) with
  | some M3 => .ok .non M3
  | none => .bad : Res D) = _
 rw [hst]
theorem r_bin {op : Operator} (ha : a σ M = .ok x M1) (hb : b σ M1 = .ok y M2) (h : binR op x y (dr M2 x) (dr M2 y) = some d) : kBin op a b σ M = .ok d M2 := by
 unfold kBin; rw [ha]; show (b σ M1).bind _ = _; rw [hb]; show Res.of (binR op x y (dr M2 x) (dr M2 y)) M2 = _; rw [h]; rfl
theorem r_cmp {op : CmpOp} (ha : a σ M = .ok x M1) (hb : b σ M1 = .ok y M2) (h : cmpK M2 op x y = some d) : kCmp op a b σ M = .ok d M2 := by
 unfold kCmp; rw [ha]; show (b σ M1).bind _ = _; rw [hb]; show Res.of (cmpK M2 op x y) M2 = _; rw [h]; rfl
theorem r_chn {o1 o2 : CmpOp} (ha : a σ M = .ok x M1) (hb : b σ M1 = .ok y M2) (h : cmpK M2 o1 x y = some (.bl k)) (hc : k = true → c σ M2 = .ok z M2) (h2 : k = true → cmpK M2 o2 y z = some (.bl kb)) : kChn o1 o2 a b c σ M = .ok (.bl (k && kb)) M2 := by
 unfold kChn; rw [ha]; show (b σ M1).bind _ = _; rw [hb]
 show (match cmpK M2 o1 x y with
  | some (.bl true) => (c σ M2).bind fun z M3 => .of (cmpK M3 o2 y z) M3
  | some (.bl false) => .ok (.bl false) M2
  | _ => .bad) = _
 rw [h]
 cases k with
 | false => rfl
 | true =>
  show (c σ M2).bind (fun z M3 => .of (cmpK M3 o2 y z) M3) = _
  rw [hc rfl]
  show Res.of (cmpK M2 o2 y z) M2 = _
  rw [h2 rfl]; rfl
theorem r_not (ha : a σ M = .ok x M1) (h : tru (dr M1 x) = some k) : kNot a σ M = .ok (.bl (!k)) M1 := by unfold kNot; rw [ha]; show Res.of ((tru (dr M1 x)).map _) M1 = _; rw [h]; rfl
theorem r_and (ha : a σ M = .ok (.bl k) M) (hb : k = true → b σ M = .ok (.bl kb) M) : kAnd a b σ M = .ok (.bl (k && kb)) M := by
 unfold kAnd; rw [ha]
 cases k with
 | false => rfl
 | true => exact hb rfl
theorem r_ife {c : KT} (hc : c σ M = .ok k M1) (ha : k = true → a σ M1 = R) (hb : k = false → b σ M1 = R) : kIfe c a b σ M = R := by
 unfold kIfe; rw [hc]
 cases k with
 | true => exact ha rfl
 | false => exact hb rfl
theorem r_idx (ha : a σ M = .ok x M1) (hb : b σ M1 = .ok y M2) (h : idx (dr M2 x) y = some d) : kIdx a b σ M = .ok d M2 := by
 unfold kIdx; rw [ha]; show (b σ M1).bind _ = _; rw [hb]; show Res.of (idx (dr M2 x) y) M2 = _; rw [h]; rfl
theorem r_slc {lo hi : KP} {l h' : Option Int} (ha : a σ M = .ok x M1) (hl : lo σ M1 = .ok l M2) (hh : hi σ M2 = .ok h' M3) (h : slc x (dr M3 x) l h' = some d) : kSlc a lo hi σ M = .ok d M3 := by
 unfold kSlc; rw [ha]; show (lo σ M1).bind _ = _; rw [hl]; show (hi σ M2).bind _ = _; rw [hh]; show Res.of (slc x (dr M3 x) l h') M3 = _; rw [h]; rfl
theorem r_slcR {lo hi : KP} {l h' : Option Int} (ha : a σ M = .ok x M1) (hl : lo σ M1 = .ok l M2) (hh : hi σ M2 = .ok h' M3) (h : slcX (dr M3 x) l h' = some d) : kSlcR a lo hi σ M = .ok d M3 := by
 unfold kSlcR; rw [ha]; show (lo σ M1).bind _ = _; rw [hl]; show (hi σ M2).bind _ = _; rw [hh]; show Res.of (slcX (dr M3 x) l h') M3 = _; rw [h]; rfl
theorem r_pno : pNo σ M = .ok none M := by unfold pNo; rfl
theorem r_pex {j : Int} (h : e σ M = .ok (.int j) M1) : pEx e σ M = .ok (some j) M1 := by unfold pEx; rw [h]; rfl
theorem r_ono : oNo σ M = .ok none M := by unfold oNo; rfl
theorem r_oex (h : e σ M = .ok x M1) : oEx e σ M = .ok (some x) M1 := by unfold oEx; rw [h]; rfl
theorem r_att (ha : a σ M = .ok x M1) (h : att (dr M1 x) f = some d) : kAtt a f σ M = .ok d M1 := by unfold kAtt; rw [ha]; show Res.of (att (dr M1 x) f) M1 = _; rw [h]; rfl
theorem r_cal (ha : es σ M = .ok ds M1) (h : cf f ds M1 = R) : kCal cf f es σ M = R := by unfold kCal; rw [ha]; exact h
theorem r_mak (ha : es σ M = .ok ds M1) (h : mf f ds M1 = R) : kMak mf f es σ M = R := by unfold kMak; rw [ha]; exact h
theorem r_dun {m cc g : Nat} {fs : List (Nat × D)} {y : D} (ha : a σ M = .ok x M1) (hb : b σ M1 = .ok y M2) (hx : dr M2 x = .ins cc fs) (hy : (tyD (dr M2 y)).isSome = true) (hm : ((T.cl cc).bind fun k => k.mth m) = some g) (h : cf g [x, y] M2 = R) : kDun T cf m a b σ M = R := by
 unfold kDun; rw [ha]
 show ((b σ M1).bind fun y M2 => _) = _
 rw [hb]
 show (match dr M2 x with
  | .ins c _ => match tyD (dr M2 y) with
   | some _ => match (T.cl c).bind fun k => k.mth m with
    | some f => cf f [x, y] M2
    | none => .bad
   | none => .bad
  | _ => .bad) = _
 obtain ⟨ty, et⟩ := Option.isSome_iff_exists.mp hy
 rw [hx, et]
 simp only [hm]
 exact h
theorem r_rev {xs : List D} (ha : a σ M = .ok x M1) (hx : dr M1 x = .tup xs) : kRev a σ M = .ok (.tup xs.reverse) M1 := by
 unfold kRev; rw [ha]
 show (match dr M1 x with
  | .tup xs => Res.ok (D.tup xs.reverse) M1
  | _ => Res.bad) = _
 rw [hx]
theorem r_blt {bb : Bi} (ha : es σ M = .ok ds M1) (h : bi bb (ds.map (dr M1)) = some d) : kBlt bb es σ M = .ok d M1 := by unfold kBlt; rw [ha]; show Res.of (bi bb (ds.map (dr M1))) M1 = _; rw [h]; rfl
theorem r_new {c : KN} (h : c σ M = .ok d M1) : kNew false c σ M = .ok d M1 := by unfold kNew; rw [h]; rfl
theorem r_newO {c : KN} (h : c σ M = .ok d M1) : kNew true c σ M = .ok (.ref M1.length) (M1 ++ [d]) := by unfold kNew; rw [h]; rfl
theorem r_anil : aNil σ M = .ok [] M := by unfold aNil; rfl
theorem r_acons (h : e σ M = .ok x M1) (hr : r σ M1 = .ok xs M2) : aCons e r σ M = .ok (x :: xs) M2 := by unfold aCons; rw [h]; show (r σ M1).bind _ = _; rw [hr]; rfl
theorem ut_val (h : e σ M = .ok x M1) (h2 : tru (dr M1 x) = some k) : tVal e σ M = .ok k M1 := by unfold tVal; rw [h]; show Res.of (tru (dr M1 x)) M1 = _; rw [h2]; rfl
theorem ut_cmp {op : CmpOp} (ha : a σ M = .ok x M1) (hb : b σ M1 = .ok y M2) (h : cmpK M2 op x y = some (.bl k)) : tCmp op a b σ M = .ok k M2 := by
 unfold tCmp; rw [ha]; show (b σ M1).bind _ = _; rw [hb]
 show (match cmpK M2 op x y with | some (.bl k) => .ok k M2 | _ => .bad : Res Bool) = _
 rw [h]
theorem ut_not {t : KT} (h : t σ M = .ok k M1) : tNot t σ M = .ok (!k) M1 := by unfold tNot; rw [h]; rfl
theorem ut_and {t u : KT} (h : t σ M = .ok k M) (h2 : k = true → u σ M = .ok kb M) : tAnd t u σ M = .ok (k && kb) M := by
 unfold tAnd; rw [h]
 cases k with
 | false => rfl
 | true => exact h2 rfl
theorem ut_or {t u : KT} (h : t σ M = .ok k M) (h2 : k = false → u σ M = .ok kb M) : tOr t u σ M = .ok (k || kb) M := by
 unfold tOr; rw [h]
 cases k with
 | true => rfl
 | false => exact h2 rfl
theorem un_lst (h : es σ M = .ok ds M1) : nLst es σ M = .ok (.lst ds) M1 := by unfold nLst; rw [h]; rfl
theorem un_dct0 : nDct dNil σ M = .ok (.dct []) M := by unfold nDct dNil; rfl
theorem un_lstO (h : e σ M = .ok x M1) (h2 : colD (dr M1 x) = some xs) : nLstO e σ M = .ok (.lst xs) M1 := by unfold nLstO; rw [h]; show Res.of ((colD (dr M1 x)).map D.lst) M1 = _; rw [h2]; rfl
theorem un_sort {ys : List D} (h : e σ M = .ok x M1) (h2 : colD (dr M1 x) = some xs) (h3 : sortD xs = some ys) : nSort e σ M = .ok (.lst ys) M1 := by
 unfold nSort; rw [h]; show Res.of (((colD (dr M1 x)).bind sortD).map D.lst) M1 = _; rw [h2]; show Res.of ((sortD xs).map D.lst) M1 = _; rw [h3]; rfl
theorem ui_it {w : Walk} (h : e σ M = .ok x M1) (h2 : walkOf M1 x = some w) : iIt e σ M = .ok w M1 := by unfold iIt; rw [h]; show Res.of (walkOf M1 x) M1 = _; rw [h2]; rfl
theorem ui_enm {w : Walk} (h : e σ M = .ok x M1) (h2 : seqOf M1 x = some w) : iEnm e σ M = .ok ⟨enumFrom 0 w.xs, w.st, none⟩ M1 := by unfold iEnm; rw [h]; show Res.of ((seqOf M1 x).map _) M1 = _; rw [h2]; rfl
theorem ui_zip {u w : Walk} (ha : a σ M = .ok x M1) (hb : b σ M1 = .ok y M2) (h1 : seqOf M2 x = some u) (h2 : seqOf M2 y = some w) : iZip a b σ M = .ok ⟨List.zipWith pair u.xs w.xs, u.st ++ w.st, none⟩ M2 := by
 unfold iZip; rw [ha]; show (b σ M1).bind _ = _; rw [hb]
 show (match seqOf M2 x, seqOf M2 y with | some u, some w => .ok ⟨List.zipWith pair u.xs w.xs, u.st ++ w.st, none⟩ M2 | _, _ => .bad : Res Walk) = _
 rw [h1, h2]
theorem ui_zip0 {xs ys : List D} (ha : a σ M = .ok x M1) (hb : b σ M1 = .ok y M2) (h1 : seqOf M2 x = some ⟨xs, [], none⟩) (h2 : seqOf M2 y = some ⟨ys, [], none⟩) : iZip a b σ M = .ok ⟨List.zipWith pair xs ys, [], none⟩ M2 := ui_zip ha hb h1 h2
theorem ui_enm0 {xs : List D} (h : e σ M = .ok x M1) (h2 : seqOf M1 x = some ⟨xs, [], none⟩) : iEnm e σ M = .ok ⟨enumFrom 0 xs, [], none⟩ M1 := ui_enm h h2
theorem ui_rng1 {j : Int} (h : e σ M = .ok (.int j) M1) (h2 : rngD 0 j = some xs) : iRng1 e σ M = .ok ⟨xs, [], none⟩ M1 := by unfold iRng1; rw [h]; show Res.of ((rngD 0 j).map _) M1 = _; rw [h2]; rfl
theorem lcp_map {α : Type} {l : List α} {fd : α → D} {g : α → D} {vs : List Nat} {t : KG} {it : KI} {c : KT} (hi : it σ M = .ok ⟨l.map fd, [], none⟩ M)
  (h : ∀ p ∈ l, ∃ σ2, t (fd p) (wipe σ vs) M = .ok σ2 M ∧ c σ2 M = .ok true M ∧ e σ2 M = .ok (g p) M) : nLcp vs t it c e σ M = .ok (.lst (l.map g)) M := by
 unfold nLcp; rw [hi]
 show ((lcL _ (⟨l.map fd, [], none⟩ : Walk) (l.map fd) M).mapM _ |>.bind fun ys M2 => Res.ok (D.lst ys) M2) = _
 have key : ∀ l' : List α, (∀ p ∈ l', p ∈ l) → lcL (lcF vs t c e σ) (⟨l.map fd, [], none⟩ : Walk) (l'.map fd) M = .ok (l'.map g) M := by
  intro l'
  induction l' with
  | nil => intro _; unfold lcL; rfl
  | cons p r ih =>
   intro hs
   obtain ⟨σ2, h1, h2, h3⟩ := h p (hs p List.mem_cons_self)
   rw [List.map_cons]
   unfold lcL
   have e1 : lcF vs t c e σ (fd p) M = .ok (some (g p)) M := by
    unfold lcF; rw [h1]; show ((c σ2 M).bind _) = _; rw [h2]; show ((e σ2 M).bind _) = _; rw [h3]; rfl
   rw [if_pos (show Walk.ok _ _ = true from rfl), e1]
   show ((lcL _ _ (r.map fd) M).bind _) = _
   rw [ih fun q hq => hs q (List.mem_cons_of_mem _ hq)]
   rfl
 rw [key l fun _ h => h]
 rfl
theorem lcp_filter {α : Type} {l : List α} {fd : α → D} {g : α → D} {pr : α → Bool} {vs : List Nat} {t : KG} {it : KI} {c : KT} (hi : it σ M = .ok ⟨l.map fd, [], none⟩ M)
  (h : ∀ p ∈ l, ∃ σ2, t (fd p) (wipe σ vs) M = .ok σ2 M ∧ c σ2 M = .ok (pr p) M ∧ (pr p = true → e σ2 M = .ok (g p) M)) : nLcp vs t it c e σ M = .ok (.lst ((l.filter pr).map g)) M := by
 unfold nLcp; rw [hi]
 show ((lcL _ (⟨l.map fd, [], none⟩ : Walk) (l.map fd) M).mapM _ |>.bind fun ys M2 => Res.ok (D.lst ys) M2) = _
 have key : ∀ l' : List α, (∀ p ∈ l', p ∈ l) → lcL (lcF vs t c e σ) (⟨l.map fd, [], none⟩ : Walk) (l'.map fd) M = .ok ((l'.filter pr).map g) M := by
  intro l'
  induction l' with
  | nil => intro _; unfold lcL; rfl
  | cons p r ih =>
   intro hs
   obtain ⟨σ2, h1, h2, h3⟩ := h p (hs p List.mem_cons_self)
   have ih' := ih fun q hq => hs q (List.mem_cons_of_mem _ hq)
   rw [List.map_cons]
   unfold lcL
   have e1 : lcF vs t c e σ (fd p) M = .ok (if pr p = true then some (g p) else none) M := by
    unfold lcF; rw [h1]; show ((c σ2 M).bind _) = _; rw [h2]
    cases hp : pr p with
    | true => show ((e σ2 M).bind _) = _; rw [h3 hp]; rfl
    | false => rfl
   rw [if_pos (show Walk.ok _ _ = true from rfl), e1]
   show ((lcL _ _ (r.map fd) M).bind _) = _
   rw [ih']
   cases hp : pr p with
   | true => rw [List.filter_cons_of_pos hp]; rfl
   | false => rw [List.filter_cons_of_neg (by simp [hp])]; rfl
 rw [key l fun _ h => h]
 rfl
theorem lcp_map1 {α : Type} {l : List α} {fd : α → D} {g : α → D} {vs : List Nat} {it : KI} {c : KT} (hi : it σ M = .ok ⟨l.map fd, [], none⟩ M)
  (hc : ∀ p ∈ l, c ((wipe σ vs).set i (some (fd p))) M = .ok true M) (he : ∀ p ∈ l, e ((wipe σ vs).set i (some (fd p))) M = .ok (g p) M) : nLcp vs (gNm i) it c e σ M = .ok (.lst (l.map g)) M :=
 lcp_map hi fun p hp => ⟨_, ug_nm, hc p hp, he p hp⟩
theorem lcp_filter1 {α : Type} {l : List α} {fd : α → D} {g : α → D} {pr : α → Bool} {vs : List Nat} {it : KI} {c : KT} (hi : it σ M = .ok ⟨l.map fd, [], none⟩ M)
  (hc : ∀ p ∈ l, c ((wipe σ vs).set i (some (fd p))) M = .ok (pr p) M) (he : ∀ p ∈ l, pr p = true → e ((wipe σ vs).set i (some (fd p))) M = .ok (g p) M) : nLcp vs (gNm i) it c e σ M = .ok (.lst ((l.filter pr).map g)) M :=
 lcp_filter hi fun p hp => ⟨_, ug_nm, hc p hp, he p hp⟩
theorem tp2 {j : Nat} {u v : D} (h : dr M d = .tup [u, v]) : gTp 2 (gCons (gNm i) (gCons (gNm j) gNil)) d σ M = .ok ((σ.set i (some u)).set j (some v)) M := by
 unfold gTp; rw [h]; unfold gCons gNm gNil; rfl
theorem tp3 {j f : Nat} {u v w : D} (h : dr M d = .tup [u, v, w]) : gTp 3 (gCons (gNm i) (gCons (gNm j) (gCons (gNm f) gNil))) d σ M = .ok (((σ.set i (some u)).set j (some v)).set f (some w)) M := by
 unfold gTp; rw [h]; unfold gCons gNm gNil; rfl
theorem ug_tp {nn : Nat} {ts : KGs} {xs : List D} (h : dr M d = .tup xs) (hl : Nat.beq xs.length nn = true) (h2 : ts xs σ M = .ok σ2 M1) : gTp nn ts d σ M = .ok σ2 M1 := by
 unfold gTp; rw [h]; simp only [hl]; exact h2
theorem ug_nil : gNil [] σ M = .ok σ M := by unfold gNil; rfl
theorem ug_cons {t : KG} {rr : KGs} {σ3 : Sl} (h : t x σ M = .ok σ2 M1) (h2 : rr xs σ2 M1 = .ok σ3 M2) : gCons t rr (x :: xs) σ M = .ok σ3 M2 := by
 unfold gCons; show ((t x σ M).bind _) = _; rw [h]; exact h2
theorem us_nm (h : e σ M = .ok d M1) : sAsg (gNm i) e σ M = .nx (σ.set i (some d)) M1 := by unfold sAsg gNm; rw [h]; rfl
theorem us_nmp (h : e σ M = .ok d M) : sAsg (gNm i) e σ M = .nx (σ.set i (some d)) M := us_nm h
theorem us_tg {t : KG} (h : e σ M = .ok d M1) (h2 : t d σ M1 = .ok σ2 M2) : sAsg t e σ M = .nx σ2 M2 := by
 unfold sAsg; rw [h]; show ((t d σ M1).nox.out σ _) = _; rw [h2]; rfl
theorem us_drop (h : e σ M = .ok d M1) : sDrop e σ M = .nx σ M1 := by unfold sDrop; rw [h]; rfl
theorem us_ret (h : e σ M = .ok d M1) : sRet e σ M = .rt d M1 := by unfold sRet; rw [h]; rfl
theorem us_if {c : KT} {p q : KS} (hc : c σ M = .ok k M1) (ha : k = true → p σ M1 = o) (hb : k = false → q σ M1 = o) : sIf c p q σ M = o := by
 unfold sIf; rw [hc]
 cases k with
 | true => exact ha rfl
 | false => exact hb rfl
theorem ub_nil : bNil σ M = .nx σ M := by unfold bNil; rfl
theorem ub_cons {s rr : KS} (h : s σ M = .nx σ2 M1) (h2 : rr σ2 M1 = o) : bCons s rr σ M = o := by unfold bCons; rw [h]; exact h2
theorem ub_rt {s rr : KS} (h : s σ M = .rt d M1) : bCons s rr σ M = .rt d M1 := by unfold bCons; rw [h]
theorem us_for {α : Type} {l : List α} {fd : α → D} {t : KG} {it : KI} {b : KS} (I : Nat → Sl → Mem → Prop) (hi : it σ M = .ok ⟨l.map fd, [], none⟩ M) (h0 : I 0 σ M)
  (h : ∀ j p σ1 M1, l[j]? = some p → I j σ1 M1 → ∃ σ2 σ3 M3, t (fd p) σ1 M1 = .ok σ2 M1 ∧ (b σ2 M1 = .nx σ3 M3 ∨ b σ2 M1 = .ct σ3 M3) ∧ I (j + 1) σ3 M3) : ∃ σ2 M2, sFor t it b σ M = .nx σ2 M2 ∧ I l.length σ2 M2 := by
 have key : ∀ (m j : Nat) (σ1 : Sl) (M1 : Mem), m + j = l.length → I j σ1 M1 → ∃ σ2 M2, forL (foF t b) (⟨l.map fd, [], none⟩ : Walk) ((l.drop j).map fd) σ1 M1 = .nx σ2 M2 ∧ I l.length σ2 M2 := by
  intro m
  induction m with
  | zero =>
   intro j σ1 M1 e hI
   have : l.drop j = [] := List.drop_eq_nil_of_le oM
   rw [this]
   exact ⟨σ1, M1, rfl, by rw [← show j = l.length by omega]; exact hI⟩
  | succ m ih =>
   intro j σ1 M1 e hI
   have hj : j < l.length := by omega
   obtain ⟨σ2, σ3, M3, h1, h2, h3⟩ := h j l[j] σ1 M1 (List.getElem?_eq_getElem hj) hI
   obtain ⟨σ4, M4, h4, h5⟩ := ih (j + 1) σ3 M3 oM h3
   refine ⟨σ4, M4, ?_, h5⟩
   rw [List.drop_eq_getElem_cons hj, List.map_cons]
   unfold forL
   have e1 : foF t b (fd l[j]) σ1 M1 = b σ2 M1 := by unfold foF; rw [h1]; rfl
   rw [if_pos (show Walk.ok _ _ = true from rfl), e1]
   rcases h2 with h2 | h2 <;> (rw [h2]; exact h4)
 obtain ⟨σ2, M2, h1, h2⟩ := key l.length 0 σ M oM h0
 refine ⟨σ2, M2, ?_, h2⟩
 unfold sFor; rw [hi]
 show ((forL _ (⟨l.map fd, [], none⟩ : Walk) (l.map fd) σ M).mapM _) = _
 rw [List.drop_zero] at h1
 rw [h1]
 rfl
end
theorem does {T : Tab} {TS : Nat → Option FnS} (S : Shal T TS) {f : Nat} (s : FnS) {n k : Nat} (hk : 1 ≤ k) {as : List D} {M M' : Mem} {d : D} {r : Res D} (h1 : TS f = some s) (hl : as.length = s.np) (h : s.b (run T n (k - 1) false) (run T n (k - 1) true) n (as.map some ++ List.replicate (s.ns - s.np) none) M = .rt d M') (hf : fin s.esc M.length M M' d = r) : run T n k false f as M = r := by
 obtain ⟨j, rfl⟩ : ∃ j, k = j + 1 := ⟨k - 1, by omega⟩
 rw [Nat.add_sub_cancel] at h
 rw [call_of S h1, body_rt hl h, hf]
theorem does0 {T : Tab} {TS : Nat → Option FnS} (S : Shal T TS) {f : Nat} (s : FnS) {n k : Nat} (hk : 1 ≤ k) {as : List D} {M M' : Mem} {σ : Sl} {r : Res D} (h1 : TS f = some s) (hl : as.length = s.np) (h : s.b (run T n (k - 1) false) (run T n (k - 1) true) n (as.map some ++ List.replicate (s.ns - s.np) none) M = .nx σ M') (hf : fin s.esc M.length M M' .non = r) : run T n k false f as M = r := by
 obtain ⟨j, rfl⟩ : ∃ j, k = j + 1 := ⟨k - 1, by omega⟩
 rw [Nat.add_sub_cancel] at h
 rw [call_of S h1, body_nx hl h]; exact hf
theorem maks {T : Tab} {TS : Nat → Option FnS} (S : Shal T TS) {c : Nat} (C : Cl) (s : FnS) {n k : Nat} (hk : 2 ≤ k) {as : List D} {M M' : Mem} {σ : Sl} {r : Res D} (hc : T.cl c = some C) (hz : C.frz = true) (h1 : TS C.init = some s) (hl : as.length + 1 = s.np)
  (h : s.b (run T n (k - 2) false) (run T n (k - 2) true) n ((D.ref M.length :: as).map some ++ List.replicate (s.ns - s.np) none) (M ++ [.ins c []]) = .nx σ M') (hf : fin false M.length M M' (.ref M.length) = r) : run T n k true c as M = r := by
 obtain ⟨j, rfl⟩ : ∃ j, k = j + 2 := ⟨k - 2, by omega⟩
 rw [Nat.add_sub_cancel] at h
 rw [make_of S hc hz h1, body_nx (as := .ref M.length :: as) hl h]; exact hf
theorem bels_map {α : Type} (n : Nat) (f : α → D) (h : ∀ a, bel n (f a) = true) : ∀ xs : List α, bels n (xs.map f) = true
 | [] => rfl
 | x :: r => by simp [bels, h x, bels_map n f h r]
theorem cmp_str {M : Mem} (x y : Str) : cmpK M .Eq (.str x) (.str y) = some (.bl (decide (x = y))) := by rw [seqS_dec]; rfl
theorem cmp_strN {M : Mem} (x y : Str) : cmpK M .NotEq (.str x) (.str y) = some (.bl (!decide (x = y))) := by rw [seqS_dec]; rfl
theorem shps_str (n : Nat) : ∀ xs : List Str, shps n (xs.map D.str) = true
 | [] => by simp [shps]
 | x :: r => by simp [shps, shp, shps_str n r]
theorem any2_str (x : Str) : ∀ xs : List Str, any2 (.str x) (xs.map D.str) = decide (x ∈ xs)
 | [] => by simp [any2]
 | y :: r => by
  have e : eq2 (.str y) (.str x) = decide (y = x) := (seqS_dec y x).symm
  rw [List.map_cons]
  unfold any2
  rw [e, any2_str x r]
  by_cases h : y = x
  ·simp [h]
  ·have h' : ¬ x = y := fun z => h z.symm
   simp [h, h']
theorem in_strs {M : Mem} (x : Str) (xs : List Str) : cmpK M .In (.str x) (.tup (xs.map D.str)) = some (.bl (decide (x ∈ xs))) := by
 show (if (shp 8 (.str x) && shp 9 (.tup (xs.map D.str))) = true then some (any2 (.str x) (xs.map D.str)) else none).map D.bl = _
 rw [any2_str, if_pos (by simp [shp, shps_str])]
 rfl
theorem in_strsL {M : Mem} (x : Str) (xs : List Str) : cmpK M .In (.str x) (.lst (xs.map D.str)) = some (.bl (decide (x ∈ xs))) := by
 show (if (shp 8 (.str x) && shp 9 (.lst (xs.map D.str))) = true then some (any2 (.str x) (xs.map D.str)) else none).map D.bl = _
 rw [any2_str, if_pos (by simp [shp, shps_str])]
 rfl
theorem bls_map {α : Type} (f : α → Bool) : ∀ xs : List α, bls (xs.map fun a => D.bl (f a)) = some (xs.map f)
 | [] => rfl
 | x :: r => by rw [List.map_cons, bls, bls_map f r]; rfl
theorem all_map {α : Type} {M : Mem} (f : α → Bool) (xs : List α) : bi .all [dr M (.lst (xs.map fun a => D.bl (f a)))] = some (.bl (xs.all f)) := by
 show (bls _).map _ = _
 rw [bls_map]; simp
theorem any_map {α : Type} {M : Mem} (f : α → Bool) (xs : List α) : bi .any [dr M (.lst (xs.map fun a => D.bl (f a)))] = some (.bl (xs.any f)) := by
 show (bls _).map _ = _
 rw [bls_map]; simp
end Mn.Sh
end
section
namespace Mn.Sh
open PySem Mn
section
variable {T : Tab} {cf mf : Calls} {n : Nat} {σ σ2 : Sl} {M M1 M2 M3 X : Mem} {x y z d : D} {a b c e : KE} {es r : KA} {ds xs : List D} {k kb : Bool} {i j f : Nat} {o : Out} {R : Res D}
theorem memAt_app (h : X[j]? = some d) : memAt (M ++ X) (M.length + j) = some d := by
 rw [← memAt_eq, List.getElem?_append_right oM, Nat.add_sub_cancel_left, h]
theorem dr_app (h : X[j]? = some d) (hl : ∀ ps, d ≠ .lck ps) : dr (M ++ X) (.ref (M.length + j)) = d := by
 show (match memAt (M ++ X) (M.length + j) with | some (.lck ps) => D.dct ps | some d => d | none => .ref (M.length + j)) = d
 rw [memAt_app h]
 cases d with
 | lck ps => exact absurd rfl (hl ps)
 | _ => rfl
theorem store_app {h : D → Option D} {d' : D} (h1 : X[j]? = some d) (h2 : h d = some d') : store (M ++ X) (.ref (M.length + j)) h = some (M ++ X.set j d') := by
 unfold store
 simp only []
 rw [List.getElem?_append_right oM, Nat.add_sub_cancel_left, h1]
 simp only [h2, Option.map_some]
 rw [List.set_append_right _ _ oM, Nat.add_sub_cancel_left]
theorem r_newX {c : KN} (h : c σ (M ++ X) = .ok d (M ++ X)) : kNew true c σ (M ++ X) = .ok (.ref (M.length + X.length)) (M ++ (X ++ [d])) := by
 rw [r_newO h, List.length_append, List.append_assoc]
theorem r_newX0 {c : KN} (h : c σ M = .ok d M) : kNew true c σ M = .ok (.ref (M.length + 0)) (M ++ [d]) := r_newO h
theorem r_app {ys : List D} (ha : a σ (M ++ X) = .ok (.ref (M.length + j)) (M ++ X)) (hx : X[j]? = some (.lst ys)) (he : e σ (M ++ X) = .ok d (M ++ X)) (hl : ys.length < big) : kApp a e σ (M ++ X) = .ok .non (M ++ X.set j (.lst (ys ++ [d]))) := by
 unfold kApp
 rw [ha]
 show (if !isL (dr (M ++ X) (.ref (M.length + j))) then .bad else (e σ (M ++ X)).bind _) = _
 rw [dr_app hx (by intro ps; exact D.noConfusion)]
 show ((e σ (M ++ X)).bind _) = _
 rw [he]
 show (match store (M ++ X) (.ref (M.length + j)) (pushL d) with | some M3 => .ok .non M3 | none => .bad : Res D) = _
 rw [store_app hx (d' := .lst (ys ++ [d])) (if_pos hl)]
theorem ug_at {o' : KE} {cc : Nat} {fs : List (Nat × D)} {C : Cl} (ho : o' σ (M ++ X) = .ok (.ref (M.length + j)) (M ++ X)) (hx : X[j]? = some (.ins cc fs)) (hc : T.cl cc = some C) (hf : C.ats.contains f = true) (hl : fs.length < 900) : gAt T o' f d σ (M ++ X) = .ok σ (M ++ X.set j (.ins cc (putA f d fs))) := by
 unfold gAt
 rw [ho]
 show (match store (M ++ X) (.ref (M.length + j)) (setA T f d) with | some M2 => .ok σ M2 | none => .bad : Res Sl) = _
 rw [store_app hx (d' := .ins cc (putA f d fs)) (if_pos ⟨hl, by rw [hc]; simpa using hf⟩)]
theorem ug_sbk {o' i' : KE} {ps : List (D × D)} {key : D} (ho : o' σ (M ++ X) = .ok (.ref (M.length + j)) (M ++ X)) (hi : i' σ (M ++ X) = .ok key (M ++ X)) (hx : X[j]? = some (.dct ps)) (hk : kok2 ps key = true) (hl : ps.length < big) : gSb o' i' d σ (M ++ X) = .ok σ (M ++ X.set j (.dct (dput ps key d))) := by
 unfold gSb
 rw [ho]
 show ((i' σ (M ++ X)).bind _) = _
 rw [hi]
 show (match store (M ++ X) (.ref (M.length + j)) (setI key d) with | some M3 => .ok σ M3 | none => .bad : Res Sl) = _
 rw [store_app hx (d' := .dct (dput ps key d)) (by unfold setI; simp only []; rw [kok2_eq, if_pos hk, if_pos hl])]
theorem dput_new {ps : List (D × D)} {k v : D} (h : get2 ps k = none) : dput ps k v = ps ++ [(k, v)] := by
 unfold dput
 have : (ps.any fun p => eqv p.1 k) = false := by
  induction ps with
  | nil => rfl
  | cons p r ih =>
   obtain ⟨p1, p2⟩ := p
   unfold get2 at h
   cases e : eq2 p1 k with
   | true => rw [e] at h; cases h
   | false =>
    rw [e] at h
    rw [List.any_cons, eq2_eq, e, ih h]
    rfl
 rw [this]
 simp
structure Keys (kf : α → D) (l : List α) (b : Bool) : Prop where
 kd : ∀ p ∈ l, kd2 (kf p) = true ∧ isT (kf p) = b
 ne : l.Pairwise fun p q => eq2 (kf p) (kf q) = false
theorem kall_of {α : Type} {kf vf : α → D} {b : Bool} : ∀ {l : List α}, (∀ p ∈ l, isT (kf p) = b) → kall b (l.map fun p => (kf p, vf p)) = true
 | [], _ => rfl
 | p :: r, h => by
  rw [List.map_cons]
  unfold kall
  rw [h p List.mem_cons_self, kall_of fun q hq => h q (List.mem_cons_of_mem _ hq)]
  cases b <;> rfl
theorem get2_none {α : Type} {kf vf : α → D} {k : D} : ∀ {l : List α}, (∀ p ∈ l, eq2 (kf p) k = false) → get2 (l.map fun p => (kf p, vf p)) k = none
 | [], _ => rfl
 | p :: r, h => by
  rw [List.map_cons]
  unfold get2
  rw [h p List.mem_cons_self]
  exact get2_none fun q hq => h q (List.mem_cons_of_mem _ hq)
theorem kok_of {α : Type} {kf vf : α → D} {b : Bool} {l : List α} {k : D} (h : ∀ p ∈ l, isT (kf p) = b) (hk : kd2 k = true) (hb : isT k = b) : kok2 (l.map fun p => (kf p, vf p)) k = true := by
 unfold kok2
 rw [hk, hb]
 exact kall_of h
theorem get2_some {α : Type} {kf vf : α → D} {k : D} : ∀ {l : List α} {p : α}, l.find? (fun p => eq2 (kf p) k) = some p → get2 (l.map fun p => (kf p, vf p)) k = some (vf p)
 | [], p, h => by cases h
 | q :: r, p, h => by
  rw [List.map_cons]
  unfold get2
  rw [List.find?_cons] at h
  cases e : eq2 (kf q) k with
  | true => rw [e] at h; cases h; rfl
  | false => rw [e] at h; exact get2_some h
theorem get2_find {α : Type} (kf vf : α → D) (k : D) (l : List α) : get2 (l.map fun p => (kf p, vf p)) k = (l.find? fun p => eq2 (kf p) k).map vf := by
 cases h : l.find? fun p => eq2 (kf p) k with
 | some p => exact get2_some h
 | none => exact get2_none fun p hp => by simpa using List.find?_eq_none.mp h p hp
theorem whl_t {c : KT} {b : KS} {N : Nat} (hc : c σ M = .ok true M1) (hb : b σ M1 = .nx σ2 M2) (h : whlL c b N σ2 M2 = o) : whlL c b (N + 1) σ M = o := by
 unfold whlL; rw [hc]; simp only [hb]; exact h
theorem whl_f {c : KT} {b : KS} {N : Nat} (hc : c σ M = .ok false M1) : whlL c b (N + 1) σ M = .nx σ M1 := by
 unfold whlL; rw [hc]
theorem us_whl {c : KT} {b : KS} {N : Nat} (h : whlL c b N σ M = o) : sWhl N c b σ M = o := by unfold sWhl; exact h
theorem un_dct {ds : KD'} {ps qs : List (D × D)} (h : ds σ M = .ok ps M1) (h2 : putAll ps [] = some qs) : nDct ds σ M = .ok (.dct qs) M1 := by
 unfold nDct; rw [h]; show Res.of ((putAll ps []).map D.dct) M1 = _; rw [h2]; rfl
theorem ud_nil : dNil σ M = .ok [] M := by unfold dNil; rfl
theorem ud_cons {ek ew : KE} {rr : KD'} {ps : List (D × D)} (h : ek σ M = .ok x M1) (h2 : ew σ M1 = .ok y M2) (h3 : rr σ M2 = .ok ps M3) : dCons ek ew rr σ M = .ok ((x, y) :: ps) M3 := by
 unfold dCons; rw [h]; show ((ew σ M1).bind _) = _; rw [h2]; show ((rr σ M2).bind _) = _; rw [h3]; rfl
theorem eq2s_str : ∀ xs ys : List Str, eq2s (xs.map D.str) (ys.map D.str) = decide (xs = ys)
 | [], [] => by simp [eq2s]
 | [], _ :: _ => by simp [eq2s]
 | _ :: _, [] => by simp [eq2s]
 | x :: xs, y :: ys => by
  have e : eq2 (.str x) (.str y) = decide (x = y) := (seqS_dec x y).symm
  show (match eq2 (.str x) (.str y) with | true => eq2s (xs.map D.str) (ys.map D.str) | false => false) = _
  rw [e, eq2s_str xs ys]
  by_cases h : x = y <;> simp [h]
theorem look_at {kk : Nat} (h : X[j]? = some d) (hl : ∀ ps, d ≠ .lck ps) : look M.length none (M ++ X) (kk + 1) (M.length + j) = sub (look M.length none (M ++ X) kk) d := by
 rw [look, if_neg (by simp), List.getElem?_append_right oM, Nat.add_sub_cancel_left, h]
 cases d with
 | lck ps => exact absurd rfl (hl ps)
 | _ => rfl
theorem sub_old {kk : Nat} (h : bel M.length d = true) : sub (look M.length none (M ++ X) kk) d = d := sub_id (fun i hi => look_low kk i hi) d h
theorem fin_frz {c : D} (h : frz M.length none (M ++ X) d = c) (hb : bel M.length c = true) : fin false M.length M (M ++ X) d = .ok c M := by
 unfold fin
 rw [if_pos (okM_app M X), h]
 simp [hb]
theorem us_forW {α : Type} {l : List α} {fd : α → D} {t : KG} {it : KI} {b : KS} {w : Walk} (I : Nat → Sl → Mem → Prop) (hi : it σ M = .ok w M) (hx : w.xs = l.map fd) (h0 : I 0 σ (w.lock M)) (hok : ∀ j σ1 M1, I j σ1 M1 → w.ok M1 = true)
  (h : ∀ j p σ1 M1, l[j]? = some p → I j σ1 M1 → ∃ σ2 σ3 M3, t (fd p) σ1 M1 = .ok σ2 M1 ∧ (b σ2 M1 = .nx σ3 M3 ∨ b σ2 M1 = .ct σ3 M3) ∧ I (j + 1) σ3 M3) : ∃ σ2 M2, sFor t it b σ M = .nx σ2 (w.ulk M2) ∧ I l.length σ2 M2 := by
 have key : ∀ (m j : Nat) (σ1 : Sl) (M1 : Mem), m + j = l.length → I j σ1 M1 → ∃ σ2 M2, forL (foF t b) w ((l.drop j).map fd) σ1 M1 = .nx σ2 M2 ∧ I l.length σ2 M2 := by
  intro m
  induction m with
  | zero =>
   intro j σ1 M1 e hI
   have : l.drop j = [] := List.drop_eq_nil_of_le oM
   rw [this]
   refine ⟨σ1, M1, ?_, by rw [← show j = l.length by omega]; exact hI⟩
   unfold forL
   exact if_pos (hok _ _ _ hI)
  | succ m ih =>
   intro j σ1 M1 e hI
   have hj : j < l.length := by omega
   obtain ⟨σ2, σ3, M3, h1, h2, h3⟩ := h j l[j] σ1 M1 (List.getElem?_eq_getElem hj) hI
   obtain ⟨σ4, M4, h4, h5⟩ := ih (j + 1) σ3 M3 oM h3
   refine ⟨σ4, M4, ?_, h5⟩
   rw [List.drop_eq_getElem_cons hj, List.map_cons]
   unfold forL
   have e1 : foF t b (fd l[j]) σ1 M1 = b σ2 M1 := by unfold foF; rw [h1]; rfl
   rw [if_pos (hok _ _ _ hI), e1]
   rcases h2 with h2 | h2 <;> (rw [h2]; exact h4)
 obtain ⟨σ2, M2, h1, h2⟩ := key l.length 0 σ (w.lock M) oM h0
 refine ⟨σ2, M2, ?_, h2⟩
 unfold sFor; rw [hi]
 show ((forL _ w w.xs σ (w.lock M)).mapM _) = _
 rw [List.drop_zero] at h1
 rw [hx, h1]
 rfl
theorem walkL {xs : List D} (h : M[i]? = some (.lst xs)) : walkOf M (.ref i) = some ⟨xs, [(i, .lst xs)], none⟩ := by
 show (match M[i]? with
  | some (.lst xs) => some ⟨xs, [(i, .lst xs)], none⟩
  | some (.dct ps) => some ⟨ps.map (·.1), [], if ps.isEmpty then none else some i⟩
  | some (.lck ps) => some ⟨ps.map (·.1), [], none⟩
  | _ => none : Option Walk) = _
 rw [h]
theorem okL {xs : List D} (h : M[i]? = some (.lst xs)) : Walk.ok ⟨xs, [(i, .lst xs)], none⟩ M = true := by
 simp [Walk.ok, h]
end
theorem cmp_tupE {M : Mem} {xs ys : List D} (hx : shps 8 xs = true) (hy : shps 8 ys = true) : cmpK M .Eq (.tup xs) (.tup ys) = some (.bl (eq2s xs ys)) := by
 show (match shps 8 xs, shps 8 ys with | true, true => some (D.bl (eq2s xs ys)) | _, _ => empT false (.tup xs) (.tup ys)) = _
 rw [hx, hy]
theorem cmp_tupN {M : Mem} {xs ys : List D} (hx : shps 8 xs = true) (hy : shps 8 ys = true) : cmpK M .NotEq (.tup xs) (.tup ys) = some (.bl (!eq2s xs ys)) := by
 show (match shps 8 xs, shps 8 ys with | true, true => some (D.bl (!eq2s xs ys)) | _, _ => empT true (.tup xs) (.tup ys)) = _
 rw [hx, hy]
theorem cmp_tup0N {M : Mem} (xs : List D) : cmpK M .NotEq (.tup xs) (.tup []) = some (.bl (!xs.isEmpty)) := by
 show (match shps 8 xs, shps 8 [] with | true, true => some (D.bl (!eq2s xs [])) | _, _ => empT true (.tup xs) (.tup [])) = _
 have e : eq2s xs [] = xs.isEmpty := by cases xs <;> rfl
 rw [show shps 8 [] = true from rfl, e]
 cases shps 8 xs with
 | true => rfl
 | false =>
  show some (D.bl (true != xs.isEmpty)) = _
  cases xs <;> rfl
end Mn.Sh
end
section
namespace Mn.Sh
open PySem Mn
abbrev ordD : PyProof.Rows.KeyOrd := PyProof.Rows.listOrd PyProof.Rows.itemOrd
def kT (d : D) : ordD.α := PySem.W.keyToks (toP d)
theorem leD_key (a b : D) : leD a b = !ordD.blt (kT b) (kT a) := rfl
theorem leD_trans (a b c : D) (h1 : leD a b = true) (h2 : leD b c = true) : leD a c = true := by
 rw [leD_key, Bool.not_eq_true'] at *
 cases h : ordD.blt (kT c) (kT a) with
 | false => rfl
 | true =>
  rcases ordD.negTrans _ (kT b) _ h with h | h
  ·rw [h] at h2; cases h2
  ·rw [h] at h1; cases h1
theorem leD_total (a b : D) : (leD a b || leD b a) = true := by
 rw [leD_key, leD_key]
 cases h : ordD.blt (kT b) (kT a) with
 | false => rfl
 | true =>
  cases h2 : ordD.blt (kT a) (kT b) with
  | false => rfl
  | true => have := ordD.trans _ _ _ h h2; rw [ordD.irrefl] at this; cases this
theorem leD_anti {a b : D} (h1 : leD a b = true) (h2 : leD b a = true) : kT a = kT b := by
 rw [leD_key, Bool.not_eq_true'] at *
 exact ordD.total _ _ h2 h1
section
variable {α : Type} (f : α → D)
def sortBy (l : List α) : List α := l.mergeSort fun a b => leD (f a) (f b)
theorem sortBy_perm (l : List α) : (sortBy f l).Perm l := List.mergeSort_perm _ _
theorem mem_sortBy {l : List α} {x : α} : x ∈ sortBy f l ↔ x ∈ l := (sortBy_perm f l).mem_iff
theorem sortBy_len (l : List α) : (sortBy f l).length = l.length := (sortBy_perm f l).length_eq
theorem sortBy_pw (l : List α) : (sortBy f l).Pairwise fun a b => leD (f a) (f b) = true := List.pairwise_mergeSort (fun a b c => leD_trans (f a) (f b) (f c)) (fun a b => leD_total (f a) (f b)) l
theorem sortBy_is {xs ys : List α} (p : ys.Perm xs) (h : ys.Pairwise fun a b => leD (f a) (f b) = true) (inj : ∀ a b, kT (f a) = kT (f b) → a = b) : sortBy f xs = ys :=
 List.Perm.eq_of_pairwise (le := fun a b => leD (f a) (f b) = true) (fun _ _ _ _ h1 h2 => inj _ _ (leD_anti h1 h2)) (sortBy_pw f xs) h ((sortBy_perm f xs).trans p.symm)
theorem sortBy_eq {xs ys : List α} (p : xs.Perm ys) (inj : ∀ a b, kT (f a) = kT (f b) → a = b) : sortBy f xs = sortBy f ys := sortBy_is f ((sortBy_perm f ys).trans p.symm) (sortBy_pw f ys) inj
theorem allAl_gen : ∀ l : List α, (∀ a ∈ l, ∀ b ∈ l, likeD (f a) (f b) = true) → allAl (l.map f) = true
 | [], _ => rfl
 | x :: r, h => by
  rw [List.map_cons]
  unfold allAl
  rw [h x List.mem_cons_self x List.mem_cons_self, allAl_gen r fun a ha b hb => h a (List.mem_cons_of_mem _ ha) b (List.mem_cons_of_mem _ hb), Bool.true_and, Bool.and_true, List.all_eq_true]
  intro y hy
  obtain ⟨z, hz, rfl⟩ := List.mem_map.mp hy
  rw [h x List.mem_cons_self z (List.mem_cons_of_mem _ hz), h z (List.mem_cons_of_mem _ hz) x List.mem_cons_self]; rfl
theorem map_merge : ∀ l : List α, (l.map f).mergeSort leD = (sortBy f l).map f := fun l => by
 unfold sortBy
 rw [List.map_mergeSort (f := f) (r := fun a b => leD (f a) (f b)) (s := leD)]
 intro a _ b _; rfl
theorem sortD_gen {l : List α} (hl : ∀ a ∈ l, ∀ b ∈ l, likeD (f a) (f b) = true) (ht : (∀ a ∈ l, isT1 (f a) = true) ∨ ∀ a ∈ l, notTN (f a) = true) : sortD (l.map f) = some ((sortBy f l).map f) := by
 unfold sortD
 have h2 : ((l.map f).all isT1 || (l.map f).all notTN) = true := by
  rcases ht with h | h
  ·rw [show (l.map f).all isT1 = true from List.all_eq_true.mpr fun y hy => by obtain ⟨z, hz, rfl⟩ := List.mem_map.mp hy; exact h z hz]; rfl
  ·rw [show (l.map f).all notTN = true from List.all_eq_true.mpr fun y hy => by obtain ⟨z, hz, rfl⟩ := List.mem_map.mp hy; exact h z hz, Bool.or_true]
 rw [allAl_gen f l hl, h2, ← map_merge f l]; rfl
end
def nD (i : Nat) : D := .int (i : Nat)
def insN (x : Nat) : List Nat → List Nat
 | [] => [x]
 | y :: r => cond (Nat.ble x y) (x :: y :: r) (y :: insN x r)
def isortN : List Nat → List Nat
 | [] => []
 | x :: r => insN x (isortN r)
section
variable {α : Type} [DecidableEq α]
def uq1 (acc : List α) (x : α) : List α := if x ∈ acc then acc else acc ++ [x]
def uq (l : List α) : List α := l.foldl uq1 []
theorem mem_uqF (x : α) : ∀ (l acc : List α), x ∈ l.foldl uq1 acc ↔ x ∈ acc ∨ x ∈ l
 | [], acc => by simp
 | y :: r, acc => by
  rw [List.foldl_cons, mem_uqF x r]
  unfold uq1
  split
  ·rename_i h
   constructor
   ·rintro (h1 | h1)
    ·exact .inl h1
    ·exact .inr (List.mem_cons_of_mem _ h1)
   ·rintro (h1 | h1)
    ·exact .inl h1
    ·rcases List.mem_cons.mp h1 with rfl | h1
     ·exact .inl h
     ·exact .inr h1
  ·simp only [List.mem_append, List.mem_cons, List.not_mem_nil, or_false]
   constructor
   ·rintro ((h1 | h1) | h1)
    ·exact .inl h1
    ·exact .inr (.inl h1)
    ·exact .inr (.inr h1)
   ·rintro (h1 | h1 | h1)
    ·exact .inl (.inl h1)
    ·exact .inl (.inr h1)
    ·exact .inr h1
theorem mem_uq {x : α} {l : List α} : x ∈ uq l ↔ x ∈ l := by unfold uq; rw [mem_uqF]; simp
theorem nd_uqF : ∀ (l acc : List α), acc.Nodup → (l.foldl uq1 acc).Nodup
 | [], acc, h => h
 | y :: r, acc, h => by
  rw [List.foldl_cons]
  refine nd_uqF r _ ?_
  unfold uq1
  split
  ·exact h
  ·rename_i hy
   rw [List.nodup_append]
   exact ⟨h, by simp, fun a ha b hb => by simp at hb; subst hb; exact fun e => hy (e ▸ ha)⟩
theorem nd_uq (l : List α) : (uq l).Nodup := nd_uqF l [] .nil
variable {f : α → D}
def trD (f : α → D) (l : List α) : List (D × D) := l.map fun y => (f y, D.bl true)
theorem dput_uq (hf : ∀ x y, eqv (f x) (f y) = decide (x = y)) (l : List α) (x : α) : dput (trD f l) (f x) (.bl true) = trD f (uq1 l x) := by
 have hany : ((trD f l).any fun p => eqv p.1 (f x)) = decide (x ∈ l) := by
  unfold trD
  rw [List.any_map, Bool.eq_iff_iff, List.any_eq_true, decide_eq_true_iff]
  constructor
  ·rintro ⟨y, hy, e⟩
   have : y = x := of_decide_eq_true ((hf y x).symm.trans e)
   rwa [← this]
  ·intro h
   exact ⟨x, h, (hf x x).trans (decide_eq_true rfl)⟩
 unfold dput uq1
 rw [hany]
 by_cases h : x ∈ l
 ·rw [if_pos (decide_eq_true h), if_pos h]
  unfold trD
  rw [List.map_map]
  refine List.map_congr_left fun y hy => ?_
  show (if eqv (f y) (f x) = true then (f y, D.bl true) else (f y, D.bl true)) = _
  split <;> rfl
 ·rw [if_neg (by simp [h]), if_neg h]
  unfold trD
  rw [List.map_append]; rfl
end
theorem shps_nD (n : Nat) : ∀ xs : List Nat, shps n (xs.map nD) = true
 | [] => by simp [shps]
 | x :: r => by simp [nD, shps, shp, shps_nD n r]
theorem cmp_nD {M : Mem} (i j : Nat) : cmpK M .Eq (nD i) (nD j) = some (.bl (decide (i = j))) := by
 show some (D.bl (decide ((i : Int) = j))) = _
 congr 2
 rw [Bool.eq_iff_iff, decide_eq_true_iff, decide_eq_true_iff]; omega
theorem ixP_nat {n i : Nat} (h : i < n) : ixP n (i : Nat) = some i := by
 show L2.ixN n (i : Nat) = _
 unfold L2.ixN
 simp [h]
theorem idx_lstN {α : Type} {f : α → D} {l : List α} {i : Nat} {x : α} (h : l[i]? = some x) : idx (.lst (l.map f)) (.int (i : Nat)) = some (f x) := by
 show ((ixP (l.map f).length (i : Nat)).bind fun k => (l.map f)[k]?) = _
 rw [List.length_map, ixP_nat (List.getElem?_eq_some_iff.mp h).1]
 show (l.map f)[i]? = _
 rw [List.getElem?_map, h]; rfl
theorem idx_tupN {α : Type} {f : α → D} {l : List α} {i : Nat} {x : α} (h : l[i]? = some x) : idx (.tup (l.map f)) (.int (i : Nat)) = some (f x) := by
 show ((ixP (l.map f).length (i : Nat)).bind fun k => (l.map f)[k]?) = _
 rw [List.length_map, ixP_nat (List.getElem?_eq_some_iff.mp h).1]
 show (l.map f)[i]? = _
 rw [List.getElem?_map, h]; rfl
theorem bels_nD (n : Nat) (l : List Nat) : bels n (l.map nD) = true := bels_map n nD (fun _ => rfl) l
theorem rngD_nat {m : Nat} (h : m < 100000) : rngD 0 (m : Nat) = some ((List.range m).map nD) := by
 unfold rngD
 have h1 : (m : Int) < 100000 := by omega
 rw [if_pos ⟨by decide, by decide, by omega, by omega, by show (m : Int) - 0 ≤ ((16000000 : Nat) : Int); omega⟩]
 unfold rngs
 congr 1
 have : ((m : Int) - 0).toNat = m := by omega
 rw [this]
 refine List.map_congr_left fun i _ => ?_
 unfold nD
 congr 1; omega
section
variable {α β : Type} [DecidableEq α]
def ups1 (acc : List (α × β)) (p : α × β) : List (α × β) := if (acc.any fun q => decide (q.1 = p.1)) = true then acc.map (fun q => if q.1 = p.1 then (q.1, p.2) else q) else acc ++ [p]
def upsF (l : List (α × β)) : List (α × β) := l.foldl ups1 []
def rowM (f : α → D) (g : β → D) (l : List (α × β)) : List (D × D) := l.map fun q => (f q.1, g q.2)
end
theorem us_forF {α : Type} {l : List α} {fd : α → D} {P : α → Bool} {t : KG} {it : KI} {b : KS} {σ : Sl} {M : Mem} (I : Sl → Prop) (R : α → D) (hi : it σ M = .ok ⟨l.map fd, [], none⟩ M) (h0 : I σ)
  (h : ∀ p ∈ l, ∀ σ1, I σ1 → ∃ σ2, t (fd p) σ1 M = .ok σ2 M ∧ (P p = false → ∃ σ3, b σ2 M = .nx σ3 M ∧ I σ3) ∧ (P p = true → b σ2 M = .rt (R p) M)) :
  (∀ p, l.find? P = some p → sFor t it b σ M = .rt (R p) M) ∧ (l.find? P = none → ∃ σ3, sFor t it b σ M = .nx σ3 M ∧ I σ3) := by
 have e0 : sFor t it b σ M = Out.mapM (Walk.ulk ⟨l.map fd, [], none⟩) (forL (foF t b) (⟨l.map fd, [], none⟩ : Walk) (l.map fd) σ M) := by
  unfold sFor
  rw [hi]; rfl
 rw [e0]
 have key : ∀ (r : List α), (∀ p ∈ r, p ∈ l) → ∀ σ1, I σ1 → (∀ p, r.find? P = some p → forL (foF t b) (⟨l.map fd, [], none⟩ : Walk) (r.map fd) σ1 M = .rt (R p) M) ∧ (r.find? P = none → ∃ σ3, forL (foF t b) (⟨l.map fd, [], none⟩ : Walk) (r.map fd) σ1 M = .nx σ3 M ∧ I σ3) := by
  intro r
  induction r with
  | nil =>
   intro _ σ1 h1
   refine ⟨fun p e => ?_, fun _ => ⟨σ1, rfl, h1⟩⟩
   rw [List.find?_nil] at e
   cases e
  | cons x r ih =>
   intro hr σ1 h1
   obtain ⟨σ2, g1, g2, g3⟩ := h x (hr x List.mem_cons_self) σ1 h1
   have e1 : foF t b (fd x) σ1 M = b σ2 M := by unfold foF; rw [g1]; rfl
   rw [List.map_cons]
   unfold forL
   rw [if_pos (show Walk.ok _ _ = true from rfl), e1, List.find?_cons]
   cases hP : P x with
   | true =>
    rw [g3 hP]
    exact ⟨fun p e => by cases e; rfl, fun e => by cases e⟩
   | false =>
    obtain ⟨σ3, g4, g5⟩ := g2 hP
    rw [g4]
    exact ih (fun p hp => hr p (List.mem_cons_of_mem _ hp)) σ3 g5
 obtain ⟨k1, k2⟩ := key l (fun _ h => h) σ h0
 refine ⟨fun p e => by rw [k1 p e]; rfl, fun e => ?_⟩
 obtain ⟨σ3, h1, h2⟩ := k2 e
 exact ⟨σ3, by rw [h1]; rfl, h2⟩
end Mn.Sh
end
section
namespace Mn.K62
open PySem Mn.Sh
def h0 : FnS := { np := 1, ns := 1, esc := false, b := fun cf mf n => (bCons (sRet (kAnd (kBlt .isi (aCons (kVar 0) (aCons (kLit (.ty "int")) aNil))) (kNot (kBlt .isi (aCons (kVar 0) (aCons (kLit (.ty "bool")) aNil)))))) bNil) }
theorem q0 (cf mf : Calls) (n : Nat) : exB tab cf mf n F0.body = h0.b cf mf n := by
 simp only [F0, h0, q_lit, q_var, q_tup, q_tupR, q_cat, q_tupO, q_bin, q_neg, q_cmp, q_chn, q_and, q_or, q_not, q_ife, q_idx, q_slc, q_slcR, q_att, q_cal, q_mak, q_mth, q_dun, q_rev, q_tzip, q_addR, q_tupK, q_upd, q_ext, q_blt, q_new, q_app, q_popi, q_popk, q_index, q_indexT, q_join, q_get, q_tand, q_tor, q_tnot, q_tcmp, q_tv, q_anil, q_acons, q_astar, q_ono, q_oex, q_pno, q_pex, q_nlst, q_ncat, q_ndct, q_nlstO, q_nrng, q_nsort, q_nadd, q_nrep, q_nitems, q_nlcp, q_ndcp, q_dnil, q_dcons, q_iit, q_irng1, q_irng2, q_ienm, q_izip, q_iitm, q_gnm, q_gtp, q_gat, q_gsb, q_gnil, q_gcons, q_asg, q_drop, q_ret, q_retn, q_ifs, q_for, q_whl, q_pass, q_brk, q_cnt, q_dead, q_tryS, q_bnil, q_bcons]
 try rfl
def h1 : FnS := { np := 1, ns := 2, esc := false, b := fun cf mf n => (bCons (sIf (tVal (kBlt .isi (aCons (kVar 0) (aCons (kTup (aCons (kLit (.ty "list")) (aCons (kLit (.ty "tuple")) aNil))) aNil)))) (bCons (sRet (kTupO false (kNew false (nLcp [1] (gNm 1) (iIt (kVar 0)) (tVal (kLit (.bl true))) (kCal cf 1 (aCons (kVar 1) aNil)))))) bNil) bNil) (bCons (sRet (kVar 0)) bNil)) }
theorem q1 (cf mf : Calls) (n : Nat) : exB tab cf mf n F1.body = h1.b cf mf n := by
 simp only [F1, h1, q_lit, q_var, q_tup, q_tupR, q_cat, q_tupO, q_bin, q_neg, q_cmp, q_chn, q_and, q_or, q_not, q_ife, q_idx, q_slc, q_slcR, q_att, q_cal, q_mak, q_mth, q_dun, q_rev, q_tzip, q_addR, q_tupK, q_upd, q_ext, q_blt, q_new, q_app, q_popi, q_popk, q_index, q_indexT, q_join, q_get, q_tand, q_tor, q_tnot, q_tcmp, q_tv, q_anil, q_acons, q_astar, q_ono, q_oex, q_pno, q_pex, q_nlst, q_ncat, q_ndct, q_nlstO, q_nrng, q_nsort, q_nadd, q_nrep, q_nitems, q_nlcp, q_ndcp, q_dnil, q_dcons, q_iit, q_irng1, q_irng2, q_ienm, q_izip, q_iitm, q_gnm, q_gtp, q_gat, q_gsb, q_gnil, q_gcons, q_asg, q_drop, q_ret, q_retn, q_ifs, q_for, q_whl, q_pass, q_brk, q_cnt, q_dead, q_tryS, q_bnil, q_bcons]
 try rfl
def h2 : FnS := { np := 2, ns := 2, esc := false, b := fun cf mf n => (bCons (sRet (kAnd (kCal cf 0 (aCons (kVar 0) aNil)) (kChn .LtE .Lt (kLit (.int 0)) (kVar 0) (kVar 1)))) bNil) }
theorem q2 (cf mf : Calls) (n : Nat) : exB tab cf mf n F2.body = h2.b cf mf n := by
 simp only [F2, h2, q_lit, q_var, q_tup, q_tupR, q_cat, q_tupO, q_bin, q_neg, q_cmp, q_chn, q_and, q_or, q_not, q_ife, q_idx, q_slc, q_slcR, q_att, q_cal, q_mak, q_mth, q_dun, q_rev, q_tzip, q_addR, q_tupK, q_upd, q_ext, q_blt, q_new, q_app, q_popi, q_popk, q_index, q_indexT, q_join, q_get, q_tand, q_tor, q_tnot, q_tcmp, q_tv, q_anil, q_acons, q_astar, q_ono, q_oex, q_pno, q_pex, q_nlst, q_ncat, q_ndct, q_nlstO, q_nrng, q_nsort, q_nadd, q_nrep, q_nitems, q_nlcp, q_ndcp, q_dnil, q_dcons, q_iit, q_irng1, q_irng2, q_ienm, q_izip, q_iitm, q_gnm, q_gtp, q_gat, q_gsb, q_gnil, q_gcons, q_asg, q_drop, q_ret, q_retn, q_ifs, q_for, q_whl, q_pass, q_brk, q_cnt, q_dead, q_tryS, q_bnil, q_bcons]
 try rfl
def h3 : FnS := { np := 1, ns := 2, esc := false, b := fun cf mf n => (bCons (sIf (tOr (tNot (tVal (kBlt .isi (aCons (kVar 0) (aCons (kLit (.ty "str")) aNil))))) (tOr (tNot (tVal (kChn .LtE .LtE (kLit (.int 1)) (kBlt .len (aCons (kVar 0) aNil)) (kLit (.int 12))))) (tCmp .NotIn (kIdx (kVar 0) (kLit (.int 0))) (kLit (.str (Str.ofString "abcdefghijklmnopqrstuvwxyz")))))) (bCons (sRet (kLit (.bl false))) bNil) bNil) (bCons (sRet (kBlt .all (aCons (kNew false (nLcp [1] (gNm 1) (iIt (kVar 0)) (tVal (kLit (.bl true))) (kCmp .In (kVar 1) (kLit (.str (Str.ofString "abcdefghijklmnopqrstuvwxyz0123456789")))))) aNil))) bNil)) }
theorem q3 (cf mf : Calls) (n : Nat) : exB tab cf mf n F3.body = h3.b cf mf n := by
 simp only [F3, h3, q_lit, q_var, q_tup, q_tupR, q_cat, q_tupO, q_bin, q_neg, q_cmp, q_chn, q_and, q_or, q_not, q_ife, q_idx, q_slc, q_slcR, q_att, q_cal, q_mak, q_mth, q_dun, q_rev, q_tzip, q_addR, q_tupK, q_upd, q_ext, q_blt, q_new, q_app, q_popi, q_popk, q_index, q_indexT, q_join, q_get, q_tand, q_tor, q_tnot, q_tcmp, q_tv, q_anil, q_acons, q_astar, q_ono, q_oex, q_pno, q_pex, q_nlst, q_ncat, q_ndct, q_nlstO, q_nrng, q_nsort, q_nadd, q_nrep, q_nitems, q_nlcp, q_ndcp, q_dnil, q_dcons, q_iit, q_irng1, q_irng2, q_ienm, q_izip, q_iitm, q_gnm, q_gtp, q_gat, q_gsb, q_gnil, q_gcons, q_asg, q_drop, q_ret, q_retn, q_ifs, q_for, q_whl, q_pass, q_brk, q_cnt, q_dead, q_tryS, q_bnil, q_bcons]
 try rfl
def h4 : FnS := { np := 2, ns := 6, esc := false, b := fun cf mf n => (bCons (sIf (tOr (tNot (tVal (kBlt .isi (aCons (kVar 1) (aCons (kTup (aCons (kLit (.ty "list")) (aCons (kLit (.ty "tuple")) aNil))) aNil))))) (tNot (tVal (kChn .LtE .LtE (kLit (.int 2)) (kBlt .len (aCons (kVar 1) aNil)) (kLit (.int 4)))))) (bCons sDead bNil) bNil) (bCons (sFor (gNm 2) (iIt (kVar 1)) (bCons (sIf (tNot (tVal (kCal cf 5 (aCons (kVar 2) aNil)))) (bCons sDead bNil) bNil) bNil)) (bCons (sDrop (kCal cf 6 (aCons (kVar 1) aNil))) (bCons (sAsg (gNm 3) (kNew false (nLcp [2] (gNm 2) (iIt (kVar 1)) (tVal (kLit (.bl true))) (kIdx (kVar 2) (kLit (.int 1)))))) (bCons (sFor (gNm 2) (iIt (kVar 1)) (bCons (sIf (tCmp .NotIn (kIdx (kVar 2) (kLit (.int 2))) (kVar 3)) (bCons sDead bNil) bNil) bNil)) (bCons (sAsg (gNm 4) (kNew false (nLcp [2] (gNm 2) (iIt (kVar 1)) (tVal (kLit (.bl true))) (kIdx (kVar 2) (kLit (.int 2)))))) (bCons (sIf (tOr (tVal (kBlt .any (aCons (kNew false (nLcp [2] (gNm 2) (iIt (kVar 1)) (tVal (kLit (.bl true))) (kCmp .Eq (kIdx (kVar 2) (kLit (.int 1))) (kIdx (kVar 2) (kLit (.int 2)))))) aNil))) (tVal (kBlt .any (aCons (kNew false (nLcp [5] (gNm 5) (iRng1 (kBlt .len (aCons (kVar 4) aNil))) (tVal (kLit (.bl true))) (kCmp .In (kIdx (kVar 4) (kVar 5)) (kSlc (kVar 4) pNo (pEx (kVar 5)))))) aNil)))) (bCons sDead bNil) bNil) (bCons (sAsg (gAt tab (kVar 0) 0) (kTupO false (kVar 1))) bNil)))))))) }
theorem q4 (cf mf : Calls) (n : Nat) : exB tab cf mf n F4.body = h4.b cf mf n := by
 simp only [F4, h4, q_lit, q_var, q_tup, q_tupR, q_cat, q_tupO, q_bin, q_neg, q_cmp, q_chn, q_and, q_or, q_not, q_ife, q_idx, q_slc, q_slcR, q_att, q_cal, q_mak, q_mth, q_dun, q_rev, q_tzip, q_addR, q_tupK, q_upd, q_ext, q_blt, q_new, q_app, q_popi, q_popk, q_index, q_indexT, q_join, q_get, q_tand, q_tor, q_tnot, q_tcmp, q_tv, q_anil, q_acons, q_astar, q_ono, q_oex, q_pno, q_pex, q_nlst, q_ncat, q_ndct, q_nlstO, q_nrng, q_nsort, q_nadd, q_nrep, q_nitems, q_nlcp, q_ndcp, q_dnil, q_dcons, q_iit, q_irng1, q_irng2, q_ienm, q_izip, q_iitm, q_gnm, q_gtp, q_gat, q_gsb, q_gnil, q_gcons, q_asg, q_drop, q_ret, q_retn, q_ifs, q_for, q_whl, q_pass, q_brk, q_cnt, q_dead, q_tryS, q_bnil, q_bcons]
 try rfl
def h5 : FnS := { np := 1, ns := 2, esc := false, b := fun cf mf n => (bCons (sRet (kAnd (kBlt .isi (aCons (kVar 0) (aCons (kLit (.ty "tuple")) aNil))) (kAnd (kCmp .Eq (kBlt .len (aCons (kVar 0) aNil)) (kLit (.int 3))) (kBlt .all (aCons (kNew false (nLcp [1] (gNm 1) (iIt (kVar 0)) (tVal (kLit (.bl true))) (kCal cf 3 (aCons (kVar 1) aNil)))) aNil))))) bNil) }
theorem q5 (cf mf : Calls) (n : Nat) : exB tab cf mf n F5.body = h5.b cf mf n := by
 simp only [F5, h5, q_lit, q_var, q_tup, q_tupR, q_cat, q_tupO, q_bin, q_neg, q_cmp, q_chn, q_and, q_or, q_not, q_ife, q_idx, q_slc, q_slcR, q_att, q_cal, q_mak, q_mth, q_dun, q_rev, q_tzip, q_addR, q_tupK, q_upd, q_ext, q_blt, q_new, q_app, q_popi, q_popk, q_index, q_indexT, q_join, q_get, q_tand, q_tor, q_tnot, q_tcmp, q_tv, q_anil, q_acons, q_astar, q_ono, q_oex, q_pno, q_pex, q_nlst, q_ncat, q_ndct, q_nlstO, q_nrng, q_nsort, q_nadd, q_nrep, q_nitems, q_nlcp, q_ndcp, q_dnil, q_dcons, q_iit, q_irng1, q_irng2, q_ienm, q_izip, q_iitm, q_gnm, q_gtp, q_gat, q_gsb, q_gnil, q_gcons, q_asg, q_drop, q_ret, q_retn, q_ifs, q_for, q_whl, q_pass, q_brk, q_cnt, q_dead, q_tryS, q_bnil, q_bcons]
 try rfl
def h6 : FnS := { np := 1, ns := 3, esc := false, b := fun cf mf n => (bCons (sAsg (gNm 1) (kNew true (nDct dNil))) (bCons (sFor (gNm 2) (iIt (kVar 0)) (bCons (sIf (tCmp .In (kIdx (kVar 2) (kLit (.int 0))) (kVar 1)) (bCons sDead bNil) bNil) (bCons (sAsg (gSb (kVar 1) (kIdx (kVar 2) (kLit (.int 0)))) (kLit (.bl true))) bNil))) (bCons (sFor (gNm 2) (iIt (kVar 0)) (bCons (sIf (tCmp .In (kIdx (kVar 2) (kLit (.int 1))) (kVar 1)) (bCons sDead bNil) bNil) (bCons (sAsg (gSb (kVar 1) (kIdx (kVar 2) (kLit (.int 1)))) (kLit (.bl true))) bNil))) bNil))) }
theorem q6 (cf mf : Calls) (n : Nat) : exB tab cf mf n F6.body = h6.b cf mf n := by
 simp only [F6, h6, q_lit, q_var, q_tup, q_tupR, q_cat, q_tupO, q_bin, q_neg, q_cmp, q_chn, q_and, q_or, q_not, q_ife, q_idx, q_slc, q_slcR, q_att, q_cal, q_mak, q_mth, q_dun, q_rev, q_tzip, q_addR, q_tupK, q_upd, q_ext, q_blt, q_new, q_app, q_popi, q_popk, q_index, q_indexT, q_join, q_get, q_tand, q_tor, q_tnot, q_tcmp, q_tv, q_anil, q_acons, q_astar, q_ono, q_oex, q_pno, q_pex, q_nlst, q_ncat, q_ndct, q_nlstO, q_nrng, q_nsort, q_nadd, q_nrep, q_nitems, q_nlcp, q_ndcp, q_dnil, q_dcons, q_iit, q_irng1, q_irng2, q_ienm, q_izip, q_iitm, q_gnm, q_gtp, q_gat, q_gsb, q_gnil, q_gcons, q_asg, q_drop, q_ret, q_retn, q_ifs, q_for, q_whl, q_pass, q_brk, q_cnt, q_dead, q_tryS, q_bnil, q_bcons]
 try rfl
def h7 : FnS := { np := 2, ns := 2, esc := false, b := fun cf mf n => (bCons (sAsg (gAt tab (kVar 0) 0) (kCal cf 1 (aCons (kVar 1) aNil))) bNil) }
theorem q7 (cf mf : Calls) (n : Nat) : exB tab cf mf n F7.body = h7.b cf mf n := by
 simp only [F7, h7, q_lit, q_var, q_tup, q_tupR, q_cat, q_tupO, q_bin, q_neg, q_cmp, q_chn, q_and, q_or, q_not, q_ife, q_idx, q_slc, q_slcR, q_att, q_cal, q_mak, q_mth, q_dun, q_rev, q_tzip, q_addR, q_tupK, q_upd, q_ext, q_blt, q_new, q_app, q_popi, q_popk, q_index, q_indexT, q_join, q_get, q_tand, q_tor, q_tnot, q_tcmp, q_tv, q_anil, q_acons, q_astar, q_ono, q_oex, q_pno, q_pex, q_nlst, q_ncat, q_ndct, q_nlstO, q_nrng, q_nsort, q_nadd, q_nrep, q_nitems, q_nlcp, q_ndcp, q_dnil, q_dcons, q_iit, q_irng1, q_irng2, q_ienm, q_izip, q_iitm, q_gnm, q_gtp, q_gat, q_gsb, q_gnil, q_gcons, q_asg, q_drop, q_ret, q_retn, q_ifs, q_for, q_whl, q_pass, q_brk, q_cnt, q_dead, q_tryS, q_bnil, q_bcons]
 try rfl
def h8 : FnS := { np := 2, ns := 2, esc := false, b := fun cf mf n => (bCons (sRet (kAnd (kBlt .isi (aCons (kVar 1) (aCons (kLit (.cls 1)) aNil))) (kCmp .Eq (kAtt (kVar 0) 0) (kAtt (kVar 1) 0)))) bNil) }
theorem q8 (cf mf : Calls) (n : Nat) : exB tab cf mf n F8.body = h8.b cf mf n := by
 simp only [F8, h8, q_lit, q_var, q_tup, q_tupR, q_cat, q_tupO, q_bin, q_neg, q_cmp, q_chn, q_and, q_or, q_not, q_ife, q_idx, q_slc, q_slcR, q_att, q_cal, q_mak, q_mth, q_dun, q_rev, q_tzip, q_addR, q_tupK, q_upd, q_ext, q_blt, q_new, q_app, q_popi, q_popk, q_index, q_indexT, q_join, q_get, q_tand, q_tor, q_tnot, q_tcmp, q_tv, q_anil, q_acons, q_astar, q_ono, q_oex, q_pno, q_pex, q_nlst, q_ncat, q_ndct, q_nlstO, q_nrng, q_nsort, q_nadd, q_nrep, q_nitems, q_nlcp, q_ndcp, q_dnil, q_dcons, q_iit, q_irng1, q_irng2, q_ienm, q_izip, q_iitm, q_gnm, q_gtp, q_gat, q_gsb, q_gnil, q_gcons, q_asg, q_drop, q_ret, q_retn, q_ifs, q_for, q_whl, q_pass, q_brk, q_cnt, q_dead, q_tryS, q_bnil, q_bcons]
 try rfl
def h9 : FnS := { np := 2, ns := 2, esc := false, b := fun cf mf n => (bCons (sRet (kNot (kDun tab cf 5 (kVar 0) (kVar 1)))) bNil) }
theorem q9 (cf mf : Calls) (n : Nat) : exB tab cf mf n F9.body = h9.b cf mf n := by
 simp only [F9, h9, q_lit, q_var, q_tup, q_tupR, q_cat, q_tupO, q_bin, q_neg, q_cmp, q_chn, q_and, q_or, q_not, q_ife, q_idx, q_slc, q_slcR, q_att, q_cal, q_mak, q_mth, q_dun, q_rev, q_tzip, q_addR, q_tupK, q_upd, q_ext, q_blt, q_new, q_app, q_popi, q_popk, q_index, q_indexT, q_join, q_get, q_tand, q_tor, q_tnot, q_tcmp, q_tv, q_anil, q_acons, q_astar, q_ono, q_oex, q_pno, q_pex, q_nlst, q_ncat, q_ndct, q_nlstO, q_nrng, q_nsort, q_nadd, q_nrep, q_nitems, q_nlcp, q_ndcp, q_dnil, q_dcons, q_iit, q_irng1, q_irng2, q_ienm, q_izip, q_iitm, q_gnm, q_gtp, q_gat, q_gsb, q_gnil, q_gcons, q_asg, q_drop, q_ret, q_retn, q_ifs, q_for, q_whl, q_pass, q_brk, q_cnt, q_dead, q_tryS, q_bnil, q_bcons]
 try rfl
def h10 : FnS := { np := 1, ns := 3, esc := false, b := fun cf mf n => (bCons (sIf (tOr (tNot (tVal (kBlt .isi (aCons (kVar 0) (aCons (kLit (.ty "tuple")) aNil))))) (tOr (tCmp .NotEq (kBlt .len (aCons (kVar 0) aNil)) (kLit (.int 3))) (tOr (tNot (tVal (kCal cf 3 (aCons (kIdx (kVar 0) (kLit (.int 0))) aNil)))) (tNot (tVal (kCal cf 3 (aCons (kIdx (kVar 0) (kLit (.int 1))) aNil))))))) (bCons (sRet (kLit (.bl false))) bNil) bNil) (bCons (sIf (tOr (tNot (tVal (kBlt .isi (aCons (kIdx (kVar 0) (kLit (.int 2))) (aCons (kLit (.ty "tuple")) aNil))))) (tNot (tVal (kBlt .all (aCons (kNew false (nLcp [1] (gNm 1) (iIt (kIdx (kVar 0) (kLit (.int 2)))) (tVal (kLit (.bl true))) (kCal cf 3 (aCons (kVar 1) aNil)))) aNil))))) (bCons (sRet (kLit (.bl false))) bNil) bNil) (bCons (sRet (kNot (kBlt .any (aCons (kNew false (nLcp [2] (gNm 2) (iRng1 (kBlt .len (aCons (kIdx (kVar 0) (kLit (.int 2))) aNil))) (tVal (kLit (.bl true))) (kCmp .In (kIdx (kIdx (kVar 0) (kLit (.int 2))) (kVar 2)) (kSlc (kIdx (kVar 0) (kLit (.int 2))) pNo (pEx (kVar 2)))))) aNil)))) bNil))) }
theorem q10 (cf mf : Calls) (n : Nat) : exB tab cf mf n F10.body = h10.b cf mf n := by
 simp only [F10, h10, q_lit, q_var, q_tup, q_tupR, q_cat, q_tupO, q_bin, q_neg, q_cmp, q_chn, q_and, q_or, q_not, q_ife, q_idx, q_slc, q_slcR, q_att, q_cal, q_mak, q_mth, q_dun, q_rev, q_tzip, q_addR, q_tupK, q_upd, q_ext, q_blt, q_new, q_app, q_popi, q_popk, q_index, q_indexT, q_join, q_get, q_tand, q_tor, q_tnot, q_tcmp, q_tv, q_anil, q_acons, q_astar, q_ono, q_oex, q_pno, q_pex, q_nlst, q_ncat, q_ndct, q_nlstO, q_nrng, q_nsort, q_nadd, q_nrep, q_nitems, q_nlcp, q_ndcp, q_dnil, q_dcons, q_iit, q_irng1, q_irng2, q_ienm, q_izip, q_iitm, q_gnm, q_gtp, q_gat, q_gsb, q_gnil, q_gcons, q_asg, q_drop, q_ret, q_retn, q_ifs, q_for, q_whl, q_pass, q_brk, q_cnt, q_dead, q_tryS, q_bnil, q_bcons]
 try rfl
def h11 : FnS := { np := 1, ns := 4, esc := false, b := fun cf mf n => (bCons (sIf (tOr (tNot (tVal (kBlt .isi (aCons (kVar 0) (aCons (kTup (aCons (kLit (.ty "list")) (aCons (kLit (.ty "tuple")) aNil))) aNil))))) (tOr (tNot (tVal (kChn .LtE .LtE (kLit (.int 2)) (kBlt .len (aCons (kVar 0) aNil)) (kLit (.int 4))))) (tNot (tVal (kBlt .all (aCons (kNew false (nLcp [2] (gNm 2) (iIt (kVar 0)) (tVal (kLit (.bl true))) (kCal cf 10 (aCons (kVar 2) aNil)))) aNil)))))) (bCons (sRet (kLit (.bl false))) bNil) bNil) (bCons (sTry (bCons (sDrop (kCal cf 6 (aCons (kVar 0) aNil))) bNil)) (bCons (sAsg (gNm 1) (kNew false (nLcp [2] (gNm 2) (iIt (kVar 0)) (tVal (kLit (.bl true))) (kIdx (kVar 2) (kLit (.int 1)))))) (bCons (sRet (kBlt .all (aCons (kNew false (nLcp [2] (gNm 2) (iIt (kVar 0)) (tVal (kLit (.bl true))) (kBlt .all (aCons (kNew false (nLcp [3] (gNm 3) (iIt (kIdx (kVar 2) (kLit (.int 2)))) (tVal (kLit (.bl true))) (kAnd (kCmp .In (kVar 3) (kVar 1)) (kCmp .NotEq (kVar 3) (kIdx (kVar 2) (kLit (.int 1))))))) aNil)))) aNil))) bNil)))) }
theorem q11 (cf mf : Calls) (n : Nat) : exB tab cf mf n F11.body = h11.b cf mf n := by
 simp only [F11, h11, q_lit, q_var, q_tup, q_tupR, q_cat, q_tupO, q_bin, q_neg, q_cmp, q_chn, q_and, q_or, q_not, q_ife, q_idx, q_slc, q_slcR, q_att, q_cal, q_mak, q_mth, q_dun, q_rev, q_tzip, q_addR, q_tupK, q_upd, q_ext, q_blt, q_new, q_app, q_popi, q_popk, q_index, q_indexT, q_join, q_get, q_tand, q_tor, q_tnot, q_tcmp, q_tv, q_anil, q_acons, q_astar, q_ono, q_oex, q_pno, q_pex, q_nlst, q_ncat, q_ndct, q_nlstO, q_nrng, q_nsort, q_nadd, q_nrep, q_nitems, q_nlcp, q_ndcp, q_dnil, q_dcons, q_iit, q_irng1, q_irng2, q_ienm, q_izip, q_iitm, q_gnm, q_gtp, q_gat, q_gsb, q_gnil, q_gcons, q_asg, q_drop, q_ret, q_retn, q_ifs, q_for, q_whl, q_pass, q_brk, q_cnt, q_dead, q_tryS, q_bnil, q_bcons]
 try rfl
def h12 : FnS := { np := 1, ns := 1, esc := false, b := fun cf mf n => (bCons (sIf (tNot (tVal (kCal cf 11 (aCons (kVar 0) aNil)))) (bCons sDead bNil) bNil) (bCons (sRet (kTupO false (kVar 0))) bNil)) }
theorem q12 (cf mf : Calls) (n : Nat) : exB tab cf mf n F12.body = h12.b cf mf n := by
 simp only [F12, h12, q_lit, q_var, q_tup, q_tupR, q_cat, q_tupO, q_bin, q_neg, q_cmp, q_chn, q_and, q_or, q_not, q_ife, q_idx, q_slc, q_slcR, q_att, q_cal, q_mak, q_mth, q_dun, q_rev, q_tzip, q_addR, q_tupK, q_upd, q_ext, q_blt, q_new, q_app, q_popi, q_popk, q_index, q_indexT, q_join, q_get, q_tand, q_tor, q_tnot, q_tcmp, q_tv, q_anil, q_acons, q_astar, q_ono, q_oex, q_pno, q_pex, q_nlst, q_ncat, q_ndct, q_nlstO, q_nrng, q_nsort, q_nadd, q_nrep, q_nitems, q_nlcp, q_ndcp, q_dnil, q_dcons, q_iit, q_irng1, q_irng2, q_ienm, q_izip, q_iitm, q_gnm, q_gtp, q_gat, q_gsb, q_gnil, q_gcons, q_asg, q_drop, q_ret, q_retn, q_ifs, q_for, q_whl, q_pass, q_brk, q_cnt, q_dead, q_tryS, q_bnil, q_bcons]
 try rfl
def h13 : FnS := { np := 2, ns := 13, esc := false, b := fun cf mf n => (bCons (sAsg (gNm 2) (kNew false (nLcp [4] (gNm 4) (iIt (kVar 1)) (tVal (kLit (.bl true))) (kIdx (kIdx (kVar 0) (kVar 4)) (kLit (.int 1)))))) (bCons (sAsg (gNm 3) (kNew false (nLst (aCons (kTup aNil) aNil)))) (bCons (sFor (gNm 4) (iIt (kVar 1)) (bCons (sAsg (gTp 3 (gCons (gNm 5) (gCons (gNm 6) (gCons (gNm 7) gNil)))) (kIdx (kVar 0) (kVar 4))) (bCons (sAsg (gNm 8) (kNew true (nLst aNil))) (bCons (sFor (gNm 9) (iIt (kVar 3)) (bCons (sAsg (gNm 10) (kNew false (nLcp [12] (gNm 12) (iIt (kVar 9)) (tVal (kLit (.bl true))) (kIdx (kVar 12) (kLit (.int 2)))))) (bCons (sFor (gNm 11) (iIt (kVar 7)) (bCons (sIf (tAnd (tCmp .In (kVar 11) (kVar 2)) (tCmp .NotIn (kVar 11) (kVar 10))) (bCons (sDrop (kApp (kVar 8) (kBin .Add (kVar 9) (kTup (aCons (kTup (aCons (kVar 5) (aCons (kVar 6) (aCons (kVar 11) aNil)))) aNil))))) bNil) bNil) bNil)) bNil))) (bCons (sAsg (gNm 3) (kVar 8)) bNil))))) (bCons (sRet (kVar 3)) bNil)))) }
theorem q13 (cf mf : Calls) (n : Nat) : exB tab cf mf n F13.body = h13.b cf mf n := by
 simp only [F13, h13, q_lit, q_var, q_tup, q_tupR, q_cat, q_tupO, q_bin, q_neg, q_cmp, q_chn, q_and, q_or, q_not, q_ife, q_idx, q_slc, q_slcR, q_att, q_cal, q_mak, q_mth, q_dun, q_rev, q_tzip, q_addR, q_tupK, q_upd, q_ext, q_blt, q_new, q_app, q_popi, q_popk, q_index, q_indexT, q_join, q_get, q_tand, q_tor, q_tnot, q_tcmp, q_tv, q_anil, q_acons, q_astar, q_ono, q_oex, q_pno, q_pex, q_nlst, q_ncat, q_ndct, q_nlstO, q_nrng, q_nsort, q_nadd, q_nrep, q_nitems, q_nlcp, q_ndcp, q_dnil, q_dcons, q_iit, q_irng1, q_irng2, q_ienm, q_izip, q_iitm, q_gnm, q_gtp, q_gat, q_gsb, q_gnil, q_gcons, q_asg, q_drop, q_ret, q_retn, q_ifs, q_for, q_whl, q_pass, q_brk, q_cnt, q_dead, q_tryS, q_bnil, q_bcons]
 try rfl
def h14 : FnS := { np := 1, ns := 4, esc := false, b := fun cf mf n => (bCons (sAsg (gNm 1) (kNew false (nLst (aCons (kTup aNil) aNil)))) (bCons (sFor (gNm 2) (iRng1 (kVar 0)) (bCons (sAsg (gNm 1) (kBin .Add (kVar 1) (kNew false (nLcp [3] (gNm 3) (iIt (kVar 1)) (tVal (kLit (.bl true))) (kBin .Add (kVar 3) (kTup (aCons (kVar 2) aNil))))))) bNil)) (bCons (sRet (kNew false (nLcp [3] (gNm 3) (iIt (kNew false (nSort (kVar 1)))) (tCmp .Gt (kBlt .len (aCons (kVar 3) aNil)) (kLit (.int 1))) (kVar 3)))) bNil))) }
theorem q14 (cf mf : Calls) (n : Nat) : exB tab cf mf n F14.body = h14.b cf mf n := by
 simp only [F14, h14, q_lit, q_var, q_tup, q_tupR, q_cat, q_tupO, q_bin, q_neg, q_cmp, q_chn, q_and, q_or, q_not, q_ife, q_idx, q_slc, q_slcR, q_att, q_cal, q_mak, q_mth, q_dun, q_rev, q_tzip, q_addR, q_tupK, q_upd, q_ext, q_blt, q_new, q_app, q_popi, q_popk, q_index, q_indexT, q_join, q_get, q_tand, q_tor, q_tnot, q_tcmp, q_tv, q_anil, q_acons, q_astar, q_ono, q_oex, q_pno, q_pex, q_nlst, q_ncat, q_ndct, q_nlstO, q_nrng, q_nsort, q_nadd, q_nrep, q_nitems, q_nlcp, q_ndcp, q_dnil, q_dcons, q_iit, q_irng1, q_irng2, q_ienm, q_izip, q_iitm, q_gnm, q_gtp, q_gat, q_gsb, q_gnil, q_gcons, q_asg, q_drop, q_ret, q_retn, q_ifs, q_for, q_whl, q_pass, q_brk, q_cnt, q_dead, q_tryS, q_bnil, q_bcons]
 try rfl
def h15 : FnS := { np := 1, ns := 3, esc := false, b := fun cf mf n => (bCons (sAsg (gNm 1) (kNew true (nLst aNil))) (bCons (sFor (gNm 2) (iIt (kCal cf 14 (aCons (kBlt .len (aCons (kVar 0) aNil)) aNil))) (bCons (sDrop (kExt (kVar 1) (kCal cf 13 (aCons (kVar 0) (aCons (kVar 2) aNil))))) bNil)) (bCons (sRet (kNew false (nSort (kVar 1)))) bNil))) }
theorem q15 (cf mf : Calls) (n : Nat) : exB tab cf mf n F15.body = h15.b cf mf n := by
 simp only [F15, h15, q_lit, q_var, q_tup, q_tupR, q_cat, q_tupO, q_bin, q_neg, q_cmp, q_chn, q_and, q_or, q_not, q_ife, q_idx, q_slc, q_slcR, q_att, q_cal, q_mak, q_mth, q_dun, q_rev, q_tzip, q_addR, q_tupK, q_upd, q_ext, q_blt, q_new, q_app, q_popi, q_popk, q_index, q_indexT, q_join, q_get, q_tand, q_tor, q_tnot, q_tcmp, q_tv, q_anil, q_acons, q_astar, q_ono, q_oex, q_pno, q_pex, q_nlst, q_ncat, q_ndct, q_nlstO, q_nrng, q_nsort, q_nadd, q_nrep, q_nitems, q_nlcp, q_ndcp, q_dnil, q_dcons, q_iit, q_irng1, q_irng2, q_ienm, q_izip, q_iitm, q_gnm, q_gtp, q_gat, q_gsb, q_gnil, q_gcons, q_asg, q_drop, q_ret, q_retn, q_ifs, q_for, q_whl, q_pass, q_brk, q_cnt, q_dead, q_tryS, q_bnil, q_bcons]
 try rfl
def h16 : FnS := { np := 1, ns := 1, esc := false, b := fun cf mf n => (bCons (sRet (kTupO false (kCal cf 15 (aCons (kCal cf 12 (aCons (kVar 0) aNil)) aNil)))) bNil) }
theorem q16 (cf mf : Calls) (n : Nat) : exB tab cf mf n F16.body = h16.b cf mf n := by
 simp only [F16, h16, q_lit, q_var, q_tup, q_tupR, q_cat, q_tupO, q_bin, q_neg, q_cmp, q_chn, q_and, q_or, q_not, q_ife, q_idx, q_slc, q_slcR, q_att, q_cal, q_mak, q_mth, q_dun, q_rev, q_tzip, q_addR, q_tupK, q_upd, q_ext, q_blt, q_new, q_app, q_popi, q_popk, q_index, q_indexT, q_join, q_get, q_tand, q_tor, q_tnot, q_tcmp, q_tv, q_anil, q_acons, q_astar, q_ono, q_oex, q_pno, q_pex, q_nlst, q_ncat, q_ndct, q_nlstO, q_nrng, q_nsort, q_nadd, q_nrep, q_nitems, q_nlcp, q_ndcp, q_dnil, q_dcons, q_iit, q_irng1, q_irng2, q_ienm, q_izip, q_iitm, q_gnm, q_gtp, q_gat, q_gsb, q_gnil, q_gcons, q_asg, q_drop, q_ret, q_retn, q_ifs, q_for, q_whl, q_pass, q_brk, q_cnt, q_dead, q_tryS, q_bnil, q_bcons]
 try rfl
def h17 : FnS := { np := 1, ns := 4, esc := false, b := fun cf mf n => (bCons (sAsg (gNm 1) (kCal cf 15 (aCons (kCal cf 12 (aCons (kVar 0) aNil)) aNil))) (bCons (sIf (tNot (tVal (kVar 1))) (bCons (sRet (kTup (aCons (kLit (.int 0)) (aCons (kTup aNil) aNil)))) bNil) bNil) (bCons (sAsg (gNm 2) (kBlt .max (aCons (kNew false (nLcp [3] (gNm 3) (iIt (kVar 1)) (tVal (kLit (.bl true))) (kBlt .len (aCons (kVar 3) aNil)))) aNil))) (bCons (sRet (kTup (aCons (kVar 2) (aCons (kIdx (kNew false (nLcp [3] (gNm 3) (iIt (kVar 1)) (tCmp .Eq (kBlt .len (aCons (kVar 3) aNil)) (kVar 2)) (kVar 3))) (kLit (.int 0))) aNil)))) bNil)))) }
theorem q17 (cf mf : Calls) (n : Nat) : exB tab cf mf n F17.body = h17.b cf mf n := by
 simp only [F17, h17, q_lit, q_var, q_tup, q_tupR, q_cat, q_tupO, q_bin, q_neg, q_cmp, q_chn, q_and, q_or, q_not, q_ife, q_idx, q_slc, q_slcR, q_att, q_cal, q_mak, q_mth, q_dun, q_rev, q_tzip, q_addR, q_tupK, q_upd, q_ext, q_blt, q_new, q_app, q_popi, q_popk, q_index, q_indexT, q_join, q_get, q_tand, q_tor, q_tnot, q_tcmp, q_tv, q_anil, q_acons, q_astar, q_ono, q_oex, q_pno, q_pex, q_nlst, q_ncat, q_ndct, q_nlstO, q_nrng, q_nsort, q_nadd, q_nrep, q_nitems, q_nlcp, q_ndcp, q_dnil, q_dcons, q_iit, q_irng1, q_irng2, q_ienm, q_izip, q_iitm, q_gnm, q_gtp, q_gat, q_gsb, q_gnil, q_gcons, q_asg, q_drop, q_ret, q_retn, q_ifs, q_for, q_whl, q_pass, q_brk, q_cnt, q_dead, q_tryS, q_bnil, q_bcons]
 try rfl
def h18 : FnS := { np := 2, ns := 5, esc := false, b := fun cf mf n => (bCons (sAsg (gNm 2) (kCal cf 12 (aCons (kVar 0) aNil))) (bCons (sIf (tOr (tNot (tVal (kBlt .isi (aCons (kVar 1) (aCons (kLit (.cls 1)) aNil))))) (tOr (tNot (tVal (kBlt .isi (aCons (kAtt (kVar 1) 0) (aCons (kLit (.ty "tuple")) aNil))))) (tCmp .Lt (kBlt .len (aCons (kAtt (kVar 1) 0) aNil)) (kLit (.int 2))))) (bCons (sRet (kLit (.bl false))) bNil) bNil) (bCons (sIf (tNot (tVal (kBlt .all (aCons (kNew false (nLcp [3] (gNm 3) (iIt (kAtt (kVar 1) 0)) (tVal (kLit (.bl true))) (kCal cf 2 (aCons (kVar 3) (aCons (kBlt .len (aCons (kVar 2) aNil)) aNil))))) aNil)))) (bCons (sRet (kLit (.bl false))) bNil) bNil) (bCons (sIf (tVal (kBlt .any (aCons (kNew false (nLcp [4] (gNm 4) (iRng1 (kBin .Sub (kBlt .len (aCons (kAtt (kVar 1) 0) aNil)) (kLit (.int 1)))) (tVal (kLit (.bl true))) (kCmp .GtE (kIdx (kAtt (kVar 1) 0) (kVar 4)) (kIdx (kAtt (kVar 1) 0) (kBin .Add (kVar 4) (kLit (.int 1))))))) aNil))) (bCons (sRet (kLit (.bl false))) bNil) bNil) (bCons (sRet (kCmp .Gt (kBlt .len (aCons (kCal cf 13 (aCons (kVar 2) (aCons (kAtt (kVar 1) 0) aNil))) aNil)) (kLit (.int 0)))) bNil))))) }
theorem q18 (cf mf : Calls) (n : Nat) : exB tab cf mf n F18.body = h18.b cf mf n := by
 simp only [F18, h18, q_lit, q_var, q_tup, q_tupR, q_cat, q_tupO, q_bin, q_neg, q_cmp, q_chn, q_and, q_or, q_not, q_ife, q_idx, q_slc, q_slcR, q_att, q_cal, q_mak, q_mth, q_dun, q_rev, q_tzip, q_addR, q_tupK, q_upd, q_ext, q_blt, q_new, q_app, q_popi, q_popk, q_index, q_indexT, q_join, q_get, q_tand, q_tor, q_tnot, q_tcmp, q_tv, q_anil, q_acons, q_astar, q_ono, q_oex, q_pno, q_pex, q_nlst, q_ncat, q_ndct, q_nlstO, q_nrng, q_nsort, q_nadd, q_nrep, q_nitems, q_nlcp, q_ndcp, q_dnil, q_dcons, q_iit, q_irng1, q_irng2, q_ienm, q_izip, q_iitm, q_gnm, q_gtp, q_gat, q_gsb, q_gnil, q_gcons, q_asg, q_drop, q_ret, q_retn, q_ifs, q_for, q_whl, q_pass, q_brk, q_cnt, q_dead, q_tryS, q_bnil, q_bcons]
 try rfl
def h19 : FnS := { np := 1, ns := 5, esc := false, b := fun cf mf n => (bCons (sAsg (gNm 1) (kCal cf 12 (aCons (kVar 0) aNil))) (bCons (sAsg (gNm 2) (kNew true (nDct dNil))) (bCons (sFor (gNm 3) (iIt (kCal cf 15 (aCons (kVar 1) aNil))) (bCons (sFor (gNm 4) (iIt (kVar 3)) (bCons (sAsg (gSb (kVar 2) (kIdx (kVar 4) (kLit (.int 0)))) (kLit (.bl true))) bNil)) bNil)) (bCons (sRet (kTupO false (kNew false (nSort (kNew false (nLcp [4] (gNm 4) (iIt (kVar 1)) (tCmp .NotIn (kIdx (kVar 4) (kLit (.int 0))) (kVar 2)) (kIdx (kVar 4) (kLit (.int 0))))))))) bNil)))) }
theorem q19 (cf mf : Calls) (n : Nat) : exB tab cf mf n F19.body = h19.b cf mf n := by
 simp only [F19, h19, q_lit, q_var, q_tup, q_tupR, q_cat, q_tupO, q_bin, q_neg, q_cmp, q_chn, q_and, q_or, q_not, q_ife, q_idx, q_slc, q_slcR, q_att, q_cal, q_mak, q_mth, q_dun, q_rev, q_tzip, q_addR, q_tupK, q_upd, q_ext, q_blt, q_new, q_app, q_popi, q_popk, q_index, q_indexT, q_join, q_get, q_tand, q_tor, q_tnot, q_tcmp, q_tv, q_anil, q_acons, q_astar, q_ono, q_oex, q_pno, q_pex, q_nlst, q_ncat, q_ndct, q_nlstO, q_nrng, q_nsort, q_nadd, q_nrep, q_nitems, q_nlcp, q_ndcp, q_dnil, q_dcons, q_iit, q_irng1, q_irng2, q_ienm, q_izip, q_iitm, q_gnm, q_gtp, q_gat, q_gsb, q_gnil, q_gcons, q_asg, q_drop, q_ret, q_retn, q_ifs, q_for, q_whl, q_pass, q_brk, q_cnt, q_dead, q_tryS, q_bnil, q_bcons]
 try rfl
def h20 : FnS := { np := 2, ns := 7, esc := false, b := fun cf mf n => (bCons (sAsg (gNm 2) (kCal cf 15 (aCons (kCal cf 12 (aCons (kVar 0) aNil)) aNil))) (bCons (sAsg (gNm 3) (kIfe (tVal (kBlt .isi (aCons (kVar 1) (aCons (kLit (.ty "list")) aNil)))) (kTupO false (kVar 1)) (kVar 1))) (bCons (sIf (tAnd (tCmp .NotEq (kVar 3) (kTup aNil)) (tCmp .NotIn (kVar 3) (kVar 2))) (bCons sDead bNil) bNil) (bCons (sAsg (gNm 4) (kNew false (nLcp [6] (gNm 6) (iIt (kVar 3)) (tVal (kLit (.bl true))) (kIdx (kVar 6) (kLit (.int 0)))))) (bCons (sFor (gNm 5) (iIt (kVar 2)) (bCons (sIf (tNot (tVal (kBlt .any (aCons (kNew false (nLcp [6] (gNm 6) (iIt (kVar 5)) (tVal (kLit (.bl true))) (kCmp .In (kIdx (kVar 6) (kLit (.int 0))) (kVar 4)))) aNil)))) (bCons (sRet (kVar 5)) bNil) bNil) bNil)) (bCons (sRet (kLit .non)) bNil)))))) }
theorem q20 (cf mf : Calls) (n : Nat) : exB tab cf mf n F20.body = h20.b cf mf n := by
 simp only [F20, h20, q_lit, q_var, q_tup, q_tupR, q_cat, q_tupO, q_bin, q_neg, q_cmp, q_chn, q_and, q_or, q_not, q_ife, q_idx, q_slc, q_slcR, q_att, q_cal, q_mak, q_mth, q_dun, q_rev, q_tzip, q_addR, q_tupK, q_upd, q_ext, q_blt, q_new, q_app, q_popi, q_popk, q_index, q_indexT, q_join, q_get, q_tand, q_tor, q_tnot, q_tcmp, q_tv, q_anil, q_acons, q_astar, q_ono, q_oex, q_pno, q_pex, q_nlst, q_ncat, q_ndct, q_nlstO, q_nrng, q_nsort, q_nadd, q_nrep, q_nitems, q_nlcp, q_ndcp, q_dnil, q_dcons, q_iit, q_irng1, q_irng2, q_ienm, q_izip, q_iitm, q_gnm, q_gtp, q_gat, q_gsb, q_gnil, q_gcons, q_asg, q_drop, q_ret, q_retn, q_ifs, q_for, q_whl, q_pass, q_brk, q_cnt, q_dead, q_tryS, q_bnil, q_bcons]
 try rfl
def h21 : FnS := { np := 1, ns := 3, esc := true, b := fun cf mf n => (bCons (sAsg (gNm 1) (kLit (.int 0))) (bCons (sFor (gNm 2) (iIt (kVar 0)) (bCons (sAsg (gNm 1) (kBin .Mod (kBlt .int (aCons (kBin .Add (kBin .Mult (kVar 1) (kLit (.int 47))) (kVar 2)) aNil)) (kLit (.int 1000000007)))) bNil)) (bCons (sRet (kNew true (nDct (dCons (kLit (.str (Str.ofString "cells"))) (kNew false (nLstO (kVar 0))) (dCons (kLit (.str (Str.ofString "at"))) (kLit (.int 0)) (dCons (kLit (.str (Str.ofString "digits"))) (kLit (.int 0)) (dCons (kLit (.str (Str.ofString "count"))) (kLit (.int 0)) (dCons (kLit (.str (Str.ofString "fold"))) (kVar 1) dNil)))))))) bNil))) }
theorem q21 (cf mf : Calls) (n : Nat) : exB tab cf mf n F21.body = h21.b cf mf n := by
 simp only [F21, h21, q_lit, q_var, q_tup, q_tupR, q_cat, q_tupO, q_bin, q_neg, q_cmp, q_chn, q_and, q_or, q_not, q_ife, q_idx, q_slc, q_slcR, q_att, q_cal, q_mak, q_mth, q_dun, q_rev, q_tzip, q_addR, q_tupK, q_upd, q_ext, q_blt, q_new, q_app, q_popi, q_popk, q_index, q_indexT, q_join, q_get, q_tand, q_tor, q_tnot, q_tcmp, q_tv, q_anil, q_acons, q_astar, q_ono, q_oex, q_pno, q_pex, q_nlst, q_ncat, q_ndct, q_nlstO, q_nrng, q_nsort, q_nadd, q_nrep, q_nitems, q_nlcp, q_ndcp, q_dnil, q_dcons, q_iit, q_irng1, q_irng2, q_ienm, q_izip, q_iitm, q_gnm, q_gtp, q_gat, q_gsb, q_gnil, q_gcons, q_asg, q_drop, q_ret, q_retn, q_ifs, q_for, q_whl, q_pass, q_brk, q_cnt, q_dead, q_tryS, q_bnil, q_bcons]
 try rfl
def h22 : FnS := { np := 2, ns := 5, esc := false, b := fun cf mf n => (bCons (sAsg (gSb (kVar 0) (kLit (.str (Str.ofString "count")))) (kBin .Add (kIdx (kVar 0) (kLit (.str (Str.ofString "count")))) (kLit (.int 1)))) (bCons (sIf (tAnd (tCmp .Eq (kIdx (kVar 0) (kLit (.str (Str.ofString "digits")))) (kLit (.int 0))) (tCmp .Lt (kIdx (kVar 0) (kLit (.str (Str.ofString "at")))) (kBlt .len (aCons (kIdx (kVar 0) (kLit (.str (Str.ofString "cells")))) aNil)))) (bCons (sAsg (gNm 2) (kIdx (kIdx (kVar 0) (kLit (.str (Str.ofString "cells")))) (kIdx (kVar 0) (kLit (.str (Str.ofString "at")))))) (bCons (sAsg (gSb (kVar 0) (kLit (.str (Str.ofString "at")))) (kBin .Add (kIdx (kVar 0) (kLit (.str (Str.ofString "at")))) (kLit (.int 1)))) (bCons (sIf (tCmp .GtE (kVar 2) (kBin .Pow (kLit (.int 10)) (kLit (.int 18)))) (bCons (sAsg (gSb (kVar 0) (kLit (.str (Str.ofString "digits")))) (kBin .Sub (kVar 2) (kBin .Pow (kLit (.int 10)) (kLit (.int 18))))) bNil) (bCons (sAsg (gSb (kVar 0) (kLit (.str (Str.ofString "fold")))) (kBin .Mod (kBlt .int (aCons (kBin .Add (kBin .Mult (kIdx (kVar 0) (kLit (.str (Str.ofString "fold")))) (kLit (.int 69069))) (kVar 2)) aNil)) (kLit (.int 2147483587)))) bNil)) bNil))) bNil) (bCons (sIf (tCmp .Gt (kIdx (kVar 0) (kLit (.str (Str.ofString "digits")))) (kLit (.int 0))) (bCons (sAsg (gNm 3) (kBin .Mod (kBlt .int (aCons (kIdx (kVar 0) (kLit (.str (Str.ofString "digits")))) aNil)) (kVar 1))) (bCons (sAsg (gSb (kVar 0) (kLit (.str (Str.ofString "digits")))) (kBin .FloorDiv (kIdx (kVar 0) (kLit (.str (Str.ofString "digits")))) (kVar 1))) (bCons (sRet (kVar 3)) bNil))) bNil) (bCons (sAsg (gNm 4) (kBin .Mod (kBlt .int (aCons (kBin .Add (kBin .Add (kBin .Mult (kIdx (kVar 0) (kLit (.str (Str.ofString "fold")))) (kLit (.int 48271))) (kBin .Mult (kIdx (kVar 0) (kLit (.str (Str.ofString "count")))) (kLit (.int 7919)))) (kLit (.int 13))) aNil)) (kLit (.int 2147483647)))) (bCons (sAsg (gNm 4) (kBin .Mod (kBlt .int (aCons (kBin .Add (kBin .Add (kBin .Mult (kVar 4) (kVar 4)) (kBin .Mult (kLit (.int 31)) (kVar 4))) (kIdx (kVar 0) (kLit (.str (Str.ofString "count"))))) aNil)) (kLit (.int 2147483629)))) (bCons (sAsg (gSb (kVar 0) (kLit (.str (Str.ofString "fold")))) (kBin .Mod (kBlt .int (aCons (kBin .Add (kBin .Mult (kVar 4) (kLit (.int 16807))) (kLit (.int 7))) aNil)) (kLit (.int 2147483647)))) (bCons (sRet (kBin .Mod (kBlt .int (aCons (kBin .FloorDiv (kVar 4) (kLit (.int 64))) aNil)) (kVar 1))) bNil))))))) }
theorem q22 (cf mf : Calls) (n : Nat) : exB tab cf mf n F22.body = h22.b cf mf n := by
 simp only [F22, h22, q_lit, q_var, q_tup, q_tupR, q_cat, q_tupO, q_bin, q_neg, q_cmp, q_chn, q_and, q_or, q_not, q_ife, q_idx, q_slc, q_slcR, q_att, q_cal, q_mak, q_mth, q_dun, q_rev, q_tzip, q_addR, q_tupK, q_upd, q_ext, q_blt, q_new, q_app, q_popi, q_popk, q_index, q_indexT, q_join, q_get, q_tand, q_tor, q_tnot, q_tcmp, q_tv, q_anil, q_acons, q_astar, q_ono, q_oex, q_pno, q_pex, q_nlst, q_ncat, q_ndct, q_nlstO, q_nrng, q_nsort, q_nadd, q_nrep, q_nitems, q_nlcp, q_ndcp, q_dnil, q_dcons, q_iit, q_irng1, q_irng2, q_ienm, q_izip, q_iitm, q_gnm, q_gtp, q_gat, q_gsb, q_gnil, q_gcons, q_asg, q_drop, q_ret, q_retn, q_ifs, q_for, q_whl, q_pass, q_brk, q_cnt, q_dead, q_tryS, q_bnil, q_bcons]
 try rfl
def h23 : FnS := { np := 2, ns := 2, esc := false, b := fun cf mf n => (bCons (sRet (kIdx (kVar 1) (kCal cf 22 (aCons (kVar 0) (aCons (kBlt .len (aCons (kVar 1) aNil)) aNil))))) bNil) }
theorem q23 (cf mf : Calls) (n : Nat) : exB tab cf mf n F23.body = h23.b cf mf n := by
 simp only [F23, h23, q_lit, q_var, q_tup, q_tupR, q_cat, q_tupO, q_bin, q_neg, q_cmp, q_chn, q_and, q_or, q_not, q_ife, q_idx, q_slc, q_slcR, q_att, q_cal, q_mak, q_mth, q_dun, q_rev, q_tzip, q_addR, q_tupK, q_upd, q_ext, q_blt, q_new, q_app, q_popi, q_popk, q_index, q_indexT, q_join, q_get, q_tand, q_tor, q_tnot, q_tcmp, q_tv, q_anil, q_acons, q_astar, q_ono, q_oex, q_pno, q_pex, q_nlst, q_ncat, q_ndct, q_nlstO, q_nrng, q_nsort, q_nadd, q_nrep, q_nitems, q_nlcp, q_ndcp, q_dnil, q_dcons, q_iit, q_irng1, q_irng2, q_ienm, q_izip, q_iitm, q_gnm, q_gtp, q_gat, q_gsb, q_gnil, q_gcons, q_asg, q_drop, q_ret, q_retn, q_ifs, q_for, q_whl, q_pass, q_brk, q_cnt, q_dead, q_tryS, q_bnil, q_bcons]
 try rfl
def h24 : FnS := { np := 2, ns := 5, esc := false, b := fun cf mf n => (bCons (sAsg (gTp 2 (gCons (gNm 2) (gCons (gNm 3) gNil))) (kTup (aCons (kNew true (nLstO (kVar 1))) (aCons (kNew true (nLst aNil)) aNil)))) (bCons (sFor (gNm 4) (iRng1 (kBlt .len (aCons (kVar 1) aNil))) (bCons (sDrop (kApp (kVar 3) (kPopi (kVar 2) (kCal cf 22 (aCons (kVar 0) (aCons (kBlt .len (aCons (kVar 2) aNil)) aNil)))))) bNil)) (bCons (sRet (kVar 3)) bNil))) }
theorem q24 (cf mf : Calls) (n : Nat) : exB tab cf mf n F24.body = h24.b cf mf n := by
 simp only [F24, h24, q_lit, q_var, q_tup, q_tupR, q_cat, q_tupO, q_bin, q_neg, q_cmp, q_chn, q_and, q_or, q_not, q_ife, q_idx, q_slc, q_slcR, q_att, q_cal, q_mak, q_mth, q_dun, q_rev, q_tzip, q_addR, q_tupK, q_upd, q_ext, q_blt, q_new, q_app, q_popi, q_popk, q_index, q_indexT, q_join, q_get, q_tand, q_tor, q_tnot, q_tcmp, q_tv, q_anil, q_acons, q_astar, q_ono, q_oex, q_pno, q_pex, q_nlst, q_ncat, q_ndct, q_nlstO, q_nrng, q_nsort, q_nadd, q_nrep, q_nitems, q_nlcp, q_ndcp, q_dnil, q_dcons, q_iit, q_irng1, q_irng2, q_ienm, q_izip, q_iitm, q_gnm, q_gtp, q_gat, q_gsb, q_gnil, q_gcons, q_asg, q_drop, q_ret, q_retn, q_ifs, q_for, q_whl, q_pass, q_brk, q_cnt, q_dead, q_tryS, q_bnil, q_bcons]
 try rfl
def h25 : FnS := { np := 2, ns := 3, esc := false, b := fun cf mf n => (bCons (sIf (tVal (kBlt .isi (aCons (kVar 1) (aCons (kLit (.ty "tuple")) aNil)))) (bCons (sIf (tOr (tNot (tVal (kBlt .isi (aCons (kVar 0) (aCons (kLit (.ty "tuple")) aNil))))) (tCmp .NotEq (kBlt .len (aCons (kVar 0) aNil)) (kBlt .len (aCons (kVar 1) aNil)))) (bCons (sRet (kLit (.bl false))) bNil) bNil) (bCons (sRet (kCmp .Eq (kNew false (nLcp [2] (gNm 2) (iRng1 (kBlt .len (aCons (kVar 1) aNil))) (tNot (tVal (kCal cf 25 (aCons (kIdx (kVar 0) (kVar 2)) (aCons (kIdx (kVar 1) (kVar 2)) aNil))))) (kVar 2))) (kNew false (nLst aNil)))) bNil)) bNil) (bCons (sIf (tCmp .Is (kVar 1) (kLit .non)) (bCons (sRet (kCmp .Is (kVar 0) (kLit .non))) bNil) bNil) (bCons (sIf (tCmp .Is (kVar 1) (kLit (.bl true))) (bCons (sRet (kCmp .Is (kVar 0) (kLit (.bl true)))) bNil) bNil) (bCons (sIf (tCmp .Is (kVar 1) (kLit (.bl false))) (bCons (sRet (kCmp .Is (kVar 0) (kLit (.bl false)))) bNil) bNil) (bCons (sIf (tVal (kBlt .isi (aCons (kVar 1) (aCons (kLit (.ty "str")) aNil)))) (bCons (sRet (kAnd (kBlt .isi (aCons (kVar 0) (aCons (kLit (.ty "str")) aNil))) (kCmp .Eq (kVar 0) (kVar 1)))) bNil) bNil) (bCons (sRet (kAnd (kBlt .isi (aCons (kVar 0) (aCons (kLit (.ty "int")) aNil))) (kAnd (kNot (kBlt .isi (aCons (kVar 0) (aCons (kLit (.ty "bool")) aNil)))) (kCmp .Eq (kVar 0) (kVar 1))))) bNil)))))) }
theorem q25 (cf mf : Calls) (n : Nat) : exB tab cf mf n F25.body = h25.b cf mf n := by
 simp only [F25, h25, q_lit, q_var, q_tup, q_tupR, q_cat, q_tupO, q_bin, q_neg, q_cmp, q_chn, q_and, q_or, q_not, q_ife, q_idx, q_slc, q_slcR, q_att, q_cal, q_mak, q_mth, q_dun, q_rev, q_tzip, q_addR, q_tupK, q_upd, q_ext, q_blt, q_new, q_app, q_popi, q_popk, q_index, q_indexT, q_join, q_get, q_tand, q_tor, q_tnot, q_tcmp, q_tv, q_anil, q_acons, q_astar, q_ono, q_oex, q_pno, q_pex, q_nlst, q_ncat, q_ndct, q_nlstO, q_nrng, q_nsort, q_nadd, q_nrep, q_nitems, q_nlcp, q_ndcp, q_dnil, q_dcons, q_iit, q_irng1, q_irng2, q_ienm, q_izip, q_iitm, q_gnm, q_gtp, q_gat, q_gsb, q_gnil, q_gcons, q_asg, q_drop, q_ret, q_retn, q_ifs, q_for, q_whl, q_pass, q_brk, q_cnt, q_dead, q_tryS, q_bnil, q_bcons]
 try rfl
def h26 : FnS := { np := 1, ns := 5, esc := false, b := fun cf mf n => (bCons (sAsg (gTp 2 (gCons (gNm 1) (gCons (gNm 2) gNil))) (kTup (aCons (kLit (.str (Str.ofString "abcdefghijklmnopqrstuvwxyz"))) (aCons (kLit (.str (Str.ofString "abcdefghijklmnopqrstuvwxyz0123456789"))) aNil)))) (bCons (sAsg (gNm 3) (kIdx (kNew false (nLst (aCons (kLit (.int 0)) (aCons (kLit (.int 0)) (aCons (kLit (.int 1)) (aCons (kLit (.int 2)) (aCons (kLit (.int 5)) (aCons (kLit (.int 11)) aNil)))))))) (kCal cf 22 (aCons (kVar 0) (aCons (kLit (.int 6)) aNil))))) (bCons (sRet (kBin .Add (kCal cf 23 (aCons (kVar 0) (aCons (kVar 1) aNil))) (kJoin (kLit (.str (Str.ofString ""))) (kNew false (nLcp [4] (gNm 4) (iRng1 (kVar 3)) (tVal (kLit (.bl true))) (kCal cf 23 (aCons (kVar 0) (aCons (kVar 2) aNil)))))))) bNil))) }
theorem q26 (cf mf : Calls) (n : Nat) : exB tab cf mf n F26.body = h26.b cf mf n := by
 simp only [F26, h26, q_lit, q_var, q_tup, q_tupR, q_cat, q_tupO, q_bin, q_neg, q_cmp, q_chn, q_and, q_or, q_not, q_ife, q_idx, q_slc, q_slcR, q_att, q_cal, q_mak, q_mth, q_dun, q_rev, q_tzip, q_addR, q_tupK, q_upd, q_ext, q_blt, q_new, q_app, q_popi, q_popk, q_index, q_indexT, q_join, q_get, q_tand, q_tor, q_tnot, q_tcmp, q_tv, q_anil, q_acons, q_astar, q_ono, q_oex, q_pno, q_pex, q_nlst, q_ncat, q_ndct, q_nlstO, q_nrng, q_nsort, q_nadd, q_nrep, q_nitems, q_nlcp, q_ndcp, q_dnil, q_dcons, q_iit, q_irng1, q_irng2, q_ienm, q_izip, q_iitm, q_gnm, q_gtp, q_gat, q_gsb, q_gnil, q_gcons, q_asg, q_drop, q_ret, q_retn, q_ifs, q_for, q_whl, q_pass, q_brk, q_cnt, q_dead, q_tryS, q_bnil, q_bcons]
 try rfl
def h27 : FnS := { np := 2, ns := 5, esc := false, b := fun cf mf n => (bCons (sAsg (gNm 2) (kNew true (nLst aNil))) (bCons (sFor (gNm 3) (iRng1 (kVar 1)) (bCons (sAsg (gNm 4) (kCal cf 26 (aCons (kVar 0) aNil))) (bCons (sIf (tCmp .In (kVar 4) (kVar 2)) (bCons (sAsg (gNm 4) (kBin .Add (kBin .Add (kLit (.str (Str.ofString "z"))) (kBlt .str (aCons (kVar 3) aNil))) (kLit (.str (Str.ofString "q"))))) bNil) bNil) (bCons (sWhl n (tCmp .In (kVar 4) (kVar 2)) (bCons (sAsg (gNm 4) (kBin .Add (kVar 4) (kLit (.str (Str.ofString "0"))))) bNil)) (bCons (sDrop (kApp (kVar 2) (kVar 4))) bNil))))) (bCons (sRet (kTupO false (kVar 2))) bNil))) }
theorem q27 (cf mf : Calls) (n : Nat) : exB tab cf mf n F27.body = h27.b cf mf n := by
 simp only [F27, h27, q_lit, q_var, q_tup, q_tupR, q_cat, q_tupO, q_bin, q_neg, q_cmp, q_chn, q_and, q_or, q_not, q_ife, q_idx, q_slc, q_slcR, q_att, q_cal, q_mak, q_mth, q_dun, q_rev, q_tzip, q_addR, q_tupK, q_upd, q_ext, q_blt, q_new, q_app, q_popi, q_popk, q_index, q_indexT, q_join, q_get, q_tand, q_tor, q_tnot, q_tcmp, q_tv, q_anil, q_acons, q_astar, q_ono, q_oex, q_pno, q_pex, q_nlst, q_ncat, q_ndct, q_nlstO, q_nrng, q_nsort, q_nadd, q_nrep, q_nitems, q_nlcp, q_ndcp, q_dnil, q_dcons, q_iit, q_irng1, q_irng2, q_ienm, q_izip, q_iitm, q_gnm, q_gtp, q_gat, q_gsb, q_gnil, q_gcons, q_asg, q_drop, q_ret, q_retn, q_ifs, q_for, q_whl, q_pass, q_brk, q_cnt, q_dead, q_tryS, q_bnil, q_bcons]
 try rfl
def h28 : FnS := { np := 1, ns := 10, esc := false, b := fun cf mf n => (bCons (sAsg (gNm 1) (kBin .Add (kLit (.int 2)) (kCal cf 22 (aCons (kVar 0) (aCons (kLit (.int 3)) aNil))))) (bCons (sAsg (gNm 2) (kCal cf 27 (aCons (kVar 0) (aCons (kBin .Mult (kLit (.int 2)) (kVar 1)) aNil)))) (bCons (sAsg (gTp 3 (gCons (gNm 3) (gCons (gNm 4) (gCons (gNm 5) gNil)))) (kTup (aCons (kSlc (kVar 2) pNo (pEx (kVar 1))) (aCons (kSlc (kVar 2) (pEx (kVar 1)) pNo) (aCons (kBin .Add (kLit (.int 2)) (kCal cf 22 (aCons (kVar 0) (aCons (kLit (.int 2)) aNil)))) aNil))))) (bCons (sAsg (gNm 6) (kNew true (nLst aNil))) (bCons (sFor (gNm 7) (iRng1 (kVar 1)) (bCons (sAsg (gNm 8) (kNew false (nLcp [9] (gNm 9) (iIt (kVar 4)) (tAnd (tCmp .NotEq (kVar 9) (kIdx (kVar 4) (kVar 7))) (tCmp .Eq (kCal cf 22 (aCons (kVar 0) (aCons (kVar 5) aNil))) (kLit (.int 0)))) (kVar 9)))) (bCons (sDrop (kApp (kVar 6) (kTup (aCons (kIdx (kVar 3) (kVar 7)) (aCons (kIdx (kVar 4) (kVar 7)) (aCons (kTupO false (kCal cf 24 (aCons (kVar 0) (aCons (kVar 8) aNil)))) aNil)))))) bNil))) (bCons (sRet (kTupO false (kVar 6))) bNil)))))) }
theorem q28 (cf mf : Calls) (n : Nat) : exB tab cf mf n F28.body = h28.b cf mf n := by
 simp only [F28, h28, q_lit, q_var, q_tup, q_tupR, q_cat, q_tupO, q_bin, q_neg, q_cmp, q_chn, q_and, q_or, q_not, q_ife, q_idx, q_slc, q_slcR, q_att, q_cal, q_mak, q_mth, q_dun, q_rev, q_tzip, q_addR, q_tupK, q_upd, q_ext, q_blt, q_new, q_app, q_popi, q_popk, q_index, q_indexT, q_join, q_get, q_tand, q_tor, q_tnot, q_tcmp, q_tv, q_anil, q_acons, q_astar, q_ono, q_oex, q_pno, q_pex, q_nlst, q_ncat, q_ndct, q_nlstO, q_nrng, q_nsort, q_nadd, q_nrep, q_nitems, q_nlcp, q_ndcp, q_dnil, q_dcons, q_iit, q_irng1, q_irng2, q_ienm, q_izip, q_iitm, q_gnm, q_gtp, q_gat, q_gsb, q_gnil, q_gcons, q_asg, q_drop, q_ret, q_retn, q_ifs, q_for, q_whl, q_pass, q_brk, q_cnt, q_dead, q_tryS, q_bnil, q_bcons]
 try rfl
def h29 : FnS := { np := 1, ns := 9, esc := false, b := fun cf mf n => (bCons (sAsg (gTp 2 (gCons (gNm 1) (gCons (gNm 2) gNil))) (kTup (aCons (kNew false (nLst (aCons (kTup aNil) aNil))) (aCons (kNew true (nLst aNil)) aNil)))) (bCons (sFor (gNm 3) (iIt (kVar 0)) (bCons (sAsg (gNm 4) (kNew true (nLstO (kVar 1)))) (bCons (sFor (gNm 5) (iIt (kVar 1)) (bCons (sDrop (kExt (kVar 4) (kNew false (nLcp [8] (gNm 8) (iIt (kIdx (kVar 3) (kLit (.int 2)))) (tVal (kLit (.bl true))) (kBin .Add (kVar 5) (kTup (aCons (kTup (aCons (kIdx (kVar 3) (kLit (.int 0))) (aCons (kIdx (kVar 3) (kLit (.int 1))) (aCons (kVar 8) aNil)))) aNil))))))) bNil)) (bCons (sAsg (gNm 1) (kVar 4)) bNil)))) (bCons (sFor (gNm 5) (iIt (kVar 1)) (bCons (sAsg (gTp 2 (gCons (gNm 6) (gCons (gNm 7) gNil))) (kTup (aCons (kNew false (nSort (kNew false (nLcp [3] (gNm 3) (iIt (kVar 5)) (tVal (kLit (.bl true))) (kIdx (kVar 3) (kLit (.int 1))))))) (aCons (kNew false (nSort (kNew false (nLcp [3] (gNm 3) (iIt (kVar 5)) (tVal (kLit (.bl true))) (kIdx (kVar 3) (kLit (.int 2))))))) aNil)))) (bCons (sIf (tAnd (tCmp .Gt (kBlt .len (aCons (kVar 5) aNil)) (kLit (.int 1))) (tCmp .Eq (kVar 6) (kVar 7))) (bCons (sDrop (kApp (kVar 2) (kVar 5))) bNil) bNil) bNil))) (bCons (sRet (kNew false (nSort (kVar 2)))) bNil)))) }
theorem q29 (cf mf : Calls) (n : Nat) : exB tab cf mf n F29.body = h29.b cf mf n := by
 simp only [F29, h29, q_lit, q_var, q_tup, q_tupR, q_cat, q_tupO, q_bin, q_neg, q_cmp, q_chn, q_and, q_or, q_not, q_ife, q_idx, q_slc, q_slcR, q_att, q_cal, q_mak, q_mth, q_dun, q_rev, q_tzip, q_addR, q_tupK, q_upd, q_ext, q_blt, q_new, q_app, q_popi, q_popk, q_index, q_indexT, q_join, q_get, q_tand, q_tor, q_tnot, q_tcmp, q_tv, q_anil, q_acons, q_astar, q_ono, q_oex, q_pno, q_pex, q_nlst, q_ncat, q_ndct, q_nlstO, q_nrng, q_nsort, q_nadd, q_nrep, q_nitems, q_nlcp, q_ndcp, q_dnil, q_dcons, q_iit, q_irng1, q_irng2, q_ienm, q_izip, q_iitm, q_gnm, q_gtp, q_gat, q_gsb, q_gnil, q_gcons, q_asg, q_drop, q_ret, q_retn, q_ifs, q_for, q_whl, q_pass, q_brk, q_cnt, q_dead, q_tryS, q_bnil, q_bcons]
 try rfl
def h30 : FnS := { np := 1, ns := 20, esc := false, b := fun cf mf n => (bCons (sAsg (gNm 1) (kCal cf 21 (aCons (kVar 0) aNil))) (bCons (sFor (gNm 2) (iRng1 (kLit (.int 4))) (bCons (sAsg (gNm 3) (kCal cf 28 (aCons (kVar 1) aNil))) (bCons (sAsg (gTp 2 (gCons (gNm 4) (gCons (gNm 5) gNil))) (kTup (aCons (kCal cf 23 (aCons (kVar 1) (aCons (kNew false (nLst (aCons (kVar 3) (aCons (kNew false (nLstO (kVar 3))) aNil)))) aNil))) (aCons (kCal cf 29 (aCons (kVar 3) aNil)) aNil)))) (bCons (sIf (tNot (tVal (kCal cf 25 (aCons (kCal cf 16 (aCons (kVar 4) aNil)) (aCons (kTupO false (kVar 5)) aNil))))) (bCons (sRet (kLit (.bl false))) bNil) bNil) (bCons (sIf (tCmp .NotEq (kNew false (nLcp [9] (gNm 9) (iIt (kVar 5)) (tCmp .NotEq (kAtt (kMak mf 0 (aCons (kVar 9) aNil)) 0) (kVar 9)) (kVar 9))) (kNew false (nLst aNil))) (bCons (sRet (kLit (.bl false))) bNil) bNil) (bCons (sAsg (gNm 6) (kBlt .max (aCons (kBin .Add (kNew false (nLst (aCons (kLit (.int 0)) aNil))) (kNew false (nLcp [9] (gNm 9) (iIt (kVar 5)) (tVal (kLit (.bl true))) (kBlt .len (aCons (kVar 9) aNil))))) aNil))) (bCons (sAsg (gNm 7) (kNew false (nLcp [9] (gNm 9) (iIt (kVar 5)) (tCmp .Eq (kBlt .len (aCons (kVar 9) aNil)) (kVar 6)) (kVar 9)))) (bCons (sIf (tNot (tVal (kCal cf 25 (aCons (kCal cf 17 (aCons (kVar 4) aNil)) (aCons (kTup (aCons (kVar 6) (aCons (kIfe (tCmp .NotEq (kVar 7) (kNew false (nLst aNil))) (kIdx (kVar 7) (kLit (.int 0))) (kTup aNil)) aNil))) aNil))))) (bCons (sRet (kLit (.bl false))) bNil) bNil) (bCons (sAsg (gNm 8) (kNew true (nLst aNil))) (bCons (sFor (gNm 9) (iIt (kVar 5)) (bCons (sDrop (kExt (kVar 8) (kNew false (nLcp [17] (gNm 17) (iIt (kVar 9)) (tVal (kLit (.bl true))) (kIdx (kVar 17) (kLit (.int 0))))))) bNil)) (bCons (sIf (tNot (tVal (kCal cf 25 (aCons (kCal cf 19 (aCons (kVar 4) aNil)) (aCons (kTupO false (kNew false (nSort (kNew false (nLcp [17] (gNm 17) (iIt (kVar 3)) (tCmp .NotIn (kIdx (kVar 17) (kLit (.int 0))) (kVar 8)) (kIdx (kVar 17) (kLit (.int 0)))))))) aNil))))) (bCons (sRet (kLit (.bl false))) bNil) bNil) (bCons (sFor (gNm 9) (iIt (kBin .Add (kBin .Add (kNew false (nLst (aCons (kTup aNil) aNil))) (kSlc (kVar 5) pNo (pEx (kLit (.int 3))))) (kSlc (kVar 7) pNo (pEx (kLit (.int 1)))))) (bCons (sAsg (gNm 10) (kNew false (nLcp [17] (gNm 17) (iIt (kVar 9)) (tVal (kLit (.bl true))) (kIdx (kVar 17) (kLit (.int 0)))))) (bCons (sAsg (gNm 11) (kNew false (nLcp [18] (gNm 18) (iIt (kVar 5)) (tCmp .Eq (kNew false (nLcp [17] (gNm 17) (iIt (kVar 18)) (tCmp .In (kIdx (kVar 17) (kLit (.int 0))) (kVar 10)) (kVar 17))) (kNew false (nLst aNil))) (kVar 18)))) (bCons (sIf (tNot (tVal (kCal cf 25 (aCons (kCal cf 20 (aCons (kVar 4) (aCons (kVar 9) aNil))) (aCons (kIfe (tCmp .NotEq (kVar 11) (kNew false (nLst aNil))) (kIdx (kVar 11) (kLit (.int 0))) (kLit .non)) aNil))))) (bCons (sRet (kLit (.bl false))) bNil) bNil) bNil)))) (bCons (sIf (tAnd (tCmp .NotEq (kVar 7) (kNew false (nLst aNil))) (tCmp .IsNot (kCal cf 20 (aCons (kVar 4) (aCons (kIdx (kVar 7) (kLit (.int 0))) aNil))) (kLit .non))) (bCons (sRet (kLit (.bl false))) bNil) bNil) (bCons (sFor (gNm 12) (iRng1 (kLit (.int 6))) (bCons (sAsg (gNm 13) (kTupO false (kNew false (nLcp [19] (gNm 19) (iRng1 (kBlt .len (aCons (kVar 3) aNil))) (tCmp .Eq (kCal cf 22 (aCons (kVar 1) (aCons (kLit (.int 2)) aNil))) (kLit (.int 0))) (kVar 19))))) (bCons (sAsg (gNm 10) (kNew false (nLcp [19] (gNm 19) (iIt (kVar 13)) (tVal (kLit (.bl true))) (kIdx (kIdx (kVar 3) (kVar 19)) (kLit (.int 0)))))) (bCons (sAsg (gNm 14) (kCmp .NotEq (kNew false (nLcp [9] (gNm 9) (iIt (kVar 5)) (tCmp .Eq (kNew false (nLcp [17] (gNm 17) (iIt (kVar 9)) (tVal (kLit (.bl true))) (kIdx (kVar 17) (kLit (.int 0))))) (kVar 10)) (kVar 9))) (kNew false (nLst aNil)))) (bCons (sIf (tNot (tVal (kCal cf 25 (aCons (kCal cf 18 (aCons (kVar 4) (aCons (kMak mf 1 (aCons (kVar 13) aNil)) aNil))) (aCons (kAnd (kVar 14) (kCmp .Gt (kBlt .len (aCons (kVar 13) aNil)) (kLit (.int 1)))) aNil))))) (bCons (sRet (kLit (.bl false))) bNil) bNil) (bCons (sFor (gNm 15) (iIt (kNew false (nLst (aCons (kIfe (tCmp .Gt (kBlt .len (aCons (kVar 13) aNil)) (kLit (.int 1))) (kRev (kVar 13)) (kLit .non)) (aCons (kBin .Add (kVar 13) (kTup (aCons (kBlt .len (aCons (kVar 3) aNil)) aNil))) (aCons (kLit .non) (aCons (kBin .Add (kTup (aCons (kLit (.bl true)) aNil)) (kVar 13)) aNil))))))) (bCons (sIf (tCmp .IsNot (kCal cf 18 (aCons (kVar 4) (aCons (kMak mf 1 (aCons (kVar 15) aNil)) aNil))) (kLit (.bl false))) (bCons (sRet (kLit (.bl false))) bNil) bNil) bNil)) bNil)))))) (bCons (sFor (gNm 16) (iIt (kNew false (nLst (aCons (kLit .non) (aCons (kLit (.int 5)) (aCons (kTup (aCons (kLit (.int 0)) (aCons (kLit (.int 1)) aNil))) aNil)))))) (bCons (sIf (tCmp .IsNot (kCal cf 18 (aCons (kVar 4) (aCons (kVar 16) aNil))) (kLit (.bl false))) (bCons (sRet (kLit (.bl false))) bNil) bNil) bNil)) bNil))))))))))))))) (bCons (sRet (kAnd (kDun tab cf 5 (kMak mf 1 (aCons (kNew false (nLst (aCons (kLit (.int 0)) (aCons (kLit (.int 1)) aNil)))) aNil)) (kMak mf 1 (aCons (kTup (aCons (kLit (.int 0)) (aCons (kLit (.int 1)) aNil))) aNil))) (kAnd (kDun tab cf 6 (kMak mf 1 (aCons (kTup (aCons (kLit (.int 0)) (aCons (kLit (.int 1)) aNil))) aNil)) (kMak mf 1 (aCons (kTup (aCons (kLit (.int 0)) aNil)) aNil))) (kNot (kDun tab cf 5 (kMak mf 1 (aCons (kTup (aCons (kLit (.int 0)) (aCons (kLit (.int 1)) aNil))) aNil)) (kTup (aCons (kLit (.int 0)) (aCons (kLit (.int 1)) aNil)))))))) bNil))) }
theorem q30 (cf mf : Calls) (n : Nat) : exB tab cf mf n F30.body = h30.b cf mf n := by
 simp only [F30, h30, q_lit, q_var, q_tup, q_tupR, q_cat, q_tupO, q_bin, q_neg, q_cmp, q_chn, q_and, q_or, q_not, q_ife, q_idx, q_slc, q_slcR, q_att, q_cal, q_mak, q_mth, q_dun, q_rev, q_tzip, q_addR, q_tupK, q_upd, q_ext, q_blt, q_new, q_app, q_popi, q_popk, q_index, q_indexT, q_join, q_get, q_tand, q_tor, q_tnot, q_tcmp, q_tv, q_anil, q_acons, q_astar, q_ono, q_oex, q_pno, q_pex, q_nlst, q_ncat, q_ndct, q_nlstO, q_nrng, q_nsort, q_nadd, q_nrep, q_nitems, q_nlcp, q_ndcp, q_dnil, q_dcons, q_iit, q_irng1, q_irng2, q_ienm, q_izip, q_iitm, q_gnm, q_gtp, q_gat, q_gsb, q_gnil, q_gcons, q_asg, q_drop, q_ret, q_retn, q_ifs, q_for, q_whl, q_pass, q_brk, q_cnt, q_dead, q_tryS, q_bnil, q_bcons]
 try rfl
abbrev i_is_whole : Nat := 0
abbrev i_as_tuples : Nat := 1
abbrev i_is_index : Nat := 2
abbrev i_is_name : Nat := 3
abbrev i_Order___init__ : Nat := 4
abbrev i_is_triple : Nat := 5
abbrev i_need_names : Nat := 6
abbrev i_Matched___init__ : Nat := 7
abbrev i_Matched___eq__ : Nat := 8
abbrev i_Matched___ne__ : Nat := 9
abbrev i_is_wanting : Nat := 10
abbrev i_are_wantings : Nat := 11
abbrev i_known_wantings : Nat := 12
abbrev i_chosen : Nat := 13
abbrev i_lots_of_places : Nat := 14
abbrev i_orders_by : Nat := 15
abbrev i_orders_in : Nat := 16
abbrev i_most_served : Nat := 17
abbrev i_matched_holds : Nat := 18
abbrev i_left_alone : Nat := 19
abbrev i_blocking : Nat := 20
abbrev i__law_pen : Nat := 21
abbrev i__law_draw : Nat := 22
abbrev i__law_pick : Nat := 23
abbrev i__law_shuffled : Nat := 24
abbrev i__law_is : Nat := 25
abbrev i__law_name : Nat := 26
abbrev i__law_names : Nat := 27
abbrev i__law_drawn_wantings : Nat := 28
abbrev i__law_orders : Nat := 29
abbrev i_law : Nat := 30
abbrev a_rows : Nat := 0
abbrev a_append : Nat := 1
abbrev a_extend : Nat := 2
abbrev a_pop : Nat := 3
abbrev a_join : Nat := 4
abbrev a___eq__ : Nat := 5
abbrev a___ne__ : Nat := 6
abbrev c_Order : Nat := 0
abbrev c_Matched : Nat := 1
def hL : List FnS := [h0, h1, h2, h3, h4, h5, h6, h7, h8, h9, h10, h11, h12, h13, h14, h15, h16, h17, h18, h19, h20, h21, h22, h23, h24, h25, h26, h27, h28, h29, h30]
def hs (i : Nat) : Option FnS := hL[i]?
theorem shal : Shal tab hs where
 no := fun f e => by
  have h : fnL.length ≤ f := List.getElem?_eq_none_iff.mp (show fnL[f]? = none from e)
  exact List.getElem?_eq_none (show hL.length ≤ f from h)
 ok := fun f F e => by
  have hf : f < fnL.length := (List.getElem?_eq_some_iff.mp (show fnL[f]? = some F from e)).1
  have hf' : f < 31 := hf
  match f, hf' with
  | 0, _ => cases e; exact ⟨h0, rfl, rfl, rfl, rfl, q0⟩
  | 1, _ => cases e; exact ⟨h1, rfl, rfl, rfl, rfl, q1⟩
  | 2, _ => cases e; exact ⟨h2, rfl, rfl, rfl, rfl, q2⟩
  | 3, _ => cases e; exact ⟨h3, rfl, rfl, rfl, rfl, q3⟩
  | 4, _ => cases e; exact ⟨h4, rfl, rfl, rfl, rfl, q4⟩
  | 5, _ => cases e; exact ⟨h5, rfl, rfl, rfl, rfl, q5⟩
  | 6, _ => cases e; exact ⟨h6, rfl, rfl, rfl, rfl, q6⟩
  | 7, _ => cases e; exact ⟨h7, rfl, rfl, rfl, rfl, q7⟩
  | 8, _ => cases e; exact ⟨h8, rfl, rfl, rfl, rfl, q8⟩
  | 9, _ => cases e; exact ⟨h9, rfl, rfl, rfl, rfl, q9⟩
  | 10, _ => cases e; exact ⟨h10, rfl, rfl, rfl, rfl, q10⟩
  | 11, _ => cases e; exact ⟨h11, rfl, rfl, rfl, rfl, q11⟩
  | 12, _ => cases e; exact ⟨h12, rfl, rfl, rfl, rfl, q12⟩
  | 13, _ => cases e; exact ⟨h13, rfl, rfl, rfl, rfl, q13⟩
  | 14, _ => cases e; exact ⟨h14, rfl, rfl, rfl, rfl, q14⟩
  | 15, _ => cases e; exact ⟨h15, rfl, rfl, rfl, rfl, q15⟩
  | 16, _ => cases e; exact ⟨h16, rfl, rfl, rfl, rfl, q16⟩
  | 17, _ => cases e; exact ⟨h17, rfl, rfl, rfl, rfl, q17⟩
  | 18, _ => cases e; exact ⟨h18, rfl, rfl, rfl, rfl, q18⟩
  | 19, _ => cases e; exact ⟨h19, rfl, rfl, rfl, rfl, q19⟩
  | 20, _ => cases e; exact ⟨h20, rfl, rfl, rfl, rfl, q20⟩
  | 21, _ => cases e; exact ⟨h21, rfl, rfl, rfl, rfl, q21⟩
  | 22, _ => cases e; exact ⟨h22, rfl, rfl, rfl, rfl, q22⟩
  | 23, _ => cases e; exact ⟨h23, rfl, rfl, rfl, rfl, q23⟩
  | 24, _ => cases e; exact ⟨h24, rfl, rfl, rfl, rfl, q24⟩
  | 25, _ => cases e; exact ⟨h25, rfl, rfl, rfl, rfl, q25⟩
  | 26, _ => cases e; exact ⟨h26, rfl, rfl, rfl, rfl, q26⟩
  | 27, _ => cases e; exact ⟨h27, rfl, rfl, rfl, rfl, q27⟩
  | 28, _ => cases e; exact ⟨h28, rfl, rfl, rfl, rfl, q28⟩
  | 29, _ => cases e; exact ⟨h29, rfl, rfl, rfl, rfl, q29⟩
  | 30, _ => cases e; exact ⟨h30, rfl, rfl, rfl, rfl, q30⟩
end Mn.K62
end
section
namespace Mn.K62
open PySem Mn Mn.Sh
def tupS (xs : List Str) : D := .tup (xs.map .str)
structure Act' where
 name : Str
 owner : Str
 needs : List (Str × Str)
 moves : List (Str × Str)
structure Deal' where
 parties : List Str
 houses : List Str
 goods : List (Str × Str)
 acts : List Act'
 wishes : List (List (List Str))
 rests : List (List (List Str))
def pairD (p : Str × Str) : D := .tup [.str p.1, .str p.2]
def pairsD (l : List (Str × Str)) : D := .tup (l.map pairD)
def lotsD (l : List (List (List Str))) : D := .tup (l.map fun row => .tup (row.map tupS))
theorem bel_tupS (n : Nat) (xs : List Str) : bel n (tupS xs) = true := bels_map n _ (fun _ => rfl) xs
def heldBy (d : Deal') (p : Str) (s : List Str) : List Str := (((d.goods.map fun g => g.1).zip s).filter fun q => decide (q.2 = p)).map fun q => q.1
def hasOne (d : Deal') (p : Str) (s : List Str) (lots : List (List Str)) : Bool := lots.any fun lot => lot.all fun g => decide (g ∈ heldBy d p s)
end Mn.K62
end
section
namespace Mn.K62
open PySem Mn Mn.Sh
def gnames (d : Deal') : List Str := d.goods.map fun g => g.1
def place (d : Deal') (g : Str) : Nat := (gnames d).idxOf g
structure Val (d : Deal') : Prop where
 nd : (gnames d).Nodup
 ng : ∀ a ∈ d.acts, ∀ p ∈ a.needs, p.1 ∈ gnames d
 mg : ∀ a ∈ d.acts, ∀ p ∈ a.moves, p.1 ∈ gnames d
 mn : ∀ a ∈ d.acts, (a.moves.map fun p => p.1).Nodup
 mh : ∀ a ∈ d.acts, ∀ p ∈ a.moves, p.2 ∈ d.parties ++ d.houses
 cp : (d.parties ++ d.houses).length ^ d.goods.length < 100000
 na : d.acts.length < 1000
 pd : d.parties.Nodup
 pw : d.wishes.length = d.parties.length
 pr : d.rests.length = d.parties.length
 sw : ∀ row ∈ d.wishes, row.length < 1000
 sr : ∀ row ∈ d.rests, row.length < 1000
theorem eq2_str (x y : Str) : eq2 (.str x) (.str y) = decide (x = y) := (seqS_dec x y).symm
theorem eq2_int (i j : Int) : eq2 (.int i) (.int j) = decide (i = j) := by show (i == j) = _; by_cases h : i = j <;> simp [h]
def placesD (d : Deal') : D := .dct ((gnames d).zipIdx.map fun p => (.str p.1, .int (p.2 : Nat)))
end Mn.K62
end
section
namespace Mn.K62
open PySem Mn Mn.Sh
def canB (d : Deal') (s : List Str) (a : Act') : Bool := a.needs.all fun p => decide (s.getD (place d p.1) ⟨#[]⟩ = p.2)
def behS (d : Deal') (s : List Str) (a : Act') : List Str := s.zipIdx.map fun q => ((a.moves.find? fun m => decide (place d m.1 = q.2)).map fun m => m.2).getD q.1
structure StOk (d : Deal') (s : List Str) : Prop where
 ln : s.length = d.goods.length
 hd : ∀ x ∈ s, x ∈ d.parties ++ d.houses
def openL (d : Deal') (s : List Str) : List (Act' × List Str) := (d.acts.filter (canB d s)).map fun a => (a, behS d s a)
theorem idx_tupS {s : List Str} {i : Nat} (h : i < s.length) : idx (tupS s) (.int (i : Nat)) = some (.str (s.getD i ⟨#[]⟩)) := by
 show ((ixP (s.map D.str).length (i : Int)).bind fun k => (s.map D.str)[k]?) = _
 have e : ixP (s.map D.str).length (i : Int) = some i := by
  show L2.ixN _ _ = _
  unfold L2.ixN
  simp [h]
 rw [e]
 simp [List.getElem?_eq_getElem h, List.getD_eq_getElem?_getD]
end Mn.K62
end
section
namespace Mn.K62
open PySem Mn Mn.Sh
abbrev W' := List Str × List Str
def wD (w : W') : D × D := (tupS w.1, tupS w.2)
def addW (nm : List Str) (ws : List W') (q : Act' × List Str) : List W' := if ws.any (fun w => decide (w.1 = q.2)) = true then ws else ws ++ [(q.2, nm ++ [q.1.name])]
def stepW (d : Deal') (ws : List W') (i : Nat) : List W' := (openL d ((ws.map fun w => w.1).getD i [])).foldl (addW ((ws.map fun w => w.2).getD i [])) ws
def bfs (d : Deal') : Nat → List W' → Nat → List W'
 | 0, ws, _ => ws
 | m + 1, ws, i => if i < ws.length then bfs d m (stepW d ws i) (i + 1) else ws
def ends (d : Deal') : Nat → List W' → Nat → Prop
 | 0, ws, i => ¬ i < ws.length
 | m + 1, ws, i => i < ws.length → ends d m (stepW d ws i) (i + 1)
def memW (M : Mem) (ws : List W') : Mem := M ++ [.dct (ws.map wD), .lst (ws.map fun w => tupS w.1)]
theorem beh_len (d : Deal') (s : List Str) (a : Act') : (behS d s a).length = s.length := by simp [behS]
theorem open_ok {d : Deal'} (V : Val d) {s : List Str} (hs : StOk d s) {q : Act' × List Str} (hq : q ∈ openL d s) : StOk d q.2 := by
 obtain ⟨a, ha, rfl⟩ := List.mem_map.mp hq
 have ham := (List.mem_filter.mp ha).1
 refine ⟨by rw [← hs.ln]; exact beh_len d _ a, fun x hx => ?_⟩
 obtain ⟨p, hp, rfl⟩ := List.mem_map.mp (show x ∈ behS d s a from hx)
 cases e : a.moves.find? fun m => decide (place d m.1 = p.2) with
 | some m => exact V.mh a ham m (List.mem_of_find?_eq_some e)
 | none =>
  have := List.mem_zipIdx hp
  refine hs.hd _ ?_
  show p.1 ∈ s
  rw [this.2.2]
  exact List.getElem_mem _
structure GoodW (d : Deal') (ws : List W') : Prop where
 nd : (ws.map fun w => w.1).Nodup
 ok : ∀ w ∈ ws, StOk d w.1
theorem GoodW.fold {d : Deal'} (nm : List Str) : ∀ (l : List (Act' × List Str)) (ws : List W'), (∀ q ∈ l, StOk d q.2) → GoodW d ws → GoodW d (l.foldl (addW nm) ws)
 | [], ws, _, g => g
 | q :: l, ws, hl, g => by
  rw [List.foldl_cons]
  refine GoodW.fold nm l _ (fun x hx => hl x (List.mem_cons_of_mem _ hx)) ?_
  unfold addW
  split
  ·exact g
  ·rename_i h
   refine ⟨?_, fun w hw => ?_⟩
   ·rw [List.map_append, List.nodup_append]
    refine ⟨g.nd, by simp, fun a ha b hb => ?_⟩
    simp only [List.map_cons, List.map_nil, List.mem_singleton] at hb
    subst hb
    obtain ⟨w, hw, rfl⟩ := List.mem_map.mp ha
    intro e
    exact h (List.any_eq_true.mpr ⟨w, hw, by simpa using e⟩)
   ·rcases List.mem_append.mp hw with hw | hw
    ·exact g.ok w hw
    ·rw [List.mem_singleton.mp hw]
     exact hl q List.mem_cons_self
theorem idx_lst {α : Type} {f : α → D} {l : List α} {i : Nat} (h : i < l.length) : idx (.lst (l.map f)) (.int (i : Nat)) = some (f l[i]) := by
 show ((ixP (l.map f).length (i : Int)).bind fun k => (l.map f)[k]?) = _
 have e : ixP (l.map f).length (i : Int) = some i := by
  show L2.ixN _ _ = _
  unfold L2.ixN
  simp [h]
 rw [e]
 simp [h]
def allS (hs : List Str) : Nat → List (List Str)
 | 0 => [[]]
 | n + 1 => hs.flatMap fun h => (allS hs n).map fun r => h :: r
theorem allS_len (hs : List Str) : ∀ n, (allS hs n).length = hs.length ^ n
 | 0 => rfl
 | n + 1 => by
  rw [allS, List.length_flatMap]
  simp only [List.length_map, allS_len hs n]
  rw [List.map_const', List.sum_replicate_nat, Nat.pow_succ, Nat.mul_comm]
theorem allS_mem {hs : List Str} : ∀ {s : List Str}, (∀ x ∈ s, x ∈ hs) → s ∈ allS hs s.length
 | [], _ => by simp [allS]
 | x :: r, h => by
  rw [List.length_cons, allS, List.mem_flatMap]
  exact ⟨x, h x List.mem_cons_self, List.mem_map.mpr ⟨r, allS_mem fun y hy => h y (List.mem_cons_of_mem _ hy), rfl⟩⟩
theorem len_le {α : Type} [DecidableEq α] : ∀ {l L : List α}, l.Nodup → (∀ x ∈ l, x ∈ L) → l.length ≤ L.length
 | [], _, _, _ => Nat.zero_le _
 | x :: r, L, h, hs => by
  rw [List.nodup_cons] at h
  have hx := hs x List.mem_cons_self
  have := len_le (l := r) (L := L.erase x) h.2 fun y hy => (List.mem_erase_of_ne (fun e : y = x => h.1 (by rw [← e]; exact hy))).mpr (hs y (List.mem_cons_of_mem _ hy))
  rw [List.length_erase_of_mem hx] at this
  have h0 : 0 < L.length := List.length_pos_of_mem hx
  rw [List.length_cons]
  omega
def cap (d : Deal') : Nat := (d.parties ++ d.houses).length ^ d.goods.length
theorem GoodW.cap {d : Deal'} {ws : List W'} (g : GoodW d ws) : ws.length ≤ K62.cap d := by
 have := len_le (L := allS (d.parties ++ d.houses) d.goods.length) g.nd fun x hx => by
  obtain ⟨w, hw, rfl⟩ := List.mem_map.mp hx
  have := g.ok w hw
  rw [← this.ln]
  exact allS_mem this.hd
 rwa [List.length_map, allS_len] at this
theorem lt_int {M : Mem} {i j : Int} : cmpK M .Lt (.int i) (.int j) = some (.bl (decide (i < j))) := by
 show (if likeD (.int i) (.int j) then some (D.bl (ltD (.int i) (.int j))) else none) = _
 rw [if_pos (show likeD (.int i) (.int j) = true from rfl)]
 show some (D.bl (PySem.W.dataLt (.int i) (.int j))) = _
 rw [PySem.W.dataLt_int]
def reachW (d : Deal') (s : List Str) : List W' := bfs d (cap d) [(s, [])] 0
end Mn.K62
end
section
namespace Mn.K62
open PySem Mn Mn.Sh
def leS (x y : List Str) : Bool := leD (tupS x) (tupS y)
def sortL (xs : List (List Str)) : List (List Str) := xs.mergeSort leS
def fineB (d : Deal') (p : Str) (s : List Str) : Bool := hasOne d p s (d.wishes.getD (d.parties.idxOf p) [] ++ d.rests.getD (d.parties.idxOf p) [])
abbrev St := List Str
structure Vw where
 sts : List St
 fine : St → Bool
 own : St → List St
 oth : St → List St
def mkVw (d : Deal') (p : Str) (s : St) : Vw where
 sts := sortL ((reachW d s).map fun w => w.1)
 fine := fineB d p
 own := fun s => ((openL d s).filter fun q => decide (q.1.owner = p)).map fun q => q.2
 oth := fun s => ((openL d s).filter fun q => !decide (q.1.owner = p)).map fun q => q.2
end Mn.K62
end
section
namespace Mn.K62
open PySem Mn Mn.Sh
abbrev Nm := St × Nat
def numD (q : Nm) : D × D := (tupS q.1, .int (q.2 : Nat))
def nextL (v : Vw) (L : List St) (ns : List Nm) (line : List St) : List St := L.filter fun s => !(ns.any fun q => decide (q.1 = s)) && (v.own s).any fun b => decide (b ∈ line)
def numL (v : Vw) (L : List St) : Nat → List Nm → List St → Nat → List Nm
 | 0, ns, _, _ => ns
 | m + 1, ns, line, r => if line.isEmpty then ns else numL v L m (ns ++ (nextL v L ns line).map fun s => (s, r + 1)) (nextL v L ns line) (r + 1)
def numF (v : Vw) (L : List St) : List Nm := numL v L (L.length + 1) ((L.filter v.fine).map fun s => (s, 0)) (L.filter v.fine) 0
structure Left (M : Mem) (i : Nat) (L : List St) (v : Vw) : Prop where
 at_ : M[i]? = some (.dct (L.map fun s => (tupS s, .bl true)))
 nd : L.Nodup
 sub : ∀ s ∈ L, s ∈ v.sts
 few : L.length < 100000
theorem any_num {v : Vw} {L : List St} {ns : List Nm} {line : List St} {s : St} (h : s ∈ nextL v L ns line) : ∀ q ∈ ns, q.1 ≠ s := fun q hq e => by
 have h1 := (List.mem_filter.mp h).2
 rw [Bool.and_eq_true, Bool.not_eq_true', List.any_eq_false] at h1
 exact h1.1 q hq (by simpa using e)
structure GoodN (L : List St) (ns : List Nm) : Prop where
 nd : (ns.map fun q => q.1).Nodup
 sub : ∀ q ∈ ns, q.1 ∈ L
theorem GoodN.next {v : Vw} {L : List St} {ns : List Nm} {line : List St} {r : Nat} (hL : L.Nodup) (g : GoodN L ns) : GoodN L (ns ++ (nextL v L ns line).map fun s => (s, r)) := by
 refine ⟨?_, fun q hq => ?_⟩
 ·rw [List.map_append, List.map_map, List.nodup_append]
  refine ⟨g.nd, ?_, fun a ha b hb => ?_⟩
  ·rw [show ((fun q : Nm => q.1) ∘ fun s => (s, r)) = id from rfl, List.map_id]
   exact hL.filter _
  ·rw [show ((fun q : Nm => q.1) ∘ fun s => (s, r)) = id from rfl, List.map_id] at hb
   obtain ⟨q, hq, rfl⟩ := List.mem_map.mp ha
   exact any_num hb q hq
 ·rcases List.mem_append.mp hq with hq | hq
  ·exact g.sub q hq
  ·obtain ⟨s, hs, rfl⟩ := List.mem_map.mp hq
   exact (List.mem_filter.mp hs).1
theorem GoodN.len {L : List St} {ns : List Nm} (g : GoodN L ns) : ns.length ≤ L.length := by
 have := len_le g.nd fun x hx => by
  obtain ⟨q, hq, rfl⟩ := List.mem_map.mp hx
  exact g.sub q hq
 rwa [List.length_map] at this
abbrev bodyN2 : KS := bCons (sAsg (gSb (kVar 2) (kVar 6)) (kVar 4)) bNil
def knownD (line : List St) : D := .dct (line.map fun s => (tupS s, .bl true))
end Mn.K62
end
section
namespace Mn.K62
open PySem Mn Mn.Sh
def fallL (v : Vw) (L : List St) (ns : List Nm) : List St := L.filter fun s => !(ns.any fun q => decide (q.1 = s)) || (v.oth s).any fun b => !decide (b ∈ L)
end Mn.K62
end
section
namespace Mn.K62
open PySem Mn Mn.Sh
def remL (L f : List St) : List St := L.filter fun s => decide (s ∉ f)
def partL (v : Vw) : Nat → List St → List (List St) → List Nm × List (List St)
 | 0, L, ly => (numF v L, ly)
 | m + 1, L, ly => if (fallL v L (numF v L)).isEmpty then (numF v L, ly) else partL v m (remL L (fallL v L (numF v L))) (ly ++ [sortL (fallL v L (numF v L))])
def partF (v : Vw) : List Nm × List (List St) := partL v v.sts.length v.sts []
def layD (l : List St) : D := .tup (l.map tupS)
def leftD (L : List St) : D := .dct (L.map fun s => (tupS s, .bl true))
end Mn.K62
end
section
namespace Mn.K62
open PySem Mn Mn.Sh
theorem isi_tt (xs : List D) : bi .isi [.tup xs, .ty "tuple"] = some (.bl true) := by simp [bi, biIsi, isA, tyD]
theorem isi_ss (x : Str) : bi .isi [.str x, .ty "str"] = some (.bl true) := by simp [bi, biIsi, isA, tyD]
theorem isi_cls (c k : Nat) (fs : List (Nat × D)) : bi .isi [.ins c fs, .cls k] = some (.bl (c == k)) := by simp [bi, biIsi, isA, tyD]
def isSq : D → Bool
 | .tup _ => true
 | .lst _ => true
 | _ => false
def dat : Nat → D → Bool
 | _, .str _ => true
 | _, .int _ => true
 | _, .bl _ => true
 | _, .non => true
 | m + 1, .tup xs => xs.all (dat m)
 | m + 1, .lst xs => xs.all (dat m)
 | _, _ => false
def asT : Nat → D → D
 | m + 1, .tup xs => .tup (xs.map (asT m))
 | m + 1, .lst xs => .tup (xs.map (asT m))
 | _, d => d
theorem isi_lt {m : Nat} {d : D} (h : dat m d = true) : bi .isi [d, .tup [.ty "list", .ty "tuple"]] = some (.bl (isSq d)) := by
 cases d <;> first | (exfalso; cases m <;> simp [dat] at h; done) | simp [bi, biIsi, isAs, isA, tyD, isC, isSq]
theorem bels_all {n : Nat} {f : D → D} : ∀ {xs : List D}, (∀ x ∈ xs, bel n (f x) = true) → bels n (xs.map f) = true
 | [], _ => rfl
 | x :: r, h => by
  rw [List.map_cons]
  simp only [bels, h x List.mem_cons_self, Bool.true_and]
  exact bels_all fun y hy => h y (List.mem_cons_of_mem _ hy)
theorem bel_asT (n : Nat) : ∀ (m : Nat) (d : D), dat m d = true → bel n (asT m d) = true
 | m, .str _, _ => by cases m <;> rfl
 | m, .int _, _ => by cases m <;> rfl
 | m, .bl _, _ => by cases m <;> rfl
 | m, .non, _ => by cases m <;> rfl
 | m + 1, .tup xs, h => by
  simp only [dat, List.all_eq_true] at h
  exact bels_all fun x hx => bel_asT n m x (h x hx)
 | m + 1, .lst xs, h => by
  simp only [dat, List.all_eq_true] at h
  exact bels_all fun x hx => bel_asT n m x (h x hx)
 | 0, .tup _, h => by simp [dat] at h
 | 0, .lst _, h => by simp [dat] at h
 | m, .ty _, h => by cases m <;> simp [dat] at h
 | m, .row _, h => by cases m <;> simp [dat] at h
 | m, .dct _, h => by cases m <;> simp [dat] at h
 | m, .ins _ _, h => by cases m <;> simp [dat] at h
 | m, .cls _, h => by cases m <;> simp [dat] at h
 | m, .ref _, h => by cases m <;> simp [dat] at h
 | m, .scr _, h => by cases m <;> simp [dat] at h
 | m, .lck _, h => by cases m <;> simp [dat] at h
theorem drd {m : Nat} {M : Mem} {d : D} (h : dat m d = true) : dr M d = d := by
 cases d <;> first | (exfalso; cases m <;> simp [dat] at h; done) | rfl
theorem as_tuples_ok {n : Nat} {M : Mem} : ∀ (m k : Nat) (d : D), m + 1 ≤ k → dat m d = true → run tab n k false i_as_tuples [d] M = .ok (asT m d) M := by
 intro m
 induction m with
 | zero =>
  intro k d hk h
  have hs : isSq d = false := by cases d <;> simp [dat] at h <;> rfl
  have e : asT 0 d = d := by cases d <;> rfl
  have hb := bel_asT M.length 0 d h
  rw [e] at hb ⊢
  refine does shal h1 oM rfl rfl (ub_cons (us_if (k := false) (M1 := M) ?_ nF (fun _ => ub_nil)) (ub_rt (us_ret (r_var rfl)))) (fin_id0 hb)
  refine ut_val (x := .bl false) (r_blt (ds := [d, .tup [.ty "list", .ty "tuple"]]) (M1 := M) (r_acons (r_var rfl) (r_acons (r_tup (r_acons r_lit (r_acons r_lit r_anil))) r_anil)) ?_) rfl
  show bi .isi [dr M d, .tup [.ty "list", .ty "tuple"]] = _
  rw [drd h, isi_lt h, hs]
 | succ m ih =>
  intro k d hk h
  have hb := bel_asT M.length (m + 1) d h
  have key : ∀ xs : List D, xs.all (dat m) = true → walkOf M d = some ⟨xs, [], none⟩ → isSq d = true → asT (m + 1) d = .tup (xs.map (asT m)) → run tab n k false i_as_tuples [d] M = .ok (asT (m + 1) d) M := by
   intro xs hx hw hs e
   rw [e] at hb ⊢
   rw [List.all_eq_true] at hx
   refine does shal h1 oM rfl rfl (ub_rt (us_if (k := true) (M1 := M) ?_ (fun _ => ub_rt (us_ret (d := .tup (xs.map (asT m))) (r_tupO (x := .lst (xs.map (asT m))) (M1 := M) (r_new ?_) rfl))) nF)) (fin_id0 hb)
   ·refine ut_val (x := .bl true) (r_blt (ds := [d, .tup [.ty "list", .ty "tuple"]]) (M1 := M) (r_acons (r_var rfl) (r_acons (r_tup (r_acons r_lit (r_acons r_lit r_anil))) r_anil)) ?_) rfl
    show bi .isi [dr M d, .tup [.ty "list", .ty "tuple"]] = _
    rw [drd h, isi_lt h, hs]
   ·refine lcp_map1 (l := xs) (fd := fun d => d) (g := asT m) ?_ (fun p hp => ut_val r_lit rfl) (fun p hp => r_cal (ds := [p]) (M1 := M) (r_acons (r_var rfl) r_anil) (ih _ p oM (hx p hp)))
    rw [List.map_id']
    exact ui_it (r_var rfl) hw
  cases d with
  | tup xs => exact key xs (by simpa [dat] using h) rfl rfl rfl
  | lst xs => exact key xs (by simpa [dat] using h) rfl rfl rfl
  | str x =>
   have := ih k (.str x) oM (by cases m <;> rfl)
   rw [show asT (m + 1) (.str x) = .str x from rfl]
   rwa [show asT m (.str x) = .str x by cases m <;> rfl] at this
  | int x =>
   have := ih k (.int x) oM (by cases m <;> rfl)
   rw [show asT (m + 1) (.int x) = .int x from rfl]
   rwa [show asT m (.int x) = .int x by cases m <;> rfl] at this
  | bl x =>
   have := ih k (.bl x) oM (by cases m <;> rfl)
   rw [show asT (m + 1) (.bl x) = .bl x from rfl]
   rwa [show asT m (.bl x) = .bl x by cases m <;> rfl] at this
  | non =>
   have := ih k .non oM (by cases m <;> rfl)
   rw [show asT (m + 1) .non = .non from rfl]
   rwa [show asT m .non = .non by cases m <;> rfl] at this
  | _ => simp [dat] at h
def secB (v : Vw) (s : St) : Bool := (partF v).1.any fun q => decide (q.1 = s)
def itmD (q : Nm) : D := pair (tupS q.1) (.int (q.2 : Nat))
structure VwOk (v : Vw) : Prop where
 nd : v.sts.Nodup
 ne : ∀ s ∈ v.sts, s ≠ []
 few : v.sts.length < 100000
end Mn.K62
end
section
namespace Mn.K62
open PySem Mn Mn.Sh
theorem len_tupS {M : Mem} (s : St) : bi .len [dr M (tupS s)] = some (.int (s.length : Nat)) := by
 show some (D.int ((s.map D.str).length : Nat)) = _
 rw [List.length_map]
theorem cmp_intN {M : Mem} (i j : Int) : cmpK M .NotEq (.int i) (.int j) = some (.bl (!decide (i = j))) := by
 rw [← eq2_int]; rfl
end Mn.K62
end
section
namespace Mn.K62
open PySem Mn Mn.Sh
def lettersS : Str := Str.ofString "abcdefghijklmnopqrstuvwxyz"
def signsS : Str := Str.ofString "abcdefghijklmnopqrstuvwxyz0123456789"
structure NameOk (x : Str) : Prop where
 ne : 1 ≤ x.cps.toList.length
 le : x.cps.toList.length ≤ 12
 hd : ∀ c, x.cps.toList[0]? = some c → c ∈ lettersS.cps.toList
 al : ∀ c ∈ x.cps.toList, c ∈ signsS.cps.toList
theorem in_sign {M : Mem} (c : Nat) (z : Str) : cmpK M .In (sgn c) (.str z) = some (.bl (decide (c ∈ z.cps.toList))) := by
 rw [memN_eq]; rfl
theorem notin_sign {M : Mem} (c : Nat) (z : Str) : cmpK M .NotIn (sgn c) (.str z) = some (.bl (!decide (c ∈ z.cps.toList))) := by
 rw [memN_eq]; rfl
theorem len_str {M : Mem} (x : Str) (h : x.cps.toList.length ≤ 1000) : bi .len [dr M (.str x)] = some (.int (x.cps.toList.length : Nat)) := by
 show (if x.length ≤ big then some (D.int (x.length : Nat)) else none) = _
 have e : x.length = x.cps.toList.length := by show x.cps.size = _; simp
 rw [e, if_pos (by show _ ≤ 16000000; omega)]
theorem ix_nat {n i : Nat} (h : i < n) : ixP n (i : Int) = some i := by
 show L2.ixN _ _ = _
 unfold L2.ixN
 simp [h]
theorem idx_str0 {x : Str} {c : Nat} (h : x.cps.toList[0]? = some c) (hl : x.cps.toList.length ≤ 1000) : idx (.str x) (.int 0) = some (sgn c) := by
 have e : x.length = x.cps.toList.length := by show x.cps.size = _; simp
 show (if x.length ≤ big then ((ixP x.cps.toList.length (0 : Int)).bind fun k => x.cps.toList[k]?).map sgn else none) = _
 rw [e, if_pos (by show _ ≤ 16000000; omega)]
 have hp : 0 < x.cps.toList.length := (List.getElem?_eq_some_iff.mp h).1
 have e2 : ixP x.cps.toList.length (0 : Int) = some 0 := ix_nat hp
 rw [e2]
 simp only [Option.bind_some, h, Option.map_some]
theorem walk_str {M : Mem} (x : Str) (h : x.cps.toList.length ≤ 1000) : walkOf M (.str x) = some ⟨x.cps.toList.map sgn, [], none⟩ := by
 have e : x.length = x.cps.toList.length := by show x.cps.size = _; simp
 show (if x.length ≤ big then some (⟨x.cps.toList.map sgn, [], none⟩ : Walk) else none) = _
 rw [e, if_pos (by show _ ≤ 16000000; omega)]
theorem le_int {M : Mem} {i j : Int} : cmpK M .LtE (.int i) (.int j) = some (.bl (decide (i ≤ j))) := rfl
theorem is_name_ok {n k : Nat} {M : Mem} (hk : 1 ≤ k) {x : Str} (h : NameOk x) : run tab n k false i_is_name [.str x] M = .ok (.bl true) M := by
 have hle : x.cps.toList.length ≤ 1000 := Nat.le_trans h.le (by decide)
 obtain ⟨c, hc⟩ : ∃ c, x.cps.toList[0]? = some c := ⟨_, List.getElem?_eq_getElem h.ne⟩
 have ht : tOr (tNot (tVal (kBlt .isi (aCons (kVar 0) (aCons (kLit (.ty "str")) aNil))))) (tOr (tNot (tVal (kChn .LtE .LtE (kLit (.int 1)) (kBlt .len (aCons (kVar 0) aNil)) (kLit (.int 12))))) (Sh.tCmp .NotIn (kIdx (kVar 0) (kLit (.int 0))) (kLit (.str lettersS)))) [some (.str x), none] M = .ok (!true || (!(decide ((1 : Int) ≤ (x.cps.toList.length : Nat)) && decide ((x.cps.toList.length : Int) ≤ 12)) || !decide (c ∈ lettersS.cps.toList))) M := by
  refine ut_or (ut_not (ut_val (x := .bl true) (r_blt (ds := [.str x, .ty "str"]) (M1 := M) (r_acons (r_var rfl) (r_acons r_lit r_anil)) (isi_ss x)) rfl)) (fun _ => ut_or (ut_not (ut_val (x := .bl _) (r_chn (x := .int 1) (y := .int (x.cps.toList.length : Nat)) (z := .int 12) (M1 := M) (M2 := M) r_lit (r_blt (r_acons (r_var rfl) r_anil) (len_str x hle)) le_int (fun _ => r_lit) (fun _ => le_int)) rfl)) (fun _ => ut_cmp (x := sgn c) (M1 := M) (r_idx (x := .str x) (y := .int 0) (M1 := M) (r_var rfl) r_lit (idx_str0 hc hle)) r_lit (notin_sign c _)))
 have e : (!true || (!(decide ((1 : Int) ≤ (x.cps.toList.length : Nat)) && decide ((x.cps.toList.length : Int) ≤ 12)) || !decide (c ∈ lettersS.cps.toList))) = false := by
  have a := h.ne
  have b := h.le
  have d := h.hd c hc
  simp only [Bool.not_true, Bool.false_or, Bool.or_eq_false_iff, Bool.not_eq_false', Bool.and_eq_true, decide_eq_true_eq]
  exact ⟨⟨by omega, by omega⟩, d⟩
 rw [e] at ht
 refine does shal h3 hk rfl rfl (ub_cons (us_if (M1 := M) ht nF (fun _ => ub_nil)) (ub_rt (us_ret (r_blt (r_acons (r_new (lcp_map1 (i := 1) (vs := [1]) (l := x.cps.toList) (fd := sgn) (g := fun c => .bl (decide (c ∈ signsS.cps.toList))) (ui_it (r_var rfl) (walk_str x hle)) (fun p hp => ut_val r_lit rfl) (fun p hp => r_cmp (r_var rfl) r_lit (in_sign p _)))) r_anil) (all_map _ _))))) ?_
 have : (x.cps.toList.all fun c => decide (c ∈ signsS.cps.toList)) = true := by
  rw [List.all_eq_true]; intro c hc; simpa using h.al c hc
 rw [this]
 exact fin_id0 rfl
end Mn.K62
end
section
namespace Mn.K62
open PySem Mn Mn.Sh
theorem cmp_intE {M : Mem} (i j : Int) : cmpK M .Eq (.int i) (.int j) = some (.bl (decide (i = j))) := by
 rw [← eq2_int]; rfl
structure PairsOk (l : List (Str × Str)) : Prop where
 nm : ∀ p ∈ l, NameOk p.1 ∧ NameOk p.2
 nd : (l.map fun p => p.1).Nodup
def leP (p q : Str × Str) : Bool := leD (pairD p) (pairD q)
def sortP (l : List (Str × Str)) : List (Str × Str) := l.mergeSort leP
theorem allAl_of {α : Type} {f : α → D} (h : ∀ x y, likeD (f x) (f y) = true) : ∀ xs : List α, allAl (xs.map f) = true
 | [] => rfl
 | x :: r => by
  rw [List.map_cons]
  unfold allAl
  rw [h, allAl_of h r, Bool.true_and, Bool.and_true, List.all_eq_true]
  intro y hy
  obtain ⟨z, _, rfl⟩ := List.mem_map.mp hy
  rw [h, h]; rfl
def sortA (a : Act') : Act' := ⟨a.name, a.owner, sortP a.needs, sortP a.moves⟩
structure ActOk (a : Act') : Prop where
 nm : NameOk a.name
 ow : NameOk a.owner
 nd : PairsOk a.needs
 mv : PairsOk a.moves
end Mn.K62
end
section
namespace Mn.K62
open PySem Mn Mn.Sh
def knS (l : List Str) : D := .dct (l.map fun x => (D.str x, D.bl true))
theorem kok_s (x : Str) (l : List Str) : kok2 (l.map fun x => (D.str x, D.bl true)) (.str x) = true := kok_of (kf := fun x : Str => D.str x) (vf := fun _ => D.bl true) (b := false) (fun _ _ => rfl) rfl rfl
theorem get2_s (x : Str) (l : List Str) (h : x ∉ l) : get2 (l.map fun x => (D.str x, D.bl true)) (.str x) = none := get2_none (kf := fun x : Str => D.str x) (vf := fun _ => D.bl true) fun p hp => by
 rw [eq2_str]
 have : ¬ p = x := fun e => h (e ▸ hp)
 simpa using this
theorem in_dctS {M : Mem} {x : Str} {d : D} {ps : List (D × D)} (hd : dr M d = .dct ps) (hk : kok2 ps (.str x) = true) : cmpK M .In (.str x) d = some (.bl (get2 ps (.str x)).isSome) := by
 unfold cmpK
 rw [hd]
 show ((match kok2 ps (.str x) with | true => some (match get2 ps (.str x) with | some _ => true | none => false) | false => none) : Option Bool).map D.bl = _
 rw [hk]
 cases get2 ps (.str x) <;> rfl
theorem not_takeS {l : List Str} (nd : l.Nodup) {j : Nat} {x : Str} (h : l[j]? = some x) : x ∉ l.take j := by
 intro hm
 obtain ⟨i, hi, e⟩ := List.mem_iff_getElem.mp hm
 rw [List.length_take] at hi
 rw [List.getElem_take] at e
 obtain ⟨hj, e2⟩ := List.getElem?_eq_some_iff.mp h
 have := (List.getElem_inj nd).mp (e.trans e2.symm)
 omega
end Mn.K62
end
section
namespace Mn.K62
open PySem Mn Mn.Sh
structure ActIn (ps hs gs : List Str) (a : Act') : Prop where
 ow : a.owner ∈ ps
 gd : ∀ p ∈ a.needs ++ a.moves, p.1 ∈ gs
 hd : ∀ p ∈ a.needs ++ a.moves, p.2 ∈ ps ∨ p.2 ∈ hs
 cv : ∀ p ∈ a.moves, p.1 ∈ (a.needs.filter fun q => decide (q.2 = a.owner) || decide (q.2 ∈ hs)).map fun q => q.1
end Mn.K62
end
section
namespace Mn.K62
open PySem Mn Mn.Sh
def leT (x y : Str) : Bool := leD (.str x) (.str y)
def ltT (x y : Str) : Bool := ltD (.str x) (.str y)
def sortT (xs : List Str) : List Str := xs.mergeSort leT
theorem like_str (x y : Str) : likeD (.str x) (.str y) = true := by simp [likeD, shp, toP, PySem.W.alike, notN]
theorem sortD_str (xs : List Str) : sortD (xs.map D.str) = some ((sortT xs).map D.str) := by
 unfold sortD
 have h1 : (xs.map D.str).all notTN = true := by
  rw [List.all_eq_true]; intro y hy; obtain ⟨z, _, rfl⟩ := List.mem_map.mp hy; rfl
 rw [allAl_of like_str, h1]
 simp only [Bool.or_true, Bool.and_self, if_true]
 unfold sortT
 rw [List.map_mergeSort (r := leT) (s := leD) (f := D.str) (fun a _ b _ => rfl)]
theorem sortT_perm (xs : List Str) : (sortT xs).Perm xs := List.mergeSort_perm _ _
theorem rng_len (m : Nat) (h : m < 100000) : rngD 0 ((m : Nat) - 1 : Int) = some ((List.range (m - 1)).map fun i => D.int (i : Nat)) := by
 unfold rngD
 rw [if_pos (by have : (big : Int) = 16000000 := rfl; refine ⟨by decide, by decide, ?_, ?_, ?_⟩ <;> omega)]
 unfold rngs
 have : ((m : Int) - 1 - 0).toNat = m - 1 := by omega
 rw [this]
 simp
theorem rng_n (m : Nat) (h : m < 100000) : rngD 0 (m : Nat) = some ((List.range m).map fun i => D.int (i : Nat)) := by
 unfold rngD
 rw [if_pos (by have : (big : Int) = 16000000 := rfl; refine ⟨by decide, by decide, ?_, ?_, ?_⟩ <;> omega)]
 unfold rngs
 have : ((m : Int) - 0).toNat = m := by omega
 rw [this]
 simp
structure LotOk (gs lot : List Str) : Prop where
 mem : ∀ x ∈ lot, x ∈ gs
 asc : lot.Pairwise (fun x y => ltT x y = true)
 len : lot.length < 1000
def lotD (row : List (List Str)) : D := .tup (row.map tupS)
end Mn.K62
end
section
namespace Mn.K62
open PySem Mn Mn.Sh
structure RawOk (d : Deal') : Prop where
 p1 : 1 ≤ d.parties.length
 p5 : d.parties.length ≤ 5
 ho : d.houses.length ≤ 4
 nm : ∀ x ∈ d.parties ++ d.houses, NameOk x
 nd : (d.parties ++ d.houses).Nodup
 g1 : 1 ≤ d.goods.length
 g6 : d.goods.length ≤ 6
 gn : ∀ p ∈ d.goods, NameOk p.1
 gd : (gnames d).Nodup
 gh : ∀ p ∈ d.goods, p.2 ∈ d.parties ++ d.houses
 a40 : d.acts.length ≤ 40
 ao : ∀ a ∈ d.acts, ActOk a
 ad : (d.acts.map fun a => a.name).Nodup
 ai : ∀ a ∈ d.acts, ActIn d.parties d.houses (gnames d) a
 al : ∀ a ∈ d.acts, a.needs.length + a.moves.length ≤ 1000
 wl : d.wishes.length = d.parties.length
 rl : d.rests.length = d.parties.length
 wo : ∀ row ∈ d.wishes, ∀ lot ∈ row, LotOk (gnames d) lot
 ro : ∀ row ∈ d.rests, ∀ lot ∈ row, LotOk (gnames d) lot
 ws : ∀ row ∈ d.wishes, row.length < 1000
 rs : ∀ row ∈ d.rests, row.length < 1000
 cp : (d.parties ++ d.houses).length ^ d.goods.length < 2001
def rowS (xs : List Str) : D := .row (xs.map .str)
end Mn.K62
end
section
namespace Mn.K62
open PySem Mn Mn.Sh
def made (d : Deal') : Deal' := { d with acts := d.acts.map sortA }
def rawAct (a : Act') : D := .tup [.str a.name, .str a.owner, pairsD a.needs, pairsD a.moves]
def rawD (d : Deal') : D := .tup [rowS d.parties, tupS d.houses, pairsD d.goods, .tup (d.acts.map rawAct), lotsD d.wishes, lotsD d.rests]
def secR (d : Deal') (p : Str) (s : St) : Bool := secB (mkVw (made d) p s) s
end Mn.K62
end
section
namespace Mn.K62
open PySem Mn Mn.Sh
theorem cmp_lst {M : Mem} {xs ys : List D} (hx : shps 8 xs = true) (hy : shps 8 ys = true) : cmpK M .Eq (.lst xs) (.lst ys) = some (.bl (eq2s xs ys)) := by
 show (match shps 8 xs, shps 8 ys with | true, true => some (D.bl (eq2s xs ys)) | _, _ => none) = _
 rw [hx, hy]
theorem cmp_lstN {M : Mem} {xs ys : List D} (hx : shps 8 xs = true) (hy : shps 8 ys = true) : cmpK M .NotEq (.lst xs) (.lst ys) = some (.bl (!eq2s xs ys)) := by
 show (match shps 8 xs, shps 8 ys with | true, true => some (D.bl (!eq2s xs ys)) | _, _ => none) = _
 rw [hx, hy]
theorem eq2s_nil (xs : List D) : eq2s xs [] = xs.isEmpty := by cases xs <;> rfl
theorem shps_map {α : Type} {n : Nat} {f : α → D} (h : ∀ a, shp n (f a) = true) : ∀ xs : List α, shps n (xs.map f) = true
 | [] => rfl
 | x :: r => by simp [shps, h x, shps_map h r]
def afterR (d : Deal') (s : St) (a : Act') : St := a.moves.foldl (fun t m => t.set (place d m.1) m.2) s
end Mn.K62
end
section
namespace Mn.K62
open PySem Mn Mn.Sh
def sD (w : W') : D × D := (tupS w.1, .bl true)
def memS (M : Mem) (ws : List W') : Mem := M ++ [.lst (ws.map fun w => tupS w.1), .dct (ws.map sD)]
def statesL (d : Deal') (s : St) : List St := sortL ((reachW d s).map fun w => w.1)
end Mn.K62
end
section
namespace Mn.K62
open PySem Mn Mn.Sh
structure Pen where
 cells : List Int
 at_ : Nat
 dig : Int
 cnt : Int
 fold : Int
structure PenOk (c : Pen) : Prop where
 al : c.at_ ≤ c.cells.length
 dg : 0 ≤ c.dig
def psP (c : Pen) : List (D × D) := [(.str (Str.ofString "cells"), .lst (c.cells.map .int)), (.str (Str.ofString "at"), .int (c.at_ : Nat)), (.str (Str.ofString "digits"), .int c.dig), (.str (Str.ofString "count"), .int c.cnt), (.str (Str.ofString "fold"), .int c.fold)]
def penD (c : Pen) : D := .dct (psP c)
theorem pen_at (c : Pen) : idx (penD c) (.str (Str.ofString "at")) = some (.int (c.at_ : Nat)) := by rfl
theorem pen_cells (c : Pen) : idx (penD c) (.str (Str.ofString "cells")) = some (.lst (c.cells.map .int)) := by rfl
theorem pen_dig (c : Pen) : idx (penD c) (.str (Str.ofString "digits")) = some (.int c.dig) := by rfl
theorem pen_cnt (c : Pen) : idx (penD c) (.str (Str.ofString "count")) = some (.int c.cnt) := by rfl
theorem pen_fold (c : Pen) : idx (penD c) (.str (Str.ofString "fold")) = some (.int c.fold) := by rfl
theorem put_at (c : Pen) (v : Nat) : dput (psP c) (.str (Str.ofString "at")) (.int (v : Nat)) = psP { c with at_ := v } := by rfl
theorem put_dig (c : Pen) (v : Int) : dput (psP c) (.str (Str.ofString "digits")) (.int v) = psP { c with dig := v } := by rfl
theorem put_cnt (c : Pen) (v : Int) : dput (psP c) (.str (Str.ofString "count")) (.int v) = psP { c with cnt := v } := by rfl
theorem put_fold (c : Pen) (v : Int) : dput (psP c) (.str (Str.ofString "fold")) (.int v) = psP { c with fold := v } := by rfl
theorem rP {σ : Sl} {X : Mem} {c : Pen} {w : Str} {v : D} (h0 : slot σ 0 = some (.ref 0)) (h : idx (penD c) (.str w) = some v) : kIdx (kVar 0) (kLit (.str w)) σ (penD c :: X) = .ok v (penD c :: X) := r_idx (x := .ref 0) (y := .str w) (M1 := penD c :: X) (r_var h0) r_lit h
theorem gP {σ : Sl} {X : Mem} {c c' : Pen} {w : Str} {v : D} (h0 : slot σ 0 = some (.ref 0)) (h : dput (psP c) (.str w) v = psP c') (hk : kok2 (psP c) (.str w) = true) : gSb (kVar 0) (kLit (.str w)) v σ (penD c :: X) = .ok σ (penD c' :: X) := by
 have := ug_sbk (M := []) (X := penD c :: X) (j := 0) (o' := kVar 0) (i' := kLit (.str w)) (d := v) (σ := σ) (ps := psP c) (key := .str w) (r_var h0) r_lit rfl hk (show 5 < 16000000 by omega)
 rw [h] at this
 exact this
theorem b_add (i j : Int) : binR .Add (.int i) (.int j) (.int i) (.int j) = some (.int (i + j)) := rfl
theorem b_sub (i j : Int) : binR .Sub (.int i) (.int j) (.int i) (.int j) = some (.int (i - j)) := rfl
theorem b_mulR {i j : Int} (h : small64 j = true) : binR .Mult (.int i) (.int j) (.int i) (.int j) = some (.int (i * j)) := by
 show (if (small64 i || small64 j) = true then some (D.int (i * j)) else none) = _
 rw [h, Bool.or_true, if_pos rfl]
theorem b_mulL {i j : Int} (h : small64 i = true) : binR .Mult (.int i) (.int j) (.int i) (.int j) = some (.int (i * j)) := by
 show (if (small64 i || small64 j) = true then some (D.int (i * j)) else none) = _
 rw [h, Bool.true_or, if_pos rfl]
theorem b_mod {i j : Int} (h : 0 < j) : binR .Mod (.int i) (.int j) (.int i) (.int j) = some (.int (i % j)) := by
 show (if 0 < j then some (D.int (i % j)) else none) = _
 rw [if_pos h]
theorem b_div {i j : Int} (h : 0 < j) (h2 : j < 1073741824) : binR .FloorDiv (.int i) (.int j) (.int i) (.int j) = some (.int (i / j)) := by
 show (if 0 < j ∧ j < 1073741824 then some (D.int (i / j)) else none) = _
 rw [if_pos ⟨h, h2⟩]
theorem b_pow : binR .Pow (.int 10) (.int 18) (.int 10) (.int 18) = some (.int 1000000000000000000) := by
 show (if (0 : Int) ≤ 18 ∧ (18 : Int) ≤ 1000000 ∧ (10 : Int).natAbs < 2 ^ 64 then some (D.int (10 ^ (18 : Int).toNat)) else none) = _
 rw [if_pos (by decide)]; rfl
theorem ge_int {M : Mem} {i j : Int} : cmpK M .GtE (.int i) (.int j) = some (.bl (decide (j ≤ i))) := rfl
theorem gt_int {M : Mem} {i j : Int} : cmpK M .Gt (.int i) (.int j) = some (.bl (decide (j < i))) := rfl
theorem r_int {σ : Sl} {M M1 : Mem} {e : KE} {i : Int} (h : e σ M = .ok (.int i) M1) : kBlt .int (aCons e aNil) σ M = .ok (.int i) M1 := r_blt (r_acons h r_anil) rfl
theorem r_ints {σ : Sl} {M : Mem} {op : Operator} {a b : KE} {i j : Int} {d : D} (ha : a σ M = .ok (.int i) M) (hb : b σ M = .ok (.int j) M) (h : binR op (.int i) (.int j) (.int i) (.int j) = some d) : kBin op a b σ M = .ok d M := r_bin ha hb h
theorem fin_pen {c c' : Pen} {X Y : Mem} {d : D} (h : bel (X.length + 1) d = true) : fin false (penD c :: X).length (penD c :: X) (penD c' :: X ++ Y) d = .ok d (penD c' :: X) := by
 have hb : ∀ m, bel m (penD c') = true := by
  intro m
  have : bels m (c'.cells.map .int) = true := bels_map m _ (fun _ => rfl) _
  simp only [penD, psP, bel, belp, this, Bool.and_self]
 unfold fin
 have hl : (penD c :: X).length = X.length + 1 := rfl
 rw [if_pos (by
  refine ⟨by simp, fun i hi => ?_⟩
  cases i with
  | zero => exact .inr ⟨penD c', rfl, hb _⟩
  | succ i =>
   left
   rw [hl] at hi
   show (X ++ Y)[i]? = X[i]?
   rw [List.getElem?_append_left oM]), hl, frz_id h, if_neg (by decide), if_pos h]
 congr 1
 simp
theorem fin_pen0 {c c' : Pen} {X : Mem} {d : D} (h : bel (X.length + 1) d = true) : fin false (penD c :: X).length (penD c :: X) (penD c' :: X) d = .ok d (penD c' :: X) := by
 have := fin_pen (c := c) (c' := c') (Y := []) h
 rwa [List.append_nil] at this
theorem draw_ok {n k : Nat} {X : Mem} (hk : 1 ≤ k) {c : Pen} (hc : PenOk c) {many : Nat} (hm : 0 < many) (hm2 : many < 1000000) : ∃ (r : Nat) (c' : Pen), PenOk c' ∧ r < many ∧ run tab n k false i__law_draw [.ref 0, .int (many : Nat)] (penD c :: X) = .ok (.int (r : Nat)) (penD c' :: X) := by
 have hmod : ∀ i : Int, ((i % (many : Int)).toNat : Int) = i % (many : Int) ∧ (i % (many : Int)).toNat < many := by
  intro i
  have h1 := Int.emod_nonneg i (show (many : Int) ≠ 0 by omega)
  have h2 := Int.emod_lt_of_pos i (show 0 < (many : Int) by omega)
  exact ⟨Int.toNat_of_nonneg h1, by omega⟩
 have hA : ∃ c2 y2, PenOk c2 ∧ sIf (tAnd (Sh.tCmp .Eq (kIdx (kVar 0) (kLit (.str (Str.ofString "digits")))) (kLit (.int 0))) (Sh.tCmp .Lt (kIdx (kVar 0) (kLit (.str (Str.ofString "at")))) (kBlt .len (aCons (kIdx (kVar 0) (kLit (.str (Str.ofString "cells")))) aNil)))) (bCons (sAsg (gNm 2) (kIdx (kIdx (kVar 0) (kLit (.str (Str.ofString "cells")))) (kIdx (kVar 0) (kLit (.str (Str.ofString "at")))))) (bCons (sAsg (gSb (kVar 0) (kLit (.str (Str.ofString "at")))) (kBin .Add (kIdx (kVar 0) (kLit (.str (Str.ofString "at")))) (kLit (.int 1)))) (bCons (sIf (Sh.tCmp .GtE (kVar 2) (kBin .Pow (kLit (.int 10)) (kLit (.int 18)))) (bCons (sAsg (gSb (kVar 0) (kLit (.str (Str.ofString "digits")))) (kBin .Sub (kVar 2) (kBin .Pow (kLit (.int 10)) (kLit (.int 18))))) bNil) (bCons (sAsg (gSb (kVar 0) (kLit (.str (Str.ofString "fold")))) (kBin .Mod (kBlt .int (aCons (kBin .Add (kBin .Mult (kIdx (kVar 0) (kLit (.str (Str.ofString "fold")))) (kLit (.int 69069))) (kVar 2)) aNil)) (kLit (.int 2147483587)))) bNil)) bNil))) bNil [some (.ref 0), some (.int (many : Nat)), none, none, none] (penD { c with cnt := c.cnt + 1 } :: X) = .nx [some (.ref 0), some (.int (many : Nat)), y2, none, none] (penD c2 :: X) := by
  generalize hc1 : ({ c with cnt := c.cnt + 1 } : Pen) = c1
  have h1 : PenOk c1 := by subst hc1; exact ⟨hc.al, hc.dg⟩
  clear hc1
  have ht : tAnd (Sh.tCmp .Eq (kIdx (kVar 0) (kLit (.str (Str.ofString "digits")))) (kLit (.int 0))) (Sh.tCmp .Lt (kIdx (kVar 0) (kLit (.str (Str.ofString "at")))) (kBlt .len (aCons (kIdx (kVar 0) (kLit (.str (Str.ofString "cells")))) aNil))) [some (.ref 0), some (.int (many : Nat)), none, none, none] (penD c1 :: X) = .ok (decide (c1.dig = 0) && decide ((c1.at_ : Int) < (c1.cells.length : Nat))) (penD c1 :: X) := by
   refine ut_and (ut_cmp (rP rfl (pen_dig c1)) r_lit (cmp_intE _ _)) (fun _ => ut_cmp (rP rfl (pen_at c1)) (r_blt (r_acons (rP rfl (pen_cells c1)) r_anil) ?_) lt_int)
   show some (D.int ((c1.cells.map D.int).length : Nat)) = _
   rw [List.length_map]
  cases hk1 : (decide (c1.dig = 0) && decide ((c1.at_ : Int) < (c1.cells.length : Nat))) with
  | false =>
   rw [hk1] at ht
   exact ⟨c1, none, h1, us_if ht nF (fun _ => ub_nil)⟩
  | true =>
   rw [hk1] at ht
   simp only [Bool.and_eq_true, decide_eq_true_eq] at hk1
   have hlt : c1.at_ < c1.cells.length := by have := hk1.2; omega
   have hcell : idx (.lst (c1.cells.map .int)) (.int (c1.at_ : Nat)) = some (.int c1.cells[c1.at_]) := idx_lst (f := D.int) hlt
   generalize c1.cells[c1.at_] = cell at hcell
   have h2 : PenOk { c1 with at_ := c1.at_ + 1 } := ⟨hlt, h1.dg⟩
   have step : ∀ c3 : Pen, (sIf (Sh.tCmp .GtE (kVar 2) (kBin .Pow (kLit (.int 10)) (kLit (.int 18)))) (bCons (sAsg (gSb (kVar 0) (kLit (.str (Str.ofString "digits")))) (kBin .Sub (kVar 2) (kBin .Pow (kLit (.int 10)) (kLit (.int 18))))) bNil) (bCons (sAsg (gSb (kVar 0) (kLit (.str (Str.ofString "fold")))) (kBin .Mod (kBlt .int (aCons (kBin .Add (kBin .Mult (kIdx (kVar 0) (kLit (.str (Str.ofString "fold")))) (kLit (.int 69069))) (kVar 2)) aNil)) (kLit (.int 2147483587)))) bNil)) [some (.ref 0), some (.int (many : Nat)), some (.int cell), none, none] (penD { c1 with at_ := c1.at_ + 1 } :: X) = .nx [some (.ref 0), some (.int (many : Nat)), some (.int cell), none, none] (penD c3 :: X) →
    sIf (tAnd (Sh.tCmp .Eq (kIdx (kVar 0) (kLit (.str (Str.ofString "digits")))) (kLit (.int 0))) (Sh.tCmp .Lt (kIdx (kVar 0) (kLit (.str (Str.ofString "at")))) (kBlt .len (aCons (kIdx (kVar 0) (kLit (.str (Str.ofString "cells")))) aNil)))) (bCons (sAsg (gNm 2) (kIdx (kIdx (kVar 0) (kLit (.str (Str.ofString "cells")))) (kIdx (kVar 0) (kLit (.str (Str.ofString "at")))))) (bCons (sAsg (gSb (kVar 0) (kLit (.str (Str.ofString "at")))) (kBin .Add (kIdx (kVar 0) (kLit (.str (Str.ofString "at")))) (kLit (.int 1)))) (bCons (sIf (Sh.tCmp .GtE (kVar 2) (kBin .Pow (kLit (.int 10)) (kLit (.int 18)))) (bCons (sAsg (gSb (kVar 0) (kLit (.str (Str.ofString "digits")))) (kBin .Sub (kVar 2) (kBin .Pow (kLit (.int 10)) (kLit (.int 18))))) bNil) (bCons (sAsg (gSb (kVar 0) (kLit (.str (Str.ofString "fold")))) (kBin .Mod (kBlt .int (aCons (kBin .Add (kBin .Mult (kIdx (kVar 0) (kLit (.str (Str.ofString "fold")))) (kLit (.int 69069))) (kVar 2)) aNil)) (kLit (.int 2147483587)))) bNil)) bNil))) bNil [some (.ref 0), some (.int (many : Nat)), none, none, none] (penD c1 :: X) = .nx [some (.ref 0), some (.int (many : Nat)), some (.int cell), none, none] (penD c3 :: X) := by
    intro c3 h3
    refine us_if ht (fun _ => ?_) nF
    refine ub_cons (us_nmp (d := .int cell) (r_idx (x := .lst (c1.cells.map .int)) (y := .int (c1.at_ : Nat)) (M1 := penD c1 :: X) (rP rfl (pen_cells c1)) (rP rfl (pen_at c1)) hcell)) (ub_cons (us_tg (d := .int ((c1.at_ + 1 : Nat))) (M1 := penD c1 :: X) (r_ints (rP rfl (pen_at c1)) r_lit (b_add _ _)) (gP rfl (put_at c1 _) rfl)) (ub_cons h3 ub_nil))
   by_cases hge : (1000000000000000000 : Int) ≤ cell
   ·refine ⟨{ c1 with at_ := c1.at_ + 1, dig := cell - 1000000000000000000 }, some (.int cell), ⟨hlt, by show 0 ≤ cell - 1000000000000000000; omega⟩, step _ ?_⟩
    exact us_if (k := true) (M1 := penD { c1 with at_ := c1.at_ + 1 } :: X) (ut_cmp (x := .int cell) (y := .int 1000000000000000000) (M1 := penD { c1 with at_ := c1.at_ + 1 } :: X) (r_var rfl) (r_ints r_lit r_lit b_pow) (by rw [ge_int, decide_eq_true hge])) (fun _ => ub_cons (us_tg (d := .int (cell - 1000000000000000000)) (M1 := penD { c1 with at_ := c1.at_ + 1 } :: X) (r_ints (r_var rfl) (r_ints r_lit r_lit b_pow) (b_sub _ _)) (gP rfl (put_dig { c1 with at_ := c1.at_ + 1 } _) rfl)) ub_nil) nF
   ·refine ⟨{ c1 with at_ := c1.at_ + 1, fold := (c1.fold * 69069 + cell) % 2147483587 }, some (.int cell), ⟨hlt, h1.dg⟩, step _ ?_⟩
    exact us_if (k := false) (M1 := penD { c1 with at_ := c1.at_ + 1 } :: X) (ut_cmp (x := .int cell) (y := .int 1000000000000000000) (M1 := penD { c1 with at_ := c1.at_ + 1 } :: X) (r_var rfl) (r_ints r_lit r_lit b_pow) (by rw [ge_int, decide_eq_false hge])) nF (fun _ => ub_cons (us_tg (d := .int ((c1.fold * 69069 + cell) % 2147483587)) (M1 := penD { c1 with at_ := c1.at_ + 1 } :: X) (r_ints (r_int (r_ints (r_ints (rP rfl (pen_fold { c1 with at_ := c1.at_ + 1 })) r_lit (b_mulR rfl)) (r_var rfl) (b_add _ _))) r_lit (b_mod (by decide))) (gP rfl (put_fold { c1 with at_ := c1.at_ + 1 } _) rfl)) ub_nil)
 obtain ⟨c2, y2, h2, hA⟩ := hA
 have first := us_tg (σ := [some (.ref 0), some (.int (many : Nat)), none, none, none]) (σ2 := [some (.ref 0), some (.int (many : Nat)), none, none, none]) (e := kBin .Add (kIdx (kVar 0) (kLit (.str (Str.ofString "count")))) (kLit (.int 1))) (t := gSb (kVar 0) (kLit (.str (Str.ofString "count")))) (d := .int (c.cnt + 1)) (M := penD c :: X) (M1 := penD c :: X) (M2 := penD { c with cnt := c.cnt + 1 } :: X) (r_ints (rP rfl (pen_cnt c)) r_lit (b_add _ _)) (gP rfl (put_cnt c _) rfl)
 have ht : Sh.tCmp .Gt (kIdx (kVar 0) (kLit (.str (Str.ofString "digits")))) (kLit (.int 0)) [some (.ref 0), some (.int (many : Nat)), y2, none, none] (penD c2 :: X) = .ok (decide (0 < c2.dig)) (penD c2 :: X) := ut_cmp (rP rfl (pen_dig c2)) r_lit gt_int
 by_cases hd : 0 < c2.dig
 ·rw [decide_eq_true hd] at ht
  obtain ⟨e1, e2⟩ := hmod c2.dig
  refine ⟨(c2.dig % (many : Int)).toNat, { c2 with dig := c2.dig / (many : Int) }, ⟨h2.al, Int.ediv_nonneg h2.dg oM⟩, e2, ?_⟩
  rw [e1]
  refine does shal h22 hk rfl rfl (ub_cons first (ub_cons hA (ub_rt (us_if ht (fun _ => ?_) nF)))) (fin_pen0 rfl)
  exact ub_cons (us_nmp (d := .int (c2.dig % (many : Int))) (r_ints (r_int (rP rfl (pen_dig c2))) (r_var rfl) (b_mod oM))) (ub_cons (us_tg (d := .int (c2.dig / (many : Int))) (M1 := penD c2 :: X) (r_ints (rP rfl (pen_dig c2)) (r_var rfl) (b_div oM oM)) (gP rfl (put_dig c2 _) rfl)) (ub_rt (us_ret (r_var rfl))))
 ·rw [decide_eq_false hd] at ht
  generalize hb1 : (c2.fold * 48271 + c2.cnt * 7919 + 13) % 2147483647 = b1
  have s1 : small64 b1 = true := by
   rw [← hb1]
   have h3 := Int.emod_nonneg (c2.fold * 48271 + c2.cnt * 7919 + 13) (show (2147483647 : Int) ≠ 0 by decide)
   have h4 := Int.emod_lt_of_pos (c2.fold * 48271 + c2.cnt * 7919 + 13) (show (0 : Int) < 2147483647 by decide)
   unfold small64
   rw [decide_eq_true_eq]
   omega
  generalize hb2 : (b1 * b1 + 31 * b1 + c2.cnt) % 2147483629 = b2
  obtain ⟨e1, e2⟩ := hmod (b2 / 64)
  refine ⟨(b2 / 64 % (many : Int)).toNat, { c2 with fold := (b2 * 16807 + 7) % 2147483647 }, ⟨h2.al, h2.dg⟩, e2, ?_⟩
  rw [e1]
  refine does shal h22 hk rfl rfl (ub_cons first (ub_cons hA (ub_cons (us_if ht nF (fun _ => ub_nil)) ?_))) (fin_pen0 rfl)
  refine ub_cons (us_nmp (d := .int b1) ?_) (ub_cons (us_nmp (d := .int b2) ?_) (ub_cons (us_tg (d := .int ((b2 * 16807 + 7) % 2147483647)) (M1 := penD c2 :: X) ?_ (gP rfl (put_fold c2 _) rfl)) (ub_rt (us_ret ?_))))
  ·rw [← hb1]
   exact r_ints (r_int (r_ints (r_ints (r_ints (rP rfl (pen_fold c2)) r_lit (b_mulR rfl)) (r_ints (rP rfl (pen_cnt c2)) r_lit (b_mulR rfl)) (b_add _ _)) r_lit (b_add _ _))) r_lit (b_mod (by decide))
  ·rw [← hb2]
   exact r_ints (r_int (r_ints (r_ints (r_ints (r_var rfl) (r_var rfl) (b_mulR s1)) (r_ints r_lit (r_var rfl) (b_mulL rfl)) (b_add _ _)) (rP rfl (pen_cnt c2)) (b_add _ _))) r_lit (b_mod (by decide))
  ·exact r_ints (r_int (r_ints (r_ints (r_var rfl) r_lit (b_mulR rfl)) r_lit (b_add _ _))) r_lit (b_mod (by decide))
  ·exact r_ints (r_int (r_ints (r_var rfl) r_lit (b_div (by decide) (by decide)))) (r_var rfl) (b_mod oM)
end Mn.K62
end
section
namespace Mn.K62
open PySem Mn Mn.Sh
theorem r_appG {σ : Sl} {M M' X X' : Mem} {a e : KE} {j : Nat} {d : D} {ys zs : List D} (ha : a σ (M ++ X) = .ok (.ref (M.length + j)) (M ++ X)) (hx : X[j]? = some (.lst zs)) (he : e σ (M ++ X) = .ok d (M' ++ X')) (hM : M'.length = M.length) (hx' : X'[j]? = some (.lst ys)) (hl : ys.length < big) : kApp a e σ (M ++ X) = .ok .non (M' ++ X'.set j (.lst (ys ++ [d]))) := by
 unfold kApp
 rw [ha]
 show (if !isL (dr (M ++ X) (.ref (M.length + j))) then .bad else (e σ (M ++ X)).bind _) = _
 rw [dr_app hx (by intro ps; exact D.noConfusion)]
 show ((e σ (M ++ X)).bind _) = _
 rw [he]
 show (match store (M' ++ X') (.ref (M.length + j)) (pushL d) with | some M3 => .ok .non M3 | none => .bad : Res D) = _
 rw [← hM, store_app hx' (d' := .lst (ys ++ [d])) (if_pos hl)]
theorem r_popi {σ : Sl} {M M' X : Mem} {a e : KE} {j p : Nat} {ys : List D} (ha : a σ (M ++ X) = .ok (.ref (M.length + j)) (M ++ X)) (hx : X[j]? = some (.lst ys)) (he : e σ (M ++ X) = .ok (.int (p : Nat)) (M' ++ X)) (hM : M'.length = M.length) (hp : p < ys.length) : kPopi a e σ (M ++ X) = .ok ys[p] (M' ++ X.set j (.lst (ys.eraseIdx p))) := by
 unfold kPopi
 rw [ha]
 show (if !isL (dr (M ++ X) (.ref (M.length + j))) then .bad else (e σ (M ++ X)).bind _) = _
 rw [dr_app hx (by intro ps; exact D.noConfusion)]
 show ((e σ (M ++ X)).bind _) = _
 rw [he]
 show (match dr (M' ++ X) (.ref (M.length + j)), D.int (p : Nat) with
  | .lst xs, .int i => match ixP xs.length i with
   | some q => match xs[q]?, store (M' ++ X) (.ref (M.length + j)) (delL q) with
    | some v, some M3 => .ok v M3
    | _, _ => .bad
   | none => .bad
  | _, _ => .bad : Res D) = _
 rw [← hM, dr_app hx (by intro ps; exact D.noConfusion)]
 show (match ixP ys.length (p : Int) with
   | some q => match ys[q]?, store (M' ++ X) (.ref (M'.length + j)) (delL q) with
    | some v, some M3 => .ok v M3
    | _, _ => .bad
   | none => .bad : Res D) = _
 rw [ix_nat hp]
 show (match ys[p]?, store (M' ++ X) (.ref (M'.length + j)) (delL p) with
    | some v, some M3 => .ok v M3
    | _, _ => .bad : Res D) = _
 rw [List.getElem?_eq_getElem hp, store_app hx (d' := .lst (ys.eraseIdx p)) rfl]
theorem lcpA {α : Type} {σ : Sl} {M : Mem} {l : List α} {fd : α → D} {vs : List Nat} {t : KG} {it : KI} {c : Sh.KT} {e : KE} (P : Mem → Prop) (Q : α → D → Prop) (hi : it σ M = .ok ⟨l.map fd, [], none⟩ M) (h0 : P M)
  (h : ∀ p ∈ l, ∀ M1, P M1 → ∃ σ2 y M2, t (fd p) (wipe σ vs) M1 = .ok σ2 M1 ∧ c σ2 M1 = .ok true M1 ∧ e σ2 M1 = .ok y M2 ∧ Q p y ∧ P M2) : ∃ (ys : List D) (M' : Mem), nLcp vs t it c e σ M = .ok (.lst ys) M' ∧ P M' ∧ ys.length = l.length ∧ ∀ (i : Nat) p y, l[i]? = some p → ys[i]? = some y → Q p y := by
 unfold nLcp; rw [hi]
 have key : ∀ l' : List α, (∀ p ∈ l', p ∈ l) → ∀ M1, P M1 → ∃ (ys : List D) (M' : Mem), lcL (lcF vs t c e σ) (⟨l.map fd, [], none⟩ : Walk) (l'.map fd) M1 = .ok ys M' ∧ P M' ∧ ys.length = l'.length ∧ ∀ (i : Nat) p y, l'[i]? = some p → ys[i]? = some y → Q p y := by
  intro l'
  induction l' with
  | nil => intro _ M1 h1; exact ⟨[], M1, by unfold lcL; rfl, h1, rfl, fun i p y e => by simp at e⟩
  | cons p r ih =>
   intro hs M1 hp1
   obtain ⟨σ2, y, M2, h1, h2, h3, h4, h5⟩ := h p (hs p List.mem_cons_self) M1 hp1
   obtain ⟨ys, M', g1, g2, g3, g4⟩ := ih (fun q hq => hs q (List.mem_cons_of_mem _ hq)) M2 h5
   refine ⟨y :: ys, M', ?_, g2, by simp [g3], fun i q z e1 e2 => ?_⟩
   ·rw [List.map_cons]
    unfold lcL
    have : lcF vs t c e σ (fd p) M1 = .ok (some y) M2 := by
     unfold lcF; rw [h1]
     show ((c σ2 M1).bind _) = _
     rw [h2]
     show ((e σ2 M1).bind _) = _
     rw [h3]; rfl
    rw [this]
    show (if Walk.ok _ M1 = true then ((lcL _ _ (r.map fd) M2).bind fun zs M3 => Res.ok (y :: zs) M3) else .bad) = _
    rw [g1]; rfl
   ·cases i with
    | zero => simp at e1 e2; subst e1; subst e2; exact h4
    | succ i => exact g4 i q z (by simpa using e1) (by simpa using e2)
 obtain ⟨ys, M', g1, g2, g3, g4⟩ := key l (fun p hp => hp) M h0
 refine ⟨ys, M', ?_, g2, g3, g4⟩
 show ((lcL _ (⟨l.map fd, [], none⟩ : Walk) (l.map fd) M).mapM _ |>.bind fun ys M2 => Res.ok (D.lst ys) M2) = _
 rw [g1]; rfl
theorem lcpB {α : Type} {σ : Sl} {M : Mem} {l : List α} {fd : α → D} {g : α → D} {vs : List Nat} {t : KG} {it : KI} {c : Sh.KT} {e : KE} (P : Mem → Prop) (hi : it σ M = .ok ⟨l.map fd, [], none⟩ M) (h0 : P M)
  (h : ∀ p ∈ l, ∀ M1, P M1 → ∃ σ2 b M2, t (fd p) (wipe σ vs) M1 = .ok σ2 M1 ∧ c σ2 M1 = .ok b M2 ∧ P M2 ∧ e σ2 M2 = .ok (g p) M2) : ∃ (l' : List α) (M' : Mem), nLcp vs t it c e σ M = .ok (.lst (l'.map g)) M' ∧ P M' ∧ l'.Sublist l := by
 unfold nLcp; rw [hi]
 have key : ∀ l0 : List α, (∀ p ∈ l0, p ∈ l) → ∀ M1, P M1 → ∃ (l' : List α) (M' : Mem), lcL (lcF vs t c e σ) (⟨l.map fd, [], none⟩ : Walk) (l0.map fd) M1 = .ok (l'.map g) M' ∧ P M' ∧ l'.Sublist l0 := by
  intro l0
  induction l0 with
  | nil => intro _ M1 h1; exact ⟨[], M1, by unfold lcL; rfl, h1, List.Sublist.slnil⟩
  | cons p r ih =>
   intro hs M1 hp1
   obtain ⟨σ2, b, M2, h1, h2, h5, h3⟩ := h p (hs p List.mem_cons_self) M1 hp1
   obtain ⟨l', M', g1, g2, g3⟩ := ih (fun q hq => hs q (List.mem_cons_of_mem _ hq)) M2 h5
   rw [List.map_cons]
   cases b with
   | true =>
    refine ⟨p :: l', M', ?_, g2, g3.cons₂ _⟩
    unfold lcL
    have : lcF vs t c e σ (fd p) M1 = .ok (some (g p)) M2 := by
     unfold lcF; rw [h1]
     show ((c σ2 M1).bind _) = _
     rw [h2]
     show ((e σ2 M2).bind _) = _
     rw [h3]; rfl
    rw [this]
    show (if Walk.ok _ M1 = true then ((lcL _ _ (r.map fd) M2).bind fun zs M3 => Res.ok (g p :: zs) M3) else .bad) = _
    rw [g1]; rfl
   | false =>
    refine ⟨l', M', ?_, g2, g3.cons _⟩
    unfold lcL
    have : lcF vs t c e σ (fd p) M1 = .ok none M2 := by
     unfold lcF; rw [h1]
     show ((c σ2 M1).bind _) = _
     rw [h2]; rfl
    rw [this]
    show (if Walk.ok _ M1 = true then ((lcL _ _ (r.map fd) M2).bind fun zs M3 => Res.ok zs M3) else .bad) = _
    rw [g1]; rfl
 obtain ⟨l', M', g1, g2, g3⟩ := key l (fun p hp => hp) M h0
 refine ⟨l', M', ?_, g2, g3⟩
 show ((lcL _ (⟨l.map fd, [], none⟩ : Walk) (l.map fd) M).mapM _ |>.bind fun ys M2 => Res.ok (D.lst ys) M2) = _
 rw [g1]; rfl
theorem pen_ok {n k : Nat} (hk : 1 ≤ k) (ns : List Int) : ∃ c, PenOk c ∧ run tab n k false i__law_pen [.scr ns] [] = .ok (.ref 0) [penD c] := by
 have loop := us_for (l := ns) (fd := D.int) (t := gNm 2) (it := iIt (kVar 0)) (σ := [some (.scr ns), some (.int 0), none]) (M := [])
  (b := bCons (sAsg (gNm 1) (kBin .Mod (kBlt .int (aCons (kBin .Add (kBin .Mult (kVar 1) (kLit (.int 47))) (kVar 2)) aNil)) (kLit (.int 1000000007)))) bNil)
  (fun j σ M' => (∃ f y2, σ = [some (.scr ns), some (.int f), y2]) ∧ M' = []) (ui_it (r_var rfl) rfl) ⟨⟨_, _, rfl⟩, rfl⟩ ?_
 ·obtain ⟨σ2, M2, hl, ⟨f, y2, rfl⟩, rfl⟩ := loop
  refine ⟨⟨ns, 0, 0, 0, f⟩, ⟨Nat.zero_le _, Int.le_refl _⟩, does shal h21 oM rfl rfl (ub_cons (us_nmp (d := .int 0) r_lit) (ub_cons hl (ub_rt (us_ret (d := .ref (([] : Mem).length + 0)) (M1 := [] ++ [penD ⟨ns, 0, 0, 0, f⟩]) (r_newX0 (M := []) (d := penD ⟨ns, 0, 0, 0, f⟩) (un_dct (ps := psP ⟨ns, 0, 0, 0, f⟩) (qs := psP ⟨ns, 0, 0, 0, f⟩) (ud_cons r_lit (r_new (un_lstO (x := .scr ns) (r_var rfl) rfl)) (ud_cons r_lit r_lit (ud_cons r_lit r_lit (ud_cons r_lit r_lit (ud_cons r_lit (r_var rfl) ud_nil))))) rfl)))))) ?_⟩
  have hb : ∀ m, bel m (penD ⟨ns, 0, 0, 0, f⟩) = true := by
   intro m
   have : bels m (ns.map .int) = true := bels_map m _ (fun _ => rfl) _
   simp only [penD, psP, bel, belp, this, Bool.and_self]
  have hf : frz 0 (some 0) [penD ⟨ns, 0, 0, 0, f⟩] (penD ⟨ns, 0, 0, 0, f⟩) = penD ⟨ns, 0, 0, 0, f⟩ := sub_id (n := 0) (fun i hi => by omega) _ (hb 0)
  show fin true 0 [] [penD ⟨ns, 0, 0, 0, f⟩] (.ref 0) = _
  unfold fin
  have hok : okM 0 [] [penD ⟨ns, 0, 0, 0, f⟩] := ⟨Nat.zero_le _, fun i hi => by omega⟩
  rw [if_pos hok]
  show (if bel 0 (frz 0 (some 0) [penD ⟨ns, 0, 0, 0, f⟩] (penD ⟨ns, 0, 0, 0, f⟩)) = true then Res.ok (D.ref 0) ([penD ⟨ns, 0, 0, 0, f⟩].take 0 ++ [frz 0 (some 0) [penD ⟨ns, 0, 0, 0, f⟩] (penD ⟨ns, 0, 0, 0, f⟩)]) else .bad) = _
  rw [hf, if_pos (hb 0)]
  rfl
 ·rintro j i σ1 M1 hi ⟨⟨f, y2, rfl⟩, rfl⟩
  exact ⟨_, [some (.scr ns), some (.int ((f * 47 + i) % 1000000007)), some (.int i)], _, ug_nm, .inl (ub_cons (us_nmp (d := .int ((f * 47 + i) % 1000000007)) (r_ints (r_int (r_ints (r_ints (r_var rfl) r_lit (b_mulR rfl)) (r_var rfl) (b_add _ _))) r_lit (b_mod (by decide)))) ub_nil), ⟨_, _, rfl⟩, rfl⟩
theorem pick_ok {n k : Nat} {X : Mem} (hk : 2 ≤ k) {c : Pen} (hc : PenOk c) {x : D} {xs : List D} (hx : (∀ c, dr (penD c :: X) x = .tup xs) ∨ (∀ c, dr (penD c :: X) x = .lst xs)) (h1 : 0 < xs.length) (h2 : xs.length < 1000000) (hb : ∀ y ∈ xs, bel (X.length + 1) y = true) :
  ∃ (y : D) (c' : Pen), PenOk c' ∧ y ∈ xs ∧ run tab n k false i__law_pick [.ref 0, x] (penD c :: X) = .ok y (penD c' :: X) := by
 obtain ⟨r, c', hc', hr, hd⟩ := draw_ok (n := n) (k := k - 1) (X := X) oM hc h1 h2
 refine ⟨xs[r], c', hc', List.getElem_mem hr, does shal h23 oM rfl rfl (ub_rt (us_ret (r_idx (x := x) (y := .int (r : Nat)) (M1 := penD c :: X) (M2 := penD c' :: X) (r_var rfl) (r_cal (ds := [.ref 0, .int (xs.length : Nat)]) (M1 := penD c :: X) (r_acons (r_var rfl) (r_acons (r_blt (ds := [x]) (M1 := penD c :: X) (r_acons (r_var rfl) r_anil) ?_) r_anil)) hd) ?_))) (fin_pen0 (hb _ (List.getElem_mem hr)))⟩
 ·show bi .len [dr (penD c :: X) x] = _
  rcases hx with hx | hx <;> rw [hx] <;> rfl
 ·rcases hx with hx | hx
  ·rw [hx]
   show ((ixP xs.length (r : Int)).bind fun k => xs[k]?) = _
   rw [ix_nat hr]
   exact List.getElem?_eq_getElem hr
  ·rw [hx]
   show ((ixP xs.length (r : Int)).bind fun k => xs[k]?) = _
   rw [ix_nat hr]
   exact List.getElem?_eq_getElem hr
theorem pick_str {n k : Nat} {X : Mem} (hk : 2 ≤ k) {c : Pen} (hc : PenOk c) {z : Str} (h1 : 0 < z.cps.toList.length) (h2 : z.cps.toList.length ≤ 1000) :
  ∃ (y : Nat) (c' : Pen), PenOk c' ∧ y ∈ z.cps.toList ∧ run tab n k false i__law_pick [.ref 0, .str z] (penD c :: X) = .ok (sgn y) (penD c' :: X) := by
 obtain ⟨r, c', hc', hr, hd⟩ := draw_ok (n := n) (k := k - 1) (X := X) oM hc h1 oM
 refine ⟨z.cps.toList[r], c', hc', List.getElem_mem hr, does shal h23 oM rfl rfl (ub_rt (us_ret (r_idx (x := .str z) (y := .int (r : Nat)) (M1 := penD c :: X) (M2 := penD c' :: X) (r_var rfl) (r_cal (ds := [.ref 0, .int (z.cps.toList.length : Nat)]) (M1 := penD c :: X) (r_acons (r_var rfl) (r_acons (r_blt (ds := [.str z]) (M1 := penD c :: X) (r_acons (r_var rfl) r_anil) (len_str z h2)) r_anil)) hd) ?_))) (fin_pen0 rfl)⟩
 have e : z.length = z.cps.toList.length := by show z.cps.size = _; simp
 show (if z.length ≤ big then ((ixP z.cps.toList.length (r : Int)).bind fun k => z.cps.toList[k]?).map sgn else none) = _
 rw [e, if_pos (by show _ ≤ 16000000; omega), ix_nat hr]
 show (z.cps.toList[r]?).map sgn = _
 rw [List.getElem?_eq_getElem hr]; rfl
end Mn.K62
end
section
namespace Mn.K62
open PySem Mn Mn.Sh
theorem fin_penN {c c' : Pen} {X Y : Mem} {j : Nat} {v : D} (hj : Y[j]? = some v) (hl : ∀ ps, v ≠ .lck ps) (h : bel (X.length + 1) v = true) : fin false (penD c :: X).length (penD c :: X) ((penD c' :: X) ++ Y) (.ref (X.length + 1 + j)) = .ok v (penD c' :: X) := by
 have e : frz (X.length + 1) none ((penD c' :: X) ++ Y) (.ref (X.length + 1 + j)) = v := by
  show look (penD c' :: X).length none ((penD c' :: X) ++ Y) 6 ((penD c' :: X).length + j) = v
  rw [look_at hj hl]
  exact sub_old h
 have h0 := fin_pen (c := c) (c' := c') (X := X) (Y := Y) (d := v) h
 unfold fin at h0 ⊢
 split at h0
 ·rename_i hok
  rw [if_pos hok, if_neg (by decide)]
  have hl : (penD c :: X).length = X.length + 1 := rfl
  rw [hl, e, if_pos h]
  rw [hl, frz_id h, if_neg (by decide), if_pos h] at h0
  exact h0
 ·cases h0
theorem erase_map {α β : Type} (f : α → β) (l : List α) (r : Nat) : (l.map f).eraseIdx r = (l.eraseIdx r).map f := by
 rw [List.eraseIdx_eq_take_drop_succ, List.eraseIdx_eq_take_drop_succ, List.map_append, List.map_take, List.map_drop]
theorem erase_perm {α : Type} {l : List α} {r : Nat} (h : r < l.length) : (l[r] :: l.eraseIdx r).Perm l := by
 rw [List.eraseIdx_eq_take_drop_succ]
 refine List.perm_middle.symm.trans ?_
 rw [← List.drop_eq_getElem_cons h, List.take_append_drop]
theorem shuffled_ok {n k : Nat} {X : Mem} {α : Type} (hk : 2 ≤ k) {c : Pen} (hc : PenOk c) {x : D} {l : List α} {f : α → D} (hx : ∀ c Y, dr ((penD c :: X) ++ Y) x = .lst (l.map f)) (hb : ∀ a, bel (X.length + 1) (f a) = true) (hl : l.length < 1000) :
  ∃ (l' : List α) (c' : Pen), PenOk c' ∧ l'.Perm l ∧ run tab n k false i__law_shuffled [.ref 0, x] (penD c :: X) = .ok (.lst (l'.map f)) (penD c' :: X) := by
 have hlen : ∀ (c : Pen) (Y : Mem) (σ : Sl), slot σ 1 = some x → kBlt .len (aCons (kVar 1) aNil) σ ((penD c :: X) ++ Y) = .ok (.int (l.length : Nat)) ((penD c :: X) ++ Y) := by
  intro c Y σ hs
  refine r_blt (ds := [x]) (r_acons (r_var hs) r_anil) ?_
  show bi .len [dr ((penD c :: X) ++ Y) x] = _
  rw [hx]
  show some (D.int ((l.map f).length : Nat)) = _
  rw [List.length_map]
 have loop := us_for (l := List.range l.length) (fd := fun i => D.int (i : Nat)) (t := gNm 4) (it := iRng1 (kBlt .len (aCons (kVar 1) aNil))) (σ := [some (.ref 0), some x, some (.ref (X.length + 1 + 0)), some (.ref (X.length + 1 + 1)), none]) (M := (penD c :: X) ++ [.lst (l.map f), .lst []])
  (b := bCons (sDrop (kApp (kVar 3) (kPopi (kVar 2) (kCal (run tab n (k - 1) false) 22 (aCons (kVar 0) (aCons (kBlt .len (aCons (kVar 2) aNil)) aNil)))))) bNil)
  (fun j σ M' => ∃ (c1 : Pen) (L1 L2 : List α) (y4 : Option D), PenOk c1 ∧ σ = [some (.ref 0), some x, some (.ref (X.length + 1 + 0)), some (.ref (X.length + 1 + 1)), y4] ∧ M' = (penD c1 :: X) ++ [.lst (L1.map f), .lst (L2.map f)] ∧ (L2 ++ L1).Perm l ∧ L2.length = j) (ui_rng1 (hlen c _ _ rfl) (rng_n _ oM)) ⟨c, l, [], none, hc, rfl, rfl, List.Perm.refl _, rfl⟩ ?_
 ·obtain ⟨σ2, M2, hl2, c1, L1, L2, y4, hc1, rfl, rfl, hp, hj⟩ := loop
  rw [List.length_range] at hj
  have h1 : L1 = [] := by
   have := hp.length_eq
   rw [List.length_append] at this
   exact List.length_eq_zero_iff.mp oM
  subst h1
  rw [List.append_nil] at hp
  have a1 := us_tg (σ := [some (.ref 0), some x, none, none, none]) (M := penD c :: X) (t := gTp 2 (gCons (gNm 2) (gCons (gNm 3) gNil))) (e := kTup (aCons (kNew true (nLstO (kVar 1))) (aCons (kNew true (nLst aNil)) aNil))) (d := .tup [.ref (X.length + 1 + 0), .ref (X.length + 1 + 1)]) (M1 := (penD c :: X) ++ [.lst (l.map f), .lst []]) (r_tup (r_acons (x := .ref (X.length + 1 + 0)) (M1 := (penD c :: X) ++ [.lst (l.map f)]) (r_newX0 (M := penD c :: X) (un_lstO (x := x) (r_var rfl) (by have := hx c []; rw [List.append_nil] at this; rw [this]; rfl))) (r_acons (x := .ref (X.length + 1 + 1)) (M1 := (penD c :: X) ++ [.lst (l.map f), .lst []]) (r_newX (M := penD c :: X) (X := [.lst (l.map f)]) (un_lst r_anil)) r_anil))) (tp2 rfl)
  exact ⟨L2, c1, hc1, hp, does shal h24 oM rfl rfl (ub_cons a1 (ub_cons hl2 (ub_rt (us_ret (r_var rfl))))) (fin_penN (j := 1) (Y := [.lst [], .lst (L2.map f)]) rfl (by intro ps; exact D.noConfusion) (by show bels _ _ = true; exact bels_map _ _ hb _))⟩
 ·rintro j i σ1 M1 hi ⟨c1, L1, L2, y4, hc1, rfl, rfl, hp, hj⟩
  have hij : j < l.length := by have := (List.getElem?_eq_some_iff.mp hi).1; rwa [List.length_range] at this
  have hl1 : L1.length + L2.length = l.length := by have := hp.length_eq; rw [List.length_append] at this; omega
  obtain ⟨r, c2, hc2, hr, hd⟩ := draw_ok (n := n) (k := k - 1) (X := X ++ [.lst (L1.map f), .lst (L2.map f)]) (many := L1.length) oM hc1 oM oM
  refine ⟨[some (.ref 0), some x, some (.ref (X.length + 1 + 0)), some (.ref (X.length + 1 + 1)), some (.int (i : Nat))], _, (penD c2 :: X) ++ [.lst ((L1.eraseIdx r).map f), .lst ((L2 ++ [L1[r]]).map f)], ug_nm, .inl (ub_cons (us_drop (d := .non) ?_) ub_nil), c2, L1.eraseIdx r, L2 ++ [L1[r]], _, hc2, rfl, rfl, ?_, by simp [hj]⟩
  ·have h1 := r_popi (M := penD c1 :: X) (M' := penD c2 :: X) (X := [.lst (L1.map f), .lst (L2.map f)]) (j := 0) (p := r) (ys := L1.map f) (σ := [some (.ref 0), some x, some (.ref (X.length + 1 + 0)), some (.ref (X.length + 1 + 1)), some (.int (i : Nat))]) (a := kVar 2) (e := kCal (run tab n (k - 1) false) 22 (aCons (kVar 0) (aCons (kBlt .len (aCons (kVar 2) aNil)) aNil))) (r_var rfl) rfl (r_cal (ds := [.ref 0, .int (L1.length : Nat)]) (M1 := (penD c1 :: X) ++ [.lst (L1.map f), .lst (L2.map f)]) (r_acons (r_var rfl) (r_acons (r_blt (ds := [.ref (X.length + 1 + 0)]) (M1 := (penD c1 :: X) ++ [.lst (L1.map f), .lst (L2.map f)]) (r_acons (r_var rfl) r_anil) ?_) r_anil)) hd) rfl (by rw [List.length_map]; exact hr)
   ·have h2 := r_appG (M := penD c1 :: X) (M' := penD c2 :: X) (X := [.lst (L1.map f), .lst (L2.map f)]) (j := 1) (a := kVar 3) (ys := L2.map f) (zs := L2.map f) (r_var rfl) rfl h1 rfl rfl (by rw [List.length_map]; show _ < 16000000; omega)
    rw [h2]
    congr 1
    show _ ++ [D.lst ((L1.map f).eraseIdx r), D.lst (L2.map f ++ [(L1.map f)[r]'(by rw [List.length_map]; exact hr)])] = _
    rw [List.map_append, erase_map, List.getElem_map]
    rfl
   ·have := dr_app (M := penD c1 :: X) (X := [.lst (L1.map f), .lst (L2.map f)]) (j := 0) rfl (by intro ps; exact D.noConfusion)
    show bi .len [dr ((penD c1 :: X) ++ [.lst (L1.map f), .lst (L2.map f)]) (.ref ((penD c1 :: X).length + 0))] = _
    rw [this]
    show some (D.int ((L1.map f).length : Nat)) = _
    rw [List.length_map]
  ·refine List.Perm.trans ?_ hp
   rw [List.append_assoc]
   exact (List.perm_append_left_iff _).mpr (erase_perm hr)
theorem strL_sgn : ∀ cs : List Nat, strL (cs.map sgn) = some (cs.map fun c => (⟨#[c]⟩ : Str))
 | [] => rfl
 | c :: r => by
  rw [List.map_cons]
  show (strL (r.map sgn)).map _ = _
  rw [strL_sgn r]; rfl
theorem join_list : ∀ cs : List Nat, (Str.join (Str.ofString "") (cs.map fun c => (⟨#[c]⟩ : Str))).cps.toList = cs
 | [] => rfl
 | [c] => rfl
 | c :: d :: r => by
  have := join_list (d :: r)
  show (((#[c] : Array Nat) ++ (Str.ofString "").cps) ++ (Str.join (Str.ofString "") ((d :: r).map fun c => (⟨#[c]⟩ : Str))).cps).toList = _
  rw [Array.toList_append, this]
  rfl
theorem join_ok (cs : List Nat) (h : cs.length ≤ 1000) : joinD (Str.ofString "") (.lst (cs.map sgn)) = some (.str (Str.join (Str.ofString "") (cs.map fun c => (⟨#[c]⟩ : Str)))) := by
 show (strL (cs.map sgn)).bind _ = _
 rw [strL_sgn]
 show (if ((cs.map fun c => (⟨#[c]⟩ : Str)).map (·.length)).sum + (cs.map fun c => (⟨#[c]⟩ : Str)).length * (Str.ofString "").length ≤ big then some (D.str (joinS (Str.ofString "") (cs.map fun c => (⟨#[c]⟩ : Str)))) else none) = _
 rw [if_pos]
 have e : (cs.map fun c => (⟨#[c]⟩ : Str)).map (·.length) = cs.map fun _ => 1 := by rw [List.map_map]; rfl
 have e2 : (Str.ofString "").length = 0 := by decide
 rw [e, e2, List.map_const', List.sum_replicate_nat]
 show _ ≤ 16000000
 omega
theorem all_sgn {S : List Nat} : ∀ ys : List D, (∀ y ∈ ys, ∃ c, c ∈ S ∧ y = sgn c) → ∃ cs : List Nat, ys = cs.map sgn ∧ ∀ c ∈ cs, c ∈ S
 | [], _ => ⟨[], rfl, by simp⟩
 | y :: r, h => by
  obtain ⟨c, hc, rfl⟩ := h y List.mem_cons_self
  obtain ⟨cs, rfl, h2⟩ := all_sgn r fun z hz => h z (List.mem_cons_of_mem _ hz)
  exact ⟨c :: cs, rfl, fun d hd => by rcases List.mem_cons.mp hd with rfl | hd; exact hc; exact h2 d hd⟩
def drawnLen (x : Str) : Prop := x.cps.toList.length = 1 ∨ x.cps.toList.length = 2 ∨ x.cps.toList.length = 3 ∨ x.cps.toList.length = 6 ∨ x.cps.toList.length = 12
theorem r_join {σ : Sl} {M M1 M2 : Mem} {a e : KE} {z : Str} {y d : D} (ha : a σ M = .ok (.str z) M1) (he : e σ M1 = .ok y M2) (h : joinD z (dr M2 y) = some d) : kJoin a e σ M = .ok d M2 := by
 unfold kJoin
 rw [ha]
 show ((e σ M1).bind _) = _
 rw [he]
 show Res.of (joinD z (dr M2 y)) M2 = _
 rw [h]; rfl
theorem signs_sub : ∀ c ∈ lettersS.cps.toList, c ∈ signsS.cps.toList := by decide
theorem name_ok {n k : Nat} {X : Mem} (hk : 3 ≤ k) {c : Pen} (hc : PenOk c) : ∃ (s : Str) (c' : Pen), PenOk c' ∧ NameOk s ∧ drawnLen s ∧ run tab n k false i__law_name [.ref 0] (penD c :: X) = .ok (.str s) (penD c' :: X) := by
 obtain ⟨r, c1, hc1, hr, hd⟩ := draw_ok (n := n) (k := k - 1) (X := X) (many := 6) oM hc (by decide) (by decide)
 have hlong : ∃ m : Nat, (m = 0 ∨ m = 1 ∨ m = 2 ∨ m = 5 ∨ m = 11) ∧ idx (.lst [.int 0, .int 0, .int 1, .int 2, .int 5, .int 11]) (.int (r : Nat)) = some (.int (m : Nat)) := by
  have : r = 0 ∨ r = 1 ∨ r = 2 ∨ r = 3 ∨ r = 4 ∨ r = 5 := by omega
  rcases this with rfl | rfl | rfl | rfl | rfl | rfl
  ·exact ⟨0, by simp, rfl⟩
  ·exact ⟨0, by simp, rfl⟩
  ·exact ⟨1, by simp, rfl⟩
  ·exact ⟨2, by simp, rfl⟩
  ·exact ⟨5, by simp, rfl⟩
  ·exact ⟨11, by simp, rfl⟩
 obtain ⟨m, hm, hidx⟩ := hlong
 obtain ⟨ch, c2, hc2, hch, hp⟩ := pick_str (n := n) (k := k - 1) (X := X) (z := lettersS) oM hc1 (by decide) (by decide)
 obtain ⟨ys, M', h1, ⟨c3, hc3, rfl⟩, h3, h4⟩ := lcpA (l := List.range m) (fd := fun i => D.int (i : Nat)) (vs := [4]) (t := gNm 4) (it := iRng1 (kVar 3)) (c := tVal (kLit (.bl true))) (e := kCal (run tab n (k - 1) false) 23 (aCons (kVar 0) (aCons (kVar 2) aNil))) (σ := [some (.ref 0), some (.str lettersS), some (.str signsS), some (.int (m : Nat)), none]) (M := penD c2 :: X) (fun M1 => ∃ c', PenOk c' ∧ M1 = penD c' :: X) (fun _ y => ∃ d, d ∈ signsS.cps.toList ∧ y = sgn d) (ui_rng1 (r_var rfl) (rng_n _ oM)) ⟨c2, hc2, rfl⟩ (by
  rintro p hp M1 ⟨c4, hc4, rfl⟩
  obtain ⟨d, c5, hc5, hd5, hp5⟩ := pick_str (n := n) (k := k - 1) (X := X) (z := signsS) oM hc4 (by decide) (by decide)
  exact ⟨_, sgn d, penD c5 :: X, ug_nm, ut_val r_lit rfl, r_cal (ds := [.ref 0, .str signsS]) (M1 := penD c4 :: X) (r_acons (r_var rfl) (r_acons (r_var rfl) r_anil)) hp5, ⟨d, hd5, rfl⟩, ⟨c5, hc5, rfl⟩⟩)
 rw [List.length_range] at h3
 obtain ⟨cs, rfl, hcs⟩ := all_sgn (S := signsS.cps.toList) ys fun y hy => by
  obtain ⟨i, hi, e⟩ := List.mem_iff_getElem.mp hy
  exact h4 i i y (by rw [List.getElem?_range oM]) (by rw [List.getElem?_eq_getElem hi, e])
 rw [List.length_map] at h3
 have hjl := join_list cs
 have hj := join_ok cs oM
 generalize Str.join (Str.ofString "") (cs.map fun c => (⟨#[c]⟩ : Str)) = w at hjl hj
 have hs : ((⟨#[ch]⟩ : Str) ++ w).cps.toList = ch :: cs := by
  show (#[ch] ++ w.cps).toList = _
  rw [Array.toList_append, hjl]
  rfl
 refine ⟨⟨#[ch]⟩ ++ w, c3, hc3, ⟨by rw [hs]; simp, by rw [hs, List.length_cons]; omega, fun d hd => ?_, fun d hd => ?_⟩, ?_, ?_⟩
 ·rw [hs] at hd
  have : d = ch := by simpa using hd.symm
  subst this
  exact hch
 ·rw [hs] at hd
  rcases List.mem_cons.mp hd with rfl | hd
  ·exact signs_sub _ hch
  ·exact hcs d hd
 ·unfold drawnLen
  rw [hs, List.length_cons]
  omega
 ·refine does shal h26 oM rfl rfl (ub_cons (us_tg (d := .tup [.str lettersS, .str signsS]) (M1 := penD c :: X) (r_tup (r_acons r_lit (r_acons r_lit r_anil))) (tp2 rfl)) (ub_cons (us_nm (d := .int (m : Nat)) (M1 := penD c1 :: X) (r_idx (x := .lst [.int 0, .int 0, .int 1, .int 2, .int 5, .int 11]) (y := .int (r : Nat)) (M1 := penD c :: X) (r_new (un_lst (r_acons r_lit (r_acons r_lit (r_acons r_lit (r_acons r_lit (r_acons r_lit (r_acons r_lit r_anil)))))))) (r_cal (ds := [.ref 0, .int (6 : Nat)]) (M1 := penD c :: X) (r_acons (r_var rfl) (r_acons r_lit r_anil)) hd) hidx)) (ub_rt (us_ret (r_bin (x := sgn ch) (y := .str w) (M1 := penD c2 :: X) (M2 := penD c3 :: X) (r_cal (ds := [.ref 0, .str lettersS]) (M1 := penD c1 :: X) (r_acons (r_var rfl) (r_acons (r_var rfl) r_anil)) hp) (r_join (z := Str.ofString "") (y := .lst (cs.map sgn)) (M1 := penD c2 :: X) r_lit (r_new h1) hj) ?_))))) (fin_pen0 rfl)
  have e1 : (⟨#[ch]⟩ : Str).length = 1 := rfl
  have e2 : w.length = cs.length := by show w.cps.size = _; rw [← hjl]; simp
  show (if (⟨#[ch]⟩ : Str).length + w.length ≤ big then some (D.str (⟨#[ch]⟩ ++ w)) else none) = _
  rw [e1, e2, if_pos (by show _ ≤ 16000000; omega)]
end Mn.K62
end
section
namespace Mn.K62
open PySem Mn Mn.Sh
def fb (l : Nat) : Str := Str.ofString "z" ++ Str.ofString (toString (l : Int)) ++ Str.ofString "q"
def fb0 (l : Nat) : Str := fb l ++ Str.ofString "0"
def nameB (x : Str) : Bool := decide (1 ≤ x.cps.toList.length) && decide (x.cps.toList.length ≤ 12) && (x.cps.toList.head?.all fun c => decide (c ∈ lettersS.cps.toList)) && x.cps.toList.all fun c => decide (c ∈ signsS.cps.toList)
theorem fb_name : ∀ l : Fin 13, nameB (fb l) = true ∧ nameB (fb0 l) = true ∧ ((fb0 l).cps.toList.length = 4 ∨ (fb0 l).cps.toList.length = 5) := by decide
theorem fb_len : ∀ l : Fin 13, (fb l).cps.toList.length = 3 ∨ (fb l).cps.toList.length = 4 := by decide
theorem fb_ne : ∀ l l' : Fin 13, l ≠ l' → fb0 l ≠ fb0 l' := by decide
theorem fb_ne2 : ∀ l l' : Fin 13, l ≠ l' → fb0 l ≠ fb l' := by decide
theorem fb_str : ∀ l : Fin 13, (0 ≤ ((l : Nat) : Int) ∧ ((l : Nat) : Int).natAbs.log2 < 1920) ∧ (Str.ofString "z").length + (Str.ofString (toString ((l : Nat) : Int))).length ≤ 1000 ∧ (Str.ofString "z" ++ Str.ofString (toString ((l : Nat) : Int))).length + (Str.ofString "q").length ≤ 1000 ∧ (fb l).length + (Str.ofString "0").length ≤ 1000 := by decide
theorem nameB_ok {x : Str} (h : nameB x = true) : NameOk x := by
 unfold nameB at h
 simp only [Bool.and_eq_true, decide_eq_true_eq, List.all_eq_true] at h
 refine ⟨h.1.1.1, h.1.1.2, fun c hc => ?_, h.2⟩
 have h2 := h.1.2
 rw [List.head?_eq_getElem?, hc] at h2
 simpa using h2
theorem in_ref {N : Mem} {i : Nat} {w : Str} {l : List Str} (h : dr N (.ref i) = .lst (l.map D.str)) : cmpK N .In (.str w) (.ref i) = some (.bl (decide (w ∈ l))) := by
 have : cmpK N .In (.str w) (.ref i) = cmpK N .In (.str w) (.lst (l.map D.str)) := by unfold cmpK; rw [h]; rfl
 rw [this]
 exact in_strsL w l
theorem b_str {x y : Str} (h : x.length + y.length ≤ 1000) : binR .Add (.str x) (.str y) (.str x) (.str y) = some (.str (x ++ y)) := by
 show (if x.length + y.length ≤ big then some (D.str (x ++ y)) else none) = _
 rw [if_pos (by show _ ≤ 16000000; omega)]
structure NameD (x : Str) : Prop extends NameOk x where
 n7 : ¬ x.cps.toList.length = 7
 n9 : ¬ x.cps.toList.length = 9
theorem names_ok {n k : Nat} {X : Mem} (hk : 4 ≤ k) (hn : 3 < n) {c : Pen} (hc : PenOk c) {many : Nat} (hm : many ≤ 13) :
  ∃ (l : List Str) (c' : Pen), PenOk c' ∧ l.length = many ∧ l.Nodup ∧ (∀ x ∈ l, NameD x) ∧ run tab n k false i__law_names [.ref 0, .int (many : Nat)] (penD c :: X) = .ok (tupS l) (penD c' :: X) := by
 have loop := us_for (l := List.range many) (fd := fun i => D.int (i : Nat)) (t := gNm 3) (it := iRng1 (kVar 1)) (σ := [some (.ref 0), some (.int (many : Nat)), some (.ref (X.length + 1 + 0)), none, none]) (M := (penD c :: X) ++ [.lst []])
  (b := bCons (sAsg (gNm 4) (kCal (run tab n (k - 1) false) 26 (aCons (kVar 0) aNil))) (bCons (sIf (Sh.tCmp .In (kVar 4) (kVar 2)) (bCons (sAsg (gNm 4) (kBin .Add (kBin .Add (kLit (.str (Str.ofString "z"))) (kBlt .str (aCons (kVar 3) aNil))) (kLit (.str (Str.ofString "q"))))) bNil) bNil) (bCons (sWhl n (Sh.tCmp .In (kVar 4) (kVar 2)) (bCons (sAsg (gNm 4) (kBin .Add (kVar 4) (kLit (.str (Str.ofString "0"))))) bNil)) (bCons (sDrop (kApp (kVar 2) (kVar 4))) bNil))))
  (fun j σ M' => ∃ (c1 : Pen) (l : List Str) (y3 y4 : Option D), PenOk c1 ∧ σ = [some (.ref 0), some (.int (many : Nat)), some (.ref (X.length + 1 + 0)), y3, y4] ∧ M' = (penD c1 :: X) ++ [.lst (l.map .str)] ∧ l.length = j ∧ l.Nodup ∧ (∀ x ∈ l, NameOk x) ∧ ∀ x ∈ l, drawnLen x ∨ ∃ q, q < j ∧ (x = fb q ∨ x = fb0 q)) (ui_rng1 (r_var rfl) (rng_n _ oM)) ⟨c, [], none, none, hc, rfl, rfl, rfl, List.nodup_nil, by simp, by simp⟩ ?_
 ·obtain ⟨σ2, M2, hl, c1, l, y3, y4, hc1, rfl, rfl, hlen, hnd, hnm, hor⟩ := loop
  rw [List.length_range] at hlen
  have hD : ∀ x ∈ l, NameD x := fun x hx => by
   have hl : ¬ x.cps.toList.length = 7 ∧ ¬ x.cps.toList.length = 9 := by
    rcases hor x hx with h | ⟨q, hq, h⟩
    ·unfold drawnLen at h; omega
    ·rw [List.length_range] at hq
     have h1 := fb_name ⟨q, by omega⟩
     have h2 := fb_len ⟨q, by omega⟩
     simp only at h1 h2
     rcases h with rfl | rfl <;> omega
   exact ⟨hnm x hx, hl.1, hl.2⟩
  have a1 := us_nm (i := 2) (σ := [some (.ref 0), some (.int (many : Nat)), none, none, none]) (M := penD c :: X) (e := kNew true (nLst aNil)) (d := .ref (X.length + 1 + 0)) (M1 := (penD c :: X) ++ [.lst []]) (r_newX0 (M := penD c :: X) (un_lst r_anil))
  refine ⟨l, c1, hc1, hlen, hnd, hD, does shal h27 oM rfl rfl (ub_cons a1 (ub_cons hl (ub_rt (us_ret (d := tupS l) (r_tupO (x := .ref (X.length + 1 + 0)) (r_var rfl) ?_))))) (fin_pen (bel_tupS _ _))⟩
  have := dr_app (M := penD c1 :: X) (X := [.lst (l.map .str)]) (j := 0) rfl (by intro ps; exact D.noConfusion)
  show tupD false (.ref ((penD c1 :: X).length + 0)) (dr ((penD c1 :: X) ++ [.lst (l.map .str)]) (.ref ((penD c1 :: X).length + 0))) = _
  rw [this]; rfl
 ·rintro j i σ1 M1 hi ⟨c1, l, y3, y4, hc1, rfl, rfl, hlen, hnd, hnm, hor⟩
  have hj2 := List.getElem?_eq_some_iff.mp hi
  obtain ⟨hj3, hj4⟩ := hj2
  have hj : j < many := by rwa [List.length_range] at hj3
  have hij : i = j := by rw [List.getElem_range] at hj4; exact hj4.symm
  subst hij
  obtain ⟨s, c2, hc2, hs1, hs2, hrun⟩ := name_ok (n := n) (k := k - 1) (X := X ++ [.lst (l.map .str)]) oM hc1
  have hdr : dr ((penD c2 :: X) ++ [.lst (l.map .str)]) (.ref (X.length + 1 + 0)) = .lst (l.map .str) := dr_app (M := penD c2 :: X) (X := [.lst (l.map .str)]) (j := 0) rfl (by intro ps; exact D.noConfusion)
  have h13 : i < 13 := by omega
  have hf1 := fb_name ⟨i, h13⟩
  have hf2 := fb_str ⟨i, h13⟩
  have test : ∀ w : Str, Sh.tCmp .In (kVar 4) (kVar 2) [some (.ref 0), some (.int (many : Nat)), some (.ref (X.length + 1 + 0)), some (.int (i : Nat)), some (.str w)] ((penD c2 :: X) ++ [.lst (l.map .str)]) = .ok (decide (w ∈ l)) ((penD c2 :: X) ++ [.lst (l.map .str)]) := fun w => ut_cmp (r_var rfl) (r_var rfl) (in_ref hdr)
  have app : ∀ w : Str, bCons (sDrop (kApp (kVar 2) (kVar 4))) bNil [some (.ref 0), some (.int (many : Nat)), some (.ref (X.length + 1 + 0)), some (.int (i : Nat)), some (.str w)] ((penD c2 :: X) ++ [.lst (l.map .str)]) = .nx [some (.ref 0), some (.int (many : Nat)), some (.ref (X.length + 1 + 0)), some (.int (i : Nat)), some (.str w)] ((penD c2 :: X) ++ [.lst ((l ++ [w]).map .str)]) := by
   intro w
   have h1 := r_app (M := penD c2 :: X) (X := [.lst (l.map .str)]) (j := 0) (a := kVar 2) (e := kVar 4) (d := .str w) (σ := [some (.ref 0), some (.int (many : Nat)), some (.ref (X.length + 1 + 0)), some (.int (i : Nat)), some (.str w)]) (r_var rfl) rfl (r_var rfl) (by rw [List.length_map]; show _ < 16000000; omega)
   rw [List.map_append]
   exact ub_cons (us_drop h1) ub_nil
  have first := us_nm (i := 4) (σ := [some (.ref 0), some (.int (many : Nat)), some (.ref (X.length + 1 + 0)), some (.int (i : Nat)), y4]) (M := (penD c1 :: X) ++ [.lst (l.map .str)]) (e := kCal (run tab n (k - 1) false) 26 (aCons (kVar 0) aNil)) (d := .str s) (M1 := (penD c2 :: X) ++ [.lst (l.map .str)]) (r_cal (ds := [.ref 0]) (M1 := (penD c1 :: X) ++ [.lst (l.map .str)]) (r_acons (r_var rfl) r_anil) hrun)
  have ext : ∀ w : Str, w ∉ l → NameOk w → (drawnLen w ∨ ∃ q, q < i + 1 ∧ (w = fb q ∨ w = fb0 q)) → (l ++ [w]).length = i + 1 ∧ (l ++ [w]).Nodup ∧ (∀ x ∈ l ++ [w], NameOk x) ∧ ∀ x ∈ l ++ [w], drawnLen x ∨ ∃ q, q < i + 1 ∧ (x = fb q ∨ x = fb0 q) := by
   intro w h1 h2 h3
   refine ⟨by simp [hlen], ?_, fun x hx => ?_, fun x hx => ?_⟩
   ·rw [List.nodup_append]
    refine ⟨hnd, by simp, fun a ha b hb e => ?_⟩
    rw [List.mem_singleton.mp hb] at e
    exact h1 (e ▸ ha)
   ·rcases List.mem_append.mp hx with hx | hx
    ·exact hnm x hx
    ·rw [List.mem_singleton.mp hx]; exact h2
   ·rcases List.mem_append.mp hx with hx | hx
    ·rcases hor x hx with h | ⟨q, h4, h5⟩
     ·exact .inl h
     ·exact .inr ⟨q, by omega, h5⟩
    ·rw [List.mem_singleton.mp hx]; exact h3
  obtain ⟨N, hN⟩ : ∃ N, n = N + 1 + 1 + 1 := ⟨n - 3, by omega⟩
  by_cases hin : s ∈ l
  ·have t1 := test s
   rw [decide_eq_true hin] at t1
   have set1 : bCons (sAsg (gNm 4) (kBin .Add (kBin .Add (kLit (.str (Str.ofString "z"))) (kBlt .str (aCons (kVar 3) aNil))) (kLit (.str (Str.ofString "q"))))) bNil [some (.ref 0), some (.int (many : Nat)), some (.ref (X.length + 1 + 0)), some (.int (i : Nat)), some (.str s)] ((penD c2 :: X) ++ [.lst (l.map .str)]) = .nx [some (.ref 0), some (.int (many : Nat)), some (.ref (X.length + 1 + 0)), some (.int (i : Nat)), some (.str (fb i))] ((penD c2 :: X) ++ [.lst (l.map .str)]) := by
    refine ub_cons (us_nmp (d := .str (fb i)) (r_bin (x := .str (Str.ofString "z" ++ Str.ofString (toString (i : Int)))) (y := .str (Str.ofString "q")) (M1 := (penD c2 :: X) ++ [.lst (l.map .str)]) (r_bin (x := .str (Str.ofString "z")) (y := .str (Str.ofString (toString (i : Int)))) (M1 := (penD c2 :: X) ++ [.lst (l.map .str)]) r_lit (r_blt (ds := [.int (i : Nat)]) (r_acons (r_var rfl) r_anil) ?_) (b_str hf2.2.1)) r_lit (b_str hf2.2.2.1))) ub_nil
    show (if 0 ≤ (i : Int) ∧ (i : Int).natAbs.log2 < 1920 then some (D.str (Str.ofString (toString (i : Int)))) else none) = _
    rw [if_pos hf2.1]
   by_cases hin2 : fb i ∈ l
   ·have t2 := test (fb i)
    rw [decide_eq_true hin2] at t2
    have hnot : fb0 i ∉ l := by
     intro hm0
     rcases hor _ hm0 with h | ⟨q, h4, h5⟩
     ·unfold drawnLen at h
      have := hf1.2.2
      simp only at this
      omega
     ·have hq : (⟨i, h13⟩ : Fin 13) ≠ ⟨q, by omega⟩ := fun e => by
       have := Fin.mk.inj e
       omega
      rcases h5 with h5 | h5
      ·exact fb_ne2 ⟨i, h13⟩ ⟨q, by omega⟩ hq h5
      ·exact fb_ne ⟨i, h13⟩ ⟨q, by omega⟩ hq h5
    have t3 := test (fb0 i)
    rw [decide_eq_false hnot] at t3
    refine ⟨_, _, _, ug_nm, .inl (ub_cons first (ub_cons (us_if t1 (fun _ => set1) nF) (ub_cons (us_whl (by rw [hN]; exact whl_t t2 (ub_cons (us_nmp (d := .str (fb0 i)) (r_bin (x := .str (fb i)) (y := .str (Str.ofString "0")) (M1 := (penD c2 :: X) ++ [.lst (l.map .str)]) (r_var rfl) r_lit (b_str hf2.2.2.2))) ub_nil) (whl_f t3))) (app (fb0 i))))), c2, l ++ [fb0 i], _, _, hc2, rfl, rfl, ext _ hnot (nameB_ok hf1.2.1) (.inr ⟨i, by omega, .inr rfl⟩)⟩
   ·have t2 := test (fb i)
    rw [decide_eq_false hin2] at t2
    exact ⟨_, _, _, ug_nm, .inl (ub_cons first (ub_cons (us_if t1 (fun _ => set1) nF) (ub_cons (us_whl (by rw [hN]; exact whl_f t2)) (app (fb i))))), c2, l ++ [fb i], _, _, hc2, rfl, rfl, ext _ hin2 (nameB_ok hf1.1) (.inr ⟨i, by omega, .inl rfl⟩)⟩
  ·have t1 := test s
   rw [decide_eq_false hin] at t1
   exact ⟨_, _, _, ug_nm, .inl (ub_cons first (ub_cons (us_if t1 nF (fun _ => ub_nil)) (ub_cons (us_whl (by rw [hN]; exact whl_f t1)) (app s)))), c2, l ++ [s], _, _, hc2, rfl, rfl, ext _ hin hs1 (.inl hs2)⟩
end Mn.K62
end
section
namespace Mn.K62
open PySem Mn Mn.Sh
def psN (l : List (Str × Str)) : List (D × D) := l.map fun p => (D.str p.1, D.str p.2)
def cov (ow : Str) (hs : List Str) (ns : List (Str × Str)) : List Str := (ns.filter fun q => decide (q.2 = ow) || decide (q.2 ∈ hs)).map fun q => q.1
structure Gd (ps hs gs : List Str) (ow one : Str) (ns ms : List (Str × Str)) : Prop where
 nn : (ns.map fun p => p.1).Nodup
 mn : (ms.map fun p => p.1).Nodup
 gd : ∀ p ∈ ns ++ ms, p.1 ∈ gs
 hd : ∀ p ∈ ns ++ ms, p.2 ∈ ps ∨ p.2 ∈ hs
 cv : ∀ p ∈ ms, p.1 ∈ cov ow hs ns
 on : one ∈ cov ow hs ns
structure Sa (X Y : Mem) (v11 v12 : Nat) (ns ms : List (Str × Str)) : Prop where
 i : ∃ i, v11 = X.length + 1 + i ∧ Y[i]? = some (.dct (psN ns))
 j : ∃ i, v12 = X.length + 1 + i ∧ Y[i]? = some (.dct (psN ms))
 ne : v11 ≠ v12
abbrev slA (nm : Str) (ps hs gs : List Str) (ow : Str) (way : Nat) (one oth hou : Str) (v11 v12 : Nat) (v13 : Option D) : Sl := [some (.ref 0), some (.str nm), some (rowS ps), some (tupS hs), some (tupS gs), some (.str ow), some (.int (way : Nat)), some (.str one), some (.str oth), some (.str hou), some (tupS (ps ++ hs)), some (.ref v11), some (.ref v12), v13]
end Mn.K62
end
section
namespace Mn.K62
open PySem Mn Mn.Sh
abbrev Stage (n k : Nat) (ps hs gs : List Str) (nm ow one oth hou : Str) (way : Nat) (s : KS) : Prop := ∀ (X Y : Mem) (c : Pen) (v11 v12 : Nat) (v13 : Option D) (ns ms : List (Str × Str)), PenOk c → Gd ps hs gs ow one ns ms → Sa X Y v11 v12 ns ms →
 ∃ (Y' : Mem) (c' : Pen) (w11 w12 : Nat) (w13 : Option D) (ns' ms' : List (Str × Str)), PenOk c' ∧ Gd ps hs gs ow one ns' ms' ∧ Sa X Y' w11 w12 ns' ms' ∧ s (slA nm ps hs gs ow way one oth hou v11 v12 v13) ((penD c :: X) ++ Y) = .nx (slA nm ps hs gs ow way one oth hou w11 w12 w13) ((penD c' :: X) ++ Y')
structure Inp (ps hs gs : List Str) : Prop where
 p0 : 0 < ps.length
 h0 : 0 < hs.length
 g0 : 0 < gs.length
 pl : ps.length < 100
 hl : hs.length < 100
 gl : gs.length < 100
end Mn.K62
end
section
namespace Mn.K62
open PySem Mn Mn.Sh
structure DrawnA (ps hs gs : List Str) (a : Act') : Prop where
 ai : ActIn ps hs gs a
 nn : (a.needs.map fun p => p.1).Nodup
 mn : (a.moves.map fun p => p.1).Nodup
end Mn.K62
end
section
namespace Mn.K62
open PySem Mn Mn.Sh
theorem sIx_nat {n d i : Nat} (h : i ≤ n) : HT.sIx n d (some (i : Int)) = i := by
 rw [HT.sIx_nat]; omega
end Mn.K62
end
section
namespace Mn.K62
open PySem Mn Mn.Sh
theorem any_map {α : Type} (f : α → Bool) (l : List α) : bi .any [.lst (l.map fun a => .bl (f a))] = some (.bl (l.any f)) := by
 show (bls (l.map fun a => D.bl (f a))).map _ = _
 have : bls (l.map fun a => D.bl (f a)) = some (l.map f) := by
  induction l with
  | nil => rfl
  | cons a r ih => rw [List.map_cons, List.map_cons]; unfold bls; rw [ih]; rfl
 rw [this]
 simp [List.any_map]
theorem isi_st (x : Str) : bi .isi [.str x, .ty "tuple"] = some (.bl false) := by simp [bi, biIsi, isA, tyD]
theorem is_str {n k : Nat} {M : Mem} (hk : 1 ≤ k) (x : Str) : run tab n k false i__law_is [.str x, .str x] M = .ok (.bl true) M := by
 refine does shal h25 oM rfl rfl (ub_cons (us_if (k := false) (M1 := M) (ut_val (x := .bl false) (M1 := M) (r_blt (ds := [.str x, .ty "tuple"]) (M1 := M) (r_acons (r_var rfl) (r_acons r_lit r_anil)) (isi_st x)) rfl) nF (fun _ => ub_nil))
  (ub_cons (us_if (k := false) (M1 := M) (ut_cmp (r_var rfl) r_lit rfl) nF (fun _ => ub_nil))
  (ub_cons (us_if (k := false) (M1 := M) (ut_cmp (r_var rfl) r_lit rfl) nF (fun _ => ub_nil))
  (ub_cons (us_if (k := false) (M1 := M) (ut_cmp (r_var rfl) r_lit rfl) nF (fun _ => ub_nil))
  (ub_rt (us_if (k := true) (M1 := M) (ut_val (x := .bl true) (M1 := M) (r_blt (ds := [.str x, .ty "str"]) (M1 := M) (r_acons (r_var rfl) (r_acons r_lit r_anil)) (isi_ss x)) rfl) (fun _ => ub_rt (us_ret (d := .bl (true && true)) (M1 := M) (r_and (k := true) (r_blt (ds := [.str x, .ty "str"]) (M1 := M) (r_acons (r_var rfl) (r_acons r_lit r_anil)) (isi_ss x)) (fun _ => r_cmp (r_var rfl) (r_var rfl) ?_)))) nF)))))) (fin_id0 rfl)
 rw [cmp_str, decide_eq_true rfl]
theorem is_tup {n k : Nat} {M : Mem} (hk : 1 ≤ k) (xs : List D) (hf : ∀ x ∈ xs, run tab n (k - 1) false i__law_is [x, x] M = .ok (.bl true) M) (hl : xs.length < 100000) : run tab n k false i__law_is [.tup xs, .tup xs] M = .ok (.bl true) M := by
 have hlen : ∀ {M : Mem}, bi .len [dr M (.tup xs)] = some (.int (xs.length : Nat)) := rfl
 refine does shal h25 oM rfl rfl (ub_rt (us_if (k := true) (M1 := M) (ut_val (x := .bl true) (M1 := M) (r_blt (ds := [.tup xs, .ty "tuple"]) (M1 := M) (r_acons (r_var rfl) (r_acons r_lit r_anil)) (isi_tt xs)) rfl) (fun _ =>
  ub_cons (us_if (k := false) (M1 := M) (ut_or (k := false) (kb := false) (ut_not (k := true) (ut_val (x := .bl true) (M1 := M) (r_blt (ds := [.tup xs, .ty "tuple"]) (M1 := M) (r_acons (r_var rfl) (r_acons r_lit r_anil)) (isi_tt xs)) rfl)) (fun _ => ut_cmp (x := .int (xs.length : Nat)) (y := .int (xs.length : Nat)) (M1 := M) (r_blt (r_acons (r_var rfl) r_anil) rfl) (r_blt (r_acons (r_var rfl) r_anil) rfl) ?_)) nF (fun _ => ub_nil))
  (ub_rt (us_ret (d := .bl true) (M1 := M) (r_cmp (x := .lst []) (y := .lst []) (M1 := M) (M2 := M) (r_new (lcp_filter1 (i := 2) (vs := [2]) (l := List.range xs.length) (fd := fun i => D.int (i : Nat)) (g := fun i => D.int (i : Nat)) (pr := fun _ => false) (ui_rng1 (j := (xs.length : Nat)) (r_blt (r_acons (r_var rfl) r_anil) rfl) (rng_n _ oM)) (fun i hi => ?_) (fun i hi e => by cases e) |>.trans ?_)) (r_new (un_lst r_anil)) rfl)))) nF)) (fin_id0 rfl)
 ·rw [cmp_intN, decide_eq_true rfl]; rfl
 ·have hi' : i < xs.length := List.mem_range.mp hi
  have hx : idx (.tup xs) (.int (i : Nat)) = some xs[i] := by
   have := idx_lst (f := fun x : D => x) (l := xs) hi'
   rw [List.map_id'] at this
   exact this
  exact ut_not (k := true) (ut_val (x := .bl true) (M1 := M) (r_cal (ds := [xs[i], xs[i]]) (M1 := M) (r_acons (r_idx (r_var rfl) (r_var rfl) hx) (r_acons (r_idx (r_var rfl) (r_var rfl) hx) r_anil)) (hf _ (List.getElem_mem hi'))) rfl)
 ·rw [show (List.range xs.length).filter (fun _ => false) = [] by simp]; rfl
theorem isi_bt (b : Bool) : bi .isi [.bl b, .ty "tuple"] = some (.bl false) := by simp [bi, biIsi, isA, tyD]
theorem is_bl {n k : Nat} {M : Mem} (hk : 1 ≤ k) (b : Bool) : run tab n k false i__law_is [.bl b, .bl b] M = .ok (.bl true) M := by
 cases b with
 | true => exact does shal h25 oM rfl rfl (ub_cons (us_if (k := false) (M1 := M) (ut_val (x := .bl false) (M1 := M) (r_blt (ds := [.bl true, .ty "tuple"]) (M1 := M) (r_acons (r_var rfl) (r_acons r_lit r_anil)) (isi_bt true)) rfl) nF (fun _ => ub_nil))
   (ub_cons (us_if (k := false) (M1 := M) (ut_cmp (r_var rfl) r_lit rfl) nF (fun _ => ub_nil))
   (ub_rt (us_if (k := true) (M1 := M) (ut_cmp (r_var rfl) r_lit rfl) (fun _ => ub_rt (us_ret (d := .bl true) (M1 := M) (r_cmp (r_var rfl) r_lit rfl))) nF)))) (fin_id0 rfl)
 | false => exact does shal h25 oM rfl rfl (ub_cons (us_if (k := false) (M1 := M) (ut_val (x := .bl false) (M1 := M) (r_blt (ds := [.bl false, .ty "tuple"]) (M1 := M) (r_acons (r_var rfl) (r_acons r_lit r_anil)) (isi_bt false)) rfl) nF (fun _ => ub_nil))
   (ub_cons (us_if (k := false) (M1 := M) (ut_cmp (r_var rfl) r_lit rfl) nF (fun _ => ub_nil))
   (ub_cons (us_if (k := false) (M1 := M) (ut_cmp (r_var rfl) r_lit rfl) nF (fun _ => ub_nil))
   (ub_rt (us_if (k := true) (M1 := M) (ut_cmp (r_var rfl) r_lit rfl) (fun _ => ub_rt (us_ret (d := .bl true) (M1 := M) (r_cmp (r_var rfl) r_lit rfl))) nF))))) (fin_id0 rfl)
end Mn.K62
end
section
namespace Mn.K62
open PySem Mn Mn.Sh
end Mn.K62
end
section
namespace Mn.K62
open PySem Mn Mn.Sh
structure LayOk (d : Deal') (p : Str) (e l : List St) : Prop where
 ne : l ≠ []
 st : sortL l = l
 ln : ∀ x ∈ l, x.length = d.goods.length ∧ x ≠ []
 one : ∀ x ∈ l, ((e ++ l).filter fun y => decide (y = x)).length = 1
 lost : ∀ x ∈ l, ((openL d x).any fun q => !decide (q.1.owner = p) && decide (q.2 ∈ e)) = true ∨ (fineB d p x = false ∧ ((openL d x).any fun q => decide (q.1.owner = p) && !decide (q.2 ∈ e ++ l)) = false)
theorem eq_nilL {α : Type} {M : Mem} {f : α → D} (h : ∀ a, shp 8 (f a) = true) (xs : List α) : cmpK M .Eq (.lst (xs.map f)) (.lst []) = some (.bl xs.isEmpty) := by
 rw [cmp_lst (shps_map h xs) rfl, eq2s_nil, List.isEmpty_map]
theorem neq_nilL {α : Type} {M : Mem} {f : α → D} (h : ∀ a, shp 8 (f a) = true) (xs : List α) : cmpK M .NotEq (.lst (xs.map f)) (.lst []) = some (.bl (!xs.isEmpty)) := by
 rw [cmp_lstN (shps_map h xs) rfl, eq2s_nil, List.isEmpty_map]
theorem bin_lst {xs ys : List D} (h : xs.length + ys.length ≤ 16000000) : binR .Add (.lst xs) (.lst ys) (.lst xs) (.lst ys) = some (.lst (xs ++ ys)) := by
 show (if xs.length + ys.length ≤ big then some (D.lst (xs ++ ys)) else none) = _
 rw [if_pos h]
section
variable {n k : Nat} {M : Mem} {d : Deal'} {p : Str} {s : St}
end
end Mn.K62
end
section
namespace Mn.K62
open PySem Mn Mn.Sh
-- N62a
inductive Reach (d : Deal') (s : St) : St → Prop
 | refl : Reach d s s
 | step {x : St} {q : Act' × List Str} : Reach d s x → q ∈ openL d x → Reach d s q.2
-- Q62a
structure MoOk (op : List Str → List (Act' × List Str)) (mo : D) (P : St → Prop) : Prop where
 cl : ∀ x, P x → ∀ q ∈ op x, P q.2
 sz : mo = .non ∨ ∃ m : Nat, mo = .int m ∧ ∀ l : List St, l.Nodup → (∀ x ∈ l, P x) → l.length ≤ m
theorem MoOk.cap {d : Deal'} (V : Val d) {op : List Str → List (Act' × List Str)} (sub : ∀ s, ∀ q ∈ op s, q ∈ openL d s) {m : Nat} (h : cap d ≤ m) : MoOk op (.int m) (StOk d) where
 cl := fun _ hx q hq => open_ok V hx (sub _ q hq)
 sz := .inr ⟨m, rfl, fun l nd hl => by
  have := len_le (L := allS (d.parties ++ d.houses) d.goods.length) nd fun x hx => by
   rw [← (hl x hx).ln]
   exact allS_mem (hl x hx).hd
  rw [allS_len] at this
  exact Nat.le_trans this h⟩
theorem MoOk.non {op : List Str → List (Act' × List Str)} : MoOk op .non (fun _ => True) := ⟨fun _ _ _ _ => trivial, .inl rfl⟩
-- Q62b
def startL (d : Deal') : St := d.goods.map fun g => g.2
-- P62u
theorem Reach.ok {d : Deal'} (V : Val d) {x y : St} (hx : StOk d x) (h : Reach d x y) : StOk d y := by
 induction h with
 | refl => exact hx
 | step _ hq ih => exact open_ok V ih hq
-- Q62e
def AsId (n k : Nat) (x : D) : Prop := ∀ M, run tab n k false i_as_tuples [x] M = .ok x M
theorem as_dat {n k m : Nat} {d : D} (hk : m + 1 ≤ k) (h : dat m d = true) (e : asT m d = d) : AsId n k d := fun M => by
 have := as_tuples_ok (n := n) (M := M) m k d hk h
 rw [e] at this
 exact this
theorem as_tup {n k : Nat} (hk : 1 ≤ k) {xs : List D} (h : ∀ x ∈ xs, AsId n (k - 1) x) (hb : ∀ m, bels m xs = true) : AsId n k (.tup xs) := fun M => by
 refine does shal h1 oM rfl rfl (ub_rt (us_if (k := true) (M1 := M) ?_ (fun _ => ub_rt (us_ret (d := .tup xs) (r_tupO (x := .lst xs) (M1 := M) (r_new ?_) rfl))) nF)) (fin_id0 (hb _))
 ·exact ut_val (x := .bl true) (r_blt (ds := [.tup xs, .tup [.ty "list", .ty "tuple"]]) (M1 := M) (r_acons (r_var rfl) (r_acons (r_tup (r_acons r_lit (r_acons r_lit r_anil))) r_anil)) (by
   show bi .isi [.tup xs, .tup [.ty "list", .ty "tuple"]] = _
   simp [bi, biIsi, isAs, isA, tyD, isC])) rfl
 ·have := lcp_map1 (i := 1) (vs := [1]) (l := xs) (fd := fun d => d) (g := fun d => d) (it := iIt (kVar 0)) (c := tVal (kLit (.bl true))) (e := kCal (run tab n (k - 1) false) 1 (aCons (kVar 1) aNil)) (σ := [some (.tup xs), none]) (M := M) (by rw [List.map_id']; exact ui_it (x := .tup xs) (r_var rfl) rfl) (fun p hp => ut_val (x := .bl true) r_lit rfl) (fun p hp => r_cal (ds := [p]) (M1 := M) (r_acons (r_var rfl) r_anil) (h p hp M))
  rw [List.map_id'] at this
  exact this
-- Q62i
structure Lays (d : Deal') (p : Str) (ls : List (List St)) : Prop where
 ok : ∀ j l, ls[j]? = some l → LayOk d p (ls.take j).flatten l
 nd : ls.flatten.Nodup
 st : ∀ x ∈ ls.flatten, StOk d x
 few : ls.flatten.length < 50000
theorem Lays.sub {d : Deal'} {p : Str} {ls : List (List St)} (L : Lays d p ls) {j : Nat} {l : List St} (h : ls[j]? = some l) : l.Nodup ∧ l.length < 50000 := by
 have hs : l.Sublist ls.flatten := List.sublist_flatten_of_mem (List.mem_of_getElem? h)
 have h1 := hs.length_le
 have := L.few
 exact ⟨hs.nodup L.nd, by omega⟩
section
variable {n k : Nat} {M : Mem} {d : Deal'} {p : Str} {ls : List (List St)} (L : Lays d p ls) (V : Val d) (hp : p ∈ d.parties)
include L V hp
end
abbrev RowT := St × Str × Option (List (List St))
structure FRow (d : Deal') (q : RowT) : Prop where
 st : StOk d q.1
 pt : q.2.1 ∈ d.parties
 pp : ∀ ls, q.2.2 = some ls → (∀ l ∈ ls, ∀ s ∈ l, StOk d s) ∧ ls.flatten.length < 50000
section
variable {n k : Nat} (hk : 22 ≤ k) (d : Deal') (V : Val d)
include hk V
end
-- R62l
theorem slcT_to {xs : List D} {b : Nat} (h : b ≤ xs.length) : slc (.tup xs) (.tup xs) none (some (b : Int)) = some (.tup (xs.take b)) := by
 have e : HT.sIx xs.length 0 none = 0 := rfl
 show some (if allOf xs.length none (some (b : Int)) = true then D.tup xs else .tup (cut xs none (some (b : Int)))) = _
 unfold allOf cut
 rw [sIx_nat h, e]
 split
 ·rename_i hc
  simp at hc
  rw [List.take_of_length_le oM]
 ·simp
theorem slcT_from {xs : List D} (a : Nat) : slc (.tup xs) (.tup xs) (some (a : Int)) none = some (.tup (xs.drop a)) := by
 have e : HT.sIx xs.length xs.length none = xs.length := rfl
 have e2 : HT.sIx xs.length 0 (some (a : Int)) = min a xs.length := by rw [HT.sIx_nat]
 show some (if allOf xs.length (some (a : Int)) none = true then D.tup xs else .tup (cut xs (some (a : Int)) none)) = _
 unfold allOf cut
 rw [e2, e]
 split
 ·rename_i hc
  simp at hc
  by_cases ha : a = 0
  ·subst ha; rfl
  ·have : xs = [] := by
    cases xs with
    | nil => rfl
    | cons x r => simp at hc; omega
   subst this
   simp
 ·by_cases ha : a ≤ xs.length
  ·rw [Nat.min_eq_left ha, List.take_of_length_le (by rw [List.length_drop]; omega)]
  ·rw [Nat.min_eq_right oM, List.drop_eq_nil_of_le oM, List.drop_eq_nil_of_le oM]
   simp
theorem add_tup {xs ys : List D} (h : xs.length + ys.length ≤ 16000000) : binR .Add (.tup xs) (.tup ys) (.tup xs) (.tup ys) = some (.tup (xs ++ ys)) := by
 show (if xs.length + ys.length ≤ big then some (if xs.isEmpty then D.tup ys else if ys.isEmpty then D.tup xs else .tup (xs ++ ys)) else none) = _
 rw [if_pos h]
 cases xs with
 | nil => rfl
 | cons x r =>
  cases ys with
  | nil => simp
  | cons y s => simp
def AsTo (n k : Nat) (x y : D) : Prop := ∀ M, run tab n k false i_as_tuples [x] M = .ok y M
theorem as_lst {n k : Nat} (hk : 1 ≤ k) {xs : List D} (h : ∀ x ∈ xs, AsId n (k - 1) x) (hb : ∀ m, bels m xs = true) : AsTo n k (.lst xs) (.tup xs) := fun M => by
 refine does shal h1 oM rfl rfl (ub_rt (us_if (k := true) (M1 := M) ?_ (fun _ => ub_rt (us_ret (d := .tup xs) (r_tupO (x := .lst xs) (M1 := M) (r_new ?_) rfl))) nF)) (fin_id0 (hb _))
 ·exact ut_val (x := .bl true) (r_blt (ds := [.lst xs, .tup [.ty "list", .ty "tuple"]]) (M1 := M) (r_acons (r_var rfl) (r_acons (r_tup (r_acons r_lit (r_acons r_lit r_anil))) r_anil)) (by
   show bi .isi [.lst xs, .tup [.ty "list", .ty "tuple"]] = _
   simp [bi, biIsi, isAs, isA, tyD, isC])) rfl
 ·have := lcp_map1 (i := 1) (vs := [1]) (l := xs) (fd := fun d => d) (g := fun d => d) (it := iIt (kVar 0)) (c := tVal (kLit (.bl true))) (e := kCal (run tab n (k - 1) false) 1 (aCons (kVar 1) aNil)) (σ := [some (.lst xs), none]) (M := M) (by rw [List.map_id']; exact ui_it (x := .lst xs) (r_var rfl) rfl) (fun p hp => ut_val (x := .bl true) r_lit rfl) (fun p hp => r_cal (ds := [p]) (M1 := M) (r_acons (r_var rfl) r_anil) (h p hp M))
  rw [List.map_id'] at this
  exact this
structure FW (d : Deal') (I : List St) (O : List RowT) : Prop where
 i : ∀ s ∈ I, StOk d s
 o : ∀ q ∈ O, FRow d q
 il : I.length < 50000
 ol : O.length < 50000
 pp : ∀ q ∈ O, ∃ ls, q.2.2 = some ls
section
variable {n k : Nat} {X : Mem} {d : Deal'} (hk : 12 ≤ k) (R : RawOk d) (V' : Val (made d)) (hs : StOk d (startL d)) (hn : cap d < n) {I : List St} {O : List RowT} (F : FW d I O)
include hk R V' hs hn F
end
end Mn.K62
end
section
namespace Mn.K62
open PySem Mn
abbrev T3 := Str × Str × Str
abbrev Wt := Str × Str × List Str
def parts (r : List T3) : List Str := r.map fun t => t.1
def brought (r : List T3) : List Str := r.map fun t => t.2.1
def thirds (r : List T3) : List Str := r.map fun t => t.2.2
def gds (L : List Wt) : List Str := L.map fun w => w.2.1
def pts (L : List Wt) : List Str := L.map fun w => w.1
def ext (w : Wt) (r : List T3) (x : Str) : List T3 := r ++ [(w.1, w.2.1, x)]
def stepS {α : Type} (a : List (List α)) (w : α) : List (List α) := a ++ a.map fun L => L ++ [w]
def subsW {α : Type} (W : List α) : List (List α) := W.foldl stepS [[]]
def stepT (a : List (List T3)) (w : Wt) : List (List T3) := a ++ a.flatMap fun r => w.2.2.map (ext w r)
def allT (W : List Wt) : List (List T3) := W.foldl stepT [[]]
def stepC (a : List (List T3)) (w : Wt) : List (List T3) := a.flatMap fun r => w.2.2.map (ext w r)
def combs (L : List Wt) : List (List T3) := L.foldl stepC [[]]
def stepK (B : List Str) (a : List (List T3)) (w : Wt) : List (List T3) := a.flatMap fun r => (w.2.2.filter fun x => decide (x ∈ B) && !decide (x ∈ thirds r)).map (ext w r)
def chosen (B : List Str) (L : List Wt) : List (List T3) := L.foldl (stepK B) [[]]
theorem combs_snoc (L : List Wt) (w : Wt) : combs (L ++ [w]) = stepC (combs L) w := by
 unfold combs
 rw [List.foldl_append]; rfl
theorem allT_gen : ∀ (W : List Wt) (A : List (List Wt)), W.foldl stepT (A.flatMap combs) = (W.foldl stepS A).flatMap combs
 | [], _ => rfl
 | w :: W, A => by
  rw [List.foldl_cons, List.foldl_cons, ← allT_gen W]
  congr 1
  unfold stepT stepS
  rw [List.flatMap_append, List.flatMap_map, List.flatMap_assoc]
  congr 1
  congr 1
  funext L
  rw [combs_snoc]
  rfl
theorem allT_eq (W : List Wt) : allT W = (subsW W).flatMap combs := by
 have := allT_gen W [[]]
 rw [show ([[]] : List (List Wt)).flatMap combs = [[]] from rfl] at this
 exact this
def okB (B : List Str) (r : List T3) : Bool := decide (∀ x ∈ thirds r, x ∈ B) && decide (thirds r).Nodup
theorem thirds_ext (w : Wt) (r : List T3) (x : Str) : thirds (ext w r x) = thirds r ++ [x] := by
 unfold thirds ext
 rw [List.map_append]; rfl
theorem okB_ext (B : List Str) (w : Wt) (r : List T3) (x : Str) : okB B (ext w r x) = (okB B r && (decide (x ∈ B) && !decide (x ∈ thirds r))) := by
 unfold okB
 rw [thirds_ext, Bool.eq_iff_iff]
 simp only [Bool.and_eq_true, decide_eq_true_iff, Bool.not_eq_true', decide_eq_false_iff_not, List.nodup_append, List.mem_append, List.mem_singleton]
 constructor
 ·rintro ⟨h1, h2, h3, h4⟩
  exact ⟨⟨fun y hy => h1 y (.inl hy), h2⟩, h1 x (.inr rfl), fun h => h4 x h x rfl rfl⟩
 ·rintro ⟨⟨h1, h2⟩, h3, h4⟩
  refine ⟨fun y hy => ?_, h2, by simp, fun a ha b hb e => ?_⟩
  ·rcases hy with h | rfl
   ·exact h1 y h
   ·exact h3
  ·subst hb; subst e; exact h4 ha
theorem stepK_filter (B : List Str) (w : Wt) : ∀ A : List (List T3), stepK B (A.filter (okB B)) w = (stepC A w).filter (okB B)
 | [] => rfl
 | r :: A => by
  have ih := stepK_filter B w A
  unfold stepK stepC at ih ⊢
  rw [List.flatMap_cons, List.filter_append, ← ih, List.filter_map]
  have e : (okB B ∘ ext w r) = fun x => okB B r && (decide (x ∈ B) && !decide (x ∈ thirds r)) := funext fun x => okB_ext B w r x
  rw [e, List.filter_cons]
  cases h : okB B r with
  | true =>
   rw [if_pos rfl, List.flatMap_cons]
   simp only [Bool.true_and]
  | false =>
   rw [if_neg (by simp)]
   simp
theorem chosen_gen (B : List Str) : ∀ (L : List Wt) (A : List (List T3)), L.foldl (stepK B) (A.filter (okB B)) = (L.foldl stepC A).filter (okB B)
 | [], _ => rfl
 | w :: L, A => by rw [List.foldl_cons, List.foldl_cons, stepK_filter, chosen_gen B L]
theorem chosen_eq (B : List Str) (L : List Wt) : chosen B L = (combs L).filter (okB B) := by
 have := chosen_gen B L [[]]
 rw [show ([[]] : List (List T3)).filter (okB B) = [[]] by simp [okB, thirds]] at this
 exact this
def fit (t : T3) (w : Wt) : Prop := t.1 = w.1 ∧ t.2.1 = w.2.1 ∧ t.2.2 ∈ w.2.2
def Fit : List T3 → List Wt → Prop
 | [], [] => True
 | t :: r, w :: L => fit t w ∧ Fit r L
 | _, _ => False
theorem mem_stepC {A : List (List T3)} {w : Wt} {r : List T3} : r ∈ stepC A w ↔ ∃ r0 ∈ A, ∃ t, fit t w ∧ r = r0 ++ [t] := by
 unfold stepC ext
 rw [List.mem_flatMap]
 constructor
 ·rintro ⟨r0, h0, h⟩
  obtain ⟨x, hx, rfl⟩ := List.mem_map.mp h
  exact ⟨r0, h0, _, ⟨rfl, rfl, hx⟩, rfl⟩
 ·rintro ⟨r0, h0, ⟨a, b, x⟩, ⟨h1, h2, h3⟩, rfl⟩
  refine ⟨r0, h0, List.mem_map.mpr ⟨x, h3, ?_⟩⟩
  show r0 ++ [(w.1, w.2.1, x)] = _
  rw [← h1, ← h2]
theorem mem_combs_gen : ∀ (L : List Wt) (A : List (List T3)) (r : List T3), r ∈ L.foldl stepC A ↔ ∃ r0 ∈ A, ∃ r1, Fit r1 L ∧ r = r0 ++ r1
 | [], A, r => by
  rw [List.foldl_nil]
  constructor
  ·intro h; exact ⟨r, h, [], trivial, by simp⟩
  ·rintro ⟨r0, h0, r1, h1, rfl⟩
   cases r1 with
   | nil => simpa using h0
   | cons t r => cases h1
 | w :: L, A, r => by
  rw [List.foldl_cons, mem_combs_gen L]
  constructor
  ·rintro ⟨a, ha, r1, h1, rfl⟩
   obtain ⟨r0, h0, t, ht, rfl⟩ := mem_stepC.mp ha
   exact ⟨r0, h0, t :: r1, ⟨ht, h1⟩, by simp⟩
  ·rintro ⟨r0, h0, r1, h1, rfl⟩
   cases r1 with
   | nil => cases h1
   | cons t r1 => exact ⟨r0 ++ [t], mem_stepC.mpr ⟨r0, h0, t, h1.1, rfl⟩, r1, h1.2, by simp⟩
theorem mem_combs {L : List Wt} {r : List T3} : r ∈ combs L ↔ Fit r L := by
 unfold combs
 rw [mem_combs_gen]
 constructor
 ·rintro ⟨r0, h0, r1, h1, rfl⟩
  rw [List.mem_singleton.mp h0]; exact h1
 ·intro h; exact ⟨[], by simp, r, h, rfl⟩
theorem mem_subs_gen {α : Type} : ∀ (W : List α) (A : List (List α)) (L : List α), L ∈ W.foldl stepS A ↔ ∃ L0 ∈ A, ∃ L1, L1.Sublist W ∧ L = L0 ++ L1
 | [], A, L => by
  rw [List.foldl_nil]
  constructor
  ·intro h; exact ⟨L, h, [], List.Sublist.slnil, by simp⟩
  ·rintro ⟨r0, h0, r1, h1, rfl⟩
   rw [List.sublist_nil.mp h1]; simpa using h0
 | w :: W, A, L => by
  rw [List.foldl_cons, mem_subs_gen W]
  unfold stepS
  constructor
  ·rintro ⟨a, ha, r1, h1, rfl⟩
   rcases List.mem_append.mp ha with ha | ha
   ·exact ⟨a, ha, r1, h1.cons w, rfl⟩
   ·obtain ⟨r0, h0, rfl⟩ := List.mem_map.mp ha
    exact ⟨r0, h0, w :: r1, h1.cons₂ w, by simp⟩
  ·rintro ⟨r0, h0, r1, h1, rfl⟩
   cases h1 with
   | cons _ h => exact ⟨r0, List.mem_append_left _ h0, r1, h, rfl⟩
   | cons_cons _ h =>
    rename_i r2
    exact ⟨r0 ++ [w], List.mem_append_right _ (List.mem_map.mpr ⟨r0, h0, rfl⟩), r2, h, by simp⟩
theorem mem_subs {α : Type} {W L : List α} : L ∈ subsW W ↔ L.Sublist W := by
 unfold subsW
 rw [mem_subs_gen]
 constructor
 ·rintro ⟨r0, h0, r1, h1, rfl⟩
  rw [List.mem_singleton.mp h0]; exact h1
 ·intro h; exact ⟨[], by simp, L, h, rfl⟩
theorem Fit.len : ∀ {r : List T3} {L : List Wt}, Fit r L → r.length = L.length
 | [], [], _ => rfl
 | _ :: _, _ :: _, h => by rw [List.length_cons, List.length_cons, Fit.len h.2]
 | [], _ :: _, h => nomatch h
 | _ :: _, [], h => nomatch h
theorem Fit.br : ∀ {r : List T3} {L : List Wt}, Fit r L → brought r = gds L ∧ parts r = pts L
 | [], [], _ => ⟨rfl, rfl⟩
 | t :: r, w :: L, h => by
  obtain ⟨h1, h2⟩ := Fit.br h.2
  refine ⟨?_, ?_⟩
  ·show t.2.1 :: brought r = w.2.1 :: gds L
   rw [h1, h.1.2.1]
  ·show t.1 :: parts r = w.1 :: pts L
   rw [h2, h.1.1]
 | [], _ :: _, h => nomatch h
 | _ :: _, [], h => nomatch h
theorem nodup_le : ∀ {l L : List Str}, l.Nodup → (∀ x ∈ l, x ∈ L) → l.length ≤ L.length
 | [], _, _, _ => Nat.zero_le _
 | a :: l, L, nd, h => by
  have ha : a ∈ L := h a List.mem_cons_self
  rw [List.nodup_cons] at nd
  have := nodup_le (l := l) (L := L.erase a) nd.2 fun x hx => (List.mem_erase_of_ne fun e => nd.1 (by rw [← e]; exact hx)).mpr (h x (List.mem_cons_of_mem _ hx))
  rw [List.length_erase_of_mem ha] at this
  have := List.length_pos_of_mem ha
  rw [List.length_cons]
  omega
theorem perm_iff {B T : List Str} (nb : B.Nodup) (hl : T.length = B.length) : B.Perm T ↔ (∀ x ∈ T, x ∈ B) ∧ T.Nodup := by
 constructor
 ·intro p
  exact ⟨fun x hx => p.mem_iff.mpr hx, p.nodup_iff.mp nb⟩
 ·rintro ⟨h1, h2⟩
  refine (List.perm_ext_iff_of_nodup nb h2).mpr fun x => ⟨fun hx => Decidable.byContradiction fun hn => ?_, h1 x⟩
  have := nodup_le (l := x :: T) (L := B) (List.nodup_cons.mpr ⟨hn, h2⟩) fun y hy => by
   rcases List.mem_cons.mp hy with rfl | hy
   ·exact hx
   ·exact h1 y hy
  rw [List.length_cons] at this
  omega
theorem subs_map_gen {α β : Type} (f : α → β) : ∀ (l : List α) (A : List (List α)), (l.map f).foldl stepS (A.map (List.map f)) = (l.foldl stepS A).map (List.map f)
 | [], _ => rfl
 | x :: l, A => by
  rw [List.map_cons, List.foldl_cons, List.foldl_cons, ← subs_map_gen f l]
  congr 1
  unfold stepS
  rw [List.map_append, List.map_map, List.map_map]
  congr 1
  apply List.map_congr_left
  intro a _
  show a.map f ++ [f x] = (a ++ [x]).map f
  rw [List.map_append]; rfl
theorem subs_map {α β : Type} (f : α → β) (l : List α) : subsW (l.map f) = (subsW l).map (List.map f) := subs_map_gen f l [[]]
end Mn.K62
end
section
namespace Mn.K62
open PySem Mn
def goodB (r : List T3) : Bool := decide (1 < r.length) && okB (brought r) r
def dueT (W : List Wt) : List (List T3) := (allT W).filter goodB
theorem combs_good (L : List Wt) : (combs L).filter goodB = if 1 < L.length then chosen (gds L) L else [] := by
 have e : ∀ r ∈ combs L, goodB r = (decide (1 < L.length) && okB (gds L) r) := fun r hr => by
  have h := mem_combs.mp hr
  unfold goodB
  rw [h.len, h.br.1]
 rw [List.filter_congr e]
 split
 ·rename_i h
  rw [chosen_eq, decide_eq_true h]
  simp only [Bool.true_and]
 ·rename_i h
  rw [decide_eq_false h]
  simp
theorem filter_flatMapI {α β : Type} (p : α → Bool) (f : α → List β) : ∀ l : List α, (l.filter p).flatMap f = l.flatMap fun a => if p a = true then f a else []
 | [] => rfl
 | a :: l => by
  rw [List.filter_cons, List.flatMap_cons, ← filter_flatMapI p f l]
  split <;> simp
theorem due_perm (W : List Wt) {X : List (List Wt)} (h : X.Perm ((subsW W).filter fun L => decide (1 < L.length))) : (X.flatMap fun L => chosen (gds L) L).Perm (dueT W) := by
 refine (h.flatMap_right _).trans (List.Perm.of_eq ?_)
 rw [filter_flatMapI]
 unfold dueT
 rw [allT_eq, List.filter_flatMap]
 congr 1
 funext L
 show _ = (combs L).filter goodB
 rw [combs_good]
 by_cases h : 1 < L.length
 ·rw [if_pos h, if_pos (decide_eq_true h)]
 ·rw [if_neg h, if_neg (by simpa using h)]
theorem mem_due {W : List Wt} {r : List T3} : r ∈ dueT W ↔ ∃ L, L.Sublist W ∧ Fit r L ∧ 1 < r.length ∧ okB (brought r) r = true := by
 unfold dueT
 rw [List.mem_filter, allT_eq, List.mem_flatMap]
 constructor
 ·rintro ⟨⟨L, hL, hr⟩, hg⟩
  unfold goodB at hg
  rw [Bool.and_eq_true, decide_eq_true_iff] at hg
  exact ⟨L, mem_subs.mp hL, mem_combs.mp hr, hg.1, hg.2⟩
 ·rintro ⟨L, hL, hr, h1, h2⟩
  refine ⟨⟨L, mem_subs.mpr hL, mem_combs.mpr hr⟩, ?_⟩
  unfold goodB
  rw [decide_eq_true h1, h2]; rfl
theorem inj_nodup {α β : Type} {f : α → β} : ∀ {l : List α}, (l.map f).Nodup → ∀ {a b : α}, a ∈ l → b ∈ l → f a = f b → a = b
 | [], _, _, _, h, _, _ => by cases h
 | x :: l, nd, a, b, ha, hb, e => by
  rw [List.map_cons, List.nodup_cons] at nd
  rcases List.mem_cons.mp ha with ha1 | ha1
  ·rcases List.mem_cons.mp hb with hb1 | hb1
   ·rw [ha1, hb1]
   ·exact absurd (List.mem_map.mpr ⟨b, hb1, by rw [← e, ha1]⟩) nd.1
  ·rcases List.mem_cons.mp hb with hb1 | hb1
   ·exact absurd (List.mem_map.mpr ⟨a, ha1, by rw [e, hb1]⟩) nd.1
   ·exact inj_nodup nd.2 ha1 hb1 e
theorem map_inj_in {α β : Type} {f : α → β} : ∀ {l m : List α}, (∀ a ∈ l, ∀ b ∈ m, f a = f b → a = b) → l.map f = m.map f → l = m
 | [], [], _, _ => rfl
 | [], _ :: _, _, h => by simp at h
 | _ :: _, [], _, h => by simp at h
 | a :: l, b :: m, hi, h => by
  rw [List.map_cons, List.map_cons, List.cons.injEq] at h
  rw [hi a List.mem_cons_self b List.mem_cons_self h.1, map_inj_in (fun x hx y hy => hi x (List.mem_cons_of_mem _ hx) y (List.mem_cons_of_mem _ hy)) h.2]
theorem nodup_of_map {α β : Type} {f : α → β} {l : List α} (h : (l.map f).Nodup) : l.Nodup := (List.pairwise_map.mp h).imp fun hab e => hab (by rw [e])
section
variable {W : List Wt} (pn : (pts W).Nodup) (gn : (gds W).Nodup)
include pn
theorem sub_eq {L L' : List Wt} (h : L.Sublist W) (h' : L'.Sublist W) (e : pts L' = pts L) : L' = L :=
 map_inj_in (f := fun w : Wt => w.1) (fun a ha b hb e => inj_nodup pn (h'.mem ha) (h.mem hb) e) e
theorem matched_iff {L : List Wt} (h : L.Sublist W) (h1 : 1 < L.length) : (chosen (gds L) L ≠ []) ↔ ∃ r ∈ dueT W, parts r = pts L := by
 constructor
 ·intro hne
  obtain ⟨r, hr⟩ := List.exists_mem_of_ne_nil _ hne
  rw [chosen_eq] at hr
  obtain ⟨h2, h3⟩ := List.mem_filter.mp hr
  have hf := mem_combs.mp h2
  refine ⟨r, mem_due.mpr ⟨L, h, hf, by rw [hf.len]; exact h1, by rw [hf.br.1]; exact h3⟩, hf.br.2⟩
 ·rintro ⟨r, hr, e⟩ hn
  obtain ⟨L', g1, g2, g3, g4⟩ := mem_due.mp hr
  have : L' = L := sub_eq pn h g1 (by rw [← g2.br.2]; exact e)
  subst this
  have : r ∈ chosen (gds L') L' := by
   rw [chosen_eq]
   exact List.mem_filter.mpr ⟨mem_combs.mpr g2, by rw [← g2.br.1]; exact g4⟩
  rw [hn] at this
  cases this
theorem Fit.mem : ∀ {r : List T3} {L : List Wt}, Fit r L → ∀ t ∈ r, ∃ w ∈ L, fit t w
 | [], [], _, _, h => nomatch h
 | t :: r, w :: L, h, x, hx => by
  rcases List.mem_cons.mp hx with rfl | hx
  ·exact ⟨w, List.mem_cons_self, h.1⟩
  ·obtain ⟨w', h1, h2⟩ := Fit.mem h.2 x hx
   exact ⟨w', List.mem_cons_of_mem _ h1, h2⟩
 | [], _ :: _, h, _, _ => nomatch h
 | _ :: _, [], h, _, _ => nomatch h
theorem parts_nd {r : List T3} (hr : r ∈ dueT W) : (parts r).Nodup := by
 obtain ⟨L, g1, g2, _⟩ := mem_due.mp hr
 rw [g2.br.2]
 exact (g1.map _).nodup pn
def pickT (o : List T3) (w : Wt) : Option T3 := o.find? fun t => decide (t.1 = w.1)
omit pn in
theorem pick_some {o : List T3} {w : Wt} {t : T3} (e : pickT o w = some t) : t ∈ o ∧ t.1 = w.1 :=
 ⟨List.mem_of_find?_eq_some e, of_decide_eq_true (List.find?_some (p := fun t : T3 => decide (t.1 = w.1)) e)⟩
omit pn in
theorem fit_pick (o : List T3) : ∀ V : List Wt, (∀ w ∈ V, ∀ t, pickT o w = some t → fit t w) → Fit (V.filterMap (pickT o)) (V.filter fun w => (pickT o w).isSome)
 | [], _ => trivial
 | w :: V, h => by
  rw [List.filterMap_cons, List.filter_cons]
  cases e : pickT o w with
  | none => simpa using fit_pick o V fun w hw => h w (List.mem_cons_of_mem _ hw)
  | some t => exact ⟨h w List.mem_cons_self t e, fit_pick o V fun w hw => h w (List.mem_cons_of_mem _ hw)⟩
include gn
theorem union_due {o1 o2 : List T3} (h1 : o1 ∈ dueT W) (h2 : o2 ∈ dueT W) (hd : ∀ x ∈ parts o1, x ∉ parts o2) : ∃ o3 ∈ dueT W, o3.length = o1.length + o2.length := by
 obtain ⟨L1, a1, a2, a3, a4⟩ := mem_due.mp h1
 obtain ⟨L2, b1, b2, b3, b4⟩ := mem_due.mp h2
 have hfit : ∀ t ∈ o1 ++ o2, ∃ w ∈ W, fit t w := fun t ht => by
  rcases List.mem_append.mp ht with ht | ht
  ·obtain ⟨w, hw, hf⟩ := Fit.mem pn a2 t ht
   exact ⟨w, a1.mem hw, hf⟩
  ·obtain ⟨w, hw, hf⟩ := Fit.mem pn b2 t ht
   exact ⟨w, b1.mem hw, hf⟩
 have pnd : (parts (o1 ++ o2)).Nodup := by
  unfold parts
  rw [List.map_append, List.nodup_append]
  exact ⟨parts_nd pn h1, parts_nd pn h2, fun x hx y hy e => hd x hx (by rw [e]; exact hy)⟩
 have hpick : ∀ w ∈ W, ∀ t, pickT (o1 ++ o2) w = some t → fit t w := fun w hw t e => by
  obtain ⟨ht, hp⟩ := pick_some e
  obtain ⟨w', hw', hf⟩ := hfit t ht
  have : w' = w := inj_nodup pn hw' hw (hf.1.symm.trans hp)
  rw [← this]; exact hf
 have F := fit_pick (o1 ++ o2) W hpick
 have hsub : (W.filter fun w => (pickT (o1 ++ o2) w).isSome).Sublist W := List.filter_sublist
 generalize hL : (W.filter fun w => (pickT (o1 ++ o2) w).isSome) = L3 at F hsub
 generalize ho : W.filterMap (pickT (o1 ++ o2)) = o3 at F
 have nd3 : o3.Nodup := by
  refine nodup_of_map (f := fun t : T3 => t.1) ?_
  show (parts o3).Nodup
  rw [F.br.2]
  exact (hsub.map _).nodup pn
 have perm : o3.Perm (o1 ++ o2) := by
  refine (List.perm_ext_iff_of_nodup nd3 (nodup_of_map (f := fun t : T3 => t.1) pnd)).mpr fun t => ?_
  rw [← ho, List.mem_filterMap]
  constructor
  ·rintro ⟨w, hw, e⟩
   exact List.mem_of_find?_eq_some e
  ·intro ht
   obtain ⟨w, hw, hf⟩ := hfit t ht
   refine ⟨w, hw, ?_⟩
   cases e : pickT (o1 ++ o2) w with
   | none =>
    have := List.find?_eq_none.mp e t ht
    exact absurd (decide_eq_true hf.1) this
   | some t' =>
    obtain ⟨ht', hp⟩ := pick_some e
    congr 1
    exact inj_nodup pnd ht' ht (hp.trans hf.1.symm)
 have hlen := perm.length_eq
 rw [List.length_append] at hlen
 have hb : (brought o3).Perm (brought o1 ++ brought o2) := by
  have := perm.map fun t : T3 => t.2.1
  rwa [List.map_append] at this
 have ht : (thirds o3).Perm (thirds o1 ++ thirds o2) := by
  have := perm.map fun t : T3 => t.2.2
  rwa [List.map_append] at this
 unfold okB at a4 b4
 rw [Bool.and_eq_true, decide_eq_true_iff, decide_eq_true_iff] at a4 b4
 have bnd : (brought o1 ++ brought o2).Nodup := hb.nodup_iff.mp (by
  rw [F.br.1]
  exact (hsub.map _).nodup gn)
 refine ⟨o3, mem_due.mpr ⟨L3, hsub, F, by omega, ?_⟩, hlen⟩
 unfold okB
 rw [Bool.and_eq_true, decide_eq_true_iff, decide_eq_true_iff]
 refine ⟨fun x hx => hb.mem_iff.mpr ?_, ht.nodup_iff.mpr ?_⟩
 ·rcases List.mem_append.mp (ht.mem_iff.mp hx) with h | h
  ·exact List.mem_append_left _ (a4.1 x h)
  ·exact List.mem_append_right _ (b4.1 x h)
 ·rw [List.nodup_append] at bnd ⊢
  exact ⟨a4.2, b4.2, fun x hx y hy => bnd.2.2 x (a4.1 x hx) y (b4.1 y hy)⟩
end
end Mn.K62
end
section
namespace Mn.K62
open PySem Mn Mn.Sh
def wanD (w : Wt) : D := .tup [.str w.1, .str w.2.1, tupS w.2.2]
def wansT (W : List Wt) : D := .tup (W.map wanD)
def wansL (W : List Wt) : D := .lst (W.map wanD)
structure Wk (W : List Wt) : Prop where
 l2 : 2 ≤ W.length
 l4 : W.length ≤ 4
 np : ∀ w ∈ W, NameOk w.1
 ng : ∀ w ∈ W, NameOk w.2.1
 nw : ∀ w ∈ W, ∀ x ∈ w.2.2, NameOk x
 nd : (pts W ++ gds W).Nodup
 wn : ∀ w ∈ W, w.2.2.Nodup
 wi : ∀ w ∈ W, ∀ x ∈ w.2.2, x ∈ gds W ∧ x ≠ w.2.1
theorem Wk.pn {W : List Wt} (h : Wk W) : (pts W).Nodup := (List.nodup_append.mp h.nd).1
theorem Wk.gn {W : List Wt} (h : Wk W) : (gds W).Nodup := (List.nodup_append.mp h.nd).2.1
theorem Wk.wl {W : List Wt} (h : Wk W) : ∀ w ∈ W, w.2.2.length ≤ 4 := fun w hw => by
 have := nodup_le (h.wn w hw) fun x hx => (h.wi w hw x hx).1
 unfold gds at this
 rw [List.length_map] at this
 have := h.l4
 omega
def Arg (W : List Wt) (v : D) : Prop := v = wansT W ∨ v = wansL W
theorem Arg.it {W : List Wt} {v : D} (h : Arg W v) {i : Nat} {σ : Sl} {M : Mem} (hs : slot σ i = some v) : iIt (kVar i) σ M = .ok ⟨W.map wanD, [], none⟩ M := by
 rcases h with rfl | rfl
 ·exact ui_it (x := wansT W) (M1 := M) (r_var hs) rfl
 ·exact ui_it (x := wansL W) (M1 := M) (r_var hs) rfl
theorem Arg.len {W : List Wt} {v : D} (h : Arg W v) {i : Nat} {σ : Sl} {M : Mem} (hs : slot σ i = some v) : kBlt .len (aCons (kVar i) aNil) σ M = .ok (.int (W.length : Nat)) M := by
 rcases h with rfl | rfl
 ·exact r_blt (ds := [wansT W]) (M1 := M) (r_acons (r_var hs) r_anil) (by
   show some (D.int ((W.map wanD).length : Nat)) = _
   rw [List.length_map])
 ·exact r_blt (ds := [wansL W]) (M1 := M) (r_acons (r_var hs) r_anil) (by
   show some (D.int ((W.map wanD).length : Nat)) = _
   rw [List.length_map])
theorem Arg.isi {W : List Wt} {v : D} (h : Arg W v) {i : Nat} {σ : Sl} {M : Mem} (hs : slot σ i = some v) : kBlt .isi (aCons (kVar i) (aCons (kTup (aCons (kLit (.ty "list")) (aCons (kLit (.ty "tuple")) aNil))) aNil)) σ M = .ok (.bl true) M := by
 rcases h with rfl | rfl
 ·exact r_blt (ds := [wansT W, .tup [.ty "list", .ty "tuple"]]) (M1 := M) (r_acons (r_var hs) (r_acons (r_tup (r_acons r_lit (r_acons r_lit r_anil))) r_anil)) (by
   show bi .isi [.tup (W.map wanD), .tup [.ty "list", .ty "tuple"]] = _
   simp [bi, biIsi, isAs, isA, tyD, isC])
 ·exact r_blt (ds := [wansL W, .tup [.ty "list", .ty "tuple"]]) (M1 := M) (r_acons (r_var hs) (r_acons (r_tup (r_acons r_lit (r_acons r_lit r_anil))) r_anil)) (by
   show bi .isi [.lst (W.map wanD), .tup [.ty "list", .ty "tuple"]] = _
   simp [bi, biIsi, isAs, isA, tyD, isC])
theorem bel_wanD (n : Nat) (w : Wt) : bel n (wanD w) = true := by
 show (true && (true && (bel n (tupS w.2.2) && true))) = true
 rw [bel_tupS]; rfl
theorem bel_wansT (n : Nat) (W : List Wt) : bel n (wansT W) = true := bels_map n wanD (fun w => bel_wanD n w) W
theorem bel_wansL (n : Nat) (W : List Wt) : bel n (wansL W) = true := bels_map n wanD (fun w => bel_wanD n w) W
section
variable {n k : Nat} {M : Mem}
theorem is_wanting_ok (hk : 2 ≤ k) {w : Wt} (h1 : NameOk w.1) (h2 : NameOk w.2.1) (h3 : ∀ x ∈ w.2.2, NameOk x) (nd : w.2.2.Nodup) (hl : w.2.2.length ≤ 4) : run tab n k false 10 [wanD w] M = .ok (.bl true) M := by
 have i0 : kIdx (kVar 0) (kLit (.int 0)) [some (wanD w), none, none] M = .ok (.str w.1) M := r_idx (x := wanD w) (y := .int 0) (M1 := M) (M2 := M) (r_var rfl) r_lit rfl
 have i1 : kIdx (kVar 0) (kLit (.int 1)) [some (wanD w), none, none] M = .ok (.str w.2.1) M := r_idx (x := wanD w) (y := .int 1) (M1 := M) (M2 := M) (r_var rfl) r_lit rfl
 have i2 : ∀ σ : Sl, slot σ 0 = some (wanD w) → kIdx (kVar 0) (kLit (.int 2)) σ M = .ok (tupS w.2.2) M := fun σ h => r_idx (x := wanD w) (y := .int 2) (M1 := M) (M2 := M) (r_var h) r_lit rfl
 refine does shal h10 oM rfl rfl (ub_cons (us_if (k := false) (M1 := M) (ut_or (k := false) (kb := false) (ut_not (k := true) (ut_val (x := .bl true) (M1 := M) (r_blt (ds := [wanD w, .ty "tuple"]) (M1 := M) (r_acons (r_var rfl) (r_acons r_lit r_anil)) (isi_tt _)) rfl)) (fun _ => ut_or (k := false) (kb := false) (ut_cmp (x := .int 3) (y := .int 3) (M1 := M) (M2 := M) (r_blt (ds := [wanD w]) (M1 := M) (r_acons (r_var rfl) r_anil) rfl) r_lit rfl) (fun _ => ut_or (k := false) (kb := false) (ut_not (k := true) (ut_val (x := .bl true) (M1 := M) (r_cal (ds := [.str w.1]) (M1 := M) (r_acons i0 r_anil) (is_name_ok oM h1)) rfl)) (fun _ => ut_not (k := true) (ut_val (x := .bl true) (M1 := M) (r_cal (ds := [.str w.2.1]) (M1 := M) (r_acons i1 r_anil) (is_name_ok oM h2)) rfl))))) nF (fun _ => ub_nil))
  (ub_cons (us_if (k := false) (M1 := M) (ut_or (k := false) (kb := false) (ut_not (k := true) (ut_val (x := .bl true) (M1 := M) (r_blt (ds := [tupS w.2.2, .ty "tuple"]) (M1 := M) (r_acons (i2 _ rfl) (r_acons r_lit r_anil)) (isi_tt _)) rfl)) (fun _ => ut_not (k := true) (ut_val (x := .bl true) (M1 := M) (r_blt (ds := [.lst (w.2.2.map fun _ => .bl true)]) (M1 := M) (r_acons (r_new (lcp_map1 (i := 1) (vs := [1]) (l := w.2.2) (fd := D.str) (g := fun _ => .bl true) (ui_it (x := tupS w.2.2) (M1 := M) (i2 _ rfl) rfl) (fun x hx => ut_val (x := .bl true) (M1 := M) r_lit rfl) (fun x hx => r_cal (ds := [.str x]) (M1 := M) (r_acons (r_var rfl) r_anil) (is_name_ok oM (h3 x hx))))) r_anil) ((all_map (M := M) (fun _ => true) _).trans (by simp))) rfl))) nF (fun _ => ub_nil))
  (ub_rt (us_ret (d := .bl true) (M1 := M) (r_not (x := .bl false) (k := false) (M1 := M) (r_blt (ds := [.lst ((List.range w.2.2.length).map fun i => .bl (decide (w.2.2.getD i ⟨#[]⟩ ∈ w.2.2.take i)))]) (M1 := M) (r_acons (r_new (lcp_map1 (i := 2) (vs := [2]) (l := List.range w.2.2.length) (fd := nD) (g := fun i => .bl (decide (w.2.2.getD i ⟨#[]⟩ ∈ w.2.2.take i))) (ui_rng1 (r_blt (ds := [tupS w.2.2]) (M1 := M) (r_acons (i2 _ rfl) r_anil) (len_tupS _)) (rngD_nat oM)) (fun i hi => ut_val (x := .bl true) (M1 := M) r_lit rfl) (fun i hi => ?_))) r_anil) ?_) rfl))))) (fin_id0 rfl)
 ·have hi := List.mem_range.mp hi
  refine r_cmp (x := .str (w.2.2.getD i ⟨#[]⟩)) (y := tupS (w.2.2.take i)) (M1 := M) (M2 := M) (r_idx (x := tupS w.2.2) (y := nD i) (M1 := M) (M2 := M) (i2 _ rfl) (r_var rfl) (idx_tupS hi)) (r_slc (x := tupS w.2.2) (l := none) (h' := some (i : Int)) (M1 := M) (M2 := M) (i2 _ rfl) r_pno (r_pex (r_var rfl)) ?_) (in_strs _ _)
  have := slcT_to (xs := w.2.2.map D.str) (b := i) (by rw [List.length_map]; omega)
  rw [← List.map_take] at this
  exact this
 ·refine (Mn.Sh.any_map (M := M) (fun i => decide (w.2.2.getD i ⟨#[]⟩ ∈ w.2.2.take i)) _).trans ?_
  congr 2
  rw [List.any_eq_false]
  intro i hi
  have hi := List.mem_range.mp hi
  have e : w.2.2[i]? = some (w.2.2.getD i ⟨#[]⟩) := by
   rw [List.getD_eq_getElem?_getD, List.getElem?_eq_getElem hi]; rfl
  simpa using not_takeS nd e
theorem need_names_ok (hk : 1 ≤ k) {W : List Wt} (h : Wk W) {v : D} (hv : Arg W v) : run tab n k false 6 [v] M = .ok .non M := by
 have hl := h.l4
 have one : ∀ (a : Nat) (f : Wt → Str) (B : List Str) (hf : ∀ (w : Wt) (σ : Sl) (N : Mem), slot σ 2 = some (wanD w) → kIdx (kVar 2) (kLit (.int (a : Nat))) σ N = .ok (.str (f w)) N) (nd : (B ++ W.map f).Nodup) (y2 : Option D), B.length ≤ 4 →
   ∃ z2, sFor (gNm 2) (iIt (kVar 0)) (bCons (sIf (Sh.tCmp .In (kIdx (kVar 2) (kLit (.int (a : Nat)))) (kVar 1)) (bCons sDead bNil) bNil) (bCons (sAsg (gSb (kVar 1) (kIdx (kVar 2) (kLit (.int (a : Nat))))) (kLit (.bl true))) bNil)) [some v, some (.ref (M.length + 0)), y2] (M ++ [knS B]) = .nx [some v, some (.ref (M.length + 0)), z2] (M ++ [knS (B ++ W.map f)]) := by
  intro a f B hf nd y2 hB
  obtain ⟨σ2, M2, h1, ⟨z2, rfl⟩, rfl⟩ := us_for (l := W) (fd := wanD) (t := gNm 2) (it := iIt (kVar 0)) (σ := [some v, some (.ref (M.length + 0)), y2]) (M := M ++ [knS B]) (b := bCons (sIf (Sh.tCmp .In (kIdx (kVar 2) (kLit (.int (a : Nat)))) (kVar 1)) (bCons sDead bNil) bNil) (bCons (sAsg (gSb (kVar 1) (kIdx (kVar 2) (kLit (.int (a : Nat))))) (kLit (.bl true))) bNil))
   (fun j σ M' => (∃ y2, σ = [some v, some (.ref (M.length + 0)), y2]) ∧ M' = M ++ [knS (B ++ (W.take j).map f)]) (hv.it rfl) ⟨⟨_, rfl⟩, by simp⟩ (by
    rintro j w σ1 M1 hw ⟨⟨y2, rfl⟩, rfl⟩
    have hj := (List.getElem?_eq_some_iff.mp hw).1
    have e1 : (W.take (j + 1)).map f = (W.take j).map f ++ [f w] := by rw [List.take_add_one, hw, List.map_append]; rfl
    have hnot : f w ∉ B ++ (W.take j).map f := by
     have hs : (B ++ (W.take (j + 1)).map f).Sublist (B ++ W.map f) := (List.Sublist.refl B).append ((List.take_sublist _ _).map f)
     have := hs.nodup nd
     rw [e1, ← List.append_assoc, List.nodup_append] at this
     exact fun hm => this.2.2 _ hm _ (List.mem_singleton.mpr rfl) rfl
    have hg := get2_s (f w) _ hnot
    rw [e1, ← List.append_assoc]
    have hlen : (B ++ (W.take j).map f).length < 100 := by
     rw [List.length_append, List.length_map, List.length_take]; omega
    generalize B ++ (W.take j).map f = Z at hg hlen
    refine ⟨[some v, some (.ref (M.length + 0)), some (wanD w)], [some v, some (.ref (M.length + 0)), some (wanD w)], M ++ [knS (Z ++ [f w])], ug_nm, .inl (ub_cons (us_if (k := false) (M1 := M ++ [knS Z]) (ut_cmp (hf w _ _ rfl) (r_var rfl) ((in_dctS (M := M ++ [knS Z]) (d := .ref (M.length + 0)) (ps := Z.map fun x => (D.str x, D.bl true)) (dr_app (j := 0) rfl (by intro ps; exact D.noConfusion)) (kok_s _ _)).trans (by rw [hg]; rfl))) nF (fun _ => ub_nil)) (ub_cons (us_tg (d := .bl true) (M1 := M ++ [knS Z]) r_lit ?_) ub_nil)), ⟨_, rfl⟩, rfl⟩
    have := ug_sbk (M := M) (X := [knS Z]) (j := 0) (o' := kVar 1) (i' := kIdx (kVar 2) (kLit (.int (a : Nat)))) (d := .bl true) (σ := [some v, some (.ref (M.length + 0)), some (wanD w)]) (ps := Z.map fun x => (D.str x, D.bl true)) (key := .str (f w)) (r_var rfl) (hf w _ _ rfl) rfl (kok_s _ _) (by rw [List.length_map]; show _ < 16000000; omega)
    rw [dput_new hg] at this
    rw [this]
    show _ = Res.ok _ (M ++ [knS (Z ++ [f w])])
    unfold knS
    rw [List.map_append]
    rfl)
  rw [List.take_length] at h1
  exact ⟨z2, h1⟩
 obtain ⟨z2, l1⟩ := one 0 (fun w => w.1) [] (fun w σ N hs => r_idx (x := wanD w) (y := .int 0) (M1 := N) (M2 := N) (r_var hs) r_lit rfl) (by have := h.pn; unfold pts at this; simpa using this) none (by simp)
 obtain ⟨z3, l2⟩ := one 1 (fun w => w.2.1) (W.map fun w : Wt => w.1) (fun w σ N hs => r_idx (x := wanD w) (y := .int 1) (M1 := N) (M2 := N) (r_var hs) r_lit rfl) h.nd z2 (by rw [List.length_map]; exact hl)
 exact does0 shal h6 oM rfl rfl (ub_cons (us_nm (d := .ref (M.length + 0)) (M1 := M ++ [D.dct []]) (r_newX0 (d := D.dct []) un_dct0)) (ub_cons l1 (ub_cons l2 ub_nil))) (fin_id rfl)
theorem us_try {b : KS} {σ σ2 : Sl} {M M2 : Mem} (h : b σ M = .nx σ2 M2) : sTry b σ M = .nx σ2 M2 := by unfold sTry; rw [h]
theorem are_wantings_ok (hk : 3 ≤ k) {W : List Wt} (h : Wk W) {v : D} (hv : Arg W v) : run tab n k false 11 [v] M = .ok (.bl true) M := by
 have hl := h.l4
 have h2 := h.l2
 refine does shal h11 oM rfl rfl (ub_cons (us_if (k := false) (M1 := M) (ut_or (k := false) (kb := false) (ut_not (k := true) (ut_val (x := .bl true) (M1 := M) (hv.isi rfl) rfl)) (fun _ => ut_or (k := false) (kb := false) (ut_not (k := true) (ut_val (x := .bl true) (M1 := M) ?chn rfl)) (fun _ => ut_not (k := true) (ut_val (x := .bl true) (M1 := M) (r_blt (ds := [.lst (W.map fun _ => .bl true)]) (M1 := M) (r_acons (r_new (lcp_map1 (i := 2) (vs := [2]) (l := W) (fd := wanD) (g := fun _ => .bl true) (hv.it rfl) (fun x hx => ut_val (x := .bl true) (M1 := M) r_lit rfl) (fun w hw => r_cal (ds := [wanD w]) (M1 := M) (r_acons (r_var rfl) r_anil) (is_wanting_ok oM (h.np w hw) (h.ng w hw) (h.nw w hw) (h.wn w hw) (h.wl w hw))))) r_anil) ((all_map (M := M) (fun _ => true) _).trans (by simp))) rfl)))) nF (fun _ => ub_nil))
  (ub_cons (us_try (ub_cons (us_drop (d := .non) (M1 := M) (r_cal (ds := [v]) (M1 := M) (r_acons (r_var rfl) r_anil) (need_names_ok oM h hv))) ub_nil))
  (ub_cons (us_nm (d := .lst ((gds W).map D.str)) (M1 := M) (r_new ?b)) (ub_rt (us_ret (d := .bl true) (M1 := M) (r_blt (ds := [.lst (W.map fun _ => .bl true)]) (M1 := M) (r_acons (r_new (lcp_map1 (i := 2) (vs := [2]) (l := W) (fd := wanD) (g := fun _ => .bl true) (hv.it rfl) (fun x hx => ut_val (x := .bl true) (M1 := M) r_lit rfl) (fun w hw => ?_))) r_anil) ((all_map (M := M) (fun _ => true) _).trans (by simp)))))))) (fin_id0 rfl)
 case chn =>
  have := r_chn (σ := [some v, none, none, none]) (M := M) (M1 := M) (M2 := M) (a := kLit (.int 2)) (b := kBlt .len (aCons (kVar 0) aNil)) (c := kLit (.int 4)) (o1 := .LtE) (o2 := .LtE) (x := .int 2) (y := .int (W.length : Nat)) (z := .int 4) (k := true) (kb := true) r_lit (hv.len rfl) (by rw [le_int, decide_eq_true oM]) (fun _ => r_lit) (fun _ => by rw [le_int, decide_eq_true oM])
  exact this
 case b =>
  have := lcp_map1 (σ := [some v, none, none, none]) (M := M) (i := 2) (vs := [2]) (l := W) (fd := wanD) (g := fun w => .str w.2.1) (it := iIt (kVar 0)) (c := tVal (kLit (.bl true))) (e := kIdx (kVar 2) (kLit (.int 1))) (hv.it rfl) (fun x hx => ut_val (x := .bl true) (M1 := M) r_lit rfl) (fun w hw => r_idx (x := wanD w) (y := .int 1) (M1 := M) (M2 := M) (r_var rfl) r_lit rfl)
  unfold gds
  rw [List.map_map]
  exact this
 ·refine r_blt (ds := [.lst (w.2.2.map fun _ => .bl true)]) (M1 := M) (r_acons (r_new (lcp_map1 (i := 3) (vs := [3]) (l := w.2.2) (fd := D.str) (g := fun _ => .bl true) (ui_it (x := tupS w.2.2) (M1 := M) (r_idx (x := wanD w) (y := .int 2) (M1 := M) (M2 := M) (r_var rfl) r_lit rfl) rfl) (fun x hx => ut_val (x := .bl true) (M1 := M) r_lit rfl) (fun x hx => ?_))) r_anil) ((all_map (M := M) (fun _ => true) _).trans (by simp))
  obtain ⟨a, b⟩ := h.wi w hw x hx
  exact r_and (k := true) (kb := true) (r_cmp (r_var rfl) (r_var rfl) (by rw [in_strsL, decide_eq_true a])) (fun _ => r_cmp (x := .str x) (y := .str w.2.1) (M1 := M) (M2 := M) (r_var rfl) (r_idx (x := wanD w) (y := .int 1) (M1 := M) (M2 := M) (r_var rfl) r_lit rfl) (by rw [cmp_strN, decide_eq_false b]; rfl))
theorem known_ok (hk : 4 ≤ k) {W : List Wt} (h : Wk W) {v : D} (hv : Arg W v) : run tab n k false 12 [v] M = .ok (wansT W) M := by
 have hto : kTupO false (kVar 0) [some v] M = .ok (wansT W) M := by
  rcases hv with rfl | rfl
  ·exact r_tupO (x := wansT W) (M1 := M) (r_var rfl) rfl
  ·exact r_tupO (x := wansL W) (M1 := M) (r_var rfl) rfl
 exact does shal h12 oM rfl rfl (ub_cons (us_if (k := false) (M1 := M) (ut_not (k := true) (ut_val (x := .bl true) (M1 := M) (r_cal (ds := [v]) (M1 := M) (r_acons (r_var rfl) r_anil) (are_wantings_ok oM h hv)) rfl)) nF (fun _ => ub_nil)) (ub_rt (us_ret hto))) (fin_id0 (bel_wansT _ W))
end
end Mn.K62
end
section
namespace Mn.K62
open PySem Mn Mn.Sh
def Lst (N : Mem) (y : D) (xs : List D) : Prop := y = .lst xs ∨ ∃ a, y = .ref a ∧ N[a]? = some (.lst xs)
theorem Lst.app {N : Mem} {y : D} {xs : List D} (h : Lst N y xs) (Y : Mem) : Lst (N ++ Y) y xs := by
 rcases h with h | ⟨a, h1, h2⟩
 ·exact .inl h
 ·exact .inr ⟨a, h1, by rw [List.getElem?_append_left (List.getElem?_eq_some_iff.mp h2).1]; exact h2⟩
theorem Lst.dr_ {N : Mem} {y : D} {xs : List D} (h : Lst N y xs) : dr N y = .lst xs := by
 rcases h with rfl | ⟨a, rfl, h2⟩
 ·rfl
 ·obtain ⟨ha, h3⟩ := List.getElem?_eq_some_iff.mp h2
  have := dr_app (M := N.take a) (X := N.drop a) (j := 0) (d := .lst xs) (by rw [List.getElem?_drop]; exact h2) (by intro ps; exact D.noConfusion)
  rw [List.take_append_drop, List.length_take, Nat.min_eq_left oM] at this
  exact this
theorem for_lst {α : Type} {l : List α} {fd : α → D} {t : KG} {e : KE} {b : KS} {σ : Sl} {M : Mem} {y : D} (he : e σ M = .ok y M) (hy : Lst M y (l.map fd)) (I : Nat → Sl → Mem → Prop) (h0 : I 0 σ M) (hk : ∀ j σ1 M1, I j σ1 M1 → Lst M1 y (l.map fd))
  (h : ∀ j p σ1 M1, l[j]? = some p → I j σ1 M1 → ∃ σ2 σ3 M3, t (fd p) σ1 M1 = .ok σ2 M1 ∧ (b σ2 M1 = .nx σ3 M3 ∨ b σ2 M1 = .ct σ3 M3) ∧ I (j + 1) σ3 M3) : ∃ σ2 M2, sFor t (iIt e) b σ M = .nx σ2 M2 ∧ I l.length σ2 M2 := by
 rcases hy with rfl | ⟨a, rfl, h2⟩
 ·exact us_for I (ui_it he rfl) h0 h
 ·obtain ⟨σ2, M2, g1, g2⟩ := us_forW (w := ⟨l.map fd, [(a, .lst (l.map fd))], none⟩) I (ui_it he (walkL h2)) rfl h0 (fun j σ1 M1 hi => by
   rcases hk j σ1 M1 hi with h | ⟨a', h, h3⟩
   ·cases h
   ·cases h; exact Mn.Sh.okL h3) h
  exact ⟨σ2, M2, g1, g2⟩
def t3D (t : T3) : D := .tup [.str t.1, .str t.2.1, .str t.2.2]
def ordD (r : List T3) : D := .tup (r.map t3D)
theorem bel_t3 (n : Nat) (t : T3) : bel n (t3D t) = true := rfl
theorem bel_ord (n : Nat) (r : List T3) : bel n (ordD r) = true := bels_map n t3D (fun t => bel_t3 n t) r
theorem bel_ords (n : Nat) (l : List (List T3)) : bel n (.lst (l.map ordD)) = true := bels_map n ordD (fun r => bel_ord n r) l
theorem shp_t3 (n : Nat) (t : T3) : shp (n + 2) (t3D t) = true := rfl
theorem shp_ord (n : Nat) (r : List T3) : shp (n + 3) (ordD r) = true := by
 show shps (n + 2) (r.map t3D) = true
 exact shps_map (fun t => shp_t3 n t) r
theorem thirds_len (r : List T3) : (thirds r).length = r.length := by unfold thirds; rw [List.length_map]
theorem len_stepK (B : List Str) (w : Wt) (hw : w.2.2.length ≤ 4) : ∀ A : List (List T3), (stepK B A w).length ≤ 4 * A.length
 | [] => Nat.le_refl _
 | r :: A => by
  have ih := len_stepK B w hw A
  unfold stepK at ih ⊢
  rw [List.flatMap_cons, List.length_append, List.length_map, List.length_cons]
  have := List.length_filter_le (fun x => decide (x ∈ B) && !decide (x ∈ thirds r)) w.2.2
  omega
abbrev slK (W : List Wt) (P : D) (B : List Str) (y3 y4 y5 y6 y7 y8 y9 y10 y11 : Option D) : Sl := [some (wansT W), some P, some (.lst (B.map D.str)), y3, y4, y5, y6, y7, y8, y9, y10, y11, none]
abbrev kb1 : KS := bCons (sIf (tAnd (Sh.tCmp .In (kVar 11) (kVar 2)) (Sh.tCmp .NotIn (kVar 11) (kVar 10))) (bCons (sDrop (kApp (kVar 8) (kBin .Add (kVar 9) (kTup (aCons (kTup (aCons (kVar 5) (aCons (kVar 6) (aCons (kVar 11) aNil)))) aNil))))) bNil) bNil) bNil
abbrev kb2 : KS := bCons (sAsg (gNm 10) (kNew false (nLcp [12] (gNm 12) (iIt (kVar 9)) (tVal (kLit (.bl true))) (kIdx (kVar 12) (kLit (.int 2)))))) (bCons (sFor (gNm 11) (iIt (kVar 7)) kb1) bNil)
abbrev kb3 : KS := bCons (sAsg (gTp 3 (gCons (gNm 5) (gCons (gNm 6) (gCons (gNm 7) gNil)))) (kIdx (kVar 0) (kVar 4))) (bCons (sAsg (gNm 8) (kNew true (nLst aNil))) (bCons (sFor (gNm 9) (iIt (kVar 3)) kb2) (bCons (sAsg (gNm 3) (kVar 8)) bNil)))
section
variable {n k : Nat} {M : Mem}
theorem notin_strsL {M : Mem} (x : Str) (xs : List Str) : cmpK M .NotIn (.str x) (.lst (xs.map D.str)) = some (.bl (!decide (x ∈ xs))) := by
 show (if (shp 8 (.str x) && shp 9 (.lst (xs.map D.str))) = true then some (any2 (.str x) (xs.map D.str)) else none).map (fun k => D.bl (!k)) = _
 rw [any2_str, if_pos (by simp [shp, shps_str])]
 rfl
theorem row_turn (W : List Wt) (P : D) (B : List Str) (N0 : Mem) (w : Wt) (hw : w.2.2.length ≤ 4) (r : List T3) (acc : List (List T3)) (ha : acc.length < 1000000) (hr : r.length < 1000000) (y3 y4 y10 y11 : Option D) :
  ∃ z10 z11, kb2 (slK W P B y3 y4 (some (.str w.1)) (some (.str w.2.1)) (some (tupS w.2.2)) (some (.ref (N0.length + 0))) (some (ordD r)) y10 y11) (N0 ++ [D.lst (acc.map ordD)]) =
   .nx (slK W P B y3 y4 (some (.str w.1)) (some (.str w.2.1)) (some (tupS w.2.2)) (some (.ref (N0.length + 0))) (some (ordD r)) z10 z11) (N0 ++ [D.lst ((acc ++ (w.2.2.filter fun x => decide (x ∈ B) && !decide (x ∈ thirds r)).map (ext w r)).map ordD)]) := by
 have b1 : sAsg (gNm 10) (kNew false (nLcp [12] (gNm 12) (iIt (kVar 9)) (tVal (kLit (.bl true))) (kIdx (kVar 12) (kLit (.int 2))))) (slK W P B y3 y4 (some (.str w.1)) (some (.str w.2.1)) (some (tupS w.2.2)) (some (.ref (N0.length + 0))) (some (ordD r)) y10 y11) (N0 ++ [D.lst (acc.map ordD)]) = .nx (slK W P B y3 y4 (some (.str w.1)) (some (.str w.2.1)) (some (tupS w.2.2)) (some (.ref (N0.length + 0))) (some (ordD r)) (some (.lst ((thirds r).map D.str))) y11) (N0 ++ [D.lst (acc.map ordD)]) := by
  refine us_nm (d := .lst ((thirds r).map D.str)) (M1 := N0 ++ [D.lst (acc.map ordD)]) (r_new ?_)
  have := lcp_map1 (σ := slK W P B y3 y4 (some (.str w.1)) (some (.str w.2.1)) (some (tupS w.2.2)) (some (.ref (N0.length + 0))) (some (ordD r)) y10 y11) (M := N0 ++ [D.lst (acc.map ordD)]) (i := 12) (vs := [12]) (l := r) (fd := t3D) (g := fun t => .str t.2.2) (it := iIt (kVar 9)) (c := tVal (kLit (.bl true))) (e := kIdx (kVar 12) (kLit (.int 2))) (ui_it (x := ordD r) (r_var rfl) rfl) (fun x hx => ut_val (x := .bl true) r_lit rfl) (fun t ht => r_idx (x := t3D t) (y := .int 2) (M1 := N0 ++ [D.lst (acc.map ordD)]) (M2 := N0 ++ [D.lst (acc.map ordD)]) (r_var rfl) r_lit rfl)
  unfold thirds
  rw [List.map_map]
  exact this
 obtain ⟨σ2, M2, h2, ⟨z11, rfl⟩, rfl⟩ := us_for (l := w.2.2) (fd := D.str) (t := gNm 11) (it := iIt (kVar 7)) (σ := slK W P B y3 y4 (some (.str w.1)) (some (.str w.2.1)) (some (tupS w.2.2)) (some (.ref (N0.length + 0))) (some (ordD r)) (some (.lst ((thirds r).map D.str))) y11) (M := N0 ++ [D.lst (acc.map ordD)]) (b := kb1)
  (fun j σ M' => (∃ z11, σ = slK W P B y3 y4 (some (.str w.1)) (some (.str w.2.1)) (some (tupS w.2.2)) (some (.ref (N0.length + 0))) (some (ordD r)) (some (.lst ((thirds r).map D.str))) z11) ∧ M' = N0 ++ [D.lst ((acc ++ ((w.2.2.take j).filter fun x => decide (x ∈ B) && !decide (x ∈ thirds r)).map (ext w r)).map ordD)])
  (ui_it (x := tupS w.2.2) (r_var rfl) rfl) ⟨⟨_, rfl⟩, by simp⟩ (by
   rintro j x σ1 M1 hx ⟨⟨z11, rfl⟩, rfl⟩
   have hj := (List.getElem?_eq_some_iff.mp hx).1
   have e1 : ((w.2.2.take (j + 1)).filter fun x => decide (x ∈ B) && !decide (x ∈ thirds r)) = ((w.2.2.take j).filter fun x => decide (x ∈ B) && !decide (x ∈ thirds r)) ++ (if (decide (x ∈ B) && !decide (x ∈ thirds r)) = true then [x] else []) := by
    rw [List.take_add_one, hx, List.filter_append]
    congr 1
    show List.filter _ [x] = _
    rw [List.filter_cons, List.filter_nil]
   rw [e1]
   have hlen : (acc ++ ((w.2.2.take j).filter fun x => decide (x ∈ B) && !decide (x ∈ thirds r)).map (ext w r)).length < 2000000 := by
    have := List.length_filter_le (fun x => decide (x ∈ B) && !decide (x ∈ thirds r)) (w.2.2.take j)
    rw [List.length_take] at this
    rw [List.length_append, List.length_map]
    omega
   generalize ((w.2.2.take j).filter fun x => decide (x ∈ B) && !decide (x ∈ thirds r)) = Z at hlen
   have ht : tAnd (Sh.tCmp .In (kVar 11) (kVar 2)) (Sh.tCmp .NotIn (kVar 11) (kVar 10)) (slK W P B y3 y4 (some (.str w.1)) (some (.str w.2.1)) (some (tupS w.2.2)) (some (.ref (N0.length + 0))) (some (ordD r)) (some (.lst ((thirds r).map D.str))) (some (.str x))) (N0 ++ [D.lst ((acc ++ Z.map (ext w r)).map ordD)]) = .ok (decide (x ∈ B) && !decide (x ∈ thirds r)) (N0 ++ [D.lst ((acc ++ Z.map (ext w r)).map ordD)]) :=
    ut_and (ut_cmp (r_var rfl) (r_var rfl) (in_strsL _ _)) (fun _ => ut_cmp (r_var rfl) (r_var rfl) (notin_strsL _ _))
   cases hc : (decide (x ∈ B) && !decide (x ∈ thirds r)) with
   | false =>
    rw [hc] at ht
    exact ⟨slK W P B y3 y4 (some (.str w.1)) (some (.str w.2.1)) (some (tupS w.2.2)) (some (.ref (N0.length + 0))) (some (ordD r)) (some (.lst ((thirds r).map D.str))) (some (.str x)), _, _, ug_nm, .inl (ub_cons (us_if ht nF (fun _ => ub_nil)) ub_nil), ⟨_, rfl⟩, by simp⟩
   | true =>
    rw [hc] at ht
    have h3 := r_app (M := N0) (X := [D.lst ((acc ++ Z.map (ext w r)).map ordD)]) (j := 0) (σ := slK W P B y3 y4 (some (.str w.1)) (some (.str w.2.1)) (some (tupS w.2.2)) (some (.ref (N0.length + 0))) (some (ordD r)) (some (.lst ((thirds r).map D.str))) (some (.str x))) (a := kVar 8) (e := kBin .Add (kVar 9) (kTup (aCons (kTup (aCons (kVar 5) (aCons (kVar 6) (aCons (kVar 11) aNil)))) aNil))) (d := ordD (ext w r x)) (r_var rfl) rfl (by
     refine r_bin (x := ordD r) (y := .tup [t3D (w.1, w.2.1, x)]) (M1 := N0 ++ [D.lst ((acc ++ Z.map (ext w r)).map ordD)]) (M2 := N0 ++ [D.lst ((acc ++ Z.map (ext w r)).map ordD)]) (r_var rfl) (r_tup (r_acons (r_tup (r_acons (r_var rfl) (r_acons (r_var rfl) (r_acons (r_var rfl) r_anil)))) r_anil)) ?_
     have := add_tup (xs := r.map t3D) (ys := [t3D (w.1, w.2.1, x)]) (by rw [List.length_map]; show _ + 1 ≤ _; omega)
     show binR .Add (.tup (r.map t3D)) (.tup [t3D (w.1, w.2.1, x)]) (.tup (r.map t3D)) (.tup [t3D (w.1, w.2.1, x)]) = _
     rw [this]
     unfold ordD ext
     rw [List.map_append]
     rfl) (by rw [List.length_map]; show _ < 16000000; omega)
    refine ⟨slK W P B y3 y4 (some (.str w.1)) (some (.str w.2.1)) (some (tupS w.2.2)) (some (.ref (N0.length + 0))) (some (ordD r)) (some (.lst ((thirds r).map D.str))) (some (.str x)), _, _, ug_nm, .inl (ub_cons (us_if ht (fun _ => ub_cons (us_drop h3) ub_nil) nF) ub_nil), ⟨_, rfl⟩, ?_⟩
    simp)
 rw [List.take_length] at h2
 exact ⟨_, _, ub_cons b1 (ub_cons h2 ub_nil)⟩
end
end Mn.K62
end
section
namespace Mn.K62
open PySem Mn Mn.Sh
def atW (W : List Wt) (i : Nat) : Wt := W.getD i (⟨#[]⟩, ⟨#[]⟩, [])
theorem atW_get {W : List Wt} {i : Nat} (h : i < W.length) : W[i]? = some (atW W i) := by
 unfold atW
 rw [List.getD_eq_getElem?_getD, List.getElem?_eq_getElem h]; rfl
theorem chosen_snoc (B : List Str) (L : List Wt) (w : Wt) : chosen B (L ++ [w]) = stepK B (chosen B L) w := by
 unfold chosen
 rw [List.foldl_append]; rfl
theorem chosen_row {B : List Str} {L : List Wt} {r : List T3} (h : r ∈ chosen B L) : r.length = L.length := by
 rw [chosen_eq] at h
 exact (mem_combs.mp (List.mem_filter.mp h).1).len
theorem chosen_len (B : List Str) : ∀ (m : Nat) (L : List Wt), L.length = m → (∀ w ∈ L, w.2.2.length ≤ 4) → (chosen B L).length ≤ 4 ^ m := by
 intro m
 induction m with
 | zero =>
  intro L h _
  rw [List.length_eq_zero_iff.mp h]
  exact Nat.le_refl _
 | succ m ih =>
  intro L h hw
  have hne : L ≠ [] := fun e => by rw [e] at h; cases h
  have hd : L = L.dropLast ++ [L.getLast hne] := (List.dropLast_concat_getLast hne).symm
  have h1 : L.dropLast.length = m := by rw [List.length_dropLast]; omega
  rw [hd, chosen_snoc]
  have h2 := len_stepK B (L.getLast hne) (hw _ (List.getLast_mem hne)) (chosen B L.dropLast)
  have h3 := ih L.dropLast h1 fun w h => hw w ((List.dropLast_sublist L).mem h)
  have : 4 ^ (m + 1) = 4 ^ m * 4 := Nat.pow_succ ..
  omega
theorem stepK_take {B : List Str} {w : Wt} {A : List (List T3)} {j : Nat} {r : List T3} (h : A[j]? = some r) : stepK B (A.take (j + 1)) w = stepK B (A.take j) w ++ (w.2.2.filter fun x => decide (x ∈ B) && !decide (x ∈ thirds r)).map (ext w r) := by
 unfold stepK
 rw [List.take_add_one, h, List.flatMap_append]
 congr 1
 show List.flatMap _ [r] = _
 rw [List.flatMap_cons, List.flatMap_nil, List.append_nil]
section
variable {n k : Nat} {M : Mem}
theorem chosen_ok (hk : 1 ≤ k) {W : List Wt} (hw : ∀ w ∈ W, w.2.2.length ≤ 4) {is : List Nat} (hi : ∀ i ∈ is, i < W.length) (h4 : is.length ≤ 4) : run tab n k false 13 [wansT W, .tup (is.map nD)] M = .ok (.lst ((chosen (gds (is.map (atW W))) (is.map (atW W))).map ordD)) M := by
 obtain ⟨L, hL⟩ : ∃ L, L = is.map (atW W) := ⟨_, rfl⟩
 have hLw : ∀ w ∈ L, w.2.2.length ≤ 4 := by
  rw [hL]
  intro w h
  obtain ⟨i, hii, rfl⟩ := List.mem_map.mp h
  exact hw _ (List.mem_of_getElem? (atW_get (hi i hii)))
 obtain ⟨B, hB⟩ : ∃ B, B = gds L := ⟨_, rfl⟩
 rw [← hL, ← hB]
 have b1 : sAsg (gNm 2) (kNew false (nLcp [4] (gNm 4) (iIt (kVar 1)) (tVal (kLit (.bl true))) (kIdx (kIdx (kVar 0) (kVar 4)) (kLit (.int 1))))) [some (wansT W), some (.tup (is.map nD)), none, none, none, none, none, none, none, none, none, none, none] M = .nx (slK W (.tup (is.map nD)) B none none none none none none none none none) M := by
  refine us_nm (d := .lst (B.map D.str)) (M1 := M) (r_new ?_)
  have := lcp_map1 (σ := [some (wansT W), some (.tup (is.map nD)), none, none, none, none, none, none, none, none, none, none, none]) (M := M) (i := 4) (vs := [4]) (l := is) (fd := nD) (g := fun i => .str (atW W i).2.1) (it := iIt (kVar 1)) (c := tVal (kLit (.bl true))) (e := kIdx (kIdx (kVar 0) (kVar 4)) (kLit (.int 1))) (ui_it (x := .tup (is.map nD)) (M1 := M) (r_var rfl) rfl) (fun x hx => ut_val (x := .bl true) (M1 := M) r_lit rfl) (fun i hii => r_idx (x := wanD (atW W i)) (y := .int 1) (M1 := M) (M2 := M) (r_idx (x := wansT W) (y := nD i) (M1 := M) (M2 := M) (r_var rfl) (r_var rfl) (idx_tupN (atW_get (hi i hii)))) r_lit rfl)
  rw [hB, hL]
  unfold gds
  rw [List.map_map, List.map_map]
  exact this
 have b2 : sAsg (gNm 3) (kNew false (nLst (aCons (kTup aNil) aNil))) (slK W (.tup (is.map nD)) B none none none none none none none none none) M = .nx (slK W (.tup (is.map nD)) B (some (.lst [.tup []])) none none none none none none none none) M :=
  us_nm (d := .lst [.tup []]) (M1 := M) (r_new (un_lst (r_acons (r_tup r_anil) r_anil)))
 obtain ⟨Q, hQ⟩ : ∃ Q : Mem → D → List (List T3) → Prop, Q = fun X y A => (y = .lst [.tup []] ∧ A = [[]]) ∨ ∃ jj, y = .ref (M.length + jj) ∧ X[jj]? = some (.lst (A.map ordD)) := ⟨_, rfl⟩
 have Qlst : ∀ X y A, Q X y A → Lst (M ++ X) y (A.map ordD) := by
  rw [hQ]
  rintro X y A (⟨rfl, rfl⟩ | ⟨jj, rfl, h⟩)
  ·exact .inl rfl
  ·exact .inr ⟨_, rfl, by rw [List.getElem?_append_right oM, Nat.add_sub_cancel_left]; exact h⟩
 obtain ⟨σ2, M2, h3, X, y3, y4, y5, y6, y7, y8, y9, y10, y11, rfl, rfl, hq⟩ := us_for (l := is) (fd := nD) (t := gNm 4) (it := iIt (kVar 1)) (σ := slK W (.tup (is.map nD)) B (some (.lst [.tup []])) none none none none none none none none) (M := M) (b := kb3)
  (fun j σ M' => ∃ (X : Mem) (y3 : D) (y4 y5 y6 y7 y8 y9 y10 y11 : Option D), σ = slK W (.tup (is.map nD)) B (some y3) y4 y5 y6 y7 y8 y9 y10 y11 ∧ M' = M ++ X ∧ Q X y3 (chosen B (L.take j)))
  (ui_it (x := .tup (is.map nD)) (M1 := M) (r_var rfl) rfl) ⟨[], .lst [.tup []], none, none, none, none, none, none, none, none, rfl, by simp, by rw [hQ]; exact .inl ⟨rfl, rfl⟩⟩ (by
   rintro j i σ1 M1 hij ⟨X, y3, y4, y5, y6, y7, y8, y9, y10, y11, rfl, rfl, hq⟩
   have hlt := hi i (List.mem_of_getElem? hij)
   have hj := (List.getElem?_eq_some_iff.mp hij).1
   obtain ⟨w, hwE⟩ : ∃ w, w = atW W i := ⟨_, rfl⟩
   have hLj : L[j]? = some w := by rw [hL, List.getElem?_map, hij, hwE]; rfl
   have hww : w.2.2.length ≤ 4 := hLw w (List.mem_of_getElem? hLj)
   have hsn : chosen B (L.take (j + 1)) = stepK B (chosen B (L.take j)) w := by
    rw [List.take_add_one, hLj]
    exact chosen_snoc _ _ _
   have htl : (L.take j).length = j := by
    have : j < L.length := (List.getElem?_eq_some_iff.mp hLj).1
    rw [List.length_take]; omega
   have hcl : (chosen B (L.take j)).length ≤ 256 := by
    have h1 := chosen_len B j (L.take j) htl fun w h => hLw w (List.mem_of_mem_take h)
    have h2 : 4 ^ j ≤ 4 ^ 4 := Nat.pow_le_pow_right oM oM
    omega
   have hrl : ∀ r ∈ chosen B (L.take j), r.length < 1000000 := fun r hr => by
    have := chosen_row hr
    rw [htl] at this
    omega
   rw [hsn]
   generalize chosen B (L.take j) = A at hq hcl hrl
   have hLst := Qlst X y3 A hq
   obtain ⟨N0, hN⟩ : ∃ N0, N0 = M ++ X := ⟨_, rfl⟩
   rw [← hN] at hLst ⊢
   have a1 : sAsg (gTp 3 (gCons (gNm 5) (gCons (gNm 6) (gCons (gNm 7) gNil)))) (kIdx (kVar 0) (kVar 4)) (slK W (.tup (is.map nD)) B (some y3) (some (nD i)) y5 y6 y7 y8 y9 y10 y11) N0 = .nx (slK W (.tup (is.map nD)) B (some y3) (some (nD i)) (some (.str w.1)) (some (.str w.2.1)) (some (tupS w.2.2)) y8 y9 y10 y11) N0 := by
    refine us_tg (d := wanD w) (M1 := N0) (r_idx (x := wansT W) (y := nD i) (M1 := N0) (M2 := N0) (r_var rfl) (r_var rfl) ?_) (tp3 rfl)
    rw [hwE]
    exact idx_tupN (atW_get hlt)
   have a2 : sAsg (gNm 8) (kNew true (nLst aNil)) (slK W (.tup (is.map nD)) B (some y3) (some (nD i)) (some (.str w.1)) (some (.str w.2.1)) (some (tupS w.2.2)) y8 y9 y10 y11) N0 = .nx (slK W (.tup (is.map nD)) B (some y3) (some (nD i)) (some (.str w.1)) (some (.str w.2.1)) (some (tupS w.2.2)) (some (.ref (N0.length + 0))) y9 y10 y11) (N0 ++ [D.lst []]) :=
    us_nm (r_newX0 (un_lst r_anil))
   obtain ⟨σ3, M3, a3, ⟨z9, z10, z11, rfl⟩, rfl⟩ := for_lst (l := A) (fd := ordD) (t := gNm 9) (e := kVar 3) (b := kb2) (σ := slK W (.tup (is.map nD)) B (some y3) (some (nD i)) (some (.str w.1)) (some (.str w.2.1)) (some (tupS w.2.2)) (some (.ref (N0.length + 0))) y9 y10 y11) (M := N0 ++ [D.lst []]) (y := y3) (r_var rfl) (hLst.app _)
    (fun jj σ M' => (∃ z9 z10 z11, σ = slK W (.tup (is.map nD)) B (some y3) (some (nD i)) (some (.str w.1)) (some (.str w.2.1)) (some (tupS w.2.2)) (some (.ref (N0.length + 0))) z9 z10 z11) ∧ M' = N0 ++ [D.lst ((stepK B (A.take jj) w).map ordD)])
    ⟨⟨_, _, _, rfl⟩, rfl⟩ (fun jj σ1 M1 h => by rw [h.2]; exact hLst.app _) (by
     rintro jj r σ1 M1 hr ⟨⟨z9, z10, z11, rfl⟩, rfl⟩
     rw [stepK_take hr]
     have hal : (stepK B (A.take jj) w).length < 1000000 := by
      have h1 := len_stepK B w hww (A.take jj)
      rw [List.length_take] at h1
      omega
     obtain ⟨u10, u11, hb⟩ := row_turn W (.tup (is.map nD)) B N0 w hww r (stepK B (A.take jj) w) hal (hrl r (List.mem_of_getElem? hr)) (some y3) (some (nD i)) z10 z11
     exact ⟨slK W (.tup (is.map nD)) B (some y3) (some (nD i)) (some (.str w.1)) (some (.str w.2.1)) (some (tupS w.2.2)) (some (.ref (N0.length + 0))) (some (ordD r)) z10 z11, _, _, ug_nm, .inl hb, ⟨_, _, _, rfl⟩, rfl⟩)
   rw [List.take_length] at a3
   refine ⟨slK W (.tup (is.map nD)) B (some y3) (some (nD i)) y5 y6 y7 y8 y9 y10 y11, slK W (.tup (is.map nD)) B (some (.ref (N0.length + 0))) (some (nD i)) (some (.str w.1)) (some (.str w.2.1)) (some (tupS w.2.2)) (some (.ref (N0.length + 0))) z9 z10 z11, N0 ++ [D.lst ((stepK B A w).map ordD)], ug_nm, .inl (ub_cons a1 (ub_cons a2 (ub_cons a3 (ub_cons (us_nm (d := .ref (N0.length + 0)) (M1 := N0 ++ [D.lst ((stepK B A w).map ordD)]) (r_var rfl)) ub_nil)))), X ++ [D.lst ((stepK B A w).map ordD)], .ref (N0.length + 0), _, _, _, _, _, _, _, _, rfl, by rw [hN, List.append_assoc], ?_⟩
   rw [hQ]
   exact .inr ⟨X.length, by rw [hN, List.length_append, Nat.add_zero], by simp⟩)
 have hfull : L.take is.length = L := List.take_of_length_le (by rw [hL, List.length_map]; exact Nat.le_refl _)
 rw [hfull, hQ] at hq
 rcases hq with ⟨rfl, e⟩ | ⟨jj, rfl, hx⟩
 ·rw [e]
  exact does shal h13 oM rfl rfl (ub_cons b1 (ub_cons b2 (ub_cons h3 (ub_rt (us_ret (d := .lst [.tup []]) (M1 := M ++ X) (r_var rfl)))))) (fin_id rfl)
 ·exact does shal h13 oM rfl rfl (ub_cons b1 (ub_cons b2 (ub_cons h3 (ub_rt (us_ret (d := .ref (M.length + jj)) (M1 := M ++ X) (r_var rfl)))))) (fin_new hx (by intro ps; exact D.noConfusion) (bel_ords _ _))
end
end Mn.K62
end
section
namespace Mn.K62
open PySem Mn Mn.Sh
theorem sortD_two {α : Type} (f : α → D) {l : List α} (hl : ∀ a ∈ l, ∀ b ∈ l, likeD (f a) (f b) = true) (ht : (hdE (l.map f) && (l.map f).all isTp) = true) : sortD (l.map f) = some ((sortBy f l).map f) := by
 unfold sortD
 rw [allAl_gen f l hl, ht, ← map_merge f l]
 split <;> rfl
theorem r_extV {σ : Sl} {M : Mem} {acc ys : List D} {a e : KE} (ha : a σ (M ++ [.lst acc]) = .ok (.ref (M.length + 0)) (M ++ [.lst acc])) (he : e σ (M ++ [.lst acc]) = .ok (.lst ys) (M ++ [.lst acc])) (hl : acc.length + ys.length ≤ 16000000) : kExt a e σ (M ++ [.lst acc]) = .ok .non (M ++ [.lst (acc ++ ys)]) :=
 r_ext (M := M) (X := [.lst acc]) (j := 0) (ys := acc) (y := .lst ys) (w := ⟨ys, [], none⟩) (M3 := M ++ [.lst (acc ++ ys)]) ha rfl (dr_app (X := [.lst acc]) (j := 0) rfl (by intro ps; exact D.noConfusion)) he rfl (store_app (j := 0) (X := [.lst acc]) (d := .lst acc) (h := extL ys) (d' := .lst (acc ++ ys)) rfl (by show (if acc.length + ys.length ≤ big then some (D.lst (acc ++ ys)) else none) = _; exact if_pos hl))
def idsD (l : List Nat) : D := .tup (l.map nD)
theorem alike_nats : ∀ x y : List Nat, PySem.W.alikeAll (toPs (x.map nD)) (toPs (y.map nD)) = true
 | [], y => by cases y <;> simp [toPs, PySem.W.alikeAll]
 | _ :: _, [] => by simp [toPs, PySem.W.alikeAll]
 | x :: xs, y :: ys => by simp [toPs, toP, nD, PySem.W.alikeAll, PySem.W.alike, alike_nats xs ys]
theorem like_ids (x y : List Nat) : likeD (idsD x) (idsD y) = true := by
 have h := alike_nats x y
 simp only [likeD, idsD, toP, PySem.W.alike, h, shp, shps_nD, notN, Bool.and_self]
theorem alike_t3 : ∀ x y : List T3, PySem.W.alikeAll (toPs (x.map t3D)) (toPs (y.map t3D)) = true
 | [], y => by cases y <;> simp [toPs, PySem.W.alikeAll]
 | _ :: _, [] => by simp [toPs, PySem.W.alikeAll]
 | x :: xs, y :: ys => by simp [toPs, toP, t3D, PySem.W.alikeAll, PySem.W.alike, alike_t3 xs ys]
theorem shps_t3 (n : Nat) (l : List T3) : shps (n + 2) (l.map t3D) = true := shps_map (fun t => shp_t3 n t) l
theorem like_ord (x y : List T3) : likeD (ordD x) (ordD y) = true := by
 have h := alike_t3 x y
 simp only [likeD, ordD, toP, PySem.W.alike, h, shp, shps_t3, notN, Bool.and_self]
theorem toks_inj : ∀ x y : List T3, PySem.W.keyToksAll (toPs (x.map t3D)) = PySem.W.keyToksAll (toPs (y.map t3D)) → x = y
 | [], [], _ => rfl
 | [], y :: ys, h => by simp [toPs, toP, t3D, PySem.W.keyToksAll, PySem.W.keyToks] at h
 | x :: xs, [], h => by simp [toPs, toP, t3D, PySem.W.keyToksAll, PySem.W.keyToks] at h
 | ⟨⟨⟨a⟩⟩, ⟨⟨b⟩⟩, ⟨⟨c⟩⟩⟩ :: xs, ⟨⟨⟨a'⟩⟩, ⟨⟨b'⟩⟩, ⟨⟨c'⟩⟩⟩ :: ys, h => by
  simp only [List.map_cons, toPs, PySem.W.keyToksAll, t3D, toP, PySem.W.keyToks, List.cons_append, List.nil_append, List.cons.injEq, Sum.inr.injEq, true_and] at h
  obtain ⟨h1, h2, h3, h4⟩ := h
  have := toks_inj xs ys h4
  rw [this]
  congr 1
  rw [h1, h2, h3]
theorem kT_ord (a b : List T3) (h : kT (ordD a) = kT (ordD b)) : a = b := by
 refine toks_inj a b ?_
 unfold kT ordD at h
 simpa only [toP, PySem.W.keyToks] using h
theorem sortD_ord {l : List (List T3)} (h : ∀ r ∈ l, r ≠ []) : sortD (l.map ordD) = some ((sortBy ordD l).map ordD) :=
 sortD_gen ordD (fun a _ b _ => like_ord a b) (.inl fun r hr => by
  cases r with
  | nil => exact absurd rfl (h _ hr)
  | cons t r => rfl)
theorem sort_ord {a b : List (List T3)} (p : a.Perm b) : sortBy ordD a = sortBy ordD b := sortBy_eq ordD p kT_ord
def lotsN (m : Nat) : List (List Nat) := (sortBy idsD (subsW (List.range m))).filter fun l => decide (1 < l.length)
theorem lots_mem {m : Nat} {l : List Nat} (h : l ∈ lotsN m) : l.Sublist (List.range m) ∧ 1 < l.length := by
 obtain ⟨h1, h2⟩ := List.mem_filter.mp h
 exact ⟨mem_subs.mp ((mem_sortBy idsD).mp h1), of_decide_eq_true h2⟩
theorem lots_perm (W : List Wt) : ((lotsN W.length).map (List.map (atW W))).Perm ((subsW W).filter fun L => decide (1 < L.length)) := by
 have hW : (List.range W.length).map (atW W) = W := by
  apply List.ext_getElem
  ·simp
  ·intro i h1 h2
   rw [List.getElem_map, List.getElem_range]
   exact Option.some.inj ((atW_get h2).symm.trans (List.getElem?_eq_getElem h2))
 have h1 : (lotsN W.length).Perm ((subsW (List.range W.length)).filter fun l => decide (1 < l.length)) := (sortBy_perm idsD _).filter _
 refine (h1.map _).trans (List.Perm.of_eq ?_)
 conv => rhs; rw [← hW, subs_map, List.filter_map]
 congr 1
 refine List.filter_congr fun l _ => ?_
 show _ = decide (1 < (l.map (atW W)).length)
 rw [List.length_map]
theorem subs_len {α : Type} : ∀ (l : List α) (A : List (List α)), (l.foldl stepS A).length = 2 ^ l.length * A.length
 | [], A => by simp
 | x :: l, A => by
  rw [List.foldl_cons, subs_len l]
  unfold stepS
  rw [List.length_append, List.length_map, List.length_cons, Nat.pow_succ, ← Nat.two_mul, Nat.mul_assoc]
theorem subs_hd {α : Type} (f : α → D) : ∀ (l : List α) (A : List (List α)), (∃ r, A = [] :: r) → ∃ r, l.foldl stepS A = [] :: r
 | [], _, h => h
 | x :: l, A, ⟨r, e⟩ => by
  rw [List.foldl_cons]
  exact subs_hd f l _ ⟨r ++ ([] :: r).map (fun L => L ++ [x]), by rw [e]; rfl⟩
section
variable {n k : Nat} {M : Mem}
theorem lots_ok (hk : 1 ≤ k) {m : Nat} (hm : m ≤ 4) : run tab n k false 14 [nD m] M = .ok (.lst ((lotsN m).map idsD)) M := by
 obtain ⟨σ2, M2, h1, ⟨y2, rfl⟩, rfl⟩ := us_for (l := List.range m) (fd := nD) (t := gNm 2) (it := iRng1 (kVar 0)) (σ := [some (nD m), some (.lst [.tup []]), none, none]) (M := M) (b := bCons (sAsg (gNm 1) (kBin .Add (kVar 1) (kNew false (nLcp [3] (gNm 3) (iIt (kVar 1)) (tVal (kLit (.bl true))) (kBin .Add (kVar 3) (kTup (aCons (kVar 2) aNil))))))) bNil)
  (fun j σ M' => (∃ y2, σ = [some (nD m), some (.lst ((((List.range m).take j).foldl stepS [[]]).map idsD)), y2, none]) ∧ M' = M) (ui_rng1 (r_var rfl) (rngD_nat oM)) ⟨⟨_, rfl⟩, rfl⟩ (by
   rintro j i σ1 M1 hi ⟨⟨y2, rfl⟩, rfl⟩
   have hj := (List.getElem?_eq_some_iff.mp hi).1
   rw [List.length_range] at hj
   have e1 : ((List.range m).take (j + 1)).foldl stepS [[]] = stepS (((List.range m).take j).foldl stepS [[]]) i := by
    rw [List.take_add_one, hi, List.foldl_append]; rfl
   rw [e1]
   have hlen : (((List.range m).take j).foldl stepS ([[]] : List (List Nat))).length ≤ 16 := by
    rw [subs_len]
    have h2 : ((List.range m).take j).length ≤ 4 := by rw [List.length_take, List.length_range]; omega
    have := Nat.pow_le_pow_right (n := 2) oM h2
    simp only [List.length_cons, List.length_nil]
    omega
   have hel : ∀ l ∈ ((List.range m).take j).foldl stepS ([[]] : List (List Nat)), l.length ≤ 4 := fun l hl => by
    have := (mem_subs.mp (show l ∈ subsW ((List.range m).take j) from hl)).length_le
    rw [List.length_take, List.length_range] at this
    omega
   generalize ((List.range m).take j).foldl stepS ([[]] : List (List Nat)) = A at hlen hel
   refine ⟨[some (nD m), some (.lst (A.map idsD)), some (nD i), none], [some (nD m), some (.lst ((stepS A i).map idsD)), some (nD i), none], M1, ug_nm, .inl (ub_cons (us_nm (M1 := M1) ?_) ub_nil), ⟨_, rfl⟩, rfl⟩
   refine r_bin (x := .lst (A.map idsD)) (y := .lst (A.map fun l => idsD (l ++ [i]))) (M1 := M1) (M2 := M1) (r_var rfl) (r_new (lcp_map1 (i := 3) (vs := [3]) (l := A) (fd := idsD) (g := fun l => idsD (l ++ [i])) (ui_it (x := .lst (A.map idsD)) (r_var rfl) rfl) (fun x hx => ut_val (x := .bl true) r_lit rfl) (fun l hl => ?_))) ?_
   ·refine r_bin (x := idsD l) (y := .tup [nD i]) (M1 := M1) (M2 := M1) (r_var rfl) (r_tup (r_acons (r_var rfl) r_anil)) ?_
    have := add_tup (xs := l.map nD) (ys := [nD i]) (by have := hel l hl; rw [List.length_map]; show _ + 1 ≤ _; omega)
    show binR .Add (.tup (l.map nD)) (.tup [nD i]) (.tup (l.map nD)) (.tup [nD i]) = _
    rw [this]
    unfold idsD
    rw [List.map_append]
    rfl
   ·refine (bin_lst (xs := A.map idsD) (ys := A.map fun l => idsD (l ++ [i])) (by rw [List.length_map, List.length_map]; omega)).trans ?_
    unfold stepS
    rw [List.map_append, List.map_map]
    rfl)
 rw [List.length_range, List.take_of_length_le (by rw [List.length_range]; exact Nat.le_refl _)] at h1
 have hsort : sortD ((subsW (List.range m)).map idsD) = some ((sortBy idsD (subsW (List.range m))).map idsD) := sortD_two idsD (fun a _ b _ => like_ids a b) (by
  obtain ⟨r, hr⟩ := subs_hd nD (List.range m) [[]] ⟨[], rfl⟩
  rw [show subsW (List.range m) = [] :: r from hr, Bool.and_eq_true, List.all_eq_true]
  refine ⟨rfl, fun y hy => ?_⟩
  obtain ⟨z, _, rfl⟩ := List.mem_map.mp hy
  rfl)
 refine does shal h14 oM rfl rfl (ub_cons (us_nm (d := .lst [.tup []]) (M1 := M2) (r_new (un_lst (r_acons (r_tup r_anil) r_anil)))) (ub_cons h1 (ub_rt (us_ret (d := .lst ((lotsN m).map idsD)) (M1 := M2) (r_new ?_))))) (fin_id0 (bels_map _ idsD (fun l => bels_map _ nD (fun _ => rfl) l) _))
 refine lcp_filter1 (i := 3) (vs := [3]) (l := sortBy idsD (subsW (List.range m))) (fd := idsD) (g := idsD) (pr := fun l => decide (1 < l.length)) (ui_it (x := .lst ((sortBy idsD (subsW (List.range m))).map idsD)) (M1 := M2) (r_new (un_sort (x := .lst ((subsW (List.range m)).map idsD)) (M1 := M2) (r_var rfl) rfl hsort)) rfl) (fun l hl => ?_) (fun l hl _ => r_var rfl)
 refine ut_cmp (x := .int (l.length : Nat)) (y := .int 1) (M1 := M2) (M2 := M2) (r_blt (ds := [idsD l]) (M1 := M2) (r_acons (r_var rfl) r_anil) (by
  show some (D.int ((l.map nD).length : Nat)) = _
  rw [List.length_map])) r_lit (gt_int.trans ?_)
 congr 2
 exact decide_eq_decide.mpr oM
def ordL (W : List Wt) : List (List T3) := (lotsN W.length).flatMap fun l => chosen (gds (l.map (atW W))) (l.map (atW W))
theorem ordL_perm (W : List Wt) : (ordL W).Perm (dueT W) := by
 have := due_perm W (lots_perm W)
 rw [List.flatMap_map] at this
 exact this
theorem orders_ok (hk : 2 ≤ k) {W : List Wt} (h : Wk W) : run tab n k false 15 [wansT W] M = .ok (.lst ((sortBy ordD (dueT W)).map ordD)) M := by
 have h4 := h.l4
 have hlb : (lotsN W.length).length ≤ 16 := by
  have h1 : (lotsN W.length).length ≤ (subsW (List.range W.length)).length := by
   rw [← sortBy_len idsD (subsW (List.range W.length))]
   exact List.length_filter_le _ _
  unfold subsW at h1
  rw [subs_len, List.length_range] at h1
  have := Nat.pow_le_pow_right (n := 2) oM h4
  simp only [List.length_cons, List.length_nil] at h1
  omega
 have hone : ∀ l ∈ lotsN W.length, (∀ i ∈ l, i < W.length) ∧ l.length ≤ 4 := fun l hl => by
  obtain ⟨g1, g2⟩ := lots_mem hl
  refine ⟨fun i hi => List.mem_range.mp (g1.mem hi), ?_⟩
  have := g1.length_le
  rw [List.length_range] at this
  omega
 have hcl : ∀ l ∈ lotsN W.length, (chosen (gds (l.map (atW W))) (l.map (atW W))).length ≤ 256 := fun l hl => by
  obtain ⟨g1, g2⟩ := hone l hl
  have h1 := chosen_len (gds (l.map (atW W))) l.length (l.map (atW W)) (List.length_map ..) fun w hw => by
   obtain ⟨i, hi, rfl⟩ := List.mem_map.mp hw
   exact h.wl _ (List.mem_of_getElem? (atW_get (g1 i hi)))
  have h2 : 4 ^ l.length ≤ 4 ^ 4 := Nat.pow_le_pow_right oM g2
  omega
 obtain ⟨F, hF⟩ : ∃ F : List Nat → List (List T3), F = fun l => chosen (gds (l.map (atW W))) (l.map (atW W)) := ⟨_, rfl⟩
 have hfl : ∀ A : List (List Nat), (∀ l ∈ A, (F l).length ≤ 256) → (A.flatMap F).length ≤ 256 * A.length := by
  intro A
  induction A with
  | nil => intro _; exact Nat.le_refl _
  | cons a A ih =>
   intro hA
   have h1 := ih fun l hl => hA l (List.mem_cons_of_mem _ hl)
   have h2 := hA a List.mem_cons_self
   rw [List.flatMap_cons, List.length_append, List.length_cons]
   omega
 obtain ⟨σ2, M2, h1, ⟨y2, rfl⟩, rfl⟩ := us_for (l := lotsN W.length) (fd := idsD) (t := gNm 2) (it := iIt (kCal (run tab n (k - 1) false) 14 (aCons (kBlt .len (aCons (kVar 0) aNil)) aNil))) (σ := [some (wansT W), some (.ref (M.length + 0)), none]) (M := M ++ [D.lst []]) (b := bCons (sDrop (kExt (kVar 1) (kCal (run tab n (k - 1) false) 13 (aCons (kVar 0) (aCons (kVar 2) aNil))))) bNil)
  (fun j σ M' => (∃ y2, σ = [some (wansT W), some (.ref (M.length + 0)), y2]) ∧ M' = M ++ [D.lst ((((lotsN W.length).take j).flatMap F).map ordD)])
  (ui_it (x := .lst ((lotsN W.length).map idsD)) (M1 := M ++ [D.lst []]) (r_cal (ds := [nD W.length]) (M1 := M ++ [D.lst []]) (r_acons (r_blt (ds := [wansT W]) (M1 := M ++ [D.lst []]) (r_acons (r_var rfl) r_anil) (by
   show some (D.int ((W.map wanD).length : Nat)) = some (nD W.length)
   rw [List.length_map]; rfl)) r_anil) (lots_ok oM h4)) rfl) ⟨⟨_, rfl⟩, rfl⟩ (by
   rintro j l σ1 M1 hl ⟨⟨y2, rfl⟩, rfl⟩
   have hlm := List.mem_of_getElem? hl
   obtain ⟨g1, g2⟩ := hone l hlm
   have e1 : ((lotsN W.length).take (j + 1)).flatMap F = ((lotsN W.length).take j).flatMap F ++ F l := by
    rw [List.take_add_one, hl, List.flatMap_append]
    congr 1
    show List.flatMap _ [l] = _
    rw [List.flatMap_cons, List.flatMap_nil, List.append_nil]
   rw [e1]
   have hb : (((lotsN W.length).take j).flatMap F).length ≤ 5000 := by
    have := hfl ((lotsN W.length).take j) fun l hl => by rw [hF]; exact hcl l (List.mem_of_mem_take hl)
    rw [List.length_take] at this
    omega
   have hb2 : (F l).length ≤ 256 := by rw [hF]; exact hcl l hlm
   generalize ((lotsN W.length).take j).flatMap F = A at hb
   have hrun := chosen_ok (n := n) (k := k - 1) (M := M ++ [D.lst (A.map ordD)]) oM h.wl g1 g2
   have h3 := r_extV (σ := [some (wansT W), some (.ref (M.length + 0)), some (idsD l)]) (M := M) (acc := A.map ordD) (ys := (F l).map ordD) (a := kVar 1) (e := kCal (run tab n (k - 1) false) 13 (aCons (kVar 0) (aCons (kVar 2) aNil))) (r_var rfl) (by
    rw [hF]
    exact r_cal (ds := [wansT W, idsD l]) (M1 := M ++ [D.lst (A.map ordD)]) (r_acons (r_var rfl) (r_acons (r_var rfl) r_anil)) hrun) (by rw [List.length_map, List.length_map]; omega)
   rw [← List.map_append] at h3
   exact ⟨_, [some (wansT W), some (.ref (M.length + 0)), some (idsD l)], _, ug_nm, .inl (ub_cons (us_drop h3) ub_nil), ⟨_, rfl⟩, rfl⟩)
 rw [List.take_length] at h1
 have hne : ∀ r ∈ ordL W, r ≠ [] := fun r hr e => by
  obtain ⟨l, hl, hrl⟩ := List.mem_flatMap.mp hr
  have h1 := chosen_row hrl
  have h2 := (lots_mem hl).2
  rw [e, List.length_map] at h1
  simp at h1
  omega
 have hsort := sortD_ord hne
 rw [sort_ord (ordL_perm W)] at hsort
 have hoF : (lotsN W.length).flatMap F = ordL W := by rw [hF]; rfl
 rw [hoF] at h1
 refine does shal h15 oM rfl rfl (ub_cons (us_nm (d := .ref (M.length + 0)) (M1 := M ++ [D.lst []]) (r_newX0 (un_lst r_anil))) (ub_cons h1 (ub_rt (us_ret (d := .lst ((sortBy ordD (dueT W)).map ordD)) (M1 := M ++ [D.lst ((ordL W).map ordD)]) (r_new (un_sort (x := .ref (M.length + 0)) (xs := (ordL W).map ordD) (r_var rfl) ?_ hsort)))))) (fin_id (bel_ords _ _))
 rw [dr_app (X := [D.lst ((ordL W).map ordD)]) (j := 0) rfl (by intro ps; exact D.noConfusion)]
 rfl
end
end Mn.K62
end
section
namespace Mn.K62
open PySem Mn Mn.Sh
theorem kT_str (a b : Str) (h : kT (D.str a) = kT (D.str b)) : a = b := by
 obtain ⟨⟨a⟩⟩ := a
 obtain ⟨⟨b⟩⟩ := b
 unfold kT at h
 simp only [toP, PySem.W.keyToks, List.cons.injEq, Sum.inr.injEq, and_true] at h
 rw [h]
theorem sortT_iff {a b : List Str} : sortT a = sortT b ↔ a.Perm b := by
 constructor
 ·intro h
  exact (sortT_perm a).symm.trans ((List.Perm.of_eq h).trans (sortT_perm b))
 ·intro p
  exact sortBy_eq D.str p kT_str
theorem good_sort {W : List Wt} (h : Wk W) {r : List T3} (hr : r ∈ allT W) : goodB r = (decide (1 < r.length) && decide (sortT (brought r) = sortT (thirds r))) := by
 rw [allT_eq] at hr
 obtain ⟨L, hL, hr⟩ := List.mem_flatMap.mp hr
 have hf := mem_combs.mp hr
 have hs := mem_subs.mp hL
 have nb : (brought r).Nodup := by
  rw [hf.br.1]
  exact (hs.map _).nodup h.gn
 have hl : (thirds r).length = (brought r).length := by unfold thirds brought; rw [List.length_map, List.length_map]
 unfold goodB okB
 congr 1
 rw [Bool.eq_iff_iff, Bool.and_eq_true, decide_eq_true_iff, decide_eq_true_iff, decide_eq_true_iff, sortT_iff, perm_iff nb hl]
theorem stepT_len (w : Wt) (hw : w.2.2.length ≤ 4) (A : List (List T3)) : (stepT A w).length ≤ 5 * A.length := by
 have : ∀ A : List (List T3), (A.flatMap fun r => w.2.2.map (ext w r)).length ≤ 4 * A.length := by
  intro A
  induction A with
  | nil => exact Nat.le_refl _
  | cons r A ih => rw [List.flatMap_cons, List.length_append, List.length_map, List.length_cons]; omega
 have := this A
 unfold stepT
 rw [List.length_append]
 omega
theorem allT_len : ∀ (W : List Wt) (A : List (List T3)), (∀ w ∈ W, w.2.2.length ≤ 4) → (W.foldl stepT A).length ≤ 5 ^ W.length * A.length
 | [], A, _ => by simp
 | w :: W, A, h => by
  rw [List.foldl_cons]
  have h1 := allT_len W (stepT A w) fun x hx => h x (List.mem_cons_of_mem _ hx)
  have h2 := stepT_len w (h w List.mem_cons_self) A
  have h3 : 5 ^ W.length * (stepT A w).length ≤ 5 ^ W.length * (5 * A.length) := Nat.mul_le_mul_left _ h2
  rw [List.length_cons, Nat.pow_succ, Nat.mul_assoc]
  omega
theorem allT_row {W : List Wt} {r : List T3} (hr : r ∈ allT W) : r.length ≤ W.length := by
 rw [allT_eq] at hr
 obtain ⟨L, hL, hr⟩ := List.mem_flatMap.mp hr
 rw [(mem_combs.mp hr).len]
 exact (mem_subs.mp hL).length_le
abbrev slO (W : List Wt) (y1 y2 y3 y4 y5 y6 y7 : Option D) : Sl := [some (wansT W), y1, y2, y3, y4, y5, y6, y7, none]
abbrev ob1 : KS := bCons (sDrop (kExt (kVar 4) (kNew false (nLcp [8] (gNm 8) (iIt (kIdx (kVar 3) (kLit (.int 2)))) (tVal (kLit (.bl true))) (kBin .Add (kVar 5) (kTup (aCons (kTup (aCons (kIdx (kVar 3) (kLit (.int 0))) (aCons (kIdx (kVar 3) (kLit (.int 1))) (aCons (kVar 8) aNil)))) aNil))))))) bNil
abbrev ob2 : KS := bCons (sAsg (gNm 4) (kNew true (nLstO (kVar 1)))) (bCons (sFor (gNm 5) (iIt (kVar 1)) ob1) (bCons (sAsg (gNm 1) (kVar 4)) bNil))
abbrev ob3 : KS := bCons (sAsg (gTp 2 (gCons (gNm 6) (gCons (gNm 7) gNil))) (kTup (aCons (kNew false (nSort (kNew false (nLcp [3] (gNm 3) (iIt (kVar 5)) (tVal (kLit (.bl true))) (kIdx (kVar 3) (kLit (.int 1))))))) (aCons (kNew false (nSort (kNew false (nLcp [3] (gNm 3) (iIt (kVar 5)) (tVal (kLit (.bl true))) (kIdx (kVar 3) (kLit (.int 2))))))) aNil)))) (bCons (sIf (tAnd (Sh.tCmp .Gt (kBlt .len (aCons (kVar 5) aNil)) (kLit (.int 1))) (Sh.tCmp .Eq (kVar 6) (kVar 7))) (bCons (sDrop (kApp (kVar 2) (kVar 5))) bNil) bNil) bNil)
section
variable {n k : Nat} {M : Mem}
theorem lot_turn (W : List Wt) (y2 : Option D) (N0 : Mem) (w : Wt) (hw : w.2.2.length ≤ 4) (r : List T3) (acc : List (List T3)) (ha : acc.length < 1000000) (hr : r.length < 1000000) (y1 y6 y7 : Option D) :
  ob1 (slO W y1 y2 (some (wanD w)) (some (.ref (N0.length + 0))) (some (ordD r)) y6 y7) (N0 ++ [D.lst (acc.map ordD)]) = .nx (slO W y1 y2 (some (wanD w)) (some (.ref (N0.length + 0))) (some (ordD r)) y6 y7) (N0 ++ [D.lst ((acc ++ w.2.2.map (ext w r)).map ordD)]) := by
 have h3 := r_extV (σ := slO W y1 y2 (some (wanD w)) (some (.ref (N0.length + 0))) (some (ordD r)) y6 y7) (M := N0) (acc := acc.map ordD) (ys := (w.2.2.map (ext w r)).map ordD) (a := kVar 4) (e := kNew false (nLcp [8] (gNm 8) (iIt (kIdx (kVar 3) (kLit (.int 2)))) (tVal (kLit (.bl true))) (kBin .Add (kVar 5) (kTup (aCons (kTup (aCons (kIdx (kVar 3) (kLit (.int 0))) (aCons (kIdx (kVar 3) (kLit (.int 1))) (aCons (kVar 8) aNil)))) aNil))))) (r_var rfl) (by
  rw [List.map_map]
  refine r_new (lcp_map1 (i := 8) (vs := [8]) (l := w.2.2) (fd := D.str) (g := ordD ∘ ext w r) (ui_it (x := tupS w.2.2) (M1 := N0 ++ [D.lst (acc.map ordD)]) (r_idx (x := wanD w) (y := .int 2) (M1 := N0 ++ [D.lst (acc.map ordD)]) (M2 := N0 ++ [D.lst (acc.map ordD)]) (r_var rfl) r_lit rfl) rfl) (fun x hx => ut_val (x := .bl true) r_lit rfl) (fun x hx => ?_))
  refine r_bin (x := ordD r) (y := .tup [t3D (w.1, w.2.1, x)]) (M1 := N0 ++ [D.lst (acc.map ordD)]) (M2 := N0 ++ [D.lst (acc.map ordD)]) (r_var rfl) (r_tup (r_acons (r_tup (r_acons (r_idx (x := wanD w) (y := .int 0) (M1 := N0 ++ [D.lst (acc.map ordD)]) (M2 := N0 ++ [D.lst (acc.map ordD)]) (r_var rfl) r_lit rfl) (r_acons (r_idx (x := wanD w) (y := .int 1) (M1 := N0 ++ [D.lst (acc.map ordD)]) (M2 := N0 ++ [D.lst (acc.map ordD)]) (r_var rfl) r_lit rfl) (r_acons (r_var rfl) r_anil)))) r_anil)) ?_
  have := add_tup (xs := r.map t3D) (ys := [t3D (w.1, w.2.1, x)]) (by rw [List.length_map]; show _ + 1 ≤ _; omega)
  show binR .Add (.tup (r.map t3D)) (.tup [t3D (w.1, w.2.1, x)]) (.tup (r.map t3D)) (.tup [t3D (w.1, w.2.1, x)]) = _
  rw [this]
  show _ = some (ordD (ext w r x))
  unfold ordD ext
  rw [List.map_append]
  rfl) (by rw [List.length_map, List.length_map, List.length_map]; omega)
 rw [← List.map_append] at h3
 exact ub_cons (us_drop h3) ub_nil
theorem law_orders_ok (hk : 1 ≤ k) {W : List Wt} (h : Wk W) : run tab n k false 29 [wansT W] M = .ok (.lst ((sortBy ordD (dueT W)).map ordD)) M := by
 have h4 := h.l4
 obtain ⟨N1, hN1⟩ : ∃ N1, N1 = M ++ [D.lst []] := ⟨_, rfl⟩
 have b1 : sAsg (gTp 2 (gCons (gNm 1) (gCons (gNm 2) gNil))) (kTup (aCons (kNew false (nLst (aCons (kTup aNil) aNil))) (aCons (kNew true (nLst aNil)) aNil))) (slO W none none none none none none none) M = .nx (slO W (some (.lst [.tup []])) (some (.ref (M.length + 0))) none none none none none) N1 := by
  rw [hN1]
  exact us_tg (d := .tup [.lst [.tup []], .ref (M.length + 0)]) (M1 := M ++ [D.lst []]) (r_tup (r_acons (x := .lst [.tup []]) (M1 := M) (r_new (un_lst (r_acons (r_tup r_anil) r_anil))) (r_acons (x := .ref (M.length + 0)) (M1 := M ++ [D.lst []]) (r_newX0 (un_lst r_anil)) r_anil))) (tp2 rfl)
 obtain ⟨Q, hQ⟩ : ∃ Q : Mem → D → List (List T3) → Prop, Q = fun X y A => (y = .lst [.tup []] ∧ A = [[]]) ∨ ∃ jj, y = .ref (M.length + 1 + jj) ∧ X[jj]? = some (.lst (A.map ordD)) := ⟨_, rfl⟩
 have Qlst : ∀ (N : Mem), N.length = M.length + 1 → ∀ X y A, Q X y A → Lst (N ++ X) y (A.map ordD) := by
  rw [hQ]
  rintro N hN X y A (⟨rfl, rfl⟩ | ⟨jj, rfl, h⟩)
  ·exact .inl rfl
  ·exact .inr ⟨_, rfl, by rw [List.getElem?_append_right oM, hN, Nat.add_sub_cancel_left]; exact h⟩
 have hN1l : N1.length = M.length + 1 := by rw [hN1, List.length_append]; rfl
 obtain ⟨σ2, M2, h3, X, y1, y3, y4, y5, y6, y7, rfl, rfl, hq⟩ := us_for (l := W) (fd := wanD) (t := gNm 3) (it := iIt (kVar 0)) (σ := slO W (some (.lst [.tup []])) (some (.ref (M.length + 0))) none none none none none) (M := N1) (b := ob2)
  (fun j σ M' => ∃ (X : Mem) (y1 : D) (y3 y4 y5 y6 y7 : Option D), σ = slO W (some y1) (some (.ref (M.length + 0))) y3 y4 y5 y6 y7 ∧ M' = N1 ++ X ∧ Q X y1 (allT (W.take j)))
  (ui_it (x := wansT W) (M1 := N1) (r_var rfl) rfl) ⟨[], .lst [.tup []], none, none, none, none, none, rfl, by simp, by rw [hQ]; exact .inl ⟨rfl, rfl⟩⟩ (by
   rintro j w σ1 M1 hj ⟨X, y1, y3, y4, y5, y6, y7, rfl, rfl, hq⟩
   have hww := h.wl w (List.mem_of_getElem? hj)
   have hjl := (List.getElem?_eq_some_iff.mp hj).1
   have hsn : allT (W.take (j + 1)) = stepT (allT (W.take j)) w := by
    unfold allT
    rw [List.take_add_one, hj, List.foldl_append]; rfl
   have hcl : (allT (W.take j)).length ≤ 625 := by
    have h1 := allT_len (W.take j) [[]] fun w hw => h.wl w (List.mem_of_mem_take hw)
    have h2 : (W.take j).length ≤ 4 := by rw [List.length_take]; omega
    have h3 : 5 ^ (W.take j).length ≤ 5 ^ 4 := Nat.pow_le_pow_right oM h2
    have : (allT (W.take j)).length ≤ 5 ^ (W.take j).length * 1 := h1
    omega
   have hrl : ∀ r ∈ allT (W.take j), r.length < 1000000 := fun r hr => by
    have := allT_row hr
    rw [List.length_take] at this
    omega
   rw [hsn]
   generalize allT (W.take j) = A at hq hcl hrl
   have hLst := Qlst N1 hN1l X y1 A hq
   obtain ⟨N0, hN⟩ : ∃ N0, N0 = N1 ++ X := ⟨_, rfl⟩
   rw [← hN] at hLst ⊢
   have a1 : sAsg (gNm 4) (kNew true (nLstO (kVar 1))) (slO W (some y1) (some (.ref (M.length + 0))) (some (wanD w)) y4 y5 y6 y7) N0 = .nx (slO W (some y1) (some (.ref (M.length + 0))) (some (wanD w)) (some (.ref (N0.length + 0))) y5 y6 y7) (N0 ++ [D.lst (A.map ordD)]) :=
    us_nm (r_newX0 (un_lstO (x := y1) (M1 := N0) (r_var rfl) (by rw [hLst.dr_]; rfl)))
   obtain ⟨σ3, M3, a3, ⟨z5, rfl⟩, rfl⟩ := for_lst (l := A) (fd := ordD) (t := gNm 5) (e := kVar 1) (b := ob1) (σ := slO W (some y1) (some (.ref (M.length + 0))) (some (wanD w)) (some (.ref (N0.length + 0))) y5 y6 y7) (M := N0 ++ [D.lst (A.map ordD)]) (y := y1) (r_var rfl) (hLst.app _)
    (fun jj σ M' => (∃ z5, σ = slO W (some y1) (some (.ref (M.length + 0))) (some (wanD w)) (some (.ref (N0.length + 0))) z5 y6 y7) ∧ M' = N0 ++ [D.lst ((A ++ (A.take jj).flatMap fun r => w.2.2.map (ext w r)).map ordD)])
    ⟨⟨_, rfl⟩, by simp⟩ (fun jj σ1 M1 h => by rw [h.2]; exact hLst.app _) (by
     rintro jj r σ1 M1 hr ⟨⟨z5, rfl⟩, rfl⟩
     have e1 : ((A.take (jj + 1)).flatMap fun r => w.2.2.map (ext w r)) = ((A.take jj).flatMap fun r => w.2.2.map (ext w r)) ++ w.2.2.map (ext w r) := by
      rw [List.take_add_one, hr, List.flatMap_append]
      congr 1
      show List.flatMap _ [r] = _
      rw [List.flatMap_cons, List.flatMap_nil, List.append_nil]
     have hal : (A ++ (A.take jj).flatMap fun r => w.2.2.map (ext w r)).length < 1000000 := by
      have h1 := stepT_len w hww (A.take jj)
      unfold stepT at h1
      rw [List.length_append, List.length_take] at h1
      rw [List.length_append]
      omega
     have hb := lot_turn W (some (.ref (M.length + 0))) N0 w hww r (A ++ (A.take jj).flatMap fun r => w.2.2.map (ext w r)) hal (hrl r (List.mem_of_getElem? hr)) (some y1) y6 y7
     rw [e1, ← List.append_assoc]
     exact ⟨slO W (some y1) (some (.ref (M.length + 0))) (some (wanD w)) (some (.ref (N0.length + 0))) (some (ordD r)) y6 y7, _, _, ug_nm, .inl hb, ⟨_, rfl⟩, rfl⟩)
   rw [List.take_length] at a3
   refine ⟨slO W (some y1) (some (.ref (M.length + 0))) (some (wanD w)) y4 y5 y6 y7, slO W (some (.ref (N0.length + 0))) (some (.ref (M.length + 0))) (some (wanD w)) (some (.ref (N0.length + 0))) z5 y6 y7, N0 ++ [D.lst ((stepT A w).map ordD)], ug_nm, .inl (ub_cons a1 (ub_cons a3 (ub_cons (us_nm (d := .ref (N0.length + 0)) (M1 := N0 ++ [D.lst ((stepT A w).map ordD)]) (r_var rfl)) ub_nil))), X ++ [D.lst ((stepT A w).map ordD)], .ref (N0.length + 0), _, _, _, _, _, rfl, by rw [hN, List.append_assoc], ?_⟩
   rw [hQ]
   exact .inr ⟨X.length, by rw [hN, List.length_append, hN1l, Nat.add_zero], by simp⟩)
 rw [List.take_length] at hq
 have hcl : (allT W).length ≤ 625 := by
  have h1 := allT_len W [[]] h.wl
  have h3 : 5 ^ W.length ≤ 5 ^ 4 := Nat.pow_le_pow_right oM h4
  have : (allT W).length ≤ 5 ^ W.length * 1 := h1
  omega
 obtain ⟨σ3, M3, h5, ⟨z3, z5, z6, z7, rfl⟩, rfl⟩ := for_lst (l := allT W) (fd := ordD) (t := gNm 5) (e := kVar 1) (b := ob3) (σ := slO W (some y1) (some (.ref (M.length + 0))) y3 y4 y5 y6 y7) (M := N1 ++ X) (y := y1) (r_var rfl) (Qlst N1 hN1l X y1 _ hq)
  (fun j σ M' => (∃ z3 z5 z6 z7, σ = slO W (some y1) (some (.ref (M.length + 0))) z3 y4 z5 z6 z7) ∧ M' = (M ++ [D.lst ((((allT W).take j).filter goodB).map ordD)]) ++ X)
  ⟨⟨_, _, _, _, rfl⟩, by rw [hN1]; rfl⟩ (fun j σ1 M1 h => by rw [h.2]; exact Qlst _ (by rw [List.length_append]; rfl) X y1 _ hq) (by
   rintro j r σ1 M1 hr ⟨⟨z3, z5, z6, z7, rfl⟩, rfl⟩
   have hrm := List.mem_of_getElem? hr
   have hg := good_sort h hrm
   have e1 : ((allT W).take (j + 1)).filter goodB = ((allT W).take j).filter goodB ++ (if goodB r = true then [r] else []) := by
    rw [List.take_add_one, hr, List.filter_append]
    congr 1
    show List.filter _ [r] = _
    rw [List.filter_cons, List.filter_nil]
   rw [e1]
   have hal : (((allT W).take j).filter goodB).length < 1000000 := by
    have := List.length_filter_le goodB ((allT W).take j)
    rw [List.length_take] at this
    omega
   generalize ((allT W).take j).filter goodB = Z at hal
   obtain ⟨N, hN⟩ : ∃ N, N = (M ++ [D.lst (Z.map ordD)]) ++ X := ⟨_, rfl⟩
   have srt : ∀ (a : Nat) (f : T3 → Str) (hf : ∀ (t : T3) (σ : Sl), slot σ 3 = some (t3D t) → kIdx (kVar 3) (kLit (.int (a : Nat))) σ N = .ok (.str (f t)) N), kNew false (nSort (kNew false (nLcp [3] (gNm 3) (iIt (kVar 5)) (tVal (kLit (.bl true))) (kIdx (kVar 3) (kLit (.int (a : Nat))))))) (slO W (some y1) (some (.ref (M.length + 0))) z3 y4 (some (ordD r)) z6 z7) N = .ok (.lst ((sortT (r.map f)).map D.str)) N := fun a f hf => by
    refine r_new (un_sort (x := .lst ((r.map f).map D.str)) (xs := (r.map f).map D.str) (M1 := N) (r_new ?_) rfl (sortD_str _))
    rw [List.map_map]
    exact lcp_map1 (i := 3) (vs := [3]) (l := r) (fd := t3D) (g := D.str ∘ f) (ui_it (x := ordD r) (M1 := N) (r_var rfl) rfl) (fun x hx => ut_val (x := .bl true) r_lit rfl) (fun t ht => hf t _ rfl)
   have a1 : sAsg (gTp 2 (gCons (gNm 6) (gCons (gNm 7) gNil))) (kTup (aCons (kNew false (nSort (kNew false (nLcp [3] (gNm 3) (iIt (kVar 5)) (tVal (kLit (.bl true))) (kIdx (kVar 3) (kLit (.int 1))))))) (aCons (kNew false (nSort (kNew false (nLcp [3] (gNm 3) (iIt (kVar 5)) (tVal (kLit (.bl true))) (kIdx (kVar 3) (kLit (.int 2))))))) aNil))) (slO W (some y1) (some (.ref (M.length + 0))) z3 y4 (some (ordD r)) z6 z7) N = .nx (slO W (some y1) (some (.ref (M.length + 0))) z3 y4 (some (ordD r)) (some (.lst ((sortT (brought r)).map D.str))) (some (.lst ((sortT (thirds r)).map D.str)))) N :=
    us_tg (d := .tup [.lst ((sortT (brought r)).map D.str), .lst ((sortT (thirds r)).map D.str)]) (M1 := N) (r_tup (r_acons (srt 1 (fun t => t.2.1) (fun t σ hs => r_idx (x := t3D t) (y := .int 1) (M1 := N) (M2 := N) (r_var hs) r_lit rfl)) (r_acons (srt 2 (fun t => t.2.2) (fun t σ hs => r_idx (x := t3D t) (y := .int 2) (M1 := N) (M2 := N) (r_var hs) r_lit rfl)) r_anil))) (tp2 rfl)
   have t2 : tAnd (Sh.tCmp .Gt (kBlt .len (aCons (kVar 5) aNil)) (kLit (.int 1))) (Sh.tCmp .Eq (kVar 6) (kVar 7)) (slO W (some y1) (some (.ref (M.length + 0))) z3 y4 (some (ordD r)) (some (.lst ((sortT (brought r)).map D.str))) (some (.lst ((sortT (thirds r)).map D.str)))) N = .ok (goodB r) N := by
    rw [hg]
    refine ut_and (ut_cmp (x := .int (r.length : Nat)) (y := .int 1) (M1 := N) (M2 := N) (r_blt (ds := [ordD r]) (M1 := N) (r_acons (r_var rfl) r_anil) (by
     show some (D.int ((r.map t3D).length : Nat)) = _
     rw [List.length_map])) r_lit (gt_int.trans ?_)) (fun _ => ut_cmp (r_var rfl) (r_var rfl) ((cmp_lst (shps_str _ _) (shps_str _ _)).trans (by rw [eq2s_str])))
    congr 2
    exact decide_eq_decide.mpr oM
   rw [← hN]
   cases hc : goodB r with
   | false =>
    rw [hc] at t2
    exact ⟨slO W (some y1) (some (.ref (M.length + 0))) z3 y4 (some (ordD r)) z6 z7, slO W (some y1) (some (.ref (M.length + 0))) z3 y4 (some (ordD r)) (some (.lst ((sortT (brought r)).map D.str))) (some (.lst ((sortT (thirds r)).map D.str))), N, ug_nm, .inl (ub_cons a1 (ub_cons (us_if t2 nF (fun _ => ub_nil)) ub_nil)), ⟨_, _, _, _, rfl⟩, by rw [hN]; simp⟩
   | true =>
    rw [hc] at t2
    have h6 := r_app (M := M) (X := [D.lst (Z.map ordD)] ++ X) (j := 0) (σ := slO W (some y1) (some (.ref (M.length + 0))) z3 y4 (some (ordD r)) (some (.lst ((sortT (brought r)).map D.str))) (some (.lst ((sortT (thirds r)).map D.str)))) (a := kVar 2) (e := kVar 5) (d := ordD r) (r_var rfl) rfl (r_var rfl) (by rw [List.length_map]; show _ < 16000000; omega)
    rw [← List.append_assoc, ← hN] at h6
    refine ⟨slO W (some y1) (some (.ref (M.length + 0))) z3 y4 (some (ordD r)) z6 z7, slO W (some y1) (some (.ref (M.length + 0))) z3 y4 (some (ordD r)) (some (.lst ((sortT (brought r)).map D.str))) (some (.lst ((sortT (thirds r)).map D.str))), _, ug_nm, .inl (ub_cons a1 (ub_cons (us_if t2 (fun _ => ub_cons (us_drop h6) ub_nil) nF) ub_nil)), ⟨_, _, _, _, rfl⟩, ?_⟩
    simp)
 rw [List.take_length] at h5
 have hne : ∀ r ∈ dueT W, r ≠ [] := fun r hr e => by
  obtain ⟨_, _, _, g, _⟩ := mem_due.mp hr
  rw [e] at g
  simp at g
 refine does shal h29 oM rfl rfl (ub_cons b1 (ub_cons h3 (ub_cons h5 (ub_rt (us_ret (d := .lst ((sortBy ordD (dueT W)).map ordD)) (M1 := (M ++ [D.lst ((dueT W).map ordD)]) ++ X) (r_new (un_sort (x := .ref (M.length + 0)) (xs := (dueT W).map ordD) (r_var rfl) ?_ (sortD_ord hne)))))))) (by rw [List.append_assoc]; exact fin_id (bel_ords _ _))
 rw [List.append_assoc, dr_app (X := [D.lst ((dueT W).map ordD)] ++ X) (j := 0) rfl (by intro ps; exact D.noConfusion)]
 rfl
end
end Mn.K62
end
section
namespace Mn.K62
open PySem Mn Mn.Sh
def mxN (l : List Nat) : Nat := l.foldl max 0
theorem intL_nat : ∀ l : List Nat, intL (l.map nD) = some (l.map fun i : Nat => (i : Int))
 | [] => rfl
 | i :: l => by
  show (intL (l.map nD)).map ((i : Int) :: ·) = _
  rw [intL_nat l]; rfl
theorem fold_cast : ∀ (r : List Nat) (a : Nat), (r.map fun i : Nat => (i : Int)).foldl (fun a b => if b > a then b else a) (a : Int) = ((r.foldl max a : Nat) : Int)
 | [], _ => rfl
 | b :: r, a => by
  rw [List.map_cons, List.foldl_cons, List.foldl_cons]
  have : (if (b : Int) > (a : Int) then (b : Int) else a) = ((max a b : Nat) : Int) := by split <;> omega
  rw [this]
  exact fold_cast r (max a b)
theorem max_lst0 (l : List Nat) : bi .max [.lst ((0 :: l).map nD)] = some (nD (mxN l)) := by
 show (((intL ((0 :: l).map nD)).bind maxL).map D.int) = _
 rw [intL_nat]
 show some (D.int ((l.map fun i : Nat => (i : Int)).foldl (fun a b => if b > a then b else a) ((0 : Nat) : Int))) = _
 rw [fold_cast]; rfl
theorem max_lstN {l : List Nat} (h : l ≠ []) : bi .max [.lst (l.map nD)] = some (nD (mxN l)) := by
 cases l with
 | nil => exact absurd rfl h
 | cons x r =>
  show (((intL ((x :: r).map nD)).bind maxL).map D.int) = _
  rw [intL_nat]
  show some (D.int ((r.map fun i : Nat => (i : Int)).foldl (fun a b => if b > a then b else a) (x : Int))) = _
  rw [fold_cast]
  unfold mxN nD
  rw [List.foldl_cons, Nat.zero_max]
theorem mx_le : ∀ (l : List Nat) (a : Nat), a ≤ l.foldl max a ∧ ∀ x ∈ l, x ≤ l.foldl max a
 | [], a => ⟨Nat.le_refl _, fun x hx => by cases hx⟩
 | b :: l, a => by
  rw [List.foldl_cons]
  obtain ⟨h1, h2⟩ := mx_le l (max a b)
  exact ⟨by omega, fun x hx => by
   rcases List.mem_cons.mp hx with rfl | hx
   ·omega
   ·exact h2 x hx⟩
theorem mx_mem : ∀ (l : List Nat) (a : Nat), l.foldl max a = a ∨ l.foldl max a ∈ l
 | [], a => .inl rfl
 | b :: l, a => by
  rw [List.foldl_cons]
  rcases mx_mem l (max a b) with h | h
  ·rw [h]
   by_cases hb : a ≤ b
   ·rw [Nat.max_eq_right hb]; exact .inr List.mem_cons_self
   ·rw [Nat.max_eq_left oM]; exact .inl rfl
  ·exact .inr (List.mem_cons_of_mem _ h)
def ords (W : List Wt) : List (List T3) := sortBy ordD (dueT W)
def most (W : List Wt) : Nat := mxN ((ords W).map List.length)
def greatest (W : List Wt) : List (List T3) := (ords W).filter fun r => decide (r.length = most W)
theorem mem_ords {W : List Wt} {r : List T3} : r ∈ ords W ↔ r ∈ dueT W := mem_sortBy ordD
theorem len_ord (r : List T3) {σ : Sl} {M : Mem} {i : Nat} (h : slot σ i = some (ordD r)) : kBlt .len (aCons (kVar i) aNil) σ M = .ok (nD r.length) M :=
 r_blt (ds := [ordD r]) (M1 := M) (r_acons (r_var h) r_anil) (by
  show some (D.int ((r.map t3D).length : Nat)) = some (nD r.length)
  rw [List.length_map]; rfl)
section
variable {n k : Nat} {M : Mem}
theorem some_ok (hk : 5 ≤ k) {W : List Wt} (h : Wk W) {v : D} (hv : Arg W v) {σ : Sl} (hs : slot σ 0 = some v) : kCal (run tab n (k - 1) false) 15 (aCons (kCal (run tab n (k - 1) false) 12 (aCons (kVar 0) aNil)) aNil) σ M = .ok (.lst ((ords W).map ordD)) M :=
 r_cal (ds := [wansT W]) (M1 := M) (r_acons (r_cal (ds := [v]) (M1 := M) (r_acons (r_var hs) r_anil) (known_ok oM h hv)) r_anil) (orders_ok oM h)
theorem orders_in_ok (hk : 5 ≤ k) {W : List Wt} (h : Wk W) {v : D} (hv : Arg W v) : run tab n k false 16 [v] M = .ok (.tup ((ords W).map ordD)) M :=
 does shal h16 oM rfl rfl (ub_rt (us_ret (r_tupO (some_ok hk h hv (σ := [some v]) rfl) rfl))) (fin_id0 (bels_map _ ordD (fun r => bel_ord _ r) _))
theorem most_ok (hk : 5 ≤ k) {W : List Wt} (h : Wk W) {v : D} (hv : Arg W v) : run tab n k false 17 [v] M = .ok (.tup [nD (most W), ordD ((greatest W).headD [])]) M := by
 have h1 := some_ok (n := n) (M := M) hk h hv (σ := [some v, none, none, none]) rfl
 cases ho : ords W with
 | nil =>
  rw [ho] at h1
  have e1 : most W = 0 := by unfold most; rw [ho]; rfl
  have e2 : greatest W = [] := by unfold greatest; rw [ho]; rfl
  rw [e1, e2]
  exact does shal h17 oM rfl rfl (ub_cons (us_nm h1) (ub_rt (us_if (k := true) (ut_not (k := false) (ut_val (x := .lst []) (M1 := M) (r_var rfl) rfl)) (fun _ => ub_rt (us_ret (r_tup (r_acons r_lit (r_acons (r_tup r_anil) r_anil))))) (fun h => Bool.noConfusion h)))) (fin_id0 rfl)
 | cons o O =>
  have hne : (ords W).map List.length ≠ [] := by rw [ho]; exact List.cons_ne_nil _ _
  have hg : ∃ g G, greatest W = g :: G := by
   cases hG : greatest W with
   | cons g G => exact ⟨g, G, rfl⟩
   | nil =>
    exfalso
    have : most W = 0 ∨ most W ∈ (ords W).map List.length := mx_mem _ 0
    have hm : ∀ x ∈ (ords W).map List.length, x ≤ most W := (mx_le _ 0).2
    have : most W ∈ (ords W).map List.length := by
     rcases this with e | e
     ·have h0 := hm o.length (List.mem_map.mpr ⟨o, by rw [ho]; exact List.mem_cons_self, rfl⟩)
      rw [e]
      exact List.mem_map.mpr ⟨o, by rw [ho]; exact List.mem_cons_self, by omega⟩
     ·exact e
    obtain ⟨r, hr, e⟩ := List.mem_map.mp this
    have : r ∈ greatest W := List.mem_filter.mpr ⟨hr, decide_eq_true e⟩
    rw [hG] at this
    cases this
  obtain ⟨g, G, hG⟩ := hg
  rw [hG]
  show _ = Res.ok (D.tup [nD (most W), ordD g]) M
  have ev : tVal (kVar 1) [some v, some (.lst ((ords W).map ordD)), none, none] M = .ok true M := ut_val (x := .lst ((ords W).map ordD)) (M1 := M) (r_var rfl) (by rw [ho]; rfl)
  refine does shal h17 oM rfl rfl (ub_cons (us_nm h1) (ub_cons (us_if (k := false) (ut_not (k := true) ev) (fun h => Bool.noConfusion h) (fun _ => ub_nil)) (ub_cons (us_nm (i := 2) (d := nD (most W)) (M1 := M) (r_blt (ds := [.lst (((ords W).map List.length).map nD)]) (M1 := M) (r_acons (r_new ?_) r_anil) (max_lstN hne))) (ub_rt (us_ret (r_tup (r_acons (r_var rfl) (r_acons (r_idx (x := .lst ((greatest W).map ordD)) (y := .int 0) (M1 := M) (M2 := M) (d := ordD g) (r_new ?_) r_lit (by rw [hG]; exact idx_lstN (f := ordD) (l := g :: G) (i := 0) rfl)) r_anil)))))))) ?_
  ·rw [List.map_map]
   exact lcp_map1 (i := 3) (vs := [3]) (l := ords W) (fd := ordD) (g := nD ∘ List.length) (ui_it (r_var rfl) rfl) (fun x hx => ut_val (x := .bl true) r_lit rfl) (fun x hx => len_ord x rfl)
  ·exact lcp_filter1 (i := 3) (vs := [3]) (l := ords W) (fd := ordD) (g := ordD) (pr := fun r => decide (r.length = most W)) (ui_it (r_var rfl) rfl) (fun x hx => ut_cmp (x := nD x.length) (y := nD (most W)) (len_ord x rfl) (r_var rfl) (cmp_nD _ _)) (fun x hx hp => r_var rfl)
  ·refine fin_id0 ?_
   show (true && (bel _ (ordD g) && true)) = true
   rw [bel_ord]; rfl
end
end Mn.K62
end
section
namespace Mn.K62
open PySem Mn Mn.Sh
theorem eq2_t3 (a b : T3) : eq2 (t3D a) (t3D b) = decide (a = b) := by
 have h := eq2s_str [a.1, a.2.1, a.2.2] [b.1, b.2.1, b.2.2]
 have e : eq2 (t3D a) (t3D b) = eq2s ([a.1, a.2.1, a.2.2].map D.str) ([b.1, b.2.1, b.2.2].map D.str) := by unfold t3D eq2; rfl
 rw [e, h]
 obtain ⟨a1, a2, a3⟩ := a
 obtain ⟨b1, b2, b3⟩ := b
 simp
theorem eq2s_t3 : ∀ xs ys : List T3, eq2s (xs.map t3D) (ys.map t3D) = decide (xs = ys)
 | [], [] => by simp [eq2s]
 | [], _ :: _ => by simp [eq2s]
 | _ :: _, [] => by simp [eq2s]
 | x :: xs, y :: ys => by
  show (match eq2 (t3D x) (t3D y) with | true => eq2s (xs.map t3D) (ys.map t3D) | false => false) = _
  rw [eq2_t3, eq2s_t3 xs ys]
  by_cases h : x = y <;> simp [h]
theorem eq2_ord (a b : List T3) : eq2 (ordD a) (ordD b) = decide (a = b) := by
 have e : eq2 (ordD a) (ordD b) = eq2s (a.map t3D) (b.map t3D) := by unfold ordD eq2; rfl
 rw [e, eq2s_t3]
theorem any2_ord (x : List T3) : ∀ l : List (List T3), any2 (ordD x) (l.map ordD) = decide (x ∈ l)
 | [] => rfl
 | y :: l => by
  rw [List.map_cons]
  unfold any2
  rw [any2_ord x l, eq2_ord, Bool.eq_iff_iff]
  by_cases h : y = x
  ·subst h; simp
  ·simp [h, Ne.symm h]
theorem shps_ord (n : Nat) (l : List (List T3)) : shps (n + 3) (l.map ordD) = true := shps_map (fun r => shp_ord n r) l
theorem notin_ords {M : Mem} (x : List T3) (l : List (List T3)) : cmpK M .NotIn (ordD x) (.lst (l.map ordD)) = some (.bl (!decide (x ∈ l))) := by
 show (if (shp 8 (ordD x) && shp 9 (.lst (l.map ordD))) = true then some (any2 (ordD x) (l.map ordD)) else none).map (fun k => D.bl (!k)) = _
 rw [any2_ord, if_pos (by rw [shp_ord]; simp [shp, shps_ord])]; rfl
def freeB (r o : List T3) : Bool := !o.any fun t => decide (t.1 ∈ parts r)
def optD : Option (List T3) → D
 | some o => ordD o
 | none => .non
theorem bel_opt (n : Nat) (x : Option (List T3)) : bel n (optD x) = true := by
 cases x with
 | none => rfl
 | some o => exact bel_ord n o
abbrev slB2 (W : List Wt) (v : D) (r : List T3) (y5 : Option D) : Sl := [some v, some (ordD r), some (.lst ((ords W).map ordD)), some (ordD r), some (.lst ((parts r).map D.str)), y5, none]
section
variable {n k : Nat} {M : Mem}
theorem parts_lcp (r : List T3) {σ : Sl} {i j : Nat} {vs : List Nat} (hs : slot σ j = some (ordD r)) (hv : ∀ d, slot ((wipe σ vs).set i (some d)) i = some d) : nLcp vs (gNm i) (iIt (kVar j)) (tVal (kLit (.bl true))) (kIdx (kVar i) (kLit (.int 0))) σ M = .ok (.lst ((parts r).map D.str)) M := by
 unfold parts
 rw [List.map_map]
 exact lcp_map1 (l := r) (fd := t3D) (g := D.str ∘ fun t => t.1) (ui_it (x := ordD r) (M1 := M) (r_var hs) rfl) (fun x hx => ut_val (x := .bl true) r_lit rfl) (fun x hx => r_idx (x := t3D x) (y := .int 0) (M1 := M) (M2 := M) (r_var (hv _)) r_lit rfl)
theorem blocking_ok (hk : 5 ≤ k) {W : List Wt} (h : Wk W) {v : D} (hv : Arg W v) {r : List T3} (hr : r = [] ∨ r ∈ ords W) : run tab n k false 20 [v, ordD r] M = .ok (optD ((ords W).find? (freeB r))) M := by
 have e3 : (!(r.map t3D).isEmpty && !decide (r ∈ ords W)) = false := by
  rcases hr with rfl | h
  ·rfl
  ·rw [decide_eq_true h, Bool.not_true, Bool.and_false]
 have t3 := ut_and (σ := [some v, some (ordD r), some (.lst ((ords W).map ordD)), some (ordD r), none, none, none]) (M := M) (k := !(r.map t3D).isEmpty) (kb := !decide (r ∈ ords W)) (t := Sh.tCmp .NotEq (kVar 3) (kTup aNil)) (u := Sh.tCmp .NotIn (kVar 3) (kVar 2))
  (ut_cmp (x := ordD r) (y := .tup []) (M1 := M) (M2 := M) (r_var rfl) (r_tup r_anil) (cmp_tup0N _)) (fun _ => ut_cmp (x := ordD r) (y := .lst ((ords W).map ordD)) (M1 := M) (M2 := M) (r_var rfl) (r_var rfl) (notin_ords _ _))
 rw [e3] at t3
 have key := us_forF (l := ords W) (fd := ordD) (P := freeB r) (t := gNm 5) (it := iIt (kVar 2)) (σ := slB2 W v r none) (M := M) (b := bCons (sIf (tNot (tVal (kBlt .any (aCons (kNew false (nLcp [6] (gNm 6) (iIt (kVar 5)) (tVal (kLit (.bl true))) (kCmp .In (kIdx (kVar 6) (kLit (.int 0))) (kVar 4)))) aNil)))) (bCons (sRet (kVar 5)) bNil) bNil) bNil)
  (fun σ => ∃ y5, σ = slB2 W v r y5) ordD (ui_it (r_var rfl) rfl) ⟨_, rfl⟩ (by
  rintro o ho σ1 ⟨y5, rfl⟩
  have hc : tNot (tVal (kBlt .any (aCons (kNew false (nLcp [6] (gNm 6) (iIt (kVar 5)) (tVal (kLit (.bl true))) (kCmp .In (kIdx (kVar 6) (kLit (.int 0))) (kVar 4)))) aNil))) (slB2 W v r (some (ordD o))) M = .ok (freeB r o) M :=
   ut_not (ut_val (x := .bl (o.any fun t => decide (t.1 ∈ parts r))) (M1 := M) (r_blt (ds := [.lst (o.map fun t : T3 => .bl (decide (t.1 ∈ parts r)))]) (M1 := M) (r_acons (r_new (lcp_map1 (i := 6) (vs := [6]) (l := o) (fd := t3D) (g := fun t : T3 => .bl (decide (t.1 ∈ parts r))) (ui_it (x := ordD o) (M1 := M) (r_var rfl) rfl) (fun x hx => ut_val (x := .bl true) r_lit rfl) (fun x hx => r_cmp (x := .str x.1) (y := .lst ((parts r).map D.str)) (M1 := M) (M2 := M) (r_idx (x := t3D x) (y := .int 0) (M1 := M) (M2 := M) (r_var rfl) r_lit rfl) (r_var rfl) (in_strsL _ _)))) r_anil) ((Mn.Sh.any_map (M := M) (fun t : T3 => decide (t.1 ∈ parts r)) o).trans rfl)) rfl)
  refine ⟨slB2 W v r (some (ordD o)), ug_nm, fun hp => ⟨slB2 W v r (some (ordD o)), ?_, _, rfl⟩, fun hp => ?_⟩
  ·rw [hp] at hc
   exact ub_cons (us_if (k := false) hc (fun h => Bool.noConfusion h) (fun _ => ub_nil)) ub_nil
  ·rw [hp] at hc
   exact ub_rt (us_if (k := true) hc (fun _ => ub_rt (us_ret (r_var rfl))) (fun h => Bool.noConfusion h)))
 refine does shal h20 oM rfl rfl (d := optD ((ords W).find? (freeB r))) (M' := M) (ub_cons (us_nm (some_ok hk h hv rfl)) (ub_cons (us_nm (i := 3) (d := ordD r) (M1 := M) (r_ife (k := false) (M1 := M) (ut_val (x := .bl false) (M1 := M) (r_blt (ds := [ordD r, .ty "list"]) (M1 := M) (r_acons (r_var rfl) (r_acons r_lit r_anil)) rfl) rfl) (fun h => Bool.noConfusion h) (fun _ => r_var rfl)))
  (ub_cons (us_if (k := false) t3 (fun h => Bool.noConfusion h) (fun _ => ub_nil)) (ub_cons (us_nm (i := 4) (d := .lst ((parts r).map D.str)) (M1 := M) (r_new (parts_lcp r rfl (fun d => rfl)))) ?_)))) (fin_id0 (bel_opt _ _))
 cases hf : (ords W).find? (freeB r) with
 | some o => exact ub_rt (key.1 o hf)
 | none =>
  obtain ⟨σ3, h3, y5, rfl⟩ := key.2 hf
  exact ub_cons h3 (ub_rt (us_ret r_lit))
end
end Mn.K62
end
section
namespace Mn.K62
open PySem Mn Mn.Sh
theorem get2_in (x : Str) (l : List Str) : (get2 (l.map fun x => (D.str x, D.bl true)) (.str x)).isSome = decide (x ∈ l) := by
 rw [get2_find (fun y : Str => D.str y) (fun _ => D.bl true), Option.isSome_map, Bool.eq_iff_iff, List.find?_isSome, decide_eq_true_iff]
 constructor
 ·rintro ⟨y, hy, e⟩
  rw [eq2_str, decide_eq_true_iff] at e
  exact e ▸ hy
 ·intro h
  exact ⟨x, h, by rw [eq2_str]; exact decide_eq_true rfl⟩
theorem notin_kn {M : Mem} {x : Str} {d : D} {l : List Str} (hd : dr M d = knS l) : cmpK M .NotIn (.str x) d = some (.bl (!decide (x ∈ l))) := by
 unfold cmpK
 rw [hd]
 show ((match kok2 (l.map fun x => (D.str x, D.bl true)) (.str x) with | true => some (match get2 (l.map fun x => (D.str x, D.bl true)) (.str x) with | some _ => true | none => false) | false => none) : Option Bool).map (fun k => D.bl (!k)) = _
 rw [kok_s, ← get2_in]
 cases get2 (l.map fun x => (D.str x, D.bl true)) (.str x) <;> rfl
theorem eqv_str (x y : Str) : eqv (D.str x) (D.str y) = decide (x = y) := rfl
def servU (O : List (List T3)) : List Str := uq (O.flatMap parts)
theorem part_in {W : List Wt} {r : List T3} (hr : r ∈ ords W) : ∀ x ∈ parts r, x ∈ pts W := fun x hx => by
 obtain ⟨L, hL, hf, _⟩ := mem_due.mp (mem_ords.mp hr)
 rw [hf.br.2] at hx
 exact (hL.map _).mem hx
theorem uq_snoc {α : Type} [DecidableEq α] (l : List α) (x : α) : uq (l ++ [x]) = uq1 (uq l) x := by
 unfold uq
 rw [List.foldl_append]; rfl
def alone (W : List Wt) : List Str := sortT ((pts W).filter fun p => !(ords W).any fun r => decide (p ∈ parts r))
abbrev slAl (W : List Wt) (v : D) (N : Nat) (y3 y4 : Option D) : Sl := [some v, some (wansT W), some (.ref (N + 0)), y3, y4]
section
variable {n k : Nat} {M : Mem}
theorem put_part (W : List Wt) (v : D) (L : List Str) (hL : L.length < 1000) (t : T3) (y3 : Option D) :
  sAsg (gSb (kVar 2) (kIdx (kVar 4) (kLit (.int 0)))) (kLit (.bl true)) (slAl W v M.length y3 (some (t3D t))) (M ++ [knS L]) = .nx (slAl W v M.length y3 (some (t3D t))) (M ++ [knS (uq1 L t.1)]) := by
 have h := ug_sbk (M := M) (X := [knS L]) (j := 0) (o' := kVar 2) (i' := kIdx (kVar 4) (kLit (.int 0))) (d := .bl true) (σ := slAl W v M.length y3 (some (t3D t))) (ps := L.map fun x => (D.str x, D.bl true)) (key := .str t.1) (r_var rfl) (r_idx (x := t3D t) (y := .int 0) (M1 := M ++ [knS L]) (M2 := M ++ [knS L]) (r_var rfl) r_lit rfl) rfl (kok_s _ _) (by rw [List.length_map]; show _ < 16000000; omega)
 refine us_tg (d := .bl true) (M1 := M ++ [knS L]) r_lit ?_
 rw [h]
 have e := dput_uq (f := D.str) eqv_str L t.1
 show Res.ok _ (M ++ [D.dct (dput (trD D.str L) (.str t.1) (.bl true))]) = _
 rw [e]; rfl
theorem left_alone_ok (hk : 5 ≤ k) {W : List Wt} (h : Wk W) {v : D} (hv : Arg W v) : run tab n k false 19 [v] M = .ok (tupS (alone W)) M := by
 have hlen : ∀ l : List Str, (∀ x ∈ l, x ∈ pts W) → (uq l).length < 1000 := fun l hl => by
  have := nodup_le (nd_uq l) fun x hx => hl x (mem_uq.mp hx)
  have h4 := h.l4
  unfold pts at this
  rw [List.length_map] at this
  omega
 obtain ⟨σ2, M2, h1, ⟨y3, y4, rfl⟩, rfl⟩ := us_for (l := ords W) (fd := ordD) (t := gNm 3) (it := iIt (kCal (run tab n (k - 1) false) 15 (aCons (kVar 1) aNil))) (σ := slAl W v M.length none none) (M := M ++ [knS []]) (b := bCons (sFor (gNm 4) (iIt (kVar 3)) (bCons (sAsg (gSb (kVar 2) (kIdx (kVar 4) (kLit (.int 0)))) (kLit (.bl true))) bNil)) bNil)
  (fun j σ M' => (∃ y3 y4, σ = slAl W v M.length y3 y4) ∧ M' = M ++ [knS (servU ((ords W).take j))])
  (ui_it (x := .lst ((ords W).map ordD)) (M1 := M ++ [knS []]) (r_cal (ds := [wansT W]) (M1 := M ++ [knS []]) (r_acons (r_var rfl) r_anil) (orders_ok oM h)) rfl) ⟨⟨_, _, rfl⟩, rfl⟩ (by
   rintro j o σ1 M1 ho ⟨⟨y3, y4, rfl⟩, rfl⟩
   have hom := List.mem_of_getElem? ho
   have e1 : ((ords W).take (j + 1)).flatMap parts = ((ords W).take j).flatMap parts ++ parts o := by
    rw [List.take_add_one, ho, List.flatMap_append]
    congr 1
    show List.flatMap _ [o] = _
    rw [List.flatMap_cons, List.flatMap_nil, List.append_nil]
   have hA : ∀ x ∈ ((ords W).take j).flatMap parts, x ∈ pts W := fun x hx => by
    obtain ⟨r, hr, hx⟩ := List.mem_flatMap.mp hx
    exact part_in (List.mem_of_mem_take hr) x hx
   unfold servU
   rw [e1]
   generalize ((ords W).take j).flatMap parts = A at hA
   obtain ⟨σ3, M3, h2, ⟨z4, rfl⟩, rfl⟩ := us_for (l := o) (fd := t3D) (t := gNm 4) (it := iIt (kVar 3)) (σ := slAl W v M.length (some (ordD o)) y4) (M := M ++ [knS (uq A)]) (b := bCons (sAsg (gSb (kVar 2) (kIdx (kVar 4) (kLit (.int 0)))) (kLit (.bl true))) bNil)
    (fun i σ M' => (∃ y4, σ = slAl W v M.length (some (ordD o)) y4) ∧ M' = M ++ [knS (uq (A ++ (parts o).take i))])
    (ui_it (x := ordD o) (M1 := M ++ [knS (uq A)]) (r_var rfl) rfl) ⟨⟨_, rfl⟩, by rw [List.take_zero, List.append_nil]⟩ (by
     rintro i t σ4 M4 ht ⟨⟨y4, rfl⟩, rfl⟩
     have hp : (parts o)[i]? = some t.1 := by unfold parts; rw [List.getElem?_map, ht]; rfl
     have e2 : (parts o).take (i + 1) = (parts o).take i ++ [t.1] := by rw [List.take_add_one, hp]; rfl
     rw [e2, ← List.append_assoc, uq_snoc]
     refine ⟨slAl W v M.length (some (ordD o)) (some (t3D t)), slAl W v M.length (some (ordD o)) (some (t3D t)), _, ug_nm, .inl (ub_cons (put_part W v _ (hlen _ fun x hx => ?_) t _) ub_nil), ⟨_, rfl⟩, rfl⟩
     rcases List.mem_append.mp hx with hx | hx
     ·exact hA x hx
     ·exact part_in hom x (List.mem_of_mem_take hx))
   rw [show (parts o).take o.length = parts o from List.take_of_length_le (by unfold parts; rw [List.length_map]; exact Nat.le_refl _)] at h2
   exact ⟨slAl W v M.length (some (ordD o)) y4, _, _, ug_nm, .inl (ub_cons h2 ub_nil), ⟨_, _, rfl⟩, rfl⟩)
 rw [List.take_length] at h1
 have hdr : dr (M ++ [knS (servU (ords W))]) (.ref (M.length + 0)) = knS (servU (ords W)) := dr_app (j := 0) rfl (by intro ps; exact D.noConfusion)
 have hl := lcp_filter1 (σ := slAl W v M.length y3 y4) (M := M ++ [knS (servU (ords W))]) (i := 4) (vs := [4]) (l := W) (fd := wanD) (g := fun w => .str w.1) (pr := fun w => !decide (w.1 ∈ servU (ords W))) (it := iIt (kVar 1)) (c := Sh.tCmp .NotIn (kIdx (kVar 4) (kLit (.int 0))) (kVar 2)) (e := kIdx (kVar 4) (kLit (.int 0)))
  (ui_it (x := wansT W) (M1 := M ++ [knS (servU (ords W))]) (r_var rfl) rfl) (fun w hw => ut_cmp (x := .str w.1) (y := .ref (M.length + 0)) (M1 := M ++ [knS (servU (ords W))]) (M2 := M ++ [knS (servU (ords W))]) (r_idx (x := wanD w) (y := .int 0) (M1 := M ++ [knS (servU (ords W))]) (M2 := M ++ [knS (servU (ords W))]) (r_var rfl) r_lit rfl) (r_var rfl) (notin_kn hdr)) (fun w hw _ => r_idx (x := wanD w) (y := .int 0) (M1 := M ++ [knS (servU (ords W))]) (M2 := M ++ [knS (servU (ords W))]) (r_var rfl) r_lit rfl)
 have e3 : ((W.filter fun w => !decide (w.1 ∈ servU (ords W))).map fun w => D.str w.1) = ((pts W).filter fun p => !(ords W).any fun r => decide (p ∈ parts r)).map D.str := by
  unfold pts
  rw [List.filter_map, List.map_map]
  congr 1
  refine List.filter_congr fun w hw => ?_
  show (!decide (w.1 ∈ servU (ords W))) = !(ords W).any fun r => decide (w.1 ∈ parts r)
  congr 1
  rw [Bool.eq_iff_iff, decide_eq_true_iff, List.any_eq_true]
  unfold servU
  rw [mem_uq, List.mem_flatMap]
  constructor
  ·rintro ⟨r, hr, hx⟩; exact ⟨r, hr, decide_eq_true hx⟩
  ·rintro ⟨r, hr, hx⟩; exact ⟨r, hr, of_decide_eq_true hx⟩
 rw [e3] at hl
 exact does shal h19 oM rfl rfl (ub_cons (us_nm (r_cal (ds := [v]) (M1 := M) (r_acons (r_var rfl) r_anil) (known_ok oM h hv))) (ub_cons (us_nm (d := .ref (M.length + 0)) (M1 := M ++ [knS []]) (r_newX0 (d := D.dct []) un_dct0)) (ub_cons h1 (ub_rt (us_ret (d := tupS (alone W)) (M1 := M ++ [knS (servU (ords W))]) (r_tupO (x := .lst ((alone W).map D.str)) (M1 := M ++ [knS (servU (ords W))]) (r_new (un_sort (x := .lst _) (M1 := M ++ [knS (servU (ords W))]) (r_new hl) rfl (sortD_str _))) rfl)))))) (fin_id (bel_tupS _ _))
end
end Mn.K62
end
section
namespace Mn.K62
open PySem Mn Mn.Sh
def mtD (x : D) : D := .ins 1 [(0, x)]
def desc (is : List Nat) : Bool := (List.range (is.length - 1)).any fun a => decide (is.getD (a + 1) 0 ≤ is.getD a 0)
def atI (is : List Nat) (W : List Wt) : List (List T3) := chosen (gds (is.map (atW W))) (is.map (atW W))
def ixB (m : Nat) : D → Bool
 | .int i => decide (0 ≤ i) && decide (i < (m : Nat))
 | _ => false
section
variable {n k : Nat} {M : Mem}
theorem index_int (hk : 2 ≤ k) (i : Int) (m : Nat) : run tab n k false 2 [.int i, nD m] M = .ok (.bl (ixB m (.int i))) M := by
 have hw : run tab n (k - 1) false 0 [.int i] M = .ok (.bl true) M :=
  does shal h0 oM rfl rfl (ub_rt (us_ret (r_and (k := true) (kb := true) (r_blt (ds := [.int i, .ty "int"]) (M1 := M) (r_acons (r_var rfl) (r_acons r_lit r_anil)) rfl) (fun _ => r_not (x := .bl false) (M1 := M) (r_blt (ds := [.int i, .ty "bool"]) (M1 := M) (r_acons (r_var rfl) (r_acons r_lit r_anil)) rfl) rfl)))) (fin_id0 rfl)
 exact does shal h2 oM rfl rfl (ub_rt (us_ret (r_and (k := true) (kb := ixB m (.int i)) (r_cal (ds := [.int i]) (M1 := M) (r_acons (r_var rfl) r_anil) hw) (fun _ => r_chn (x := .int 0) (y := .int i) (z := nD m) (M1 := M) (M2 := M) (k := decide (0 ≤ i)) (kb := decide (i < (m : Nat))) r_lit (r_var rfl) le_int (fun _ => r_var rfl) (fun _ => lt_int))))) (fin_id0 rfl)
theorem index_bl (hk : 2 ≤ k) (b : Bool) (m : Nat) : run tab n k false 2 [.bl b, nD m] M = .ok (.bl false) M := by
 have hw : run tab n (k - 1) false 0 [.bl b] M = .ok (.bl false) M :=
  does shal h0 oM rfl rfl (ub_rt (us_ret (r_and (k := true) (kb := false) (r_blt (ds := [.bl b, .ty "int"]) (M1 := M) (r_acons (r_var rfl) (r_acons r_lit r_anil)) rfl) (fun _ => r_not (x := .bl true) (M1 := M) (r_blt (ds := [.bl b, .ty "bool"]) (M1 := M) (r_acons (r_var rfl) (r_acons r_lit r_anil)) rfl) rfl)))) (fin_id0 rfl)
 exact does shal h2 oM rfl rfl (ub_rt (us_ret (r_and (k := false) (kb := false) (r_cal (ds := [.bl b]) (M1 := M) (r_acons (r_var rfl) r_anil) hw) (fun h => by cases h)))) (fin_id0 rfl)
abbrev slM (W : List Wt) (v x : D) : Sl := [some v, some x, some (wansT W), none, none]
abbrev mq1 : Sh.KT := tOr (tNot (tVal (kBlt .isi (aCons (kVar 1) (aCons (kLit (.cls 1)) aNil))))) (tOr (tNot (tVal (kBlt .isi (aCons (kAtt (kVar 1) 0) (aCons (kLit (.ty "tuple")) aNil))))) (Sh.tCmp .Lt (kBlt .len (aCons (kAtt (kVar 1) 0) aNil)) (kLit (.int 2))))
theorem m_att {W : List Wt} {v x : D} : kAtt (kVar 1) 0 (slM W v (mtD x)) M = .ok x M := r_att (x := mtD x) (M1 := M) (r_var rfl) rfl
theorem m_isc {W : List Wt} {v x : D} : tNot (tVal (kBlt .isi (aCons (kVar 1) (aCons (kLit (.cls 1)) aNil)))) (slM W v (mtD x)) M = .ok false M :=
 ut_not (k := true) (ut_val (x := .bl true) (M1 := M) (r_blt (ds := [mtD x, .cls 1]) (M1 := M) (r_acons (r_var rfl) (r_acons r_lit r_anil)) (isi_cls 1 1 _)) rfl)
theorem mq1_tup {W : List Wt} {v : D} (xs : List D) : mq1 (slM W v (mtD (.tup xs))) M = .ok (decide (xs.length < 2)) M := by
 have h := ut_or (k := false) (kb := decide (xs.length < 2)) (t := tNot (tVal (kBlt .isi (aCons (kVar 1) (aCons (kLit (.cls 1)) aNil))))) (u := tOr (tNot (tVal (kBlt .isi (aCons (kAtt (kVar 1) 0) (aCons (kLit (.ty "tuple")) aNil))))) (Sh.tCmp .Lt (kBlt .len (aCons (kAtt (kVar 1) 0) aNil)) (kLit (.int 2)))) (σ := slM W v (mtD (.tup xs))) (M := M) m_isc (fun _ => by
  have := ut_or (k := false) (kb := decide (xs.length < 2)) (t := tNot (tVal (kBlt .isi (aCons (kAtt (kVar 1) 0) (aCons (kLit (.ty "tuple")) aNil))))) (u := Sh.tCmp .Lt (kBlt .len (aCons (kAtt (kVar 1) 0) aNil)) (kLit (.int 2))) (σ := slM W v (mtD (.tup xs))) (M := M) (ut_not (k := true) (ut_val (x := .bl true) (M1 := M) (r_blt (ds := [.tup xs, .ty "tuple"]) (M1 := M) (r_acons m_att (r_acons r_lit r_anil)) (isi_tt _)) rfl)) (fun _ => ut_cmp (x := .int (xs.length : Nat)) (y := .int 2) (M1 := M) (M2 := M) (r_blt (ds := [.tup xs]) (M1 := M) (r_acons m_att r_anil) rfl) r_lit (by
   rw [lt_int]
   congr 2
   rw [Bool.eq_iff_iff, decide_eq_true_iff, decide_eq_true_iff]; omega))
  exact this)
 exact h
theorem mq1_non {W : List Wt} {v : D} : mq1 (slM W v (mtD .non)) M = .ok true M :=
 ut_or (k := false) (kb := true) m_isc (fun _ => ut_or (k := true) (kb := true) (ut_not (k := false) (ut_val (x := .bl false) (M1 := M) (r_blt (ds := [.non, .ty "tuple"]) (M1 := M) (r_acons m_att (r_acons r_lit r_anil)) rfl) rfl)) (fun h => by cases h))
theorem mq1_odd {W : List Wt} {v x : D} (hx : dr M x = x) (h : bi .isi [x, .cls 1] = some (.bl false)) : mq1 (slM W v x) M = .ok true M :=
 ut_or (k := true) (kb := true) (ut_not (k := false) (ut_val (x := .bl false) (M1 := M) (r_blt (ds := [x, .cls 1]) (M1 := M) (r_acons (r_var rfl) (r_acons r_lit r_anil)) (by
  show bi .isi [dr M x, .cls 1] = _
  rw [hx]; exact h)) rfl)) (fun h => by cases h)
theorem matched_no {W : List Wt} (hk : 5 ≤ k) (h : Wk W) {v : D} (hv : Arg W v) {x : D} (hq : mq1 (slM W v x) M = .ok true M) : run tab n k false 18 [v, x] M = .ok (.bl false) M :=
 does shal h18 oM rfl rfl (ub_cons (us_nm (r_cal (ds := [v]) (M1 := M) (r_acons (r_var rfl) r_anil) (known_ok oM h hv))) (ub_rt (us_if (k := true) hq (fun _ => ub_rt (us_ret r_lit)) (fun h => Bool.noConfusion h)))) (fin_id0 rfl)
abbrev mq2 (cf : Calls) : Sh.KT := tNot (tVal (kBlt .all (aCons (kNew false (nLcp [3] (gNm 3) (iIt (kAtt (kVar 1) 0)) (tVal (kLit (.bl true))) (kCal cf 2 (aCons (kVar 3) (aCons (kBlt .len (aCons (kVar 2) aNil)) aNil))))) aNil)))
theorem mq2_ok {W : List Wt} {v : D} (xs : List D) (f : D → Bool) (hf : ∀ x ∈ xs, run tab n (k - 1) false 2 [x, nD W.length] M = .ok (.bl (f x)) M) : mq2 (run tab n (k - 1) false) (slM W v (mtD (.tup xs))) M = .ok (!xs.all f) M := by
 have hl := lcp_map1 (σ := slM W v (mtD (.tup xs))) (M := M) (i := 3) (vs := [3]) (l := xs) (fd := fun d => d) (g := fun x => .bl (f x)) (it := iIt (kAtt (kVar 1) 0)) (c := tVal (kLit (.bl true))) (e := kCal (run tab n (k - 1) false) 2 (aCons (kVar 3) (aCons (kBlt .len (aCons (kVar 2) aNil)) aNil))) (by rw [List.map_id']; exact ui_it (x := .tup xs) m_att rfl) (fun p hp => ut_val (x := .bl true) r_lit rfl) (fun x hx => r_cal (ds := [x, nD W.length]) (M1 := M) (r_acons (r_var rfl) (r_acons (r_blt (ds := [wansT W]) (M1 := M) (r_acons (r_var rfl) r_anil) (by
   show some (D.int ((W.map wanD).length : Nat)) = some (nD W.length)
   rw [List.length_map]; rfl)) r_anil)) (hf x hx))
 exact ut_not (ut_val (x := .bl (xs.all f)) (M1 := M) (r_blt (ds := [.lst (xs.map fun x => .bl (f x))]) (M1 := M) (r_acons (r_new hl) r_anil) ((Mn.Sh.all_map (M := M) f xs).trans rfl)) rfl)
theorem matched_bad {W : List Wt} (hk : 5 ≤ k) (h : Wk W) {v : D} (hv : Arg W v) {xs : List D} (h2 : 2 ≤ xs.length) (f : D → Bool) (hf : ∀ x ∈ xs, run tab n (k - 1) false 2 [x, nD W.length] M = .ok (.bl (f x)) M) (ha : xs.all f = false) : run tab n k false 18 [v, mtD (.tup xs)] M = .ok (.bl false) M := by
 have q1 := mq1_tup (M := M) (W := W) (v := v) xs
 have q2 := mq2_ok (k := k) (v := v) xs f hf
 rw [decide_eq_false oM] at q1
 rw [ha] at q2
 exact does shal h18 oM rfl rfl (ub_cons (us_nm (r_cal (ds := [v]) (M1 := M) (r_acons (r_var rfl) r_anil) (known_ok oM h hv))) (ub_cons (us_if (k := false) q1 (fun h => Bool.noConfusion h) (fun _ => ub_nil)) (ub_rt (us_if (k := true) q2 (fun _ => ub_rt (us_ret r_lit)) (fun h => Bool.noConfusion h))))) (fin_id0 rfl)
abbrev mq3 : Sh.KT := tVal (kBlt .any (aCons (kNew false (nLcp [4] (gNm 4) (iRng1 (kBin .Sub (kBlt .len (aCons (kAtt (kVar 1) 0) aNil)) (kLit (.int 1)))) (tVal (kLit (.bl true))) (kCmp .GtE (kIdx (kAtt (kVar 1) 0) (kVar 4)) (kIdx (kAtt (kVar 1) 0) (kBin .Add (kVar 4) (kLit (.int 1))))))) aNil))
theorem getD_some {is : List Nat} {a : Nat} (h : a < is.length) : is[a]? = some (is.getD a 0) := by
 rw [List.getD_eq_getElem?_getD, List.getElem?_eq_getElem h]; rfl
theorem mq3_ok {W : List Wt} {v : D} (is : List Nat) (hl : is.length < 1000) : mq3 (slM W v (mtD (.tup (is.map nD)))) M = .ok (desc is) M := by
 have h := lcp_map1 (σ := slM W v (mtD (.tup (is.map nD)))) (M := M) (i := 4) (vs := [4]) (l := List.range (is.length - 1)) (fd := nD) (g := fun a => .bl (decide (is.getD (a + 1) 0 ≤ is.getD a 0))) (it := iRng1 (kBin .Sub (kBlt .len (aCons (kAtt (kVar 1) 0) aNil)) (kLit (.int 1)))) (c := tVal (kLit (.bl true))) (e := kCmp .GtE (kIdx (kAtt (kVar 1) 0) (kVar 4)) (kIdx (kAtt (kVar 1) 0) (kBin .Add (kVar 4) (kLit (.int 1)))))
  (ui_rng1 (j := (is.length : Nat) - 1) (r_bin (x := .int (is.length : Nat)) (y := .int 1) (M1 := M) (M2 := M) (r_blt (ds := [.tup (is.map nD)]) (M1 := M) (r_acons m_att r_anil) (by
   show some (D.int ((is.map nD).length : Nat)) = _
   rw [List.length_map])) r_lit rfl) (rng_len _ oM)) (fun p hp => ut_val (x := .bl true) r_lit rfl) (fun a ha => by
   have ha2 := List.mem_range.mp ha
   refine r_cmp (x := nD (is.getD a 0)) (y := nD (is.getD (a + 1) 0)) (M1 := M) (M2 := M) (r_idx (x := .tup (is.map nD)) (y := nD a) (M1 := M) (M2 := M) (r_att (x := mtD (.tup (is.map nD))) (M1 := M) (r_var rfl) rfl) (r_var rfl) (idx_tupN (f := nD) (getD_some oM))) (r_idx (x := .tup (is.map nD)) (y := nD (a + 1)) (M1 := M) (M2 := M) (r_att (x := mtD (.tup (is.map nD))) (M1 := M) (r_var rfl) rfl) (r_bin (x := nD a) (y := .int 1) (M1 := M) (M2 := M) (r_var rfl) r_lit rfl) (idx_tupN (f := nD) (getD_some oM))) ?_
   show cmpK M .GtE (.int _) (.int _) = _
   rw [ge_int]
   congr 2
   rw [Bool.eq_iff_iff, decide_eq_true_iff, decide_eq_true_iff]; omega)
 exact ut_val (x := .bl (desc is)) (M1 := M) (r_blt (ds := [.lst ((List.range (is.length - 1)).map fun a => .bl (decide (is.getD (a + 1) 0 ≤ is.getD a 0)))]) (M1 := M) (r_acons (r_new h) r_anil) ((Mn.Sh.any_map (M := M) (fun a => decide (is.getD (a + 1) 0 ≤ is.getD a 0)) _).trans rfl)) rfl
theorem matched_nats {W : List Wt} (hk : 5 ≤ k) (h : Wk W) {v : D} (hv : Arg W v) {is : List Nat} (h2 : 2 ≤ is.length) (h4 : is.length ≤ 4) (hi : ∀ i ∈ is, i < W.length) : run tab n k false 18 [v, mtD (.tup (is.map nD))] M = .ok (.bl (!desc is && decide (0 < (atI is W).length))) M := by
 have q1 := mq1_tup (M := M) (W := W) (v := v) (is.map nD)
 rw [List.length_map, decide_eq_false oM] at q1
 have q2 := mq2_ok (k := k) (n := n) (M := M) (W := W) (v := v) (is.map nD) (ixB W.length) (fun x hx => by
  obtain ⟨i, _, rfl⟩ := List.mem_map.mp hx
  exact index_int oM _ _)
 have ha : (is.map nD).all (ixB W.length) = true := by
  rw [List.all_eq_true]
  intro x hx
  obtain ⟨i, hm, rfl⟩ := List.mem_map.mp hx
  have := hi i hm
  show (decide ((0 : Int) ≤ (i : Nat)) && decide (((i : Nat) : Int) < (W.length : Nat))) = true
  rw [decide_eq_true oM, decide_eq_true oM]; rfl
 rw [ha] at q2
 have q3 := mq3_ok (M := M) (W := W) (v := v) is oM
 cases hd : desc is with
 | true =>
  rw [hd] at q3
  exact does shal h18 oM rfl rfl (ub_cons (us_nm (r_cal (ds := [v]) (M1 := M) (r_acons (r_var rfl) r_anil) (known_ok oM h hv))) (ub_cons (us_if (k := false) q1 (fun h => Bool.noConfusion h) (fun _ => ub_nil)) (ub_cons (us_if (k := false) q2 (fun h => Bool.noConfusion h) (fun _ => ub_nil)) (ub_rt (us_if (k := true) q3 (fun _ => ub_rt (us_ret r_lit)) (fun h => Bool.noConfusion h)))))) (fin_id0 rfl)
 | false =>
  rw [hd] at q3
  refine does shal h18 oM rfl rfl (ub_cons (us_nm (r_cal (ds := [v]) (M1 := M) (r_acons (r_var rfl) r_anil) (known_ok oM h hv))) (ub_cons (us_if (k := false) q1 (fun h => Bool.noConfusion h) (fun _ => ub_nil)) (ub_cons (us_if (k := false) q2 (fun h => Bool.noConfusion h) (fun _ => ub_nil)) (ub_cons (us_if (k := false) q3 (fun h => Bool.noConfusion h) (fun _ => ub_nil)) (ub_rt (us_ret (d := .bl (decide (0 < (atI is W).length))) (M1 := M) (r_cmp (x := nD (atI is W).length) (y := .int 0) (M1 := M) (M2 := M) (r_blt (ds := [.lst ((atI is W).map ordD)]) (M1 := M) (r_acons (r_cal (ds := [wansT W, .tup (is.map nD)]) (M1 := M) (r_acons (r_var rfl) (r_acons m_att r_anil)) (chosen_ok oM h.wl hi h4)) r_anil) (by
   show some (D.int (((atI is W).map ordD).length : Nat)) = some (nD (atI is W).length)
   rw [List.length_map]; rfl)) r_lit ?_))))))) (fin_id0 rfl)
  show cmpK M .Gt (.int _) (.int _) = _
  rw [gt_int]
  congr 2
  rw [Bool.eq_iff_iff, decide_eq_true_iff, decide_eq_true_iff]; omega
end
end Mn.K62
end
section
namespace Mn.K62
open PySem Mn Mn.Sh
structure OrdOk (r : List T3) : Prop where
 l2 : 2 ≤ r.length
 l4 : r.length ≤ 4
 nm : ∀ t ∈ r, NameOk t.1 ∧ NameOk t.2.1 ∧ NameOk t.2.2
 nd : (parts r ++ brought r).Nodup
 inb : ∀ t ∈ r, t.2.2 ∈ brought r
 ne : ∀ t ∈ r, t.2.1 ≠ t.2.2
 ndt : (thirds r).Nodup
theorem OrdOk.pn {r : List T3} (h : OrdOk r) : (parts r).Nodup := (List.nodup_append.mp h.nd).1
theorem due_ordOk {W : List Wt} (h : Wk W) {r : List T3} (hr : r ∈ dueT W) : OrdOk r := by
 obtain ⟨L, hL, hf, h1, hok⟩ := mem_due.mp hr
 unfold okB at hok
 rw [Bool.and_eq_true, decide_eq_true_iff, decide_eq_true_iff] at hok
 have hm : ∀ t ∈ r, ∃ w ∈ W, fit t w := fun t ht => by
  obtain ⟨w, hw, hf⟩ := Fit.mem h.pn hf t ht
  exact ⟨w, hL.mem hw, hf⟩
 refine ⟨h1, ?_, fun t ht => ?_, ?_, fun t ht => hok.1 _ (List.mem_map.mpr ⟨t, ht, rfl⟩), fun t ht => ?_, hok.2⟩
 ·rw [hf.len]; exact Nat.le_trans hL.length_le h.l4
 ·obtain ⟨w, hw, e1, e2, e3⟩ := hm t ht
  rw [e1, e2]
  exact ⟨h.np w hw, h.ng w hw, h.nw w hw _ e3⟩
 ·rw [hf.br.1, hf.br.2]
  exact ((hL.map _).append (hL.map _)).nodup h.nd
 ·obtain ⟨w, hw, e1, e2, e3⟩ := hm t ht
  rw [e2]
  exact fun e => (h.wi w hw _ e3).2 e.symm
theorem slcL_to {xs : List D} {b : Nat} (h : b ≤ xs.length) {x : D} : slc x (.lst xs) none (some (b : Int)) = some (.lst (xs.take b)) := by
 have e : HT.sIx xs.length 0 none = 0 := rfl
 show some (D.lst (cut xs none (some (b : Int)))) = _
 unfold cut
 rw [sIx_nat h, e]
 simp
section
variable {n k : Nat} {M : Mem}
theorem need_names_T (hk : 1 ≤ k) {W : List T3} (h : OrdOk W) : run tab n k false 6 [ordD W] M = .ok .non M := by
 have hl := h.l4
 have one : ∀ (a : Nat) (f : T3 → Str) (B : List Str) (hf : ∀ (w : T3) (σ : Sl) (N : Mem), slot σ 2 = some (t3D w) → kIdx (kVar 2) (kLit (.int (a : Nat))) σ N = .ok (.str (f w)) N) (nd : (B ++ W.map f).Nodup) (y2 : Option D), B.length ≤ 4 →
   ∃ z2, sFor (gNm 2) (iIt (kVar 0)) (bCons (sIf (Sh.tCmp .In (kIdx (kVar 2) (kLit (.int (a : Nat)))) (kVar 1)) (bCons sDead bNil) bNil) (bCons (sAsg (gSb (kVar 1) (kIdx (kVar 2) (kLit (.int (a : Nat))))) (kLit (.bl true))) bNil)) [some (ordD W), some (.ref (M.length + 0)), y2] (M ++ [knS B]) = .nx [some (ordD W), some (.ref (M.length + 0)), z2] (M ++ [knS (B ++ W.map f)]) := by
  intro a f B hf nd y2 hB
  obtain ⟨σ2, M2, h1, ⟨z2, rfl⟩, rfl⟩ := us_for (l := W) (fd := t3D) (t := gNm 2) (it := iIt (kVar 0)) (σ := [some (ordD W), some (.ref (M.length + 0)), y2]) (M := M ++ [knS B]) (b := bCons (sIf (Sh.tCmp .In (kIdx (kVar 2) (kLit (.int (a : Nat)))) (kVar 1)) (bCons sDead bNil) bNil) (bCons (sAsg (gSb (kVar 1) (kIdx (kVar 2) (kLit (.int (a : Nat))))) (kLit (.bl true))) bNil))
   (fun j σ M' => (∃ y2, σ = [some (ordD W), some (.ref (M.length + 0)), y2]) ∧ M' = M ++ [knS (B ++ (W.take j).map f)]) (ui_it (x := ordD W) (r_var rfl) rfl) ⟨⟨_, rfl⟩, by simp⟩ (by
    rintro j w σ1 M1 hw ⟨⟨y2, rfl⟩, rfl⟩
    have hj := (List.getElem?_eq_some_iff.mp hw).1
    have e1 : (W.take (j + 1)).map f = (W.take j).map f ++ [f w] := by rw [List.take_add_one, hw, List.map_append]; rfl
    have hnot : f w ∉ B ++ (W.take j).map f := by
     have hs : (B ++ (W.take (j + 1)).map f).Sublist (B ++ W.map f) := (List.Sublist.refl B).append ((List.take_sublist _ _).map f)
     have := hs.nodup nd
     rw [e1, ← List.append_assoc, List.nodup_append] at this
     exact fun hm => this.2.2 _ hm _ (List.mem_singleton.mpr rfl) rfl
    have hg := get2_s (f w) _ hnot
    rw [e1, ← List.append_assoc]
    have hlen : (B ++ (W.take j).map f).length < 100 := by
     rw [List.length_append, List.length_map, List.length_take]; omega
    generalize B ++ (W.take j).map f = Z at hg hlen
    refine ⟨[some (ordD W), some (.ref (M.length + 0)), some (t3D w)], [some (ordD W), some (.ref (M.length + 0)), some (t3D w)], M ++ [knS (Z ++ [f w])], ug_nm, .inl (ub_cons (us_if (k := false) (M1 := M ++ [knS Z]) (ut_cmp (hf w _ _ rfl) (r_var rfl) ((in_dctS (M := M ++ [knS Z]) (d := .ref (M.length + 0)) (ps := Z.map fun x => (D.str x, D.bl true)) (dr_app (j := 0) rfl (by intro ps; exact D.noConfusion)) (kok_s _ _)).trans (by rw [hg]; rfl))) nF (fun _ => ub_nil)) (ub_cons (us_tg (d := .bl true) (M1 := M ++ [knS Z]) r_lit ?_) ub_nil)), ⟨_, rfl⟩, rfl⟩
    have := ug_sbk (M := M) (X := [knS Z]) (j := 0) (o' := kVar 1) (i' := kIdx (kVar 2) (kLit (.int (a : Nat)))) (d := .bl true) (σ := [some (ordD W), some (.ref (M.length + 0)), some (t3D w)]) (ps := Z.map fun x => (D.str x, D.bl true)) (key := .str (f w)) (r_var rfl) (hf w _ _ rfl) rfl (kok_s _ _) (by rw [List.length_map]; show _ < 16000000; omega)
    rw [dput_new hg] at this
    rw [this]
    show _ = Res.ok _ (M ++ [knS (Z ++ [f w])])
    unfold knS
    rw [List.map_append]
    rfl)
  rw [List.take_length] at h1
  exact ⟨z2, h1⟩
 obtain ⟨z2, l1⟩ := one 0 (fun w => w.1) [] (fun w σ N hs => r_idx (x := t3D w) (y := .int 0) (M1 := N) (M2 := N) (r_var hs) r_lit rfl) (by have := h.pn; unfold parts at this; simpa using this) none (by simp)
 obtain ⟨z3, l2⟩ := one 1 (fun w => w.2.1) (W.map fun w : T3 => w.1) (fun w σ N hs => r_idx (x := t3D w) (y := .int 1) (M1 := N) (M2 := N) (r_var hs) r_lit rfl) h.nd z2 (by rw [List.length_map]; exact hl)
 exact does0 shal h6 oM rfl rfl (ub_cons (us_nm (d := .ref (M.length + 0)) (M1 := M ++ [D.dct []]) (r_newX0 (d := D.dct []) un_dct0)) (ub_cons l1 (ub_cons l2 ub_nil))) (fin_id rfl)
theorem is_triple_ok (hk : 2 ≤ k) {t : T3} (h : NameOk t.1 ∧ NameOk t.2.1 ∧ NameOk t.2.2) : run tab n k false 5 [t3D t] M = .ok (.bl true) M := by
 have hl := lcp_map1 (σ := [some (t3D t), none]) (M := M) (i := 1) (vs := [1]) (l := [t.1, t.2.1, t.2.2]) (fd := D.str) (g := fun _ => .bl true) (it := iIt (kVar 0)) (c := tVal (kLit (.bl true))) (e := kCal (run tab n (k - 1) false) 3 (aCons (kVar 1) aNil)) (ui_it (x := t3D t) (M1 := M) (r_var rfl) rfl) (fun p hp => ut_val (x := .bl true) r_lit rfl) (fun x hx => r_cal (ds := [.str x]) (M1 := M) (r_acons (r_var rfl) r_anil) (is_name_ok oM (by
  simp only [List.mem_cons, List.not_mem_nil, or_false] at hx
  rcases hx with rfl | rfl | rfl
  ·exact h.1
  ·exact h.2.1
  ·exact h.2.2)))
 exact does shal h5 oM rfl rfl (ub_rt (us_ret (r_and (k := true) (kb := true) (r_blt (ds := [t3D t, .ty "tuple"]) (M1 := M) (r_acons (r_var rfl) (r_acons r_lit r_anil)) (isi_tt _)) (fun _ => r_and (k := true) (kb := true) (r_cmp (x := .int 3) (y := .int 3) (M1 := M) (M2 := M) (r_blt (ds := [t3D t]) (M1 := M) (r_acons (r_var rfl) r_anil) rfl) r_lit rfl) (fun _ => r_blt (ds := [.lst ([t.1, t.2.1, t.2.2].map fun _ => .bl true)]) (M1 := M) (r_acons (r_new hl) r_anil) ((Mn.Sh.all_map (M := M) (fun _ => true) [t.1, t.2.1, t.2.2]).trans (by simp))))))) (fin_id0 rfl)
def orD (r : List T3) : D := .ins 0 [(0, ordD r)]
theorem bel_orD (n : Nat) (r : List T3) : bel n (orD r) = true := by
 simp only [orD, Mn.bel, belf]
 rw [bel_ord]; rfl
abbrev slR (r : List T3) (N : Nat) (y2 y3 y4 : Option D) : Sl := [some (.ref N), some (ordD r), y2, y3, y4, none]
theorem for_pass {α : Type} {l : List α} {fd : α → D} {e : KE} {b : KS} {r : List T3} {N : Nat} {y2 y3 y4 : Option D} (hi : iIt e (slR r N y2 y3 y4) M = .ok ⟨l.map fd, [], none⟩ M) (h : ∀ p ∈ l, b (slR r N (some (fd p)) y3 y4) M = .nx (slR r N (some (fd p)) y3 y4) M) : ∃ z2, sFor (gNm 2) (iIt e) b (slR r N y2 y3 y4) M = .nx (slR r N z2 y3 y4) M := by
 obtain ⟨σ2, M2, h1, ⟨z2, rfl⟩, rfl⟩ := us_for (l := l) (fd := fd) (t := gNm 2) (it := iIt e) (σ := slR r N y2 y3 y4) (M := M) (b := b) (fun j σ M' => (∃ y2, σ = slR r N y2 y3 y4) ∧ M' = M) hi ⟨⟨_, rfl⟩, rfl⟩ (by
  rintro j p σ1 M1 hp ⟨⟨z, rfl⟩, rfl⟩
  exact ⟨_, _, _, ug_nm, .inl (h p (List.mem_of_getElem? hp)), ⟨_, rfl⟩, rfl⟩)
 exact ⟨z2, h1⟩
theorem col_lcp (r : List T3) (a : Nat) (f : T3 → Str) (hf : ∀ t, idx (t3D t) (.int (a : Nat)) = some (.str (f t))) {N : Nat} {y2 y3 y4 : Option D} : nLcp [2] (gNm 2) (iIt (kVar 1)) (tVal (kLit (.bl true))) (kIdx (kVar 2) (kLit (.int (a : Nat)))) (slR r N y2 y3 y4) M = .ok (.lst ((r.map f).map D.str)) M := by
 rw [List.map_map]
 exact lcp_map1 (l := r) (fd := t3D) (g := D.str ∘ f) (ui_it (x := ordD r) (M1 := M) (r_var rfl) rfl) (fun x hx => ut_val (x := .bl true) r_lit rfl) (fun x hx => r_idx (x := t3D x) (y := .int (a : Nat)) (M1 := M) (M2 := M) (r_var rfl) r_lit (hf x))
theorem order_mk (hk : 5 ≤ k) {r : List T3} (h : OrdOk r) : run tab n k true 0 [ordD r] M = .ok (orD r) M := by
 have hl2 := h.l2
 have hl4 := h.l4
 obtain ⟨N0, hN0⟩ : ∃ N0, N0 = M ++ [D.ins 0 []] := ⟨_, rfl⟩
 have i2 : ∀ (t : T3) (a : Nat) (f : T3 → Str) (hf : ∀ t, idx (t3D t) (.int (a : Nat)) = some (.str (f t))) (σ : Sl) (Y : Mem), slot σ 2 = some (t3D t) → kIdx (kVar 2) (kLit (.int (a : Nat))) σ Y = .ok (.str (f t)) Y := fun t a f hf σ Y hs => r_idx (x := t3D t) (y := .int (a : Nat)) (M1 := Y) (M2 := Y) (r_var hs) r_lit (hf t)
 have f1 : ∀ t : T3, idx (t3D t) (.int ((1 : Nat) : Int)) = some (.str t.2.1) := fun t => rfl
 have f2 : ∀ t : T3, idx (t3D t) (.int ((2 : Nat) : Int)) = some (.str t.2.2) := fun t => rfl
 have s1 := us_if (c := tOr (tNot (tVal (kBlt .isi (aCons (kVar 1) (aCons (kTup (aCons (kLit (.ty "list")) (aCons (kLit (.ty "tuple")) aNil))) aNil))))) (tNot (tVal (kChn .LtE .LtE (kLit (.int 2)) (kBlt .len (aCons (kVar 1) aNil)) (kLit (.int 4)))))) (p := bCons sDead bNil) (q := bNil) (σ := slR r M.length none none none) (M := N0) (k := false) (M1 := N0) (ut_or (k := false) (kb := false) (ut_not (k := true) (ut_val (x := .bl true) (M1 := N0) (r_blt (ds := [ordD r, .tup [.ty "list", .ty "tuple"]]) (M1 := N0) (r_acons (r_var rfl) (r_acons (r_tup (r_acons r_lit (r_acons r_lit r_anil))) r_anil)) (by
   show bi .isi [.tup (r.map t3D), .tup [.ty "list", .ty "tuple"]] = _
   simp [bi, biIsi, isAs, isA, tyD, isC])) rfl)) (fun _ => ut_not (k := true) (ut_val (x := .bl true) (M1 := N0) (by
   have := r_chn (σ := slR r M.length none none none) (M := N0) (M1 := N0) (M2 := N0) (a := kLit (.int 2)) (b := kBlt .len (aCons (kVar 1) aNil)) (c := kLit (.int 4)) (o1 := .LtE) (o2 := .LtE) (x := .int 2) (y := nD r.length) (z := .int 4) (k := true) (kb := true) r_lit (len_ord r rfl) (by rw [nD, le_int, decide_eq_true oM]) (fun _ => r_lit) (fun _ => by rw [nD, le_int, decide_eq_true oM])
   exact this) rfl))) (fun e => Bool.noConfusion e) (fun _ => ub_nil)
 obtain ⟨z2, s2⟩ := for_pass (M := N0) (l := r) (fd := t3D) (e := kVar 1) (b := bCons (sIf (tNot (tVal (kCal (run tab n (k - 2) false) 5 (aCons (kVar 2) aNil)))) (bCons sDead bNil) bNil) bNil) (r := r) (N := M.length) (y2 := none) (y3 := none) (y4 := none) (ui_it (x := ordD r) (M1 := N0) (r_var rfl) rfl) (fun t ht => ub_cons (us_if (k := false) (M1 := N0) (ut_not (k := true) (ut_val (x := .bl true) (M1 := N0) (r_cal (ds := [t3D t]) (M1 := N0) (r_acons (r_var rfl) r_anil) (is_triple_ok oM (h.nm t ht))) rfl)) (fun e => Bool.noConfusion e) (fun _ => ub_nil)) ub_nil)
 have s3 : sDrop (kCal (run tab n (k - 2) false) 6 (aCons (kVar 1) aNil)) (slR r M.length z2 none none) N0 = .nx (slR r M.length z2 none none) N0 := us_drop (r_cal (ds := [ordD r]) (M1 := N0) (r_acons (r_var rfl) r_anil) (need_names_T oM h))
 have s4 : sAsg (gNm 3) (kNew false (nLcp [2] (gNm 2) (iIt (kVar 1)) (tVal (kLit (.bl true))) (kIdx (kVar 2) (kLit (.int 1))))) (slR r M.length z2 none none) N0 = .nx (slR r M.length z2 (some (.lst ((brought r).map D.str))) none) N0 := us_nm (r_new (col_lcp r 1 (fun t => t.2.1) f1))
 obtain ⟨z3, s5⟩ := for_pass (M := N0) (l := r) (fd := t3D) (e := kVar 1) (b := bCons (sIf (Sh.tCmp .NotIn (kIdx (kVar 2) (kLit (.int 2))) (kVar 3)) (bCons sDead bNil) bNil) bNil) (r := r) (N := M.length) (y2 := z2) (y3 := some (.lst ((brought r).map D.str))) (y4 := none) (ui_it (x := ordD r) (M1 := N0) (r_var rfl) rfl) (fun t ht => ub_cons (us_if (k := false) (M1 := N0) (ut_cmp (i2 t 2 (fun t => t.2.2) f2 _ N0 rfl) (r_var rfl) (by rw [notin_strsL, decide_eq_true (h.inb t ht)]; rfl)) (fun e => Bool.noConfusion e) (fun _ => ub_nil)) ub_nil)
 have s6 : sAsg (gNm 4) (kNew false (nLcp [2] (gNm 2) (iIt (kVar 1)) (tVal (kLit (.bl true))) (kIdx (kVar 2) (kLit (.int 2))))) (slR r M.length z3 (some (.lst ((brought r).map D.str))) none) N0 = .nx (slR r M.length z3 (some (.lst ((brought r).map D.str))) (some (.lst ((thirds r).map D.str)))) N0 := us_nm (r_new (col_lcp r 2 (fun t => t.2.2) f2))
 have t1 : tVal (kBlt .any (aCons (kNew false (nLcp [2] (gNm 2) (iIt (kVar 1)) (tVal (kLit (.bl true))) (kCmp .Eq (kIdx (kVar 2) (kLit (.int 1))) (kIdx (kVar 2) (kLit (.int 2)))))) aNil)) (slR r M.length z3 (some (.lst ((brought r).map D.str))) (some (.lst ((thirds r).map D.str)))) N0 = .ok false N0 :=
  ut_val (x := .bl false) (M1 := N0) (r_blt (ds := [.lst (r.map fun t : T3 => .bl (decide (t.2.1 = t.2.2)))]) (M1 := N0) (r_acons (r_new (lcp_map1 (i := 2) (vs := [2]) (l := r) (fd := t3D) (g := fun t : T3 => .bl (decide (t.2.1 = t.2.2))) (ui_it (x := ordD r) (M1 := N0) (r_var rfl) rfl) (fun p hp => ut_val (x := .bl true) r_lit rfl) (fun t ht => r_cmp (i2 t 1 (fun t => t.2.1) f1 _ N0 rfl) (i2 t 2 (fun t => t.2.2) f2 _ N0 rfl) (cmp_str _ _)))) r_anil) ((Mn.Sh.any_map (M := N0) (fun t : T3 => decide (t.2.1 = t.2.2)) r).trans (by
   congr 2
   rw [List.any_eq_false]
   intro t ht
   simpa using h.ne t ht))) rfl
 have hlt : (thirds r).length = r.length := thirds_len r
 have t2 : tVal (kBlt .any (aCons (kNew false (nLcp [5] (gNm 5) (iRng1 (kBlt .len (aCons (kVar 4) aNil))) (tVal (kLit (.bl true))) (kCmp .In (kIdx (kVar 4) (kVar 5)) (kSlc (kVar 4) pNo (pEx (kVar 5)))))) aNil)) (slR r M.length z3 (some (.lst ((brought r).map D.str))) (some (.lst ((thirds r).map D.str)))) N0 = .ok false N0 :=
  ut_val (x := .bl false) (M1 := N0) (r_blt (ds := [.lst ((List.range (thirds r).length).map fun i => .bl (decide ((thirds r).getD i ⟨#[]⟩ ∈ (thirds r).take i)))]) (M1 := N0) (r_acons (r_new (lcp_map1 (i := 5) (vs := [5]) (l := List.range (thirds r).length) (fd := nD) (g := fun i => .bl (decide ((thirds r).getD i ⟨#[]⟩ ∈ (thirds r).take i))) (ui_rng1 (j := ((thirds r).length : Nat)) (r_blt (ds := [.lst ((thirds r).map D.str)]) (M1 := N0) (r_acons (r_var rfl) r_anil) (by
   show some (D.int (((thirds r).map D.str).length : Nat)) = _
   rw [List.length_map])) (rngD_nat oM)) (fun p hp => ut_val (x := .bl true) r_lit rfl) (fun i hi => by
    have hi := List.mem_range.mp hi
    have e : (thirds r)[i]? = some ((thirds r).getD i ⟨#[]⟩) := by
     rw [List.getD_eq_getElem?_getD, List.getElem?_eq_getElem hi]; rfl
    have hs := slcL_to (xs := (thirds r).map D.str) (b := i) (by rw [List.length_map]; omega) (x := .lst ((thirds r).map D.str))
    rw [← List.map_take] at hs
    exact r_cmp (x := .str ((thirds r).getD i ⟨#[]⟩)) (y := .lst (((thirds r).take i).map D.str)) (M1 := N0) (M2 := N0) (r_idx (x := .lst ((thirds r).map D.str)) (y := nD i) (M1 := N0) (M2 := N0) (r_var rfl) (r_var rfl) (idx_lstN e)) (r_slc (x := .lst ((thirds r).map D.str)) (l := none) (h' := some (i : Int)) (M1 := N0) (M2 := N0) (M3 := N0) (r_var rfl) r_pno (r_pex (r_var rfl)) hs) (in_strsL _ _)))) r_anil) ((Mn.Sh.any_map (M := N0) (fun i => decide ((thirds r).getD i ⟨#[]⟩ ∈ (thirds r).take i)) _).trans (by
   congr 2
   rw [List.any_eq_false]
   intro i hi
   have hi := List.mem_range.mp hi
   have e : (thirds r)[i]? = some ((thirds r).getD i ⟨#[]⟩) := by
    rw [List.getD_eq_getElem?_getD, List.getElem?_eq_getElem hi]; rfl
   simpa using not_takeS h.ndt e))) rfl
 have s7 := us_if (p := bCons sDead bNil) (q := bNil) (k := false) (ut_or (k := false) (kb := false) t1 (fun _ => t2)) (fun e => Bool.noConfusion e) (fun _ => ub_nil)
 subst hN0
 refine maks shal (C := clL[0]) h4 oM rfl rfl rfl rfl (ub_cons s1 (ub_cons s2 (ub_cons s3 (ub_cons s4 (ub_cons s5 (ub_cons s6 (ub_cons s7 (ub_cons (us_tg (d := ordD r) (M1 := M ++ [.ins 0 []]) (r_tupO (x := ordD r) (M1 := M ++ [.ins 0 []]) (r_var rfl) rfl) (ug_at (M := M) (X := [.ins 0 []]) (j := 0) (C := clL[0]) (r_var rfl) rfl rfl rfl (by decide))) ub_nil)))))))) ?_
 refine fin_frz ?_ (bel_orD _ _)
 show look M.length none _ 6 (M.length + 0) = _
 rw [look_at (j := 0) rfl (by intro ps; exact D.noConfusion)]
 exact sub_old (bel_orD _ _)
theorem matched_mk (hk : 2 ≤ k) {a a' : D} (ha : AsTo n (k - 2) a a') (h1 : ∀ m, bel m a' = true) : run tab n k true 1 [a] M = .ok (mtD a') M := by
 have bb : ∀ m, bel m (mtD a') = true := fun m => by
  simp only [mtD, Mn.bel, belf]
  rw [h1]; rfl
 refine maks shal (C := clL[1]) h7 oM rfl rfl rfl rfl (ub_cons (us_tg (d := a') (M1 := M ++ [.ins 1 []]) (r_cal (ds := [a]) (M1 := M ++ [.ins 1 []]) (r_acons (r_var rfl) r_anil) (ha _)) (ug_at (M := M) (X := [.ins 1 []]) (j := 0) (C := clL[1]) (r_var rfl) rfl rfl rfl (by decide))) ub_nil) ?_
 refine fin_frz ?_ (bb _)
 show look M.length none _ 6 (M.length + 0) = _
 rw [look_at (j := 0) rfl (by intro ps; exact D.noConfusion)]
 exact sub_old (bb _)
end
end Mn.K62
end
section
namespace Mn.K62
open PySem Mn Mn.Sh
theorem lcpC {α : Type} {σ : Sl} {M : Mem} {l : List α} {fd : α → D} {g : α → D} {vs : List Nat} {t : KG} {it : KI} {c : Sh.KT} {e : KE} (P : Mem → Prop) (Q : α → Prop) (hi : it σ M = .ok ⟨l.map fd, [], none⟩ M) (h0 : P M)
  (h : ∀ p ∈ l, ∀ M1, P M1 → ∃ σ2 b M2, t (fd p) (wipe σ vs) M1 = .ok σ2 M1 ∧ c σ2 M1 = .ok b M2 ∧ P M2 ∧ (b = true → Q p) ∧ e σ2 M2 = .ok (g p) M2) : ∃ (l' : List α) (M' : Mem), nLcp vs t it c e σ M = .ok (.lst (l'.map g)) M' ∧ P M' ∧ l'.Sublist l ∧ ∀ p ∈ l', Q p := by
 unfold nLcp; rw [hi]
 have key : ∀ l0 : List α, (∀ p ∈ l0, p ∈ l) → ∀ M1, P M1 → ∃ (l' : List α) (M' : Mem), lcL (lcF vs t c e σ) (⟨l.map fd, [], none⟩ : Walk) (l0.map fd) M1 = .ok (l'.map g) M' ∧ P M' ∧ l'.Sublist l0 ∧ ∀ p ∈ l', Q p := by
  intro l0
  induction l0 with
  | nil => intro _ M1 h1; exact ⟨[], M1, by unfold lcL; rfl, h1, List.Sublist.slnil, fun p hp => by cases hp⟩
  | cons p r ih =>
   intro hs M1 hp1
   obtain ⟨σ2, b, M2, h1, h2, h5, hq, h3⟩ := h p (hs p List.mem_cons_self) M1 hp1
   obtain ⟨l', M', g1, g2, g3, g4⟩ := ih (fun q hq => hs q (List.mem_cons_of_mem _ hq)) M2 h5
   rw [List.map_cons]
   cases b with
   | true =>
    refine ⟨p :: l', M', ?_, g2, g3.cons₂ _, fun q hm => by
     rcases List.mem_cons.mp hm with rfl | hm
     ·exact hq rfl
     ·exact g4 q hm⟩
    unfold lcL
    have : lcF vs t c e σ (fd p) M1 = .ok (some (g p)) M2 := by
     unfold lcF; rw [h1]
     show ((c σ2 M1).bind _) = _
     rw [h2]
     show ((e σ2 M2).bind _) = _
     rw [h3]; rfl
    rw [this]
    show (if Walk.ok _ M1 = true then ((lcL _ _ (r.map fd) M2).bind fun zs M3 => Res.ok (g p :: zs) M3) else .bad) = _
    rw [g1]; rfl
   | false =>
    refine ⟨l', M', ?_, g2, g3.cons _, g4⟩
    unfold lcL
    have : lcF vs t c e σ (fd p) M1 = .ok none M2 := by
     unfold lcF; rw [h1]
     show ((c σ2 M1).bind _) = _
     rw [h2]; rfl
    rw [this]
    show (if Walk.ok _ M1 = true then ((lcL _ _ (r.map fd) M2).bind fun zs M3 => Res.ok zs M3) else .bad) = _
    rw [g1]; rfl
 obtain ⟨l', M', g1, g2, g3, g4⟩ := key l (fun p hp => hp) M h0
 refine ⟨l', M', ?_, g2, g3, g4⟩
 show ((lcL _ (⟨l.map fd, [], none⟩ : Walk) (l.map fd) M).mapM _ |>.bind fun ys M2 => Res.ok (D.lst ys) M2) = _
 rw [g1]; rfl
theorem getD_str {is : List Str} {a : Nat} (h : a < is.length) : is[a]? = some (is.getD a ⟨#[]⟩) := by
 rw [List.getD_eq_getElem?_getD, List.getElem?_eq_getElem h]; rfl
theorem r_appM {σ : Sl} {M N X : Mem} {j : Nat} {a e : KE} {d : D} {ys zs : List D} (ha : a σ N = .ok (.ref (M.length + j)) N) (hz : dr N (.ref (M.length + j)) = .lst zs) (hx : X[j]? = some (.lst ys)) (he : e σ N = .ok d (M ++ X)) (hl : ys.length < big) : kApp a e σ N = .ok .non (M ++ X.set j (.lst (ys ++ [d]))) := by
 unfold kApp
 rw [ha]
 show (if !isL (dr N (.ref (M.length + j))) then .bad else (e σ N).bind _) = _
 rw [hz]
 show ((e σ N).bind _) = _
 rw [he]
 show (match store (M ++ X) (.ref (M.length + j)) (pushL d) with | some M3 => .ok .non M3 | none => .bad : Res D) = _
 rw [store_app hx (d' := .lst (ys ++ [d])) (if_pos hl)]
theorem ut_andM {σ : Sl} {M M2 : Mem} {kb : Bool} {t u : Sh.KT} (h : t σ M = .ok true M) (h2 : u σ M = .ok kb M2) : tAnd t u σ M = .ok kb M2 := by
 unfold tAnd; rw [h]
 exact h2
abbrev slW (ps gs : List Str) (l : List Str) (m thin N : Nat) (y7 y8 : Option D) : Sl := [some (.ref 0), some (nD m), some (tupS l), some (tupS ps), some (tupS gs), some (nD thin), some (.ref (N + 0)), y7, y8, none]
theorem drawn_ok {n k : Nat} {X : Mem} (hk : 5 ≤ k) (hn : 3 < n) {c : Pen} (hc : PenOk c) : ∃ (W : List Wt) (c' : Pen), PenOk c' ∧ Wk W ∧ run tab n k false 28 [.ref 0] (penD c :: X) = .ok (wansT W) (penD c' :: X) := by
 obtain ⟨r1, c1, hc1, hr1, d1⟩ := draw_ok (n := n) (k := k - 1) (X := X) oM hc (many := 3) oM oM
 obtain ⟨m, hm⟩ : ∃ m, m = 2 + r1 := ⟨_, rfl⟩
 obtain ⟨l, c2, hc2, hll, hnd, hln, d2⟩ := names_ok (n := n) (k := k - 1) (X := X) oM hn hc1 (many := 2 * m) oM
 obtain ⟨r2, c3, hc3, hr2, d3⟩ := draw_ok (n := n) (k := k - 1) (X := X) oM hc2 (many := 2) oM oM
 obtain ⟨th, hth⟩ : ∃ th, th = 2 + r2 := ⟨_, rfl⟩
 obtain ⟨ps, hps⟩ : ∃ ps, ps = l.take m := ⟨_, rfl⟩
 obtain ⟨gs, hgs⟩ : ∃ gs, gs = l.drop m := ⟨_, rfl⟩
 have lp : ps.length = m := by rw [hps, List.length_take]; omega
 have lg : gs.length = m := by rw [hgs, List.length_drop]; omega
 have hpg : ps ++ gs = l := by rw [hps, hgs, List.take_append_drop]
 have ndg : gs.Nodup := by
  have := hnd
  rw [← hpg, List.nodup_append] at this
  exact this.2.1
 have hN : ∀ x ∈ ps ++ gs, NameOk x := fun x hx => (hln x (hpg ▸ hx)).toNameOk
 have s1 : sAsg (gNm 1) (kBin .Add (kLit (.int 2)) (kCal (run tab n (k - 1) false) 22 (aCons (kVar 0) (aCons (kLit (.int 3)) aNil)))) [some (.ref 0), none, none, none, none, none, none, none, none, none] (penD c :: X) = .nx [some (.ref 0), some (nD m), none, none, none, none, none, none, none, none] (penD c1 :: X) :=
  us_nm (r_bin (x := .int 2) (y := .int (r1 : Nat)) (M1 := penD c :: X) (M2 := penD c1 :: X) r_lit (r_cal (ds := [.ref 0, .int 3]) (M1 := penD c :: X) (r_acons (r_var rfl) (r_acons r_lit r_anil)) d1) (by
   show some (D.int (2 + (r1 : Int))) = some (D.int (m : Nat))
   congr 2; omega))
 have s2 : sAsg (gNm 2) (kCal (run tab n (k - 1) false) 27 (aCons (kVar 0) (aCons (kBin .Mult (kLit (.int 2)) (kVar 1)) aNil))) [some (.ref 0), some (nD m), none, none, none, none, none, none, none, none] (penD c1 :: X) = .nx [some (.ref 0), some (nD m), some (tupS l), none, none, none, none, none, none, none] (penD c2 :: X) :=
  us_nm (r_cal (ds := [.ref 0, .int ((2 * m : Nat) : Int)]) (M1 := penD c1 :: X) (r_acons (r_var rfl) (r_acons (r_ints (i := 2) (j := (m : Nat)) r_lit (r_var rfl) (by
   rw [b_mulR (by unfold small64; simp; omega)]
   congr 2)) r_anil)) d2)
 have st := slcT_to (xs := l.map D.str) (b := m) (by rw [List.length_map]; omega)
 have sf := slcT_from (xs := l.map D.str) m
 rw [← List.map_take, ← hps] at st
 rw [← List.map_drop, ← hgs] at sf
 have s3 : sAsg (gTp 3 (gCons (gNm 3) (gCons (gNm 4) (gCons (gNm 5) gNil)))) (kTup (aCons (kSlc (kVar 2) pNo (pEx (kVar 1))) (aCons (kSlc (kVar 2) (pEx (kVar 1)) pNo) (aCons (kBin .Add (kLit (.int 2)) (kCal (run tab n (k - 1) false) 22 (aCons (kVar 0) (aCons (kLit (.int 2)) aNil)))) aNil)))) [some (.ref 0), some (nD m), some (tupS l), none, none, none, none, none, none, none] (penD c2 :: X) = .nx [some (.ref 0), some (nD m), some (tupS l), some (tupS ps), some (tupS gs), some (nD th), none, none, none, none] (penD c3 :: X) :=
  us_tg (d := .tup [tupS ps, tupS gs, nD th]) (M1 := penD c3 :: X) (r_tup (r_acons (r_slc (x := tupS l) (l := none) (h' := some (m : Int)) (M1 := penD c2 :: X) (M2 := penD c2 :: X) (M3 := penD c2 :: X) (r_var rfl) r_pno (r_pex (r_var rfl)) st) (r_acons (r_slc (x := tupS l) (l := some (m : Int)) (h' := none) (M1 := penD c2 :: X) (M2 := penD c2 :: X) (M3 := penD c2 :: X) (r_var rfl) (r_pex (r_var rfl)) r_pno sf) (r_acons (r_bin (x := .int 2) (y := .int (r2 : Nat)) (M1 := penD c2 :: X) (M2 := penD c3 :: X) r_lit (r_cal (ds := [.ref 0, .int 2]) (M1 := penD c2 :: X) (r_acons (r_var rfl) (r_acons r_lit r_anil)) d3) (by
   show some (D.int (2 + (r2 : Int))) = some (D.int (th : Nat))
   congr 2; omega)) r_anil)))) (tp3 rfl)
 have s4 : sAsg (gNm 6) (kNew true (nLst aNil)) [some (.ref 0), some (nD m), some (tupS l), some (tupS ps), some (tupS gs), some (nD th), none, none, none, none] (penD c3 :: X) = .nx (slW ps gs l m th (X.length + 1) none none) ((penD c3 :: X) ++ [.lst []]) := us_nm (r_newX0 (un_lst r_anil))
 obtain ⟨σ5, M5, s5, ⟨y7, y8, rfl⟩, W, c5, hc5, rfl, e1, e2, hW⟩ := us_for (l := List.range m) (fd := nD) (t := gNm 7) (it := iRng1 (kVar 1)) (σ := slW ps gs l m th (X.length + 1) none none) (M := (penD c3 :: X) ++ [.lst []])
  (b := bCons (sAsg (gNm 8) (kNew false (nLcp [9] (gNm 9) (iIt (kVar 4)) (tAnd (Sh.tCmp .NotEq (kVar 9) (kIdx (kVar 4) (kVar 7))) (Sh.tCmp .Eq (kCal (run tab n (k - 1) false) 22 (aCons (kVar 0) (aCons (kVar 5) aNil))) (kLit (.int 0)))) (kVar 9)))) (bCons (sDrop (kApp (kVar 6) (kTup (aCons (kIdx (kVar 3) (kVar 7)) (aCons (kIdx (kVar 4) (kVar 7)) (aCons (kTupO false (kCal (run tab n (k - 1) false) 24 (aCons (kVar 0) (aCons (kVar 8) aNil)))) aNil)))))) bNil))
  (fun j σ M' => (∃ y7 y8, σ = slW ps gs l m th (X.length + 1) y7 y8) ∧ ∃ (W : List Wt) (c : Pen), PenOk c ∧ M' = (penD c :: X) ++ [.lst (W.map wanD)] ∧ pts W = ps.take j ∧ gds W = gs.take j ∧ ∀ w ∈ W, w.2.2.Nodup ∧ ∀ x ∈ w.2.2, x ∈ gs ∧ x ≠ w.2.1)
  (ui_rng1 (j := (m : Nat)) (r_var rfl) (rngD_nat oM)) ⟨⟨_, _, rfl⟩, [], c3, hc3, rfl, rfl, rfl, fun w hw => by cases hw⟩ (by
   rintro j i σ1 M1 hi ⟨⟨y7, y8, rfl⟩, W, c, hc, rfl, e1, e2, hW⟩
   obtain ⟨hjm, rfl⟩ : j < m ∧ i = j := by
    obtain ⟨h1, h2⟩ := List.getElem?_eq_some_iff.mp hi
    rw [List.length_range] at h1
    exact ⟨h1, by rw [← h2, List.getElem_range]⟩
   have hlW : W.length = i := by
    have := congrArg List.length e1
    unfold pts at this
    rw [List.length_map, List.length_take] at this
    omega
   obtain ⟨wl, M6, w1, ⟨c6, hc6, rfl⟩, w3, w4⟩ := lcpC (l := gs) (fd := D.str) (g := D.str) (vs := [9]) (t := gNm 9) (it := iIt (kVar 4)) (c := tAnd (Sh.tCmp .NotEq (kVar 9) (kIdx (kVar 4) (kVar 7))) (Sh.tCmp .Eq (kCal (run tab n (k - 1) false) 22 (aCons (kVar 0) (aCons (kVar 5) aNil))) (kLit (.int 0)))) (e := kVar 9) (σ := slW ps gs l m th (X.length + 1) (some (nD i)) y8) (M := (penD c :: X) ++ [.lst (W.map wanD)]) (fun M => ∃ c, PenOk c ∧ M = (penD c :: X) ++ [.lst (W.map wanD)]) (fun g => g ≠ gs.getD i ⟨#[]⟩) (ui_it (x := tupS gs) (M1 := (penD c :: X) ++ [.lst (W.map wanD)]) (r_var rfl) rfl) ⟨c, hc, rfl⟩ (by
    rintro g hg M7 ⟨c7, hc7, rfl⟩
    obtain ⟨r, c8, hc8, hr, d8⟩ := draw_ok (n := n) (k := k - 1) (X := X ++ [.lst (W.map wanD)]) oM hc7 (many := th) oM oM
    have t1 : Sh.tCmp .NotEq (kVar 9) (kIdx (kVar 4) (kVar 7)) (slW ps gs l m th (X.length + 1) (some (nD i)) y8 |>.set 9 (some (.str g))) ((penD c7 :: X) ++ [.lst (W.map wanD)]) = .ok (!decide (g = gs.getD i ⟨#[]⟩)) ((penD c7 :: X) ++ [.lst (W.map wanD)]) := ut_cmp (x := .str g) (y := .str (gs.getD i ⟨#[]⟩)) (M1 := (penD c7 :: X) ++ [.lst (W.map wanD)]) (M2 := (penD c7 :: X) ++ [.lst (W.map wanD)]) (r_var rfl) (r_idx (x := tupS gs) (y := nD i) (M1 := (penD c7 :: X) ++ [.lst (W.map wanD)]) (M2 := (penD c7 :: X) ++ [.lst (W.map wanD)]) (r_var rfl) (r_var rfl) (idx_tupS oM)) (cmp_strN _ _)
    by_cases he : g = gs.getD i ⟨#[]⟩
    ·rw [decide_eq_true he] at t1
     exact ⟨_, false, _, ug_nm, ut_and (k := false) (kb := false) t1 (fun h => by cases h), ⟨c7, hc7, rfl⟩, (fun h => Bool.noConfusion h), r_var rfl⟩
    ·rw [decide_eq_false he] at t1
     exact ⟨_, decide ((r : Int) = 0), _, ug_nm, ut_andM t1 (ut_cmp (x := .int (r : Nat)) (y := .int 0) (M1 := (penD c8 :: X) ++ [.lst (W.map wanD)]) (M2 := (penD c8 :: X) ++ [.lst (W.map wanD)]) (r_cal (ds := [.ref 0, .int (th : Nat)]) (M1 := (penD c7 :: X) ++ [.lst (W.map wanD)]) (r_acons (r_var rfl) (r_acons (r_var rfl) r_anil)) d8) r_lit rfl), ⟨c8, hc8, rfl⟩, fun _ => he, r_var rfl⟩)
   obtain ⟨sh, c9, hc9, hp, d9⟩ := shuffled_ok (n := n) (k := k - 1) (X := X ++ [.lst (W.map wanD)]) (x := .lst (wl.map D.str)) (l := wl) (f := D.str) oM hc6 (fun _ _ => rfl) (fun _ => rfl) (by have := w3.length_le; omega)
   have hd6 : dr ((penD c6 :: X) ++ [.lst (W.map wanD)]) (.ref ((penD c9 :: X).length + 0)) = .lst (W.map wanD) := dr_app (M := penD c6 :: X) (j := 0) rfl (by intro ps; exact D.noConfusion)
   have ap := r_appM (σ := slW ps gs l m th (X.length + 1) (some (nD i)) (some (.lst (wl.map D.str)))) (M := penD c9 :: X) (N := (penD c6 :: X) ++ [.lst (W.map wanD)]) (X := [.lst (W.map wanD)]) (j := 0) (a := kVar 6) (e := kTup (aCons (kIdx (kVar 3) (kVar 7)) (aCons (kIdx (kVar 4) (kVar 7)) (aCons (kTupO false (kCal (run tab n (k - 1) false) 24 (aCons (kVar 0) (aCons (kVar 8) aNil)))) aNil)))) (d := wanD (ps.getD i ⟨#[]⟩, gs.getD i ⟨#[]⟩, sh)) (ys := W.map wanD) (zs := W.map wanD) (r_var rfl) hd6 rfl
    (r_tup (r_acons (r_idx (x := tupS ps) (y := nD i) (M1 := (penD c6 :: X) ++ [.lst (W.map wanD)]) (M2 := (penD c6 :: X) ++ [.lst (W.map wanD)]) (r_var rfl) (r_var rfl) (idx_tupS oM)) (r_acons (r_idx (x := tupS gs) (y := nD i) (M1 := (penD c6 :: X) ++ [.lst (W.map wanD)]) (M2 := (penD c6 :: X) ++ [.lst (W.map wanD)]) (r_var rfl) (r_var rfl) (idx_tupS oM)) (r_acons (r_tupO (x := .lst (sh.map D.str)) (M1 := (penD c9 :: X) ++ [.lst (W.map wanD)]) (r_cal (ds := [.ref 0, .lst (wl.map D.str)]) (M1 := (penD c6 :: X) ++ [.lst (W.map wanD)]) (r_acons (r_var rfl) (r_acons (r_var rfl) r_anil)) d9) rfl) r_anil)))) (by rw [List.length_map]; show _ < 16000000; omega)
   have t1 : ps.take (i + 1) = ps.take i ++ [ps.getD i ⟨#[]⟩] := by
    rw [List.take_add_one, getD_str oM]; rfl
   have t2 : gs.take (i + 1) = gs.take i ++ [gs.getD i ⟨#[]⟩] := by
    rw [List.take_add_one, getD_str oM]; rfl
   refine ⟨slW ps gs l m th (X.length + 1) (some (nD i)) y8, slW ps gs l m th (X.length + 1) (some (nD i)) (some (.lst (wl.map D.str))), _, ug_nm, .inl (ub_cons (us_nm (r_new w1)) (ub_cons (us_drop ap) ub_nil)), ⟨_, _, rfl⟩, W ++ [(ps.getD i ⟨#[]⟩, gs.getD i ⟨#[]⟩, sh)], c9, hc9, ?_, ?_, ?_, ?_⟩
   ·rw [List.map_append]; rfl
   ·unfold pts at e1 ⊢
    rw [List.map_append, e1, t1]; rfl
   ·unfold gds at e2 ⊢
    rw [List.map_append, e2, t2]; rfl
   ·intro w hw
    rcases List.mem_append.mp hw with hw | hw
    ·exact hW w hw
    ·obtain rfl := List.mem_singleton.mp hw
     exact ⟨hp.nodup_iff.mpr (w3.nodup ndg), fun x hx => ⟨w3.mem (hp.mem_iff.mp hx), w4 x (hp.mem_iff.mp hx)⟩⟩)
 rw [List.length_range, List.take_of_length_le oM] at e1 e2
 have hlW : W.length = m := by
  have := congrArg List.length e1
  unfold pts at this
  rw [List.length_map] at this
  omega
 have hg : ∀ w ∈ W, w.2.1 ∈ gs := fun w hw => by rw [← e2]; exact List.mem_map.mpr ⟨w, hw, rfl⟩
 refine ⟨W, c5, hc5, ⟨by omega, by omega, fun w hw => hN _ (List.mem_append_left _ (by rw [← e1]; exact List.mem_map.mpr ⟨w, hw, rfl⟩)), fun w hw => hN _ (List.mem_append_right _ (hg w hw)), fun w hw x hx => hN _ (List.mem_append_right _ ((hW w hw).2 x hx).1), by rw [e1, e2, hpg]; exact hnd, fun w hw => (hW w hw).1, fun w hw x hx => ⟨by rw [e2]; exact ((hW w hw).2 x hx).1, ((hW w hw).2 x hx).2⟩⟩, ?_⟩
 have hd5 : dr ((penD c5 :: X) ++ [.lst (W.map wanD)]) (.ref (X.length + 1 + 0)) = .lst (W.map wanD) := dr_app (M := penD c5 :: X) (j := 0) rfl (by intro ps; exact D.noConfusion)
 exact does shal h28 oM rfl rfl (ub_cons s1 (ub_cons s2 (ub_cons s3 (ub_cons s4 (ub_cons s5 (ub_rt (us_ret (d := wansT W) (M1 := (penD c5 :: X) ++ [.lst (W.map wanD)]) (r_tupO (x := .ref (X.length + 1 + 0)) (M1 := (penD c5 :: X) ++ [.lst (W.map wanD)]) (r_var rfl) (by rw [hd5]; rfl)))))))))  (fin_pen (bel_wansT _ W))
end Mn.K62
end
section
namespace Mn.K62
open PySem Mn Mn.Sh
theorem isi_it (i : Int) : bi .isi [.int i, .ty "tuple"] = some (.bl false) := by simp [bi, biIsi, isA, tyD]
theorem isi_is (i : Int) : bi .isi [.int i, .ty "str"] = some (.bl false) := by simp [bi, biIsi, isA, tyD]
theorem isi_ii' (i : Int) : bi .isi [.int i, .ty "int"] = some (.bl true) := by simp [bi, biIsi, isA, tyD]
theorem isi_ib' (i : Int) : bi .isi [.int i, .ty "bool"] = some (.bl false) := by simp [bi, biIsi, isA, tyD]
theorem is_nat {n k : Nat} {M : Mem} (hk : 1 ≤ k) (i : Nat) : run tab n k false i__law_is [nD i, nD i] M = .ok (.bl true) M := by
 refine does shal h25 oM rfl rfl (d := .bl (true && (true && true))) (M' := M) ?_ (fin_id0 rfl)
 refine ub_cons (us_if (k := false) (M1 := M) (ut_val (x := .bl false) (M1 := M) (r_blt (ds := [nD i, .ty "tuple"]) (M1 := M) (r_acons (r_var rfl) (r_acons r_lit r_anil)) (isi_it _)) rfl) nF (fun _ => ub_nil)) ?_
 refine ub_cons (us_if (k := false) (M1 := M) (ut_cmp (r_var rfl) r_lit rfl) nF (fun _ => ub_nil)) ?_
 refine ub_cons (us_if (k := false) (M1 := M) (ut_cmp (r_var rfl) r_lit rfl) nF (fun _ => ub_nil)) ?_
 refine ub_cons (us_if (k := false) (M1 := M) (ut_cmp (r_var rfl) r_lit rfl) nF (fun _ => ub_nil)) ?_
 refine ub_cons (us_if (k := false) (M1 := M) (ut_val (x := .bl false) (M1 := M) (r_blt (ds := [nD i, .ty "str"]) (M1 := M) (r_acons (r_var rfl) (r_acons r_lit r_anil)) (isi_is _)) rfl) nF (fun _ => ub_nil)) ?_
 exact ub_rt (us_ret (r_and (k := true) (r_blt (ds := [nD i, .ty "int"]) (M1 := M) (r_acons (r_var rfl) (r_acons r_lit r_anil)) (isi_ii' _)) (fun _ => r_and (k := true) (r_not (x := .bl false) (r_blt (ds := [nD i, .ty "bool"]) (M1 := M) (r_acons (r_var rfl) (r_acons r_lit r_anil)) (isi_ib' _)) rfl) (fun _ => r_cmp (r_var rfl) (r_var rfl) ((cmp_nD i i).trans (by rw [decide_eq_true rfl]))))))
theorem is_non {n k : Nat} {M : Mem} (hk : 1 ≤ k) : run tab n k false i__law_is [.non, .non] M = .ok (.bl true) M :=
 does shal h25 oM rfl rfl (d := .bl true) (M' := M) (ub_cons (us_if (k := false) (M1 := M) (ut_val (x := .bl false) (M1 := M) (r_blt (ds := [.non, .ty "tuple"]) (M1 := M) (r_acons (r_var rfl) (r_acons r_lit r_anil)) rfl) rfl) nF (fun _ => ub_nil)) (ub_rt (us_if (k := true) (M1 := M) (ut_cmp (r_var rfl) r_lit rfl) (fun _ => ub_rt (us_ret (r_cmp (r_var rfl) r_lit rfl))) (fun e => Bool.noConfusion e)))) (fin_id0 rfl)
theorem is_t3 {n k : Nat} {M : Mem} (hk : 2 ≤ k) (t : T3) : run tab n k false i__law_is [t3D t, t3D t] M = .ok (.bl true) M :=
 is_tup oM ([t.1, t.2.1, t.2.2].map D.str) (fun x hx => by
  obtain ⟨y, _, rfl⟩ := List.mem_map.mp hx
  exact is_str oM y) (by rw [List.length_map]; show 3 < 100000; omega)
theorem is_ord {n k : Nat} {M : Mem} (hk : 3 ≤ k) {r : List T3} (hl : r.length < 1000) : run tab n k false i__law_is [ordD r, ordD r] M = .ok (.bl true) M :=
 is_tup oM _ (fun x hx => by
  obtain ⟨y, _, rfl⟩ := List.mem_map.mp hx
  exact is_t3 oM y) (by rw [List.length_map]; omega)
theorem is_ords {n k : Nat} {M : Mem} (hk : 4 ≤ k) {l : List (List T3)} (hl : l.length < 100000) (h : ∀ r ∈ l, r.length < 1000) : run tab n k false i__law_is [.tup (l.map ordD), .tup (l.map ordD)] M = .ok (.bl true) M :=
 is_tup oM _ (fun x hx => by
  obtain ⟨y, hy, rfl⟩ := List.mem_map.mp hx
  exact is_ord oM (h y hy)) (by rw [List.length_map]; omega)
theorem is_strs {n k : Nat} {M : Mem} (hk : 2 ≤ k) {l : List Str} (hl : l.length < 100000) : run tab n k false i__law_is [tupS l, tupS l] M = .ok (.bl true) M :=
 is_tup oM _ (fun x hx => by
  obtain ⟨y, _, rfl⟩ := List.mem_map.mp hx
  exact is_str oM y) (by rw [List.length_map]; omega)
theorem ords_few {W : List Wt} (h : Wk W) : (ords W).length ≤ 625 := by
 have h1 : (ords W).length = (dueT W).length := sortBy_len ordD _
 have h2 : (dueT W).length ≤ (allT W).length := List.length_filter_le _ _
 have h3 := allT_len W [[]] h.wl
 have h4 := Nat.pow_le_pow_right (n := 5) oM h.l4
 unfold allT at h2
 simp only [List.length_cons, List.length_nil] at h3
 omega
theorem ords_row {W : List Wt} (h : Wk W) {r : List T3} (hr : r ∈ ords W) : r.length ≤ 4 := (due_ordOk h (mem_ords.mp hr)).l4
abbrev fls : KS := bCons (sRet (kLit (.bl false))) bNil
section
variable {n k : Nat} {N : Mem} {σ : Sl}
theorem chk {a b : KE} {d : D} (ha : a σ N = .ok d N) (hb : b σ N = .ok d N) (hi : run tab n (k - 1) false 25 [d, d] N = .ok (.bl true) N) : sIf (tNot (tVal (kCal (run tab n (k - 1) false) 25 (aCons a (aCons b aNil))))) fls bNil σ N = .nx σ N :=
 us_if (k := false) (M1 := N) (ut_not (k := true) (ut_val (x := .bl true) (M1 := N) (r_cal (ds := [d, d]) (M1 := N) (r_acons ha (r_acons hb r_anil)) hi) rfl)) (fun h => Bool.noConfusion h) (fun _ => ub_nil)
abbrev sl62 (a0 y2 y3 y4 y5 y6 y7 y8 y9 y10 y11 y12 y13 y14 y15 y16 : Option D) : Sl := [a0, some (.ref 0), y2, y3, y4, y5, y6, y7, y8, y9, y10, y11, y12, y13, y14, y15, y16, none, none, none]
abbrev dueD (W : List Wt) : Option D := some (.lst ((ords W).map ordD))
variable {W : List Wt} {v : D} {a0 y2 y6 y7 y8 y9 y10 y11 y12 y13 y14 y15 y16 : Option D}
theorem st_in (hk : 6 ≤ k) (h : Wk W) (hv : Arg W v) : sIf (tNot (tVal (kCal (run tab n (k - 1) false) 25 (aCons (kCal (run tab n (k - 1) false) 16 (aCons (kVar 4) aNil)) (aCons (kTupO false (kVar 5)) aNil))))) fls bNil (sl62 a0 y2 (some (wansT W)) (some v) (dueD W) y6 y7 y8 y9 y10 y11 y12 y13 y14 y15 y16) N = .nx (sl62 a0 y2 (some (wansT W)) (some v) (dueD W) y6 y7 y8 y9 y10 y11 y12 y13 y14 y15 y16) N := by
 have hf := ords_few h
 exact chk (d := .tup ((ords W).map ordD)) (r_cal (ds := [v]) (M1 := N) (r_acons (r_var rfl) r_anil) (orders_in_ok oM h hv)) (r_tupO (x := .lst ((ords W).map ordD)) (M1 := N) (r_var rfl) rfl) (is_ords oM oM (fun r hr => by have := ords_row h hr; omega))
theorem st_ord (hk : 7 ≤ k) (h : Wk W) : sIf (Sh.tCmp .NotEq (kNew false (nLcp [9] (gNm 9) (iIt (kVar 5)) (Sh.tCmp .NotEq (kAtt (kMak (run tab n (k - 1) true) 0 (aCons (kVar 9) aNil)) 0) (kVar 9)) (kVar 9))) (kNew false (nLst aNil))) fls bNil (sl62 a0 y2 (some (wansT W)) (some v) (dueD W) y6 y7 y8 y9 y10 y11 y12 y13 y14 y15 y16) N = .nx (sl62 a0 y2 (some (wansT W)) (some v) (dueD W) y6 y7 y8 y9 y10 y11 y12 y13 y14 y15 y16) N := by
 have hl := lcp_filter1 (σ := sl62 a0 y2 (some (wansT W)) (some v) (dueD W) y6 y7 y8 y9 y10 y11 y12 y13 y14 y15 y16) (M := N) (i := 9) (vs := [9]) (l := ords W) (fd := ordD) (g := ordD) (pr := fun _ => false) (it := iIt (kVar 5)) (c := Sh.tCmp .NotEq (kAtt (kMak (run tab n (k - 1) true) 0 (aCons (kVar 9) aNil)) 0) (kVar 9)) (e := kVar 9) (ui_it (x := .lst ((ords W).map ordD)) (M1 := N) (r_var rfl) rfl)
  (fun r hr => ut_cmp (x := ordD r) (y := ordD r) (M1 := N) (M2 := N) (r_att (x := orD r) (M1 := N) (r_mak (ds := [ordD r]) (M1 := N) (r_acons (r_var rfl) r_anil) (order_mk oM (due_ordOk h (mem_ords.mp hr)))) rfl) (r_var rfl) (by
   show cmpK N .NotEq (.tup (r.map t3D)) (.tup (r.map t3D)) = _
   rw [cmp_tupN (shps_t3 6 r) (shps_t3 6 r), eq2s_t3, decide_eq_true rfl]; rfl)) (fun r hr e => by cases e)
 rw [show (ords W).filter (fun _ => false) = [] by simp] at hl
 exact us_if (k := false) (M1 := N) (ut_cmp (x := .lst []) (y := .lst []) (M1 := N) (M2 := N) (r_new hl) (r_new (un_lst r_anil)) (neq_nilL (f := ordD) (fun r => shp_ord 5 r) [])) (fun h => Bool.noConfusion h) (fun _ => ub_nil)
theorem st_most (h : Wk W) : sAsg (gNm 6) (kBlt .max (aCons (kBin .Add (kNew false (nLst (aCons (kLit (.int 0)) aNil))) (kNew false (nLcp [9] (gNm 9) (iIt (kVar 5)) (tVal (kLit (.bl true))) (kBlt .len (aCons (kVar 9) aNil))))) aNil)) (sl62 a0 y2 (some (wansT W)) (some v) (dueD W) y6 y7 y8 y9 y10 y11 y12 y13 y14 y15 y16) N = .nx (sl62 a0 y2 (some (wansT W)) (some v) (dueD W) (some (nD (most W))) y7 y8 y9 y10 y11 y12 y13 y14 y15 y16) N := by
 have hf := ords_few h
 refine us_nm (r_blt (ds := [.lst ((0 :: (ords W).map List.length).map nD)]) (M1 := N) (r_acons (r_bin (x := .lst [nD 0]) (y := .lst (((ords W).map List.length).map nD)) (M1 := N) (M2 := N) (r_new (un_lst (r_acons r_lit r_anil))) (r_new ?_) ?_) r_anil) (max_lst0 _))
 ·rw [List.map_map]
  exact lcp_map1 (i := 9) (vs := [9]) (l := ords W) (fd := ordD) (g := nD ∘ List.length) (ui_it (r_var rfl) rfl) (fun x hx => ut_val (x := .bl true) r_lit rfl) (fun x hx => len_ord x rfl)
 ·show (if _ then some (D.lst ([nD 0] ++ ((ords W).map List.length).map nD)) else none) = _
  rw [if_pos (by rw [List.length_map, List.length_map]; show 1 + _ ≤ 16000000; omega)]
  rfl
theorem st_best : sAsg (gNm 7) (kNew false (nLcp [9] (gNm 9) (iIt (kVar 5)) (Sh.tCmp .Eq (kBlt .len (aCons (kVar 9) aNil)) (kVar 6)) (kVar 9))) (sl62 a0 y2 (some (wansT W)) (some v) (dueD W) (some (nD (most W))) y7 y8 y9 y10 y11 y12 y13 y14 y15 y16) N = .nx (sl62 a0 y2 (some (wansT W)) (some v) (dueD W) (some (nD (most W))) (some (.lst ((greatest W).map ordD))) y8 y9 y10 y11 y12 y13 y14 y15 y16) N :=
 us_nm (r_new (lcp_filter1 (i := 9) (vs := [9]) (l := ords W) (fd := ordD) (g := ordD) (pr := fun r => decide (r.length = most W)) (ui_it (x := .lst ((ords W).map ordD)) (M1 := N) (r_var rfl) rfl) (fun x hx => ut_cmp (x := nD x.length) (y := nD (most W)) (M1 := N) (M2 := N) (len_ord x rfl) (r_var rfl) (cmp_nD _ _)) (fun x hx hp => r_var rfl)))
theorem head_or {l : List (List T3)} {i : Nat} {e : KE} {d : D} (hs : slot σ i = some (.lst (l.map ordD))) (h0 : l = [] → e σ N = .ok d N) (h1 : ∀ r R, l = r :: R → d = ordD r) : kIfe (Sh.tCmp .NotEq (kVar i) (kNew false (nLst aNil))) (kIdx (kVar i) (kLit (.int 0))) e σ N = .ok d N := by
 have hc := ut_cmp (op := .NotEq) (x := .lst (l.map ordD)) (y := .lst []) (σ := σ) (M := N) (M1 := N) (M2 := N) (a := kVar i) (b := kNew false (nLst aNil)) (r_var hs) (r_new (un_lst r_anil)) (neq_nilL (f := ordD) (fun r => shp_ord 5 r) l)
 cases l with
 | nil => exact r_ife (k := false) hc (fun h => Bool.noConfusion h) (fun _ => h0 rfl)
 | cons r R =>
  rw [h1 r R rfl]
  exact r_ife (k := true) hc (fun _ => r_idx (x := .lst ((r :: R).map ordD)) (y := .int 0) (M1 := N) (M2 := N) (r_var hs) r_lit (idx_lstN (f := ordD) (l := r :: R) (i := 0) rfl)) (fun h => Bool.noConfusion h)
theorem st_served (hk : 6 ≤ k) (h : Wk W) (hv : Arg W v) : sIf (tNot (tVal (kCal (run tab n (k - 1) false) 25 (aCons (kCal (run tab n (k - 1) false) 17 (aCons (kVar 4) aNil)) (aCons (kTup (aCons (kVar 6) (aCons (kIfe (Sh.tCmp .NotEq (kVar 7) (kNew false (nLst aNil))) (kIdx (kVar 7) (kLit (.int 0))) (kTup aNil)) aNil))) aNil))))) fls bNil (sl62 a0 y2 (some (wansT W)) (some v) (dueD W) (some (nD (most W))) (some (.lst ((greatest W).map ordD))) y8 y9 y10 y11 y12 y13 y14 y15 y16) N = .nx (sl62 a0 y2 (some (wansT W)) (some v) (dueD W) (some (nD (most W))) (some (.lst ((greatest W).map ordD))) y8 y9 y10 y11 y12 y13 y14 y15 y16) N := by
 refine chk (d := .tup [nD (most W), ordD ((greatest W).headD [])]) (r_cal (ds := [v]) (M1 := N) (r_acons (r_var rfl) r_anil) (most_ok oM h hv)) (r_tup (r_acons (r_var rfl) (r_acons (head_or (l := greatest W) rfl (fun e => ?_) (fun r R e => ?_)) r_anil))) (is_tup oM _ (fun x hx => ?_) (by show 2 < 100000; omega))
 ·rw [e]; exact r_tup r_anil
 ·rw [e]; rfl
 ·simp only [List.mem_cons, List.not_mem_nil, or_false] at hx
  rcases hx with rfl | rfl
  ·exact is_nat oM _
  ·refine is_ord oM ?_
   cases hg : greatest W with
   | nil => exact Nat.zero_lt_succ _
   | cons r R =>
    have hr : r ∈ greatest W := by rw [hg]; exact List.mem_cons_self
    have := ords_row h (List.mem_filter.mp hr).1
    show r.length < 1000
    omega
end
end Mn.K62
end
section
namespace Mn.K62
open PySem Mn Mn.Sh
theorem notin_strsR {M : Mem} {x : Str} {d : D} {xs : List Str} (hd : dr M d = .lst (xs.map D.str)) : cmpK M .NotIn (.str x) d = some (.bl (!decide (x ∈ xs))) := by
 unfold cmpK
 rw [hd]
 show (if (shp 8 (.str x) && shp 9 (.lst (xs.map D.str))) = true then some (any2 (.str x) (xs.map D.str)) else none).map (fun k => D.bl (!k)) = _
 rw [any2_str, if_pos (by simp [shp, shps_str])]
 rfl
theorem slcL_toA {xs : List D} {b : Nat} {x : D} : slc x (.lst xs) none (some (b : Int)) = some (.lst (xs.take b)) := by
 have e : HT.sIx xs.length 0 none = 0 := rfl
 show some (D.lst (cut xs none (some (b : Int)))) = _
 unfold cut
 rw [_root_.HT.sIx_nat, e, List.drop_zero, Nat.sub_zero]
 congr 2
 by_cases h : b ≤ xs.length
 ·rw [Nat.min_eq_left h]
 ·rw [Nat.min_eq_right oM, List.take_of_length_le (Nat.le_refl _), List.take_of_length_le oM]
theorem free_head (W : List Wt) (r : List T3) : (ords W).find? (freeB r) = ((ords W).filter (freeB r)).head? := by
 rw [List.head?_filter]
section
variable {n k : Nat} {N : Mem} {σ : Sl}
variable {W : List Wt} {v : D} {a0 y2 y6 y7 y8 y9 y10 y11 y12 y13 y14 y15 y16 : Option D}
abbrev slE (N : Nat) (a0 y2 : Option D) (W : List Wt) (v : D) (y9 y10 y11 y12 y13 y14 y15 y16 : Option D) : Sl := sl62 a0 y2 (some (wansT W)) (some v) (dueD W) (some (nD (most W))) (some (.lst ((greatest W).map ordD))) (some (.ref (N + 0))) y9 y10 y11 y12 y13 y14 y15 y16
abbrev servedB : KS := bCons (sDrop (kExt (kVar 8) (kNew false (nLcp [17] (gNm 17) (iIt (kVar 9)) (tVal (kLit (.bl true))) (kIdx (kVar 17) (kLit (.int 0))))))) bNil
theorem st_all (h : Wk W) : ∃ z9, sFor (gNm 9) (iIt (kVar 5)) servedB (slE N.length a0 y2 W v y9 y10 y11 y12 y13 y14 y15 y16) (N ++ [.lst []]) = .nx (slE N.length a0 y2 W v z9 y10 y11 y12 y13 y14 y15 y16) (N ++ [.lst (((ords W).flatMap parts).map D.str)]) := by
 have hf := ords_few h
 have hfl : ∀ A : List (List T3), (∀ r ∈ A, r.length ≤ 4) → (A.flatMap parts).length ≤ 4 * A.length := by
  intro A
  induction A with
  | nil => intro _; exact Nat.le_refl _
  | cons a A ih =>
   intro hA
   have h1 := ih fun l hl => hA l (List.mem_cons_of_mem _ hl)
   have h2 := hA a List.mem_cons_self
   rw [List.flatMap_cons, List.length_append, List.length_cons]
   unfold parts at h1 ⊢
   rw [List.length_map]
   omega
 obtain ⟨σ2, M2, h1, ⟨z9, rfl⟩, rfl⟩ := us_for (l := ords W) (fd := ordD) (t := gNm 9) (it := iIt (kVar 5)) (σ := slE N.length a0 y2 W v y9 y10 y11 y12 y13 y14 y15 y16) (M := N ++ [.lst []]) (b := servedB)
  (fun j σ M' => (∃ z9, σ = slE N.length a0 y2 W v z9 y10 y11 y12 y13 y14 y15 y16) ∧ M' = N ++ [.lst ((((ords W).take j).flatMap parts).map D.str)])
  (ui_it (x := .lst ((ords W).map ordD)) (M1 := N ++ [.lst []]) (r_var rfl) rfl) ⟨⟨_, rfl⟩, rfl⟩ (by
   rintro j o σ1 M1 ho ⟨⟨z9, rfl⟩, rfl⟩
   have hom := List.mem_of_getElem? ho
   have e1 : ((ords W).take (j + 1)).flatMap parts = ((ords W).take j).flatMap parts ++ parts o := by
    rw [List.take_add_one, ho, List.flatMap_append]
    congr 1
    show List.flatMap _ [o] = _
    rw [List.flatMap_cons, List.flatMap_nil, List.append_nil]
   have hb : (((ords W).take j).flatMap parts).length ≤ 4000 := by
    have := hfl ((ords W).take j) fun l hl => ords_row h (List.mem_of_mem_take hl)
    rw [List.length_take] at this
    omega
   have hb2 : (parts o).length ≤ 4 := by unfold parts; rw [List.length_map]; exact ords_row h hom
   rw [e1]
   generalize ((ords W).take j).flatMap parts = A at hb
   have h3 := r_extV (σ := slE N.length a0 y2 W v (some (ordD o)) y10 y11 y12 y13 y14 y15 y16) (M := N) (acc := A.map D.str) (ys := (parts o).map D.str) (a := kVar 8) (e := kNew false (nLcp [17] (gNm 17) (iIt (kVar 9)) (tVal (kLit (.bl true))) (kIdx (kVar 17) (kLit (.int 0))))) (r_var rfl) (r_new (parts_lcp o rfl (fun d => rfl))) (by rw [List.length_map, List.length_map]; omega)
   rw [← List.map_append] at h3
   exact ⟨_, slE N.length a0 y2 W v (some (ordD o)) y10 y11 y12 y13 y14 y15 y16, _, ug_nm, .inl (ub_cons (us_drop h3) ub_nil), ⟨_, rfl⟩, rfl⟩)
 rw [List.take_length] at h1
 exact ⟨z9, h1⟩
theorem st_alone (hk : 6 ≤ k) (h : Wk W) (hv : Arg W v) : sIf (tNot (tVal (kCal (run tab n (k - 1) false) 25 (aCons (kCal (run tab n (k - 1) false) 19 (aCons (kVar 4) aNil)) (aCons (kTupO false (kNew false (nSort (kNew false (nLcp [17] (gNm 17) (iIt (kVar 3)) (Sh.tCmp .NotIn (kIdx (kVar 17) (kLit (.int 0))) (kVar 8)) (kIdx (kVar 17) (kLit (.int 0)))))))) aNil))))) fls bNil (slE N.length a0 y2 W v y9 y10 y11 y12 y13 y14 y15 y16) (N ++ [.lst (((ords W).flatMap parts).map D.str)]) = .nx (slE N.length a0 y2 W v y9 y10 y11 y12 y13 y14 y15 y16) (N ++ [.lst (((ords W).flatMap parts).map D.str)]) := by
 obtain ⟨M, hM⟩ : ∃ M, M = N ++ [D.lst (((ords W).flatMap parts).map D.str)] := ⟨_, rfl⟩
 have hdr : dr M (.ref (N.length + 0)) = .lst (((ords W).flatMap parts).map D.str) := by rw [hM]; exact dr_app (j := 0) rfl (by intro ps; exact D.noConfusion)
 rw [← hM]
 have hl := lcp_filter1 (σ := slE N.length a0 y2 W v y9 y10 y11 y12 y13 y14 y15 y16) (M := M) (i := 17) (vs := [17]) (l := W) (fd := wanD) (g := fun w => .str w.1) (pr := fun w => !decide (w.1 ∈ (ords W).flatMap parts)) (it := iIt (kVar 3)) (c := Sh.tCmp .NotIn (kIdx (kVar 17) (kLit (.int 0))) (kVar 8)) (e := kIdx (kVar 17) (kLit (.int 0)))
  (ui_it (x := wansT W) (M1 := M) (r_var rfl) rfl) (fun w hw => ut_cmp (x := .str w.1) (y := .ref (N.length + 0)) (M1 := M) (M2 := M) (r_idx (x := wanD w) (y := .int 0) (M1 := M) (M2 := M) (r_var rfl) r_lit rfl) (r_var rfl) (notin_strsR hdr)) (fun w hw _ => r_idx (x := wanD w) (y := .int 0) (M1 := M) (M2 := M) (r_var rfl) r_lit rfl)
 have e3 : ((W.filter fun w => !decide (w.1 ∈ (ords W).flatMap parts)).map fun w => D.str w.1) = ((pts W).filter fun p => !(ords W).any fun r => decide (p ∈ parts r)).map D.str := by
  unfold pts
  rw [List.filter_map, List.map_map]
  congr 1
  refine List.filter_congr fun w hw => ?_
  show (!decide (w.1 ∈ (ords W).flatMap parts)) = !(ords W).any fun r => decide (w.1 ∈ parts r)
  congr 1
  rw [Bool.eq_iff_iff, decide_eq_true_iff, List.any_eq_true, List.mem_flatMap]
  constructor
  ·rintro ⟨r, hr, hx⟩; exact ⟨r, hr, decide_eq_true hx⟩
  ·rintro ⟨r, hr, hx⟩; exact ⟨r, hr, of_decide_eq_true hx⟩
 rw [e3] at hl
 have hal : (alone W).length ≤ 4 := by
  have h4 := h.l4
  unfold alone
  rw [(sortT_perm _).length_eq]
  have := List.length_filter_le (fun p => !(ords W).any fun r => decide (p ∈ parts r)) (pts W)
  unfold pts at this ⊢
  rw [List.length_map] at this
  omega
 exact chk (d := tupS (alone W)) (r_cal (ds := [v]) (M1 := M) (r_acons (r_var rfl) r_anil) (left_alone_ok oM h hv)) (r_tupO (x := .lst ((alone W).map D.str)) (M1 := M) (r_new (un_sort (x := .lst _) (M1 := M) (r_new hl) rfl (sortD_str _))) rfl) (is_strs oM oM)
end
end Mn.K62
end
section
namespace Mn.K62
open PySem Mn Mn.Sh
theorem filt_empty (r o : List T3) : (o.filter fun t => decide (t.1 ∈ parts r)).isEmpty = freeB r o := by
 unfold freeB
 induction o with
 | nil => rfl
 | cons t o ih =>
  rw [List.filter_cons, List.any_cons]
  cases h : decide (t.1 ∈ parts r) with
  | true => rfl
  | false =>
   rw [Bool.false_or]
   exact ih
def testE (W : List Wt) : List (List T3) := ([] :: (ords W).take 3) ++ (greatest W).take 1
theorem test_mem {W : List Wt} {r : List T3} (h : r ∈ testE W) : r = [] ∨ r ∈ ords W := by
 rcases List.mem_append.mp h with h | h
 ·rcases List.mem_cons.mp h with h | h
  ·exact .inl h
  ·exact .inr (List.mem_of_mem_take h)
 ·exact .inr (List.mem_filter.mp (List.mem_of_mem_take h)).1
section
variable {n k : Nat} {N : Mem} {σ : Sl} {Nl : Nat}
variable {W : List Wt} {v : D} {a0 y2 y6 y7 y8 y9 y10 y11 y12 y13 y14 y15 y16 : Option D}
abbrev blockB (cf : Calls) : KS := bCons (sAsg (gNm 10) (kNew false (nLcp [17] (gNm 17) (iIt (kVar 9)) (tVal (kLit (.bl true))) (kIdx (kVar 17) (kLit (.int 0)))))) (bCons (sAsg (gNm 11) (kNew false (nLcp [18] (gNm 18) (iIt (kVar 5)) (Sh.tCmp .Eq (kNew false (nLcp [17] (gNm 17) (iIt (kVar 18)) (Sh.tCmp .In (kIdx (kVar 17) (kLit (.int 0))) (kVar 10)) (kVar 17))) (kNew false (nLst aNil))) (kVar 18)))) (bCons (sIf (tNot (tVal (kCal cf 25 (aCons (kCal cf 20 (aCons (kVar 4) (aCons (kVar 9) aNil))) (aCons (kIfe (Sh.tCmp .NotEq (kVar 11) (kNew false (nLst aNil))) (kIdx (kVar 11) (kLit (.int 0))) (kLit .non)) aNil))))) fls bNil) bNil))
theorem block_turn (hk : 6 ≤ k) (h : Wk W) (hv : Arg W v) {r : List T3} (hr : r ∈ testE W) : blockB (run tab n (k - 1) false) (slE Nl a0 y2 W v (some (ordD r)) y10 y11 y12 y13 y14 y15 y16) N = .nx (slE Nl a0 y2 W v (some (ordD r)) (some (.lst ((parts r).map D.str))) (some (.lst (((ords W).filter (freeB r)).map ordD))) y12 y13 y14 y15 y16) N := by
 have h2 : sAsg (gNm 11) (kNew false (nLcp [18] (gNm 18) (iIt (kVar 5)) (Sh.tCmp .Eq (kNew false (nLcp [17] (gNm 17) (iIt (kVar 18)) (Sh.tCmp .In (kIdx (kVar 17) (kLit (.int 0))) (kVar 10)) (kVar 17))) (kNew false (nLst aNil))) (kVar 18))) (slE Nl a0 y2 W v (some (ordD r)) (some (.lst ((parts r).map D.str))) y11 y12 y13 y14 y15 y16) N = .nx (slE Nl a0 y2 W v (some (ordD r)) (some (.lst ((parts r).map D.str))) (some (.lst (((ords W).filter (freeB r)).map ordD))) y12 y13 y14 y15 y16) N := by
  refine us_nm (r_new (lcp_filter1 (i := 18) (vs := [18]) (l := ords W) (fd := ordD) (g := ordD) (pr := freeB r) (ui_it (x := .lst ((ords W).map ordD)) (M1 := N) (r_var rfl) rfl) (fun o ho => ?_) (fun o ho hp => r_var rfl)))
  rw [← filt_empty]
  exact ut_cmp (x := .lst ((o.filter fun t => decide (t.1 ∈ parts r)).map t3D)) (y := .lst []) (M1 := N) (M2 := N) (r_new (lcp_filter1 (i := 17) (vs := [17]) (l := o) (fd := t3D) (g := t3D) (pr := fun t => decide (t.1 ∈ parts r)) (ui_it (x := ordD o) (M1 := N) (r_var rfl) rfl) (fun t ht => ut_cmp (x := .str t.1) (y := .lst ((parts r).map D.str)) (M1 := N) (M2 := N) (r_idx (x := t3D t) (y := .int 0) (M1 := N) (M2 := N) (r_var rfl) r_lit rfl) (r_var rfl) (in_strsL _ _)) (fun t ht hp => r_var rfl))) (r_new (un_lst r_anil)) (eq_nilL (f := t3D) (fun t => shp_t3 6 t) _)
 refine ub_cons (us_nm (r_new (parts_lcp r rfl (fun d => rfl)))) (ub_cons h2 (ub_cons (chk (d := optD ((ords W).find? (freeB r))) (r_cal (ds := [v, ordD r]) (M1 := N) (r_acons (r_var rfl) (r_acons (r_var rfl) r_anil)) (blocking_ok oM h hv (test_mem hr))) (head_or (l := (ords W).filter (freeB r)) rfl (fun e => ?_) (fun o O e => ?_)) ?_) ub_nil))
 ·rw [free_head, e]; exact r_lit
 ·rw [free_head, e]; rfl
 ·cases hf : (ords W).find? (freeB r) with
  | none => exact is_non oM
  | some o =>
   have := ords_row h (List.mem_of_find?_eq_some hf)
   exact is_ord oM oM
theorem st_block (hk : 6 ≤ k) (h : Wk W) (hv : Arg W v) : ∃ z9 z10 z11, sFor (gNm 9) (iIt (kBin .Add (kBin .Add (kNew false (nLst (aCons (kTup aNil) aNil))) (kSlc (kVar 5) pNo (pEx (kLit (.int 3))))) (kSlc (kVar 7) pNo (pEx (kLit (.int 1)))))) (blockB (run tab n (k - 1) false)) (slE Nl a0 y2 W v y9 y10 y11 y12 y13 y14 y15 y16) N = .nx (slE Nl a0 y2 W v z9 z10 z11 y12 y13 y14 y15 y16) N := by
 have sl5 := slcL_toA (xs := (ords W).map ordD) (b := 3) (x := .lst ((ords W).map ordD))
 have sl7 := slcL_toA (xs := (greatest W).map ordD) (b := 1) (x := .lst ((greatest W).map ordD))
 rw [← List.map_take] at sl5 sl7
 have l5 : ((ords W).take 3).length ≤ 3 := by rw [List.length_take]; omega
 have l7 : ((greatest W).take 1).length ≤ 1 := by rw [List.length_take]; omega
 have hit : iIt (kBin .Add (kBin .Add (kNew false (nLst (aCons (kTup aNil) aNil))) (kSlc (kVar 5) pNo (pEx (kLit (.int 3))))) (kSlc (kVar 7) pNo (pEx (kLit (.int 1))))) (slE Nl a0 y2 W v y9 y10 y11 y12 y13 y14 y15 y16) N = .ok ⟨(testE W).map ordD, [], none⟩ N := by
  refine ui_it (x := .lst ((testE W).map ordD)) (M1 := N) (r_bin (x := .lst (([] :: (ords W).take 3).map ordD)) (y := .lst (((greatest W).take 1).map ordD)) (M1 := N) (M2 := N) (r_bin (x := .lst [ordD []]) (y := .lst (((ords W).take 3).map ordD)) (M1 := N) (M2 := N) (r_new (un_lst (r_acons (r_tup r_anil) r_anil))) (r_slc (x := .lst ((ords W).map ordD)) (l := none) (h' := some 3) (M1 := N) (M2 := N) (M3 := N) (r_var rfl) r_pno (r_pex r_lit) sl5) ?_) (r_slc (x := .lst ((greatest W).map ordD)) (l := none) (h' := some 1) (M1 := N) (M2 := N) (M3 := N) (r_var rfl) r_pno (r_pex r_lit) sl7) ?_) rfl
  ·show (if _ then some (D.lst ([ordD []] ++ ((ords W).take 3).map ordD)) else none) = _
   rw [if_pos (by rw [List.length_map]; show 1 + _ ≤ 16000000; omega)]
   rfl
  ·show (if _ then some (D.lst (([] :: (ords W).take 3).map ordD ++ ((greatest W).take 1).map ordD)) else none) = _
   rw [if_pos (by rw [List.length_map, List.length_map, List.length_cons]; show _ ≤ 16000000; omega), ← List.map_append]
   rfl
 obtain ⟨σ2, M2, h1, ⟨z9, z10, z11, rfl⟩, rfl⟩ := us_for (l := testE W) (fd := ordD) (t := gNm 9) (σ := slE Nl a0 y2 W v y9 y10 y11 y12 y13 y14 y15 y16) (M := N) (b := blockB (run tab n (k - 1) false))
  (fun j σ M' => (∃ z9 z10 z11, σ = slE Nl a0 y2 W v z9 z10 z11 y12 y13 y14 y15 y16) ∧ M' = N) hit ⟨⟨_, _, _, rfl⟩, rfl⟩ (by
   rintro j r σ1 M1 hr ⟨⟨z9, z10, z11, rfl⟩, rfl⟩
   exact ⟨_, _, _, ug_nm, .inl (block_turn hk h hv (List.mem_of_getElem? hr)), ⟨_, _, _, rfl⟩, rfl⟩)
 exact ⟨z9, z10, z11, h1⟩
end
end Mn.K62
end
section
namespace Mn.K62
open PySem Mn Mn.Sh
theorem great_none {W : List Wt} (h : Wk W) {g : List T3} (hg : g ∈ greatest W) : (ords W).find? (freeB g) = none := by
 obtain ⟨hgo, hgl⟩ := List.mem_filter.mp hg
 have hgl := of_decide_eq_true hgl
 rw [List.find?_eq_none]
 intro o ho hf
 have hd : ∀ x ∈ parts o, x ∉ parts g := fun x hx hxg => by
  obtain ⟨t, ht, rfl⟩ := List.mem_map.mp hx
  unfold freeB at hf
  rw [Bool.not_eq_true', List.any_eq_false] at hf
  exact hf t ht (decide_eq_true hxg)
 obtain ⟨o3, h3, e3⟩ := union_due h.pn h.gn (mem_ords.mp ho) (mem_ords.mp hgo) hd
 have h1 : o3.length ≤ most W := (mx_le _ 0).2 _ (List.mem_map.mpr ⟨o3, mem_ords.mpr h3, rfl⟩)
 have h2 := (due_ordOk h (mem_ords.mp ho)).l2
 omega
section
variable {n k : Nat} {N : Mem} {σ : Sl} {Nl : Nat}
variable {W : List Wt} {v : D} {a0 y2 y6 y7 y8 y9 y10 y11 y12 y13 y14 y15 y16 : Option D}
theorem st_great (hk : 6 ≤ k) (h : Wk W) (hv : Arg W v) : sIf (tAnd (Sh.tCmp .NotEq (kVar 7) (kNew false (nLst aNil))) (Sh.tCmp .IsNot (kCal (run tab n (k - 1) false) 20 (aCons (kVar 4) (aCons (kIdx (kVar 7) (kLit (.int 0))) aNil))) (kLit .non))) fls bNil (slE Nl a0 y2 W v y9 y10 y11 y12 y13 y14 y15 y16) N = .nx (slE Nl a0 y2 W v y9 y10 y11 y12 y13 y14 y15 y16) N := by
 have hc := ut_cmp (op := .NotEq) (x := .lst ((greatest W).map ordD)) (y := .lst []) (σ := slE Nl a0 y2 W v y9 y10 y11 y12 y13 y14 y15 y16) (M := N) (M1 := N) (M2 := N) (a := kVar 7) (b := kNew false (nLst aNil)) (r_var rfl) (r_new (un_lst r_anil)) (neq_nilL (f := ordD) (fun r => shp_ord 5 r) (greatest W))
 have hi : ∀ g G, greatest W = g :: G → kIdx (kVar 7) (kLit (.int 0)) (slE Nl a0 y2 W v y9 y10 y11 y12 y13 y14 y15 y16) N = .ok (ordD g) N := fun g G e => r_idx (x := .lst ((greatest W).map ordD)) (y := .int 0) (M1 := N) (M2 := N) (r_var rfl) r_lit (by rw [e]; exact idx_lstN (f := ordD) (l := g :: G) (i := 0) rfl)
 have hq : tAnd (Sh.tCmp .NotEq (kVar 7) (kNew false (nLst aNil))) (Sh.tCmp .IsNot (kCal (run tab n (k - 1) false) 20 (aCons (kVar 4) (aCons (kIdx (kVar 7) (kLit (.int 0))) aNil))) (kLit .non)) (slE Nl a0 y2 W v y9 y10 y11 y12 y13 y14 y15 y16) N = .ok false N := by
  cases hg : greatest W with
  | nil =>
   rw [hg] at hc
   have := ut_and (kb := false) (u := Sh.tCmp .IsNot (kCal (run tab n (k - 1) false) 20 (aCons (kVar 4) (aCons (kIdx (kVar 7) (kLit (.int 0))) aNil))) (kLit .non)) hc (fun h => by cases h)
   exact this
  | cons g G =>
   have hgm : g ∈ greatest W := by rw [hg]; exact List.mem_cons_self
   have hb := blocking_ok (n := n) (k := k - 1) (M := N) oM h hv (r := g) (.inr (List.mem_filter.mp hgm).1)
   rw [great_none h hgm] at hb
   have h2 : Sh.tCmp .IsNot (kCal (run tab n (k - 1) false) 20 (aCons (kVar 4) (aCons (kIdx (kVar 7) (kLit (.int 0))) aNil))) (kLit .non) (slE Nl a0 y2 W v y9 y10 y11 y12 y13 y14 y15 y16) N = .ok false N := ut_cmp (x := .non) (y := .non) (M1 := N) (M2 := N) (r_cal (ds := [v, ordD g]) (M1 := N) (r_acons (r_var rfl) (r_acons (hi g G hg) r_anil)) hb) r_lit rfl
   have := ut_and (k := !(greatest W).isEmpty) (kb := false) hc (fun _ => h2)
   rw [Bool.and_false] at this
   exact this
 exact us_if (k := false) hq (fun h => Bool.noConfusion h) (fun _ => ub_nil)
def oddV : List D := [.non, .int 5, .tup [.int 0, .int 1]]
theorem st_odd (hk : 6 ≤ k) (h : Wk W) (hv : Arg W v) : ∃ z16, sFor (gNm 16) (iIt (kNew false (nLst (aCons (kLit .non) (aCons (kLit (.int 5)) (aCons (kTup (aCons (kLit (.int 0)) (aCons (kLit (.int 1)) aNil))) aNil)))))) (bCons (sIf (Sh.tCmp .IsNot (kCal (run tab n (k - 1) false) 18 (aCons (kVar 4) (aCons (kVar 16) aNil))) (kLit (.bl false))) fls bNil) bNil) (slE Nl a0 y2 W v y9 y10 y11 y12 y13 y14 y15 y16) N = .nx (slE Nl a0 y2 W v y9 y10 y11 y12 y13 y14 y15 z16) N := by
 obtain ⟨σ2, M2, h1, ⟨z16, rfl⟩, rfl⟩ := us_for (l := oddV) (fd := fun d => d) (t := gNm 16) (it := iIt (kNew false (nLst (aCons (kLit .non) (aCons (kLit (.int 5)) (aCons (kTup (aCons (kLit (.int 0)) (aCons (kLit (.int 1)) aNil))) aNil)))))) (σ := slE Nl a0 y2 W v y9 y10 y11 y12 y13 y14 y15 y16) (M := N) (b := bCons (sIf (Sh.tCmp .IsNot (kCal (run tab n (k - 1) false) 18 (aCons (kVar 4) (aCons (kVar 16) aNil))) (kLit (.bl false))) fls bNil) bNil)
  (fun j σ M' => (∃ z16, σ = slE Nl a0 y2 W v y9 y10 y11 y12 y13 y14 y15 z16) ∧ M' = N) (ui_it (x := .lst oddV) (M1 := N) (r_new (un_lst (r_acons r_lit (r_acons r_lit (r_acons (r_tup (r_acons r_lit (r_acons r_lit r_anil))) r_anil))))) rfl) ⟨⟨_, rfl⟩, rfl⟩ (by
   rintro j x σ1 M1 hx ⟨⟨z16, rfl⟩, rfl⟩
   have hm := List.mem_of_getElem? hx
   have hq : run tab n (k - 1) false 18 [v, x] M1 = .ok (.bl false) M1 := by
    refine matched_no oM h hv (mq1_odd ?_ ?_) <;>
    ·simp only [oddV, List.mem_cons, List.not_mem_nil, or_false] at hm
     rcases hm with rfl | rfl | rfl <;> rfl
   exact ⟨_, _, _, ug_nm, .inl (ub_cons (us_if (k := false) (M1 := M1) (ut_cmp (x := .bl false) (y := .bl false) (M1 := M1) (M2 := M1) (r_cal (ds := [v, x]) (M1 := M1) (r_acons (r_var rfl) (r_acons (r_var rfl) r_anil)) hq) r_lit rfl) (fun h => Bool.noConfusion h) (fun _ => ub_nil)) ub_nil), ⟨_, rfl⟩, rfl⟩)
 exact ⟨z16, h1⟩
end
end Mn.K62
end
section
namespace Mn.K62
open PySem Mn Mn.Sh
theorem all_at (W : List Wt) : (List.range W.length).map (atW W) = W := by
 apply List.ext_getElem?
 intro i
 rw [List.getElem?_map]
 by_cases h : i < W.length
 ·rw [List.getElem?_range h, atW_get h]; rfl
 ·rw [List.getElem?_eq_none (by rw [List.length_range]; omega), List.getElem?_eq_none oM]; rfl
theorem asc_range {is : List Nat} {m : Nat} (h : is.Sublist (List.range m)) : is.Pairwise (· < ·) := List.Pairwise.sublist h List.pairwise_lt_range
theorem desc_asc {is : List Nat} (h : is.Pairwise (· < ·)) : desc is = false := by
 unfold desc
 rw [List.any_eq_false]
 intro a ha
 have ha := List.mem_range.mp ha
 have h1 := List.pairwise_iff_getElem.mp h a (a + 1) oM oM oM
 have e1 : is.getD a 0 = is[a]'oM := by rw [List.getD_eq_getElem?_getD, List.getElem?_eq_getElem oM]; rfl
 have e2 : is.getD (a + 1) 0 = is[a + 1]'oM := by rw [List.getD_eq_getElem?_getD, List.getElem?_eq_getElem oM]; rfl
 rw [e1, e2, decide_eq_true_iff]
 omega
theorem desc_rev {is : List Nat} (h : is.Pairwise (· < ·)) (h2 : 2 ≤ is.length) : desc is.reverse = true := by
 unfold desc
 rw [List.any_eq_true]
 have hl : is.reverse.length = is.length := List.length_reverse
 have hr : is.reverse.Pairwise (fun a b => b < a) := List.pairwise_reverse.mpr h
 have h1 := List.pairwise_iff_getElem.mp hr 0 1 oM oM oM
 refine ⟨0, List.mem_range.mpr oM, decide_eq_true ?_⟩
 have e1 : is.reverse.getD 0 0 = is.reverse[0]'oM := by rw [List.getD_eq_getElem?_getD, List.getElem?_eq_getElem oM]; rfl
 have e2 : is.reverse.getD (0 + 1) 0 = is.reverse[1]'oM := by rw [List.getD_eq_getElem?_getD, List.getElem?_eq_getElem oM]; rfl
 rw [e1, e2]
 omega
def isThere (W : List Wt) (is : List Nat) : Bool := (ords W).any fun r => decide (parts r = pts (is.map (atW W)))
section
variable {n k : Nat} {M : Mem} {W : List Wt} {v : D} {is : List Nat}
theorem sub_at (hs : is.Sublist (List.range W.length)) : (is.map (atW W)).Sublist W := by
 have := hs.map (atW W)
 rwa [all_at] at this
theorem lt_at (hs : is.Sublist (List.range W.length)) : ∀ i ∈ is, i < W.length := fun i hi => List.mem_range.mp (hs.mem hi)
theorem len_at (h : Wk W) (hs : is.Sublist (List.range W.length)) : is.length ≤ 4 := by
 have := hs.length_le
 rw [List.length_range] at this
 have := h.l4
 omega
theorem matched_law (hk : 5 ≤ k) (h : Wk W) (hv : Arg W v) (hs : is.Sublist (List.range W.length)) : run tab n k false 18 [v, mtD (.tup (is.map nD))] M = .ok (.bl (isThere W is && decide (1 < is.length))) M := by
 have h4 := len_at h hs
 by_cases h2 : 2 ≤ is.length
 ·have := matched_nats (n := n) (M := M) hk h hv h2 h4 (lt_at hs)
  rw [desc_asc (asc_range hs)] at this
  rw [this]
  congr 2
  rw [Bool.not_false, Bool.true_and, decide_eq_true (p := 1 < is.length) oM, Bool.and_true, Bool.eq_iff_iff, decide_eq_true_iff, List.length_pos_iff]
  have hm := matched_iff h.pn (sub_at hs) (by rw [List.length_map]; omega)
  unfold atI isThere
  rw [hm, List.any_eq_true]
  constructor
  ·rintro ⟨r, hr, e⟩; exact ⟨r, mem_ords.mpr hr, decide_eq_true e⟩
  ·rintro ⟨r, hr, e⟩; exact ⟨r, mem_ords.mp hr, of_decide_eq_true e⟩
 ·have q1 := mq1_tup (M := M) (W := W) (v := v) (is.map nD)
  rw [List.length_map, decide_eq_true oM] at q1
  rw [decide_eq_false (p := 1 < is.length) oM, Bool.and_false]
  exact matched_no hk h hv q1
def oddX (W : List Wt) (is : List Nat) : List D := [if 1 < is.length then .tup (is.reverse.map nD) else .non, .tup (is.map nD ++ [nD W.length]), .non, .tup (.bl true :: is.map nD)]
theorem matched_odd (hk : 5 ≤ k) (h : Wk W) (hv : Arg W v) (hs : is.Sublist (List.range W.length)) {x : D} (hx : x ∈ oddX W is) : run tab n k false 18 [v, mtD x] M = .ok (.bl false) M := by
 have h4 := len_at h hs
 have hix : ∀ y : D, (∃ i : Nat, y = nD i) ∨ y = .bl true → run tab n (k - 1) false 2 [y, nD W.length] M = .ok (.bl (ixB W.length y)) M := fun y hy => by
  rcases hy with ⟨i, rfl⟩ | rfl
  ·exact index_int oM _ _
  ·exact index_bl oM _ _
 have gen : ∀ xs : List D, (∀ y ∈ xs, (∃ i : Nat, y = nD i) ∨ y = .bl true) → xs.all (ixB W.length) = false → run tab n k false 18 [v, mtD (.tup xs)] M = .ok (.bl false) M := fun xs hy ha => by
  by_cases h2 : 2 ≤ xs.length
  ·exact matched_bad hk h hv h2 (ixB W.length) (fun y hm => hix y (hy y hm)) ha
  ·have q1 := mq1_tup (M := M) (W := W) (v := v) xs
   rw [decide_eq_true oM] at q1
   exact matched_no hk h hv q1
 simp only [oddX, List.mem_cons, List.not_mem_nil, or_false] at hx
 rcases hx with rfl | rfl | rfl | rfl
 ·by_cases h2 : 1 < is.length
  ·rw [if_pos h2]
   have := matched_nats (n := n) (M := M) hk h hv (is := is.reverse) (by rw [List.length_reverse]; omega) (by rw [List.length_reverse]; omega) (fun i hi => lt_at hs i (List.mem_reverse.mp hi))
   rw [desc_rev (asc_range hs) oM] at this
   exact this
  ·rw [if_neg h2]
   exact matched_no hk h hv mq1_non
 ·refine gen _ (fun y hy => ?_) ?_
  ·rcases List.mem_append.mp hy with hy | hy
   ·obtain ⟨i, _, rfl⟩ := List.mem_map.mp hy; exact .inl ⟨i, rfl⟩
   ·rw [List.mem_singleton.mp hy]; exact .inl ⟨_, rfl⟩
  ·rw [List.all_append]
   have : ixB W.length (nD W.length) = false := by
    show (decide ((0 : Int) ≤ (W.length : Nat)) && decide (((W.length : Nat) : Int) < (W.length : Nat))) = false
    rw [decide_eq_false (p := ((W.length : Nat) : Int) < (W.length : Nat)) oM, Bool.and_false]
   show (_ && (ixB W.length (nD W.length) && true)) = false
   rw [this, Bool.false_and, Bool.and_false]
 ·exact matched_no hk h hv mq1_non
 ·refine gen _ (fun y hy => ?_) rfl
  rcases List.mem_cons.mp hy with rfl | hy
  ·exact .inr rfl
  ·obtain ⟨i, _, rfl⟩ := List.mem_map.mp hy; exact .inl ⟨i, rfl⟩
end
end Mn.K62
end
section
namespace Mn.K62
open PySem Mn Mn.Sh
theorem as_natsT {n k : Nat} (hk : 2 ≤ k) (l : List D) (h : ∀ x ∈ l, (∃ i : Nat, x = nD i) ∨ x = .bl true) : AsId n k (.tup l) :=
 as_tup oM (fun x hx => by
  rcases h x hx with ⟨i, rfl⟩ | rfl
  ·exact as_dat (m := 0) oM rfl rfl
  ·exact as_dat (m := 0) oM rfl rfl) (fun m => by
  induction l with
  | nil => rfl
  | cons x l ih =>
   have h1 : bel m x = true := by
    rcases h x List.mem_cons_self with ⟨i, rfl⟩ | rfl <;> rfl
   show (bel m x && bels m l) = true
   rw [h1, ih fun y hy => h y (List.mem_cons_of_mem _ hy)]; rfl)
theorem odd_as {n k : Nat} (hk : 2 ≤ k) {W : List Wt} {is : List Nat} {x : D} (hx : x ∈ oddX W is) : AsId n k x ∧ ∀ m, bel m x = true := by
 have tp : ∀ l : List D, (∀ y ∈ l, (∃ i : Nat, y = nD i) ∨ y = .bl true) → AsId n k (.tup l) ∧ ∀ m, bel m (.tup l) = true := fun l h => ⟨as_natsT hk l h, fun m => by
  show bels m l = true
  induction l with
  | nil => rfl
  | cons x l ih =>
   have h1 : bel m x = true := by
    rcases h x List.mem_cons_self with ⟨i, rfl⟩ | rfl <;> rfl
   show (bel m x && bels m l) = true
   rw [h1, ih fun y hy => h y (List.mem_cons_of_mem _ hy)]; rfl⟩
 have nn : AsId n k .non ∧ ∀ m, bel m .non = true := ⟨as_dat (m := 0) oM rfl rfl, fun _ => rfl⟩
 simp only [oddX, List.mem_cons, List.not_mem_nil, or_false] at hx
 rcases hx with rfl | rfl | rfl | rfl
 ·split
  ·exact tp _ fun y hy => by
    obtain ⟨i, _, rfl⟩ := List.mem_map.mp hy; exact .inl ⟨i, rfl⟩
  ·exact nn
 ·exact tp _ fun y hy => by
   rcases List.mem_append.mp hy with hy | hy
   ·obtain ⟨i, _, rfl⟩ := List.mem_map.mp hy; exact .inl ⟨i, rfl⟩
   ·rw [List.mem_singleton.mp hy]; exact .inl ⟨_, rfl⟩
 ·exact nn
 ·exact tp _ fun y hy => by
   rcases List.mem_cons.mp hy with rfl | hy
   ·exact .inr rfl
   ·obtain ⟨i, _, rfl⟩ := List.mem_map.mp hy; exact .inl ⟨i, rfl⟩
section
variable {n k : Nat} {N : Mem} {σ : Sl} {Nl : Nat}
variable {W : List Wt} {v : D} {is : List Nat} {a0 y2 y6 y7 y8 y9 y10 y11 y12 y13 y14 y15 y16 : Option D}
abbrev slP (Nl : Nat) (a0 y2 : Option D) (W : List Wt) (v : D) (is : List Nat) (y9 y10 y11 y12 y14 y15 y16 : Option D) : Sl := slE Nl a0 y2 W v y9 y10 y11 y12 (some (.tup (is.map nD))) y14 y15 y16
theorem len_is (hs : slot σ 13 = some (.tup (is.map nD))) : kBlt .len (aCons (kVar 13) aNil) σ N = .ok (nD is.length) N :=
 r_blt (ds := [.tup (is.map nD)]) (M1 := N) (r_acons (r_var hs) r_anil) (by
  show some (D.int ((is.map nD).length : Nat)) = some (nD is.length)
  rw [List.length_map]; rfl)
theorem lt_is (hs : slot σ 13 = some (.tup (is.map nD))) : cmpK N .Gt (nD is.length) (.int 1) = some (.bl (decide (1 < is.length))) := by
 show cmpK N .Gt (.int _) (.int _) = _
 rw [gt_int]
 congr 2
 rw [Bool.eq_iff_iff, decide_eq_true_iff, decide_eq_true_iff]; omega
theorem st_part (h : Wk W) (hs : is.Sublist (List.range W.length)) : sAsg (gNm 10) (kNew false (nLcp [19] (gNm 19) (iIt (kVar 13)) (tVal (kLit (.bl true))) (kIdx (kIdx (kVar 3) (kVar 19)) (kLit (.int 0))))) (slP Nl a0 y2 W v is y9 y10 y11 y12 y14 y15 y16) N = .nx (slP Nl a0 y2 W v is y9 (some (.lst ((pts (is.map (atW W))).map D.str))) y11 y12 y14 y15 y16) N := by
 refine us_nm (r_new ?_)
 unfold pts
 rw [List.map_map, List.map_map]
 exact lcp_map1 (i := 19) (vs := [19]) (l := is) (fd := nD) (g := (D.str ∘ fun w : Wt => w.1) ∘ atW W) (ui_it (x := .tup (is.map nD)) (M1 := N) (r_var rfl) rfl) (fun p hp => ut_val (x := .bl true) r_lit rfl) (fun i hi => r_idx (x := wanD (atW W i)) (y := .int 0) (M1 := N) (M2 := N) (r_idx (x := wansT W) (y := nD i) (M1 := N) (M2 := N) (r_var rfl) (r_var rfl) (idx_tupN (f := wanD) (atW_get (lt_at hs i hi)))) r_lit rfl)
theorem eq_strsL {M : Mem} (xs ys : List Str) : cmpK M .Eq (.lst (xs.map D.str)) (.lst (ys.map D.str)) = some (.bl (decide (xs = ys))) := by
 rw [cmp_lst (shps_str 8 xs) (shps_str 8 ys), eq2s_str]
theorem st_there (h : Wk W) : sAsg (gNm 14) (kCmp .NotEq (kNew false (nLcp [9] (gNm 9) (iIt (kVar 5)) (Sh.tCmp .Eq (kNew false (nLcp [17] (gNm 17) (iIt (kVar 9)) (tVal (kLit (.bl true))) (kIdx (kVar 17) (kLit (.int 0))))) (kVar 10)) (kVar 9))) (kNew false (nLst aNil))) (slP Nl a0 y2 W v is y9 (some (.lst ((pts (is.map (atW W))).map D.str))) y11 y12 y14 y15 y16) N = .nx (slP Nl a0 y2 W v is y9 (some (.lst ((pts (is.map (atW W))).map D.str))) y11 y12 (some (.bl (isThere W is))) y15 y16) N := by
 refine us_nm (r_cmp (x := .lst (((ords W).filter fun r => decide (parts r = pts (is.map (atW W)))).map ordD)) (y := .lst []) (M1 := N) (M2 := N) (r_new (lcp_filter1 (i := 9) (vs := [9]) (l := ords W) (fd := ordD) (g := ordD) (pr := fun r => decide (parts r = pts (is.map (atW W)))) (ui_it (x := .lst ((ords W).map ordD)) (M1 := N) (r_var rfl) rfl) (fun r hr => ut_cmp (x := .lst ((parts r).map D.str)) (y := .lst ((pts (is.map (atW W))).map D.str)) (M1 := N) (M2 := N) (r_new (parts_lcp r rfl (fun d => rfl))) (r_var rfl) (eq_strsL _ _)) (fun r hr hp => r_var rfl))) (r_new (un_lst r_anil)) ?_)
 rw [neq_nilL (f := ordD) (fun r => shp_ord 5 r)]
 congr 2
 unfold isThere
 induction ords W with
 | nil => rfl
 | cons o O ih =>
  rw [List.filter_cons, List.any_cons]
  cases decide (parts o = pts (is.map (atW W))) with
  | true => rfl
  | false =>
   rw [Bool.false_or]
   exact ih
theorem st_judge (hk : 7 ≤ k) (h : Wk W) (hv : Arg W v) (hs : is.Sublist (List.range W.length)) : sIf (tNot (tVal (kCal (run tab n (k - 1) false) 25 (aCons (kCal (run tab n (k - 1) false) 18 (aCons (kVar 4) (aCons (kMak (run tab n (k - 1) true) 1 (aCons (kVar 13) aNil)) aNil))) (aCons (kAnd (kVar 14) (kCmp .Gt (kBlt .len (aCons (kVar 13) aNil)) (kLit (.int 1)))) aNil))))) fls bNil (slP Nl a0 y2 W v is y9 y10 y11 y12 (some (.bl (isThere W is))) y15 y16) N = .nx (slP Nl a0 y2 W v is y9 y10 y11 y12 (some (.bl (isThere W is))) y15 y16) N := by
 have hb : ∀ m, bel m (.tup (is.map nD)) = true := fun m => bels_nD m is
 exact chk (d := .bl (isThere W is && decide (1 < is.length))) (r_cal (ds := [v, mtD (.tup (is.map nD))]) (M1 := N) (r_acons (r_var rfl) (r_acons (r_mak (ds := [.tup (is.map nD)]) (M1 := N) (r_acons (r_var rfl) r_anil) (matched_mk oM (as_natsT oM _ fun y hy => by
  obtain ⟨i, _, rfl⟩ := List.mem_map.mp hy; exact .inl ⟨i, rfl⟩) hb)) r_anil)) (matched_law oM h hv hs)) (r_and (r_var rfl) (fun _ => r_cmp (len_is (is := is) rfl) r_lit (lt_is (σ := slP Nl a0 y2 W v is y9 y10 y11 y12 (some (.bl (isThere W is))) y15 y16) (is := is) rfl))) (is_bl oM _)
end
end Mn.K62
end
section
namespace Mn.K62
open PySem Mn Mn.Sh
section
variable {n k : Nat} {N X : Mem} {σ : Sl} {Nl : Nat}
variable {W : List Wt} {v : D} {is : List Nat} {a0 y2 y6 y7 y8 y9 y10 y11 y12 y13 y14 y15 y16 : Option D}
abbrev oddB (cf mf : Calls) : KS := bCons (sIf (Sh.tCmp .IsNot (kCal cf 18 (aCons (kVar 4) (aCons (kMak mf 1 (aCons (kVar 15) aNil)) aNil))) (kLit (.bl false))) fls bNil) bNil
abbrev oddE : KE := kNew false (nLst (aCons (kIfe (Sh.tCmp .Gt (kBlt .len (aCons (kVar 13) aNil)) (kLit (.int 1))) (kRev (kVar 13)) (kLit .non)) (aCons (kBin .Add (kVar 13) (kTup (aCons (kBlt .len (aCons (kVar 3) aNil)) aNil))) (aCons (kLit .non) (aCons (kBin .Add (kTup (aCons (kLit (.bl true)) aNil)) (kVar 13)) aNil)))))
theorem odd_e (h : Wk W) (hs : is.Sublist (List.range W.length)) : oddE (slP Nl a0 y2 W v is y9 y10 y11 y12 y14 y15 y16) N = .ok (.lst (oddX W is)) N := by
 have h4 := len_at h hs
 refine r_new (un_lst (r_acons (M1 := N) ?_ (r_acons (M1 := N) (r_bin (x := .tup (is.map nD)) (y := .tup [nD W.length]) (M1 := N) (M2 := N) (r_var rfl) (r_tup (r_acons (r_blt (ds := [wansT W]) (M1 := N) (r_acons (r_var rfl) r_anil) ?_) r_anil)) (add_tup (by rw [List.length_map]; show _ + 1 ≤ _; omega))) (r_acons r_lit (r_acons (r_bin (x := .tup [.bl true]) (y := .tup (is.map nD)) (M1 := N) (M2 := N) (r_tup (r_acons r_lit r_anil)) (r_var rfl) (add_tup (by rw [List.length_map]; show 1 + _ ≤ _; omega))) r_anil)))))
 ·have hc := ut_cmp (op := .Gt) (x := nD is.length) (y := .int 1) (σ := slP Nl a0 y2 W v is y9 y10 y11 y12 y14 y15 y16) (M := N) (M1 := N) (M2 := N) (a := kBlt .len (aCons (kVar 13) aNil)) (b := kLit (.int 1)) (len_is (is := is) rfl) r_lit (lt_is (σ := slP Nl a0 y2 W v is y9 y10 y11 y12 y14 y15 y16) (is := is) rfl)
  by_cases h1 : 1 < is.length
  ·rw [decide_eq_true h1] at hc
   rw [if_pos h1]
   refine r_ife (k := true) hc (fun _ => ?_) (fun h => Bool.noConfusion h)
   rw [List.map_reverse]
   exact r_rev (x := .tup (is.map nD)) (M1 := N) (r_var rfl) rfl
  ·rw [decide_eq_false h1] at hc
   rw [if_neg h1]
   exact r_ife (k := false) hc (fun h => Bool.noConfusion h) (fun _ => r_lit)
 ·show some (D.int ((W.map wanD).length : Nat)) = some (nD W.length)
  rw [List.length_map]; rfl
theorem st_odd4 (hk : 7 ≤ k) (h : Wk W) (hv : Arg W v) (hs : is.Sublist (List.range W.length)) : ∃ z15, sFor (gNm 15) (iIt oddE) (oddB (run tab n (k - 1) false) (run tab n (k - 1) true)) (slP Nl a0 y2 W v is y9 y10 y11 y12 y14 y15 y16) N = .nx (slP Nl a0 y2 W v is y9 y10 y11 y12 y14 z15 y16) N := by
 obtain ⟨σ2, M2, h1, ⟨z15, rfl⟩, rfl⟩ := us_for (l := oddX W is) (fd := fun d => d) (t := gNm 15) (it := iIt oddE) (σ := slP Nl a0 y2 W v is y9 y10 y11 y12 y14 y15 y16) (M := N) (b := oddB (run tab n (k - 1) false) (run tab n (k - 1) true))
  (fun j σ M' => (∃ z15, σ = slP Nl a0 y2 W v is y9 y10 y11 y12 y14 z15 y16) ∧ M' = N) (by rw [List.map_id']; exact ui_it (x := .lst (oddX W is)) (M1 := N) (odd_e h hs) rfl) ⟨⟨_, rfl⟩, rfl⟩ (by
   rintro j x σ1 M1 hx ⟨⟨z15, rfl⟩, rfl⟩
   have hm := List.mem_of_getElem? hx
   obtain ⟨ha, hb⟩ := odd_as (n := n) (k := k - 1 - 2) oM hm
   exact ⟨_, _, _, ug_nm, .inl (ub_cons (us_if (k := false) (M1 := M1) (ut_cmp (x := .bl false) (y := .bl false) (M1 := M1) (M2 := M1) (r_cal (ds := [v, mtD x]) (M1 := M1) (r_acons (r_var rfl) (r_acons (r_mak (ds := [x]) (M1 := M1) (r_acons (r_var rfl) r_anil) (matched_mk oM ha hb)) r_anil)) (matched_odd oM h hv hs hm)) r_lit rfl) (fun h => Bool.noConfusion h) (fun _ => ub_nil)) ub_nil), ⟨_, rfl⟩, rfl⟩)
 exact ⟨z15, h1⟩
theorem st_places (hk : 6 ≤ k) (h : Wk W) {c : Pen} (hc : PenOk c) : ∃ (is : List Nat) (c' : Pen), PenOk c' ∧ is.Sublist (List.range W.length) ∧ sAsg (gNm 13) (kTupO false (kNew false (nLcp [19] (gNm 19) (iRng1 (kBlt .len (aCons (kVar 3) aNil))) (Sh.tCmp .Eq (kCal (run tab n (k - 1) false) 22 (aCons (kVar 1) (aCons (kLit (.int 2)) aNil))) (kLit (.int 0))) (kVar 19)))) (slE Nl a0 y2 W v y9 y10 y11 y12 y13 y14 y15 y16) (penD c :: X) = .nx (slP Nl a0 y2 W v is y9 y10 y11 y12 y14 y15 y16) (penD c' :: X) := by
 have h4 := h.l4
 obtain ⟨is, M', h1, ⟨c', hc', rfl⟩, h3⟩ := lcpB (l := List.range W.length) (fd := nD) (g := nD) (vs := [19]) (t := gNm 19) (it := iRng1 (kBlt .len (aCons (kVar 3) aNil))) (c := Sh.tCmp .Eq (kCal (run tab n (k - 1) false) 22 (aCons (kVar 1) (aCons (kLit (.int 2)) aNil))) (kLit (.int 0))) (e := kVar 19) (σ := slE Nl a0 y2 W v y9 y10 y11 y12 y13 y14 y15 y16) (M := penD c :: X) (fun M => ∃ c, PenOk c ∧ M = penD c :: X)
  (ui_rng1 (j := (W.length : Nat)) (r_blt (ds := [wansT W]) (M1 := penD c :: X) (r_acons (r_var rfl) r_anil) (by
   show some (D.int ((W.map wanD).length : Nat)) = _
   rw [List.length_map])) (rngD_nat oM)) ⟨c, hc, rfl⟩ (by
   rintro i hi M7 ⟨c7, hc7, rfl⟩
   obtain ⟨r, c8, hc8, hr, d8⟩ := draw_ok (n := n) (k := k - 1) (X := X) oM hc7 (many := 2) oM oM
   exact ⟨_, decide ((r : Int) = 0), _, ug_nm, ut_cmp (x := .int (r : Nat)) (y := .int 0) (M1 := penD c8 :: X) (M2 := penD c8 :: X) (r_cal (ds := [.ref 0, .int 2]) (M1 := penD c7 :: X) (r_acons (r_var rfl) (r_acons r_lit r_anil)) d8) r_lit rfl, ⟨c8, hc8, rfl⟩, r_var rfl⟩)
 exact ⟨is, c', hc', h3, us_nm (r_tupO (x := .lst (is.map nD)) (M1 := penD c' :: X) (r_new h1) rfl)⟩
end
end Mn.K62
end
section
namespace Mn.K62
open PySem Mn Mn.Sh
section
variable {n k : Nat} {X : Mem} {Nl : Nat}
variable {W : List Wt} {v : D} {a0 y2 y6 y7 y8 y9 y10 y11 y12 y13 y14 y15 y16 : Option D}
abbrev lotB (cf mf : Calls) : KS := bCons (sAsg (gNm 13) (kTupO false (kNew false (nLcp [19] (gNm 19) (iRng1 (kBlt .len (aCons (kVar 3) aNil))) (Sh.tCmp .Eq (kCal cf 22 (aCons (kVar 1) (aCons (kLit (.int 2)) aNil))) (kLit (.int 0))) (kVar 19))))) (bCons (sAsg (gNm 10) (kNew false (nLcp [19] (gNm 19) (iIt (kVar 13)) (tVal (kLit (.bl true))) (kIdx (kIdx (kVar 3) (kVar 19)) (kLit (.int 0)))))) (bCons (sAsg (gNm 14) (kCmp .NotEq (kNew false (nLcp [9] (gNm 9) (iIt (kVar 5)) (Sh.tCmp .Eq (kNew false (nLcp [17] (gNm 17) (iIt (kVar 9)) (tVal (kLit (.bl true))) (kIdx (kVar 17) (kLit (.int 0))))) (kVar 10)) (kVar 9))) (kNew false (nLst aNil)))) (bCons (sIf (tNot (tVal (kCal cf 25 (aCons (kCal cf 18 (aCons (kVar 4) (aCons (kMak mf 1 (aCons (kVar 13) aNil)) aNil))) (aCons (kAnd (kVar 14) (kCmp .Gt (kBlt .len (aCons (kVar 13) aNil)) (kLit (.int 1)))) aNil))))) fls bNil) (bCons (sFor (gNm 15) (iIt oddE) (oddB cf mf)) bNil))))
theorem st_lots (hk : 7 ≤ k) (h : Wk W) (hv : Arg W v) {c : Pen} (hc : PenOk c) : ∃ (c' : Pen) (z10 z12 z13 z14 z15 : Option D), PenOk c' ∧ sFor (gNm 12) (iRng1 (kLit (.int 6))) (lotB (run tab n (k - 1) false) (run tab n (k - 1) true)) (slE Nl a0 y2 W v y9 y10 y11 y12 y13 y14 y15 y16) (penD c :: X) = .nx (slE Nl a0 y2 W v y9 z10 y11 z12 z13 z14 z15 y16) (penD c' :: X) := by
 obtain ⟨σ2, M2, h1, z10, z12, z13, z14, z15, c', hc', rfl, rfl⟩ := us_for (l := List.range 6) (fd := nD) (t := gNm 12) (it := iRng1 (kLit (.int 6))) (σ := slE Nl a0 y2 W v y9 y10 y11 y12 y13 y14 y15 y16) (M := penD c :: X) (b := lotB (run tab n (k - 1) false) (run tab n (k - 1) true))
  (fun j σ M' => ∃ z10 z12 z13 z14 z15 c, PenOk c ∧ σ = slE Nl a0 y2 W v y9 z10 y11 z12 z13 z14 z15 y16 ∧ M' = penD c :: X) (ui_rng1 (j := (6 : Nat)) r_lit (rngD_nat oM)) ⟨_, _, _, _, _, c, hc, rfl, rfl⟩ (by
   rintro j i σ1 M1 hi ⟨z10, z12, z13, z14, z15, c1, hc1, rfl, rfl⟩
   obtain ⟨is, c2, hc2, hs, s1⟩ := st_places (n := n) (k := k) (X := X) (Nl := Nl) (v := v) (a0 := a0) (y2 := y2) (y9 := y9) (y10 := z10) (y11 := y11) (y12 := some (nD i)) (y13 := z13) (y14 := z14) (y15 := z15) (y16 := y16) oM h hc1
   have s2 := st_part (N := penD c2 :: X) (Nl := Nl) (v := v) (a0 := a0) (y2 := y2) (y9 := y9) (y10 := z10) (y11 := y11) (y12 := some (nD i)) (y14 := z14) (y15 := z15) (y16 := y16) h hs
   have s3 := st_there (N := penD c2 :: X) (Nl := Nl) (v := v) (is := is) (a0 := a0) (y2 := y2) (y9 := y9) (y11 := y11) (y12 := some (nD i)) (y14 := z14) (y15 := z15) (y16 := y16) h
   have s4 := st_judge (n := n) (k := k) (N := penD c2 :: X) (Nl := Nl) (a0 := a0) (y2 := y2) (y9 := y9) (y10 := some (.lst ((pts (is.map (atW W))).map D.str))) (y11 := y11) (y12 := some (nD i)) (y15 := z15) (y16 := y16) oM h hv hs
   obtain ⟨w15, s5⟩ := st_odd4 (n := n) (k := k) (N := penD c2 :: X) (Nl := Nl) (a0 := a0) (y2 := y2) (y9 := y9) (y10 := some (.lst ((pts (is.map (atW W))).map D.str))) (y11 := y11) (y12 := some (nD i)) (y14 := some (.bl (isThere W is))) (y15 := z15) (y16 := y16) oM h hv hs
   exact ⟨_, _, _, ug_nm, .inl (ub_cons s1 (ub_cons s2 (ub_cons s3 (ub_cons s4 (ub_cons s5 ub_nil))))), _, _, _, _, _, c2, hc2, rfl, rfl⟩)
 exact ⟨c', z10, z12, z13, z14, z15, hc', h1⟩
end
end Mn.K62
end
section
namespace Mn.K62
open PySem Mn Mn.Sh
section
variable {n k : Nat} {Y : Mem}
abbrev lapB (cf mf : Calls) : KS := bCons (sAsg (gNm 3) (kCal cf 28 (aCons (kVar 1) aNil))) (bCons (sAsg (gTp 2 (gCons (gNm 4) (gCons (gNm 5) gNil))) (kTup (aCons (kCal cf 23 (aCons (kVar 1) (aCons (kNew false (nLst (aCons (kVar 3) (aCons (kNew false (nLstO (kVar 3))) aNil)))) aNil))) (aCons (kCal cf 29 (aCons (kVar 3) aNil)) aNil)))) (bCons (sIf (tNot (tVal (kCal cf 25 (aCons (kCal cf 16 (aCons (kVar 4) aNil)) (aCons (kTupO false (kVar 5)) aNil))))) fls bNil) (bCons (sIf (Sh.tCmp .NotEq (kNew false (nLcp [9] (gNm 9) (iIt (kVar 5)) (Sh.tCmp .NotEq (kAtt (kMak mf 0 (aCons (kVar 9) aNil)) 0) (kVar 9)) (kVar 9))) (kNew false (nLst aNil))) fls bNil) (bCons (sAsg (gNm 6) (kBlt .max (aCons (kBin .Add (kNew false (nLst (aCons (kLit (.int 0)) aNil))) (kNew false (nLcp [9] (gNm 9) (iIt (kVar 5)) (tVal (kLit (.bl true))) (kBlt .len (aCons (kVar 9) aNil))))) aNil))) (bCons (sAsg (gNm 7) (kNew false (nLcp [9] (gNm 9) (iIt (kVar 5)) (Sh.tCmp .Eq (kBlt .len (aCons (kVar 9) aNil)) (kVar 6)) (kVar 9)))) (bCons (sIf (tNot (tVal (kCal cf 25 (aCons (kCal cf 17 (aCons (kVar 4) aNil)) (aCons (kTup (aCons (kVar 6) (aCons (kIfe (Sh.tCmp .NotEq (kVar 7) (kNew false (nLst aNil))) (kIdx (kVar 7) (kLit (.int 0))) (kTup aNil)) aNil))) aNil))))) fls bNil) (bCons (sAsg (gNm 8) (kNew true (nLst aNil))) (bCons (sFor (gNm 9) (iIt (kVar 5)) servedB) (bCons (sIf (tNot (tVal (kCal cf 25 (aCons (kCal cf 19 (aCons (kVar 4) aNil)) (aCons (kTupO false (kNew false (nSort (kNew false (nLcp [17] (gNm 17) (iIt (kVar 3)) (Sh.tCmp .NotIn (kIdx (kVar 17) (kLit (.int 0))) (kVar 8)) (kIdx (kVar 17) (kLit (.int 0)))))))) aNil))))) fls bNil) (bCons (sFor (gNm 9) (iIt (kBin .Add (kBin .Add (kNew false (nLst (aCons (kTup aNil) aNil))) (kSlc (kVar 5) pNo (pEx (kLit (.int 3))))) (kSlc (kVar 7) pNo (pEx (kLit (.int 1)))))) (blockB cf)) (bCons (sIf (tAnd (Sh.tCmp .NotEq (kVar 7) (kNew false (nLst aNil))) (Sh.tCmp .IsNot (kCal cf 20 (aCons (kVar 4) (aCons (kIdx (kVar 7) (kLit (.int 0))) aNil))) (kLit .non))) fls bNil) (bCons (sFor (gNm 12) (iRng1 (kLit (.int 6))) (lotB cf mf)) (bCons (sFor (gNm 16) (iIt (kNew false (nLst (aCons (kLit .non) (aCons (kLit (.int 5)) (aCons (kTup (aCons (kLit (.int 0)) (aCons (kLit (.int 1)) aNil))) aNil)))))) (bCons (sIf (Sh.tCmp .IsNot (kCal cf 18 (aCons (kVar 4) (aCons (kVar 16) aNil))) (kLit (.bl false))) fls bNil) bNil)) bNil)))))))))))))
theorem lap_ok (hk : 8 ≤ k) (hn : 3 < n) {c : Pen} (hc : PenOk c) (a0 y2 y3 y4 y5 y6 y7 y8 y9 y10 y11 y12 y13 y14 y15 y16 : Option D) : ∃ (c' : Pen) (Y' : Mem) (z3 z4 z5 z6 z7 z8 z9 z10 z11 z12 z13 z14 z15 z16 : Option D), PenOk c' ∧ lapB (run tab n (k - 1) false) (run tab n (k - 1) true) (sl62 a0 y2 y3 y4 y5 y6 y7 y8 y9 y10 y11 y12 y13 y14 y15 y16) (penD c :: Y) = .nx (sl62 a0 y2 z3 z4 z5 z6 z7 z8 z9 z10 z11 z12 z13 z14 z15 z16) (penD c' :: Y') := by
 obtain ⟨W, c1, hc1, h, d1⟩ := drawn_ok (n := n) (k := k - 1) (X := Y) oM hn hc
 obtain ⟨v, c2, hc2, hv, d2⟩ := pick_ok (n := n) (k := k - 1) (X := Y) (x := .lst [wansT W, wansL W]) (xs := [wansT W, wansL W]) oM hc1 (.inr fun _ => rfl) (by show 0 < 2; omega) (by show 2 < 1000000; omega) (fun y hy => by
  simp only [List.mem_cons, List.not_mem_nil, or_false] at hy
  rcases hy with rfl | rfl
  ·exact bel_wansT _ W
  ·exact bel_wansL _ W)
 have hv : Arg W v := by
  simp only [List.mem_cons, List.not_mem_nil, or_false] at hv
  exact hv
 have d3 := law_orders_ok (n := n) (k := k - 1) (M := penD c2 :: Y) oM h
 have s1 : sAsg (gNm 3) (kCal (run tab n (k - 1) false) 28 (aCons (kVar 1) aNil)) (sl62 a0 y2 y3 y4 y5 y6 y7 y8 y9 y10 y11 y12 y13 y14 y15 y16) (penD c :: Y) = .nx (sl62 a0 y2 (some (wansT W)) y4 y5 y6 y7 y8 y9 y10 y11 y12 y13 y14 y15 y16) (penD c1 :: Y) := us_nm (r_cal (ds := [.ref 0]) (M1 := penD c :: Y) (r_acons (r_var rfl) r_anil) d1)
 have s2 : sAsg (gTp 2 (gCons (gNm 4) (gCons (gNm 5) gNil))) (kTup (aCons (kCal (run tab n (k - 1) false) 23 (aCons (kVar 1) (aCons (kNew false (nLst (aCons (kVar 3) (aCons (kNew false (nLstO (kVar 3))) aNil)))) aNil))) (aCons (kCal (run tab n (k - 1) false) 29 (aCons (kVar 3) aNil)) aNil))) (sl62 a0 y2 (some (wansT W)) y4 y5 y6 y7 y8 y9 y10 y11 y12 y13 y14 y15 y16) (penD c1 :: Y) = .nx (sl62 a0 y2 (some (wansT W)) (some v) (dueD W) y6 y7 y8 y9 y10 y11 y12 y13 y14 y15 y16) (penD c2 :: Y) :=
  us_tg (d := .tup [v, .lst ((ords W).map ordD)]) (M1 := penD c2 :: Y) (r_tup (r_acons (r_cal (ds := [.ref 0, .lst [wansT W, wansL W]]) (M1 := penD c1 :: Y) (r_acons (r_var rfl) (r_acons (r_new (un_lst (r_acons (r_var rfl) (r_acons (r_new (un_lstO (x := wansT W) (M1 := penD c1 :: Y) (r_var rfl) rfl)) r_anil)))) r_anil)) d2) (r_acons (r_cal (ds := [wansT W]) (M1 := penD c2 :: Y) (r_acons (r_var rfl) r_anil) d3) r_anil))) (tp2 rfl)
 obtain ⟨w9, s9⟩ := st_all (N := penD c2 :: Y) (v := v) (a0 := a0) (y2 := y2) (y9 := y9) (y10 := y10) (y11 := y11) (y12 := y12) (y13 := y13) (y14 := y14) (y15 := y15) (y16 := y16) h
 obtain ⟨S, hS⟩ : ∃ S, S = D.lst (((ords W).flatMap parts).map D.str) := ⟨_, rfl⟩
 have s10 := st_alone (n := n) (k := k) (N := penD c2 :: Y) (a0 := a0) (y2 := y2) (y9 := w9) (y10 := y10) (y11 := y11) (y12 := y12) (y13 := y13) (y14 := y14) (y15 := y15) (y16 := y16) oM h hv
 rw [← hS] at s9 s10
 obtain ⟨u9, u10, u11, s11⟩ := st_block (n := n) (k := k) (N := (penD c2 :: Y) ++ [S]) (Nl := (penD c2 :: Y).length) (a0 := a0) (y2 := y2) (y9 := w9) (y10 := y10) (y11 := y11) (y12 := y12) (y13 := y13) (y14 := y14) (y15 := y15) (y16 := y16) oM h hv
 have s12 := st_great (n := n) (k := k) (N := (penD c2 :: Y) ++ [S]) (Nl := (penD c2 :: Y).length) (a0 := a0) (y2 := y2) (y9 := u9) (y10 := u10) (y11 := u11) (y12 := y12) (y13 := y13) (y14 := y14) (y15 := y15) (y16 := y16) oM h hv
 obtain ⟨c3, t10, t12, t13, t14, t15, hc3, s13⟩ := st_lots (n := n) (k := k) (X := Y ++ [S]) (Nl := (penD c2 :: Y).length) (a0 := a0) (y2 := y2) (y9 := u9) (y10 := u10) (y11 := u11) (y12 := y12) (y13 := y13) (y14 := y14) (y15 := y15) (y16 := y16) oM h hv hc2
 obtain ⟨t16, s14⟩ := st_odd (n := n) (k := k) (N := penD c3 :: (Y ++ [S])) (Nl := (penD c2 :: Y).length) (a0 := a0) (y2 := y2) (y9 := u9) (y10 := t10) (y11 := u11) (y12 := t12) (y13 := t13) (y14 := t14) (y15 := t15) (y16 := y16) oM h hv
 exact ⟨c3, Y ++ [S], _, _, _, _, _, _, _, _, _, _, _, _, _, _, hc3, ub_cons s1 (ub_cons s2 (ub_cons (st_in oM h hv) (ub_cons (st_ord oM h) (ub_cons (st_most h) (ub_cons st_best (ub_cons (st_served oM h hv) (ub_cons (us_nm (r_newX0 (un_lst r_anil))) (ub_cons s9 (ub_cons s10 (ub_cons s11 (ub_cons s12 (ub_cons s13 (ub_cons s14 ub_nil)))))))))))))⟩
end
end Mn.K62
end
section
namespace Mn.K62
open PySem Mn Mn.Sh
def mN (l : List Nat) : D := mtD (.tup (l.map nD))
theorem m_eq {n k : Nat} {M : Mem} (hk : 1 ≤ k) (a b : List Nat) (e : eq2s (a.map nD) (b.map nD) = decide (a = b)) : run tab n k false 8 [mN a, mN b] M = .ok (.bl (decide (a = b))) M :=
 does shal h8 oM rfl rfl (d := .bl (true && decide (a = b))) (M' := M) (ub_rt (us_ret (r_and (k := true) (kb := decide (a = b)) (r_blt (ds := [mN b, .cls 1]) (M1 := M) (r_acons (r_var rfl) (r_acons r_lit r_anil)) (isi_cls 1 1 _)) (fun _ => r_cmp (x := .tup (a.map nD)) (y := .tup (b.map nD)) (M1 := M) (M2 := M) (r_att (x := mN a) (M1 := M) (r_var rfl) rfl) (r_att (x := mN b) (M1 := M) (r_var rfl) rfl) (by rw [cmp_tupE (shps_nD 8 a) (shps_nD 8 b), e]))))) (fin_id0 rfl)
theorem m_eqT {n k : Nat} {M : Mem} (hk : 1 ≤ k) (a : List Nat) (xs : List D) : run tab n k false 8 [mN a, .tup xs] M = .ok (.bl false) M :=
 does shal h8 oM rfl rfl (d := .bl (false && true)) (M' := M) (ub_rt (us_ret (r_and (k := false) (kb := true) (r_blt (ds := [.tup xs, .cls 1]) (M1 := M) (r_acons (r_var rfl) (r_acons r_lit r_anil)) (by
  show bi .isi [.tup xs, .cls 1] = _
  simp [bi, biIsi, isA, tyD])) (fun h => by cases h)))) (fin_id0 rfl)
theorem m_ne {n k : Nat} {M : Mem} (hk : 2 ≤ k) (a b : List Nat) (e : eq2s (a.map nD) (b.map nD) = decide (a = b)) : run tab n k false 9 [mN a, mN b] M = .ok (.bl (!decide (a = b))) M :=
 does shal h9 oM rfl rfl (ub_rt (us_ret (r_not (x := .bl (decide (a = b))) (M1 := M) (r_dun (cc := 1) (g := 8) (x := mN a) (y := mN b) (M1 := M) (M2 := M) (r_var rfl) (r_var rfl) rfl rfl rfl (m_eq oM a b e)) rfl))) (fin_id0 rfl)
theorem law_ok {n : Nat} (hn : 3 < n) (sc : List Int) : ∃ M, run tab n (60 + 1) false i_law [.scr sc] [] = .ok (.bl true) M := by
 obtain ⟨c, hc, hpen⟩ := pen_ok (n := n) (k := 60) (by decide) sc
 obtain ⟨σ2, M2, hl, c1, Y1, y2, y3, y4, y5, y6, y7, y8, y9, y10, y11, y12, y13, y14, y15, y16, hc1, rfl, hM⟩ := us_for (l := List.range 4) (fd := nD) (t := gNm 2) (it := iRng1 (kLit (.int 4))) (σ := sl62 (some (.scr sc)) none none none none none none none none none none none none none none none) (M := [penD c]) (b := lapB (run tab n 60 false) (run tab n 60 true))
  (fun j σ M' => ∃ (c1 : Pen) (Y1 : Mem) (y2 y3 y4 y5 y6 y7 y8 y9 y10 y11 y12 y13 y14 y15 y16 : Option D), PenOk c1 ∧ σ = sl62 (some (.scr sc)) y2 y3 y4 y5 y6 y7 y8 y9 y10 y11 y12 y13 y14 y15 y16 ∧ M' = penD c1 :: Y1)
  (ui_rng1 (j := (4 : Nat)) r_lit (rngD_nat oM)) ⟨c, [], _, _, _, _, _, _, _, _, _, _, _, _, _, _, _, hc, rfl, rfl⟩ (by
   rintro j i σ1 M1 hi ⟨c1, Y1, y2, y3, y4, y5, y6, y7, y8, y9, y10, y11, y12, y13, y14, y15, y16, hc1, rfl, rfl⟩
   obtain ⟨c2, Y2, z3, z4, z5, z6, z7, z8, z9, z10, z11, z12, z13, z14, z15, z16, hc2, hb⟩ := lap_ok (n := n) (k := 61) (Y := Y1) oM hn hc1 (some (.scr sc)) (some (nD i)) y3 y4 y5 y6 y7 y8 y9 y10 y11 y12 y13 y14 y15 y16
   exact ⟨_, _, _, ug_nm, .inl hb, c2, Y2, _, _, _, _, _, _, _, _, _, _, _, _, _, _, _, hc2, rfl, rfl⟩)
 obtain ⟨N, hN⟩ : ∃ N : Mem, N = M2 := ⟨_, rfl⟩
 have tn : ∀ l : List Nat, AsId n (60 - 2) (.tup (l.map nD)) := fun l => as_natsT oM _ fun y hy => by
  obtain ⟨i, _, rfl⟩ := List.mem_map.mp hy; exact .inl ⟨i, rfl⟩
 have bn : ∀ (l : List Nat) m, bel m (.tup (l.map nD)) = true := fun l m => bels_nD m l
 have pt : ∀ σ : Sl, kMak (run tab n 60 true) 1 (aCons (kTup (aCons (kLit (.int 0)) (aCons (kLit (.int 1)) aNil))) aNil) σ M2 = .ok (mN [0, 1]) M2 := fun σ => r_mak (ds := [.tup ([0, 1].map nD)]) (M1 := M2) (r_acons (r_tup (r_acons r_lit (r_acons r_lit r_anil))) r_anil) (matched_mk oM (tn _) (bn _))
 have p1 : ∀ σ : Sl, kMak (run tab n 60 true) 1 (aCons (kTup (aCons (kLit (.int 0)) aNil)) aNil) σ M2 = .ok (mN [0]) M2 := fun σ => r_mak (ds := [.tup ([0].map nD)]) (M1 := M2) (r_acons (r_tup (r_acons r_lit r_anil)) r_anil) (matched_mk oM (tn _) (bn _))
 have pl : ∀ σ : Sl, kMak (run tab n 60 true) 1 (aCons (kNew false (nLst (aCons (kLit (.int 0)) (aCons (kLit (.int 1)) aNil)))) aNil) σ M2 = .ok (mN [0, 1]) M2 := fun σ => r_mak (ds := [.lst ([0, 1].map nD)]) (M1 := M2) (r_acons (r_new (un_lst (r_acons r_lit (r_acons r_lit r_anil)))) r_anil) (matched_mk oM (as_lst oM (fun x hx => by
  obtain ⟨i, _, rfl⟩ := List.mem_map.mp hx
  exact as_dat (m := 0) oM rfl rfl) (fun m => bels_nD m _)) (bn _))
 refine ⟨[], does shal h30 oM rfl rfl (ub_cons (us_nm (d := .ref 0) (M1 := [penD c]) (r_cal (ds := [.scr sc]) (M1 := []) (r_acons (r_var rfl) r_anil) hpen)) (ub_cons hl (ub_rt (us_ret (d := .bl true) (M1 := M2) (r_and (k := true) (kb := true) (r_dun (cc := 1) (g := 8) (x := mN [0, 1]) (y := mN [0, 1]) (M1 := M2) (M2 := M2) (pl _) (pt _) rfl rfl rfl (m_eq oM [0, 1] [0, 1] rfl)) (fun _ => r_and (k := true) (kb := true) (r_dun (cc := 1) (g := 9) (x := mN [0, 1]) (y := mN [0]) (M1 := M2) (M2 := M2) (pt _) (p1 _) rfl rfl rfl (m_ne oM [0, 1] [0] rfl)) (fun _ => r_not (x := .bl false) (M1 := M2) (r_dun (cc := 1) (g := 8) (x := mN [0, 1]) (y := .tup ([0, 1].map nD)) (M1 := M2) (M2 := M2) (pt _) (r_tup (r_acons r_lit (r_acons r_lit r_anil))) rfl rfl rfl (m_eqT oM [0, 1] _)) rfl))))))) ?_⟩
 exact fin_id (M := []) (X := M2) rfl
end Mn.K62
end
section
namespace Mn.K62
open PySem PySem.Spec PyProof.Rows L2 Mn.K62.Hd
theorem f0 {S : Sit} (G : Glob gd S) {n : Nat} (c : ∃ fd, FunD S.K d0.name d0.qual d0.params d0.body d0.scope [] [] (S.fa 0) fd) : FnE S n 0 F0 := by
 obtain ⟨fd, F⟩ := c
 exact ⟨_, _, _, _, _, N0, [(Str.ofString "value")], fd, F, FunD.bindsN F (fun _ _ _ _ _ _ us hl => match us, hl with | [_], _ => rfl), C8.fnScope_by kR, rfl, rfl, fun cf mf X W cx fn tk po co => e0 G cf mf X W cx fn tk po co⟩
theorem f1 {S : Sit} (G : Glob gd S) {n : Nat} (c : ∃ fd, FunD S.K d1.name d1.qual d1.params d1.body d1.scope [] [] (S.fa 1) fd) : FnE S n 1 F1 := by
 obtain ⟨fd, F⟩ := c
 exact ⟨_, _, _, _, _, N1, [(Str.ofString "value")], fd, F, FunD.bindsN F (fun _ _ _ _ _ _ us hl => match us, hl with | [_], _ => rfl), C8.fnScope_by kR, rfl, rfl, fun cf mf X W cx fn tk po co => e1 G cf mf X W cx fn tk po co⟩
theorem f2 {S : Sit} (G : Glob gd S) {n : Nat} (c : ∃ fd, FunD S.K d2.name d2.qual d2.params d2.body d2.scope [] [] (S.fa 2) fd) : FnE S n 2 F2 := by
 obtain ⟨fd, F⟩ := c
 exact ⟨_, _, _, _, _, N2, [(Str.ofString "value"), (Str.ofString "many")], fd, F, FunD.bindsN F (fun _ _ _ _ _ _ us hl => match us, hl with | [_, _], _ => rfl), C8.fnScope_by kR, rfl, rfl, fun cf mf X W cx fn tk po co => e2 G cf mf X W cx fn tk po co⟩
theorem f3 {S : Sit} (G : Glob gd S) {n : Nat} (c : ∃ fd, FunD S.K d3.name d3.qual d3.params d3.body d3.scope [] [] (S.fa 3) fd) : FnE S n 3 F3 := by
 obtain ⟨fd, F⟩ := c
 exact ⟨_, _, _, _, _, N3, [(Str.ofString "value")], fd, F, FunD.bindsN F (fun _ _ _ _ _ _ us hl => match us, hl with | [_], _ => rfl), C8.fnScope_by kR, rfl, rfl, fun cf mf X W cx fn tk po co => e3 G cf mf X W cx fn tk po co⟩
theorem f4 {S : Sit} (G : Glob gd S) {n : Nat} (c : ∃ fd, FunD S.K d4.name d4.qual d4.params d4.body d4.scope [] [] (S.fa 4) fd) : FnE S n 4 F4 := by
 obtain ⟨fd, F⟩ := c
 exact ⟨_, _, _, _, _, N4, [(Str.ofString "self"), (Str.ofString "rows")], fd, F, FunD.bindsN F (fun _ _ _ _ _ _ us hl => match us, hl with | [_, _], _ => rfl), C8.fnScope_by kR, rfl, rfl, fun cf mf X W cx fn tk po co => e4 G cf mf X W cx fn tk po co⟩
theorem f5 {S : Sit} (G : Glob gd S) {n : Nat} (c : ∃ fd, FunD S.K d5.name d5.qual d5.params d5.body d5.scope [] [] (S.fa 5) fd) : FnE S n 5 F5 := by
 obtain ⟨fd, F⟩ := c
 exact ⟨_, _, _, _, _, N5, [(Str.ofString "row")], fd, F, FunD.bindsN F (fun _ _ _ _ _ _ us hl => match us, hl with | [_], _ => rfl), C8.fnScope_by kR, rfl, rfl, fun cf mf X W cx fn tk po co => e5 G cf mf X W cx fn tk po co⟩
theorem f6 {S : Sit} (G : Glob gd S) {n : Nat} (c : ∃ fd, FunD S.K d6.name d6.qual d6.params d6.body d6.scope [] [] (S.fa 6) fd) : FnE S n 6 F6 := by
 obtain ⟨fd, F⟩ := c
 exact ⟨_, _, _, _, _, N6, [(Str.ofString "rows")], fd, F, FunD.bindsN F (fun _ _ _ _ _ _ us hl => match us, hl with | [_], _ => rfl), C8.fnScope_by kR, rfl, rfl, fun cf mf X W cx fn tk po co => e6 G cf mf X W cx fn tk po co⟩
theorem f7 {S : Sit} (G : Glob gd S) {n : Nat} (c : ∃ fd, FunD S.K d7.name d7.qual d7.params d7.body d7.scope [] [] (S.fa 7) fd) : FnE S n 7 F7 := by
 obtain ⟨fd, F⟩ := c
 exact ⟨_, _, _, _, _, N7, [(Str.ofString "self"), (Str.ofString "rows")], fd, F, FunD.bindsN F (fun _ _ _ _ _ _ us hl => match us, hl with | [_, _], _ => rfl), C8.fnScope_by kR, rfl, rfl, fun cf mf X W cx fn tk po co => e7 G cf mf X W cx fn tk po co⟩
theorem f8 {S : Sit} (G : Glob gd S) {n : Nat} (c : ∃ fd, FunD S.K d8.name d8.qual d8.params d8.body d8.scope [] [] (S.fa 8) fd) : FnE S n 8 F8 := by
 obtain ⟨fd, F⟩ := c
 exact ⟨_, _, _, _, _, N8, [(Str.ofString "self"), (Str.ofString "other")], fd, F, FunD.bindsN F (fun _ _ _ _ _ _ us hl => match us, hl with | [_, _], _ => rfl), C8.fnScope_by kR, rfl, rfl, fun cf mf X W cx fn tk po co => e8 G cf mf X W cx fn tk po co⟩
theorem f9 {S : Sit} (G : Glob gd S) {n : Nat} (c : ∃ fd, FunD S.K d9.name d9.qual d9.params d9.body d9.scope [] [] (S.fa 9) fd) : FnE S n 9 F9 := by
 obtain ⟨fd, F⟩ := c
 exact ⟨_, _, _, _, _, N9, [(Str.ofString "self"), (Str.ofString "other")], fd, F, FunD.bindsN F (fun _ _ _ _ _ _ us hl => match us, hl with | [_, _], _ => rfl), C8.fnScope_by kR, rfl, rfl, fun cf mf X W cx fn tk po co => e9 G cf mf X W cx fn tk po co⟩
theorem f10 {S : Sit} (G : Glob gd S) {n : Nat} (c : ∃ fd, FunD S.K d10.name d10.qual d10.params d10.body d10.scope [] [] (S.fa 10) fd) : FnE S n 10 F10 := by
 obtain ⟨fd, F⟩ := c
 exact ⟨_, _, _, _, _, N10, [(Str.ofString "row")], fd, F, FunD.bindsN F (fun _ _ _ _ _ _ us hl => match us, hl with | [_], _ => rfl), C8.fnScope_by kR, rfl, rfl, fun cf mf X W cx fn tk po co => e10 G cf mf X W cx fn tk po co⟩
theorem f11 {S : Sit} (G : Glob gd S) {n : Nat} (c : ∃ fd, FunD S.K d11.name d11.qual d11.params d11.body d11.scope [] [] (S.fa 11) fd) : FnE S n 11 F11 := by
 obtain ⟨fd, F⟩ := c
 exact ⟨_, _, _, _, _, N11, [(Str.ofString "value")], fd, F, FunD.bindsN F (fun _ _ _ _ _ _ us hl => match us, hl with | [_], _ => rfl), C8.fnScope_by kR, rfl, rfl, fun cf mf X W cx fn tk po co => e11 G cf mf X W cx fn tk po co⟩
theorem f12 {S : Sit} (G : Glob gd S) {n : Nat} (c : ∃ fd, FunD S.K d12.name d12.qual d12.params d12.body d12.scope [] [] (S.fa 12) fd) : FnE S n 12 F12 := by
 obtain ⟨fd, F⟩ := c
 exact ⟨_, _, _, _, _, N12, [(Str.ofString "wantings")], fd, F, FunD.bindsN F (fun _ _ _ _ _ _ us hl => match us, hl with | [_], _ => rfl), C8.fnScope_by kR, rfl, rfl, fun cf mf X W cx fn tk po co => e12 G cf mf X W cx fn tk po co⟩
theorem f13 {S : Sit} (G : Glob gd S) {n : Nat} (c : ∃ fd, FunD S.K d13.name d13.qual d13.params d13.body d13.scope [] [] (S.fa 13) fd) : FnE S n 13 F13 := by
 obtain ⟨fd, F⟩ := c
 exact ⟨_, _, _, _, _, N13, [(Str.ofString "wantings"), (Str.ofString "places")], fd, F, FunD.bindsN F (fun _ _ _ _ _ _ us hl => match us, hl with | [_, _], _ => rfl), C8.fnScope_by kR, rfl, rfl, fun cf mf X W cx fn tk po co => e13 G cf mf X W cx fn tk po co⟩
theorem f14 {S : Sit} (G : Glob gd S) {n : Nat} (c : ∃ fd, FunD S.K d14.name d14.qual d14.params d14.body d14.scope [] [] (S.fa 14) fd) : FnE S n 14 F14 := by
 obtain ⟨fd, F⟩ := c
 exact ⟨_, _, _, _, _, N14, [(Str.ofString "many")], fd, F, FunD.bindsN F (fun _ _ _ _ _ _ us hl => match us, hl with | [_], _ => rfl), C8.fnScope_by kR, rfl, rfl, fun cf mf X W cx fn tk po co => e14 G cf mf X W cx fn tk po co⟩
theorem f15 {S : Sit} (G : Glob gd S) {n : Nat} (c : ∃ fd, FunD S.K d15.name d15.qual d15.params d15.body d15.scope [] [] (S.fa 15) fd) : FnE S n 15 F15 := by
 obtain ⟨fd, F⟩ := c
 exact ⟨_, _, _, _, _, N15, [(Str.ofString "wantings")], fd, F, FunD.bindsN F (fun _ _ _ _ _ _ us hl => match us, hl with | [_], _ => rfl), C8.fnScope_by kR, rfl, rfl, fun cf mf X W cx fn tk po co => e15 G cf mf X W cx fn tk po co⟩
theorem f16 {S : Sit} (G : Glob gd S) {n : Nat} (c : ∃ fd, FunD S.K d16.name d16.qual d16.params d16.body d16.scope [] [] (S.fa 16) fd) : FnE S n 16 F16 := by
 obtain ⟨fd, F⟩ := c
 exact ⟨_, _, _, _, _, N16, [(Str.ofString "wantings")], fd, F, FunD.bindsN F (fun _ _ _ _ _ _ us hl => match us, hl with | [_], _ => rfl), C8.fnScope_by kR, rfl, rfl, fun cf mf X W cx fn tk po co => e16 G cf mf X W cx fn tk po co⟩
theorem f17 {S : Sit} (G : Glob gd S) {n : Nat} (c : ∃ fd, FunD S.K d17.name d17.qual d17.params d17.body d17.scope [] [] (S.fa 17) fd) : FnE S n 17 F17 := by
 obtain ⟨fd, F⟩ := c
 exact ⟨_, _, _, _, _, N17, [(Str.ofString "wantings")], fd, F, FunD.bindsN F (fun _ _ _ _ _ _ us hl => match us, hl with | [_], _ => rfl), C8.fnScope_by kR, rfl, rfl, fun cf mf X W cx fn tk po co => e17 G cf mf X W cx fn tk po co⟩
theorem f18 {S : Sit} (G : Glob gd S) {n : Nat} (c : ∃ fd, FunD S.K d18.name d18.qual d18.params d18.body d18.scope [] [] (S.fa 18) fd) : FnE S n 18 F18 := by
 obtain ⟨fd, F⟩ := c
 exact ⟨_, _, _, _, _, N18, [(Str.ofString "wantings"), (Str.ofString "value")], fd, F, FunD.bindsN F (fun _ _ _ _ _ _ us hl => match us, hl with | [_, _], _ => rfl), C8.fnScope_by kR, rfl, rfl, fun cf mf X W cx fn tk po co => e18 G cf mf X W cx fn tk po co⟩
theorem f19 {S : Sit} (G : Glob gd S) {n : Nat} (c : ∃ fd, FunD S.K d19.name d19.qual d19.params d19.body d19.scope [] [] (S.fa 19) fd) : FnE S n 19 F19 := by
 obtain ⟨fd, F⟩ := c
 exact ⟨_, _, _, _, _, N19, [(Str.ofString "wantings")], fd, F, FunD.bindsN F (fun _ _ _ _ _ _ us hl => match us, hl with | [_], _ => rfl), C8.fnScope_by kR, rfl, rfl, fun cf mf X W cx fn tk po co => e19 G cf mf X W cx fn tk po co⟩
theorem f20 {S : Sit} (G : Glob gd S) {n : Nat} (c : ∃ fd, FunD S.K d20.name d20.qual d20.params d20.body d20.scope [] [] (S.fa 20) fd) : FnE S n 20 F20 := by
 obtain ⟨fd, F⟩ := c
 exact ⟨_, _, _, _, _, N20, [(Str.ofString "wantings"), (Str.ofString "rows")], fd, F, FunD.bindsN F (fun _ _ _ _ _ _ us hl => match us, hl with | [_, _], _ => rfl), C8.fnScope_by kR, rfl, rfl, fun cf mf X W cx fn tk po co => e20 G cf mf X W cx fn tk po co⟩
theorem f21 {S : Sit} (G : Glob gd S) {n : Nat} (c : ∃ fd, FunD S.K d21.name d21.qual d21.params d21.body d21.scope [] [] (S.fa 21) fd) : FnE S n 21 F21 := by
 obtain ⟨fd, F⟩ := c
 exact ⟨_, _, _, _, _, N21, [(Str.ofString "script")], fd, F, FunD.bindsN F (fun _ _ _ _ _ _ us hl => match us, hl with | [_], _ => rfl), C8.fnScope_by kR, rfl, rfl, fun cf mf X W cx fn tk po co => e21 G cf mf X W cx fn tk po co⟩
theorem f22 {S : Sit} (G : Glob gd S) {n : Nat} (c : ∃ fd, FunD S.K d22.name d22.qual d22.params d22.body d22.scope [] [] (S.fa 22) fd) : FnE S n 22 F22 := by
 obtain ⟨fd, F⟩ := c
 exact ⟨_, _, _, _, _, N22, [(Str.ofString "pen"), (Str.ofString "many")], fd, F, FunD.bindsN F (fun _ _ _ _ _ _ us hl => match us, hl with | [_, _], _ => rfl), C8.fnScope_by kR, rfl, rfl, fun cf mf X W cx fn tk po co => e22 G cf mf X W cx fn tk po co⟩
theorem f23 {S : Sit} (G : Glob gd S) {n : Nat} (c : ∃ fd, FunD S.K d23.name d23.qual d23.params d23.body d23.scope [] [] (S.fa 23) fd) : FnE S n 23 F23 := by
 obtain ⟨fd, F⟩ := c
 exact ⟨_, _, _, _, _, N23, [(Str.ofString "pen"), (Str.ofString "some")], fd, F, FunD.bindsN F (fun _ _ _ _ _ _ us hl => match us, hl with | [_, _], _ => rfl), C8.fnScope_by kR, rfl, rfl, fun cf mf X W cx fn tk po co => e23 G cf mf X W cx fn tk po co⟩
theorem f24 {S : Sit} (G : Glob gd S) {n : Nat} (c : ∃ fd, FunD S.K d24.name d24.qual d24.params d24.body d24.scope [] [] (S.fa 24) fd) : FnE S n 24 F24 := by
 obtain ⟨fd, F⟩ := c
 exact ⟨_, _, _, _, _, N24, [(Str.ofString "pen"), (Str.ofString "some")], fd, F, FunD.bindsN F (fun _ _ _ _ _ _ us hl => match us, hl with | [_, _], _ => rfl), C8.fnScope_by kR, rfl, rfl, fun cf mf X W cx fn tk po co => e24 G cf mf X W cx fn tk po co⟩
theorem f25 {S : Sit} (G : Glob gd S) {n : Nat} (c : ∃ fd, FunD S.K d25.name d25.qual d25.params d25.body d25.scope [] [] (S.fa 25) fd) : FnE S n 25 F25 := by
 obtain ⟨fd, F⟩ := c
 exact ⟨_, _, _, _, _, N25, [(Str.ofString "told"), (Str.ofString "due")], fd, F, FunD.bindsN F (fun _ _ _ _ _ _ us hl => match us, hl with | [_, _], _ => rfl), C8.fnScope_by kR, rfl, rfl, fun cf mf X W cx fn tk po co => e25 G cf mf X W cx fn tk po co⟩
theorem f26 {S : Sit} (G : Glob gd S) {n : Nat} (c : ∃ fd, FunD S.K d26.name d26.qual d26.params d26.body d26.scope [] [] (S.fa 26) fd) : FnE S n 26 F26 := by
 obtain ⟨fd, F⟩ := c
 exact ⟨_, _, _, _, _, N26, [(Str.ofString "pen")], fd, F, FunD.bindsN F (fun _ _ _ _ _ _ us hl => match us, hl with | [_], _ => rfl), C8.fnScope_by kR, rfl, rfl, fun cf mf X W cx fn tk po co => e26 G cf mf X W cx fn tk po co⟩
theorem f27 {S : Sit} (G : Glob gd S) {n : Nat} (c : ∃ fd, FunD S.K d27.name d27.qual d27.params d27.body d27.scope [] [] (S.fa 27) fd) : FnE S n 27 F27 := by
 obtain ⟨fd, F⟩ := c
 exact ⟨_, _, _, _, _, N27, [(Str.ofString "pen"), (Str.ofString "many")], fd, F, FunD.bindsN F (fun _ _ _ _ _ _ us hl => match us, hl with | [_, _], _ => rfl), C8.fnScope_by kR, rfl, rfl, fun cf mf X W cx fn tk po co => e27 G cf mf X W cx fn tk po co⟩
theorem f28 {S : Sit} (G : Glob gd S) {n : Nat} (c : ∃ fd, FunD S.K d28.name d28.qual d28.params d28.body d28.scope [] [] (S.fa 28) fd) : FnE S n 28 F28 := by
 obtain ⟨fd, F⟩ := c
 exact ⟨_, _, _, _, _, N28, [(Str.ofString "pen")], fd, F, FunD.bindsN F (fun _ _ _ _ _ _ us hl => match us, hl with | [_], _ => rfl), C8.fnScope_by kR, rfl, rfl, fun cf mf X W cx fn tk po co => e28 G cf mf X W cx fn tk po co⟩
theorem f29 {S : Sit} (G : Glob gd S) {n : Nat} (c : ∃ fd, FunD S.K d29.name d29.qual d29.params d29.body d29.scope [] [] (S.fa 29) fd) : FnE S n 29 F29 := by
 obtain ⟨fd, F⟩ := c
 exact ⟨_, _, _, _, _, N29, [(Str.ofString "rows")], fd, F, FunD.bindsN F (fun _ _ _ _ _ _ us hl => match us, hl with | [_], _ => rfl), C8.fnScope_by kR, rfl, rfl, fun cf mf X W cx fn tk po co => e29 G cf mf X W cx fn tk po co⟩
theorem f30 {S : Sit} (G : Glob gd S) {n : Nat} (c : ∃ fd, FunD S.K d30.name d30.qual d30.params d30.body d30.scope [] [] (S.fa 30) fd) : FnE S n 30 F30 := by
 obtain ⟨fd, F⟩ := c
 exact ⟨_, _, _, _, _, N30, [(Str.ofString "script")], fd, F, FunD.bindsN F (fun _ _ _ _ _ _ us hl => match us, hl with | [_], _ => rfl), C8.fnScope_by kR, rfl, rfl, fun cf mf X W cx fn tk po co => e30 G cf mf X W cx fn tk po co⟩
theorem fns {S : Sit} (G : Glob gd S) (D : ∀ (i : Nat) (d : He.DefD), dfs[i]? = some d → ∃ fd, FunD S.K d.name d.qual d.params d.body d.scope [] [] (S.fa i) fd) {n : Nat} : ∀ (f : Nat) (F : Fn), tab.fn f = some F → FnE S n f F
 | 0, _, h => by cases h; exact f0 G (D 0 d0 rfl)
 | 1, _, h => by cases h; exact f1 G (D 1 d1 rfl)
 | 2, _, h => by cases h; exact f2 G (D 2 d2 rfl)
 | 3, _, h => by cases h; exact f3 G (D 3 d3 rfl)
 | 4, _, h => by cases h; exact f4 G (D 4 d4 rfl)
 | 5, _, h => by cases h; exact f5 G (D 5 d5 rfl)
 | 6, _, h => by cases h; exact f6 G (D 6 d6 rfl)
 | 7, _, h => by cases h; exact f7 G (D 7 d7 rfl)
 | 8, _, h => by cases h; exact f8 G (D 8 d8 rfl)
 | 9, _, h => by cases h; exact f9 G (D 9 d9 rfl)
 | 10, _, h => by cases h; exact f10 G (D 10 d10 rfl)
 | 11, _, h => by cases h; exact f11 G (D 11 d11 rfl)
 | 12, _, h => by cases h; exact f12 G (D 12 d12 rfl)
 | 13, _, h => by cases h; exact f13 G (D 13 d13 rfl)
 | 14, _, h => by cases h; exact f14 G (D 14 d14 rfl)
 | 15, _, h => by cases h; exact f15 G (D 15 d15 rfl)
 | 16, _, h => by cases h; exact f16 G (D 16 d16 rfl)
 | 17, _, h => by cases h; exact f17 G (D 17 d17 rfl)
 | 18, _, h => by cases h; exact f18 G (D 18 d18 rfl)
 | 19, _, h => by cases h; exact f19 G (D 19 d19 rfl)
 | 20, _, h => by cases h; exact f20 G (D 20 d20 rfl)
 | 21, _, h => by cases h; exact f21 G (D 21 d21 rfl)
 | 22, _, h => by cases h; exact f22 G (D 22 d22 rfl)
 | 23, _, h => by cases h; exact f23 G (D 23 d23 rfl)
 | 24, _, h => by cases h; exact f24 G (D 24 d24 rfl)
 | 25, _, h => by cases h; exact f25 G (D 25 d25 rfl)
 | 26, _, h => by cases h; exact f26 G (D 26 d26 rfl)
 | 27, _, h => by cases h; exact f27 G (D 27 d27 rfl)
 | 28, _, h => by cases h; exact f28 G (D 28 d28 rfl)
 | 29, _, h => by cases h; exact f29 G (D 29 d29 rfl)
 | 30, _, h => by cases h; exact f30 G (D 30 d30 rfl)
 | k + 31, _, h => by
  exact absurd (show fnL[k + 31]? = some _ from h) (by rw [List.getElem?_eq_none (by simp [fnL])]; simp)
theorem cl_lt (c : Nat) (h : (tab.cl c).isSome = true) : c < 2 := by
 by_cases z : c < 2
 ·exact z
 ·exact absurd (show (clL[c]?).isSome = true from h) (by rw [List.getElem?_eq_none (by simp [clL]; omega)]; simp)
theorem fn_ge : ∀ f, f < 31 → ∃ F, tab.fn f = some F := fun f h => ⟨_, List.getElem?_eq_getElem (show f < fnL.length from h)⟩
theorem mth_lt (c : Nat) (k : Cl) (m f : Nat) (e : tab.cl c = some k) (e2 : k.mth m = some f) : m < 7 := by
 have hc := cl_lt c (by rw [e]; rfl)
 match c, hc with
 | 0, _ => cases e; exact Nat.lt_of_lt_of_le (mem_lt _ m f e2 7 (by decide)) (by decide)
 | 1, _ => cases e; exact Nat.lt_of_lt_of_le (mem_lt _ m f e2 7 (by decide)) (by decide)
theorem np_pos (c : Nat) (C : Cl) (F : Fn) (e : tab.cl c = some C) (e2 : tab.fn C.init = some F) : 0 < F.np := by
 have hc := cl_lt c (by rw [e]; rfl)
 match c, hc with
 | 0, _ => cases e; cases e2; decide
 | 1, _ => cases e; cases e2; decide
theorem dv0 : ∀ d ∈ dfs, d.dfl = [] ∧ d.kwd = [] := by
 intro d h
 simp only [dfs, List.mem_cons, List.not_mem_nil, or_false] at h
 rcases h with rfl | rfl | rfl | rfl | rfl | rfl | rfl | rfl | rfl | rfl | rfl | rfl | rfl | rfl | rfl | rfl | rfl | rfl | rfl | rfl | rfl | rfl | rfl | rfl | rfl | rfl | rfl | rfl | rfl | rfl | rfl <;> exact ⟨rfl, rfl⟩
section
variable {w : World} {K : PySem.W.Frag} {mg : Str → Option Value} {base h : Heap}
theorem defs (c : He.SaysD [] dfs K) (i : Nat) (d : He.DefD) (e : dfs[i]? = some d) : ∃ fd, FunD K d.name d.qual d.params d.body d.scope [] [] (He.fAd K (lw.at_ i)) fd := by
 obtain ⟨fd, F⟩ := c.def_ i e
 have z := dv0 d (List.mem_of_getElem? e)
 have e0 : d.dvs K = [] := by unfold He.DefD.dvs; rw [z.1]; rfl
 have e1 : d.kws K = [] := by unfold He.DefD.kws; rw [z.2]; rfl
 rw [e0, e1] at F
 have eat : lw.at_ i = d.at_ := by unfold Lw.at_; rw [show lw.dfs[i]? = some d from e]; rfl
 rw [eat]
 exact ⟨fd, F⟩
theorem glob (X : K.In h) (Gn : h.Ns mainGlobals mg) (c : He.SaysD [] dfs K) (ex : tellB lw 2 K = true) : Glob gd (sit lw R.prog w K mg base) :=
 glob_of st_ok cl_lt mth_lt fn_ge X Gn (fun i d e => by
  obtain ⟨fd, F⟩ := defs c i d e
  have eat : lw.at_ i = d.at_ := by unfold Lw.at_; rw [show lw.dfs[i]? = some d from e]; rfl
  rw [← eat]
  exact F.kp) rfl ex
theorem tabOk (X : K.In h) (Gn : h.Ns mainGlobals mg) (c : He.SaysD [] dfs K) (ex : tellB lw 2 K = true) (n : Nat) : TabOk (sit lw R.prog w K mg base) n :=
 ⟨fns (glob X Gn c ex) (defs c), clOk_of st_ok cl_lt fn_ge np_pos ex⟩
end
theorem all_holds (law : ∀ ns : List Int, ns.length ≤ 63 → ∃ n M, Mn.run tab n (60 + 1) false 30 [.scr ns] [] = .ok (.bl true) M) : PySem.Challenge.rw_dealsafe_k62_whole_wantings.Holds := by
 w_on; o_law
 refine HandSHeadRun.head_any (r := PySem.W.OpenLaw.row PySem.Challenge.rw_dealsafe_k62_whole_wantings) (q := PySem.W.view (PySem.W.OpenLaw.row PySem.Challenge.rw_dealsafe_k62_whole_wantings).prog [42]) (H := hk) (ob := ob) (M := 20000) (loose := loose) (d := HandSHeadRun.topDef (PySem.W.OpenLaw.row PySem.Challenge.rw_dealsafe_k62_whole_wantings).prog 42) (kwd := []) ob_eq
  (by kernel_rfl) (fun s => by kernel_rfl) Hd.run (by kernel_rfl) (by kernel_rfl) (by kernel_rfl) (by rfl) (by first | assumption | decide +kernel) kR ⟨rfl, rfl, rfl, rfl, rfl, by decide +kernel⟩ ?hw ?hc
 case hw => w_witness2
 case hc =>
  exact walk_w (hx := 0) (l := PySem.Challenge.rw_dealsafe_k62_whole_wantings) (L := lw) (m := 63) (k := 60) (f := 30) (F := F30) (x := (Str.ofString "script")) (dl := d30) (N := N30) rfl (by decide) (by kernel_rfl) ⟨rfl, by decide, by decide⟩ (by kernel_rfl)
   (fun w K mg base h X G c ex n => tabOk X G c ex n) rfl rfl rfl rfl (fun K ex => by
    unfold tellB at ex
    simp only [Bool.and_eq_true, List.all_eq_true] at ex
    exact ex.1.1.1.1.1.1 ((Str.ofString "law"), 30) (List.mem_of_getElem? (show gd.fns[26]? = some ((Str.ofString "law"), 30) from rfl))) ⟨rfl, rfl⟩ (C8.fnScope_by kR) rfl (fun _ _ _ _ _ _ us hl => match us, hl with | [_], _ => rfl)
   (fun w K mg base h X G c ex n cf mf Xc W cx fn tk po co => e30 (glob X G c ex) cf mf Xc W cx fn tk po co) law
end Mn.K62
end
section
namespace Mn.K62
open PySem Mn Mn.Sh
theorem holds : PySem.Challenge.rw_dealsafe_k62_whole_wantings.Holds := all_holds fun ns _ => by
 obtain ⟨M, h⟩ := law_ok (n := 100003) oM ns
 exact ⟨_, M, h⟩
end Mn.K62
end
theorem PySem.Challenge.cw_dealsafe_k62_whole_wantings_holds : PySem.Challenge.rw_dealsafe_k62_whole_wantings.Holds := by
 exact Mn.K62.holds
