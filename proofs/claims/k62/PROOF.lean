import PyProof.Rows.All
import HandS.Lambda
import Wide.All
import OpenK.AllK
import Wide.FinOn
import HandS.ForMost
import HandS.Star
import HandS.Wide
import HandS.IsInst
import HandS.TupAny
import HandS.Zip
import HandS.HeadHook1
import HandS.Style
import HandS.Deep
import KE.GoesEnum
import HandS.More
import HandS.Conv
import HandS.NoneIn
import HandS.TupMul
import KE.SortData
import KE.KRevSl
import KE.KIndexOf
import HandS.SetFor
import KE.DataMinMax
import KE.SortKeyHeap
import KE.KSortKey
import HandS.SortKw
import HandS.Head0
import HandS.Head1
import HandS.Head2
import HandS.HeadEnd
import HandS.HeadHook4
import HandS.HeadWalk
import KE.KStateDown
import HandS.SortInts
import KE.KTupSum
import HandS.DictComp
import PyProof.Claim2Refuses
import PySem.Challenge.RW_foldedandsewn_k62_whole_titles_wider_and
/-! L3, by the law: the tables of code objects that its lambdas are made at. -/
namespace L3
def tabs0 : List (PySem.Addr × PySem.Str) := []
end L3

set_option Elab.async false
set_option linter.all false
set_option maxRecDepth 100000
/-! L3, the pure part: data without a heap, readings as plain predicate transformers. -/
namespace L3
open PySem PySem.Spec PyProof.Rows L2

/-- what stands beside the data: the pot, code objects that are known -/
structure Pn where
  pot : Option Addr
  cod : List (Addr × Str) := []
  flo : Hp := fun _ => none
/-- data: what a value is worth, without the heap (lam: a lambda made at a frozen part of the heap) -/
inductive D where
  | non | bl (b : Bool) | int (i : Int) | str (x : Str) | ty (n : String) | rf (a : Addr) | pot | scr (ns : List Int) | lam (a : Addr) (F0 : Hp) (p : Pn)
  | exc (n : Str) (d : D) | clo (a : Addr) (o : Obj) | dic (kvs : List (Str × Int))
  | tup (l : List D) | lst (l : List D) | dct (ks : List Key) (l : List D)

/-- a slot of a body: nothing, a value, a list of its own -/
inductive SV where
  | no | val (d : D) | own (l : List D) | dic (ks : List Key) (l : List D)
@[simp ↓] def vA : SV → Option D
  | .val d => some d
  | _ => none
@[simp ↓] def vB : SV → Option D
  | .val d => some d
  | .own l => some (.lst l)
  | .dic ks l => some (.dct ks l)
  | .no => none
abbrev Rho := List (Option D)
abbrev Env3 := List SV
abbrev KD := D → Nat → Prop
/-- readings: an expression, a list of arguments, a test -/
abbrev FE := Rho → Nat → KD → Prop
abbrev FA := Rho → Nat → (List D → Nat → Prop) → Prop
abbrev FT := Rho → Nat → (Bool → Nat → Prop) → Prop
structure End3 where
  nx : Env3 → Nat → Prop
  rt : KD
  bk : Env3 → Nat → Prop := fun _ _ => False
  ct : Env3 → Nat → Prop := fun _ _ => False
  xx : Str → D → Nat → Prop := fun _ _ _ => False
abbrev FS := End3 → Env3 → Nat → Prop
abbrev FG := D → Env3 → (Env3 → Prop) → Prop
abbrev FGs := List D → Env3 → (Env3 → Prop) → Prop
/-- what a def is worth -/
abbrev FM := List D → Nat → KD → Prop

@[simp ↓] def get3 : Rho → Nat → Option D
  | [], _ => none
  | x :: _, 0 => x
  | _ :: r, n + 1 => get3 r n
@[simp ↓] def eVar (i : Nat) : FE := fun ρ c Q => match get3 ρ i with | some d => Q d c | none => False
@[simp ↓] def eC (d : D) : FE := fun _ c Q => Q d c
@[simp ↓] def eOp (g : D → D → Nat → KD → Prop) (fa fb : FE) : FE := fun ρ c Q => fa ρ c fun x c => fb ρ c fun y c => g x y c Q
@[simp ↓] def eUn (g : D → Nat → KD → Prop) (fa : FE) : FE := fun ρ c Q => fa ρ c fun x c => g x c Q
@[simp ↓] def aNil : FA := fun _ c Q => Q [] c
@[simp ↓] def aCons (fa : FE) (fr : FA) : FA := fun ρ c Q => fa ρ c fun x c => fr ρ c fun xs c => Q (x :: xs) c
@[simp ↓] def aStar (fa : FE) (fr : FA) : FA := fun ρ c Q => fa ρ c fun x c => match x with
  | .tup l => fr ρ c fun xs c => Q (l ++ xs) c
  | .lst l => fr ρ c fun xs c => Q (l ++ xs) c
  | _ => False
@[simp ↓] def eTup (fa : FA) : FE := fun ρ c Q => fa ρ c fun l c => l.length ≤ 16777216 ∧ Q (.tup l) c
@[simp ↓] def eLst (fa : FA) : FE := fun ρ c Q => fa ρ c fun l c => l.length ≤ 16777216 ∧ Q (.lst l) c
@[simp ↓] def eCall (m : FM) (fa : FA) : FE := fun ρ c Q => fa ρ c fun l c => m l c Q
/-- a built-in: the same form -/
abbrev eB := eCall
/-- tests -/
@[simp ↓] def tV (fe : FE) : FT := fun ρ c Q => fe ρ c fun x c => match x with | .bl b => Q b c | _ => False
@[simp ↓] def tA3 (t u : FT) : FT := fun ρ c Q => t ρ c fun b c => if b = true then u ρ c Q else Q false c
@[simp ↓] def tO3 (t u : FT) : FT := fun ρ c Q => t ρ c fun b c => if b = true then Q true c else u ρ c Q
@[simp ↓] def tN3 (t : FT) : FT := fun ρ c Q => t ρ c fun b c => Q (!b) c
/-- and, or, not as values of bools -/
@[simp ↓] def eAnd (fa fb : FE) : FE := fun ρ c Q => fa ρ c fun x c => match x with | .bl b => (if b = true then fb ρ c Q else Q (.bl false) c) | _ => False
@[simp ↓] def eOr (fa fb : FE) : FE := fun ρ c Q => fa ρ c fun x c => match x with | .bl b => (if b = true then Q (.bl true) c else fb ρ c Q) | _ => False
@[simp ↓] def eNot (fa : FE) : FE := fun ρ c Q => fa ρ c fun x c => match x with | .bl b => Q (.bl (!b)) c | _ => False
@[simp ↓] def eIf3 (t : FT) (fa fb : FE) : FE := fun ρ c Q => t ρ c fun b c => if b = true then fa ρ c Q else fb ρ c Q
/-- a chain a op b op' d -/
@[simp ↓] def eCh (g g' : D → D → Nat → KD → Prop) (fa fb fd : FE) : FE := fun ρ c Q => fa ρ c fun x c => fb ρ c fun y c => g x y c fun z c => match z with
  | .bl k => (if k = true then fd ρ c fun w c => g' y w c Q else Q (.bl false) c)
  | _ => False

/-! ### operators -/
@[simp ↓] def addD : D → D → Nat → KD → Prop
  | .int i, .int j, c, Q => Q (.int (i + j)) c
  | .str x, .str y, c, Q => x.length + y.length ≤ 16777216 ∧ Q (.str (x ++ y)) c
  | .tup l, .tup m, c, Q => l.length + m.length ≤ 16777216 ∧ Q (.tup (l ++ m)) c
  | .lst l, .lst m, c, Q => l.length + m.length ≤ 16777216 ∧ Q (.lst (l ++ m)) c
  | _, _, _, _ => False
@[simp ↓] def subD : D → D → Nat → KD → Prop
  | .int i, .int j, c, Q => Q (.int (i - j)) c
  | _, _, _, _ => False
def MulOk (i j : Int) : Prop := (-(2 ^ 64) < i ∧ i < 2 ^ 64) ∨ (-(2 ^ 64) < j ∧ j < 2 ^ 64)
@[simp ↓] def mulD : D → D → Nat → KD → Prop
  | .int i, .int j, c, Q => MulOk i j ∧ Q (.int (i * j)) c
  | .lst l, .int k, c, Q => (0 ≤ k ∧ k < 1000000 ∧ l.length * k.toNat ≤ 16777216) ∧ Q (.lst (List.replicate k.toNat l).flatten) c
  | _, _, _, _ => False
/-- by a positive divisor below 2 ^ 30 -/
@[simp ↓] def fdivD : D → D → Nat → KD → Prop
  | .int i, .int j, c, Q => (0 < j ∧ j < 1073741824) ∧ Q (.int (i / j)) c
  | _, _, _, _ => False
@[simp ↓] def modD : D → D → Nat → KD → Prop
  | .int i, .int j, c, Q => 0 < j ∧ Q (.int (i % j)) c
  | _, _, _, _ => False
@[simp ↓] def powD : D → D → Nat → KD → Prop
  | .int i, .int j, c, Q => (0 ≤ j ∧ ((j ≤ 1000000 ∧ i.natAbs < 2 ^ 64) ∨ (j ≤ 1000 ∧ i.natAbs < 2 ^ 256))) ∧ Q (.int (i ^ j.toNat)) c
  | _, _, _, _ => False
@[simp ↓] def negD : D → Nat → KD → Prop
  | .int i, c, Q => Q (.int (-i)) c
  | _, _, _ => False
@[simp ↓] def ltD : D → D → Nat → KD → Prop
  | .int i, .int j, c, Q => Q (.bl (decide (i < j))) c
  | _, _, _, _ => False
@[simp ↓] def leD : D → D → Nat → KD → Prop
  | .int i, .int j, c, Q => Q (.bl (decide (i ≤ j))) c
  | _, _, _, _ => False
@[simp ↓] def gtD : D → D → Nat → KD → Prop
  | .int i, .int j, c, Q => Q (.bl (decide (j < i))) c
  | _, _, _, _ => False
@[simp ↓] def geD : D → D → Nat → KD → Prop
  | .int i, .int j, c, Q => Q (.bl (decide (j ≤ i))) c
  | _, _, _, _ => False
@[simp ↓] def isNone : D → Bool
  | .non => true
  | _ => false
@[simp ↓] def isD : D → D → Nat → KD → Prop
  | x, .non, c, Q => Q (.bl (isNone x)) c
  | _, _, _, _ => False
@[simp ↓] def isNotD : D → D → Nat → KD → Prop
  | x, .non, c, Q => Q (.bl (!isNone x)) c
  | _, _, _, _ => False
/-! data as Python's data, where it has no references -/
mutual
def toPy : D → Option PyData
  | .non => some .none
  | .bl b => some (.bool b)
  | .int i => some (.int i)
  | .str x => some (.str x)
  | .tup l => (toPyL l).map .tuple
  | .lst l => (toPyL l).map .list
  | _ => none
def toPyL : List D → Option (List PyData)
  | [] => some []
  | d :: l => match toPy d, toPyL l with
    | some x, some r => some (x :: r)
    | _, _ => none
end
mutual
/-- data of a depth that == may ask -/
def pyD : Nat → D → Bool
  | _, .non => true
  | _, .int _ => true
  | _, .bl _ => true
  | _, .str x => PyData.strOk x
  | n + 1, .tup l => pyDL n l
  | n + 1, .lst l => pyDL n l
  | _, _ => false
def pyDL : Nat → List D → Bool
  | _, [] => true
  | n, d :: l => pyD n d && pyDL n l
end
mutual
/-- == of data -/
def eqvD : D → D → Bool
  | .non, .non => true
  | .bl a, .bl b => a == b
  | .bl a, .int j => (if a then 1 else 0) == j
  | .int i, .bl b => i == (if b then 1 else 0)
  | .int i, .int j => i == j
  | .str x, .str y => x == y
  | .tup l, .tup m => eqvDL l m
  | .lst l, .lst m => eqvDL l m
  | _, _ => false
def eqvDL : List D → List D → Bool
  | [], [] => true
  | x :: l, y :: m => eqvD x y && eqvDL l m
  | _, _ => false
end
/-- == of data: by its own equality on what it is asked (ints, bools, texts, None, tuples and lists of such) -/
@[simp ↓] def eqD : D → D → Nat → KD → Prop
  | .int i, .int j, c, Q => Q (.bl (decide (i = j))) c
  | .bl i, .bl j, c, Q => Q (.bl (decide (i = j))) c
  | .str i, .str j, c, Q => Q (.bl (decide (i = j))) c
  | x, y, c, Q => (pyD 64 x = true ∧ pyD 64 y = true) ∧ Q (.bl (eqvD x y)) c
@[simp ↓] def neD : D → D → Nat → KD → Prop
  | .int i, .int j, c, Q => Q (.bl (!decide (i = j))) c
  | .bl i, .bl j, c, Q => Q (.bl (!decide (i = j))) c
  | .str i, .str j, c, Q => Q (.bl (!decide (i = j))) c
  | x, y, c, Q => (pyD 64 x = true ∧ pyD 64 y = true) ∧ Q (.bl (!eqvD x y)) c
/-- items -/
@[simp ↓] def ixD : D → D → Nat → KD → Prop
  | .tup l, .int i, c, Q => match atI l i with | some d => Q d c | none => False
  | .lst l, .int i, c, Q => match atI l i with | some d => Q d c | none => False
  | .scr l, .int i, c, Q => match atI l i with | some d => Q (.int d) c | none => False
  | _, _, _, _ => False
/-- slices -/
def optI : Option D → Option (Option Int)
  | none => some none
  | some (.int i) => some (some i)
  | _ => none
def cutD (l : List D) (lo hi : Option Int) : List D := (l.drop (HT.sIx l.length 0 lo)).take (HT.sIx l.length l.length hi - HT.sIx l.length 0 lo)
@[simp ↓] def slD (x : D) (lo hi : Option Int) : Option D := match x with
  | .tup l => some (.tup (cutD l lo hi))
  | .lst l => some (.lst (cutD l lo hi))
  | .scr l => some (.lst (cutD (l.map .int) lo hi))
  | _ => none
abbrev FO := Rho → Nat → (Option Int → Nat → Prop) → Prop
@[simp ↓] def oNone : FO := fun _ c Q => Q none c
@[simp ↓] def oSome (fe : FE) : FO := fun ρ c Q => fe ρ c fun x c => match x with | .int i => Q (some i) c | _ => False
@[simp ↓] def eSl (fe : FE) (lo hi : FO) : FE := fun ρ c Q => fe ρ c fun x c => lo ρ c fun a c => hi ρ c fun b c => match slD x a b with | some d => Q d c | none => False

/-! ### built-ins -/
@[simp ↓] def lenM : FM := fun l c Q => match l with
  | [.tup m] => Q (.int m.length) c
  | [.lst m] => Q (.int m.length) c
  | [.scr m] => Q (.int m.length) c
  | _ => False
@[simp ↓] def absM : FM := fun l c Q => match l with
  | [.int i] => Q (.int (if i < 0 then -i else i)) c
  | _ => False
@[simp ↓] def intM : FM := fun l c Q => match l with
  | [.int i] => Q (.int i) c
  | [.bl b] => Q (.int (if b then 1 else 0)) c
  | _ => False
@[simp ↓] def max2M : FM := fun l c Q => match l with
  | [.int i, .int j] => Q (.int (if j > i then j else i)) c
  | _ => False
@[simp ↓] def min2M : FM := fun l c Q => match l with
  | [.int i, .int j] => Q (.int (if j < i then j else i)) c
  | _ => False
@[simp ↓] def tupleM : FM := fun l c Q => match l with
  | [.lst m] => Q (.tup m) c
  | [.tup m] => Q (.tup m) c
  | _ => False
@[simp ↓] def listM : FM := fun l c Q => match l with
  | [.lst m] => Q (.lst m) c
  | [.tup m] => Q (.lst m) c
  | _ => False
def blsOf : List D → Option (List Bool)
  | [] => some []
  | .bl b :: l => (blsOf l).map (b :: ·)
  | _ => none
def intsOf : List D → Option (List Int)
  | [] => some []
  | .int b :: l => (intsOf l).map (b :: ·)
  | _ => none
@[simp ↓] def allM : FM := fun l c Q => match l with
  | [.lst m] => (match blsOf m with | some bs => Q (.bl (bs.all id)) c | none => False)
  | _ => False
@[simp ↓] def anyM : FM := fun l c Q => match l with
  | [.lst m] => (match blsOf m with | some bs => Q (.bl (bs.any id)) c | none => False)
  | _ => False
@[simp ↓] def sumM : FM := fun l c Q => match l with
  | [.lst m] => (match intsOf m with | some ns => Q (.int ns.sum) c | none => False)
  | _ => False
/-- isinstance(x, T) -/
def tyName : D → Option String
  | .non => some "NoneType" | .bl _ => some "bool" | .int _ => some "int" | .str _ => some "str" | .tup _ => some "tuple" | .lst _ => some "list" | .dic _ => some "dict" | _ => none
@[simp ↓] def isiD (x : D) (t : String) : Bool := match x, t with
  | .bl _, "bool" => true | .bl _, "int" => true | .int _, "int" => true | .str _, "str" => true | .tup _, "tuple" => true | .lst _, "list" => true
  | _, _ => false
@[simp ↓] def isiM : FM := fun l c Q => match l with
  | [x, .ty t] => (tyName x).isSome = true ∧ (t = "int" ∨ t = "bool" ∨ t = "str" ∨ t = "tuple" ∨ t = "list") ∧ Q (.bl (isiD x t)) c
  | _ => False

/-! ### targets -/
@[simp ↓] def gN (i : Nat) : FG := fun d ρ k => k (ρ.set i (.val d))
@[simp ↓] def gsNil : FGs := fun l ρ k => match l with | [] => k ρ | _ => False
@[simp ↓] def gsCons (g : FG) (gs : FGs) : FGs := fun l ρ k => match l with | d :: r => g d ρ fun ρ => gs r ρ k | [] => False
@[simp ↓] def gT (n : Nat) (gs : FGs) : FG := fun d ρ k => match d with | .tup l => l.length = n ∧ gs l ρ k | _ => False
/-- a list taken apart -/
@[simp ↓] def gLs (n : Nat) (gs : FGs) : FG := fun d ρ k => match d with | .lst l => l.length = n ∧ gs l ρ k | _ => False

/-! ### what is walked -/
abbrev FI := Rho → Nat → (List D → Nat → Prop) → Prop
@[simp ↓] def iSeq (fe : FE) : FI := fun ρ c Q => fe ρ c fun x c => match x with
  | .lst l => Q l c
  | .tup l => Q l c
  | _ => False
def rangeL (lo : Int) (n : Nat) : List D := (List.range n).map fun k => .int (lo + (k : Nat))
@[simp ↓] def iR1 (fa : FA) : FI := fun ρ c Q => fa ρ c fun l c => match l with
  | [.int j] => (-(2 ^ 62) ≤ j ∧ j ≤ 16777216) ∧ Q (rangeL 0 j.toNat) c
  | _ => False
@[simp ↓] def iR2 (fa : FA) : FI := fun ρ c Q => fa ρ c fun l c => match l with
  | [.int i, .int j] => (-(2 ^ 61) ≤ i ∧ i < 2 ^ 61 ∧ -(2 ^ 61) ≤ j ∧ j < 2 ^ 61 ∧ j - i ≤ 16777216) ∧ Q (rangeL i (j - i).toNat) c
  | _ => False

/-! ### comprehensions -/
@[simp ↓] def wipeD (ρ : Rho) : List Nat → Rho
  | [] => ρ
  | v :: vs => (wipeD ρ vs).set v none
@[simp ↓] def upS : Option D → SV
  | some d => .val d
  | none => .no
@[simp ↓] def compL (g : FG) (t : FT) (fe : FE) (ρ : Rho) : List D → Nat → (List D → Nat → Prop) → Prop
  | [], c, Q => Q [] c
  | d :: l, c, Q => g d (ρ.map upS) fun ρ' => t (ρ'.map vA) c fun b c =>
      if b = true then fe (ρ'.map vA) c fun y c => compL g t fe ρ l c fun ys c => Q (y :: ys) c
      else compL g t fe ρ l c Q
@[simp ↓] def tYes3 : FT := fun _ c Q => Q true c
@[simp ↓] def eComp (fi : FI) (g : FG) (t : FT) (fe : FE) (vs : List Nat) : FE := fun ρ c Q => fi ρ c fun l c => compL g t fe (wipeD ρ vs) l c fun ys c => Q (.lst ys) c

/-! ### statements -/
@[simp ↓] def sNil : FS := fun E ρ c => E.nx ρ c
@[simp ↓] def sSeq (a b : FS) : FS := fun E ρ c => a { E with nx := fun ρ c => b E ρ c } ρ c
@[simp ↓] def sBreak : FS := fun E ρ c => E.bk ρ c
@[simp ↓] def sCont : FS := fun E ρ c => E.ct ρ c
@[simp ↓] def sNever : FS := fun _ _ _ => False
/-- target = e; e reads values alone -/
@[simp ↓] def sAsg (g : FG) (fe : FE) : FS := fun E ρ c => fe (ρ.map vA) c fun d c => g d ρ fun ρ => E.nx ρ c
/-! data with no list in it -/
mutual
def noLst : D → Bool
  | .lst _ => false
  | .tup l => noLstL l
  | .pot => false
  | .scr _ => false
  | .lam .. => false
  | .exc _ d => noLst d
  | .dic _ => false
  | .dct _ _ => false
  | _ => true
def noLstL : List D → Bool
  | [] => true
  | d :: l => noLst d && noLstL l
end
/-- .. e reads own lists too, its value has no list -/
@[simp ↓] def sAsgB (g : FG) (fe : FE) : FS := fun E ρ c => fe (ρ.map vB) c fun d c => noLst d = true ∧ g d ρ fun ρ => E.nx ρ c
/-- x = a new list -/
@[simp ↓] def sOwn (i : Nat) (fe : FE) : FS := fun E ρ c => fe (ρ.map vA) c fun d c => match d with | .lst l => E.nx (ρ.set i (.own l)) c | _ => False
@[simp ↓] def sOwnB (i : Nat) (fe : FE) : FS := fun E ρ c => fe (ρ.map vB) c fun d c => match d with | .lst l => noLstL l = true ∧ E.nx (ρ.set i (.own l)) c | _ => False
/-- a list of its own is given away -/
@[simp ↓] def frz3 (i : Nat) (ρ : Env3) : Env3 := match ρ[i]? with | some (.own l) => ρ.set i (.val (.lst l)) | _ => ρ
@[simp ↓] def sFrz (i : Nat) (s : FS) : FS := fun E ρ c => s E (frz3 i ρ) c
@[simp ↓] def sAug (i : Nat) (g : D → D → Nat → KD → Prop) (fe : FE) : FS := fun E ρ c => match ρ[i]? with
  | some (.val x) => fe (ρ.map vB) c fun y c => noLst y = true ∧ g x y c fun z c => True ∧ E.nx (ρ.set i (.val z)) c
  | _ => False
@[simp ↓] def sExpr (fe : FE) : FS := fun E ρ c => fe (ρ.map vB) c fun _ c => E.nx ρ c
@[simp ↓] def sRet (fe : FE) : FS := fun E ρ c => fe (ρ.map vB) c E.rt
@[simp ↓] def sRetN : FS := fun E _ c => E.rt .non c
@[simp ↓] def sIf (t : FT) (a b : FS) : FS := fun E ρ c => t (ρ.map vB) c fun k c => if k = true then a E ρ c else b E ρ c
/-- x.append(e) -/
@[simp ↓] def sApp (i : Nat) (fe : FE) : FS := fun E ρ c => match ρ[i]? with
  | some (.own l) => fe (ρ.map vA) c fun d c => l.length < 16777216 ∧ E.nx (ρ.set i (.own (l ++ [d]))) c
  | _ => False
@[simp ↓] def sAppB (i : Nat) (fe : FE) : FS := fun E ρ c => match ρ[i]? with
  | some (.own l) => fe (ρ.map vB) c fun d c => noLst d = true ∧ l.length < 16777216 ∧ E.nx (ρ.set i (.own (l ++ [d]))) c
  | _ => False
@[simp ↓] def forL (g : FG) (b : FS) (E : End3) : List D → Env3 → Nat → Prop
  | [], ρ, c => E.nx ρ c
  | d :: l, ρ, c => g d ρ fun ρ => b { E with nx := fun ρ c => forL g b E l ρ c, ct := fun ρ c => forL g b E l ρ c, bk := E.nx } ρ c
@[simp ↓] def sFor (fi : FI) (g : FG) (b : FS) : FS := fun E ρ c => fi (ρ.map vA) c fun l c => forL g b E l ρ c
def whileN (t : FT) (b : FS) (E : End3) : Nat → Env3 → Nat → Prop
  | 0, _, _ => False
  | n + 1, ρ, c => t (ρ.map vB) c fun k c => if k = true then b { E with nx := whileN t b E n, ct := whileN t b E n, bk := E.nx } ρ c else E.nx ρ c
def sWhile (t : FT) (b : FS) : FS := fun E ρ c => ∃ n, whileN t b E n ρ c
/-- a body's start -/
@[simp ↓] def start3 (n : Nat) (ds : List D) : Env3 := ds.map .val ++ List.replicate (n - ds.length) .no
/-- the whole of a def -/
@[simp ↓] def runM (n : Nat) (g : FS) (ds : List D) (c : Nat) (Q : KD) : Prop := g { nx := fun _ c => Q .non c, rt := Q } (start3 n ds) c
end L3

/-! L3, the rules: what the pure readings say of the machine. -/
namespace L3
open PySem PySem.Spec PyProof.Rows L2

/-- ** of greater bases, too -/
def CPow3 (i j : Int) : Prop := 0 ≤ j ∧ ((j ≤ 1000000 ∧ i.natAbs < 2 ^ 64) ∨ (j ≤ 1000 ∧ i.natAbs < 2 ^ 256))
theorem op_pow3 {X : Cx} : OpR X (binaryOp .Pow) (rI CPow3 fun i j => .int (i ^ j.toNat)) := opI fun i j _ _ _ _ _ hc q => by
  obtain ⟨h0, ⟨h1, h2⟩ | ⟨h1, h2⟩⟩ := hc
  · exact pow_int_small h0 h1 h2 q
  · refine PyProof.Rows.pow_int h0 ?_ q
    have hl := PySem.Flt.log2_lt_of (by decide : 0 < 256) h2
    clear h2
    have hb : Builtin.Int.intBits i ≤ 256 := by
      unfold Builtin.Int.intBits
      split
      · exact Nat.zero_le _
      · exact hl
    obtain ⟨n, rfl⟩ := Int.eq_ofNat_of_zero_le h0
    have h1 : n ≤ 1000 := by exact Int.ofNat_le.mp h1
    have h3 : Builtin.Int.intBits i * n ≤ 256000 := Nat.mul_le_mul hb h1
    have h4 : ((Builtin.Int.intBits i * n : Nat) : Int) ≤ ((256000 : Nat) : Int) := Int.ofNat_le.mpr h3
    rw [Int.natCast_mul] at h4
    exact Int.le_trans h4 (by decide)
/-- at a: an error of the class at C, its dict at dd -/
def ExcO (a C dd : Addr) : HO := .ext fun h => ∃ (oe : Obj) (vs : Array Value), h.get? a = some oe ∧ oe.cls = .ref C ∧ oe.dict = some dd ∧ oe.data = .fields vs
/-- at a: the function object o -/
def FunO (a : Addr) (o : Obj) : HO := .ext fun h => h.get? a = some o
theorem excO_lst {a C dd : Addr} {ys : List V} : ExcO a C dd ≠ .lst ys := fun z => by unfold ExcO at z; cases z
theorem excO_dK {a C dd : Addr} {ys : List (Key × V)} : ExcO a C dd ≠ .dK ys := fun z => by unfold ExcO at z; cases z
theorem funO_dK {a : Addr} {o : Obj} {ys : List (Key × V)} : FunO a o ≠ .dK ys := fun z => by unfold FunO at z; cases z
theorem funO_lst {a : Addr} {o : Obj} {ys : List V} : FunO a o ≠ .lst ys := fun z => by unfold FunO at z; cases z
def dicK (kvs : List (Str × Int)) : List (Key × V) := kvs.map fun q => (Sum.inr q.1, V.int q.2)
mutual
def Rep (K : PySem.W.Frag) (p : Pn) (F : Hp) : D → V → Prop
  | .non, v => v = .non
  | .bl b, v => v = .bl b
  | .int i, v => v = .int i
  | .str x, v => v = .str x
  | .ty n, v => v = .ty n
  | .rf a, v => v = .ref a
  | .lam a F0 p0, v => v = .ref a ∧ (∀ b o, F0 b = some o → F b = some o) ∧ p.pot = p0.pot ∧ ∀ x ∈ p0.cod, x ∈ p.cod
  | .exc n d, v => ∃ a dd w, v = .ref a ∧ F a = some (ExcO a (He.ga K n) dd) ∧ F dd = some (.xd [("value", w)]) ∧ Rep K p F d w
  | .clo a o, v => v = .ref a ∧ F a = some (FunO a o)
  | .dic kvs, v => ∃ a, v = .ref a ∧ F a = some (.dK (dicK kvs))
  | .pot, v => ∃ a, p.pot = some a ∧ v = .ref a
  | .scr ns, v => ∃ a, v = .ref a ∧ SqL K F a (ns.map V.int)
  | .tup l, v => ∃ a xs, v = .ref a ∧ SqT K F a xs ∧ RepL K p F l xs
  | .lst l, v => ∃ a xs, v = .ref a ∧ F a = some (.lst xs) ∧ RepL K p F l xs
  | .dct ks l, v => ∃ (a : Addr) (kvs : List (Key × V)), v = .ref a ∧ F a = some (.dK kvs) ∧ kvs.map (·.1) = ks ∧ RepL K p F l (kvs.map (·.2))
def RepL (K : PySem.W.Frag) (p : Pn) (F : Hp) : List D → List V → Prop
  | [], xs => xs = []
  | d :: l, xs => ∃ x r, xs = x :: r ∧ Rep K p F d x ∧ RepL K p F l r
end
theorem RepL.len {K : PySem.W.Frag} {p : Pn} {F : Hp} : ∀ {l : List D} {xs : List V}, RepL K p F l xs → xs.length = l.length
  | [], _, h => by cases h; rfl
  | d :: l, _, h => by
    obtain ⟨x, r, rfl, _, h⟩ := h
    rw [List.length_cons, List.length_cons, RepL.len h]
theorem Sub.sqL {K : PySem.W.Frag} {F F' : Hp} {a : Addr} {xs : List V} (e : ∀ b o, F b = some o → F' b = some o) (h : SqL K F a xs) : SqL K F' a xs := by
  rcases h with (h | ⟨o, h⟩) | h
  · exact .inl (.inl (e _ _ h))
  · exact .inl (.inr ⟨o, e _ _ h⟩)
  · exact .inr h
theorem Sub.sqT {K : PySem.W.Frag} {F F' : Hp} {a : Addr} {xs : List V} (e : ∀ b o, F b = some o → F' b = some o) (h : SqT K F a xs) : SqT K F' a xs := by
  rcases h with (h | ⟨o, h⟩) | h
  · exact .inl (.inl (e _ _ h))
  · exact .inl (.inr ⟨o, e _ _ h⟩)
  · exact .inr h
mutual
theorem Rep.mono {K : PySem.W.Frag} {p : Pn} {F F' : Hp} (e : ∀ b o, F b = some o → F' b = some o) : ∀ {d : D} {v : V}, Rep K p F d v → Rep K p F' d v
  | .non, _, h => h
  | .bl _, _, h => h
  | .int _, _, h => h
  | .str _, _, h => h
  | .ty _, _, h => h
  | .rf _, _, h => h
  | .lam .., _, h => ⟨h.1, fun b o q => e b o (h.2.1 b o q), h.2.2⟩
  | .exc n d, _, h => by
    obtain ⟨a, dd, w, rfl, h1, h2, h3⟩ := h
    exact ⟨a, dd, w, rfl, e _ _ h1, e _ _ h2, Rep.mono e h3⟩
  | .clo a o, _, h => ⟨h.1, e _ _ h.2⟩
  | .dic kvs, _, h => by
    obtain ⟨a, rfl, h1⟩ := h
    exact ⟨a, rfl, e _ _ h1⟩
  | .pot, _, h => h
  | .scr _, _, h => by
    obtain ⟨a, rfl, h1⟩ := h
    exact ⟨a, rfl, Sub.sqL e h1⟩
  | .tup l, _, h => by
    obtain ⟨a, xs, rfl, h1, h2⟩ := h
    exact ⟨a, xs, rfl, Sub.sqT e h1, RepL.mono e h2⟩
  | .lst l, _, h => by
    obtain ⟨a, xs, rfl, h1, h2⟩ := h
    exact ⟨a, xs, rfl, e _ _ h1, RepL.mono e h2⟩
  | .dct ks l, _, h => by
    obtain ⟨a, kvs, rfl, h1, h2, h3⟩ := h
    exact ⟨a, kvs, rfl, e _ _ h1, h2, RepL.mono e h3⟩
theorem RepL.mono {K : PySem.W.Frag} {p : Pn} {F F' : Hp} (e : ∀ b o, F b = some o → F' b = some o) : ∀ {l : List D} {xs : List V}, RepL K p F l xs → RepL K p F' l xs
  | [], _, h => h
  | d :: l, _, h => by
    obtain ⟨x, r, rfl, h1, h2⟩ := h
    exact ⟨x, r, rfl, Rep.mono e h1, RepL.mono e h2⟩
end
mutual
/-- data without lists leans on tuples alone -/
theorem Rep.tups {K : PySem.W.Frag} {p : Pn} {F F' : Hp} (e : ∀ a xs, SqT K F a xs → SqT K F' a xs) (en : ∀ a o, (∀ ys, o ≠ HO.lst ys) → (∀ ys, o ≠ HO.dK ys) → F a = some o → F' a = some o) : ∀ {d : D} {v : V}, noLst d = true → Rep K p F d v → Rep K p F' d v
  | .non, _, _, h => h
  | .bl _, _, _, h => h
  | .int _, _, _, h => h
  | .str _, _, _, h => h
  | .ty _, _, _, h => h
  | .rf _, _, _, h => h
  | .lam .., _, n, h => by simp [noLst] at n
  | .exc n d, _, nl, h => by
    obtain ⟨a, dd, w, rfl, h1, h2, h3⟩ := h
    exact ⟨a, dd, w, rfl, en _ _ (fun _ => excO_lst) (fun _ => excO_dK) h1, en _ _ (fun _ z => nomatch z) (fun _ z => nomatch z) h2, Rep.tups e en (by simpa [noLst] using nl) h3⟩
  | .clo a o, _, n, h => ⟨h.1, en _ _ (fun _ => funO_lst) (fun _ => funO_dK) h.2⟩
  | .dic kvs, _, n, h => by simp [noLst] at n
  | .pot, _, n, h => by simp [noLst] at n
  | .scr _, _, n, h => by simp [noLst] at n
  | .tup l, _, n, h => by
    obtain ⟨a, xs, rfl, h1, h2⟩ := h
    exact ⟨a, xs, rfl, e _ _ h1, RepL.tups e en (by simpa [noLst] using n) h2⟩
  | .lst l, _, n, h => by simp [noLst] at n
  | .dct _ _, _, n, h => by simp [noLst] at n
theorem RepL.tups {K : PySem.W.Frag} {p : Pn} {F F' : Hp} (e : ∀ a xs, SqT K F a xs → SqT K F' a xs) (en : ∀ a o, (∀ ys, o ≠ HO.lst ys) → (∀ ys, o ≠ HO.dK ys) → F a = some o → F' a = some o) : ∀ {l : List D} {xs : List V}, noLstL l = true → RepL K p F l xs → RepL K p F' l xs
  | [], _, _, h => h
  | d :: l, _, n, h => by
    obtain ⟨x, r, rfl, h1, h2⟩ := h
    have n' : noLst d = true ∧ noLstL l = true := by simpa [noLstL] using n
    exact ⟨x, r, rfl, Rep.tups e en n'.1 h1, RepL.tups e en n'.2 h2⟩
end
theorem RepL.app {K : PySem.W.Frag} {p : Pn} {F : Hp} : ∀ {l m : List D} {xs ys : List V}, RepL K p F l xs → RepL K p F m ys → RepL K p F (l ++ m) (xs ++ ys)
  | [], _, _, _, h, h2 => by cases h; exact h2
  | d :: l, _, _, _, h, h2 => by
    obtain ⟨x, r, rfl, h1, h⟩ := h
    exact ⟨x, _, rfl, h1, RepL.app h h2⟩
theorem RepL.get {K : PySem.W.Frag} {p : Pn} {F : Hp} : ∀ {l : List D} {xs : List V} {i : Nat} {d : D}, RepL K p F l xs → l[i]? = some d → ∃ v, xs[i]? = some v ∧ Rep K p F d v
  | [], _, _, _, _, e => by simp at e
  | d :: l, _, 0, _, h, e => by
    obtain ⟨x, r, rfl, h1, h⟩ := h
    simp at e
    subst e
    exact ⟨x, rfl, h1⟩
  | d :: l, _, i + 1, _, h, e => by
    obtain ⟨x, r, rfl, h1, h⟩ := h
    simp at e
    obtain ⟨v, e1, e2⟩ := RepL.get h e
    exact ⟨v, by simpa using e1, e2⟩
theorem RepL.back {K : PySem.W.Frag} {p : Pn} {F : Hp} {l : List D} {xs : List V} {i : Nat} {v : V} (h : RepL K p F l xs) (e : xs[i]? = some v) : ∃ d, l[i]? = some d ∧ Rep K p F d v := by
  have hi : i < xs.length := (List.getElem?_eq_some_iff.mp e).1
  rw [h.len] at hi
  obtain ⟨v', e1, e2⟩ := h.get (List.getElem?_eq_getElem hi)
  rw [e] at e1
  cases e1
  exact ⟨_, List.getElem?_eq_getElem hi, e2⟩
theorem RepL.take {K : PySem.W.Frag} {p : Pn} {F : Hp} : ∀ {l : List D} {xs : List V} (n : Nat), RepL K p F l xs → RepL K p F (l.take n) (xs.take n)
  | _, _, 0, _ => rfl
  | [], _, n + 1, h => by cases h; rfl
  | d :: l, _, n + 1, h => by
    obtain ⟨x, r, rfl, h1, h⟩ := h
    exact ⟨x, _, rfl, h1, RepL.take n h⟩
theorem RepL.drop {K : PySem.W.Frag} {p : Pn} {F : Hp} : ∀ {l : List D} {xs : List V} (n : Nat), RepL K p F l xs → RepL K p F (l.drop n) (xs.drop n)
  | _, _, 0, h => h
  | [], _, n + 1, h => by cases h; rfl
  | d :: l, _, n + 1, h => by
    obtain ⟨x, r, rfl, h1, h⟩ := h
    exact RepL.drop n h

/-! ### the heap, frozen and whole -/
def PotAt (H : Hp) (a : Addr) (c : Nat) : Prop := ∃ x y z : Int, H a = some (.lst [.int x, .int y, .int z]) ∧ 0 ≤ x ∧ 0 ≤ y ∧ y < 2 ^ 61 ∧ 0 ≤ z ∧ z ≤ c
structure Tab3 (p : Pn) (H : Hp) : Prop where
  tabs : LamX.Tabs tabs0 H
  cod : ∀ q ∈ p.cod, H q.1 = some (LamX.CodeO q.1 q.2)
theorem Tab3.ext {p : Pn} {H H' : Hp} (t : Tab3 p H) (e : ∀ b o, H b = some o → H' b = some o) : Tab3 p H' := ⟨t.tabs.ext e, fun q hq => e _ _ (t.cod q hq)⟩
/-- F: no tables; the floor stands -/
structure NT (p : Pn) (F : Hp) : Prop where
  t : ∀ b ps, F b ≠ some (HO.tbl ps)
  f : ∀ b o, p.flo b = some o → F b = some o
structure Ok3 (p : Pn) (c : Nat) (F H : Hp) : Prop where
  sub : ∀ b o, F b = some o → H b = some o
  pot : ∀ a, p.pot = some a → PotAt H a c ∧ F a = none
  tab : Tab3 p H
  nt : NT p F
theorem nt_upd {p : Pn} {F : Hp} (n : NT p F) (a : Addr) (xs : List V) (na : F a = none) : NT p (upd F a (.lst xs)) := ⟨fun b ps h => by
  by_cases e : b = a
  · rw [e, upd_same] at h; cases h
  · rw [upd_ne e] at h; exact n.t b ps h, fun b o h => by
  have := n.f b o h
  rw [upd_ne (ne_of_none this na)]; exact this⟩
structure Fwd (p : Pn) (F H F' H' : Hp) : Prop where
  frz : ∀ b o, F b = some o → F' b = some o
  keep : ∀ b o, H b = some o → p.pot ≠ some b → (∀ ps, o ≠ HO.tbl ps) → H' b = some o
  new : ∀ b o, F' b = some o → F b = some o ∨ H b = none
  there : ∀ b, H' b = none → H b = none
theorem Fwd.refl (p : Pn) (F H : Hp) : Fwd p F H F H := ⟨fun _ _ h => h, fun _ _ h _ _ => h, fun _ _ h => .inl h, fun _ h => h⟩
theorem Fwd.trans {p : Pn} {F H F1 H1 F2 H2 : Hp} (a : Fwd p F H F1 H1) (b : Fwd p F1 H1 F2 H2) : Fwd p F H F2 H2 where
  frz := fun c o h => b.frz c o (a.frz c o h)
  keep := fun c o h n t => b.keep c o (a.keep c o h n t) n t
  new := fun c o h => by
    rcases b.new c o h with h | h
    · exact a.new c o h
    · exact .inr (a.there c h)
  there := fun c h => a.there c (b.there c h)
/-- a new frozen object -/
theorem Fwd.laid {p : Pn} {c : Nat} {F H : Hp} (ok : Ok3 p c F H) {q : Addr} (nq : H q = none) (o : HO) (ho : ∀ ps, o ≠ .tbl ps := by exact fun _ z => nomatch z) : Fwd p F H (upd F q o) (upd H q o) ∧ Ok3 p c (upd F q o) (upd H q o) := by
  have nF : F q = none := by
    cases e : F q with
    | none => rfl
    | some u => rw [ok.sub q u e] at nq; cases nq
  refine ⟨⟨fun b u h => ?_, fun b u h _ _ => ?_, fun b u h => ?_, fun b h => ?_⟩, ⟨fun b u h => ?_, fun a e => ?_, ok.tab.ext fun b u h => by rw [upd_ne (ne_of_none h nq)]; exact h, ⟨fun b ps h => ?_, fun b u h => by rw [upd_ne (ne_of_none (ok.nt.f b u h) nF)]; exact ok.nt.f b u h⟩⟩⟩
  · rw [upd_ne (ne_of_none h nF)]; exact h
  · rw [upd_ne (ne_of_none h nq)]; exact h
  · by_cases e : b = q
    · subst e; exact .inr nq
    · rw [upd_ne e] at h; exact .inl h
  · by_cases e : b = q
    · subst e; exact nq
    · rw [upd_ne e] at h; exact h
  · by_cases e : b = q
    · subst e; rw [upd_same] at h ⊢; exact h
    · rw [upd_ne e] at h ⊢; exact ok.sub b u h
  · obtain ⟨⟨x, y, z, h, r⟩, n⟩ := ok.pot a e
    have ne : a ≠ q := ne_of_none h nq
    exact ⟨⟨x, y, z, by rw [upd_ne ne]; exact h, r⟩, by rw [upd_ne ne]; exact n⟩
  · by_cases e : b = q
    · subst e; rw [upd_same] at h; exact ho ps (Option.some.inj h)
    · rw [upd_ne e] at h; exact ok.nt.t b ps h

/-- what is told of a value: it is data d -/
def Tell (K : PySem.W.Frag) (p : Pn) (F H : Hp) (Q' : KD) (Q : VK) : Prop := ∀ d c' v F' H', Fwd p F H F' H' → Ok3 p c' F' H' → Rep K p F' d v → Q' d c' → Q v H'
theorem Tell.fwd {K : PySem.W.Frag} {p : Pn} {F H F1 H1 : Hp} {Q' : KD} {Q : VK} (t : Tell K p F H Q' Q) (w : Fwd p F H F1 H1) : Tell K p F1 H1 Q' Q := fun d c' v F' H' fw ok r q => t d c' v F' H' (w.trans fw) ok r q
def TellL (K : PySem.W.Frag) (p : Pn) (F H : Hp) (Q' : List D → Nat → Prop) (Q : List V → Hp → Prop) : Prop := ∀ d c' v F' H', Fwd p F H F' H' → Ok3 p c' F' H' → RepL K p F' d v → Q' d c' → Q v H'
def TellB (p : Pn) (F H : Hp) (Q' : Bool → Nat → Prop) (Q : Bool → Hp → Prop) : Prop := ∀ b c' F' H', Fwd p F H F' H' → Ok3 p c' F' H' → Q' b c' → Q b H'

/-- the state an expression meets -/
structure ESt (K : PySem.W.Frag) (p : Pn) (c : Nat) (ρ : Rho) (σ : L2.St) (F H : Hp) : Prop where
  ok : Ok3 p c F H
  slot : ∀ i d, get3 ρ i = some d → ∃ v, σ[i]? = some (some v) ∧ Rep K p F d v
  len : ρ.length = σ.length
theorem ESt.fwd {K : PySem.W.Frag} {p : Pn} {c c' : Nat} {ρ : Rho} {σ : L2.St} {F H F' H' : Hp} (e : ESt K p c ρ σ F H) (w : Fwd p F H F' H') (ok : Ok3 p c' F' H') : ESt K p c' ρ σ F' H' :=
  ⟨ok, fun i d h => let ⟨v, a, b⟩ := e.slot i d h; ⟨v, a, b.mono w.frz⟩, e.len⟩
def tE (K : PySem.W.Frag) (f : FE) : TE := fun σ H Q => ∃ p c ρ F Q', ESt K p c ρ σ F H ∧ f ρ c Q' ∧ Tell K p F H Q' Q
def tAr (K : PySem.W.Frag) (f : FA) : TA := fun σ H Q => ∃ p c ρ F Q', ESt K p c ρ σ F H ∧ f ρ c Q' ∧ TellL K p F H Q' Q
def tTs (K : PySem.W.Frag) (f : FT) : TT := fun σ H Q => ∃ p c ρ F Q', ESt K p c ρ σ F H ∧ f ρ c Q' ∧ TellB p F H Q' Q
abbrev EX (X : Cx) (e : Expr) (f : FE) : Prop := PE X e (tE X.K f)
abbrev AX (X : Cx) (es : List Expr) (f : FA) : Prop := PA X es (tAr X.K f)
abbrev TX (X : Cx) (e : Expr) (f : FT) : Prop := PT X e (tTs X.K f)
abbrev WX3 (X : Cx) (e : Expr) (f : FT) : Prop := PW X e (tTs X.K f)
theorem PE.imp {X : Cx} {e : Expr} {t t' : TE} (h : PE X e t) (w : ∀ σ H Q, t' σ H Q → t σ H Q) : PE X e t' := ⟨fun pins s σ H Q I q => h.run pins s σ H Q I (w σ H Q q)⟩
theorem PA.imp {X : Cx} {e : List Expr} {t t' : TA} (h : PA X e t) (w : ∀ σ H Q, t' σ H Q → t σ H Q) : PA X e t' := ⟨fun pos pins s σ H Q I q => h.run pos pins s σ H Q I (w σ H Q q)⟩
theorem PT.imp {X : Cx} {e : Expr} {t t' : TT} (h : PT X e t) (w : ∀ σ H Q, t' σ H Q → t σ H Q) : PT X e t' := ⟨fun pins s σ H Q I q => h.run pins s σ H Q I (w σ H Q q)⟩
theorem PW.imp {X : Cx} {e : Expr} {t t' : TT} (h : PW X e t) (w : ∀ σ H Q, t' σ H Q → t σ H Q) : PW X e t' := ⟨fun wh pins s σ H Q I q => h.run wh pins s σ H Q I (w σ H Q q)⟩
theorem PS.imp {X : Cx} {e : Stmt} {t t' : TS} (h : PS X e t) (w : ∀ D σ H, t' D σ H → t D σ H) : PS X e t' := ⟨fun pins s σ H D I q => h.run pins s σ H D I (w D σ H q)⟩
theorem PSs.imp {X : Cx} {e : List Stmt} {t t' : TS} (h : PSs X e t) (w : ∀ D σ H, t' D σ H → t D σ H) : PSs X e t' := ⟨fun pins s σ H D I q => h.run pins s σ H D I (w D σ H q)⟩

/-! ### expressions -/
section
variable {X : Cx} {a b c e : Expr} {es : List Expr} {fa fb fd : FE} {fr : FA} {pos : Pos}
theorem ex_var (i : Nat) {x : Str} {pos : Pos} (hN : X.N[i]? = some x := by rfl) (hv : Vis X.env.scope x := by first | exact Or.inl rfl | exact Or.inr (Or.inl rfl) | exact Or.inr (Or.inr rfl)) (hd : (x == ("__debug__" : Str)) = false := by decide)
    (hcd : (x == ("__classdict__" : Str)) = false := by decide) : EX X (.Name x pos) (eVar i) := PE.imp (pe_var hN hv hd hcd) fun σ H Q ⟨p, c, ρ, F, Q', es, h, t⟩ => by
  unfold eVar at h
  split at h
  · rename_i d e
    obtain ⟨v, e1, r⟩ := es.slot i d e
    exact ⟨v, e1, t d c v F H (.refl ..) es.ok r h⟩
  · exact h.elim
/-- a value that hangs on nothing -/
def FlatR (d : D) (v : V) : Prop := ∀ K p F, Rep K p F d v
theorem ex_C {d : D} {v : V} (h : PE X e (tC v)) (r : FlatR d v) : EX X e (eC d) := PE.imp h fun σ H Q ⟨p, c, ρ, F, Q', es, h, t⟩ => t d c v F H (.refl ..) es.ok (r _ _ _) h
theorem ex_int {i j pos} : EX X (.Constant (.int i) j pos) (eC (.int i)) := ex_C pe_int fun _ _ _ => rfl
theorem ex_bl {i j pos} : EX X (.Constant (.bool i) j pos) (eC (.bl i)) := ex_C pe_bl fun _ _ _ => rfl
theorem ex_non {j pos} : EX X (.Constant .none j pos) (eC .non) := ex_C pe_non fun _ _ _ => rfl
theorem ex_str {x j pos} : EX X (.Constant (.str x) j pos) (eC (.str x)) := ex_C pe_str fun _ _ _ => rfl
theorem ex_gI {x : Str} {i : Int} {t : Tok} (hm : X.mg x = some (.int i t)) (hg : Gl X x := by rfl) (hd : (x == ("__debug__" : Str)) = false := by decide) : EX X (.Name x pos) (eC (.int i)) := ex_C (pe_glob (v := .int i) hg hm ⟨_, rfl⟩ hd) fun _ _ _ => rfl
theorem ex_gS {x y : Str} {t : Tok} (hm : X.mg x = some (.str y t)) (hg : Gl X x := by rfl) (hd : (x == ("__debug__" : Str)) = false := by decide) : EX X (.Name x pos) (eC (.str y)) := ex_C (pe_glob (v := .str y) hg hm ⟨_, rfl⟩ hd) fun _ _ _ => rfl
/-- a built-in class as a value -/
theorem ex_ty {x : Str} {n : String} (hm : X.mg x = none) (hv : bootBuiltins x = some (.type n)) (hg : Gl X x := by rfl) (hn : x ≠ "__name__" := by decide) (hd : (x == ("__debug__" : Str)) = false := by decide) : EX X (.Name x pos) (eC (.ty n)) :=
  ex_C (pe_bltn hg hm hv (v := .ty n) rfl hn hd) fun _ _ _ => rfl
/-- a pure operation on values, as the layer's R2 asks it -/
def OpS (K : PySem.W.Frag) (r : R2) (g : D → D → Nat → KD → Prop) : Prop := ∀ p c F H x y v u Q' Q, Ok3 p c F H → Rep K p F x v → Rep K p F y u → g x y c Q' → Tell K p F H Q' Q → r v u H Q
theorem ex2 {r : R2} {g : D → D → Nat → KD → Prop} (s : OpS X.K r g) (h : PE X e (tOp r (tE X.K fa) (tE X.K fb))) : EX X e (eOp g fa fb) := PE.imp h fun σ H Q ⟨p, c, ρ, F, Q', es, h, t⟩ =>
  ⟨p, c, ρ, F, _, es, h, fun x c1 v F1 H1 w1 ok1 r1 q1 => ⟨p, c1, ρ, F1, _, es.fwd w1 ok1, q1, fun y c2 u F2 H2 w2 ok2 r2 q2 =>
    s p c2 F2 H2 x y v u Q' Q ok2 (r1.mono w2.frz) r2 q2 (t.fwd (w1.trans w2))⟩⟩
theorem ex_op {op : Operator} {r : R2} {g : D → D → Nat → KD → Prop} (ho : OpR X (binaryOp op) r) (s : OpS X.K r g) (ha : EX X a fa) (hb : EX X b fb) : EX X (.BinOp a op b pos) (eOp g fa fb) := ex2 s (pe_op ho ha hb)
theorem ex_cmp {op : CmpOp} {r : R2} {g : D → D → Nat → KD → Prop} (ho : OpR X (compareOp op) r) (s : OpS X.K r g) (ha : EX X a fa) (hb : EX X b fb) (hm : behindInMarks op b = false) : EX X (.Compare a [op] [b] pos) (eOp g fa fb) := ex2 s (pe_cmpR ho ha hb hm)
theorem ex_ch {op op' : CmpOp} {r r' : R2} {g g' : D → D → Nat → KD → Prop} (ho : OpR X (compareOp op) r) (s : OpS X.K r g) (ho' : OpR X (compareOp op') r') (s' : OpS X.K r' g') (ha : EX X a fa) (hb : EX X b fb) (hc : EX X c fd)
    (hm : lastMarks [op, op'] [b, c] = false := by rfl) : EX X (.Compare a [op, op'] [b, c] pos) (eCh g g' fa fb fd) := PE.imp (pe_chain ho ho' ha hb hc hm) fun σ H Q ⟨p, c, ρ, F, Q', es, h, t⟩ =>
  ⟨p, c, ρ, F, _, es, h, fun x c1 v F1 H1 w1 ok1 r1 q1 => ⟨p, c1, ρ, F1, _, es.fwd w1 ok1, q1, fun y c2 u F2 H2 w2 ok2 r2 q2 =>
    s p c2 F2 H2 x y v u _ _ ok2 (r1.mono w2.frz) r2 q2 fun z c3 v3 F3 H3 w3 ok3 r3 q3 => by
      split at q3
      · rename_i k
        cases (show v3 = .bl k from r3)
        refine ⟨k, rfl, ?_⟩
        have w13 := w1.trans (w2.trans w3)
        cases k with
        | true => exact ⟨p, c3, ρ, F3, _, es.fwd w13 ok3, q3, fun w c4 v4 F4 H4 w4 ok4 r4 q4 => s' p c4 F4 H4 y w u v4 _ _ ok4 (r2.mono fun b o h => w4.frz b o (w3.frz b o h)) r4 q4 (t.fwd (w13.trans w4))⟩
        | false => exact t (.bl false) c3 _ F3 H3 w13 ok3 rfl q3
      · exact q3.elim⟩⟩
end

/-! ### operators -/
theorem line16 : sizeLine = 16777216 := sizeLine_eq
section
variable {K : PySem.W.Frag} {X : Cx}
theorem tellNew {p : Pn} {c : Nat} {F H : Hp} {Q' : KD} {Q : VK} {l : List D} {xs : List V} (ok : Ok3 p c F H) (t : Tell K p F H Q' Q) (r : RepL K p F l xs) (h : Q' (.lst l) c) : ∀ q, H q = none → Q (.ref q) (upd H q (.lst xs)) := fun q nq => by
  obtain ⟨w, ok'⟩ := Fwd.laid ok nq (.lst xs)
  exact t (.lst l) c _ _ _ w ok' ⟨q, xs, rfl, upd_same, r.mono w.frz⟩ h
theorem tellNewT {p : Pn} {c : Nat} {F H : Hp} {Q' : KD} {Q : VK} {l : List D} {xs : List V} (ok : Ok3 p c F H) (t : Tell K p F H Q' Q) (r : RepL K p F l xs) (h : Q' (.tup l) c) : ∀ q, H q = none → Q (.ref q) (upd H q (.tup xs)) := fun q nq => by
  obtain ⟨w, ok'⟩ := Fwd.laid ok nq (.tup xs)
  exact t (.tup l) c _ _ _ w ok' ⟨q, xs, rfl, .of upd_same, r.mono w.frz⟩ h
theorem Ok3.sqT {p : Pn} {c : Nat} {F H : Hp} (ok : Ok3 p c F H) {a : Addr} {xs : List V} (h : SqT K F a xs) : SqT K H a xs := Sub.sqT ok.sub h
/-- a value and nothing new -/
theorem tell0 {p : Pn} {c : Nat} {F H : Hp} {Q' : KD} {Q : VK} {d : D} {v : V} (ok : Ok3 p c F H) (t : Tell K p F H Q' Q) (r : Rep K p F d v) (h : Q' d c) : Q v H := t d c v F H (.refl ..) ok r h
theorem tellI {p : Pn} {c : Nat} {F H : Hp} {Q' : KD} {Q : VK} {i : Int} (ok : Ok3 p c F H) (t : Tell K p F H Q' Q) (h : Q' (.int i) c) : Q (.int i) H := t (.int i) c _ F H (.refl ..) ok rfl h
theorem tellBl {p : Pn} {c : Nat} {F H : Hp} {Q' : KD} {Q : VK} {i : Bool} (ok : Ok3 p c F H) (t : Tell K p F H Q' Q) (h : Q' (.bl i) c) : Q (.bl i) H := t (.bl i) c _ F H (.refl ..) ok rfl h
theorem tellS {p : Pn} {c : Nat} {F H : Hp} {Q' : KD} {Q : VK} {i : Str} (ok : Ok3 p c F H) (t : Tell K p F H Q' Q) (h : Q' (.str i) c) : Q (.str i) H := t (.str i) c _ F H (.refl ..) ok rfl h
theorem tellN {p : Pn} {c : Nat} {F H : Hp} {Q' : KD} {Q : VK} (ok : Ok3 p c F H) (t : Tell K p F H Q' Q) (h : Q' .non c) : Q .non H := t .non c _ F H (.refl ..) ok rfl h
abbrev rAdd4 (K : PySem.W.Frag) : R2 := fun x y H Q => rI0 (fun i j => .int (i + j)) x y H Q ∨ (∃ i j, x = .str i ∧ y = .str j ∧ i.length + j.length ≤ sizeLine ∧ Q (.str (i ++ j)) H) ∨ rCatA K x y H Q ∨ rCat x y H Q
theorem op_add4 : OpR X (binaryOp .Add) (rAdd4 X.K) := op_add.or (op_add_str.or (op_catA.or op_cat))
theorem addS : OpS K (rAdd4 K) addD := by
  intro p c F H x y v u Q' Q ok rx ry h t
  unfold addD at h
  split at h
  · rename_i i j
    cases (show v = .int i from rx)
    cases (show u = .int j from ry)
    exact .inl ⟨i, j, rfl, rfl, tellI ok t h⟩
  · rename_i i j
    cases (show v = .str i from rx)
    cases (show u = .str j from ry)
    exact .inr (.inl ⟨i, j, rfl, rfl, by rw [line16]; exact h.1, tellS ok t h.2⟩)
  · obtain ⟨a, xs, rfl, h1, r1⟩ := rx
    obtain ⟨b, ys, rfl, h2, r2⟩ := ry
    obtain ⟨z, q⟩ := h
    have e1 := r1.len
    have e2 := r2.len
    refine .inr (.inr (.inl ⟨a, b, xs, ys, rfl, rfl, ok.sqT h1, ok.sqT h2, by rw [line16, e1, e2]; exact z, fun e => ?_, fun _ e => ?_, fun _ _ => tellNewT ok t (r1.app r2) q⟩))
    · subst e
      rw [List.eq_nil_of_length_eq_zero e1.symm, List.nil_append] at q
      exact t (.tup _) c _ F H (.refl ..) ok ⟨b, ys, rfl, h2, r2⟩ q
    · subst e
      rw [List.eq_nil_of_length_eq_zero e2.symm, List.append_nil] at q
      exact t (.tup _) c _ F H (.refl ..) ok ⟨a, xs, rfl, h1, r1⟩ q
  · obtain ⟨a, xs, rfl, h1, r1⟩ := rx
    obtain ⟨b, ys, rfl, h2, r2⟩ := ry
    exact .inr (.inr (.inr ⟨a, b, xs, ys, rfl, rfl, ok.sub _ _ h1, ok.sub _ _ h2, by rw [line16, r1.len, r2.len]; exact h.1, tellNew ok t (r1.app r2) h.2⟩))
  · exact h.elim
theorem intS {f : Int → Int → Int} {g : D → D → Nat → KD → Prop} (hg : ∀ x y c Q, g x y c Q → ∃ i j, x = .int i ∧ y = .int j ∧ Q (.int (f i j)) c) : OpS K (rI0 fun i j => .int (f i j)) g := by
  intro p c F H x y v u Q' Q ok rx ry h t
  obtain ⟨i, j, rfl, rfl, h'⟩ := hg x y c Q' h
  cases (show v = .int i from rx)
  cases (show u = .int j from ry)
  exact ⟨i, j, rfl, rfl, tellI ok t h'⟩
theorem intCS {C : Int → Int → Prop} {f : Int → Int → Int} {g : D → D → Nat → KD → Prop} (hg : ∀ x y c Q, g x y c Q → ∃ i j, x = .int i ∧ y = .int j ∧ C i j ∧ Q (.int (f i j)) c) : OpS K (rI C fun i j => .int (f i j)) g := by
  intro p c F H x y v u Q' Q ok rx ry h t
  obtain ⟨i, j, rfl, rfl, hc, h⟩ := hg x y c Q' h
  cases (show v = .int i from rx)
  cases (show u = .int j from ry)
  exact ⟨i, j, rfl, rfl, hc, tellI ok t h⟩
theorem cmpS {f : Int → Int → Bool} {g : D → D → Nat → KD → Prop} (hg : ∀ x y c Q, g x y c Q → ∃ i j, x = .int i ∧ y = .int j ∧ Q (.bl (f i j)) c) : OpS K (rI0 fun i j => .bl (f i j)) g := by
  intro p c F H x y v u Q' Q ok rx ry h t
  obtain ⟨i, j, rfl, rfl, h'⟩ := hg x y c Q' h
  cases (show v = .int i from rx)
  cases (show u = .int j from ry)
  exact ⟨i, j, rfl, rfl, tellBl ok t h'⟩
theorem subS : OpS K (rI0 fun i j => .int (i - j)) subD := intS fun x y c Q h => by
  unfold subD at h
  split at h
  · exact ⟨_, _, rfl, rfl, h⟩
  · exact h.elim
abbrev rMul2 : R2 := fun x y H Q => rI CMul (fun i j => .int (i * j)) x y H Q ∨ rRep x y H Q
theorem op_mul2 : OpR X (binaryOp .Mult) rMul2 := op_mul.or op_rep
theorem RepL.rep {p : Pn} {F : Hp} {l : List D} {xs : List V} (r : RepL K p F l xs) : ∀ k : Nat, RepL K p F (List.replicate k l).flatten (List.replicate k xs).flatten
  | 0 => rfl
  | k + 1 => by
    rw [List.replicate_succ, List.replicate_succ, List.flatten_cons, List.flatten_cons]
    exact r.app (RepL.rep r k)
theorem mulS : OpS K rMul2 mulD := by
  intro p c F H x y v u Q' Q ok rx ry h t
  unfold mulD at h
  split at h
  · rename_i i j
    cases (show v = .int i from rx)
    cases (show u = .int j from ry)
    exact .inl ⟨i, j, rfl, rfl, h.1, tellI ok t h.2⟩
  · rename_i l k
    obtain ⟨a, xs, rfl, h1, r1⟩ := rx
    cases (show u = .int k from ry)
    obtain ⟨⟨k0, k1, k2⟩, q⟩ := h
    exact .inr ⟨a, k, xs, rfl, rfl, ok.sub _ _ h1, by omega, by omega, by rw [line16, r1.len]; exact k2, tellNew ok t (r1.rep _) q⟩
  · exact h.elim
theorem fdivS : OpS K (rI CDiv fun i j => .int (i / j)) fdivD := intCS fun x y c Q h => by
  unfold fdivD at h
  split at h
  · exact ⟨_, _, rfl, rfl, h.1, h.2⟩
  · exact h.elim
theorem modS : OpS K (rI (fun _ j => 0 < j) fun i j => .int (i % j)) modD := intCS fun x y c Q h => by
  unfold modD at h
  split at h
  · exact ⟨_, _, rfl, rfl, h.1, h.2⟩
  · exact h.elim
theorem powS : OpS K (rI CPow3 fun i j => .int (i ^ j.toNat)) powD := intCS fun x y c Q h => by
  unfold powD at h
  split at h
  · exact ⟨_, _, rfl, rfl, h.1, h.2⟩
  · exact h.elim
theorem ltS : OpS K (rI0 fun i j => .bl (decide (i < j))) ltD := cmpS fun x y c Q h => by
  unfold ltD at h
  split at h
  · exact ⟨_, _, rfl, rfl, h⟩
  · exact h.elim
theorem leS : OpS K (rI0 fun i j => .bl (decide (i ≤ j))) leD := cmpS fun x y c Q h => by
  unfold leD at h
  split at h
  · exact ⟨_, _, rfl, rfl, h⟩
  · exact h.elim
theorem gtS : OpS K (rI0 fun i j => .bl (decide (j < i))) gtD := cmpS fun x y c Q h => by
  unfold gtD at h
  split at h
  · exact ⟨_, _, rfl, rfl, h⟩
  · exact h.elim
theorem geS : OpS K (rI0 fun i j => .bl (decide (j ≤ i))) geD := cmpS fun x y c Q h => by
  unfold geD at h
  split at h
  · exact ⟨_, _, rfl, rfl, h⟩
  · exact h.elim
theorem Rep.none_iff {p : Pn} {F : Hp} {d : D} {v : V} (r : Rep K p F d v) : decide (v = .non) = isNone d := by
  cases d with
  | non => cases (show v = .non from r); rfl
  | bl _ => cases (show v = .bl _ from r); rfl
  | int _ => cases (show v = .int _ from r); rfl
  | str _ => cases (show v = .str _ from r); rfl
  | ty _ => cases (show v = .ty _ from r); rfl
  | rf _ => cases (show v = .ref _ from r); rfl
  | lam _ _ _ => obtain ⟨rfl, _⟩ := r; rfl
  | exc _ _ => obtain ⟨a, _, _, rfl, _⟩ := r; rfl
  | clo _ _ => obtain ⟨rfl, _⟩ := r; rfl
  | dic _ => obtain ⟨a, rfl, _⟩ := r; rfl
  | pot => obtain ⟨a, _, rfl⟩ := r; rfl
  | scr _ => obtain ⟨a, rfl, _⟩ := r; rfl
  | tup _ => obtain ⟨a, _, rfl, _⟩ := r; rfl
  | lst _ => obtain ⟨a, _, rfl, _⟩ := r; rfl
  | dct _ _ => obtain ⟨a, _, rfl, _⟩ := r; rfl
theorem isS : OpS K (fun x y H Q => y = .non ∧ Q (.bl (decide (x = .non))) H) isD := by
  intro p c F H x y v u Q' Q ok rx ry h t
  unfold isD at h
  split at h
  · cases (show u = .non from ry)
    refine ⟨rfl, ?_⟩
    rw [rx.none_iff]
    exact tellBl ok t h
  · exact h.elim
theorem isNotS : OpS K (fun x y H Q => y = .non ∧ Q (.bl (!decide (x = .non))) H) isNotD := by
  intro p c F H x y v u Q' Q ok rx ry h t
  unfold isNotD at h
  split at h
  · cases (show u = .non from ry)
    refine ⟨rfl, ?_⟩
    rw [rx.none_iff]
    exact tellBl ok t h
  · exact h.elim
/-! == and != -/
mutual
theorem Rep.dp {p : Pn} {F H : Hp} (e : ∀ b o, F b = some o → H b = some o) : ∀ {d : D} {v : V} {x : PyData}, Rep K p F d v → toPy d = some x → Dp K H v x
  | .non, _, _, h, q => by cases q; cases (show _ = V.non from h); exact .non
  | .bl _, _, _, h, q => by cases q; cases (show _ = V.bl _ from h); exact .bl _
  | .int _, _, _, h, q => by cases q; cases (show _ = V.int _ from h); exact .int _
  | .str _, _, _, h, q => by cases q; cases (show _ = V.str _ from h); exact .str _
  | .ty _, _, _, h, q => by cases q
  | .rf _, _, _, h, q => by cases q
  | .lam .., _, _, h, q => by cases q
  | .exc .., _, _, h, q => by cases q
  | .clo .., _, _, h, q => by cases q
  | .dic _, _, _, h, q => by cases q
  | .dct _ _, _, _, h, q => by cases q
  | .pot, _, _, h, q => by cases q
  | .scr _, _, _, h, q => by cases q
  | .tup l, _, x, h, q => by
    obtain ⟨a, xs, rfl, h1, h2⟩ := h
    obtain ⟨ys, e1, rfl⟩ := Option.map_eq_some_iff.mp (show (toPyL l).map PyData.tuple = some x from q)
    exact .tup (Sub.sqT e h1) (RepL.dp e h2 e1)
  | .lst l, _, x, h, q => by
    obtain ⟨a, xs, rfl, h1, h2⟩ := h
    obtain ⟨ys, e1, rfl⟩ := Option.map_eq_some_iff.mp (show (toPyL l).map PyData.list = some x from q)
    exact .lst (.of (e _ _ h1)) (RepL.dp e h2 e1)
theorem RepL.dp {p : Pn} {F H : Hp} (e : ∀ b o, F b = some o → H b = some o) : ∀ {l : List D} {xs : List V} {ys : List PyData}, RepL K p F l xs → toPyL l = some ys → DpAll K H xs ys
  | [], _, _, h, q => by cases q; cases h; exact .nil
  | d :: l, _, ys, h, q => by
    obtain ⟨x, r, rfl, h1, h2⟩ := h
    unfold toPyL at q
    split at q
    · rename_i y z e1 e2
      cases q
      exact .cons (Rep.dp e h1 e1) (RepL.dp e h2 e2)
    · cases q
end
mutual
theorem toPy_of : ∀ {n : Nat} {d : D}, pyD n d = true → ∃ x, toPy d = some x ∧ x.canLay0 = true ∧ x.depth ≤ n
  | _, .non, _ => ⟨_, rfl, rfl, Nat.zero_le _⟩
  | _, .int _, _ => ⟨_, rfl, rfl, Nat.zero_le _⟩
  | _, .bl _, _ => ⟨_, rfl, rfl, Nat.zero_le _⟩
  | _, .str x, h => ⟨.str x, rfl, by unfold pyD at h; unfold PyData.canLay0; exact h, by unfold PyData.depth; exact Nat.zero_le _⟩
  | n + 1, .tup l, h => by
    unfold pyD at h
    obtain ⟨xs, e1, e2, e3⟩ := toPyL_of h
    refine ⟨.tuple xs, by unfold toPy; rw [e1]; rfl, by unfold PyData.canLay0; exact e2, by unfold PyData.depth; omega⟩
  | n + 1, .lst l, h => by
    unfold pyD at h
    obtain ⟨xs, e1, e2, e3⟩ := toPyL_of h
    refine ⟨.list xs, by unfold toPy; rw [e1]; rfl, by unfold PyData.canLay0; exact e2, by unfold PyData.depth; omega⟩
  | 0, .tup l, h => by simp [pyD] at h
  | 0, .lst l, h => by simp [pyD] at h
  | _, .ty _, h => by simp [pyD] at h
  | _, .rf _, h => by simp [pyD] at h
  | _, .pot, h => by simp [pyD] at h
  | _, .scr _, h => by simp [pyD] at h
  | _, .lam .., h => by simp [pyD] at h
  | _, .exc .., h => by simp [pyD] at h
  | _, .clo .., h => by simp [pyD] at h
  | _, .dic _, h => by simp [pyD] at h
theorem toPyL_of : ∀ {n : Nat} {l : List D}, pyDL n l = true → ∃ xs, toPyL l = some xs ∧ PyData.canLayAll0 xs = true ∧ PyData.depthAll xs ≤ n
  | _, [], _ => ⟨[], by unfold toPyL; rfl, by unfold PyData.canLayAll0; rfl, by unfold PyData.depthAll; exact Nat.zero_le _⟩
  | n, d :: l, h => by
    unfold pyDL at h
    obtain ⟨h1, h2⟩ := Bool.and_eq_true_iff.mp h
    obtain ⟨x, e1, e2, e3⟩ := toPy_of h1
    obtain ⟨xs, g1, g2, g3⟩ := toPyL_of h2
    exact ⟨x :: xs, by unfold toPyL; rw [e1, g1], by unfold PyData.canLayAll0; rw [e2, g2]; rfl, by unfold PyData.depthAll; omega⟩
end
mutual
theorem eqv_toPy : ∀ (x y : D) {d e : PyData}, toPy x = some d → toPy y = some e → PyData.eqv d e = eqvD x y
  | .non, y, _, e, h1, h2 => by cases h1; cases y <;> simp [toPy] at h2 <;> first | (obtain ⟨_, _, rfl⟩ := h2; simp [PyData.eqv, eqvD]; done) | (cases h2; simp [PyData.eqv, eqvD]; done)
  | .int i, y, _, e, h1, h2 => by cases h1; cases y <;> simp [toPy] at h2 <;> first | (obtain ⟨_, _, rfl⟩ := h2; simp [PyData.eqv, eqvD]; done) | (cases h2; simp [PyData.eqv, eqvD]; done)
  | .bl i, y, _, e, h1, h2 => by cases h1; cases y <;> simp [toPy] at h2 <;> first | (obtain ⟨_, _, rfl⟩ := h2; simp [PyData.eqv, eqvD]; done) | (cases h2; simp [PyData.eqv, eqvD]; done)
  | .str i, y, _, e, h1, h2 => by cases h1; cases y <;> simp [toPy] at h2 <;> first | (obtain ⟨_, _, rfl⟩ := h2; simp [PyData.eqv, eqvD]; done) | (cases h2; simp [PyData.eqv, eqvD]; done)
  | .tup l, y, _, e, h1, h2 => by
    simp [toPy] at h1
    obtain ⟨xs, g1, rfl⟩ := h1
    cases y with
    | tup m =>
      simp [toPy] at h2
      obtain ⟨ys, g2, rfl⟩ := h2
      unfold PyData.eqv eqvD
      exact eqvL_toPy l m g1 g2
    | lst m => simp [toPy] at h2; obtain ⟨_, _, rfl⟩ := h2; simp [PyData.eqv, eqvD]
    | non => simp [toPy] at h2; cases h2; simp [PyData.eqv, eqvD]
    | int _ => simp [toPy] at h2; cases h2; simp [PyData.eqv, eqvD]
    | bl _ => simp [toPy] at h2; cases h2; simp [PyData.eqv, eqvD]
    | str _ => simp [toPy] at h2; cases h2; simp [PyData.eqv, eqvD]
    | _ => simp [toPy] at h2
  | .lst l, y, _, e, h1, h2 => by
    simp [toPy] at h1
    obtain ⟨xs, g1, rfl⟩ := h1
    cases y with
    | lst m =>
      simp [toPy] at h2
      obtain ⟨ys, g2, rfl⟩ := h2
      unfold PyData.eqv eqvD
      exact eqvL_toPy l m g1 g2
    | tup m => simp [toPy] at h2; obtain ⟨_, _, rfl⟩ := h2; simp [PyData.eqv, eqvD]
    | non => simp [toPy] at h2; cases h2; simp [PyData.eqv, eqvD]
    | int _ => simp [toPy] at h2; cases h2; simp [PyData.eqv, eqvD]
    | bl _ => simp [toPy] at h2; cases h2; simp [PyData.eqv, eqvD]
    | str _ => simp [toPy] at h2; cases h2; simp [PyData.eqv, eqvD]
    | _ => simp [toPy] at h2
  | .ty _, _, _, _, h, _ => by simp [toPy] at h
  | .rf _, _, _, _, h, _ => by simp [toPy] at h
  | .pot, _, _, _, h, _ => by simp [toPy] at h
  | .scr _, _, _, _, h, _ => by simp [toPy] at h
  | .lam .., _, _, _, h, _ => by simp [toPy] at h
  | .exc .., _, _, _, h, _ => by simp [toPy] at h
  | .clo .., _, _, _, h, _ => by simp [toPy] at h
  | .dic _, _, _, _, h, _ => by simp [toPy] at h
  | .dct _ _, _, _, _, h, _ => by simp [toPy] at h
theorem eqvL_toPy : ∀ (l m : List D) {xs ys : List PyData}, toPyL l = some xs → toPyL m = some ys → PyData.eqvAll xs ys = eqvDL l m
  | [], [], _, _, h1, h2 => by
    simp [toPyL] at h1 h2
    subst h1 h2
    simp [PyData.eqvAll, eqvDL]
  | [], y :: m, _, _, h1, h2 => by
    simp [toPyL] at h1
    subst h1
    unfold toPyL at h2
    split at h2
    · cases h2; simp [PyData.eqvAll, eqvDL]
    · cases h2
  | x :: l, [], _, _, h1, h2 => by
    simp [toPyL] at h2
    subst h2
    unfold toPyL at h1
    split at h1
    · cases h1; simp [PyData.eqvAll, eqvDL]
    · cases h1
  | x :: l, y :: m, _, _, h1, h2 => by
    unfold toPyL at h1 h2
    split at h1
    · rename_i d r e1 e2
      cases h1
      split at h2
      · rename_i d' r' f1 f2
        cases h2
        unfold PyData.eqvAll eqvDL
        rw [eqv_toPy x y e1 f1, eqvL_toPy l m e2 f2]
      · cases h2
    · cases h1
end
theorem shaped_of {x : PyData} (h1 : x.canLay0 = true) (h2 : x.depth ≤ 64) : SeqAt.shaped x = true := by
  unfold SeqAt.shaped
  rw [h1, decide_eq_true h2]
  rfl
theorem eqS : OpS K (fun x y H Q => rEq x y H Q ∨ rEqD K x y H Q) eqD := by
  intro p c F H x y v u Q' Q ok rx ry h t
  unfold eqD at h
  split at h
  · rename_i i j
    cases (show v = .int i from rx)
    cases (show u = .int j from ry)
    refine .inl ⟨rfl, ?_⟩
    rw [show decide (V.int i = V.int j) = decide (i = j) by simp]
    exact tellBl ok t h
  · rename_i i j
    cases (show v = .bl i from rx)
    cases (show u = .bl j from ry)
    refine .inl ⟨rfl, ?_⟩
    rw [show decide (V.bl i = V.bl j) = decide (i = j) by simp]
    exact tellBl ok t h
  · rename_i i j
    cases (show v = .str i from rx)
    cases (show u = .str j from ry)
    refine .inl ⟨rfl, ?_⟩
    rw [show decide (V.str i = V.str j) = decide (i = j) by simp]
    exact tellBl ok t h
  · rename_i x y _ _ _
    obtain ⟨⟨p1, p2⟩, h⟩ := h
    obtain ⟨d, h1, a1, a2⟩ := toPy_of p1
    obtain ⟨e, h2, b1, b2⟩ := toPy_of p2
    have h3 := shaped_of a1 a2
    have h4 := shaped_of b1 b2
    rw [← eqv_toPy _ _ h1 h2] at h
    exact .inr ⟨d, e, rx.dp ok.sub h1, ry.dp ok.sub h2, h3, h4, tellBl ok t h⟩
theorem neS : OpS K (fun x y H Q => rNe x y H Q ∨ rNeD K x y H Q) neD := by
  intro p c F H x y v u Q' Q ok rx ry h t
  unfold neD at h
  split at h
  · rename_i i j
    cases (show v = .int i from rx)
    cases (show u = .int j from ry)
    refine .inl ⟨rfl, ?_⟩
    rw [show decide (V.int i = V.int j) = decide (i = j) by simp]
    exact tellBl ok t h
  · rename_i i j
    cases (show v = .bl i from rx)
    cases (show u = .bl j from ry)
    refine .inl ⟨rfl, ?_⟩
    rw [show decide (V.bl i = V.bl j) = decide (i = j) by simp]
    exact tellBl ok t h
  · rename_i i j
    cases (show v = .str i from rx)
    cases (show u = .str j from ry)
    refine .inl ⟨rfl, ?_⟩
    rw [show decide (V.str i = V.str j) = decide (i = j) by simp]
    exact tellBl ok t h
  · rename_i x y _ _ _
    obtain ⟨⟨p1, p2⟩, h⟩ := h
    obtain ⟨d, h1, a1, a2⟩ := toPy_of p1
    obtain ⟨e, h2, b1, b2⟩ := toPy_of p2
    have h3 := shaped_of a1 a2
    have h4 := shaped_of b1 b2
    rw [← eqv_toPy _ _ h1 h2] at h
    exact .inr ⟨d, e, rx.dp ok.sub h1, ry.dp ok.sub h2, h3, h4, tellBl ok t h⟩
theorem op_eq2 (hu : X.A.units + 64 < cLine) : OpR X (compareOp .Eq) (fun x y H Q => rEq x y H Q ∨ rEqD X.K x y H Q) := op_eq.or (op_eqD hu)
theorem op_ne2 (hu : X.A.units + 64 < cLine) : OpR X (compareOp .NotEq) (fun x y H Q => rNe x y H Q ∨ rNeD X.K x y H Q) := op_ne.or (op_neD hu)
theorem atI_mapI (l : List Int) (i : Int) : atI (l.map V.int) i = (atI l i).map V.int := by
  unfold atI
  rw [List.length_map]
  cases ixN l.length i with
  | none => rfl
  | some j => exact List.getElem?_map ..
theorem rep_ints {p : Pn} {F : Hp} : ∀ ns : List Int, RepL K p F (ns.map .int) (ns.map V.int)
  | [] => rfl
  | n :: ns => ⟨_, _, rfl, rfl, rep_ints ns⟩
theorem ixS : OpS K (rIx K) ixD := by
  intro p c F H x y v u Q' Q ok rx ry h t
  unfold ixD at h
  split at h
  · rename_i l i
    obtain ⟨a, xs, rfl, h1, r1⟩ := rx
    cases (show u = .int i from ry)
    split at h
    · rename_i d e
      unfold atI at e
      obtain ⟨j, e1, e2⟩ := Option.bind_eq_some_iff.mp e
      obtain ⟨w, e3, r3⟩ := r1.get e2
      exact .inr (.inl ⟨a, xs, i, w, rfl, rfl, ok.sqT h1, by unfold atI; rw [r1.len, e1]; exact e3, tell0 ok t r3 h⟩)
    · exact h.elim
  · rename_i l i
    obtain ⟨a, xs, rfl, h1, r1⟩ := rx
    cases (show u = .int i from ry)
    split at h
    · rename_i d e
      unfold atI at e
      obtain ⟨j, e1, e2⟩ := Option.bind_eq_some_iff.mp e
      obtain ⟨w, e3, r3⟩ := r1.get e2
      exact .inl ⟨a, xs, i, w, rfl, rfl, .of (ok.sub _ _ h1), by unfold atI; rw [r1.len, e1]; exact e3, tell0 ok t r3 h⟩
    · exact h.elim
  · rename_i l i
    obtain ⟨a, rfl, h1⟩ := rx
    cases (show u = .int i from ry)
    split at h
    · rename_i d e
      exact .inl ⟨a, l.map V.int, i, .int d, rfl, rfl, Sub.sqL ok.sub h1, by rw [atI_mapI, e]; rfl, tellI ok t h⟩
    · exact h.elim
  · exact h.elim
end
section
variable {X : Cx} {a b c e : Expr} {es : List Expr} {fa fb fd : FE} {fr : FA} {pos : Pos}
theorem ex_add (ha : EX X a fa) (hb : EX X b fb) : EX X (.BinOp a .Add b pos) (eOp addD fa fb) := ex_op op_add4 addS ha hb
theorem ex_sub (ha : EX X a fa) (hb : EX X b fb) : EX X (.BinOp a .Sub b pos) (eOp subD fa fb) := ex_op op_sub subS ha hb
theorem ex_mul (ha : EX X a fa) (hb : EX X b fb) : EX X (.BinOp a .Mult b pos) (eOp mulD fa fb) := ex_op op_mul2 mulS ha hb
theorem ex_fdiv (ha : EX X a fa) (hb : EX X b fb) : EX X (.BinOp a .FloorDiv b pos) (eOp fdivD fa fb) := ex_op op_fdiv fdivS ha hb
theorem ex_mod (ha : EX X a fa) (hb : EX X b fb) : EX X (.BinOp a .Mod b pos) (eOp modD fa fb) := ex_op op_mod modS ha hb
theorem ex_pow (ha : EX X a fa) (hb : EX X b fb) : EX X (.BinOp a .Pow b pos) (eOp powD fa fb) := ex_op op_pow3 powS ha hb
theorem ex_ix (ha : EX X a fa) (hb : EX X b fb) (hs : PlainIx b := by exact fun _ _ => rfl) : EX X (.Subscript a b pos) (eOp ixD fa fb) := ex2 ixS (pe_ix ix_seq ha hb hs)
theorem ex_neg (ha : EX X a fa) : EX X (.UnaryOp .USub a pos) (eUn negD fa) := PE.imp (pe_un un_neg ha) fun σ H Q ⟨p, c, ρ, F, Q', es, h, t⟩ =>
  ⟨p, c, ρ, F, _, es, h, fun x c1 v F1 H1 w1 ok1 r1 q1 => by
    unfold negD at q1
    split at q1
    · rename_i i
      cases (show v = .int i from r1)
      exact ⟨i, rfl, tellI ok1 (t.fwd w1) q1⟩
    · exact q1.elim⟩
/-! tests -/
theorem tx_of {f : FE} {t : TT} (h : PT X e t) (w : ∀ σ H Q, tE X.K f σ H (fun x H' => ∃ k, x = .bl k ∧ Q k H') → t σ H Q) : TX X e (tV f) := PT.imp h fun σ H Q ⟨p, c, ρ, F, Q', es, h, t⟩ => w σ H Q ⟨p, c, ρ, F, _, es, h, fun x c1 v F1 H1 w1 ok1 r1 q1 => by
  split at q1
  · rename_i k
    cases (show v = .bl k from r1)
    exact ⟨k, rfl, t k c1 F1 H1 w1 ok1 q1⟩
  · exact q1.elim⟩
theorem tx_val {f : FE} (h : EX X e f) (he : ∀ whole, isTrue e X.env whole = (do let v ← whole; standAt e.pos; holding [v] (truthy v)) := by intro _; rfl) : TX X e (tV f) := tx_of (pt_val h he) fun _ _ _ h => h
theorem ex2w {r : R2} {g : D → D → Nat → KD → Prop} (s : OpS X.K r g) {σ : L2.St} {H : Hp} {Q : VK} (h : tE X.K (eOp g fa fb) σ H Q) : tOp r (tE X.K fa) (tE X.K fb) σ H Q := by
  obtain ⟨p, c, ρ, F, Q', es, h, t⟩ := h
  exact ⟨p, c, ρ, F, _, es, h, fun x c1 v F1 H1 w1 ok1 r1 q1 => ⟨p, c1, ρ, F1, _, es.fwd w1 ok1, q1, fun y c2 u F2 H2 w2 ok2 r2 q2 => s p c2 F2 H2 x y v u Q' Q ok2 (r1.mono w2.frz) r2 q2 (t.fwd (w1.trans w2))⟩⟩
theorem tx_cmp {op : CmpOp} {r : R2} {g : D → D → Nat → KD → Prop} (ho : OpR X (compareOp op) r) (s : OpS X.K r g) (ha : EX X a fa) (hb : EX X b fb) (hm : behindInMarks op b = false) : TX X (.Compare a [op] [b] pos) (tV (eOp g fa fb)) :=
  tx_of (pt_cmpR ho ha hb hm) fun _ _ _ h => ex2w s h
theorem exChw {r r' : R2} {g g' : D → D → Nat → KD → Prop} (s : OpS X.K r g) (s' : OpS X.K r' g') {σ : L2.St} {H : Hp} {Q : VK} (h : tE X.K (eCh g g' fa fb fd) σ H Q) : tChain r r' (tE X.K fa) (tE X.K fb) (tE X.K fd) σ H Q := by
  obtain ⟨p, c, ρ, F, Q', es, h, t⟩ := h
  exact ⟨p, c, ρ, F, _, es, h, fun x c1 v F1 H1 w1 ok1 r1 q1 => ⟨p, c1, ρ, F1, _, es.fwd w1 ok1, q1, fun y c2 u F2 H2 w2 ok2 r2 q2 =>
    s p c2 F2 H2 x y v u _ _ ok2 (r1.mono w2.frz) r2 q2 fun z c3 v3 F3 H3 w3 ok3 r3 q3 => by
      split at q3
      · rename_i k
        cases (show v3 = .bl k from r3)
        refine ⟨k, rfl, ?_⟩
        have w13 := w1.trans (w2.trans w3)
        cases k with
        | true => exact ⟨p, c3, ρ, F3, _, es.fwd w13 ok3, q3, fun w c4 v4 F4 H4 w4 ok4 r4 q4 => s' p c4 F4 H4 y w u v4 _ _ ok4 (r2.mono fun b o h => w4.frz b o (w3.frz b o h)) r4 q4 (t.fwd (w13.trans w4))⟩
        | false => exact t (.bl false) c3 _ F3 H3 w13 ok3 rfl q3
      · exact q3.elim⟩⟩
theorem tx_ch {op op' : CmpOp} {r r' : R2} {g g' : D → D → Nat → KD → Prop} (ho : OpR X (compareOp op) r) (s : OpS X.K r g) (ho' : OpR X (compareOp op') r') (s' : OpS X.K r' g') (ha : EX X a fa) (hb : EX X b fb) (hc : EX X c fd)
    (hm : lastMarks [op, op'] [b, c] = false := by rfl) : TX X (.Compare a [op, op'] [b, c] pos) (tV (eCh g g' fa fb fd)) := tx_of (pt_chain ho ho' ha hb hc hm) fun _ _ _ h => exChw s s' h
theorem wx_and1 {f : FT} (h : TX X a f) : WX3 X (.BoolOp .And [a] pos) f := pw_and1 h
theorem wx_or1 {f : FT} (h : TX X a f) : WX3 X (.BoolOp .Or [a] pos) f := pw_or1 h
theorem wx_and {f g : FT} {rest : List Expr} (h : TX X a f) (h2 : WX3 X (.BoolOp .And (b :: rest) pos) g) : WX3 X (.BoolOp .And (a :: b :: rest) pos) (tA3 f g) := PW.imp (pw_and h h2) fun σ H Q ⟨p, c, ρ, F, Q', es, h, t⟩ =>
  ⟨p, c, ρ, F, _, es, h, fun k c1 F1 H1 w1 ok1 q1 => by
    cases k with
    | true => exact ⟨p, c1, ρ, F1, Q', es.fwd w1 ok1, q1, fun k2 c2 F2 H2 w2 ok2 q2 => t k2 c2 F2 H2 (w1.trans w2) ok2 q2⟩
    | false => exact t false c1 F1 H1 w1 ok1 q1⟩
theorem wx_or {f g : FT} {rest : List Expr} (h : TX X a f) (h2 : WX3 X (.BoolOp .Or (b :: rest) pos) g) : WX3 X (.BoolOp .Or (a :: b :: rest) pos) (tO3 f g) := PW.imp (pw_or h h2) fun σ H Q ⟨p, c, ρ, F, Q', es, h, t⟩ =>
  ⟨p, c, ρ, F, _, es, h, fun k c1 F1 H1 w1 ok1 q1 => by
    cases k with
    | false => exact ⟨p, c1, ρ, F1, Q', es.fwd w1 ok1, q1, fun k2 c2 F2 H2 w2 ok2 q2 => t k2 c2 F2 H2 (w1.trans w2) ok2 q2⟩
    | true => exact t true c1 F1 H1 w1 ok1 q1⟩
theorem wx_pt {f : FT} (h : WX3 X e f) : TX X e f := PW.pt h
theorem tx_not {f : FT} (h : TX X a f) : TX X (.UnaryOp .Not a pos) (tN3 f) := PT.imp (pt_not h) fun σ H Q ⟨p, c, ρ, F, Q', es, h, t⟩ =>
  ⟨p, c, ρ, F, _, es, h, fun k c1 F1 H1 w1 ok1 q1 => t _ c1 F1 H1 w1 ok1 q1⟩
theorem ex_one {op} {f : FE} (h : EX X a f) : EX X (.BoolOp op [a] pos) f := pe_one h
theorem ex_and {f g : FE} {rest : List Expr} (h : EX X a f) (h2 : EX X (.BoolOp .And (b :: rest) pos) g) : EX X (.BoolOp .And (a :: b :: rest) pos) (eAnd f g) := PE.imp (pe_and h h2) fun σ H Q ⟨p, c, ρ, F, Q', es, h, t⟩ =>
  ⟨p, c, ρ, F, _, es, h, fun x c1 v F1 H1 w1 ok1 r1 q1 => by
    split at q1
    · rename_i k
      cases (show v = .bl k from r1)
      refine ⟨k, rfl, ?_⟩
      cases k with
      | true => exact ⟨p, c1, ρ, F1, Q', es.fwd w1 ok1, q1, t.fwd w1⟩
      | false => exact t (.bl false) c1 _ F1 H1 w1 ok1 rfl q1
    · exact q1.elim⟩
theorem ex_or {f g : FE} {rest : List Expr} (h : EX X a f) (h2 : EX X (.BoolOp .Or (b :: rest) pos) g) : EX X (.BoolOp .Or (a :: b :: rest) pos) (eOr f g) := PE.imp (pe_or h h2) fun σ H Q ⟨p, c, ρ, F, Q', es, h, t⟩ =>
  ⟨p, c, ρ, F, _, es, h, fun x c1 v F1 H1 w1 ok1 r1 q1 => by
    split at q1
    · rename_i k
      cases (show v = .bl k from r1)
      refine ⟨k, rfl, ?_⟩
      cases k with
      | false => exact ⟨p, c1, ρ, F1, Q', es.fwd w1 ok1, q1, t.fwd w1⟩
      | true => exact t (.bl true) c1 _ F1 H1 w1 ok1 rfl q1
    · exact q1.elim⟩
theorem ex_not {f : FE} (h : EX X a f) : EX X (.UnaryOp .Not a pos) (eNot f) := PE.imp (pe_not h) fun σ H Q ⟨p, c, ρ, F, Q', es, h, t⟩ =>
  ⟨p, c, ρ, F, _, es, h, fun x c1 v F1 H1 w1 ok1 r1 q1 => by
    split at q1
    · rename_i k
      cases (show v = .bl k from r1)
      exact ⟨k, rfl, t (.bl (!k)) c1 _ F1 H1 w1 ok1 rfl q1⟩
    · exact q1.elim⟩
theorem ex_if {f : FT} (hc : TX X c f) (ha : EX X a fa) (hb : EX X b fb) : EX X (.IfExp c a b pos) (eIf3 f fa fb) := PE.imp (pe_ifExp hc ha hb) fun σ H Q ⟨p, c, ρ, F, Q', es, h, t⟩ =>
  ⟨p, c, ρ, F, _, es, h, fun k c1 F1 H1 w1 ok1 q1 => by
    cases k with
    | true => exact ⟨p, c1, ρ, F1, Q', es.fwd w1 ok1, q1, t.fwd w1⟩
    | false => exact ⟨p, c1, ρ, F1, Q', es.fwd w1 ok1, q1, t.fwd w1⟩⟩
/-! arguments, displays -/
theorem ax_nil : AX X [] aNil := PA.imp pa_nil fun σ H Q ⟨p, c, ρ, F, Q', es, h, t⟩ => t [] c [] F H (.refl ..) es.ok rfl h
theorem ax_cons (ha : EX X e fa) (hr : AX X es fr) (hs : starEach (e :: es) X.env = (false, eval e X.env) :: starEach es X.env := by rfl) : AX X (e :: es) (aCons fa fr) := PA.imp (pa_cons ha hr hs) fun σ H Q ⟨p, c, ρ, F, Q', es, h, t⟩ =>
  ⟨p, c, ρ, F, _, es, h, fun x c1 v F1 H1 w1 ok1 r1 q1 => ⟨p, c1, ρ, F1, _, es.fwd w1 ok1, q1, fun xs c2 vs F2 H2 w2 ok2 r2 q2 => t (x :: xs) c2 (v :: vs) F2 H2 (w1.trans w2) ok2 ⟨v, vs, rfl, r1.mono w2.frz, r2⟩ q2⟩⟩
theorem ax_star {sp : Pos} (ha : EX X e fa) (hr : AX X es fr) (hs : starEach (.Starred e sp :: es) X.env = (true, eval e X.env) :: starEach es X.env := by rfl) : AX X (.Starred e sp :: es) (aStar fa fr) := PA.imp (StX.pa_star ha hr hs) fun σ H Q ⟨p, c, ρ, F, Q', es, h, t⟩ =>
  ⟨p, c, ρ, F, _, es, h, fun x c1 v F1 H1 w1 ok1 r1 q1 => by
    split at q1
    · obtain ⟨a, xs, rfl, h1, rl⟩ := r1
      exact ⟨a, xs, rfl, .inl (ok1.sqT h1), p, c1, ρ, F1, _, es.fwd w1 ok1, q1, fun ys c2 vs F2 H2 w2 ok2 r2 q2 => t _ c2 _ F2 H2 (w1.trans w2) ok2 ((rl.mono w2.frz).app r2) q2⟩
    · obtain ⟨a, xs, rfl, h1, rl⟩ := r1
      exact ⟨a, xs, rfl, .inr (.of (ok1.sub _ _ h1)), p, c1, ρ, F1, _, es.fwd w1 ok1, q1, fun ys c2 vs F2 H2 w2 ok2 r2 q2 => t _ c2 _ F2 H2 (w1.trans w2) ok2 ((rl.mono w2.frz).app r2) q2⟩
    · exact q1.elim⟩
theorem ex_tup {x1} (h : AX X es fr) : EX X (.Tuple es x1 pos) (eTup fr) := PE.imp (pe_tup h) fun σ H Q ⟨p, c, ρ, F, Q', es, h, t⟩ =>
  ⟨p, c, ρ, F, _, es, h, fun l c1 vs F1 H1 w1 ok1 r1 q1 => ⟨by rw [line16, r1.len]; exact q1.1, tellNewT ok1 (t.fwd w1) r1 q1.2⟩⟩
theorem ex_lst (h : AX X es fr) : EX X (.List es pos) (eLst fr) := PE.imp (pe_lst h) fun σ H Q ⟨p, c, ρ, F, Q', es, h, t⟩ =>
  ⟨p, c, ρ, F, _, es, h, fun l c1 vs F1 H1 w1 ok1 r1 q1 => ⟨by rw [line16, r1.len]; exact q1.1, tellNew ok1 (t.fwd w1) r1 q1.2⟩⟩
end

/-! ### slices, calls, built-ins -/
section
variable {X : Cx} {a b c e : Expr} {es : List Expr} {fa fb fd : FE} {fr : FA} {pos p2 : Pos}
structure OX (X : Cx) (e : Option Expr) (f : FO) : Prop where
  ex : ∃ t, PO X e t ∧ ∀ σ H p c ρ F Q' Q, ESt X.K p c ρ σ F H → f ρ c Q' → (∀ i c' F' H', Fwd p F H F' H' → Ok3 p c' F' H' → Q' i c' → Q i H') → t σ H Q
theorem ox_none : OX X none oNone := ⟨_, po_none, fun σ H p c ρ F Q' Q es h k => k none c F H (.refl ..) es.ok h⟩
theorem ox_some (h : EX X e fa) : OX X (some e) (oSome fa) := ⟨_, po_some h, fun σ H p c ρ F Q' Q es h k => ⟨p, c, ρ, F, _, es, h, fun x c1 v F1 H1 w1 ok1 r1 q1 => by
  split at q1
  · rename_i i
    cases (show v = .int i from r1)
    exact ⟨i, rfl, k _ c1 F1 H1 w1 ok1 q1⟩
  · exact q1.elim⟩⟩
theorem cut_len {l : List D} {xs : List V} (e : xs.length = l.length) (lo hi : Option Int) : cutV xs lo hi = (xs.drop (HT.sIx l.length 0 lo)).take (HT.sIx l.length l.length hi - HT.sIx l.length 0 lo) := by
  unfold cutV
  rw [e]
theorem RepL.cut {K : PySem.W.Frag} {p : Pn} {F : Hp} {l : List D} {xs : List V} (r : RepL K p F l xs) (lo hi : Option Int) : RepL K p F (cutD l lo hi) (cutV xs lo hi) := by
  rw [cut_len r.len]
  exact (r.drop _).take _
abbrev rSl2 (K : PySem.W.Frag) : V → Option Int → Option Int → Hp → VK → Prop := fun x lo hi H Q => rSlA K x lo hi H Q ∨ rSlL K x lo hi H Q
theorem ex_sl {lo hi : Option Expr} {fl fh : FO} (ha : EX X e fa) (hl : OX X lo fl) (hh : OX X hi fh) : EX X (.Subscript e (.Slice lo hi none p2) pos) (eSl fa fl fh) := by
  obtain ⟨tl, pl, kl⟩ := hl.ex
  obtain ⟨th, ph, kh⟩ := hh.ex
  refine PE.imp (pe_slice (sl_tupA.or sl_list) ha pl ph) fun σ H Q ⟨p, c, ρ, F, Q', es, h, t⟩ => ⟨p, c, ρ, F, _, es, h, fun x c1 v F1 H1 w1 ok1 r1 q1 => ?_⟩
  refine kl σ H1 p c1 ρ F1 _ _ (es.fwd w1 ok1) q1 fun i c2 F2 H2 w2 ok2 q2 => ?_
  have w12 := w1.trans w2
  refine kh σ H2 p c2 ρ F2 _ _ (es.fwd w12 ok2) q2 fun j c3 F3 H3 w3 ok3 q3 => ?_
  have w13 := w12.trans w3
  have r3 := (r1.mono w2.frz).mono w3.frz
  split at q3
  · rename_i d e3
    cases x with
    | tup l =>
      cases (show some (D.tup (cutD l i j)) = some d from e3)
      obtain ⟨b, xs, rfl, h1, rl⟩ := r3
      refine .inl ⟨b, xs, rfl, ok3.sqT h1, fun hw => ?_, fun _ => tellNewT ok3 (t.fwd w13) (rl.cut i j) q3⟩
      have e4 : cutD l i j = l := by
        rw [rl.len] at hw
        unfold cutD
        rw [hw.1, hw.2]
        simp
      rw [e4] at q3
      exact t (.tup l) c3 _ F3 H3 w13 ok3 ⟨b, xs, rfl, h1, rl⟩ q3
    | lst l =>
      cases (show some (D.lst (cutD l i j)) = some d from e3)
      obtain ⟨b, xs, rfl, h1, rl⟩ := r3
      exact .inr ⟨b, xs, rfl, .of (ok3.sub _ _ h1), tellNew ok3 (t.fwd w13) (rl.cut i j) q3⟩
    | scr ns =>
      cases (show some (D.lst (cutD (ns.map .int) i j)) = some d from e3)
      obtain ⟨b, rfl, h1⟩ := r3
      exact .inr ⟨b, _, rfl, Sub.sqL ok3.sub h1, tellNew ok3 (t.fwd w13) ((rep_ints ns).cut i j) q3⟩
    | _ => cases e3
  · exact q3.elim
end

section
variable {X : Cx} {a b c e : Expr} {es : List Expr} {fa fb fd : FE} {fr : FA} {pos p2 : Pos}
/-- a def's promise, plain -/
def spM (K : PySem.W.Frag) (n : Nat) (m : FM) : Sp := fun vs H Q _ => vs.length = n ∧ ∃ p c F ds Q', Ok3 p c F H ∧ RepL K p F ds vs ∧ m ds c Q' ∧ Tell K p F H Q' Q
theorem ex_call {CX : CXT} {k n : Nat} {f : Addr} {fd : FuncData} {ps : List Str} {m : FM} {x : Str} {p : Pos} {E : XK} (G : FnOk X.prog X.w X.K X.mg X.base CX k f fd ps (spM X.K n m)) (hr : Room k X.A) (hm : X.mg x = some (.ref f)) (hk : PySem.W.keepIn X.K (.ref f) = true) (hb : Binds X.K fd ps [])
    (hn : ps.length = n) (ha : AX X (e :: es) fr) (hx : Passes CX X E) (hg : Gl X x := by rfl) (hdb : (x == ("__debug__" : Str)) = false := by decide) (he : starEach (e :: es) X.env = (false, eval e X.env) :: starEach es X.env := by rfl) (hpl : (backTo pos (starEach es X.env)).any (·.1) = false := by rfl) (hl : ∀ l c Q, m l c Q → l.length = n) :
    EX X (.Call (.Name x p) (e :: es) [] pos) (eCall m fr) := PE.imp (pe_call (dvs := []) G hr hg hm hk hb .nil hx ha hdb he hpl) fun σ H Q ⟨p, c, ρ, F, Q', es, h, t⟩ =>
  ⟨p, c, ρ, F, _, es, h, fun l c1 vs F1 H1 w1 ok1 r1 q1 => ⟨by rw [List.append_nil, r1.len]; exact hl _ _ _ q1, p, c1, F1, l, Q', ok1, by rw [List.append_nil]; exact r1, q1, t.fwd w1⟩⟩
/-- a built-in on values -/
def CallS (K : PySem.W.Frag) (r : List V → Hp → VK → Prop) (m : FM) : Prop := ∀ p c F H l vs Q' Q, Ok3 p c F H → RepL K p F l vs → m l c Q' → Tell K p F H Q' Q → r vs H Q
theorem ex_callB {id : String} {r : List V → Hp → VK → Prop} {m : FM} {x : Str} {p : Pos} (hc : CallR X (.builtin id) r) (s : CallS X.K r m) (hm : X.mg x = none) (hv : bootBuiltins x = some (.builtin id)) (ha : AX X (e :: es) fr) (hg : Gl X x := by rfl) (hn : x ≠ "__name__" := by decide) (hdb : (x == ("__debug__" : Str)) = false := by decide)
    (he : starEach (e :: es) X.env = (false, eval e X.env) :: starEach es X.env := by rfl) (hpl : (backTo pos (starEach es X.env)).any (·.1) = false := by rfl) : EX X (.Call (.Name x p) (e :: es) [] pos) (eB m fr) := PE.imp (pe_callB hc hg hm hv ha hn hdb he hpl) fun σ H Q ⟨p, c, ρ, F, Q', es, h, t⟩ =>
  ⟨p, c, ρ, F, _, es, h, fun l c1 vs F1 H1 w1 ok1 r1 q1 => s p c1 F1 H1 l vs Q' Q ok1 r1 q1 (t.fwd w1)⟩
theorem ex_callT {id : String} {r : List V → Hp → VK → Prop} {m : FM} {x : Str} {p : Pos} (hc : CallR X (.type id) r) (s : CallS X.K r m) (hm : X.mg x = none) (hv : bootBuiltins x = some (.type id)) (ha : AX X (e :: es) fr) (hg : Gl X x := by rfl) (hn : x ≠ "__name__" := by decide) (hdb : (x == ("__debug__" : Str)) = false := by decide)
    (he : starEach (e :: es) X.env = (false, eval e X.env) :: starEach es X.env := by rfl) (hpl : (backTo pos (starEach es X.env)).any (·.1) = false := by rfl) : EX X (.Call (.Name x p) (e :: es) [] pos) (eB m fr) := PE.imp (pe_callTy hc hg hm hv ha hn hdb he hpl) fun σ H Q ⟨p, c, ρ, F, Q', es, h, t⟩ =>
  ⟨p, c, ρ, F, _, es, h, fun l c1 vs F1 H1 w1 ok1 r1 q1 => s p c1 F1 H1 l vs Q' Q ok1 r1 q1 (t.fwd w1)⟩
end
section
variable {K : PySem.W.Frag}
theorem RepL.one {p : Pn} {F : Hp} {d : D} {vs : List V} (h : RepL K p F [d] vs) : ∃ v, vs = [v] ∧ Rep K p F d v := by
  obtain ⟨x, r, rfl, h1, h2⟩ := h
  cases h2
  exact ⟨x, rfl, h1⟩
theorem RepL.two {p : Pn} {F : Hp} {d e : D} {vs : List V} (h : RepL K p F [d, e] vs) : ∃ v u, vs = [v, u] ∧ Rep K p F d v ∧ Rep K p F e u := by
  obtain ⟨x, r, rfl, h1, y, r2, rfl, h2, h3⟩ := h
  cases h3
  exact ⟨x, y, rfl, h1, h2⟩
theorem RepL.int1 {p : Pn} {F : Hp} {i : Int} {vs : List V} (h : RepL K p F [.int i] vs) : vs = [.int i] := by
  obtain ⟨v, rfl, e⟩ := h.one
  cases (show v = .int i from e)
  rfl
theorem RepL.int2 {p : Pn} {F : Hp} {i j : Int} {vs : List V} (h : RepL K p F [.int i, .int j] vs) : vs = [.int i, .int j] := by
  obtain ⟨v, u, rfl, e, e'⟩ := h.two
  cases (show v = .int i from e)
  cases (show u = .int j from e')
  rfl
theorem ok_lst {p : Pn} {c : Nat} {F H : Hp} (ok : Ok3 p c F H) {a : Addr} {xs : List V} (h : F a = some (.lst xs)) : SqL K H a xs := .of (ok.sub _ _ h)
theorem lenS : CallS K (fun xs H Q => ∃ p ys, xs = [.ref p] ∧ (SqL K H p ys ∨ SqT K H p ys) ∧ Q (.int ys.length) H) lenM := by
  intro p c F H l vs Q' Q ok r h t
  unfold lenM at h
  split at h
  · obtain ⟨v, rfl, a, xs, rfl, h1, r1⟩ := r.one
    exact ⟨a, xs, rfl, .inr (ok.sqT h1), by rw [r1.len]; exact tellI ok t h⟩
  · obtain ⟨v, rfl, a, xs, rfl, h1, r1⟩ := r.one
    exact ⟨a, xs, rfl, .inl (ok_lst ok h1), by rw [r1.len]; exact tellI ok t h⟩
  · rename_i ns
    obtain ⟨v, rfl, a, rfl, h1⟩ := r.one
    exact ⟨a, ns.map V.int, rfl, .inl (Sub.sqL ok.sub h1), by rw [List.length_map]; exact tellI ok t h⟩
  · exact h.elim
theorem absS : CallS K (fun xs H Q => ∃ i, xs = [.int i] ∧ Q (.int (if i < 0 then -i else i)) H) absM := by
  intro p c F H l vs Q' Q ok r h t
  unfold absM at h
  split at h
  · exact ⟨_, r.int1, tellI ok t h⟩
  · exact h.elim
theorem max2S : CallS K (fun xs H Q => ∃ i j, xs = [.int i, .int j] ∧ Q (.int (if j > i then j else i)) H) max2M := by
  intro p c F H l vs Q' Q ok r h t
  unfold max2M at h
  split at h
  · exact ⟨_, _, r.int2, tellI ok t h⟩
  · exact h.elim
theorem min2S : CallS K (fun xs H Q => ∃ i j, xs = [.int i, .int j] ∧ Q (.int (if j < i then j else i)) H) min2M := by
  intro p c F H l vs Q' Q ok r h t
  unfold min2M at h
  split at h
  · exact ⟨_, _, r.int2, tellI ok t h⟩
  · exact h.elim
theorem intS1 : CallS K (fun xs H Q => (∃ i, xs = [.int i] ∧ Q (.int i) H) ∨ ∃ k, xs = [.bl k] ∧ Q (.int (if k then 1 else 0)) H) intM := by
  intro p c F H l vs Q' Q ok r h t
  unfold intM at h
  split at h
  · exact .inl ⟨_, r.int1, tellI ok t h⟩
  · obtain ⟨v, rfl, e⟩ := r.one
    rename_i b
    cases (show v = .bl b from e)
    exact .inr ⟨b, rfl, tellI ok t h⟩
  · exact h.elim
theorem tupleS : CallS K (fun xs H Q => ∃ p ys, xs = [.ref p] ∧ ((SqL K H p ys ∧ ∀ l, H l = none → Q (.ref l) (upd H l (.tup ys))) ∨ (SqT K H p ys ∧ Q (.ref p) H))) tupleM := by
  intro p c F H l vs Q' Q ok r h t
  unfold tupleM at h
  split at h
  · obtain ⟨v, rfl, a, xs, rfl, h1, r1⟩ := r.one
    exact ⟨a, xs, rfl, .inl ⟨ok_lst ok h1, tellNewT ok t r1 h⟩⟩
  · obtain ⟨v, rfl, a, xs, rfl, h1, r1⟩ := r.one
    exact ⟨a, xs, rfl, .inr ⟨ok.sqT h1, t (.tup _) c _ F H (.refl ..) ok ⟨a, xs, rfl, h1, r1⟩ h⟩⟩
  · exact h.elim
theorem listS : CallS K (fun xs H Q => ∃ p ys, xs = [.ref p] ∧ (SqL K H p ys ∨ SqT K H p ys) ∧ ∀ l, H l = none → Q (.ref l) (upd H l (.lst ys))) listM := by
  intro p c F H l vs Q' Q ok r h t
  unfold listM at h
  split at h
  · obtain ⟨v, rfl, a, xs, rfl, h1, r1⟩ := r.one
    exact ⟨a, xs, rfl, .inl (ok_lst ok h1), tellNew ok t r1 h⟩
  · obtain ⟨v, rfl, a, xs, rfl, h1, r1⟩ := r.one
    exact ⟨a, xs, rfl, .inr (ok.sqT h1), tellNew ok t r1 h⟩
  · exact h.elim
theorem RepL.bls {p : Pn} {F : Hp} : ∀ {l : List D} {xs : List V} {bs : List Bool}, RepL K p F l xs → blsOf l = some bs → xs = bs.map V.bl
  | [], _, _, h, q => by cases q; cases h; rfl
  | d :: l, _, bs, h, q => by
    obtain ⟨x, r, rfl, h1, h2⟩ := h
    unfold blsOf at q
    split at q
    · rename_i e; cases e
    · rename_i b l' e
      cases e
      obtain ⟨bs', e1, rfl⟩ := Option.map_eq_some_iff.mp q
      cases (show x = .bl b from h1)
      rw [RepL.bls h2 e1]
      rfl
    · cases q
theorem RepL.ints {p : Pn} {F : Hp} : ∀ {l : List D} {xs : List V} {bs : List Int}, RepL K p F l xs → intsOf l = some bs → xs = bs.map V.int
  | [], _, _, h, q => by cases q; cases h; rfl
  | d :: l, _, bs, h, q => by
    obtain ⟨x, r, rfl, h1, h2⟩ := h
    unfold intsOf at q
    split at q
    · rename_i e; cases e
    · rename_i b l' e
      cases e
      obtain ⟨bs', e1, rfl⟩ := Option.map_eq_some_iff.mp q
      cases (show x = .int b from h1)
      rw [RepL.ints h2 e1]
      rfl
    · cases q
theorem allS : CallS K (rAll K) allM := by
  intro p c F H l vs Q' Q ok r h t
  unfold allM at h
  split at h
  · split at h
    · rename_i bs e
      obtain ⟨v, rfl, a, xs, rfl, h1, r1⟩ := r.one
      exact ⟨a, bs, rfl, by rw [← r1.bls e]; exact ok_lst ok h1, tellBl ok t h⟩
    · exact h.elim
  · exact h.elim
theorem anyS : CallS K (rAny K) anyM := by
  intro p c F H l vs Q' Q ok r h t
  unfold anyM at h
  split at h
  · split at h
    · rename_i bs e
      obtain ⟨v, rfl, a, xs, rfl, h1, r1⟩ := r.one
      exact ⟨a, bs, rfl, by rw [← r1.bls e]; exact ok_lst ok h1, tellBl ok t h⟩
    · exact h.elim
  · exact h.elim
theorem sumS : CallS K (rSum K) sumM := by
  intro p c F H l vs Q' Q ok r h t
  unfold sumM at h
  split at h
  · split at h
    · rename_i bs e
      obtain ⟨v, rfl, a, xs, rfl, h1, r1⟩ := r.one
      exact ⟨a, bs, rfl, by rw [← r1.ints e]; exact ok_lst ok h1, tellI ok t h⟩
    · exact h.elim
  · exact h.elim
end

/-! ### isinstance -/
section
variable {K : PySem.W.Frag}
theorem Rep.tyX {p : Pn} {c : Nat} {F H : Hp} (ok : Ok3 p c F H) {d : D} {v : V} {n : String} (h : Rep K p F d v) (e : tyName d = some n) : TyX K H v (.type n) := by
  cases d with
  | non => cases e; cases (show _ = V.non from h); exact .base .non
  | bl _ => cases e; cases (show _ = V.bl _ from h); exact .base (.bl _)
  | int _ => cases e; cases (show _ = V.int _ from h); exact .base (.int _)
  | str _ => cases e; cases (show _ = V.str _ from h); exact .base (.str _)
  | tup l =>
    cases e
    obtain ⟨a, xs, rfl, h1, _⟩ := h
    rcases ok.sqT h1 with (h | ⟨o, h⟩) | ⟨o, its, n, h, hc, _⟩
    · exact .base (.tup h)
    · exact .fTuple h
    · exact .kTuple h hc
  | lst l =>
    cases e
    obtain ⟨a, xs, rfl, h1, _⟩ := h
    exact .base (.lst (ok.sub _ _ h1))
  | dic kvs =>
    cases e
    obtain ⟨a, rfl, h1⟩ := h
    exact .base (.dK (ok.sub _ _ h1))
  | ty _ => cases e
  | rf _ => cases e
  | lam _ _ _ => cases e
  | exc _ _ => cases e
  | clo _ _ => cases e
  | dct _ _ => cases e
  | pot => cases e
  | scr _ => cases e
theorem kits : (kitB "NoneType" "int" = some false ∧ kitB "NoneType" "bool" = some false ∧ kitB "NoneType" "str" = some false ∧ kitB "NoneType" "tuple" = some false ∧ kitB "NoneType" "list" = some false) ∧
    (kitB "bool" "int" = some true ∧ kitB "bool" "bool" = some true ∧ kitB "bool" "str" = some false ∧ kitB "bool" "tuple" = some false ∧ kitB "bool" "list" = some false) ∧
    (kitB "int" "int" = some true ∧ kitB "int" "bool" = some false ∧ kitB "int" "str" = some false ∧ kitB "int" "tuple" = some false ∧ kitB "int" "list" = some false) ∧
    (kitB "str" "int" = some false ∧ kitB "str" "bool" = some false ∧ kitB "str" "str" = some true ∧ kitB "str" "tuple" = some false ∧ kitB "str" "list" = some false) ∧
    (kitB "tuple" "int" = some false ∧ kitB "tuple" "bool" = some false ∧ kitB "tuple" "str" = some false ∧ kitB "tuple" "tuple" = some true ∧ kitB "tuple" "list" = some false) ∧
    (kitB "list" "int" = some false ∧ kitB "list" "bool" = some false ∧ kitB "list" "str" = some false ∧ kitB "list" "tuple" = some false ∧ kitB "list" "list" = some true) ∧
    (kitB "dict" "int" = some false ∧ kitB "dict" "bool" = some false ∧ kitB "dict" "str" = some false ∧ kitB "dict" "tuple" = some false ∧ kitB "dict" "list" = some false) := by decide +kernel
theorem kit_isi {x : D} {n t : String} (e : tyName x = some n) (ht : t = "int" ∨ t = "bool" ∨ t = "str" ∨ t = "tuple" ∨ t = "list") : kitB n t = some (isiD x t) := by
  obtain ⟨⟨a1, a2, a3, a4, a5⟩, ⟨b1, b2, b3, b4, b5⟩, ⟨c1, c2, c3, c4, c5⟩, ⟨d1, d2, d3, d4, d5⟩, ⟨e1, e2, e3, e4, e5⟩, ⟨f1, f2, f3, f4, f5⟩, ⟨g1, g2, g3, g4, g5⟩⟩ := kits
  cases x <;> cases e <;> rcases ht with rfl | rfl | rfl | rfl | rfl <;> (simp only [isiD]; assumption)
theorem isiS : CallS K (rIsi K) isiM := by
  intro p c F H l vs Q' Q ok r h t
  unfold isiM at h
  split at h
  · rename_i x ty
    obtain ⟨h1, h2, h⟩ := h
    obtain ⟨v, u, rfl, r1, r2⟩ := r.two
    cases (show u = .ty ty from r2)
    obtain ⟨n, e⟩ := Option.isSome_iff_exists.mp h1
    exact ⟨v, .ty ty, .type n, .type ty, isiD x ty, rfl, .ty ty, r1.tyX ok e, kit_ty (kit_isi e h2), tellBl ok t h⟩
  · exact h.elim
end
end L3

/-! L3, the rules for statements, targets, loops, comprehensions, defs. -/
namespace L3
open PySem PySem.Spec PyProof.Rows L2
/-- the state a statement meets; F0, H0: the def's entry -/
structure SSt (K : PySem.W.Frag) (p : Pn) (c : Nat) (ρ : Env3) (σ : L2.St) (F H F0 H0 : Hp) : Prop where
  ok : Ok3 p c F H
  ent : Fwd p F0 H0 F H
  len : ρ.length = σ.length
  val : ∀ (i : Nat) (d : D), ρ[i]? = some (SV.val d) → ∃ v, σ[i]? = some (some v) ∧ Rep K p F d v
  own : ∀ (i : Nat) (l : List D), ρ[i]? = some (SV.own l) → ∃ a xs, σ[i]? = some (some (V.ref a)) ∧ H a = some (.lst xs) ∧ F a = none ∧ H0 a = none ∧ p.pot ≠ some a ∧ RepL K p F l xs
  sep : ∀ (i j : Nat) (l m : List D) (a : Addr), ρ[i]? = some (SV.own l) → ρ[j]? = some (SV.own m) → σ[i]? = some (some (V.ref a)) → σ[j]? = some (some (V.ref a)) → i = j
  dic : ∀ (i : Nat) (ks : List Key) (l : List D), ρ[i]? = some (SV.dic ks l) → ∃ (a : Addr) (kvs : List (Key × V)), σ[i]? = some (some (V.ref a)) ∧ H a = some (.dK kvs) ∧ F a = none ∧ H0 a = none ∧ p.pot ≠ some a ∧ kvs.map (·.1) = ks ∧ RepL K p F l (kvs.map (·.2))
  sepd : ∀ (i j : Nat) (ks ks' : List Key) (l m : List D) (a : Addr), ρ[i]? = some (SV.dic ks l) → ρ[j]? = some (SV.dic ks' m) → σ[i]? = some (some (V.ref a)) → σ[j]? = some (some (V.ref a)) → i = j
theorem get3_map (f : SV → Option D) : ∀ (ρ : Env3) (i : Nat) (d : D), get3 (ρ.map f) i = some d ↔ ∃ s, ρ[i]? = some s ∧ f s = some d
  | [], i, d => by simp [get3]
  | x :: r, 0, d => by simp [get3]
  | x :: r, i + 1, d => by
    have := get3_map f r i d
    simpa [get3] using this
section
variable {K : PySem.W.Frag} {p : Pn} {c c' : Nat} {ρ : Env3} {σ : L2.St} {F H F0 H0 F' H' : Hp}
theorem SSt.e (s : SSt K p c ρ σ F H F0 H0) : ESt K p c (ρ.map vA) σ F H where
  ok := s.ok
  slot := fun i d e => by
    obtain ⟨x, e1, e2⟩ := (get3_map vA ρ i d).mp e
    cases x with
    | val d' => cases e2; exact s.val i _ e1
    | own l => cases e2
    | dic _ _ => cases e2
    | no => cases e2
  len := by rw [List.length_map, s.len]
theorem SSt.fwd (s : SSt K p c ρ σ F H F0 H0) (w : Fwd p F H F' H') (ok : Ok3 p c' F' H') : SSt K p c' ρ σ F' H' F0 H0 where
  ok := ok
  ent := s.ent.trans w
  len := s.len
  val := fun i d e => let ⟨v, a, b⟩ := s.val i d e; ⟨v, a, b.mono w.frz⟩
  own := fun i l e => by
    obtain ⟨a, xs, e1, e2, e3, e4, e5, r⟩ := s.own i l e
    refine ⟨a, xs, e1, w.keep a _ e2 e5 (fun _ z => nomatch z), ?_, e4, e5, r.mono w.frz⟩
    cases q : F' a with
    | none => rfl
    | some u =>
      rcases w.new a u q with z | z
      · rw [e3] at z; cases z
      · rw [e2] at z; cases z
  sep := s.sep
  dic := fun i ks l e => by
    obtain ⟨a, xs, e1, e2, e3, e4, e5, e6, r⟩ := s.dic i ks l e
    refine ⟨a, xs, e1, w.keep a _ e2 e5 (fun _ z => nomatch z), ?_, e4, e5, e6, r.mono w.frz⟩
    cases q : F' a with
    | none => rfl
    | some u =>
      rcases w.new a u q with z | z
      · rw [e3] at z; cases z
      · rw [e2] at z; cases z
  sepd := s.sepd
theorem set_get {α : Type} {l : List α} {i j : Nat} {x y : α} (h : (l.set i x)[j]? = some y) : (j = i ∧ i < l.length ∧ y = x) ∨ (j ≠ i ∧ l[j]? = some y) := by
  by_cases e : i = j
  · subst e
    by_cases hl : i < l.length
    · rw [List.getElem?_set_self hl] at h
      exact .inl ⟨rfl, hl, (Option.some.inj h).symm⟩
    · rw [List.getElem?_eq_none (by simpa using hl)] at h
      cases h
  · rw [List.getElem?_set_ne e] at h
    exact .inr ⟨fun z => e z.symm, h⟩
theorem SSt.set (s : SSt K p c ρ σ F H F0 H0) (i : Nat) {d : D} {v : V} (r : Rep K p F d v) : SSt K p c (ρ.set i (SV.val d)) (σ.set i (some v)) F H F0 H0 where
  ok := s.ok
  ent := s.ent
  len := by rw [List.length_set, List.length_set, s.len]
  val := fun j d' e => by
    rcases set_get e with ⟨rfl, hl, q⟩ | ⟨n, q⟩
    · cases q
      exact ⟨v, List.getElem?_set_self (by rw [← s.len]; exact hl), r⟩
    · rw [List.getElem?_set_ne (Ne.symm n)]
      exact s.val j d' q
  own := fun j l e => by
    rcases set_get e with ⟨rfl, hl, q⟩ | ⟨n, q⟩
    · cases q
    · rw [List.getElem?_set_ne (Ne.symm n)]
      exact s.own j l q
  sep := fun j k l m a e1 e2 e3 e4 => by
    rcases set_get e1 with ⟨rfl, hl, q⟩ | ⟨n, q⟩
    · cases q
    rcases set_get e2 with ⟨rfl, hl, q2⟩ | ⟨n2, q2⟩
    · cases q2
    rw [List.getElem?_set_ne (Ne.symm n)] at e3
    rw [List.getElem?_set_ne (Ne.symm n2)] at e4
    exact s.sep j k l m a q q2 e3 e4
  dic := fun j ks l e => by
    rcases set_get e with ⟨rfl, hl, q⟩ | ⟨n, q⟩
    · cases q
    · rw [List.getElem?_set_ne (Ne.symm n)]
      exact s.dic j ks l q
  sepd := fun j k ks ks' l m a e1 e2 e3 e4 => by
    rcases set_get e1 with ⟨rfl, hl, q⟩ | ⟨n, q⟩
    · cases q
    rcases set_get e2 with ⟨rfl, hl, q2⟩ | ⟨n2, q2⟩
    · cases q2
    rw [List.getElem?_set_ne (Ne.symm n)] at e3
    rw [List.getElem?_set_ne (Ne.symm n2)] at e4
    exact s.sepd j k ks ks' l m a q q2 e3 e4
/-- a new list of its own -/
theorem SSt.setOwn (s : SSt K p c ρ σ F H F0 H0) (i : Nat) {l : List D} {a : Addr} {xs : List V} (h1 : H a = some (.lst xs)) (h2 : F a = none) (h3 : H0 a = none) (h4 : p.pot ≠ some a) (r : RepL K p F l xs)
    (h5 : ∀ (j : Nat) (m : List D), ρ[j]? = some (SV.own m) → σ[j]? ≠ some (some (V.ref a))) : SSt K p c (ρ.set i (SV.own l)) (σ.set i (some (.ref a))) F H F0 H0 where
  ok := s.ok
  ent := s.ent
  len := by rw [List.length_set, List.length_set, s.len]
  val := fun j d' e => by
    rcases set_get e with ⟨rfl, hl, q⟩ | ⟨n, q⟩
    · cases q
    · rw [List.getElem?_set_ne (Ne.symm n)]
      exact s.val j d' q
  own := fun j l e => by
    rcases set_get e with ⟨rfl, hl, q⟩ | ⟨n, q⟩
    · cases q
      exact ⟨a, xs, List.getElem?_set_self (by rw [← s.len]; exact hl), h1, h2, h3, h4, r⟩
    · rw [List.getElem?_set_ne (Ne.symm n)]
      exact s.own j l q
  sep := fun j k l m b e1 e2 e3 e4 => by
    rcases set_get e1 with ⟨rfl, hl, q⟩ | ⟨n, q⟩
    · rcases set_get e2 with ⟨rfl, hl, q2⟩ | ⟨n2, q2⟩
      · rfl
      · rw [List.getElem?_set_self (by rw [← s.len]; exact hl)] at e3
        rw [List.getElem?_set_ne (Ne.symm n2)] at e4
        cases e3
        exact absurd e4 (h5 k m q2)
    · rw [List.getElem?_set_ne (Ne.symm n)] at e3
      rcases set_get e2 with ⟨rfl, hl, q2⟩ | ⟨n2, q2⟩
      · rw [List.getElem?_set_self (by rw [← s.len]; exact hl)] at e4
        cases e4
        exact absurd e3 (h5 j l q)
      · rw [List.getElem?_set_ne (Ne.symm n2)] at e4
        exact s.sep j k l m b q q2 e3 e4
  dic := fun j ks l e => by
    rcases set_get e with ⟨rfl, hl, q⟩ | ⟨n, q⟩
    · cases q
    · rw [List.getElem?_set_ne (Ne.symm n)]
      exact s.dic j ks l q
  sepd := fun j k ks ks' l m a e1 e2 e3 e4 => by
    rcases set_get e1 with ⟨rfl, hl, q⟩ | ⟨n, q⟩
    · cases q
    rcases set_get e2 with ⟨rfl, hl, q2⟩ | ⟨n2, q2⟩
    · cases q2
    rw [List.getElem?_set_ne (Ne.symm n)] at e3
    rw [List.getElem?_set_ne (Ne.symm n2)] at e4
    exact s.sepd j k ks ks' l m a q q2 e3 e4
theorem tabs_put {p : Pn} {H : Hp} {a : Addr} {xs ys : List V} (t : Tab3 p H) (h : H a = some (.lst xs)) : Tab3 p (upd H a (.lst ys)) := ⟨fun q hq => by
  obtain ⟨ps, h1, h2, h3⟩ := t.tabs q hq
  refine ⟨ps, by rw [upd_ne (ne_of h1 h (fun z => nomatch z))]; exact h1, h2, fun pos cv hc => ?_⟩
  obtain ⟨c, e1, e2⟩ := h3 pos cv hc
  exact ⟨c, e1, by rw [upd_ne (ne_of e2 h (fun z => nomatch z))]; exact e2⟩, fun q hq => by
  have e2 := t.cod q hq
  rw [upd_ne (ne_of e2 h (fun z => nomatch z))]; exact e2⟩
/-- an own list is changed -/
theorem SSt.put (s : SSt K p c ρ σ F H F0 H0) {i : Nat} {l l' : List D} {a : Addr} {xs' : List V} (hi : ρ[i]? = some (SV.own l)) (ha : σ[i]? = some (some (V.ref a))) (r : RepL K p F l' xs') :
    SSt K p c (ρ.set i (SV.own l')) σ F (upd H a (.lst xs')) F0 H0 := by
  obtain ⟨a', xs, e1, e2, e3, e4, e5, r0⟩ := s.own i l hi
  rw [ha] at e1
  cases e1
  have neF : ∀ b o, F b = some o → b ≠ a := fun b o h => ne_of_none h e3
  refine ⟨⟨fun b o h => by rw [upd_ne (neF b o h)]; exact s.ok.sub b o h, fun b hb => ?_, tabs_put s.ok.tab e2, s.ok.nt⟩, ⟨s.ent.frz, fun b o h n t => by rw [upd_ne (ne_of_none h e4)]; exact s.ent.keep b o h n t, s.ent.new, fun b h => ?_⟩, by rw [List.length_set, s.len], fun j d e => ?_, fun j m e => ?_, fun j k m m' b f1 f2 f3 f4 => ?_, fun j ks m e => ?_, fun j k ks ks' m m' b f1 f2 f3 f4 => ?_⟩
  · obtain ⟨⟨x, y, z, q, w⟩, n⟩ := s.ok.pot b hb
    have ne : b ≠ a := fun e => e5 (e ▸ hb)
    exact ⟨⟨x, y, z, by rw [upd_ne ne]; exact q, w⟩, n⟩
  · by_cases e : b = a
    · subst e; exact e4
    · rw [upd_ne e] at h; exact s.ent.there b h
  · rcases set_get e with ⟨rfl, hl, q⟩ | ⟨n, q⟩
    · cases q
    · exact s.val j d q
  · rcases set_get e with ⟨rfl, hl, q⟩ | ⟨n, q⟩
    · cases q
      exact ⟨a, xs', ha, upd_same, e3, e4, e5, r⟩
    · obtain ⟨b, ys, g1, g2, g3, g4, g5, g6⟩ := s.own j m q
      have ne : b ≠ a := fun e => n (s.sep j i m l a q hi (e ▸ g1) ha)
      exact ⟨b, ys, g1, by rw [upd_ne ne]; exact g2, g3, g4, g5, g6⟩
  · have get : ∀ {j : Nat} {m : List D}, (ρ.set i (SV.own l'))[j]? = some (SV.own m) → ∃ m', ρ[j]? = some (SV.own m') := fun {j m} e => by
      rcases set_get e with ⟨rfl, hl, q⟩ | ⟨n, q⟩
      · exact ⟨l, hi⟩
      · exact ⟨m, q⟩
    obtain ⟨_, q1⟩ := get f1
    obtain ⟨_, q2⟩ := get f2
    exact s.sep j k _ _ b q1 q2 f3 f4
  · rcases set_get e with ⟨rfl, hl, q⟩ | ⟨n, q⟩
    · cases q
    · obtain ⟨b, ys, g1, g2, g3, g4, g5, g6, g7⟩ := s.dic j ks m q
      have ne : b ≠ a := fun e => by rw [e, e2] at g2; cases g2
      exact ⟨b, ys, g1, by rw [upd_ne ne]; exact g2, g3, g4, g5, g6, g7⟩
  · rcases set_get f1 with ⟨rfl, hl, q⟩ | ⟨n, q⟩
    · cases q
    rcases set_get f2 with ⟨rfl, hl, q2⟩ | ⟨n2, q2⟩
    · cases q2
    exact s.sepd j k ks ks' m m' b q q2 f3 f4
/-- an own list is given away -/
theorem SSt.frz (s : SSt K p c ρ σ F H F0 H0) (i : Nat) : ∃ F', SSt K p c (frz3 i ρ) σ F' H F0 H0 := by
  unfold frz3
  split
  · rename_i l hi
    obtain ⟨a, xs, e1, e2, e3, e4, e5, r0⟩ := s.own i l hi
    have neF : ∀ b o, F b = some o → b ≠ a := fun b o h => ne_of_none h e3
    have up : ∀ b o, F b = some o → upd F a (.lst xs) b = some o := fun b o h => by rw [upd_ne (neF b o h)]; exact h
    refine ⟨upd F a (.lst xs), ⟨fun b o h => ?_, fun b hb => ?_, s.ok.tab, nt_upd s.ok.nt a xs e3⟩, ⟨fun b o h => up b o (s.ent.frz b o h), s.ent.keep, fun b o h => ?_, s.ent.there⟩, by rw [List.length_set, s.len], fun j d e => ?_, fun j m e => ?_, fun j k m m' b f1 f2 f3 f4 => ?_, fun j ks m e => ?_, fun j k ks ks' m m' b f1 f2 f3 f4 => ?_⟩
    · by_cases e : b = a
      · subst e; rw [upd_same] at h; cases h; exact e2
      · rw [upd_ne e] at h; exact s.ok.sub b o h
    · obtain ⟨q, n⟩ := s.ok.pot b hb
      have ne : b ≠ a := fun e => e5 (e ▸ hb)
      exact ⟨q, by rw [upd_ne ne]; exact n⟩
    · by_cases e : b = a
      · subst e; exact .inr e4
      · rw [upd_ne e] at h; exact s.ent.new b o h
    · rcases set_get e with ⟨rfl, hl, q⟩ | ⟨n, q⟩
      · cases q
        exact ⟨_, e1, a, xs, rfl, upd_same, r0.mono up⟩
      · obtain ⟨v, g1, g2⟩ := s.val j d q
        exact ⟨v, g1, g2.mono up⟩
    · rcases set_get e with ⟨rfl, hl, q⟩ | ⟨n, q⟩
      · cases q
      · obtain ⟨b, ys, g1, g2, g3, g4, g5, g6⟩ := s.own j m q
        have ne : b ≠ a := fun e => n (s.sep j i m l a q hi (e ▸ g1) e1)
        exact ⟨b, ys, g1, g2, by rw [upd_ne ne]; exact g3, g4, g5, g6.mono up⟩
    · rcases set_get f1 with ⟨rfl, hl, q⟩ | ⟨n, q⟩
      · cases q
      rcases set_get f2 with ⟨rfl, hl, q2⟩ | ⟨n2, q2⟩
      · cases q2
      exact s.sep j k m m' b q q2 f3 f4
    · rcases set_get e with ⟨rfl, hl, q⟩ | ⟨n, q⟩
      · cases q
      · obtain ⟨b, ys, g1, g2, g3, g4, g5, g6, g7⟩ := s.dic j ks m q
        have ne : b ≠ a := fun e => by rw [e, e2] at g2; cases g2
        exact ⟨b, ys, g1, g2, by rw [upd_ne ne]; exact g3, g4, g5, g6, g7.mono up⟩
    · rcases set_get f1 with ⟨rfl, hl, q⟩ | ⟨n, q⟩
      · cases q
      rcases set_get f2 with ⟨rfl, hl, q2⟩ | ⟨n2, q2⟩
      · cases q2
      exact s.sepd j k ks ks' m m' b q q2 f3 f4
  · exact ⟨F, s⟩
open Classical in
/-- all own lists lent to an expression -/
theorem SSt.lend (s : SSt K p c ρ σ F H F0 H0) : ∃ F2, ESt K p c (ρ.map vB) σ F2 H ∧ Fwd p F0 H0 F2 H ∧
    ∀ c' F' H', Fwd p F2 H F' H' → Ok3 p c' F' H' → ∃ F3, SSt K p c' ρ σ F3 H' F0 H0 ∧ Fwd p F H F3 H' ∧ (∀ d v, noLst d = true → Rep K p F' d v → Rep K p F3 d v) ∧ (∀ l xs, noLstL l = true → RepL K p F' l xs → RepL K p F3 l xs) ∧ ∀ b, F' b = none → F3 b = none := by
  let o : Addr → Prop := fun b => (∃ (i : Nat) (l : List D), ρ[i]? = some (SV.own l) ∧ σ[i]? = some (some (V.ref b))) ∨ ∃ (i : Nat) (ks : List Key) (l : List D), ρ[i]? = some (SV.dic ks l) ∧ σ[i]? = some (some (V.ref b))
  have oH : ∀ b, o b → ∃ u, H b = some u ∧ F b = none ∧ H0 b = none ∧ p.pot ≠ some b ∧ ((∃ xs, u = .lst xs) ∨ ∃ kvs, u = .dK kvs) := fun b hb => by
    rcases hb with ⟨i, l, e1, e2⟩ | ⟨i, ks, l, e1, e2⟩
    · obtain ⟨a, xs, g1, g2, g3, g4, g5, _⟩ := s.own i l e1
      rw [e2] at g1
      cases g1
      exact ⟨_, g2, g3, g4, g5, .inl ⟨xs, rfl⟩⟩
    · obtain ⟨a, xs, g1, g2, g3, g4, g5, _⟩ := s.dic i ks l e1
      rw [e2] at g1
      cases g1
      exact ⟨_, g2, g3, g4, g5, .inr ⟨xs, rfl⟩⟩
  let F2 : Hp := fun b => if o b then H b else F b
  have F2o : ∀ b, o b → F2 b = H b := fun b h => if_pos h
  have F2n : ∀ b, ¬ o b → F2 b = F b := fun b h => if_neg h
  have up : ∀ b u, F b = some u → F2 b = some u := fun b u h => by
    by_cases q : o b
    · obtain ⟨_, _, z, _⟩ := oH b q
      rw [h] at z; cases z
    · rw [F2n b q]; exact h
  have ok2 : Ok3 p c F2 H := ⟨fun b u h => by
    by_cases q : o b
    · rw [F2o b q] at h; exact h
    · rw [F2n b q] at h; exact s.ok.sub b u h, fun b hb => by
      obtain ⟨q, n⟩ := s.ok.pot b hb
      refine ⟨q, ?_⟩
      by_cases z : o b
      · obtain ⟨_, _, _, _, e, _⟩ := oH b z
        exact absurd hb e
      · rw [F2n b z]; exact n, s.ok.tab, ⟨fun b ps h => by
      by_cases z : o b
      · rw [F2o b z] at h
        obtain ⟨ys, z1, _, _, _, zz⟩ := oH b z
        rw [z1] at h; cases h
        rcases zz with ⟨_, q⟩ | ⟨_, q⟩ <;> cases q
      · rw [F2n b z] at h; exact s.ok.nt.t b ps h, fun b u h => up b u (s.ok.nt.f b u h)⟩⟩
  refine ⟨F2, ⟨ok2, fun i d e => ?_, by rw [List.length_map, s.len]⟩, ⟨fun b u h => up b u (s.ent.frz b u h), s.ent.keep, fun b u h => ?_, s.ent.there⟩, fun c' F' H' w ok' => ?_⟩
  · obtain ⟨x, e1, e2⟩ := (get3_map vB ρ i d).mp e
    cases x with
    | no => cases e2
    | val d' =>
      cases e2
      obtain ⟨v, g1, g2⟩ := s.val i _ e1
      exact ⟨v, g1, g2.mono up⟩
    | own l =>
      cases e2
      obtain ⟨a, xs, g1, g2, g3, g4, g5, g6⟩ := s.own i l e1
      exact ⟨_, g1, a, xs, rfl, by rw [F2o a (.inl ⟨i, l, e1, g1⟩)]; exact g2, g6.mono up⟩
    | dic ks l =>
      cases e2
      obtain ⟨a, xs, g1, g2, g3, g4, g5, g6, g7⟩ := s.dic i ks l e1
      exact ⟨_, g1, a, xs, rfl, by rw [F2o a (.inr ⟨i, ks, l, e1, g1⟩)]; exact g2, g6, g7.mono up⟩
  · by_cases q : o b
    · obtain ⟨_, _, _, z, _⟩ := oH b q
      exact .inr z
    · rw [F2n b q] at h; exact s.ent.new b u h
  · let F3 : Hp := fun b => if o b then none else F' b
    have F3o : ∀ b, o b → F3 b = none := fun b h => if_pos h
    have F3n : ∀ b, ¬ o b → F3 b = F' b := fun b h => if_neg h
    have up3 : ∀ b u, F b = some u → F3 b = some u := fun b u h => by
      by_cases q : o b
      · obtain ⟨_, _, z, _⟩ := oH b q
        rw [h] at z; cases z
      · rw [F3n b q]; exact w.frz b u (up b u h)
    have w3 : Fwd p F H F3 H' := ⟨up3, w.keep, fun b u h => by
      by_cases q : o b
      · rw [F3o b q] at h; cases h
      · rw [F3n b q] at h
        rcases w.new b u h with z | z
        · rw [F2n b q] at z; exact .inl z
        · exact .inr z, w.there⟩
    have ok3 : Ok3 p c' F3 H' := ⟨fun b u h => by
      by_cases q : o b
      · rw [F3o b q] at h; cases h
      · rw [F3n b q] at h; exact ok'.sub b u h, fun b hb => by
        obtain ⟨q, n⟩ := ok'.pot b hb
        refine ⟨q, ?_⟩
        by_cases z : o b
        · exact F3o b z
        · rw [F3n b z]; exact n, ok'.tab, ⟨fun b ps h => by
        by_cases z : o b
        · rw [F3o b z] at h; cases h
        · rw [F3n b z] at h; exact ok'.nt.t b ps h, fun b u h => up3 b u (s.ok.nt.f b u h)⟩⟩
    have tups : ∀ a xs, SqT K F' a xs → SqT K F3 a xs := fun a xs h => by
      have no : ∀ u, (∀ ys, u ≠ HO.lst ys) → (∀ ys, u ≠ HO.dK ys) → F' a = some u → F3 a = some u := fun u hu hu2 e => by
        rw [F3n a fun q => ?_]
        · exact e
        · obtain ⟨u', z1, _, _, z4, zz⟩ := oH a q
          have := w.keep a _ z1 z4 (fun _ z => by rcases zz with ⟨_, rfl⟩ | ⟨_, rfl⟩ <;> exact nomatch z)
          rw [ok'.sub a u e] at this
          rcases zz with ⟨ys, rfl⟩ | ⟨ys, rfl⟩
          · exact hu ys (Option.some.inj this)
          · exact hu2 ys (Option.some.inj this)
      rcases h with (h | ⟨u, h⟩) | h
      · exact .inl (.inl (no _ (fun _ z => nomatch z) (fun _ z => nomatch z) h))
      · exact .inl (.inr ⟨u, no _ (fun _ z => nomatch z) (fun _ z => nomatch z) h⟩)
      · exact .inr h
    have noO : ∀ a o, (∀ ys, o ≠ HO.lst ys) → (∀ ys, o ≠ HO.dK ys) → F' a = some o → F3 a = some o := fun a u hu hu2 e => by
      rw [F3n a fun q => ?_]
      · exact e
      · obtain ⟨u', z1, _, _, z4, zz⟩ := oH a q
        have := w.keep a _ z1 z4 (fun _ z => by rcases zz with ⟨_, rfl⟩ | ⟨_, rfl⟩ <;> exact nomatch z)
        rw [ok'.sub a u e] at this
        rcases zz with ⟨ys, rfl⟩ | ⟨ys, rfl⟩
        · exact hu ys (Option.some.inj this)
        · exact hu2 ys (Option.some.inj this)
    exact ⟨F3, s.fwd w3 ok3, w3, fun d v n r => r.tups tups noO n, fun l xs n r => r.tups tups noO n, fun b h => by
      by_cases q : o b
      · exact F3o b q
      · rw [F3n b q]; exact h⟩
end
structure TellS (K : PySem.W.Frag) (p : Pn) (F0 H0 : Hp) (E : End3) (D : Ends) : Prop where
  nx : ∀ c ρ σ F H, SSt K p c ρ σ F H F0 H0 → E.nx ρ c → D.nx σ H
  bk : ∀ c ρ σ F H, SSt K p c ρ σ F H F0 H0 → E.bk ρ c → D.bk σ H
  ct : ∀ c ρ σ F H, SSt K p c ρ σ F H F0 H0 → E.ct ρ c → D.ct σ H
  rt : Tell K p F0 H0 E.rt D.rt
def tS (K : PySem.W.Frag) (g : FS) : TS := fun D σ H => ∃ p c ρ F F0 H0 E, SSt K p c ρ σ F H F0 H0 ∧ g E ρ c ∧ TellS K p F0 H0 E D
abbrev SX (X : Cx) (st : Stmt) (g : FS) : Prop := PS X st (tS X.K g)
abbrev BX (X : Cx) (sts : List Stmt) (g : FS) : Prop := PSs X sts (tS X.K g)
/-- a target; is: the slots it stores -/
structure GX (X : Cx) (tg : Expr) (is : List Nat) (g : FG) : Prop where
  ex : ∃ gl, PG X tg gl ∧ ∀ p c ρ σ F H F0 H0 d v k kk, SSt X.K p c ρ σ F H F0 H0 → Rep X.K p F d v → g d ρ k →
    (∀ ρ' σ', SSt X.K p c ρ' σ' F H F0 H0 → σ'.length = σ.length → (∀ j, j ∉ is → σ'[j]? = σ[j]?) → k ρ' → kk σ' H) → gl v σ H kk
structure GsX (X : Cx) (tgs : List Expr) (is : List Nat) (g : FGs) : Prop where
  ex : ∃ gl, PGs X tgs gl ∧ ∀ p c ρ σ F H F0 H0 d v k kk, SSt X.K p c ρ σ F H F0 H0 → RepL X.K p F d v → g d ρ k →
    (∀ ρ' σ', SSt X.K p c ρ' σ' F H F0 H0 → σ'.length = σ.length → (∀ j, j ∉ is → σ'[j]? = σ[j]?) → k ρ' → kk σ' H) → gl v σ H kk
section
variable {X : Cx} {pos : Pos}
theorem gx_name (i : Nat) {x : Str} (hN : X.N.Nodup) (hi : X.N[i]? = some x := by rfl) (hx : Loc X.env.scope x := by first | exact Or.inl rfl | exact Or.inr rfl) (hf : X.fn x = true ∨ X.env.scope.names.lookup x = some .local := by first | exact .inl rfl | exact .inr rfl) : GX X (.Name x pos) [i] (gN i) :=
  ⟨gName i, pg_name hN hi hx hf, fun p c ρ σ F H F0 H0 d v k kk s r h q => q _ _ (s.set i r) (List.length_set ..) (fun j hj => List.getElem?_set_ne (fun e => hj (by simp [e]))) h⟩
theorem gsx_nil : GsX X [] [] gsNil := ⟨gNil, pgs_nil, fun p c ρ σ F H F0 H0 d v k kk s r h q => by
  unfold gsNil at h
  split at h
  · cases r
    exact ⟨rfl, q _ _ s rfl (fun _ _ => rfl) h⟩
  · exact h.elim⟩
theorem gsx_cons {e : Expr} {es : List Expr} {is js : List Nat} {g : FG} {gs : FGs} (h1 : GX X e is g) (h2 : GsX X es js gs)
    (hs : (assignEach (e :: es) X.env).map (·.2) = assign e X.env :: (assignEach es X.env).map (·.2) := by rfl) : GsX X (e :: es) (is ++ js) (gsCons g gs) := by
  obtain ⟨g1, p1, k1⟩ := h1.ex
  obtain ⟨g2, p2, k2⟩ := h2.ex
  refine ⟨gCons g1 g2, pgs_cons p1 p2 hs, fun p c ρ σ F H F0 H0 d v k kk s r h q => ?_⟩
  unfold gsCons at h
  split at h
  · rename_i d ds
    obtain ⟨x, xr, rfl, r1, r2⟩ := r
    refine ⟨x, xr, rfl, k1 p c ρ σ F H F0 H0 _ _ _ _ s r1 h fun ρ' σ' s' l1 e1 h' => ?_⟩
    refine k2 p c ρ' σ' F H F0 H0 _ _ _ _ s' r2 h' fun ρ2 σ2 s2 l2 e2 h2 => ?_
    exact q ρ2 σ2 s2 (l2.trans l1) (fun j hj => (e2 j fun z => hj (List.mem_append_right _ z)).trans (e1 j fun z => hj (List.mem_append_left _ z))) h2
  · exact h.elim
/-! ### statements -/
variable {st : Stmt} {rest : List Stmt} {e : Expr} {fe : FE} {g a b : FS}
theorem bx_nil : BX X [] sNil := PSs.imp pss_nil fun D σ H ⟨p, c, ρ, F, F0, H0, E, s, h, t⟩ => t.nx c ρ σ F H s h
theorem bx_cons (h1 : SX X st a) (h2 : BX X rest b) : BX X (st :: rest) (sSeq a b) := PSs.imp (pss_cons h1 h2) fun D σ H ⟨p, c, ρ, F, F0, H0, E, s, h, t⟩ =>
  ⟨p, c, ρ, F, F0, H0, _, s, h, fun c1 ρ1 σ1 F1 H1 s1 q => ⟨p, c1, ρ1, F1, F0, H0, E, s1, q, t⟩, t.bk, t.ct, t.rt⟩
theorem bx_one (h1 : SX X st a) : BX X [st] a := pss_one h1
theorem bx_never {sts : List Stmt} : BX X sts sNever := PSs.imp pss_never fun D σ H ⟨p, c, ρ, F, F0, H0, E, s, h, t⟩ => h.elim
theorem sx_never : SX X st sNever := PS.imp ps_never fun D σ H ⟨p, c, ρ, F, F0, H0, E, s, h, t⟩ => h.elim
theorem sx_pass : SX X (.Pass pos) sNil := PS.imp ps_pass fun D σ H ⟨p, c, ρ, F, F0, H0, E, s, h, t⟩ => t.nx c ρ σ F H s h
theorem sx_break : SX X (.Break pos) sBreak := PS.imp ps_break fun D σ H ⟨p, c, ρ, F, F0, H0, E, s, h, t⟩ => t.bk c ρ σ F H s h
theorem sx_cont : SX X (.Continue pos) sCont := PS.imp ps_continue fun D σ H ⟨p, c, ρ, F, F0, H0, E, s, h, t⟩ => t.ct c ρ σ F H s h
theorem sx_frz (i : Nat) (h : SX X st g) : SX X st (sFrz i g) := PS.imp h fun D σ H ⟨p, c, ρ, F, F0, H0, E, s, h, t⟩ =>
  let ⟨F', s'⟩ := s.frz i
  ⟨p, c, _, F', F0, H0, E, s', h, t⟩
theorem sx_asg {tg : Expr} {is : List Nat} {gg : FG} (he : EX X e fe) (hg : GX X tg is gg) (hs : swapsWithSole [tg] e pos.line X.env = pure false := by rfl) (hw : swappedStores [tg] e X.env = pure none := by rfl)
    (h1 : (assignEach [tg] X.env).map (·.2) = [assign tg X.env] := by rfl) : SX X (.Assign [tg] e pos) (sAsg gg fe) := by
  obtain ⟨gl, pg, kg⟩ := hg.ex
  refine PS.imp (ps_asg he pg hs hw h1) fun D σ H ⟨p, c, ρ, F, F0, H0, E, s, h, t⟩ => ⟨p, c, _, F, _, s.e, h, fun d c1 v F1 H1 w1 ok1 r1 q1 => ?_⟩
  exact kg p c1 ρ σ F1 H1 F0 H0 d v _ _ (s.fwd w1 ok1) r1 q1 fun ρ' σ' s' _ _ h' => t.nx c1 ρ' σ' F1 H1 s' h'
theorem sx_asgB {tg : Expr} {is : List Nat} {gg : FG} (he : EX X e fe) (hg : GX X tg is gg) (hs : swapsWithSole [tg] e pos.line X.env = pure false := by rfl) (hw : swappedStores [tg] e X.env = pure none := by rfl)
    (h1 : (assignEach [tg] X.env).map (·.2) = [assign tg X.env] := by rfl) : SX X (.Assign [tg] e pos) (sAsgB gg fe) := by
  obtain ⟨gl, pg, kg⟩ := hg.ex
  refine PS.imp (ps_asg he pg hs hw h1) fun D σ H ⟨p, c, ρ, F, F0, H0, E, s, h, t⟩ => ?_
  obtain ⟨F2, es, w2, k⟩ := s.lend
  refine ⟨p, c, _, F2, _, es, h, fun d c1 v F1 H1 w1 ok1 r1 q1 => ?_⟩
  obtain ⟨F3, s3, _, k1, _⟩ := k c1 F1 H1 w1 ok1
  exact kg p c1 ρ σ F3 H1 F0 H0 d v _ _ s3 (k1 d v q1.1 r1) q1.2 fun ρ' σ' s' _ _ h' => t.nx c1 ρ' σ' F3 H1 s' h'
theorem sx_expr (he : EX X e fe) (hs : swapsWith e none pos.line X.env = pure false := by rfl) : SX X (.Expr e pos) (sExpr fe) := PS.imp (ps_expr he hs) fun D σ H ⟨p, c, ρ, F, F0, H0, E, s, h, t⟩ => by
  obtain ⟨F2, es, w2, k⟩ := s.lend
  refine ⟨p, c, _, F2, _, es, h, fun d c1 v F1 H1 w1 ok1 r1 q1 => ?_⟩
  obtain ⟨F3, s3, _⟩ := k c1 F1 H1 w1 ok1
  exact t.nx c1 ρ σ F3 H1 s3 q1
theorem sx_ret (he : EX X e fe) : SX X (.Return (some e) pos) (sRet fe) := PS.imp (ps_ret he) fun D σ H ⟨p, c, ρ, F, F0, H0, E, s, h, t⟩ => by
  obtain ⟨F2, es, w2, k⟩ := s.lend
  exact ⟨p, c, _, F2, _, es, h, t.rt.fwd w2⟩
theorem sx_retN : SX X (.Return none pos) sRetN := PS.imp ps_retN fun D σ H ⟨p, c, ρ, F, F0, H0, E, s, h, t⟩ => t.rt .non c .non F H s.ent s.ok rfl h
theorem sx_if {cd : Expr} {sa sb : List Stmt} {f : FT} (hc : TX X cd f) (ha : BX X sa a) (hb : BX X sb b) : SX X (.If cd sa sb pos) (sIf f a b) := PS.imp (ps_if hc ha hb) fun D σ H ⟨p, c, ρ, F, F0, H0, E, s, h, t⟩ => by
  obtain ⟨F2, es, w2, k⟩ := s.lend
  refine ⟨p, c, _, F2, _, es, h, fun d c1 F1 H1 w1 ok1 q1 => ?_⟩
  obtain ⟨F3, s3, _⟩ := k c1 F1 H1 w1 ok1
  cases d with
  | true => exact ⟨p, c1, ρ, F3, F0, H0, E, s3, q1, t⟩
  | false => exact ⟨p, c1, ρ, F3, F0, H0, E, s3, q1, t⟩
theorem sx_aug (i : Nat) {x : Str} {op : Operator} {r : R2} {g : D → D → Nat → KD → Prop} {pos' : Pos} (ho : OpR X (inplaceOp op) r) (sp : OpS X.K r g) (he : EX X e fe) (hN : X.N.Nodup) (hi : X.N[i]? = some x := by rfl) (hx : Loc X.env.scope x := by first | exact Or.inl rfl | exact Or.inr rfl)
    (hf : X.fn x = true ∨ X.env.scope.names.lookup x = some .local := by first | exact .inl rfl | exact .inr rfl) : SX X (.AugAssign (.Name x pos') op e pos) (sAug i g fe) := PS.imp (ps_aug hN hi hx he (ti := r) ho hf) fun D σ H ⟨p, c, ρ, F, F0, H0, E, s, h, t⟩ => by
  unfold sAug at h
  split at h
  · rename_i x e
    obtain ⟨v, e1, r1⟩ := s.val i x e
    obtain ⟨F2, es, w2, k⟩ := s.lend
    refine ⟨v, e1, p, c, _, F2, _, es, h, fun y c1 u F1 H1 w1 ok1 r2 q1 => ?_⟩
    obtain ⟨F3, s3, w3, k1, _⟩ := k c1 F1 H1 w1 ok1
    refine sp p c1 F3 H1 x y v u _ _ s3.ok (r1.mono w3.frz) (k1 _ _ q1.1 r2) q1.2 fun z c4 v4 F4 H4 w4 ok4 r4 q4 => ?_
    exact t.nx c4 _ _ F4 H4 ((s3.fwd w4 ok4).set i r4) q4.2
  · exact h.elim
end
end L3

/-! L3, own lists, loops, comprehensions, defs. -/
namespace L3
open PySem PySem.Spec PyProof.Rows L2
/-! ### new lists -/
abbrev FL := Rho → Nat → (List D → Nat → Prop) → Prop
def tF (K : PySem.W.Frag) (f : FL) : TE := fun σ H Q => ∃ p c ρ F Q', ESt K p c ρ σ F H ∧ f ρ c Q' ∧
  ∀ l c' a xs F' H', Fwd p F H F' H' → Ok3 p c' F' H' → H a = none → F' a = none → p.pot ≠ some a → H' a = some (.lst xs) → RepL K p F' l xs → Q' l c' → Q (.ref a) H'
abbrev FX (X : Cx) (e : Expr) (f : FL) : Prop := PE X e (tF X.K f)
section
variable {K : PySem.W.Frag} {X : Cx} {e a b : Expr} {es : List Expr} {f : FL} {fa fb : FE} {fr : FA} {pos : Pos}
/-- one new list onto a state -/
theorem layL {p : Pn} {c : Nat} {F H F1 H1 : Hp} (w : Fwd p F H F1 H1) (ok : Ok3 p c F1 H1) {q : Addr} (nq : H1 q = none) (xs : List V) :
    Fwd p F H F1 (upd H1 q (.lst xs)) ∧ Ok3 p c F1 (upd H1 q (.lst xs)) ∧ H q = none ∧ F1 q = none ∧ p.pot ≠ some q := by
  have nF : F1 q = none := by
    cases e : F1 q with
    | none => rfl
    | some u => rw [ok.sub q u e] at nq; cases nq
  have np : p.pot ≠ some q := fun e => by
    obtain ⟨⟨x, y, z, h, _⟩, _⟩ := ok.pot q e
    rw [nq] at h; cases h
  refine ⟨⟨w.frz, fun b u h n t => ?_, w.new, fun b h => ?_⟩, ⟨fun b u h => ?_, fun b e => ?_, ok.tab.ext fun b u h => by rw [upd_ne (ne_of_none h nq)]; exact h, ok.nt⟩, w.there q nq, nF, np⟩
  · have := w.keep b u h n t
    rw [upd_ne (ne_of_none this nq)]; exact this
  · by_cases e : b = q
    · subst e; exact w.there _ nq
    · rw [upd_ne e] at h; exact w.there b h
  · rw [upd_ne (ne_of_none h nF)]; exact ok.sub b u h
  · obtain ⟨⟨x, y, z, h, r⟩, n⟩ := ok.pot b e
    exact ⟨⟨x, y, z, by rw [upd_ne (ne_of_none h nq)]; exact h, r⟩, n⟩
@[simp ↓] def fLst (fa : FA) : FL := fun ρ c Q => fa ρ c fun l c => l.length ≤ 16777216 ∧ Q l c
theorem fx_lst (h : AX X es fr) : FX X (.List es pos) (fLst fr) := PE.imp (pe_lst h) fun σ H Q ⟨p, c, ρ, F, Q', es, h, t⟩ =>
  ⟨p, c, ρ, F, _, es, h, fun l c1 vs F1 H1 w1 ok1 r1 q1 => ⟨by rw [line16, r1.len]; exact q1.1, fun q nq => by
    obtain ⟨w, ok, n1, n2, n3⟩ := layL w1 ok1 nq vs
    exact t l c1 q vs F1 _ w ok n1 n2 n3 upd_same r1 q1.2⟩⟩
/-- list(e) -/
@[simp ↓] def fList (fa : FE) : FL := fun ρ c Q => fa ρ c fun x c => match x with
  | .lst l => Q l c
  | .tup l => Q l c
  | _ => False
theorem fx_list {x : Str} {p : Pos} (hm : X.mg x = none) (hv : bootBuiltins x = some (.type "list")) (ha : EX X e fa) (hg : Gl X x := by rfl) (hn : x ≠ "__name__" := by decide) (hdb : (x == ("__debug__" : Str)) = false := by decide)
    (hs : starEach [e] X.env = (false, eval e X.env) :: starEach [] X.env := by rfl) : FX X (.Call (.Name x p) [e] [] pos) (fList fa) := PE.imp (pe_callTy call_list_of hg hm hv (pa_cons ha pa_nil hs) hn hdb hs rfl) fun σ H Q ⟨p, c, ρ, F, Q', es, h, t⟩ =>
  ⟨p, c, ρ, F, _, es, h, fun d c1 v F1 H1 w1 ok1 r1 q1 => by
    split at q1
    · obtain ⟨b, xs, rfl, h1, rl⟩ := r1
      exact ⟨b, xs, rfl, .inl (.of (ok1.sub _ _ h1)), fun q nq => by
        obtain ⟨w, ok, n1, n2, n3⟩ := layL w1 ok1 nq xs
        exact t _ c1 q xs F1 _ w ok n1 n2 n3 upd_same rl q1⟩
    · obtain ⟨b, xs, rfl, h1, rl⟩ := r1
      exact ⟨b, xs, rfl, .inr (ok1.sqT h1), fun q nq => by
        obtain ⟨w, ok, n1, n2, n3⟩ := layL w1 ok1 nq xs
        exact t _ c1 q xs F1 _ w ok n1 n2 n3 upd_same rl q1⟩
    · exact q1.elim⟩
/-- a + b, lists -/
@[simp ↓] def fCat (fa fb : FE) : FL := fun ρ c Q => fa ρ c fun x c => fb ρ c fun y c => match x, y with
  | .lst l, .lst m => l.length + m.length ≤ 16777216 ∧ Q (l ++ m) c
  | _, _ => False
theorem fx_cat (ha : EX X a fa) (hb : EX X b fb) : FX X (.BinOp a .Add b pos) (fCat fa fb) := PE.imp (pe_op op_cat ha hb) fun σ H Q ⟨p, c, ρ, F, Q', es, h, t⟩ =>
  ⟨p, c, ρ, F, _, es, h, fun x c1 v F1 H1 w1 ok1 r1 q1 => ⟨p, c1, ρ, F1, _, es.fwd w1 ok1, q1, fun y c2 u F2 H2 w2 ok2 r2 q2 => by
    split at q2
    · obtain ⟨b, xs, rfl, h1, rl⟩ := r1.mono w2.frz
      obtain ⟨b', ys, rfl, h2, rl'⟩ := r2
      exact ⟨b, b', xs, ys, rfl, rfl, ok2.sub _ _ h1, ok2.sub _ _ h2, by rw [line16, rl.len, rl'.len]; exact q2.1, fun q nq => by
        obtain ⟨w, ok, n1, n2, n3⟩ := layL (w1.trans w2) ok2 nq (xs ++ ys)
        exact t _ c2 q _ F2 _ w ok n1 n2 n3 upd_same (rl.app rl') q2.2⟩
    · exact q2.elim⟩⟩
/-- e[lo:hi], a list -/
@[simp ↓] def fSl (fe : FE) (lo hi : FO) : FL := fun ρ c Q => fe ρ c fun x c => lo ρ c fun a c => hi ρ c fun b c => match x with | .lst l => Q (cutD l a b) c | _ => False
theorem fx_sl {p2 : Pos} {lo hi : Option Expr} {fl fh : FO} (ha : EX X e fa) (hl : OX X lo fl) (hh : OX X hi fh) : FX X (.Subscript e (.Slice lo hi none p2) pos) (fSl fa fl fh) := by
  obtain ⟨tl, pl, kl⟩ := hl.ex
  obtain ⟨th, ph, kh⟩ := hh.ex
  refine PE.imp (pe_slice sl_list ha pl ph) fun σ H Q ⟨p, c, ρ, F, Q', es, h, t⟩ => ⟨p, c, ρ, F, _, es, h, fun x c1 v F1 H1 w1 ok1 r1 q1 => ?_⟩
  refine kl σ H1 p c1 ρ F1 _ _ (es.fwd w1 ok1) q1 fun i c2 F2 H2 w2 ok2 q2 => ?_
  have w12 := w1.trans w2
  refine kh σ H2 p c2 ρ F2 _ _ (es.fwd w12 ok2) q2 fun j c3 F3 H3 w3 ok3 q3 => ?_
  have w13 := w12.trans w3
  have r3 := (r1.mono w2.frz).mono w3.frz
  split at q3
  · obtain ⟨b, xs, rfl, h1, rl⟩ := r3
    exact ⟨b, xs, rfl, .of (ok3.sub _ _ h1), fun q nq => by
      obtain ⟨w, ok, n1, n2, n3⟩ := layL w13 ok3 nq (cutV xs i j)
      exact t _ c3 q _ F3 _ w ok n1 n2 n3 upd_same (rl.cut i j) q3⟩
  · exact q3.elim
/-- a new list as a value -/
theorem fx_ex {g : FE} (h : FX X e f) (hg : ∀ ρ c Q, g ρ c Q → f ρ c fun l c => Q (.lst l) c) : EX X e g := PE.imp h fun σ H Q ⟨p, c, ρ, F, Q', es, h, t⟩ =>
  ⟨p, c, ρ, F, _, es, hg _ _ _ h, fun l c1 a xs F1 H1 w1 ok1 n1 n2 n3 h1 r1 q1 => by
    have up : ∀ b u, F1 b = some u → upd F1 a (.lst xs) b = some u := fun b u h => by rw [upd_ne (ne_of_none h n2)]; exact h
    refine t (.lst l) c1 (.ref a) (upd F1 a (.lst xs)) H1 ⟨fun b u h => up b u (w1.frz b u h), w1.keep, fun b u h => ?_, w1.there⟩ ⟨fun b u h => ?_, fun b e => ?_, ok1.tab, nt_upd ok1.nt a xs n2⟩ ⟨a, xs, rfl, upd_same, r1.mono up⟩ q1
    · by_cases e : b = a
      · subst e; exact .inr n1
      · rw [upd_ne e] at h; exact w1.new b u h
    · by_cases e : b = a
      · subst e; rw [upd_same] at h; cases h; exact h1
      · rw [upd_ne e] at h; exact ok1.sub b u h
    · obtain ⟨z, n⟩ := ok1.pot b e
      have ne : b ≠ a := fun z => n3 (z ▸ e)
      exact ⟨z, by rw [upd_ne ne]; exact n⟩⟩
/-- x = a new list -/
@[simp ↓] def sOwnF (i : Nat) (f : FL) : FS := fun E ρ c => f (ρ.map vA) c fun l c => E.nx (ρ.set i (.own l)) c
@[simp ↓] def sOwnFB (i : Nat) (f : FL) : FS := fun E ρ c => f (ρ.map vB) c fun l c => noLstL l = true ∧ E.nx (ρ.set i (.own l)) c
theorem sx_own (i : Nat) {x : Str} {px : Pos} (h : FX X e f) (hN : X.N.Nodup) (hi : X.N[i]? = some x := by rfl) (hx : Loc X.env.scope x := by first | exact Or.inl rfl | exact Or.inr rfl) (hs : swapsWith e (some (.Name x px)) pos.line X.env = pure false := by rfl)
    (hf : X.fn x = true ∨ X.env.scope.names.lookup x = some .local := by first | exact .inl rfl | exact .inr rfl) : SX X (.Assign [.Name x px] e pos) (sOwnF i f) := PS.imp (ps_set hN hi hx h hs hf) fun D σ H ⟨p, c, ρ, F, F0, H0, E, s, h, t⟩ => ⟨p, c, _, F, _, s.e, h, fun l c1 a xs F1 H1 w1 ok1 n1 n2 n3 h1 r1 q1 => by
  refine t.nx c1 _ _ F1 H1 ((s.fwd w1 ok1).setOwn i h1 n2 (s.ent.there a n1) n3 r1 fun j m e1 e2 => ?_) q1
  obtain ⟨b, ys, g1, g2, _⟩ := s.own j m e1
  rw [e2] at g1
  cases g1
  rw [n1] at g2
  cases g2⟩
theorem sx_ownB (i : Nat) {x : Str} {px : Pos} (h : FX X e f) (hN : X.N.Nodup) (hi : X.N[i]? = some x := by rfl) (hx : Loc X.env.scope x := by first | exact Or.inl rfl | exact Or.inr rfl) (hs : swapsWith e (some (.Name x px)) pos.line X.env = pure false := by rfl)
    (hf : X.fn x = true ∨ X.env.scope.names.lookup x = some .local := by first | exact .inl rfl | exact .inr rfl) : SX X (.Assign [.Name x px] e pos) (sOwnFB i f) := PS.imp (ps_set hN hi hx h hs hf) fun D σ H ⟨p, c, ρ, F, F0, H0, E, s, h, t⟩ => by
  obtain ⟨F2, es, w2, k⟩ := s.lend
  refine ⟨p, c, _, F2, _, es, h, fun l c1 a xs F1 H1 w1 ok1 n1 n2 n3 h1 r1 q1 => ?_⟩
  obtain ⟨F3, s3, w3, _, k2, k3⟩ := k c1 F1 H1 w1 ok1
  have n4 : F3 a = none := k3 a n2
  refine t.nx c1 _ _ F3 H1 (s3.setOwn i h1 n4 (s.ent.there a n1) n3 (k2 l xs q1.1 r1) fun j m e1 e2 => ?_) q1.2
  obtain ⟨b, ys, g1, g2, _⟩ := s.own j m e1
  rw [e2] at g1
  cases g1
  rw [n1] at g2
  cases g2
end

/-! ### append; loops -/
theorem RepL.single {K : PySem.W.Frag} {p : Pn} {F : Hp} {d : D} {v : V} (h : Rep K p F d v) : RepL K p F [d] [v] := ⟨v, [], rfl, h, rfl⟩
theorem Fwd.unfloor {p : Pn} {F0 H0 F1 H1 F H : Hp} (a : Fwd p F1 H0 F H) (w : Fwd p F0 H0 F1 H1) : Fwd p F0 H0 F H := ⟨fun b o h => a.frz b o (w.frz b o h), a.keep, fun b o h => by
  rcases a.new b o h with z | z
  · exact w.new b o z
  · exact .inr z, a.there⟩
theorem Fwd.floor {p : Pn} {F0 H0 F1 H1 F H : Hp} (a : Fwd p F0 H0 F H) (w : Fwd p F0 H0 F1 H1) (up : ∀ b o, F1 b = some o → F b = some o) : Fwd p F1 H0 F H := ⟨up, a.keep, fun b o h => by
  rcases a.new b o h with z | z
  · exact .inl (w.frz b o z)
  · exact .inr z, a.there⟩
theorem SSt.floor {K : PySem.W.Frag} {p : Pn} {c : Nat} {ρ : Env3} {σ : L2.St} {F0 H0 F1 H1 F H : Hp} (s : SSt K p c ρ σ F H F0 H0) (w : Fwd p F0 H0 F1 H1) (up : ∀ b o, F1 b = some o → F b = some o) : SSt K p c ρ σ F H F1 H0 :=
  ⟨s.ok, s.ent.floor w up, s.len, s.val, s.own, s.sep, s.dic, s.sepd⟩
theorem SSt.unfloor {K : PySem.W.Frag} {p : Pn} {c : Nat} {ρ : Env3} {σ : L2.St} {F0 H0 F1 H1 F H : Hp} (s : SSt K p c ρ σ F H F1 H0) (w : Fwd p F0 H0 F1 H1) : SSt K p c ρ σ F H F0 H0 :=
  ⟨s.ok, s.ent.unfloor w, s.len, s.val, s.own, s.sep, s.dic, s.sepd⟩
section
variable {K : PySem.W.Frag} {X : Cx} {e a b : Expr} {es : List Expr} {fa fb : FE} {fr : FA} {pos apos : Pos} {g : FS}
theorem sx_app (i : Nat) (h : PE X e (tBM X.K "list" rAppend (tVar i) (tCons (tE X.K fa) tNil))) (hsw : swapsWith e none pos.line X.env = pure false := by rfl) : SX X (.Expr e pos) (sApp i fa) :=
  PS.imp (ps_expr h hsw) fun D σ H ⟨p, c, ρ, F, F0, H0, E, s, h, t⟩ => by
  unfold sApp at h
  split at h
  · rename_i l hi
    obtain ⟨a, xs, e1, e2, e3, e4, e5, r0⟩ := s.own i l hi
    refine ⟨_, e1, .inl ⟨rfl, _, .inl (.inl e2)⟩, p, c, _, F, _, s.e, h, fun d c1 v F1 H1 w1 ok1 r1 q1 => ?_⟩
    have s1 := s.fwd w1 ok1
    obtain ⟨a', xs', g1, g2, g3, g4, g5, r0'⟩ := s1.own i l hi
    rw [e1] at g1
    cases g1
    refine ⟨a, xs', v, rfl, rfl, g2, by rw [r0'.len, line16]; exact q1.1, t.nx c1 _ _ F1 _ (s1.put hi e1 (r0'.app (RepL.single r1))) q1.2⟩
  · exact h.elim
theorem sx_appB (i : Nat) (h : PE X e (tBM X.K "list" rAppend (tVar i) (tCons (tE X.K fa) tNil))) (hsw : swapsWith e none pos.line X.env = pure false := by rfl) : SX X (.Expr e pos) (sAppB i fa) :=
  PS.imp (ps_expr h hsw) fun D σ H ⟨p, c, ρ, F, F0, H0, E, s, h, t⟩ => by
  unfold sAppB at h
  split at h
  · rename_i l hi
    obtain ⟨a, xs, e1, e2, e3, e4, e5, r0⟩ := s.own i l hi
    obtain ⟨F2, es, w2, k⟩ := s.lend
    refine ⟨_, e1, .inl ⟨rfl, _, .inl (.inl e2)⟩, p, c, _, F2, _, es, h, fun d c1 v F1 H1 w1 ok1 r1 q1 => ?_⟩
    obtain ⟨F3, s1, w3, k1, _⟩ := k c1 F1 H1 w1 ok1
    obtain ⟨a', xs', g1, g2, g3, g4, g5, r0'⟩ := s1.own i l hi
    rw [e1] at g1
    cases g1
    refine ⟨a, xs', v, rfl, rfl, g2, by rw [r0'.len, line16]; exact q1.2.1, t.nx c1 _ _ F3 _ (s1.put hi e1 (r0'.app (RepL.single (k1 _ _ q1.1 r1)))) q1.2.2⟩
  · exact h.elim
/-- a, b = x, y -/
@[simp ↓] def sPar (i j : Nat) (fr : FA) : FS := fun E ρ c => fr (ρ.map vA) c fun l c => match l with | [x, y] => E.nx ((ρ.set i (.val x)).set j (.val y)) c | _ => False
@[simp ↓] def sParB (i j : Nat) (fr : FA) : FS := fun E ρ c => fr (ρ.map vB) c fun l c => noLstL l = true ∧ match l with | [x, y] => E.nx ((ρ.set i (.val x)).set j (.val y)) c | _ => False
theorem sx_par {i j : Nat} {x y : Str} {px py pt : Pos} {kt k2 pt2} (hc : X.calm = true) (hN : X.N.Nodup) (ha : AX X [a, b] fr) (hij : i ≠ j := by decide) (hi : X.N[i]? = some x := by rfl) (hj : X.N[j]? = some y := by rfl)
    (hx : X.env.scope.names.lookup x = some .local := by rfl) (hy : X.env.scope.names.lookup y = some .local := by rfl) (hw : swappedStores [.Tuple [.Name x px, .Name y py] kt pt] (.Tuple [a, b] k2 pt2) X.env = pure (some [x, y]) := by rfl)
    (hs : swapsWithSole [.Tuple [.Name x px, .Name y py] kt pt] (.Tuple [a, b] k2 pt2) pos.line X.env = pure false := by rfl) :
    SX X (.Assign [.Tuple [.Name x px, .Name y py] kt pt] (.Tuple [a, b] k2 pt2) pos) (sPar i j fr) := by
  refine PS.imp (ps_par hc hN hi hj hij hx hy ha hw hs) fun D σ H ⟨p, c, ρ, F, F0, H0, E, s, h, t⟩ => ⟨p, c, _, F, _, s.e, h, fun l c1 vs F1 H1 w1 ok1 r1 q1 => ?_⟩
  split at q1
  · obtain ⟨v, u, rfl, r1, r2⟩ := r1.two
    exact ⟨v, u, rfl, t.nx c1 _ _ F1 H1 (((s.fwd w1 ok1).set i r1).set j r2) q1⟩
  · exact q1.elim
theorem sx_parB {i j : Nat} {x y : Str} {px py pt : Pos} {kt k2 pt2} (hc : X.calm = true) (hN : X.N.Nodup) (ha : AX X [a, b] fr) (hij : i ≠ j := by decide) (hi : X.N[i]? = some x := by rfl) (hj : X.N[j]? = some y := by rfl)
    (hx : X.env.scope.names.lookup x = some .local := by rfl) (hy : X.env.scope.names.lookup y = some .local := by rfl) (hw : swappedStores [.Tuple [.Name x px, .Name y py] kt pt] (.Tuple [a, b] k2 pt2) X.env = pure (some [x, y]) := by rfl)
    (hs : swapsWithSole [.Tuple [.Name x px, .Name y py] kt pt] (.Tuple [a, b] k2 pt2) pos.line X.env = pure false := by rfl) :
    SX X (.Assign [.Tuple [.Name x px, .Name y py] kt pt] (.Tuple [a, b] k2 pt2) pos) (sParB i j fr) := by
  refine PS.imp (ps_par hc hN hi hj hij hx hy ha hw hs) fun D σ H ⟨p, c, ρ, F, F0, H0, E, s, h, t⟩ => ?_
  obtain ⟨F2, es, w2, k⟩ := s.lend
  refine ⟨p, c, _, F2, _, es, h, fun l c1 vs F1 H1 w1 ok1 r1 q1 => ?_⟩
  obtain ⟨F3, s3, w3, k1, k2, _⟩ := k c1 F1 H1 w1 ok1
  have r3 := k2 _ _ q1.1 r1
  have q2 := q1.2
  split at q2
  · obtain ⟨v, u, rfl, r1, r2⟩ := r3.two
    exact ⟨v, u, rfl, t.nx c1 _ _ F3 H1 ((s3.set i r1).set j r2) q2⟩
  · exact q2.elim
/-- what a loop walks: items told -/
def Walks3 (K : PySem.W.Frag) (p : Pn) (J : It) (items : List D) (F1 : Hp) : Prop := items.length ≤ 16777216 ∧ ∀ (i : Nat) (F H : Hp) (c : Nat), (∀ b o, F1 b = some o → F b = some o) → Ok3 p c F H →
  (i < items.length → J.go i H ∧ ∀ x H', J.yld i H x H' → ∃ F' d, items[i]? = some d ∧ Fwd p F H F' H' ∧ Ok3 p c F' H' ∧ Rep K p F' d x) ∧ (i = items.length → J.stop i H)
structure IX (X : Cx) (tg iter : Expr) (fi : FI) : Prop where
  ex : ∃ wi, PI X tg iter wi ∧ ∀ σ H p c ρ F Q' R, ESt X.K p c ρ σ F H → fi ρ c Q' → (∀ items c' F' H' J, Fwd p F H F' H' → Ok3 p c' F' H' → Walks3 X.K p J items F' → Q' items c' → R J H') → wi σ H R
variable {tg : Expr}
theorem walks_list {p : Pn} {a : Addr} {xs : List V} {l : List D} {F1 : Hp} (h : F1 a = some (.lst xs)) (r : RepL K p F1 l xs) (hl : l.length ≤ 16777216) : Walks3 K p (Itl K a) l F1 := ⟨hl, fun i F H c up ok => by
  have hH : SqL K H a xs := .of (ok.sub _ _ (up _ _ h))
  refine ⟨fun hi => ⟨⟨xs, xs[i]'(by rw [r.len]; exact hi), hH, List.getElem?_eq_getElem _⟩, fun x H' y => ?_⟩, fun hi => ⟨xs, hH, by rw [r.len]; exact Nat.le_of_eq hi.symm⟩⟩
  obtain ⟨rfl, y⟩ := y
  obtain ⟨d, e1, e2⟩ := r.back (y xs hH)
  exact ⟨F, d, e1, .refl .., ok, e2.mono up⟩⟩
theorem walks_tup {p : Pn} {a : Addr} {xs : List V} {l : List D} {F1 : Hp} (h : SqT K F1 a xs) (r : RepL K p F1 l xs) (hl : l.length ≤ 16777216) : Walks3 K p (Itt K a) l F1 := ⟨hl, fun i F H c up ok => by
  have hH : SqT K H a xs := ok.sqT (Sub.sqT up h)
  refine ⟨fun hi => ⟨⟨xs, xs[i]'(by rw [r.len]; exact hi), hH, List.getElem?_eq_getElem _⟩, fun x H' y => ?_⟩, fun hi => ⟨xs, hH, by rw [r.len]; exact Nat.le_of_eq hi.symm⟩⟩
  obtain ⟨rfl, y⟩ := y
  obtain ⟨d, e1, e2⟩ := r.back (y xs hH)
  exact ⟨F, d, e1, .refl .., ok, e2.mono up⟩⟩
theorem range_get (lo : Int) (n i : Nat) (h : i < n) : (rangeL lo n)[i]? = some (.int (lo + (i : Nat))) := by
  unfold rangeL
  rw [List.getElem?_map, List.getElem?_range h]
  rfl
theorem range_len (lo : Int) (n : Nat) : (rangeL lo n).length = n := by
  unfold rangeL
  rw [List.length_map, List.length_range]
theorem walks_range {p : Pn} {lo : Int} {n : Nat} {F1 : Hp} (hl : n ≤ 16777216) : Walks3 K p (Itr lo n) (rangeL lo n) F1 := ⟨by rw [range_len]; exact hl, fun i F H c up ok => by
  rw [range_len]
  refine ⟨fun hi => ⟨hi, fun x H' y => ?_⟩, fun hi => Nat.le_of_eq hi.symm⟩
  obtain ⟨rfl, rfl⟩ := y
  exact ⟨F, _, range_get lo n i hi, .refl .., ok, rfl⟩⟩
/-- what is walked is a list's, a tuple's length at most -/
def iL (fe : FE) : FI := fun ρ c Q => fe ρ c fun x c => match x with
  | .lst l => l.length ≤ 16777216 ∧ Q l c
  | _ => False
def iT (fe : FE) : FI := fun ρ c Q => fe ρ c fun x c => match x with
  | .tup l => l.length ≤ 16777216 ∧ Q l c
  | _ => False
theorem ix_lst (h : EX X e fa) : IX X tg e (iL fa) := ⟨_, pi_list h, fun σ H p c ρ F Q' R es h k => ⟨p, c, ρ, F, _, es, h, fun x c1 v F1 H1 w1 ok1 r1 q1 => by
  split at q1
  · obtain ⟨a, xs, rfl, h1, rl⟩ := r1
    exact ⟨a, rfl, ⟨xs, .of (ok1.sub _ _ h1)⟩, k _ c1 F1 H1 _ w1 ok1 (walks_list h1 rl q1.1) q1.2⟩
  · exact q1.elim⟩⟩
theorem ix_tupl (h : EX X e fa) : IX X tg e (iT fa) := ⟨_, pi_tup h, fun σ H p c ρ F Q' R es h k => ⟨p, c, ρ, F, _, es, h, fun x c1 v F1 H1 w1 ok1 r1 q1 => by
  split at q1
  · obtain ⟨a, xs, rfl, h1, rl⟩ := r1
    exact ⟨a, rfl, ⟨xs, ok1.sqT h1⟩, k _ c1 F1 H1 _ w1 ok1 (walks_tup h1 rl q1.1) q1.2⟩
  · exact q1.elim⟩⟩
theorem ix_range1 {a : Expr} {p' pos : Pos} (hm : X.mg "range" = none) (ha : AX X [a] fr) (hg : Gl X "range" := by rfl) (hs : starEach [a] X.env = [(false, eval a X.env)] := by rfl) : IX X tg (.Call (.Name "range" p') [a] [] pos) (iR1 fr) :=
  ⟨_, pi_range1 hg hm ha hs, fun σ H p c ρ F Q' R es h k => ⟨p, c, ρ, F, _, es, h, fun l c1 vs F1 H1 w1 ok1 r1 q1 => by
  split at q1
  · rename_i j
    exact ⟨j, r1.int1, q1.1.1, by omega, k _ c1 F1 H1 _ w1 ok1 (walks_range (by omega)) q1.2⟩
  · exact q1.elim⟩⟩
theorem ix_range2 {a b : Expr} {p' pos : Pos} (hm : X.mg "range" = none) (ha : AX X [a, b] fr) (hg : Gl X "range" := by rfl) (hs : starEach [a, b] X.env = [(false, eval a X.env), (false, eval b X.env)] := by rfl) (hs2 : starEach [b] X.env = [(false, eval b X.env)] := by rfl) : IX X tg (.Call (.Name "range" p') [a, b] [] pos) (iR2 fr) :=
  ⟨_, pi_range2 hg hm ha hs hs2, fun σ H p c ρ F Q' R es h k => ⟨p, c, ρ, F, _, es, h, fun l c1 vs F1 H1 w1 ok1 r1 q1 => by
  split at q1
  · rename_i i j
    exact ⟨i, j, r1.int2, ⟨by omega, by omega, by omega, by omega⟩, k _ c1 F1 H1 _ w1 ok1 (walks_range (by omega)) q1.2⟩
  · exact q1.elim⟩⟩
theorem sx_for {iter : Expr} {body : List Stmt} {fi : FI} {gg : FG} {is : List Nat} (hp : PassesOwn (model X.prog X.w) X.A X.env X.xe) (hc : X.calm = true) (hi : IX X tg iter fi) (hg : GX X tg is gg) (hb : BX X body g) (hs : ∀ x, foldedSetIterable iter X.env x = pure x := by intro _; rfl) :
    SX X (.For tg iter body [] pos) (sFor fi gg g) := by
  obtain ⟨wi, pi, ki⟩ := hi.ex
  obtain ⟨gl, pg, kg⟩ := hg.ex
  refine PS.imp (ps_for hp hc pi pg hb hs) fun D σ H ⟨p, c, ρ, F, F0, H0, E, s, h, t⟩ => ki σ H p c _ F _ _ s.e h fun items c1 F1 H1 J w1 ok1 wk q1 => ?_
  have wf := s.ent.trans w1
  refine ⟨fun i m σ H => m = items.length - i ∧ i ≤ items.length ∧ ∃ c ρ F, SSt X.K p c ρ σ F H F1 H0 ∧ forL gg g E (items.drop i) ρ c, ⟨items.length, rfl, Nat.zero_le _, c1, ρ, F1, (s.fwd w1 ok1).floor wf (fun _ _ h => h), q1⟩, fun i m σ H ⟨em, hi, c, ρ, F, s, h⟩ => ?_⟩
  obtain ⟨go, stop⟩ := wk.2 i F H c s.ent.frz s.ok
  by_cases hlt : i < items.length
  · obtain ⟨hgo, hy⟩ := go hlt
    refine .inr ⟨hgo, fun σ' H' => ∃ c ρ F, SSt X.K p c ρ σ' F H' F1 H0 ∧ forL gg g E (items.drop (i + 1)) ρ c, fun σ' H' ⟨c', ρ', F', s', h'⟩ => ⟨items.length - (i + 1), by omega, rfl, hlt, c', ρ', F', s', h'⟩, fun x H' y => ?_⟩
    obtain ⟨F', d, e1, w', ok', r'⟩ := hy x H' y
    have ed : items.drop i = d :: items.drop (i + 1) := by
      rw [List.drop_eq_getElem_cons hlt]
      rw [List.getElem?_eq_getElem hlt] at e1
      rw [Option.some.inj e1]
    rw [ed] at h
    refine kg p c ρ σ F' H' F1 H0 d x _ _ (s.fwd w' ok') r' h fun ρ2 σ2 s2 _ _ h2 => ?_
    exact ⟨p, c, ρ2, F', F1, H0, _, s2, h2, fun c ρ σ F H s q => ⟨c, ρ, F, s, q⟩, fun c ρ σ F H s q => t.nx c ρ σ F H (s.unfloor wf) q, fun c ρ σ F H s q => ⟨c, ρ, F, s, q⟩,
      fun d c' v F' H' w ok r q => t.rt d c' v F' H' (w.unfloor wf) ok r q⟩
  · have ei : items.drop i = [] := List.drop_eq_nil_of_le (by omega)
    rw [ei] at h
    exact .inl ⟨stop (by omega), t.nx c ρ σ F H (s.unfloor wf) h⟩
theorem sx_while {cd : Expr} {body : List Stmt} {f : FT} (hp : PassesOwn (model X.prog X.w) X.A X.env X.xe) (hc : TX X cd f) (hb : BX X body g) : SX X (.While cd body [] pos) (sWhile f g) := by
  refine PS.imp (ps_while hp hc hb) fun D σ H ⟨p, c, ρ, F, F0, H0, E, s, ⟨n, h⟩, t⟩ => ?_
  refine ⟨fun m σ H => ∃ c ρ F, SSt X.K p c ρ σ F H F0 H0 ∧ whileN f g E m ρ c, ⟨n, c, ρ, F, s, h⟩, fun m σ H ⟨c, ρ, F, s, h⟩ => ?_⟩
  cases m with
  | zero => exact h.elim
  | succ m =>
    obtain ⟨F2, es, w2, k⟩ := s.lend
    refine ⟨p, c, _, F2, _, es, h, fun b c1 F1 H1 w1 ok1 q1 => ?_⟩
    obtain ⟨F3, s3, _⟩ := k c1 F1 H1 w1 ok1
    cases b with
    | true => exact ⟨fun σ' H' => ∃ c ρ F, SSt X.K p c ρ σ' F H' F0 H0 ∧ whileN f g E m ρ c, fun σ' H' ⟨c, ρ, F, s, h⟩ => ⟨m, Nat.lt_succ_self m, c, ρ, F, s, h⟩,
        p, c1, ρ, F3, F0, H0, _, s3, q1, fun c ρ σ F H s q => ⟨c, ρ, F, s, q⟩, fun c ρ σ F H s q => t.nx c ρ σ F H s q, fun c ρ σ F H s q => ⟨c, ρ, F, s, q⟩, t.rt⟩
    | false => exact t.nx c1 ρ σ F3 H1 s3 q1
end
/-! ### a list comprehension -/
/-- a target's reading over the heap -/
structure KG (K : PySem.W.Frag) (is : List Nat) (gg : FG) (gl : TG) : Prop where
  k : ∀ p c ρ σ F H F0 H0 d v k kk, SSt K p c ρ σ F H F0 H0 → Rep K p F d v → gg d ρ k → (∀ ρ' σ', SSt K p c ρ' σ' F H F0 H0 → σ'.length = σ.length → (∀ j, j ∉ is → σ'[j]? = σ[j]?) → k ρ' → kk σ' H) → gl v σ H kk
structure KGs (K : PySem.W.Frag) (is : List Nat) (gg : FGs) (gl : TGs) : Prop where
  k : ∀ p c ρ σ F H F0 H0 d v k kk, SSt K p c ρ σ F H F0 H0 → RepL K p F d v → gg d ρ k → (∀ ρ' σ', SSt K p c ρ' σ' F H F0 H0 → σ'.length = σ.length → (∀ j, j ∉ is → σ'[j]? = σ[j]?) → k ρ' → kk σ' H) → gl v σ H kk
structure KT3 (K : PySem.W.Frag) (ft : FT) (t : TT) : Prop where
  k : ∀ σ H p c ρ F Q' Q, ESt K p c ρ σ F H → ft ρ c Q' → TellB p F H Q' Q → t σ H Q
theorem kt_nil {K : PySem.W.Frag} : KT3 K tYes3 tYes := ⟨fun σ H p c ρ F Q' Q es h t => t true c F H (.refl ..) es.ok h⟩
theorem kt_one {K : PySem.W.Frag} {f : FT} : KT3 K f (tTs K f) := ⟨fun σ H p c ρ F Q' Q es h t => ⟨p, c, ρ, F, Q', es, h, t⟩⟩
theorem kg_name {K : PySem.W.Frag} (i : Nat) : KG K [i] (gN i) (gName i) := ⟨fun p c ρ σ F H F0 H0 d v k kk s r h q => q _ _ (s.set i r) (List.length_set ..) (fun j hj => List.getElem?_set_ne (fun e => hj (by simp [e]))) h⟩
theorem kgs_nil {K : PySem.W.Frag} : KGs K [] gsNil gNil := ⟨fun p c ρ σ F H F0 H0 d v k kk s r h q => by
  unfold gsNil at h
  split at h
  · cases r
    exact ⟨rfl, q _ _ s rfl (fun _ _ => rfl) h⟩
  · exact h.elim⟩
theorem kgs_cons {K : PySem.W.Frag} {is js : List Nat} {g : FG} {gs : FGs} {gl : TG} {gls : TGs} (h1 : KG K is g gl) (h2 : KGs K js gs gls) : KGs K (is ++ js) (gsCons g gs) (gCons gl gls) := ⟨fun p c ρ σ F H F0 H0 d v k kk s r h q => by
  unfold gsCons at h
  split at h
  · rename_i d ds
    obtain ⟨x, xr, rfl, r1, r2⟩ := r
    refine ⟨x, xr, rfl, h1.k p c ρ σ F H F0 H0 _ _ _ _ s r1 h fun ρ' σ' s' l1 e1 h' => ?_⟩
    refine h2.k p c ρ' σ' F H F0 H0 _ _ _ _ s' r2 h' fun ρ2 σ2 s2 l2 e2 h2 => ?_
    exact q ρ2 σ2 s2 (l2.trans l1) (fun j hj => (e2 j fun z => hj (List.mem_append_right _ z)).trans (e1 j fun z => hj (List.mem_append_left _ z))) h2
  · exact h.elim⟩
theorem kg_tup {K : PySem.W.Frag} {is : List Nat} {gs : FGs} {gls : TGs} {n : Nat} (h1 : KGs K is gs gls) : KG K is (gT n gs) (gTup K n gls) := ⟨fun p c ρ σ F H F0 H0 d v k kk s r h q => by
  unfold gT at h
  split at h
  · obtain ⟨a, xs, rfl, e1, r1⟩ := r
    exact ⟨a, xs, rfl, s.ok.sqT e1, by rw [r1.len]; exact h.1, h1.k p c ρ σ F H F0 H0 _ _ _ _ s r1 h.2 q⟩
  · exact h.elim⟩
theorem gx_of {X : Cx} {tg : Expr} {is : List Nat} {g : FG} {gl : TG} (pg : PG X tg gl) (kg : KG X.K is g gl) : GX X tg is g := ⟨gl, pg, kg.k⟩
section
variable {X : Cx} {pos : Pos} {elt tg iter : Expr} {ifs : List Expr} {scope : Scope} {own : List (Str × Nat)} {fi : FI} {gg : FG} {is : List Nat} {fe : FE} {ft : FT}
structure PX (X : Cx) (ifs : List Expr) (f : FT) : Prop where
  ex : ∃ t, PTs X ifs t ∧ ∀ σ H p c ρ F Q' Q, ESt X.K p c ρ σ F H → f ρ c Q' → TellB p F H Q' Q → t σ H Q
theorem px_nil : PX X [] tYes3 := ⟨tYes, pts_nil, fun σ H p c ρ F Q' Q es h t => t true c F H (.refl ..) es.ok h⟩
theorem px_one {c : Expr} {f : FT} (h : TX X c f) : PX X [c] f := ⟨_, pts_one h, fun σ H p c ρ F Q' Q es h t => ⟨p, c, ρ, F, Q', es, h, t⟩⟩
theorem wipe_get (σ : L2.St) : ∀ (vs : List Nat) (i : Nat), i ∉ vs → (wipe σ vs)[i]? = σ[i]?
  | [], i, _ => rfl
  | v :: vs, i, h => by
    unfold wipe
    rw [List.getElem?_set_ne (fun e => h (by simp [e]))]
    exact wipe_get σ vs i (fun z => h (List.mem_cons_of_mem _ z))
theorem wipe_in (σ : L2.St) : ∀ (vs : List Nat) (i : Nat), i ∈ vs → i < σ.length → (wipe σ vs)[i]? = some none
  | v :: vs, i, h, hl => by
    unfold wipe
    by_cases e : v = i
    · subst e
      rw [List.getElem?_set_self (by rw [wipe_length]; exact hl)]
    · rw [List.getElem?_set_ne e]
      exact wipe_in σ vs i ((List.mem_cons.mp h).resolve_left (fun z => e z.symm)) hl
theorem wipe_eq {σ σ' : L2.St} {vs : List Nat} (hl : σ'.length = σ.length) (h : ∀ j, j ∉ vs → σ'[j]? = σ[j]?) : wipe σ' vs = wipe σ vs := by
  apply List.ext_getElem?
  intro i
  by_cases hi : i ∈ vs
  · by_cases hlt : i < σ.length
    · rw [wipe_in σ vs i hi hlt, wipe_in σ' vs i hi (by omega)]
    · rw [List.getElem?_eq_none (by rw [wipe_length]; omega), List.getElem?_eq_none (by rw [wipe_length]; omega)]
  · rw [wipe_get σ vs i hi, wipe_get σ' vs i hi, h i hi]
theorem get3_eq : ∀ (ρ : Rho) (i : Nat) (d : D), get3 ρ i = some d ↔ ρ[i]? = some (some d)
  | [], i, d => by simp [get3]
  | x :: r, 0, d => by simp [get3]
  | x :: r, i + 1, d => by simpa [get3] using get3_eq r i d
theorem wipeD_len (ρ : Rho) : ∀ vs : List Nat, (wipeD ρ vs).length = ρ.length
  | [] => rfl
  | v :: vs => by unfold wipeD; rw [List.length_set, wipeD_len ρ vs]
theorem wipeD_some (ρ : Rho) : ∀ (vs : List Nat) (i : Nat) (d : D), (wipeD ρ vs)[i]? = some (some d) → i ∉ vs ∧ ρ[i]? = some (some d)
  | [], i, d, h => ⟨by simp, h⟩
  | v :: vs, i, d, h => by
    unfold wipeD at h
    rcases set_get h with ⟨rfl, _, q⟩ | ⟨n, q⟩
    · cases q
    · obtain ⟨a, b⟩ := wipeD_some ρ vs i d q
      exact ⟨by simp [n, a], b⟩
/-- the comprehension's list, new -/
@[simp ↓] def fComp (fi : FI) (g : FG) (t : FT) (fe : FE) (vs : List Nat) : FL := fun ρ c Q => fi ρ c fun l c => compL g t fe (wipeD ρ vs) l c Q
theorem comp_w {t : TT} {gl : TG} {wi : TI} {vs : List Nat} (his : ∀ j ∈ is, j ∈ vs) {tE' : TE} (hte : ∀ σ H Q, tE X.K fe σ H Q → tE' σ H Q)
    (ki : ∀ σ H p c ρ F Q' R, ESt X.K p c ρ σ F H → fi ρ c Q' → (∀ items c' F' H' J, Fwd p F H F' H' → Ok3 p c' F' H' → Walks3 X.K p J items F' → Q' items c' → R J H') → wi σ H R)
    (kg : ∀ p c ρ σ F H F0 H0 d v k kk, SSt X.K p c ρ σ F H F0 H0 → Rep X.K p F d v → gg d ρ k → (∀ ρ' σ', SSt X.K p c ρ' σ' F H F0 H0 → σ'.length = σ.length → (∀ j, j ∉ is → σ'[j]? = σ[j]?) → k ρ' → kk σ' H) → gl v σ H kk)
    (kt : ∀ σ H p c ρ F Q' Q, ESt X.K p c ρ σ F H → ft ρ c Q' → TellB p F H Q' Q → t σ H Q) {σ : L2.St} {H : Hp} {Q : VK} (h : tF X.K (fComp fi gg ft fe vs) σ H Q) : tLc wi gl t tE' vs σ H Q := by
  obtain ⟨p, c, ρ, F, Q', es, h, tl⟩ := h
  refine ki σ H p c ρ F _ _ es h fun items c1 F1 H1 J w1 ok1 wk q1 => fun D hD => ?_
  obtain ⟨w0, ok0, n1, n2, n3⟩ := layL (Fwd.refl p F1 H1) ok1 hD []
  refine ⟨fun i m H' => m = items.length - i ∧ i ≤ items.length ∧ ∃ c F acc ds, Fwd p F1 H1 F H' ∧ Ok3 p c F H' ∧ H' D = some (.lst acc) ∧ F D = none ∧ RepL X.K p F ds acc ∧ ds.length ≤ i ∧ compL gg ft fe (wipeD ρ vs) (items.drop i) c (fun ys c => Q' (ds ++ ys) c),
    ⟨items.length, rfl, Nat.zero_le _, c1, F1, [], [], w0, ok0, upd_same, n2, rfl, Nat.zero_le _, q1⟩, fun i m H2 ⟨em, hi, c, F2, acc, ds, w, ok, hDl, nF, r, dl, hc⟩ => ?_⟩
  obtain ⟨go, stop⟩ := wk.2 i F2 H2 c w.frz ok
  by_cases hlt : i < items.length
  · obtain ⟨hgo, hy⟩ := go hlt
    refine .inr ⟨hgo, fun H' => ∃ c F acc ds, Fwd p F1 H1 F H' ∧ Ok3 p c F H' ∧ H' D = some (.lst acc) ∧ F D = none ∧ RepL X.K p F ds acc ∧ ds.length ≤ i + 1 ∧ compL gg ft fe (wipeD ρ vs) (items.drop (i + 1)) c (fun ys c => Q' (ds ++ ys) c),
      fun H' z => ⟨items.length - (i + 1), by omega, rfl, hlt, z⟩, fun x H' y => ?_⟩
    obtain ⟨F', d, e1, w', ok', r'⟩ := hy x H' y
    have ed : items.drop i = d :: items.drop (i + 1) := by
      rw [List.drop_eq_getElem_cons hlt]
      rw [List.getElem?_eq_getElem hlt] at e1
      rw [Option.some.inj e1]
    rw [ed] at hc
    have wF := w1.trans (w.trans w')
    have ss : SSt X.K p c ((wipeD ρ vs).map upS) (wipe σ vs) F' H' F' H' := by
      refine ⟨ok', .refl .., by rw [List.length_map, wipeD_len, wipe_length, es.len], fun j dj ej => ?_, fun j lj ej => ?_, fun j k l m a e1 _ _ _ => ?_, fun j ks lj ej => ?_, fun j k ks ks' l m a e1 _ _ _ => ?_⟩
      · rw [List.getElem?_map] at ej
        obtain ⟨z, ez, eu⟩ := Option.map_eq_some_iff.mp ej
        cases z with
        | none => cases eu
        | some z =>
          cases eu
          obtain ⟨nj, e2⟩ := wipeD_some ρ vs j dj ez
          obtain ⟨v, g1, g2⟩ := es.slot j dj ((get3_eq ρ j dj).mpr e2)
          exact ⟨v, by rw [wipe_get σ vs j nj]; exact g1, g2.mono wF.frz⟩
      · rw [List.getElem?_map] at ej
        obtain ⟨z, ez, eu⟩ := Option.map_eq_some_iff.mp ej
        cases z <;> cases eu
      · rw [List.getElem?_map] at e1
        obtain ⟨z, ez, eu⟩ := Option.map_eq_some_iff.mp e1
        cases z <;> cases eu
      · rw [List.getElem?_map] at ej
        obtain ⟨z, ez, eu⟩ := Option.map_eq_some_iff.mp ej
        cases z <;> cases eu
      · rw [List.getElem?_map] at e1
        obtain ⟨z, ez, eu⟩ := Option.map_eq_some_iff.mp e1
        cases z <;> cases eu
    refine kg p c _ (wipe σ vs) F' H' F' H' d x _ _ ss r' hc fun ρ2 σ2 s2 l2 e2 h2 => ⟨?_, ?_⟩
    · refine wipe_eq (by rw [l2, wipe_length]) fun j hj => ?_
      rw [e2 j fun z => hj (his j z), wipe_get σ vs j hj]
    · refine kt σ2 H' p c _ F' _ _ s2.e h2 fun b c3 F3 H3 w3 ok3 q3 => ?_
      have w23 := w'.trans w3
      have keepD : ∀ {F4 H4 : Hp}, Fwd p F2 H2 F4 H4 → H4 D = some (.lst acc) ∧ F4 D = none := fun {F4 H4} w4 => by
        refine ⟨w4.keep D _ hDl n3 (fun _ z => nomatch z), ?_⟩
        cases q : F4 D with
        | none => rfl
        | some u =>
          rcases w4.new D u q with z | z
          · rw [nF] at z; cases z
          · rw [hDl] at z; cases z
      cases b with
      | true =>
        refine hte _ _ _ ⟨p, c3, _, F3, _, s2.e.fwd w3 ok3, q3, fun yd c4 v F4 H4 w4 ok4 r4 q4 => ?_⟩
        have w24 := w23.trans w4
        obtain ⟨d1, d2⟩ := keepD w24
        have rl := (r.mono w24.frz).app (RepL.single r4)
        have w14 := w.trans w24
        refine ⟨acc, d1, ?_, c4, F4, acc ++ [v], ds ++ [yd], ⟨w14.frz, fun b u hb n tt => ?_, w14.new, fun b hb => ?_⟩, ⟨fun b u hb => ?_, fun b hb => ?_, tabs_put ok4.tab d1, ok4.nt⟩, upd_same, d2, rl, by rw [List.length_append]; exact Nat.succ_le_succ dl, ?_⟩
        · have := r.len
          rw [line16, this]
          have := wk.1
          omega
        · rw [upd_ne (ne_of_none hb n1)]
          exact w14.keep b u hb n tt
        · by_cases e : b = D
          · subst e; exact n1
          · rw [upd_ne e] at hb; exact w14.there b hb
        · rw [upd_ne (ne_of_none hb d2)]
          exact ok4.sub b u hb
        · obtain ⟨⟨x, y, z, h, rr⟩, n⟩ := ok4.pot b hb
          have ne : b ≠ D := fun e => n3 (e ▸ hb)
          exact ⟨⟨x, y, z, by rw [upd_ne ne]; exact h, rr⟩, n⟩
        · have e : (fun ys c => Q' (ds ++ [yd] ++ ys) c) = fun ys c => Q' (ds ++ (yd :: ys)) c := by
            funext ys c
            rw [List.append_assoc]
            rfl
          rw [e]
          exact q4
      | false =>
        obtain ⟨d1, d2⟩ := keepD w23
        exact ⟨c3, F3, acc, ds, w.trans w23, ok3, d1, d2, r.mono w23.frz, Nat.le_succ_of_le dl, q3⟩
  · have ei : items.drop i = [] := List.drop_eq_nil_of_le (by omega)
    rw [ei] at hc
    have hc' : Q' (ds ++ []) c := hc
    rw [List.append_nil] at hc'
    exact .inl ⟨stop (by omega), tl ds c D acc F2 H2 (w1.trans w) ok (w1.there D n1) nF n3 hDl r hc'⟩
/-- what a comprehension's parts are, whichever block runs them -/
theorem fx_comp (hc : X.calm = true) (hN : X.N.Nodup) (hi : IX X tg iter fi) (ok : BlkOk X.N X.env.scope scope own) {gl : TG}
    (hg : ∀ (s : Shared) (H : Hp) (C : Addr) (cl : List (Str × Addr)) (fp : List Addr), PG (X.blk s H scope (compEnvC scope cl C X.env) fp) tg gl)
    (kg : KG X.K is gg gl)
    {t : TT} (ht : ∀ (s : Shared) (H : Hp) (C : Addr) (cl : List (Str × Addr)) (fp : List Addr), PTs (X.blk s H scope (compEnvC scope cl C X.env) fp) ifs t)
    (kt : KT3 X.K ft t)
    (he : ∀ (s : Shared) (H : Hp) (C : Addr) (cl : List (Str × Addr)) (fp : List Addr), EX (X.blk s H scope (compEnvC scope cl C X.env) fp) elt fe)
    (his : ∀ j ∈ is, j ∈ own.map (·.2)) (hs : ∀ x, foldedSetIterable iter X.env x = pure x := by intro _; rfl) : FX X (.ListComp elt [⟨tg, iter, ifs, 0⟩] scope pos) (fComp fi gg ft fe (own.map (·.2))) := by
  obtain ⟨wi, pi, ki⟩ := hi.ex
  exact PE.imp (pe_lc hc hN pi ok hg ht he hs) fun σ H Q h => comp_w his (fun _ _ _ h => h) ki kg.k kt.k h
end

/-! ### a def -/
theorem start_get {n : Nat} {ds : List D} {i : Nat} {x : SV} (h : (start3 n ds)[i]? = some x) : (∃ d, ds[i]? = some d ∧ x = .val d) ∨ x = .no := by
  unfold start3 at h
  by_cases hi : i < (ds.map SV.val).length
  · rw [List.getElem?_append_left hi, List.getElem?_map] at h
    obtain ⟨d, e1, e2⟩ := Option.map_eq_some_iff.mp h
    exact .inl ⟨d, e1, e2.symm⟩
  · rw [List.getElem?_append_right (by omega), List.getElem?_replicate] at h
    split at h
    · exact .inr (Option.some.inj h).symm
    · cases h
theorem start_ok {K : PySem.W.Frag} {p : Pn} {c : Nat} {F H : Hp} {N : List Str} {ds : List D} {vs : List V} (ok : Ok3 p c F H) (r : RepL K p F ds vs) : SSt K p c (start3 N.length ds) (start N vs) F H F H := by
  have hl := r.len
  refine ⟨ok, .refl .., ?_, fun i d e => ?_, fun i l e => ?_, fun i j l m a e1 _ _ _ => ?_, fun i ks l e => ?_, fun i j ks ks' l m a e1 _ _ _ => ?_⟩
  · unfold start3 L2.start
    simp only [List.length_append, List.length_map, List.length_replicate, hl]
  · rcases start_get e with ⟨d', e1, e2⟩ | e2
    · cases e2
      obtain ⟨v, g1, g2⟩ := r.get e1
      refine ⟨v, ?_, g2⟩
      unfold L2.start
      rw [List.getElem?_append_left (by rw [List.length_map]; exact (List.getElem?_eq_some_iff.mp g1).1), List.getElem?_map, g1]
      rfl
    · cases e2
  · rcases start_get e with ⟨d', e1, e2⟩ | e2 <;> cases e2
  · rcases start_get e1 with ⟨d', _, e2⟩ | e2 <;> cases e2
  · rcases start_get e with ⟨d', e1, e2⟩ | e2 <;> cases e2
  · rcases start_get e1 with ⟨d', _, e2⟩ | e2 <;> cases e2
/-- THE RULE for a def: its body's reading g, and the plain fact that g gives what m says -/
theorem fn3 {P : Program} {w : World} {K : PySem.W.Frag} {mg : Str → Option Value} {base : Heap} {x qual : Str} {st : Stmt} {f : Addr} {fd : FuncData} {N ps : List Str} {k n : Nat} {m : FM} {g : FS}
    (F : Fun K x qual st f fd) (S : FnScope N ps (defScope st)) (hn : ps.length = n) (hp : ∀ ds c Q, m ds c Q → runM N.length g ds c Q)
    (hbody : ∀ (cdv : Value) (A : Around) (outer : List Env) (s : Shared) (H : Hp) (E : XK), Room k (A.deeper (envOfC qual (defScope st) s.heap.objs.size f cdv)) →
      BX (cxOf CX0 P w K mg base N qual (defScope st) f cdv A outer s H E).nox (defBody st) g) : FnOk P w K mg base CX0 (k + 1) f fd ps (spM K n m) := by
  refine F.ok S (fun vs H Q E h => h.1.trans hn.symm) fun cdv A outer s H vs Q E hr ⟨hl, p, c, F1, ds, Q', ok, r, h, t⟩ => ?_
  refine ⟨_, hbody cdv A outer s H E hr, p, c, start3 N.length ds, F1, F1, H, _, start_ok ok r, hp ds c Q' h, fun c ρ σ F' H' s q => ?_, fun _ _ _ _ _ _ q => q.elim, fun _ _ _ _ _ _ q => q.elim, t⟩
  exact t .non c .non F' H' s.ent s.ok rfl q
/-- a promise told by another reading -/
theorem fn3_imp {P : Program} {w : World} {K : PySem.W.Frag} {mg : Str → Option Value} {base : Heap} {CX : CXT} {k n : Nat} {f : Addr} {fd : FuncData} {ps : List Str} {m m' : FM} (G : FnOk P w K mg base CX k f fd ps (spM K n m)) (h : ∀ ds c Q, m' ds c Q → m ds c Q) :
    FnOk P w K mg base CX k f fd ps (spM K n m') := G.imp fun vs H Q E ⟨hl, p, c, F1, ds, Q', ok, r, q, t⟩ => ⟨hl, p, c, F1, ds, Q', ok, r, h _ _ _ q, t⟩
end L3

/-! L3, more rules: what is walked. -/
namespace L3
open PySem PySem.Spec PyProof.Rows L2
section
variable {K : PySem.W.Frag} {X : Cx} {e a b tg : Expr} {es : List Expr} {fa fb : FE} {fr : FA} {pos : Pos}
def iSeqW (K : PySem.W.Frag) (tl : TE) : TI := fun σ H R => tl σ H fun x H1 => (∃ a xs, x = .ref a ∧ SqL K H1 a xs ∧ (xs.length ≤ sizeLine → R (Itl K a) H1)) ∨ (∃ a xs, x = .ref a ∧ SqT K H1 a xs ∧ (xs.length ≤ sizeLine → R (Itt K a) H1))
theorem pi_seqW {l : Expr} {tl : TE} (hl : PE X l tl) : PI X tg l (iSeqW X.K tl) := by
  refine ⟨fun pins s σ H R I h => ?_⟩
  refine thn (hl.run pins s σ H _ I h) fun v s1 ⟨x, H1, I1, r1, q1⟩ => ?_
  rcases q1 with ⟨a, xs, e, hq, q⟩ | ⟨a, xs, e, hq, q⟩
  · subst e
    cases r1
    obtain ⟨its, rv, p, hz⟩ := I1.list hq
    refine wpAny_pyIter_list p.isList ?_
    refine ⟨s1.heap.objs.size, [s1.heap.objs.size], _, _, H1, rfl, I1.kept (t' := s1.toks) fun b o e => Heap.get?_push_of_some _ e, turn_list a _, ⟨_, Heap.get?_push_size _ rfl, rfl, rfl⟩, fun b hb => ?_, q hz⟩
    have e : b = s1.heap.objs.size := by simpa using hb
    subst e
    exact I1.fpOk (Nat.le_refl _) (I1.hok.fresh (Nat.le_refl _))
  · subst e
    cases r1
    obtain ⟨its, rv, p, hz⟩ := I1.tuple hq
    refine wpAny_pyIter_tuple (show s1.heap.IsTuple a its.toArray from p) ?_
    refine ⟨s1.heap.objs.size, [s1.heap.objs.size], _, _, H1, rfl, I1.kept (t' := s1.toks) fun b o e => Heap.get?_push_of_some _ e, turn_tuple a _, ⟨_, Heap.get?_push_size _ rfl, rfl, rfl⟩, fun b hb => ?_, q hz⟩
    have e : b = s1.heap.objs.size := by simpa using hb
    subst e
    exact I1.fpOk (Nat.le_refl _) (I1.hok.fresh (Nat.le_refl _))
theorem ix_seq (h : EX X e fa) : IX X tg e (iSeq fa) := ⟨_, pi_seqW h, fun σ H p c ρ F Q' R es h k => ⟨p, c, ρ, F, _, es, h, fun x c1 v F1 H1 w1 ok1 r1 q1 => by
  split at q1
  · obtain ⟨a, xs, rfl, h1, rl⟩ := r1
    exact .inl ⟨a, xs, rfl, .of (ok1.sub _ _ h1), fun hz => k _ c1 F1 H1 _ w1 ok1 (walks_list h1 rl (by rw [line16, rl.len] at hz; exact hz)) q1⟩
  · obtain ⟨a, xs, rfl, h1, rl⟩ := r1
    exact .inr ⟨a, xs, rfl, ok1.sqT h1, fun hz => k _ c1 F1 H1 _ w1 ok1 (walks_tup h1 rl (by rw [line16, rl.len] at hz; exact hz)) q1⟩
  · exact q1.elim⟩⟩
/-! enumerate -/
def IteT (K : PySem.W.Frag) (a : Addr) : It :=
  ⟨fun i H => ∃ (xs : List V) (x : V), SqT K H a xs ∧ xs[i]? = some x, fun i H v H' => ∃ T x, v = .ref T ∧ H T = none ∧ H' = upd H T (.tup [.int (i : Nat), x]) ∧ ∀ xs, SqT K H a xs → xs[i]? = some x, fun i H => ∃ xs : List V, SqT K H a xs ∧ xs.length = i⟩
theorem turn_enumT {P : Program} {w : World} {K : PySem.W.Frag} {elts : List Expr} {kk : Nat} {tpos : Pos} (a e it : Addr) :
    Turn P w K (.Tuple elts kk tpos) (IteT K a) [e, it] e (fun i h => (∃ old, IsEnum h e it ((i : Nat) : Int) old) ∧ h.IsTupleIter it a i ∧ e ≠ it ∧ a ≠ it ∧ e ≠ a) where
  mem := by simp
  obj := fun i h st b hb => by
    obtain ⟨⟨old, he⟩, ⟨o, ho, hc, hd⟩, _⟩ := st
    have e' : b = e ∨ b = it := by simpa using hb
    rcases e' with z | z
    · rw [z]; exact ⟨_, he, fun v q => nomatch q⟩
    · rw [z]; exact ⟨o, ho, fun v q => by rw [hd] at q; cases q⟩
  keep := fun i h h' st k => let ⟨⟨old, he⟩, hi, hne⟩ := st; ⟨⟨old, k e (by simp) _ he⟩, hi.at fun o q => k it (by simp) o q, hne⟩
  item := by
    intro X hP hw hK hc i pins s σ H E I hf st hg
    subst hP hw hK
    obtain ⟨⟨old, he⟩, hit, hne, hna, hea⟩ := st
    obtain ⟨xs, x, hq, hx⟩ := hg
    obtain ⟨its, rv, p, hz⟩ := I.tuple hq
    obtain ⟨u, hu, ru⟩ := rv.get hx
    have hel : e < s.heap.objs.size := Heap.lt_size he
    have hil : it < s.heap.objs.size := by obtain ⟨_, q, _⟩ := hit; exact Heap.lt_size q
    have hi : i < its.toArray.size := by
      have := (List.getElem?_eq_some_iff.mp hu).1
      simpa using this
    refine wpAny_pyNext_enum_itemC (Draws.tuple (A := X.A.in1) (show X.A.in1.handled = none from I.ok.hd hc) it a hna its.toArray) he ⟨hit, p⟩ hi hne (by simp [hne, hea]) fun y h' tk hP ho hs' hT hsz hk => ?_
    have ey : y = u := by
      have hP' : its.toArray[i]? = some y := hP
      rw [show its.toArray[i]? = its[i]? by simp, hu] at hP'
      exact (Option.some.inj hP').symm
    subst ey
    refine ⟨_, rfl, wpAny_letOwnedTupleGo_enum (s := { s with heap := h', toks := tk + 1 }) ho fun h'' he' sb => ?_⟩
    have hT2 : h''.get? s.heap.objs.size = some { cls := .type "tuple", data := .seq #[.int i tk, y] } := (sb.2 _ (Nat.ne_of_gt hel)).trans hT
    have new : ObjOk X.prog X.w (upd H s.heap.objs.size (.tup [.int (i : Nat), x])) h'' s.heap.objs.size (.tup [.int (i : Nat), x]) :=
      ⟨by show 2 ≤ sizeLine; decide, [.int i tk, y], .cons ⟨_, rfl⟩ (.cons ru .nil), ⟨_, hT2, rfl, _, rfl⟩⟩
    have I1 : Inv X pins σ (upd H s.heap.objs.size (.tup [.int (i : Nat), x])) { s with heap := h'', toks := tk + 1 } :=
      I.turnedNew (ch := [e, it]) (fun b ob hb q => (sb.2 b (fun z => hb (by simp [z]))).trans (hk b ob (fun z => hb (by simp [z])) (fun z => hb (by simp [z])) q)) hf (Nat.le_refl _) new
    refine ⟨.ref s.heap.objs.size, _, I1, rfl, ⟨_, x, rfl, I.hok.fresh (Nat.le_refl _), rfl, fun ys hy => by rw [I.tuple_inj hy hq]; exact hx⟩, ⟨⟨y, ?_⟩, hs'.1.at fun o q => (sb.2 it (Ne.symm hne)).trans q, hne, hna, hea⟩, fun b hb => ?_⟩
    · have e1 : ((i + 1 : Nat) : Int) = (i : Int) + 1 := by omega
      rw [e1]; exact he'
    · have hb' : b < s.heap.objs.size := by
        have e' : b = e ∨ b = it := by simpa using hb
        rcases e' with z | z
        · rw [z]; exact hel
        · rw [z]; exact hil
      rw [upd_ne (Nat.ne_of_lt hb')]
      exact (hf b hb).1
  done := by
    intro X hP hw hK hc i pins s σ H E I hf st hg
    subst hP hw hK
    obtain ⟨⟨old, he⟩, hit, hne, hna, hea⟩ := st
    obtain ⟨xs, hq, hx⟩ := hg
    obtain ⟨its, rv, p, hz⟩ := I.tuple hq
    obtain ⟨f0, f1, f2, f3, f4, f5⟩ := hf it (by simp)
    have hl := rv.length
    have en : its.toArray.size = i := by simp; omega
    refine wpAny_pyNext_enum_endD (i := ((i : Nat) : Int)) (Draws.tuple (A := X.A.in1) (show X.A.in1.handled = none from I.ok.hd hc) it a hna its.toArray) he ?_ fun h' eb => ⟨rfl, I.turned (t' := s.toks) (fun b o hb q => eb b o hb q) f0 f1 f3 f4 f5⟩
    rw [en]
    exact ⟨hit, p⟩
  self := fun A i s Q E st h => let ⟨⟨_, he⟩, _⟩ := st; wpAny_pyIter_enum he h
set_option maxHeartbeats 1000000 in
theorem meets_enumerate_newB1 {v : Value} {o : Obj} {H : Heap → Prop} (B : Begins v o H) :
    Meets (Builtin.«enumerate.__new__» ⟨[.type "enumerate", v], []⟩) (fun _ R s => H s.heap ∧
      R (.ok (.ret (.ref (s.heap.push o).objs.size))) { s with heap := (s.heap.push o).push { cls := .type "enumerate", data := .fields #[.none, .bool false, .ref s.heap.objs.size, rawInt 0, .none, .none] } }) :=
  .of_wp fun prog w A R s h => by
    obtain ⟨hp, g, d, tk, os⟩ := s; obtain ⟨h1, h⟩ := h
    have hsub := sub_enumerate
    have q1 : ∀ {A' : Around} {E : Value → Shared → Prop} {Q : Value → Shared → Prop}, Q (.ref hp.objs.size) ⟨hp.push o, g, d, tk, os⟩ → wpAny (model prog w) A' (pyIter v) Q E ⟨hp, g, d, tk, os⟩ :=
      fun q => B.iter prog w _ _ ⟨hp, g, d, tk, os⟩ _ h1 q
    wp_walk using q1
    refine wpAny_stack_any fun st => wpAny_pure ?_
    split
    · rename_i c _ _ _ _ _
      cases (c == Value.type "enumerate")
      · wp_walk using q1
        exact ⟨_, rfl, h⟩
      · wp_walk using q1
        exact ⟨_, rfl, h⟩
    · wp_walk using q1
      exact ⟨_, rfl, h⟩
theorem call_enumerate_B {prog : Program} {w : World} {A : Around} {E : Value → Shared → Prop} {s : Shared} {v : Value} {o : Obj} {H : Heap → Prop} {Q : Value → Shared → Prop} (B : Begins v o H) (h1 : H s.heap)
    (h : ∀ h', IsEnum h' (s.heap.objs.size + 1) s.heap.objs.size 0 .none → h'.get? s.heap.objs.size = some o → h'.objs.size = s.heap.objs.size + 2 →
      (∀ b o, s.heap.get? b = some o → h'.get? b = some o) → Q (.ref (s.heap.objs.size + 1)) { s with heap := h' }) :
    wpAny (model prog w) A (call (.type "enumerate") [v]) Q E s := by
  refine callType_new PySem.F.called_enumerate (by decide) (PySem.F.typeCall_enumerate_1 _) (PySem.F.newCall_enumerate_1 _) (fun obj => PySem.F.args_object_init_2 obj _) PySem.F.entry_enumerate_new
    (meets_enumerate_newB1 B) ⟨h1, ?_⟩
  have hz : (s.heap.push o).objs.size = s.heap.objs.size + 1 := Heap.size_push ..
  show _ ∧ _
  rw [hz]
  have he : IsEnum ((s.heap.push o).push { cls := .type "enumerate", data := .fields #[.none, .bool false, .ref s.heap.objs.size, rawInt 0, .none, .none] }) (s.heap.objs.size + 1) s.heap.objs.size 0 .none := by
    have := Heap.get?_push_size (s.heap.push o) (o := { cls := .type "enumerate", data := .fields #[.none, .bool false, .ref s.heap.objs.size, rawInt 0, .none, .none] }) rfl
    rw [hz] at this; exact this
  refine ⟨⟨_, he, rfl⟩, h _ he (Heap.get?_push_of_some _ (Heap.get?_push_size _ B.free)) (by rw [Heap.size_push, hz]) fun b o x => Heap.get?_push_of_some _ (Heap.get?_push_of_some _ x)⟩
def iEnumT (K : PySem.W.Frag) (ta : TA) : TI := fun σ H R => ta σ H fun vs H1 => ∃ a xs, vs = [.ref a] ∧ ((SqL K H1 a xs ∧ (xs.length ≤ sizeLine → R (Ite K a) H1)) ∨ (SqT K H1 a xs ∧ (xs.length ≤ sizeLine → R (IteT K a) H1)))
theorem pi_enumT {X : Cx} {e : Expr} {ta : TA} {p pos tpos : Pos} {elts : List Expr} {kk : Nat} (hg : Gl X "enumerate") (hm : X.mg "enumerate" = none) (ha : PA X [e] ta) (hs : starEach [e] X.env = [(false, eval e X.env)] := by rfl) :
    PI X (.Tuple elts kk tpos) (.Call (.Name "enumerate" p) [e] [] pos) (iEnumT X.K ta) := by
  refine ⟨fun pins s σ H R I h => ?_⟩
  refine Call_ (ld_blt I hg hm PyProof.Rows.boot_enumerate (PyProof.Rows.callWith_type1 (thn (ha.run pos pins s σ H _ I h) fun us s1 ⟨vs, H1, I1, r1, q1⟩ => ?_) hs rfl))
  obtain ⟨a, xs, ex, q1⟩ := q1
  subst ex
  cases r1 with
  | cons r rr =>
    cases rr
    cases r
    have fresh2 : ∀ b, b ∈ [s1.heap.objs.size + 1, s1.heap.objs.size] → FpOk X pins H1 b := fun b hb => by
      have e' : b = s1.heap.objs.size + 1 ∨ b = s1.heap.objs.size := by simpa using hb
      have hle : s1.heap.objs.size ≤ b := by
        rcases e' with z | z
        · rw [z]; exact Nat.le_add_right _ _
        · rw [z]; exact Nat.le_refl _
      exact I1.fpOk hle (I1.hok.fresh hle)
    rcases q1 with ⟨hq, q⟩ | ⟨hq, q⟩
    · obtain ⟨its, rv, p', hz⟩ := I1.list hq
      refine call_enumerate_list p'.isList fun h' he hit hsz hk => wpAny_pyIter_enum he ?_
      have I2 : Inv X pins σ H1 { s1 with heap := h' } := I1.kept (t' := s1.toks) hk
      exact ⟨s1.heap.objs.size + 1, [s1.heap.objs.size + 1, s1.heap.objs.size], _, _, H1, rfl, I2, turn_enum a (s1.heap.objs.size + 1) s1.heap.objs.size, ⟨⟨.none, he⟩, hit, Nat.succ_ne_self _⟩, fresh2, q hz⟩
    · obtain ⟨its, rv, p', hz⟩ := I1.tuple hq
      have hta : s1.heap.IsTuple a its.toArray := p'
      have hal : a < s1.heap.objs.size := p'.lt
      refine call_enumerate_B (begins_tuple a its.toArray) hta fun h' he hit hsz hk => wpAny_pyIter_enum he ?_
      have I2 : Inv X pins σ H1 { s1 with heap := h' } := I1.kept (t' := s1.toks) hk
      exact ⟨s1.heap.objs.size + 1, [s1.heap.objs.size + 1, s1.heap.objs.size], _, _, H1, rfl, I2, turn_enumT a (s1.heap.objs.size + 1) s1.heap.objs.size, ⟨⟨.none, he⟩, ⟨_, hit, rfl, rfl⟩, Nat.succ_ne_self _, Nat.ne_of_lt hal, Nat.ne_of_gt (Nat.lt_succ_of_lt hal)⟩, fresh2, q hz⟩
def enumL (n : Nat) : List D → List D
  | [] => []
  | d :: l => .tup [.int n, d] :: enumL (n + 1) l
theorem enumL_len : ∀ (n : Nat) (l : List D), (enumL n l).length = l.length
  | _, [] => rfl
  | n, d :: l => by show (enumL (n + 1) l).length + 1 = l.length + 1; rw [enumL_len]
theorem enumL_get : ∀ (n : Nat) (l : List D) (i : Nat) (d : D), l[i]? = some d → (enumL n l)[i]? = some (.tup [.int ((n + i : Nat) : Int), d])
  | _, [], _, _, h => by simp at h
  | n, x :: l, 0, d, h => by
    cases (show some x = some d from h)
    rfl
  | n, x :: l, i + 1, d, h => by
    have := enumL_get (n + 1) l i d h
    rw [show n + 1 + i = n + (i + 1) by omega] at this
    exact this
@[simp ↓] def iEnum3 (fe : FE) : FI := fun ρ c Q => fe ρ c fun x c => match x with
  | .lst l => Q (enumL 0 l) c
  | .tup l => Q (enumL 0 l) c
  | _ => False
theorem pair_new {p : Pn} {c : Nat} {F H : Hp} {T : Addr} {x y : V} {d d' : D} (ok : Ok3 p c F H) (n : H T = none) (r : Rep K p F d x) (r' : Rep K p F d' y) : ∃ F', Fwd p F H F' (upd H T (.tup [x, y])) ∧ Ok3 p c F' (upd H T (.tup [x, y])) ∧ Rep K p F' (.tup [d, d']) (.ref T) := by
  obtain ⟨w, ok'⟩ := Fwd.laid ok n (.tup [x, y])
  exact ⟨_, w, ok', T, [x, y], rfl, .of upd_same, x, [y], rfl, r.mono w.frz, y, [], rfl, r'.mono w.frz, rfl⟩
theorem ix_enum {p' tpos : Pos} {elts : List Expr} {kk : Nat} (hm : X.mg "enumerate" = none) (ha : EX X e fa) (hg : Gl X "enumerate" := by rfl) (hs : starEach [e] X.env = [(false, eval e X.env)] := by rfl) : IX X (.Tuple elts kk tpos) (.Call (.Name "enumerate" p') [e] [] pos) (iEnum3 fa) :=
  ⟨_, pi_enumT hg hm (pa_cons ha pa_nil hs) hs, fun σ H p c ρ F Q' R es h k => ⟨p, c, ρ, F, _, es, h, fun x c1 v F1 H1 w1 ok1 r1 q1 => by
  split at q1
  · rename_i l
    obtain ⟨a, xs, rfl, h1, rl⟩ := r1
    refine ⟨a, xs, rfl, .inl ⟨.of (ok1.sub _ _ h1), fun hz => k _ c1 F1 H1 _ w1 ok1 ⟨by rw [enumL_len, ← rl.len, ← line16]; exact hz, fun i F H c up ok => ?_⟩ q1⟩⟩
    have hH : SqL X.K H a xs := .of (ok.sub _ _ (up _ _ h1))
    rw [enumL_len]
    refine ⟨fun hi => ⟨⟨xs, xs[i]'(by rw [rl.len]; exact hi), hH, List.getElem?_eq_getElem _⟩, fun y H' hy => ?_⟩, fun hi => ⟨xs, hH, by rw [rl.len]; exact Nat.le_of_eq hi.symm⟩⟩
    obtain ⟨T, z, rfl, nT, rfl, hz⟩ := hy
    obtain ⟨d, e1, e2⟩ := rl.back (hz xs hH)
    obtain ⟨F', w', ok', r'⟩ := pair_new (x := V.int ((i : Nat) : Int)) (d := D.int ((0 + i : Nat) : Int)) ok nT (by rw [Nat.zero_add]; rfl) (e2.mono up)
    exact ⟨F', _, enumL_get 0 l i d e1, w', ok', r'⟩
  · rename_i l
    obtain ⟨a, xs, rfl, h1, rl⟩ := r1
    refine ⟨a, xs, rfl, .inr ⟨ok1.sqT h1, fun hz => k _ c1 F1 H1 _ w1 ok1 ⟨by rw [enumL_len, ← rl.len, ← line16]; exact hz, fun i F H c up ok => ?_⟩ q1⟩⟩
    have hH : SqT X.K H a xs := ok.sqT (Sub.sqT up h1)
    rw [enumL_len]
    refine ⟨fun hi => ⟨⟨xs, xs[i]'(by rw [rl.len]; exact hi), hH, List.getElem?_eq_getElem _⟩, fun y H' hy => ?_⟩, fun hi => ⟨xs, hH, by rw [rl.len]; exact hi.symm⟩⟩
    obtain ⟨T, z, rfl, nT, rfl, hz⟩ := hy
    obtain ⟨d, e1, e2⟩ := rl.back (hz xs hH)
    obtain ⟨F', w', ok', r'⟩ := pair_new (x := V.int ((i : Nat) : Int)) (d := D.int ((0 + i : Nat) : Int)) ok nT (by rw [Nat.zero_add]; rfl) (e2.mono up)
    exact ⟨F', _, enumL_get 0 l i d e1, w', ok', r'⟩
  · exact q1.elim⟩⟩
end
end L3

/-! L3, own lists changed; stores of comprehensions; several targets. -/
namespace L3
open PySem PySem.Spec PyProof.Rows L2
section
variable {K : PySem.W.Frag} {X : Cx} {e a b tg : Expr} {es : List Expr} {fa fb : FE} {fr : FA} {pos : Pos} {f f2 : FL}
/-- x = e, x a value that is a new list -/
@[simp ↓] def sValF (i : Nat) (f : FL) : FS := fun E ρ c => f (ρ.map vA) c fun l c => E.nx (ρ.set i (.val (.lst l))) c
@[simp ↓] def eF (f : FL) : FE := fun ρ c Q => f ρ c fun l c => Q (.lst l) c
/-- what a new list may be, once it is given away -/
theorem own_frz {p : Pn} {c : Nat} {F H F1 H1 : Hp} {l : List D} {q : Addr} {xs : List V} (w1 : Fwd p F H F1 H1) (ok1 : Ok3 p c F1 H1) (n1 : H q = none) (n2 : F1 q = none) (n3 : p.pot ≠ some q) (h1 : H1 q = some (.lst xs)) (r1 : RepL K p F1 l xs) :
    ∃ F', Fwd p F H F' H1 ∧ Ok3 p c F' H1 ∧ Rep K p F' (.lst l) (.ref q) := by
  have up : ∀ b u, F1 b = some u → upd F1 q (.lst xs) b = some u := fun b u h => by rw [upd_ne (ne_of_none h n2)]; exact h
  refine ⟨upd F1 q (.lst xs), ⟨fun b u h => up b u (w1.frz b u h), w1.keep, fun b u h => ?_, w1.there⟩, ⟨fun b u h => ?_, fun b e => ?_, ok1.tab, nt_upd ok1.nt q xs n2⟩, q, xs, rfl, upd_same, r1.mono up⟩
  · by_cases e : b = q
    · subst e; exact .inr n1
    · rw [upd_ne e] at h; exact w1.new b u h
  · by_cases e : b = q
    · subst e; rw [upd_same] at h; cases h; exact h1
    · rw [upd_ne e] at h; exact ok1.sub b u h
  · obtain ⟨z, n⟩ := ok1.pot b e
    have ne : b ≠ q := fun z => n3 (z ▸ e)
    exact ⟨z, by rw [upd_ne ne]; exact n⟩
section comp
variable {elt iter : Expr} {ifs : List Expr} {scope : Scope} {own : List (Str × Nat)} {fi : FI} {gg : FG} {is : List Nat} {fe : FE} {ft : FT} {y : Str} {py spos : Pos}
theorem ps_setC (i : Nat) (hN0 : X.N.Nodup) (hc : X.calm = true) (hN : X.N.Nodup) (hi : IX X tg iter fi) (ok : BlkOk X.N X.env.scope scope own) {gl : TG}
    (hg : ∀ (s : Shared) (H : Hp) (C : Addr) (cl : List (Str × Addr)) (fp : List Addr), PG (X.blk s H scope (compEnvC scope cl C X.env) fp) tg gl) (kg : KG X.K is gg gl)
    {t : TT} (ht : ∀ (s : Shared) (H : Hp) (C : Addr) (cl : List (Str × Addr)) (fp : List Addr), PTs (X.blk s H scope (compEnvC scope cl C X.env) fp) ifs t) (kt : KT3 X.K ft t)
    (he : ∀ (s : Shared) (H : Hp) (C : Addr) (cl : List (Str × Addr)) (fp : List Addr), EX (X.blk s H scope (compEnvC scope cl C X.env) fp) elt fe)
    (his : ∀ j ∈ is, j ∈ own.map (·.2)) (hs : ∀ x, foldedSetIterable iter X.env x = pure x) (hy : X.N[i]? = some y) (hyl : X.env.scope.names.lookup y = some .local)
    (hsw : swapsWith (.ListComp elt [⟨tg, iter, ifs, 0⟩] scope pos) (some (.Name y py)) spos.line X.env = pure true) :
    PS X (.Assign [.Name y py] (.ListComp elt [⟨tg, iter, ifs, 0⟩] scope pos) spos) (tAsg (tF X.K (fComp fi gg ft fe (own.map (·.2)))) (gName i)) := by
  obtain ⟨wi, pi, ki⟩ := hi.ex
  exact PS.imp (ps_setLc hc hN hy hyl hsw pi ok hg ht he hs) fun D σ H h => comp_w his (fun _ _ _ h => h) ki kg.k kt.k h
theorem sx_ownL (i : Nat) (hN0 : X.N.Nodup) (hc : X.calm = true) (hN : X.N.Nodup) (hi : IX X tg iter fi) (ok : BlkOk X.N X.env.scope scope own) {gl : TG}
    (hg : ∀ (s : Shared) (H : Hp) (C : Addr) (cl : List (Str × Addr)) (fp : List Addr), PG (X.blk s H scope (compEnvC scope cl C X.env) fp) tg gl) (kg : KG X.K is gg gl)
    {t : TT} (ht : ∀ (s : Shared) (H : Hp) (C : Addr) (cl : List (Str × Addr)) (fp : List Addr), PTs (X.blk s H scope (compEnvC scope cl C X.env) fp) ifs t) (kt : KT3 X.K ft t)
    (he : ∀ (s : Shared) (H : Hp) (C : Addr) (cl : List (Str × Addr)) (fp : List Addr), EX (X.blk s H scope (compEnvC scope cl C X.env) fp) elt fe)
    (his : ∀ j ∈ is, j ∈ own.map (·.2)) (hs : ∀ x, foldedSetIterable iter X.env x = pure x := by intro _; rfl) (hy : X.N[i]? = some y := by rfl) (hyl : X.env.scope.names.lookup y = some .local := by rfl)
    (hsw : swapsWith (.ListComp elt [⟨tg, iter, ifs, 0⟩] scope pos) (some (.Name y py)) spos.line X.env = pure true := by exact sw_true rfl rfl rfl (by decide +kernel)) :
    SX X (.Assign [.Name y py] (.ListComp elt [⟨tg, iter, ifs, 0⟩] scope pos) spos) (sOwnF i (fComp fi gg ft fe (own.map (·.2)))) :=
  PS.imp (ps_setC i hN0 hc hN hi ok hg kg ht kt he his hs hy hyl hsw) fun D σ H ⟨p, c, ρ, F, F0, H0, E, s, h, t⟩ => ⟨p, c, _, F, _, s.e, h, fun l c1 a xs F1 H1 w1 ok1 n1 n2 n3 h1 r1 q1 => by
    refine t.nx c1 _ _ F1 H1 ((s.fwd w1 ok1).setOwn i h1 n2 (s.ent.there a n1) n3 r1 fun j m e1 e2 => ?_) q1
    obtain ⟨b, ys, g1, g2, _⟩ := s.own j m e1
    rw [e2] at g1
    cases g1
    rw [n1] at g2
    cases g2⟩
theorem sx_ownBL (i : Nat) (hN0 : X.N.Nodup) (hc : X.calm = true) (hN : X.N.Nodup) (hi : IX X tg iter fi) (ok : BlkOk X.N X.env.scope scope own) {gl : TG}
    (hg : ∀ (s : Shared) (H : Hp) (C : Addr) (cl : List (Str × Addr)) (fp : List Addr), PG (X.blk s H scope (compEnvC scope cl C X.env) fp) tg gl) (kg : KG X.K is gg gl)
    {t : TT} (ht : ∀ (s : Shared) (H : Hp) (C : Addr) (cl : List (Str × Addr)) (fp : List Addr), PTs (X.blk s H scope (compEnvC scope cl C X.env) fp) ifs t) (kt : KT3 X.K ft t)
    (he : ∀ (s : Shared) (H : Hp) (C : Addr) (cl : List (Str × Addr)) (fp : List Addr), EX (X.blk s H scope (compEnvC scope cl C X.env) fp) elt fe)
    (his : ∀ j ∈ is, j ∈ own.map (·.2)) (hs : ∀ x, foldedSetIterable iter X.env x = pure x := by intro _; rfl) (hy : X.N[i]? = some y := by rfl) (hyl : X.env.scope.names.lookup y = some .local := by rfl)
    (hsw : swapsWith (.ListComp elt [⟨tg, iter, ifs, 0⟩] scope pos) (some (.Name y py)) spos.line X.env = pure true := by exact sw_true rfl rfl rfl (by decide +kernel)) :
    SX X (.Assign [.Name y py] (.ListComp elt [⟨tg, iter, ifs, 0⟩] scope pos) spos) (sOwnFB i (fComp fi gg ft fe (own.map (·.2)))) :=
  PS.imp (ps_setC i hN0 hc hN hi ok hg kg ht kt he his hs hy hyl hsw) fun D σ H ⟨p, c, ρ, F, F0, H0, E, s, h, t⟩ => by
    obtain ⟨F2, es, w2, k⟩ := s.lend
    refine ⟨p, c, _, F2, _, es, h, fun l c1 a xs F1 H1 w1 ok1 n1 n2 n3 h1 r1 q1 => ?_⟩
    obtain ⟨F3, s3, w3, _, k2, k3⟩ := k c1 F1 H1 w1 ok1
    refine t.nx c1 _ _ F3 H1 (s3.setOwn i h1 (k3 a n2) (s.ent.there a n1) n3 (k2 l xs q1.1 r1) fun j m e1 e2 => ?_) q1.2
    obtain ⟨b, ys, g1, g2, _⟩ := s.own j m e1
    rw [e2] at g1
    cases g1
    rw [n1] at g2
    cases g2
theorem sx_valL (i : Nat) (hN0 : X.N.Nodup) (hc : X.calm = true) (hN : X.N.Nodup) (hi : IX X tg iter fi) (ok : BlkOk X.N X.env.scope scope own) {gl : TG}
    (hg : ∀ (s : Shared) (H : Hp) (C : Addr) (cl : List (Str × Addr)) (fp : List Addr), PG (X.blk s H scope (compEnvC scope cl C X.env) fp) tg gl) (kg : KG X.K is gg gl)
    {t : TT} (ht : ∀ (s : Shared) (H : Hp) (C : Addr) (cl : List (Str × Addr)) (fp : List Addr), PTs (X.blk s H scope (compEnvC scope cl C X.env) fp) ifs t) (kt : KT3 X.K ft t)
    (he : ∀ (s : Shared) (H : Hp) (C : Addr) (cl : List (Str × Addr)) (fp : List Addr), EX (X.blk s H scope (compEnvC scope cl C X.env) fp) elt fe)
    (his : ∀ j ∈ is, j ∈ own.map (·.2)) (hs : ∀ x, foldedSetIterable iter X.env x = pure x := by intro _; rfl) (hy : X.N[i]? = some y := by rfl) (hyl : X.env.scope.names.lookup y = some .local := by rfl)
    (hsw : swapsWith (.ListComp elt [⟨tg, iter, ifs, 0⟩] scope pos) (some (.Name y py)) spos.line X.env = pure true := by exact sw_true rfl rfl rfl (by decide +kernel)) :
    SX X (.Assign [.Name y py] (.ListComp elt [⟨tg, iter, ifs, 0⟩] scope pos) spos) (sValF i (fComp fi gg ft fe (own.map (·.2)))) :=
  PS.imp (ps_setC i hN0 hc hN hi ok hg kg ht kt he his hs hy hyl hsw) fun D σ H ⟨p, c, ρ, F, F0, H0, E, s, h, t⟩ => ⟨p, c, _, F, _, s.e, h, fun l c1 a xs F1 H1 w1 ok1 n1 n2 n3 h1 r1 q1 => by
    obtain ⟨F', w', ok', r'⟩ := own_frz w1 ok1 n1 n2 n3 h1 r1
    exact t.nx c1 _ _ F' H1 ((s.fwd w' ok').set i r') q1⟩
end comp
/-! methods and stores -/
/-- x.extend(a new list) -/
@[simp ↓] def sExt (i : Nat) (f : FL) : FS := fun E ρ c => match ρ[i]? with
  | some (.own l) => f (ρ.map vA) c fun m c => l.length + m.length ≤ 16777216 ∧ E.nx (ρ.set i (.own (l ++ m))) c
  | _ => False
theorem sx_ext (i : Nat) (h : PE X e (tBM X.K "list" rExtend (tVar i) (tCons (tF X.K f) tNil))) (hsw : swapsWith e none pos.line X.env = pure false := by rfl) : SX X (.Expr e pos) (sExt i f) :=
  PS.imp (ps_expr h hsw) fun D σ H ⟨p, c, ρ, F, F0, H0, E, s, h, t⟩ => by
  unfold sExt at h
  split at h
  · rename_i l hi
    obtain ⟨a, xs, e1, e2, e3, e4, e5, r0⟩ := s.own i l hi
    refine ⟨_, e1, .inl ⟨rfl, _, .inl (.inl e2)⟩, p, c, _, F, _, s.e, h, fun m c1 b ys F1 H1 w1 ok1 n1 n2 n3 h1 r1 q1 => ?_⟩
    have s1 := s.fwd w1 ok1
    obtain ⟨a', xs', g1, g2, g3, g4, g5, r0'⟩ := s1.own i l hi
    rw [e1] at g1
    cases g1
    exact ⟨a, b, xs', ys, rfl, rfl, g2, h1, by rw [line16, r0'.len, r1.len]; exact q1.1, t.nx c1 _ _ F1 _ (s1.put hi e1 (r0'.app r1)) q1.2⟩
  · exact h.elim
def sExtB (i : Nat) (f : FL) : FS := fun E ρ c => match ρ[i]? with
  | some (.own l) => f (ρ.map vB) c fun m c => noLstL m = true ∧ l.length + m.length ≤ 16777216 ∧ E.nx (ρ.set i (.own (l ++ m))) c
  | _ => False
theorem sx_extB (i : Nat) (h : PE X e (tBM X.K "list" rExtend (tVar i) (tCons (tF X.K f) tNil))) (hsw : swapsWith e none pos.line X.env = pure false := by rfl) : SX X (.Expr e pos) (sExtB i f) :=
  PS.imp (ps_expr h hsw) fun D σ H ⟨p, c, ρ, F, F0, H0, E, s, h, t⟩ => by
  unfold sExtB at h
  split at h
  · rename_i l hi
    obtain ⟨a, xs, e1, e2, e3, e4, e5, r0⟩ := s.own i l hi
    obtain ⟨F2, es, w2, k⟩ := s.lend
    refine ⟨_, e1, .inl ⟨rfl, _, .inl (.inl e2)⟩, p, c, _, F2, _, es, h, fun m c1 b ys F1 H1 w1 ok1 n1 n2 n3 h1 r1 q1 => ?_⟩
    obtain ⟨F3, s1, w3, k1, k2, _⟩ := k c1 F1 H1 w1 ok1
    obtain ⟨a', xs', g1, g2, g3, g4, g5, r0'⟩ := s1.own i l hi
    rw [e1] at g1
    cases g1
    exact ⟨a, b, xs', ys, rfl, rfl, g2, h1, by rw [line16, r0'.len, r1.len]; exact q1.2.1, t.nx c1 _ _ F3 _ (s1.put hi e1 (r0'.app (k2 _ _ q1.1 r1))) q1.2.2⟩
  · exact h.elim
/-- x.pop(i) as a statement -/
@[simp ↓] def sPopAt (i : Nat) (fe : FE) : FS := fun E ρ c => match ρ[i]? with
  | some (.own l) => fe (ρ.map vB) c fun d c => match d with
    | .int k => (0 ≤ k ∧ k < l.length ∧ k < 2 ^ 62) ∧ E.nx (ρ.set i (.own (l.eraseIdx k.toNat))) c
    | _ => False
  | _ => False
abbrev sPopAtB := sPopAt
theorem RepL.erase {p : Pn} {F : Hp} : ∀ {l : List D} {xs : List V} (n : Nat), RepL K p F l xs → RepL K p F (l.eraseIdx n) (xs.eraseIdx n)
  | [], _, n, h => by cases h; exact rfl
  | d :: l, _, 0, h => by
    obtain ⟨x, r, rfl, _, h⟩ := h
    exact h
  | d :: l, _, n + 1, h => by
    obtain ⟨x, r, rfl, h1, h⟩ := h
    exact ⟨x, _, rfl, h1, RepL.erase n h⟩
theorem seq_ix {k : Int} {n : Nat} (h0 : 0 ≤ k) (h1 : k < n) : seqIndex? k n = some k.toNat := by
  have : ixN n k = some k.toNat := by
    unfold ixN
    rw [if_pos h0, if_pos h1]
  exact (ixN_seq this).1
theorem sx_popAt (i : Nat) (h : PE X e (tBM X.K "list" rPopAt (tVar i) (tCons (tE X.K fa) tNil))) (hsw : swapsWith e none pos.line X.env = pure false := by rfl) : SX X (.Expr e pos) (sPopAt i fa) :=
  PS.imp (ps_expr h hsw) fun D σ H ⟨p, c, ρ, F, F0, H0, E, s, h, t⟩ => by
  unfold sPopAt at h
  split at h
  · rename_i l hi
    obtain ⟨a, xs, e1, e2, e3, e4, e5, r0⟩ := s.own i l hi
    obtain ⟨F2, es, w2, k⟩ := s.lend
    refine ⟨_, e1, .inl ⟨rfl, _, .inl (.inl e2)⟩, p, c, _, F2, _, es, h, fun d c1 v F1 H1 w1 ok1 r1 q1 => ?_⟩
    obtain ⟨F3, s1, w3, k1, k2, _⟩ := k c1 F1 H1 w1 ok1
    obtain ⟨a', xs', g1, g2, g3, g4, g5, r0'⟩ := s1.own i l hi
    rw [e1] at g1
    cases g1
    split at q1
    · rename_i j
      cases (show v = .int j from r1)
      obtain ⟨⟨j0, j1, j2⟩, q⟩ := q1
      have hl := r0'.len
      have hlt : j.toNat < xs'.length := by omega
      exact ⟨a, xs', j, j.toNat, xs'[j.toNat], rfl, rfl, g2, by omega, by omega, by rw [hl]; exact seq_ix j0 j1, List.getElem?_eq_getElem hlt, t.nx c1 _ _ F3 _ (s1.put hi e1 (r0'.erase _)) q⟩
    · exact q1.elim
  · exact h.elim
/-- x.append(y.pop(i)) -/
@[simp ↓] def sAppPop (i j : Nat) (fe : FE) : FS := fun E ρ c => match ρ[i]?, ρ[j]? with
  | some (.own l), some (.own m) => fe (ρ.map vB) c fun d c => match d with
    | .int k => (0 ≤ k ∧ k < m.length ∧ k < 2 ^ 62 ∧ l.length < 16777216) ∧ ∀ x, m[k.toNat]? = some x → E.nx ((ρ.set j (.own (m.eraseIdx k.toNat))).set i (.own (l ++ [x]))) c
    | _ => False
  | _, _ => False
abbrev sAppPopB := sAppPop
theorem sx_appPop (i j : Nat) (h : PE X e (tBM X.K "list" rAppend (tVar i) (tCons (tBM X.K "list" rPopAt (tVar j) (tCons (tE X.K fa) tNil)) tNil))) (hij : i ≠ j := by decide) (hsw : swapsWith e none pos.line X.env = pure false := by rfl) : SX X (.Expr e pos) (sAppPop i j fa) :=
  PS.imp (ps_expr h hsw) fun D σ H ⟨p, c, ρ, F, F0, H0, E, s, h, t⟩ => by
  unfold sAppPop at h
  split at h
  · rename_i l m hi hj
    obtain ⟨a, xs, e1, e2, e3, e4, e5, r0⟩ := s.own i l hi
    obtain ⟨b, ys, f1, f2, f3, f4, f5, r00⟩ := s.own j m hj
    obtain ⟨F2, es, w2, k⟩ := s.lend
    refine ⟨_, e1, .inl ⟨rfl, _, .inl (.inl e2)⟩, _, f1, .inl ⟨rfl, _, .inl (.inl f2)⟩, p, c, _, F2, _, es, h, fun d c1 v F1 H1 w1 ok1 r1 q1 => ?_⟩
    obtain ⟨F3, s1, w3, k1, k2, _⟩ := k c1 F1 H1 w1 ok1
    obtain ⟨b', ys', g1, g2, g3, g4, g5, r0'⟩ := s1.own j m hj
    rw [f1] at g1
    cases g1
    split at q1
    · rename_i kk
      cases (show v = .int kk from r1)
      obtain ⟨⟨j0, j1, j2, j3⟩, q⟩ := q1
      have hl := r0'.len
      have hlt : kk.toNat < ys'.length := by omega
      obtain ⟨x, m1, m2⟩ := r0'.back (List.getElem?_eq_getElem hlt)
      have s2 := s1.put hj f1 (r0'.erase kk.toNat)
      have hi2 : (ρ.set j (SV.own (m.eraseIdx kk.toNat)))[i]? = some (SV.own l) := by rw [List.getElem?_set_ne (Ne.symm hij)]; exact hi
      obtain ⟨a2, xs2, z1, z2, z3, z4, z5, z6⟩ := s2.own i l hi2
      rw [e1] at z1
      cases z1
      refine ⟨b, ys', kk, kk.toNat, ys'[kk.toNat], rfl, rfl, g2, by omega, by omega, by rw [hl]; exact seq_ix j0 j1, List.getElem?_eq_getElem hlt, ?_⟩
      exact ⟨a, xs2, _, rfl, rfl, z2, by rw [line16, z6.len]; exact j3, t.nx c1 _ _ F3 _ (s2.put hi2 e1 (z6.app (RepL.single m2))) (q x m1)⟩
    · exact q1.elim
  · exact h.elim
/-- x.insert(i, e) -/
@[simp ↓] def sIns (i : Nat) (fi fe : FE) : FS := fun E ρ c => match ρ[i]? with
  | some (.own l) => fi (ρ.map vB) c fun d c => fe (ρ.map vB) c fun y c => match d with
    | .int k => (0 ≤ k ∧ k < 2 ^ 62 ∧ l.length < 16777216) ∧ noLst y = true ∧ E.nx (ρ.set i (.own (l.take k.toNat ++ [y] ++ l.drop k.toNat))) c
    | _ => False
  | _ => False
abbrev rInsert : V → List V → Hp → VK → Prop := fun x vs H Q => ∃ (l : Addr) (xs : List V) (i : Int) (y : V), x = .ref l ∧ vs = [.int i, y] ∧ H l = some (.lst xs) ∧ xs.length < sizeLine ∧ 0 ≤ i ∧ i < 2 ^ 63 ∧ Q .non (upd H l (.lst (xs.take i.toNat ++ [y] ++ xs.drop i.toNat)))
theorem sx_ins (i : Nat) (h : PE X e (tBM X.K "list" rInsert (tVar i) (tCons (tE X.K fa) (tCons (tE X.K fb) tNil)))) (hsw : swapsWith e none pos.line X.env = pure false := by rfl) : SX X (.Expr e pos) (sIns i fa fb) :=
  PS.imp (ps_expr h hsw) fun D σ H ⟨p, c, ρ, F, F0, H0, E, s, h, t⟩ => by
  unfold sIns at h
  split at h
  · rename_i l hi
    obtain ⟨a, xs, e1, e2, e3, e4, e5, r0⟩ := s.own i l hi
    obtain ⟨F2, es, w2, k⟩ := s.lend
    refine ⟨_, e1, .inl ⟨rfl, _, .inl (.inl e2)⟩, p, c, _, F2, _, es, h, fun d c1 v F1 H1 w1 ok1 r1 q1 => ⟨p, c1, _, F1, _, es.fwd w1 ok1, q1, fun y c4 u F4 H4 w4 ok4 r4 q4 => ?_⟩⟩
    obtain ⟨F3, s1, w3, k1, k2, _⟩ := k c4 F4 H4 (w1.trans w4) ok4
    obtain ⟨a', xs', g1, g2, g3, g4, g5, r0'⟩ := s1.own i l hi
    rw [e1] at g1
    cases g1
    split at q4
    · rename_i j
      cases (show v = .int j from r1)
      obtain ⟨⟨j0, j1, j2⟩, nl, q⟩ := q4
      exact ⟨a, xs', j, u, rfl, rfl, g2, by rw [line16, r0'.len]; exact j2, j0, by omega, t.nx c4 _ _ F3 _ (s1.put hi e1 (((r0'.take _).app (RepL.single (k1 _ _ nl r4))).app (r0'.drop _))) q⟩
    · exact q4.elim
  · exact h.elim
/-- x[i] = e -/
@[simp ↓] def sSet (i : Nat) (fe fi : FE) : FS := fun E ρ c => match ρ[i]? with
  | some (.own l) => fe (ρ.map vB) c fun y c => fi (ρ.map vB) c fun d c => match d with
    | .int k => (0 ≤ k ∧ k < l.length) ∧ noLst y = true ∧ E.nx (ρ.set i (.own (l.set k.toNat y))) c
    | _ => False
  | _ => False
abbrev sSetB := sSet
theorem RepL.set {p : Pn} {F : Hp} {d : D} {v : V} (hd : Rep K p F d v) : ∀ {l : List D} {xs : List V} (n : Nat), RepL K p F l xs → RepL K p F (l.set n d) (xs.set n v)
  | [], _, n, h => by cases h; exact rfl
  | _ :: l, _, 0, h => by
    obtain ⟨x, r, rfl, _, h⟩ := h
    exact ⟨v, r, rfl, hd, h⟩
  | _ :: l, _, n + 1, h => by
    obtain ⟨x, r, rfl, h1, h⟩ := h
    exact ⟨x, _, rfl, h1, RepL.set hd n h⟩
theorem sx_setB {st : Stmt} (i : Nat) (h : PS X st (tAsg (tE X.K fa) (gSub (tVar i) (tE X.K fb) rSetL))) : SX X st (sSet i fa fb) := PS.imp h fun D σ H ⟨p, c, ρ, F, F0, H0, E, s, h, t⟩ => by
  unfold sSet at h
  split at h
  · rename_i l hi
    obtain ⟨a, xs, e1, e2, e3, e4, e5, r0⟩ := s.own i l hi
    obtain ⟨F2, es, w2, k⟩ := s.lend
    refine ⟨p, c, _, F2, _, es, h, fun y c1 v F1 H1 w1 ok1 r1 q1 => ⟨_, e1, p, c1, _, F1, _, es.fwd w1 ok1, q1, fun d c4 u F4 H4 w4 ok4 r4 q4 => ?_⟩⟩
    obtain ⟨F3, s1, w3, k1, k2, _⟩ := k c4 F4 H4 (w1.trans w4) ok4
    obtain ⟨a', xs', g1, g2, g3, g4, g5, r0'⟩ := s1.own i l hi
    rw [e1] at g1
    cases g1
    split at q4
    · rename_i j
      cases (show u = .int j from r4)
      obtain ⟨⟨j0, j1⟩, nl, q⟩ := q4
      exact ⟨a, xs', j, j.toNat, rfl, rfl, g2, by rw [r0'.len]; unfold ixN; rw [if_pos j0, if_pos j1], t.nx c4 _ _ F3 _ (s1.put hi e1 (RepL.set (k1 _ _ nl (r1.mono w4.frz)) _ r0')) q⟩
    · exact q4.elim
  · exact h.elim
theorem sx_set {st : Stmt} (i : Nat) (h : PS X st (tAsg (tE X.K fa) (gSub (tVar i) (tE X.K fb) rSetL))) : SX X st (sSet i fa fb) := sx_setB i h
/-- x[i], x[j] = e -/
@[simp ↓] def sSwap (i : Nat) (fe fi fj : FE) : FS := fun E ρ c => match ρ[i]? with
  | some (.own l) => fe (ρ.map vB) c fun y c => match y with
    | .tup [y, z] => fi (ρ.map vB) c fun d c => match d with
      | .int k => (0 ≤ k ∧ k < l.length) ∧ noLst y = true ∧ noLst z = true ∧ fj ((ρ.set i (.own (l.set k.toNat y))).map vB) c fun d c => match d with
        | .int m => (0 ≤ m ∧ m < l.length) ∧ E.nx (ρ.set i (.own ((l.set k.toNat y).set m.toNat z))) c
        | _ => False
      | _ => False
    | _ => False
  | _ => False
theorem sx_swap {st : Stmt} {fj : FE} (i : Nat) (h : PS X st (tAsg (tE X.K fa) (gTup X.K 2 (gCons (gSub (tVar i) (tE X.K fb) rSetL) (gCons (gSub (tVar i) (tE X.K fj) rSetL) gNil))))) : SX X st (sSwap i fa fb fj) := PS.imp h fun D σ H ⟨p, c, ρ, F, F0, H0, E, s, h, t⟩ => by
  unfold sSwap at h
  split at h
  · rename_i l hi
    obtain ⟨a, xs, e1, e2, e3, e4, e5, r0⟩ := s.own i l hi
    obtain ⟨F2, es, w2, k⟩ := s.lend
    refine ⟨p, c, _, F2, _, es, h, fun y c1 v F1 H1 w1 ok1 r1 q1 => ?_⟩
    split at q1
    · rename_i y z
      obtain ⟨tp, tys, rfl, ht, rt⟩ := r1
      obtain ⟨v1, v2, rfl, ry, rz⟩ := rt.two
      refine ⟨tp, [v1, v2], rfl, ok1.sqT ht, rfl, v1, [v2], rfl, _, e1, p, c1, _, F1, _, es.fwd w1 ok1, q1, fun d c4 u F4 H4 w4 ok4 r4 q4 => ?_⟩
      obtain ⟨F3, s1, w3, k1, k2, _⟩ := k c4 F4 H4 (w1.trans w4) ok4
      obtain ⟨a', xs', g1, g2, g3, g4, g5, r0'⟩ := s1.own i l hi
      rw [e1] at g1
      cases g1
      split at q4
      · rename_i j
        cases (show u = .int j from r4)
        obtain ⟨⟨j0, j1⟩, ny, nz, q⟩ := q4
        have hil : i < ρ.length := (List.getElem?_eq_some_iff.mp hi).1
        have s5 := s1.put hi e1 (RepL.set (k1 _ _ ny (ry.mono w4.frz)) j.toNat r0')
        have rz5 := k1 _ _ nz (rz.mono w4.frz)
        refine ⟨a, xs', j, j.toNat, rfl, rfl, g2, by rw [r0'.len]; unfold ixN; rw [if_pos j0, if_pos j1], v2, [], rfl, _, e1, ?_⟩
        obtain ⟨F6, es6, w6, k6⟩ := s5.lend
        refine ⟨p, c4, _, F6, _, es6, q, fun d c7 u F7 H7 w7 ok7 r7 q7 => ?_⟩
        obtain ⟨F8, s8, w8, k8, _⟩ := k6 c7 F7 H7 w7 ok7
        have hi8 : (ρ.set i (SV.own (l.set j.toNat y)))[i]? = some (SV.own (l.set j.toNat y)) := List.getElem?_set_self hil
        obtain ⟨a8, xs8, z1, z2, z3, z4, z5, z6⟩ := s8.own i _ hi8
        rw [e1] at z1
        cases z1
        split at q7
        · rename_i m
          cases (show u = .int m from r7)
          obtain ⟨⟨m0, m1⟩, q⟩ := q7
          have hl8 := z6.len
          rw [List.length_set] at hl8
          refine ⟨a, xs8, m, m.toNat, rfl, rfl, z2, by rw [hl8]; unfold ixN; rw [if_pos m0, if_pos m1], rfl, ?_⟩
          have s9 := s8.put hi8 e1 (RepL.set (rz5.mono w8.frz) m.toNat z6)
          rw [List.set_set] at s9
          exact t.nx c7 _ _ F8 _ s9 q
        · exact q7.elim
      · exact q4.elim
    · exact q1.elim
  · exact h.elim
end
end L3

/-! L3, more built-ins. -/
namespace L3
open PySem PySem.Spec PyProof.Rows L2
section
variable {K : PySem.W.Frag} {X : Cx} {e a b tg : Expr} {es : List Expr} {fa fb : FE} {fr : FA} {pos : Pos} {f f2 : FL}
/-! in, not in: data at any depth -/
@[simp ↓] def inD : D → D → Nat → KD → Prop
  | x, .lst l, c, Q => (pyD 64 x = true ∧ pyDL 63 l = true) ∧ Q (.bl (l.any fun z => eqvD z x)) c
  | x, .tup l, c, Q => (pyD 64 x = true ∧ pyDL 63 l = true) ∧ Q (.bl (l.any fun z => eqvD z x)) c
  | _, _, _, _ => False
@[simp ↓] def ninD : D → D → Nat → KD → Prop
  | x, .lst l, c, Q => (pyD 64 x = true ∧ pyDL 63 l = true) ∧ Q (.bl (!l.any fun z => eqvD z x)) c
  | x, .tup l, c, Q => (pyD 64 x = true ∧ pyDL 63 l = true) ∧ Q (.bl (!l.any fun z => eqvD z x)) c
  | _, _, _, _ => False
theorem any_toPy : ∀ {l : List D} {ds : List PyData} {x : D} {d : PyData}, toPyL l = some ds → toPy x = some d → (ds.any fun z => PyData.eqv z d) = l.any fun z => eqvD z x
  | [], _, _, _, h, _ => by
    simp [toPyL] at h
    subst h
    rfl
  | y :: l, _, x, _, h, hx => by
    unfold toPyL at h
    split at h
    · rename_i e r e1 e2
      cases h
      rw [List.any_cons, List.any_cons, eqv_toPy y x e1 hx, any_toPy e2 hx]
    · cases h
theorem shapedL_of {ds : List PyData} (h1 : PyData.canLayAll0 ds = true) (h2 : PyData.depthAll ds ≤ 63) : SeqAt.shaped (.list ds) = true := shaped_of (by unfold PyData.canLay0; exact h1) (by unfold PyData.depth; omega)
theorem shapedT_of {ds : List PyData} (h1 : PyData.canLayAll0 ds = true) (h2 : PyData.depthAll ds ≤ 63) : SeqAt.shaped (.tuple ds) = true := shaped_of (by unfold PyData.canLay0; exact h1) (by unfold PyData.depth; omega)
def rIn3 (K : PySem.W.Frag) : R2 := fun x y H Q => ∃ d ds, Dp K H x d ∧ (Dp K H y (.list ds) ∧ SeqAt.shaped (.list ds) = true ∨ Dp K H y (.tuple ds) ∧ SeqAt.shaped (.tuple ds) = true) ∧ SeqAt.shaped d = true ∧ Q (.bl (ds.any fun z => PyData.eqv z d)) H
def rNin3 (K : PySem.W.Frag) : R2 := fun x y H Q => ∃ d ds, Dp K H x d ∧ (Dp K H y (.list ds) ∧ SeqAt.shaped (.list ds) = true ∨ Dp K H y (.tuple ds) ∧ SeqAt.shaped (.tuple ds) = true) ∧ SeqAt.shaped d = true ∧ Q (.bl (!ds.any fun z => PyData.eqv z d)) H
theorem room_in_t {d : PyData} {ds : List PyData} {u : Nat} (sd : SeqAt.shaped d = true) (hu : u + 65 < cLine) : u + 1 + min (PyData.depthAll ds) d.depth < cLine := by
  have h : d.depth ≤ 64 := by
    unfold SeqAt.shaped at sd
    rw [Bool.and_eq_true] at sd
    exact of_decide_eq_true sd.2
  have := Nat.min_le_right (PyData.depthAll ds) d.depth
  omega
theorem op_in3 (hu : X.A.units + 65 < cLine) : OpR X (compareOp .In) (rIn3 X.K) := by
  intro pins s σ H x y v u Q I rx ry h
  obtain ⟨d, ds, hd, he, sd, q⟩ := h
  obtain ⟨as, r1⟩ := Dp.reads I d x v hd rx
  rcases he with ⟨he, se⟩ | ⟨he, se⟩
  · obtain ⟨bs, r2⟩ := Dp.reads I (.list ds) y u he ry
    exact SeqAt.in_list_reads r2 r1 (SeqAt.canLay_of_shaped se) (SeqAt.canLay_of_shaped sd) (room_in_t sd hu) ⟨.bl _, H, I, rfl, q⟩
  · obtain ⟨bs, r2⟩ := Dp.reads I (.tuple ds) y u he ry
    exact SeqAt.in_tuple_reads r2 r1 (SeqAt.canLay_of_shaped se) (SeqAt.canLay_of_shaped sd) (room_in_t sd hu) ⟨.bl _, H, I, rfl, q⟩
theorem op_nin3 (hu : X.A.units + 65 < cLine) : OpR X (compareOp .NotIn) (rNin3 X.K) := by
  intro pins s σ H x y v u Q I rx ry h
  obtain ⟨d, ds, hd, he, sd, q⟩ := h
  obtain ⟨as, r1⟩ := Dp.reads I d x v hd rx
  rcases he with ⟨he, se⟩ | ⟨he, se⟩
  · obtain ⟨bs, r2⟩ := Dp.reads I (.list ds) y u he ry
    exact SeqAt.notIn_list_reads r2 r1 (SeqAt.canLay_of_shaped se) (SeqAt.canLay_of_shaped sd) (room_in_t sd hu) ⟨.bl _, H, I, rfl, q⟩
  · obtain ⟨bs, r2⟩ := Dp.reads I (.tuple ds) y u he ry
    exact SeqAt.notIn_tuple_reads r2 r1 (SeqAt.canLay_of_shaped se) (SeqAt.canLay_of_shaped sd) (room_in_t sd hu) ⟨.bl _, H, I, rfl, q⟩
theorem inS : OpS K (rIn3 K) inD := by
  intro p c F H x y v u Q' Q ok rx ry h t
  unfold inD at h
  split at h
  · obtain ⟨⟨p1, p2⟩, h⟩ := h
    obtain ⟨d, h1, a1, a2⟩ := toPy_of p1
    obtain ⟨ds, h2, b1, b2⟩ := toPyL_of p2
    rw [← any_toPy h2 h1] at h
    exact ⟨d, ds, rx.dp ok.sub h1, .inl ⟨ry.dp ok.sub (show toPy (.lst _) = some (.list ds) by unfold toPy; rw [h2]; rfl), shapedL_of b1 b2⟩, shaped_of a1 a2, tellBl ok t h⟩
  · obtain ⟨⟨p1, p2⟩, h⟩ := h
    obtain ⟨d, h1, a1, a2⟩ := toPy_of p1
    obtain ⟨ds, h2, b1, b2⟩ := toPyL_of p2
    rw [← any_toPy h2 h1] at h
    exact ⟨d, ds, rx.dp ok.sub h1, .inr ⟨ry.dp ok.sub (show toPy (.tup _) = some (.tuple ds) by unfold toPy; rw [h2]; rfl), shapedT_of b1 b2⟩, shaped_of a1 a2, tellBl ok t h⟩
  · exact h.elim
theorem ninS : OpS K (rNin3 K) ninD := by
  intro p c F H x y v u Q' Q ok rx ry h t
  unfold ninD at h
  split at h
  · obtain ⟨⟨p1, p2⟩, h⟩ := h
    obtain ⟨d, h1, a1, a2⟩ := toPy_of p1
    obtain ⟨ds, h2, b1, b2⟩ := toPyL_of p2
    rw [← any_toPy h2 h1] at h
    exact ⟨d, ds, rx.dp ok.sub h1, .inl ⟨ry.dp ok.sub (show toPy (.lst _) = some (.list ds) by unfold toPy; rw [h2]; rfl), shapedL_of b1 b2⟩, shaped_of a1 a2, tellBl ok t h⟩
  · obtain ⟨⟨p1, p2⟩, h⟩ := h
    obtain ⟨d, h1, a1, a2⟩ := toPy_of p1
    obtain ⟨ds, h2, b1, b2⟩ := toPyL_of p2
    rw [← any_toPy h2 h1] at h
    exact ⟨d, ds, rx.dp ok.sub h1, .inr ⟨ry.dp ok.sub (show toPy (.tup _) = some (.tuple ds) by unfold toPy; rw [h2]; rfl), shapedT_of b1 b2⟩, shaped_of a1 a2, tellBl ok t h⟩
  · exact h.elim
/-! is True, is False -/
@[simp ↓] def isBD : D → D → Nat → KD → Prop
  | .bl x, .bl y, c, Q => Q (.bl (decide (x = y))) c
  | _, _, _, _ => False
@[simp ↓] def isNotBD : D → D → Nat → KD → Prop
  | .bl x, .bl y, c, Q => Q (.bl (!decide (x = y))) c
  | _, _, _, _ => False
theorem isBS : OpS K rIsB isBD := by
  intro p c F H x y v u Q' Q ok rx ry h t
  unfold isBD at h
  split at h
  · rename_i i j
    cases (show v = .bl i from rx)
    cases (show u = .bl j from ry)
    exact ⟨i, j, rfl, rfl, tellBl ok t h⟩
  · exact h.elim
theorem isNotBS : OpS K rNotB isNotBD := by
  intro p c F H x y v u Q' Q ok rx ry h t
  unfold isNotBD at h
  split at h
  · rename_i i j
    cases (show v = .bl i from rx)
    cases (show u = .bl j from ry)
    exact ⟨i, j, rfl, rfl, tellBl ok t h⟩
  · exact h.elim
/-! three targets -/
@[simp ↓] def sPar3 (i j k : Nat) (fr : FA) : FS := fun E ρ c => fr (ρ.map vA) c fun l c => match l with | [x, y, z] => E.nx (((ρ.set i (.val x)).set j (.val y)).set k (.val z)) c | _ => False
theorem sx_par3 {i j k : Nat} {c : Expr} {x y z : Str} {px py pz pt : Pos} {kt k2 pt2} (hc : X.calm = true) (hN : X.N.Nodup) (ha : AX X [a, b, c] fr) (hij : i ≠ j := by decide) (hil : i ≠ k := by decide) (hjl : j ≠ k := by decide) (hi : X.N[i]? = some x := by rfl) (hj : X.N[j]? = some y := by rfl) (hl : X.N[k]? = some z := by rfl)
    (hx : X.env.scope.names.lookup x = some .local := by rfl) (hy : X.env.scope.names.lookup y = some .local := by rfl) (hz : X.env.scope.names.lookup z = some .local := by rfl)
    (hw : swappedStores [.Tuple [.Name x px, .Name y py, .Name z pz] kt pt] (.Tuple [a, b, c] k2 pt2) X.env = pure (some [x, y, z]) := by rfl)
    (hs : swapsWithSole [.Tuple [.Name x px, .Name y py, .Name z pz] kt pt] (.Tuple [a, b, c] k2 pt2) pos.line X.env = pure false := by rfl) :
    SX X (.Assign [.Tuple [.Name x px, .Name y py, .Name z pz] kt pt] (.Tuple [a, b, c] k2 pt2) pos) (sPar3 i j k fr) := by
  refine PS.imp (ps_par3 hc hN hi hj hl hij hil hjl hx hy hz ha hw hs) fun D σ H ⟨p, c, ρ, F, F0, H0, E, s, h, t⟩ => ⟨p, c, _, F, _, s.e, h, fun l c1 vs F1 H1 w1 ok1 r1 q1 => ?_⟩
  split at q1
  · obtain ⟨v, r, rfl, r1, r2⟩ := r1
    obtain ⟨u, w, rfl, r2, r3⟩ := r2.two
    exact ⟨v, u, w, rfl, t.nx c1 _ _ F1 H1 ((((s.fwd w1 ok1).set i r1).set j r2).set k r3) q1⟩
  · exact q1.elim
/-! a list taken apart -/
theorem pg_lst {es : List Expr} {k : Nat} {t : TGs} {n : Nat} (hc : X.calm = true) (h : PGs X es t) (hn : (assignEach es X.env).length = n := by rfl) (hst : (assignEach es X.env).findIdx? (·.1) = none := by rfl) : PG X (.Tuple es k pos) (gUnl X.K n t) := pg_unl hc h hn hst
theorem kg_lst {is : List Nat} {gs : FGs} {gls : TGs} {n : Nat} (h1 : KGs K is gs gls) : KG K is (gLs n gs) (gUnl K n gls) := ⟨fun p c ρ σ F H F0 H0 d v k kk s r h q => by
  unfold gLs at h
  split at h
  · obtain ⟨a, xs, rfl, e1, r1⟩ := r
    exact ⟨a, xs, rfl, .of (s.ok.sub _ _ e1), by rw [r1.len]; exact h.1, h1.k p c ρ σ F H F0 H0 _ _ _ _ s r1 h.2 q⟩
  · exact h.elim⟩
/-! ranges -/
def rangeC (lo c : Int) (n : Nat) : List D := (List.range n).map fun k => .int (lo + (k : Nat) * c)
theorem rangeC_get (lo c : Int) (n i : Nat) (h : i < n) : (rangeC lo c n)[i]? = some (.int (lo + (i : Nat) * c)) := by
  unfold rangeC
  rw [List.getElem?_map, List.getElem?_range h]
  rfl
theorem rangeC_len (lo c : Int) (n : Nat) : (rangeC lo c n).length = n := by
  unfold rangeC
  rw [List.length_map, List.length_range]
/-- range(i, j, k) -/
def rszL (i j k : Int) : Nat := (Builtin.Range.rangeSize i j k).toNat
theorem rsz_le {i j k : Int} (hi : i.natAbs ≤ 8000000) (hj : j.natAbs ≤ 8000000) : rszL i j k ≤ 16777216 := by
  have := PyProof.Rows.rangeSize_toNat_le i j k
  unfold rszL
  omega
theorem rgc_of {i j k : Int} (k0 : k ≠ 0) (k1 : k.natAbs < 1073741824) (hi : i.natAbs ≤ 8000000) (hj : j.natAbs ≤ 8000000) : RgC i j k (rszL i j k) := by
  have hn := PyProof.Rows.rangeSize_toNat i j k
  have hl := PyProof.Rows.rangeSize_toNat_le i j k
  refine ⟨k0, k1, ?_, hn⟩
  unfold Builtin.Range.small
  generalize Builtin.Range.rangeSize i j k = z at hn hl
  by_cases kp : k > 0
  · simp only [Builtin.Range.rangeFitsLong, Bool.and_eq_true, Bool.or_eq_true, decide_eq_true_eq, beq_iff_eq, if_pos kp]
    omega
  · simp only [Builtin.Range.rangeFitsLong, Bool.and_eq_true, Bool.or_eq_true, decide_eq_true_eq, beq_iff_eq, if_neg kp]
    omega
@[simp ↓] def iR3 (fa : FA) : FI := fun ρ c Q => fa ρ c fun l c => match l with
  | [.int i, .int j, .int k] => (k ≠ 0 ∧ k.natAbs < 1073741824 ∧ i.natAbs ≤ 8000000 ∧ j.natAbs ≤ 8000000) ∧ Q (rangeC i k (rszL i j k)) c
  | _ => False
theorem ix_range3 {a b c : Expr} {p' pos : Pos} (hm : X.mg "range" = none) (ha : AX X [a, b, c] fr) (hg : Gl X "range" := by rfl) (hs : starEach [a, b, c] X.env = (false, eval a X.env) :: starEach [b, c] X.env := by rfl) (hpl : (backTo pos (starEach [b, c] X.env)).any (·.1) = false := by rfl) : IX X tg (.Call (.Name "range" p') [a, b, c] [] pos) (iR3 fr) :=
  ⟨_, pi_range3 hg hm ha hs hpl, fun σ H p c ρ F Q' R es h k => ⟨p, c, ρ, F, _, es, h, fun l c1 vs F1 H1 w1 ok1 r1 q1 => by
  split at q1
  · rename_i i j kk
    obtain ⟨⟨b1, b2, b3, b4⟩, q⟩ := q1
    obtain ⟨v, r, rfl, e1, r2⟩ := r1
    obtain ⟨v2, v3, rfl, e2, e3⟩ := r2.two
    cases (show v = .int i from e1)
    cases (show v2 = .int j from e2)
    cases (show v3 = .int kk from e3)
    refine ⟨i, j, kk, rszL i j kk, rfl, rgc_of b1 b2 b3 b4, k _ c1 F1 H1 _ w1 ok1 ⟨by rw [rangeC_len]; exact rsz_le b3 b4, fun n F H c up ok => ?_⟩ q⟩
    rw [rangeC_len]
    refine ⟨fun hi => ⟨hi, fun x H' y => ?_⟩, fun hi => Nat.le_of_eq hi.symm⟩
    obtain ⟨rfl, rfl⟩ := y
    exact ⟨F, _, rangeC_get i kk _ n hi, .refl .., ok, rfl⟩
  · exact q1.elim⟩⟩
@[simp ↓] def fRange1 (fa : FA) : FL := fun ρ c Q => fa ρ c fun l c => match l with
  | [.int j] => (0 ≤ j ∧ j ≤ 16777216) ∧ Q (rangeL 0 j.toNat) c
  | _ => False
@[simp ↓] def fRange2 (fa : FA) : FL := fun ρ c Q => fa ρ c fun l c => match l with
  | [.int i, .int j] => (0 ≤ i ∧ i ≤ 16777216 ∧ 0 ≤ j ∧ j ≤ 16777216) ∧ Q (rangeL i (j - i).toNat) c
  | _ => False
theorem rep_rg {p : Pn} {F : Hp} (a : Int) : ∀ (l : List Nat), RepL K p F (l.map fun k => D.int (a + (k : Nat))) (l.map fun k => V.int (a + (k : Nat)))
  | [] => rfl
  | k :: l => ⟨_, _, rfl, rfl, rep_rg a l⟩
theorem fx_range1 {x : Expr} {p p2 p3 : Pos} (hm : X.mg "list" = none) (hm2 : X.mg "range" = none) (hx : EX X x fa) (hc : X.calm = true := by rfl) (hg : Gl X "list" := by rfl) (hg2 : Gl X "range" := by rfl)
    (na : starEach [x] X.env = (false, eval x X.env) :: starEach [] X.env := by rfl) (na2 : starEach [.Call (.Name "range" p) [x] [] p2] X.env = (false, eval (.Call (.Name "range" p) [x] [] p2) X.env) :: starEach [] X.env := by rfl) :
    FX X (.Call (.Name "list" p3) [.Call (.Name "range" p) [x] [] p2] [] pos) (fRange1 (aCons fa aNil)) := PE.imp (pe_listRg hc hg hm (prg_1 hg2 hm2 hx na) na2) fun σ H Q ⟨p, c, ρ, F, Q', es, h, t⟩ =>
  ⟨p, c, ρ, F, _, es, h, fun d c1 v F1 H1 w1 ok1 r1 q1 => by
    have q1 : (match [d] with | [.int j] => (0 ≤ j ∧ j ≤ 16777216) ∧ Q' (rangeL 0 j.toNat) c1 | _ => False) := q1
    split at q1
    · rename_i j e
      cases e
      cases (show v = .int j from r1)
      refine ⟨j, rfl, ⟨by decide, by decide, by omega, by omega, by omega⟩, fun q nq => ?_⟩
      obtain ⟨w, ok, n1, n2, n3⟩ := layL w1 ok1 nq (rgV 0 j)
      refine t (rangeL 0 j.toNat) c1 q (rgV 0 j) F1 _ w ok n1 n2 n3 upd_same ?_ q1.2
      unfold rgV rangeL
      rw [show j - 0 = j by omega]
      exact rep_rg 0 _
    · exact q1.elim⟩
/-! zip -/
def zipL : List D → List D → List D
  | x :: l, y :: m => .tup [x, y] :: zipL l m
  | _, _ => []
theorem zipL_len : ∀ l m : List D, (zipL l m).length = min l.length m.length
  | [], _ => by simp [zipL]
  | _ :: _, [] => by simp [zipL]
  | x :: l, y :: m => by
    show (zipL l m).length + 1 = min (l.length + 1) (m.length + 1)
    rw [zipL_len, Nat.add_min_add_right]
theorem zipL_get : ∀ (l m : List D) (i : Nat) (x y : D), l[i]? = some x → m[i]? = some y → (zipL l m)[i]? = some (.tup [x, y])
  | [], _, _, _, _, h, _ => by simp at h
  | _ :: _, [], _, _, _, _, h => by simp at h
  | x :: l, y :: m, 0, _, _, h, h' => by
    cases (show some x = some _ from h)
    cases (show some y = some _ from h')
    rfl
  | x :: l, y :: m, i + 1, _, _, h, h' => zipL_get l m i _ _ h h'
@[simp ↓] def iZip3 (fa fb : FE) : FI := fun ρ c Q => fa ρ c fun x c => fb ρ c fun y c => match x, y with
  | .lst l, .lst m => (l.length ≤ 16777216 ∧ m.length ≤ 16777216) ∧ Q (zipL l m) c
  | .tup l, .tup m => (l.length ≤ 16777216 ∧ m.length ≤ 16777216) ∧ Q (zipL l m) c
  | _, _ => False
theorem ix_zip {p' tpos : Pos} {elts : List Expr} {kk : Nat} (hm : X.mg "zip" = none) (ha : EX X a fa) (hb : EX X b fb) (hg : Gl X "zip" := by rfl) (hs1 : starEach [b] X.env = (false, eval b X.env) :: starEach [] X.env := by rfl) (hs : starEach [a, b] X.env = (false, eval a X.env) :: starEach [b] X.env := by rfl) (hpl : (backTo pos (starEach [b] X.env)).any (·.1) = false := by rfl) :
    IX X (.Tuple elts kk tpos) (.Call (.Name "zip" p') [a, b] [] pos) (iZip3 fa fb) :=
  ⟨_, RZ.pi_zipA hg hm (pa_cons ha (pa_cons hb pa_nil hs1) hs) hs hpl, fun σ H p c ρ F Q' R es h k => ⟨p, c, ρ, F, _, es, h, fun x c1 v F1 H1 w1 ok1 r1 q1 => ⟨p, c1, ρ, F1, _, es.fwd w1 ok1, q1, fun y c2 u F2 H2 w2 ok2 r2 q2 => by
  split at q2
  · rename_i l m
    obtain ⟨a1, xs, rfl, h1, rl⟩ := r1.mono w2.frz
    obtain ⟨a2, ys, rfl, h2, rm⟩ := r2
    refine ⟨a1, a2, xs, ys, rfl, .inl ⟨.of (ok2.sub _ _ h1), .of (ok2.sub _ _ h2), k _ c2 F2 H2 _ (w1.trans w2) ok2 ⟨by rw [zipL_len]; omega, fun i F H c up ok => ?_⟩ q2.2⟩⟩
    have hH1 : SqL X.K H a1 xs := .of (ok.sub _ _ (up _ _ h1))
    have hH2 : SqL X.K H a2 ys := .of (ok.sub _ _ (up _ _ h2))
    rw [zipL_len]
    refine ⟨fun hi => ⟨⟨xs, ys, xs[i]'(by rw [rl.len]; omega), ys[i]'(by rw [rm.len]; omega), hH1, hH2, List.getElem?_eq_getElem _, List.getElem?_eq_getElem _⟩, fun z H' hy => ?_⟩, fun hi => ⟨xs, ys, hH1, hH2, by rw [rl.len, rm.len]; omega⟩⟩
    obtain ⟨T, x1, y1, rfl, nT, rfl, g1, g2⟩ := hy
    obtain ⟨d, e1, e2⟩ := rl.back (g1 xs hH1)
    obtain ⟨d', e3, e4⟩ := rm.back (g2 ys hH2)
    obtain ⟨F', w', ok', r'⟩ := pair_new ok nT (e2.mono up) (e4.mono up)
    exact ⟨F', _, zipL_get l m i d d' e1 e3, w', ok', r'⟩
  · rename_i l m
    obtain ⟨a1, xs, rfl, h1, rl⟩ := r1.mono w2.frz
    obtain ⟨a2, ys, rfl, h2, rm⟩ := r2
    refine ⟨a1, a2, xs, ys, rfl, .inr ⟨ok2.sqT h1, ok2.sqT h2, k _ c2 F2 H2 _ (w1.trans w2) ok2 ⟨by rw [zipL_len]; omega, fun i F H c up ok => ?_⟩ q2.2⟩⟩
    have hH1 : SqT X.K H a1 xs := ok.sqT (Sub.sqT up h1)
    have hH2 : SqT X.K H a2 ys := ok.sqT (Sub.sqT up h2)
    rw [zipL_len]
    refine ⟨fun hi => ⟨⟨xs, ys, xs[i]'(by rw [rl.len]; omega), ys[i]'(by rw [rm.len]; omega), hH1, hH2, List.getElem?_eq_getElem _, List.getElem?_eq_getElem _⟩, fun z H' hy => ?_⟩, fun hi => ⟨xs, ys, hH1, hH2, by rw [rl.len, rm.len]; omega⟩⟩
    obtain ⟨T, x1, y1, rfl, nT, rfl, g1, g2⟩ := hy
    obtain ⟨d, e1, e2⟩ := rl.back (g1 xs hH1)
    obtain ⟨d', e3, e4⟩ := rm.back (g2 ys hH2)
    obtain ⟨F', w', ok', r'⟩ := pair_new ok nT (e2.mono up) (e4.mono up)
    exact ⟨F', _, zipL_get l m i d d' e1 e3, w', ok', r'⟩
  · exact q2.elim⟩⟩⟩
end
end L3

/-! L3, sorted, index, reversed tuples, sets counted, two own lists. -/
namespace HT
open PySem PySem.Spec PyProof.Rows
section
variable {prog : Program} {w : World} {A : Around} {E : Value → Shared → Prop} {s : Shared}
theorem sliceApplied_rev {sl : Addr} {vs : Value} {n : Nat} {Q : Int × Int × Nat → Shared → Prop} (hs : s.heap.IsSliceOf sl .none .none vs) (ps : IsPart vs (some (-1)))
    (h : Q ((n : Int) - 1, -1, n) s) : wpAny (model prog w) A (Builtin.Slice.sliceApplied (.ref sl) (pure (n : Int))) Q E s := by
  obtain ⟨os, hos, hcs, hds⟩ := id hs
  unfold Builtin.Slice.sliceApplied Builtin.Slice.sliceFields
  refine wpAny_bind (wpAny_bind (wpAny_field hos hds (x := .none) rfl (wpAny_bind (wpAny_field hos hds (x := .none) rfl (wpAny_bind (wpAny_field hos hds (x := vs) rfl (wpAny_pure ?_)))))))
  refine wpAny_bind (slicePart_ ps ?_)
  show wpAny _ _ (if ((-1 : Int) == 0) = true then _ else _) _ _ s
  rw [if_neg (by decide)]
  refine wpAny_bind (slicePart_none (wpAny_bind (slicePart_none (wpAny_bind (wpAny_pure ?_)))))
  show wpAny _ _ (pure ((n : Int) - 1, (-1 : Int), Builtin.Slice.slicePlaces ((n : Int) - 1) (-1) (-1))) _ _ s
  have e : Builtin.Slice.slicePlaces ((n : Int) - 1) (-1) (-1) = n := by
    unfold Builtin.Slice.slicePlaces
    have h1 : ¬ ((-1 : Int) > 0) := by omega
    simp only [h1, if_false]
    split
    · have : (-(-1) : Int) = 1 := rfl
      rw [this, Int.ediv_one]
      omega
    · omega
  rw [e]
  exact wpAny_pure h
theorem fm_map {α β : Type} (f : α → Option β) (g : α → β) : ∀ l : List α, (∀ m ∈ l, f m = some (g m)) → l.filterMap f = l.map g
  | [], _ => rfl
  | a :: l, h => by
    rw [List.filterMap_cons, h a (List.mem_cons_self ..), List.map_cons, fm_map f g l fun m hm => h m (List.mem_cons_of_mem _ hm)]
theorem pick_rev (l : List Value) : (List.range l.length).filterMap (fun (m : Nat) => l.toArray[(((l.length : Int) - 1) + (m : Int) * (-1)).toNat]?) = l.reverse := by
  rw [fm_map _ (fun m => (l.reverse)[m]?.getD .none) _ fun m hm => by
    have hm := List.mem_range.mp hm
    have : (((l.length : Int) - 1) + (m : Int) * (-1)).toNat = l.length - 1 - m := by omega
    rw [this, List.getElem?_reverse hm, List.getElem?_toArray, List.getElem?_eq_getElem (by omega)]
    rfl]
  refine List.ext_getElem (by rw [List.length_map, List.length_range, List.length_reverse]) fun i h1 h2 => ?_
  rw [List.getElem_map, List.getElem_range, List.getElem?_eq_getElem h2]
  rfl
theorem getItem_tuple_rev {t sl : Addr} {its : List Value} {vs : Value} {Q : Value → Shared → Prop} (ht : IsTup s.heap t its.toArray) (hs : s.heap.IsSliceOf sl .none .none vs) (ps : IsPart vs (some (-1)))
    (h : Q (.ref s.heap.objs.size) { s with heap := s.heap.push { cls := .type "tuple", data := .seq its.reverse.toArray } })
    (hsz : its.length ≤ sizeLine) : wpAny (model prog w) A (getItem (.ref t) (.ref sl)) Q E s := by
  have htake : sizeOk (.seq its.reverse.toArray) := by
    show its.reverse.toArray.size ≤ sizeLine
    rw [List.size_toArray, List.length_reverse]
    exact hsz
  obtain ⟨os, hos, hcs, hds⟩ := id hs
  have hTs : s.TypeIs (.ref sl) "slice" := ⟨os, hos, hcs⟩
  unfold getItem
  try with_reducible refine wpAny_holding ?_
  first | refine wpAny_bind (wpAny_pure ?_) | skip
  refine wpAny_bind (wpAny_sequenceKey ht.typeIs (by decide) ?_)
  refine wpAny_bind (wpAny_callSpecial?_slot (name := Str.ofString "__getitem__") ht.typeIs PyProof.Rows.slot_tuple_getitem
    (wpAny_call_entry PyProof.Rows.slot_tuple_getitem ht.typeIs entry_tuple_getitem ?_ (args_tuple_getitem _ _)))
  show wpAny _ _ (Builtin.Tuple.tupleItemsOf (.ref t) >>= _) _ _ s
  refine wpAny_bind (tupleItemsOf_ ht ?_)
  refine wpAny_bind (wpAny_typeOf hTs ?_)
  rw [if_pos (by decide)]
  refine wpAny_bind (sliceApplied_rev hs ps ?_)
  have hno : ¬ ((((its.toArray.size : Nat) : Int) - 1 == 0 && (-1 : Int) == 1 && its.toArray.size == its.toArray.size) = true) := by
    intro q
    rw [Bool.and_eq_true, Bool.and_eq_true] at q
    exact absurd q.1.2 (by decide)
  show wpAny _ _ (if ((((its.toArray.size : Nat) : Int) - 1 == 0 && (-1 : Int) == 1 && its.toArray.size == its.toArray.size) = true) then _ else _) _ _ s
  rw [if_neg hno]
  have e : ((List.range its.toArray.size).filterMap fun (m : Nat) => its.toArray[(((its.toArray.size : Nat) : Int) - 1 + (m : Int) * (-1)).toNat]?).toArray = its.reverse.toArray := congrArg List.toArray (pick_rev its)
  rw [e]
  first
    | exact wpAny_bind (m := Builtin.Tuple.tupleExact _) (wpAny_newObj_type (wpAny_pure ⟨_, rfl, wpAny_pure h⟩) htake)
    | exact wpAny_bind (m := Builtin.Tuple.tupleExact _) (wpAny_newObj_type (wpAny_bind (wpAny_pure (wpAny_pure ⟨_, rfl, wpAny_pure h⟩))) htake)
    | exact wpAny_bind (wpAny_bind (m := Builtin.Tuple.tupleExact _) (wpAny_newObj_type (wpAny_pure (wpAny_pure ⟨_, rfl, wpAny_pure h⟩)) htake))
    | exact wpAny_bind (wpAny_bind (m := Builtin.Tuple.tupleExact _) (wpAny_newObj_type (wpAny_pure ⟨_, rfl, wpAny_pure h⟩) htake))
end
end HT
namespace L2
open PySem PySem.Spec PyProof.Rows
section
variable {X : Cx}
def tRevT (K : PySem.W.Frag) (te : TE) : TE := fun σ H Q => te σ H fun x H1 => ∃ a xs, x = .ref a ∧ SqT K H1 a xs ∧ ∀ p, H1 p = none → Q (.ref p) (upd H1 p (.tup xs.reverse))
theorem pe_revT {e : Expr} {te : TE} {k : Nat} {p1 p2 p3 pos : Pos} (he : PE X e te) : PE X (.Subscript e (.Slice none none (some (.UnaryOp .USub (.Constant (.int 1) k p1) p2)) p3) pos) (tRevT X.K te) := by
  refine ⟨fun pins s σ H Q I h => ?_⟩
  refine Subscript_ (thn (he.run pins s σ H _ I h) fun v s1 ⟨x, H1, I1, r1, q1⟩ => ?_)
  obtain ⟨a, xs, ex, hx, q⟩ := q1
  subst ex
  cases r1
  have hst : PO X (some (.UnaryOp .USub (.Constant (.int 1) k p1) p2)) (tPart (tUn (rU fun i => .int (-i)) (tC (.int 1)))) := po_some (pe_un un_neg pe_int)
  refine wpAny_Slice (thn (po_none.run pins s1 σ H1 (fun o H2 => o = none ∧ H2 = H1) I1 ⟨rfl, rfl⟩) fun vl s2 ⟨l, H2, I2, pl, el, e2⟩ => ?_)
  subst el e2
  refine thn (po_none.run pins s2 σ H2 (fun o H3 => o = none ∧ H3 = H2) I2 ⟨rfl, rfl⟩) fun vu s3 ⟨u, H3, I3, pu, eu, e3⟩ => ?_
  subst eu e3
  refine thn (hst.run pins s3 σ H3 (fun o H4 => o = some (-1) ∧ H4 = H3) I3 ⟨1, rfl, -1, rfl, rfl, rfl⟩) fun vs s4 ⟨o, H4, I4, ps, eo, e4⟩ => ?_
  subst eo e4
  cases pl
  cases pu
  have I5 : Inv X pins σ H4 { s4 with heap := s4.heap.push { cls := .type "slice", data := .fields #[.none, .none, vs] } } := I4.kept (t' := s4.toks) fun b ob q => Heap.get?_push_of_some _ q
  obtain ⟨its, r, ht, hz⟩ := I5.tuple hx
  have hlen := r.length
  show wpAny (model X.prog X.w) X.A (subscriptTail e (.Slice none none (some (.UnaryOp .USub (.Constant (.int 1) k p1) p2)) p3) (.ref a) (.ref s4.heap.objs.size)) (EP X pins σ Q) X.xe { s4 with heap := s4.heap.push { cls := .type "slice", data := .fields #[.none, .none, vs] } }
  refine tail_any (ops := [.ref a, .ref s4.heap.objs.size]) ht.typeIs PyProof.Rows.slot_tuple_getitem.lookup ?_ (by with_unfolding_all rfl)
  refine HT.getItem_tuple_rev ht (Heap.IsSliceOf.new _ .none .none vs) ps ?_ (by rw [← hlen]; exact hz)
  refine ⟨.ref _, _, I5.laid (t' := s4.toks) (o := .tup xs.reverse) (fun b ob q => Heap.get?_push_of_some _ q) (Nat.le_refl _) ?_, rfl, q _ (I5.hok.fresh (Nat.le_refl _))⟩
  exact ⟨by rw [List.length_reverse]; exact hz, _, r.reverse, IsTup.new _ _⟩
end
end L2

set_option maxHeartbeats 2000000
/-! L3, a lambda of one parameter handed to a def. -/
namespace L3
open PySem PySem.Spec PyProof.Rows L2
/-- a lambda's names: the one parameter h, captured ones, globals -/
structure LamS1 (sc scope : Scope) (h : Str) : Prop where
  kind : scope.kind = .function
  co : scope.isCoroutine = false
  gen : scope.isGenerator = false
  par : scope.names.lookup h = some .local
  own : ∀ y ∈ scope.names, y.2 ≠ .cell ∧ (y.2 = .local → y.1 = h)
  free : ∀ y ∈ scope.names, y.2 = .free → sc.names.lookup y.1 = some .cell ∨ sc.names.lookup y.1 = some .free
def lamS1B (sc scope : Scope) (h : Str) : Bool :=
  decide (scope.kind = .function) && !scope.isCoroutine && !scope.isGenerator && decide (scope.names.lookup h = some .local) && scope.names.all fun y => !decide (y.2 = .cell) && (!decide (y.2 = .local) || decide (y.1 = h)) && (!decide (y.2 = .free) || decide (sc.names.lookup y.1 = some .cell) || decide (sc.names.lookup y.1 = some .free))
theorem lamS1_of {sc scope : Scope} {h : Str} (q : lamS1B sc scope h = true) : LamS1 sc scope h := by
  unfold lamS1B at q
  simp only [Bool.and_eq_true, Bool.or_eq_true, Bool.not_eq_true', decide_eq_true_eq, decide_eq_false_iff_not, List.all_eq_true] at q
  obtain ⟨⟨⟨⟨h1, h2⟩, h3⟩, h5⟩, h4⟩ := q
  refine ⟨h1, h2, h3, h5, fun y hy => ⟨(h4 y hy).1.1, fun e => ?_⟩, fun y hy e => ?_⟩
  · rcases (h4 y hy).1.2 with z | z
    · exact absurd e z
    · exact z
  · rcases (h4 y hy).2 with (z | z) | z
    · exact absurd e z
    · exact .inl z
    · exact .inr z
/-- the maker's names as the lambda sees them: N2 (its own parameter h not among them), then h -/
def maskB (sc : Scope) (h : Str) : List Str → List Str → Bool
  | [], [] => true
  | a :: l, b :: m => ((decide (b = a) && !decide (b = h)) || decide (sc.names.lookup b = none)) && maskB sc h l m
  | _, _ => false
structure Mask (sc : Scope) (h : Str) (N N2 : List Str) : Prop where
  len : N2.length = N.length
  at_ : ∀ (i : Nat) (y : Str), N2[i]? = some y → Vis sc y → N[i]? = some y ∧ y ≠ h
theorem mask_of {sc : Scope} {h : Str} : ∀ {N N2 : List Str}, maskB sc h N N2 = true → Mask sc h N N2
  | [], [], _ => ⟨rfl, fun i y e => by simp at e⟩
  | a :: l, b :: m, q => by
    unfold maskB at q
    rw [Bool.and_eq_true] at q
    have r := mask_of q.2
    refine ⟨by rw [List.length_cons, List.length_cons, r.len], fun i y e v => ?_⟩
    cases i with
    | zero =>
      cases (show some b = some y from e)
      rcases Bool.or_eq_true_iff.mp q.1 with z | z
      · rw [Bool.and_eq_true] at z
        refine ⟨by rw [of_decide_eq_true z.1]; rfl, fun w => ?_⟩
        have := z.2
        rw [w] at this
        simp at this
      · have z := of_decide_eq_true z
        rcases v with v | v | v <;> rw [z] at v <;> cases v
    | succ i => exact r.at_ i y e v
  | [], b :: m, q => by cases q
  | a :: l, [], q => by cases q
/-- the body's context -/
def lamCx1 (X : Cx) (A : Around) (outer : List Env) (s : Shared) (H : Hp) (E : XK) (scope : Scope) (f c' : Addr) (N2 : List Str) (h : Str) : Cx := { LamX.lamCx X A outer s H E scope f c' with N := N2 ++ [h], xe := fun _ _ => False }
section
variable {X : Cx} {pins : List (Addr × Obj)} {σ : L2.St} {H HZ : Hp} {s s1 : Shared}
theorem lam_begin {A : Around} {outer : List Env} {E : XK} {scope : Scope} {f c' : Addr} {h₁ : Heap} {tk : Nat} {h : Str} {N2 : List Str} {v : V} {u : Value} (I : Inv X pins σ H s) (L : LamS1 X.env.scope scope h) (hnew : Mask scope h X.N N2) (e0 : Env0 X.prog X.w X.K X.mg X.base A outer s1 HZ) (hd : A.handled = none)
    (un : Un (frs X.stack) [] H HZ s.heap s1.heap) (hns : h₁.Ns s1.heap.objs.size fun y => ([(h, u)] : List (Str × Value)).reverse.lookup y) (kp : ∀ b o, s1.heap.get? b = some o → h₁.get? b = some o) (rv : RelV v u) :
    Inv (lamCx1 X A outer s1 HZ E scope f c' N2 h) [] (σ ++ [some v]) HZ { s1 with heap := h₁, toks := tk } := by
  have hasC : ∀ y ∈ scope.names, y.2 = .free → ∃ c, X.env.cells.lookup y.1 = some c := fun y hy e => (L.free y hy e).elim (fun k => I.ok.has _ (.inl k)) (fun k => I.ok.has _ (.inr k))
  have toX : ∀ {y c}, (cloFrom X.env.cells scope.names []).lookup y = some c → X.env.cells.lookup y = some c := fun {y c} e => by
    rcases cloFrom_mem (PySem.mem_of_lookup e) with hm | ⟨h1, h2⟩
    · cases hm
    · obtain ⟨c1, hc⟩ := hasC _ h1 rfl
      simp only at hc h2
      rw [hc] at h2
      rw [h2]
      exact hc
  have ofX : ∀ {y}, scope.names.lookup y = some .free → ∃ c, (cloFrom X.env.cells scope.names []).lookup y = some c := fun {y} hl => mem_lookup (cloFrom_has (cells := X.env.cells) (acc := []) (PySem.mem_of_lookup hl))
  have stays : ∀ {c : Addr} {v : Option Value}, H c = none → s.heap.IsCell c v → h₁.IsCell c v := fun {c v} n ⟨o, ho, hd⟩ => by
    obtain ⟨sl, q⟩ := un.any ho n (by simp)
    exact ⟨_, kp _ _ q, hd⟩
  have none_ : ∀ b : Addr, b ∉ (lamCx1 X A outer s1 HZ E scope f c' N2 h).ex := fun b z => absurd (show b ∈ ([] : List Addr) from z) (by simp)
  refine ⟨⟨e0.mod, L.kind, rfl, rfl, Nat.le_refl _, fun y z c e1 e2 => I.ok.inj y z c (toX e1) (toX e2), fun y hy => ?_, fun y c z _ => ?_, fun _ => hd, Around.frames_deeper e0.frames, .inr ⟨rfl, rfl⟩, fun b z => absurd z (none_ b), e0.bs, e0.bsz, fun b _ _ => none_ b,
      fun b z => absurd z (none_ b), e0.funs, e0.frf⟩,
    rfl, e0.bare, Un.kept kp, ⟨_, hns, fun i y v' e1 e2 e3 => ?_⟩, fun y c e => ?_, e0.hok.fresh (Nat.le_refl _), fun y c e => ?_, fun q hq => absurd (show q ∈ ([] : List (Addr × Obj)) ++ [] from hq) (by simp), e0.hok.kept kp, ?_⟩
  · have hy : scope.names.lookup y = some .cell ∨ scope.names.lookup y = some .free := hy
    rcases hy with hy | hy
    · exact absurd rfl (L.own _ (PySem.mem_of_lookup hy)).1
    · exact ofX hy
  · have z : false = true := z
    cases z
  · have e1 : (N2 ++ [h])[i]? = some y := e1
    have e3 : Vis scope y := e3
    by_cases hi : i < N2.length
    · rw [List.getElem?_append_left hi] at e1
      rw [List.getElem?_append_left (by rw [I.len, ← hnew.len]; exact hi)] at e2
      obtain ⟨e1, hyh⟩ := hnew.at_ i y e1 e3
      rcases e3 with k | k | k
      · have : y = h := (L.own _ (PySem.mem_of_lookup k)).2 rfl
        exact absurd this hyh
      · exact absurd rfl (L.own _ (PySem.mem_of_lookup k)).1
      · obtain ⟨m, hn, hl⟩ := I.loc
        have hvis : Vis X.env.scope y := (L.free _ (PySem.mem_of_lookup k) rfl).elim (fun k => .inr (.inl k)) (fun k => .inr (.inr k))
        obtain ⟨w', r, q⟩ := hl i y v' e1 e2 hvis
        obtain ⟨c2, h2⟩ := ofX k
        refine ⟨w', r, .inr ⟨.inr k, c2, h2, ?_⟩⟩
        have c1 := toX h2
        rcases q with ⟨k', _⟩ | ⟨_, c3, e', z⟩
        · have k' : X.env.scope.names.lookup y = some .local := k'
          rcases L.free _ (PySem.mem_of_lookup k) rfl with k2 | k2 <;> rw [show X.env.scope.names.lookup y = _ from k2] at k' <;> cases k'
        · rw [c1] at e'
          cases e'
          exact stays (I.freeC y _ c1) z
    · have hi2 : i = N2.length := by
        have := (List.getElem?_eq_some_iff.mp e1).1
        rw [List.length_append, List.length_singleton] at this
        omega
      subst hi2
      rw [List.getElem?_append_right (Nat.le_refl _), Nat.sub_self] at e1
      cases e1
      rw [hnew.len, ← I.len, List.getElem?_append_right (Nat.le_refl _), Nat.sub_self] at e2
      cases e2
      refine ⟨u, rv, .inl ⟨L.par, ?_⟩⟩
      show ([(h, u)] : List (Str × Value)).reverse.lookup h = some u
      simp
  · obtain ⟨w', z⟩ := I.cell y c (toX e)
    exact ⟨w', stays (I.freeC y c (toX e)) z⟩
  · obtain ⟨v, o, ho, hd⟩ := I.cell y c (toX e)
    exact un.free c o ho (I.freeC y c (toX e)) (by simp)
  · show (σ ++ [some v]).length = (N2 ++ [h]).length
    rw [List.length_append, List.length_append, I.len, hnew.len]
    rfl
abbrev lamO (X : Cx) (params : Arguments) (body : Expr) (scope : Scope) (pm ctv : Value) (c' : Addr) : Obj := PySem.W.kla_obj "<lambda>" (X.env.qual ++ "<lambda>") params body scope (cloFrom X.env.cells scope.names []) pm c' ctv
theorem pin_new {a : Addr} {o : Obj} (I : Inv X pins σ H s) (n : s.heap.objs.size ≤ a) {h' : Heap} {t' : Nat} (k : ∀ b u, s.heap.get? b = some u → h'.get? b = some u) (e : h'.get? a = some o) (d : ∀ v, o.data ≠ .cell v) : Inv X ((a, o) :: pins) σ H { s with heap := h', toks := t' } := by
  have J : Inv X pins σ H { s with heap := h', toks := t' } := I.kept k
  refine ⟨J.ok, J.os, J.bare, J.base, J.loc, J.cell, J.free, J.freeC, fun q hq => ?_, J.hok, J.len⟩
  rcases List.mem_append.mp hq with z | z
  · exact J.pin q (List.mem_append_left _ z)
  · rcases List.mem_cons.mp z with z | z
    · subst z
      exact ⟨e, I.hok.fresh n, fun z => absurd I.lt (by rw [← z]; exact Nat.not_lt.mpr n), fun z => I.nofs n z, d⟩
    · exact J.pin q (List.mem_append_right _ z)
theorem pin_off {q : Addr × Obj} (I : Inv X (q :: pins) σ H s) : Inv X pins σ H s := ⟨I.ok, I.os, I.bare, I.base, I.loc, I.cell, I.free, I.freeC, fun r hr => I.pin r (by
  rcases List.mem_append.mp hr with z | z
  · exact List.mem_append_left _ z
  · exact List.mem_append_right _ (List.mem_cons_of_mem _ z)), I.hok, I.len⟩
/-- a lambda is made: what is new in the heap is told whole -/
theorem lam_made {T : List (Addr × Str)} {c P : Addr} {params : Arguments} {body : Expr} {scope : Scope} {pos : Pos} {E : Value → Shared → Prop} {Q : Value → Shared → Prop} (I : Inv X pins σ H s) (TB : LamX.TabB X.base X.mg c P) (hcode : X.env.code = .ref c)
    (hm : (P, X.env.qual ++ "<lambda>") ∈ T) (hu : ∀ p ∈ T, p.1 = P → p.2 = X.env.qual ++ "<lambda>") (hT : LamX.Tabs T H) (hdef : defaultsOf params X.env = ([], [])) (hfree : ∀ y ∈ scope.names, y.2 = .free → ∃ c, X.env.cells.lookup y.1 = some c)
    (h : ∀ (f c' : Addr) (pm ctv : Value) (H1 : Hp) (s' : Shared), Inv X ((f, lamO X params body scope pm ctv c') :: pins) σ H1 s' → LamX.ExtN H H1 → (∀ b, H1 b = none → H b = none) → LamX.Tabs T H1 → H1 c' = some (LamX.CodeO c' (X.env.qual ++ "<lambda>")) → Q (.ref f) s') :
    wpAny (model X.prog X.w) X.A (eval (.Lambda params body scope pos) X.env) Q E s := by
  obtain ⟨ps, hP, ht, ha⟩ := hT _ hm
  have bP : s.heap.BuiltinsAt X.mg P := TB.bm.keeps I.bk
  have hP' : s.heap.get? P = some { cls := .none, data := .fields ps } := I.hok P _ hP
  refine PySem.W.kla_eval hdef ?_
  cases hc : codeAmong pos ps.toList with
  | some cv =>
    obtain ⟨c', e, hco⟩ := ha pos cv hc
    subst e
    refine PySem.W.kla_makeFunctionHit (mg := X.mg) (c := c) (P := P) (ps := ps) (closure_ok hfree) I.ok.glob (I.mod.glob.keeps I.bk) hcode (TB.code.keeps I.bk) hP' ht hc bP fun ctv h' tk hx hsz => ?_
    exact h h'.objs.size c' _ ctv H _ (pin_new I hsz (fun b o e => Heap.get?_push_of_some _ (hx b o e)) (Heap.get?_push_size _ rfl) (fun v z => nomatch z)) (LamX.ExtN.refl H) (fun _ z => z) hT hco
  | none =>
    refine PySem.W.kla_makeFunction (mg := X.mg) (c := c) (P := P) (ps := ps) (closure_ok hfree) I.ok.glob (I.mod.glob.keeps I.bk) hcode (TB.code.keeps I.bk) hP' ht hc TB.gP bP fun c' ctv h' tk hx hge hlt hrec htb => ?_
    obtain ⟨c2, oc, vs, t, e2, hoc, hd, hv⟩ := hrec
    cases e2
    have nC : H c' = none := I.hok.fresh hge
    have nPc : P ≠ c' := ne_of_none hP nC
    have J := LamX.inv_table (q := X.env.qual ++ "<lambda>") (t' := tk) (more := #[rawInt pos.line, rawInt pos.col, .ref c']) (h' := h') I hP hx htb hge ⟨oc, vs, t, hoc, hd, hv⟩
    have hE : LamX.ExtN H (upd (upd H P (.tbl (ps ++ #[rawInt pos.line, rawInt pos.col, .ref c']))) c' (LamX.CodeO c' (X.env.qual ++ "<lambda>"))) := fun b o e n => by
      rw [upd_ne (ne_of_none e nC), upd_ne (fun z => n ps (Option.some.inj (e.symm.trans (by rw [z]; exact hP))))]
      exact e
    refine h h'.objs.size c' _ ctv _ _ (pin_new J (Nat.le_refl _) (fun b o e => Heap.get?_push_of_some _ e) (Heap.get?_push_size _ rfl) (fun v z => nomatch z)) hE (fun b z => ?_) (fun p hp => ?_) upd_same
    · by_cases h1 : b = c'
      · rw [h1]; exact nC
      · rw [upd_ne h1] at z
        by_cases h2 : b = P
        · rw [h2, upd_same] at z; cases z
        · rw [upd_ne h2] at z; exact z
    · by_cases hb : p.1 = P
      · rw [hu p hp hb, hb]
        have eL : (ps ++ #[rawInt pos.line, rawInt pos.col, .ref c']).toList = ps.toList ++ [rawInt pos.line, rawInt pos.col, .ref c'] := by simp
        refine ⟨_, by rw [upd_ne nPc, upd_same], by rw [eL]; exact PySem.TriplesOk_snoc _ _ _ _ ht, fun p' cv hcv => ?_⟩
        rw [eL] at hcv
        rcases LamX.among_app _ ht hcv with z | z
        · obtain ⟨c0, e1, e2⟩ := ha p' cv z
          exact ⟨c0, e1, hE _ _ e2 LamX.codeO_ne⟩
        · exact ⟨c', z, upd_same⟩
      · obtain ⟨ps', a1, a2, a3⟩ := hT p hp
        refine ⟨ps', by rw [upd_ne (ne_of_none a1 nC), upd_ne hb]; exact a1, a2, fun p' cv hcv => ?_⟩
        obtain ⟨c0, e1, e2⟩ := a3 p' cv hcv
        exact ⟨c0, e1, hE _ _ e2 LamX.codeO_ne⟩
/-- the lambda called by the def that got it -/
theorem lam_act {Ng : List Str} {qg : Str} {sg : Scope} {g f c' : Addr} {cdg pm ctv : Value} {params : Arguments} {body : Expr} {scope : Scope} {k i : Nat} {a h : Str} {N2 : List Str} {e : Expr} {te tb : TE} {p1 p2 : Pos} {Eg : XK}
    (I : Inv X ((f, lamO X params body scope pm ctv c') :: pins) σ H s) (L : LamS1 X.env.scope scope h) (hnew : Mask scope h X.N N2)
    (hbind : ∀ u : Value, bindArgs (PySem.W.kla_fn "<lambda>" (X.env.qual ++ "<lambda>") params body scope (cloFrom X.env.cells scope.names []) pm (.ref c') ctv) ⟨[u], []⟩ = pure [(h, u)])
    (hr : Room (k + 1) (X.A.deeper (envOfC qg sg s.heap.objs.size g cdg)))
    (hbody : ∀ (A : Around) (outer : List Env) (s : Shared) (H : Hp), Room k (A.deeper (LamX.lamEnv X scope s.heap.objs.size f c')) → PE (lamCx1 X A outer s H C8.E0 scope f c' N2 h) body tb)
    (hN : Ng[i]? = some a) (hv : Vis sg a) (he : PE (cxOf C8.CX0 X.prog X.w X.K X.mg X.base Ng qg sg g cdg X.A X.stack s H Eg).nox e te)
    (hst : starEach [e] (envOfC qg sg s.heap.objs.size g cdg) = (false, eval e (envOfC qg sg s.heap.objs.size g cdg)) :: starEach [] (envOfC qg sg s.heap.objs.size g cdg))
    (hd : (a == ("__debug__" : Str)) = false := by decide) (hcd : (a == ("__classdict__" : Str)) = false := by decide) :
    PE (cxOf C8.CX0 X.prog X.w X.K X.mg X.base Ng qg sg g cdg X.A X.stack s H Eg).nox (.Call (.Name a p1) [e] [] p2)
      (fun σZ HZ Q => σZ[i]? = some (some (.ref f)) ∧ te σZ HZ fun v H1 => H1 c' = some (LamX.CodeO c' (X.env.qual ++ "<lambda>")) ∧ tb (σ ++ [some v]) H1 Q) := by
  refine ⟨fun pinsZ sZ σZ HZ Q IZ ⟨hs, ht⟩ => ?_⟩
  have kf : ∀ {σ' : L2.St} {H' : Hp} {s' : Shared} {pz : List (Addr × Obj)}, Inv (cxOf C8.CX0 X.prog X.w X.K X.mg X.base Ng qg sg g cdg X.A X.stack s H Eg).nox pz σ' H' s' → s'.heap.get? f = some (lamO X params body scope pm ctv c') := fun {σ' H' s' pz} J => by
    obtain ⟨q1, q2, q3, q4, q5⟩ := I.pin (f, lamO X params body scope pm ctv c') (List.mem_append_right _ List.mem_cons_self)
    refine J.base.keep f _ q1 q2 (fun z => ?_) (fun z => nomatch (show f ∈ ([] : List Addr) from z))
    rcases List.mem_cons.mp (I.stkSub f z) with z | z
    · exact q3 z
    · exact q4 z
  refine wpAny_Call_Name_kw (thn ((pe_var (pos := p1) (i := i) hN hv hd hcd).run pinsZ sZ σZ HZ (fun v H1 => v = .ref f ∧ H1 = HZ) IZ ⟨.ref f, hs, rfl, rfl⟩) fun u s1 ⟨v, H1, I1, r1, ev, eH⟩ => ?_)
  subst ev eH
  obtain rfl : u = Value.ref f := r1
  refine PySem.W.callWith_F ⟨_, _, _, _, kf I1⟩ ?_ hst rfl
  show wpAny _ _ (spliced (backTo p2 (starEach [e] (envOfC qg sg s.heap.objs.size g cdg)))) _ _ s1
  rw [hst]
  refine Calls.spliced_cons (thn (he.run pinsZ s1 σZ H1 _ I1 ht) fun u s2 ⟨v, H2, I2, rv, q2⟩ => ?_)
  refine Calls.spliced_nil ⟨⟨_, _, _, _, kf I2⟩, ?_⟩
  obtain ⟨hc, htb⟩ := q2
  obtain ⟨⟨oc, vs, t, hoc, hdc, hvc⟩, _, _⟩ := I2.hok c' _ hc
  have rc : codeAny (model X.prog X.w) (X.A.deeper (envOfC qg sg s.heap.objs.size g cdg)) (.call (.ref f) ⟨[u], []⟩) (CR C8.CX0 (envOfC qg sg s.heap.objs.size g cdg :: X.stack) X.prog X.w H2 s2 Q C8.E0) s2 := by
    refine PySem.W.kla_callFunE hr.depth (kf I2) rfl L.co L.gen rfl ⟨c', oc, vs, t, rfl, hoc, hdc, hvc⟩ ?_
    rw [hbind]
    refine wpAny_pure (wpAny_newFunctionEnv (fun y hy => (L.own y hy).1) (fun y hy => ?_) (fun h₁ hns hsb => ⟨I2.nolimit.fresh _ hsb, ?_⟩) L.kind)
    · rcases List.mem_cons.mp hy with z | z
      · rw [z]; exact L.par
      · exact absurd z (by simp)
    show codeAny _ _ (.expr body (LamX.lamEnv X scope s2.heap.objs.size f c')) _ _
    have kp : ∀ b o, s2.heap.get? b = some o → h₁.get? b = some o := fun b o e => hsb.extBut b o (Nat.ne_of_lt (Heap.lt_size e)) (Heap.get?_push_of_some _ e)
    have un : Un (frs X.stack) [] H H2 s.heap s2.heap := I2.base
    have J := lam_begin (f := f) (c' := c') (A := X.A.deeper (envOfC qg sg s.heap.objs.size g cdg)) (outer := envOfC qg sg s.heap.objs.size g cdg :: X.stack) (E := C8.E0) (tk := s2.toks + ([(h, u)] : List (Str × Value)).length) (pin_off I) L hnew I2.env0 hr.hd un hns kp rv
    refine PySem.W.kla_codeExpr (wpAny_mono ((hbody _ _ s2 H2 (hr.deeper _)).run [] _ _ H2 Q J htb) (fun v s' hq => ?_) fun e s' hq => ?_)
    · obtain ⟨w', H', J', rv, q⟩ := hq
      exact ⟨w', H', J'.os, J'.bare, J'.base, J'.hok, rv, q⟩
    · exact hq.elim
  refine wpAny_call (codeAny_mono rc fun r s' hq => ?_)
  cases r with
  | error e => exact (show False from hq).elim
  | ok fl =>
    cases fl with
    | ret u => exact I2.after hq
    | next => exact False.elim hq
    | brk => exact False.elim hq
    | cont => exact False.elim hq
end
/-! ### over data -/
mutual
theorem Rep.pn {K : PySem.W.Frag} {p p' : Pn} {F : Hp} (e : p'.pot = p.pot) (hc : ∀ x ∈ p.cod, x ∈ p'.cod) : ∀ {d : D} {v : V}, Rep K p F d v → Rep K p' F d v
  | .non, _, h => h
  | .bl _, _, h => h
  | .int _, _, h => h
  | .str _, _, h => h
  | .ty _, _, h => h
  | .rf _, _, h => h
  | .lam .., _, h => ⟨h.1, h.2.1, e.trans h.2.2.1, fun x hx => hc x (h.2.2.2 x hx)⟩
  | .exc .., _, h => by
    obtain ⟨a, dd, w, rfl, h1, h2, h3⟩ := h
    exact ⟨a, dd, w, rfl, h1, h2, Rep.pn e hc h3⟩
  | .clo .., _, h => h
  | .dic _, _, h => h
  | .pot, _, h => by
    obtain ⟨a, h1, rfl⟩ := h
    exact ⟨a, e.trans h1, rfl⟩
  | .scr _, _, h => h
  | .tup l, _, h => by
    obtain ⟨a, xs, rfl, h1, h2⟩ := h
    exact ⟨a, xs, rfl, h1, RepL.pn e hc h2⟩
  | .lst l, _, h => by
    obtain ⟨a, xs, rfl, h1, h2⟩ := h
    exact ⟨a, xs, rfl, h1, RepL.pn e hc h2⟩
  | .dct ks l, _, h => by
    obtain ⟨a, xs, rfl, h1, h2, h3⟩ := h
    exact ⟨a, xs, rfl, h1, h2, RepL.pn e hc h3⟩
theorem RepL.pn {K : PySem.W.Frag} {p p' : Pn} {F : Hp} (e : p'.pot = p.pot) (hc : ∀ x ∈ p.cod, x ∈ p'.cod) : ∀ {l : List D} {xs : List V}, RepL K p F l xs → RepL K p' F l xs
  | [], _, h => h
  | d :: l, _, h => by
    obtain ⟨x, r, rfl, h1, h2⟩ := h
    exact ⟨x, r, rfl, Rep.pn e hc h1, RepL.pn e hc h2⟩
end
mutual
theorem Rep.pnL {K : PySem.W.Frag} {p p' : Pn} {F : Hp} : ∀ {d : D} {v : V}, noLst d = true → Rep K p F d v → Rep K p' F d v
  | .non, _, _, h => h
  | .bl _, _, _, h => h
  | .int _, _, _, h => h
  | .str _, _, _, h => h
  | .ty _, _, _, h => h
  | .rf _, _, _, h => h
  | .lam .., _, n, h => by simp [noLst] at n
  | .exc .., _, n, h => by
    obtain ⟨a, dd, w, rfl, h1, h2, h3⟩ := h
    exact ⟨a, dd, w, rfl, h1, h2, Rep.pnL (by simpa [noLst] using n) h3⟩
  | .clo .., _, _, h => h
  | .dic _, _, _, h => h
  | .pot, _, n, h => by simp [noLst] at n
  | .scr _, _, n, h => by simp [noLst] at n
  | .tup l, _, n, h => by
    obtain ⟨a, xs, rfl, h1, h2⟩ := h
    exact ⟨a, xs, rfl, h1, RepL.pnL (by simpa [noLst] using n) h2⟩
  | .lst l, _, n, h => by simp [noLst] at n
  | .dct _ _, _, n, h => by simp [noLst] at n
theorem RepL.pnL {K : PySem.W.Frag} {p p' : Pn} {F : Hp} : ∀ {l : List D} {xs : List V}, noLstL l = true → RepL K p F l xs → RepL K p' F l xs
  | [], _, _, h => h
  | d :: l, _, n, h => by
    obtain ⟨x, r, rfl, h1, h2⟩ := h
    have n' : noLst d = true ∧ noLstL l = true := by simpa [noLstL] using n
    exact ⟨x, r, rfl, Rep.pnL n'.1 h1, RepL.pnL n'.2 h2⟩
end
theorem Fwd.pn {p p' : Pn} {F H F' H' : Hp} (e : p'.pot = p.pot) (w : Fwd p F H F' H') : Fwd p' F H F' H' := ⟨w.frz, fun b o h n t => w.keep b o h (by rw [← e]; exact n) t, w.new, w.there⟩
theorem get3_snoc {ρ : Rho} {d : D} : ∀ {i : Nat} {x : D}, get3 (ρ ++ [some d]) i = some x → get3 ρ i = some x ∨ (i = ρ.length ∧ x = d) := by
  induction ρ with
  | nil =>
    intro i x h
    cases i with
    | zero => exact .inr ⟨rfl, (Option.some.inj h).symm⟩
    | succ i => cases i <;> cases h
  | cons r ρ ih =>
    intro i x h
    cases i with
    | zero => exact .inl h
    | succ i =>
      rcases ih (i := i) h with z | ⟨z1, z2⟩
      · exact .inl z
      · exact .inr ⟨by rw [List.length_cons, z1], z2⟩
/-- the lambda dl called on a value: tl tells what it answers -/
@[simp ↓] def eLm (dl : D) (tl : D → Nat → KD → Prop) (fa : FE) : FE := fun ρ c Q => get3 ρ 0 = some dl ∧ fa ρ c fun x c => tl x c Q
/-- x(lambda h: body, es): m tells what x answers where its first argument answers as tl says -/
@[simp ↓] def eLam (m : (D → Nat → KD → Prop) → FM) (fr : FA) (fb : FE) : FE := fun ρ c Q => fr ρ c fun l c => m (fun d c Q => fb (ρ ++ [some d]) c Q) l c fun d c => noLst d = true ∧ Q d c
section
variable {X : Cx} {es : List Expr} {fr : FA} {fb : FE}
theorem ex_lam {x qual a h : Str} {N2 : List Str} {st : Stmt} {g c P : Addr} {fd : FuncData} {k : Nat} {Ng ps : List Str} {params : Arguments} {body : Expr} {scope : Scope} {p1 lpos pos : Pos} {m : (D → Nat → KD → Prop) → FM} {gg : D → (D → Nat → KD → Prop) → FS}
    (G : Fun X.K x qual st g fd) (S : FnScope Ng (a :: ps) (defScope st)) (hb : Binds X.K fd (a :: ps) []) (hm : X.mg x = some (.ref g)) (TB : LamX.TabB X.base X.mg c P) (hcode : X.env.code = .ref c)
    (hmT : (P, X.env.qual ++ "<lambda>") ∈ tabs0) (hu : ∀ p ∈ tabs0, p.1 = P → p.2 = X.env.qual ++ "<lambda>") (hr : Room (k + 2) X.A) (L : LamS1 X.env.scope scope h) (hnew : Mask scope h X.N N2) (hdef : defaultsOf params X.env = ([], []))
    (hbind : ∀ (cl : List (Str × Addr)) (pm cv ctv u : Value), bindArgs (PySem.W.kla_fn "<lambda>" (X.env.qual ++ "<lambda>") params body scope cl pm cv ctv) ⟨[u], []⟩ = pure [(h, u)])
    (hbody : ∀ (A : Around) (outer : List Env) (s : Shared) (H : Hp) (f c' : Addr), Room k (A.deeper (LamX.lamEnv X scope s.heap.objs.size f c')) → EX (lamCx1 X A outer s H C8.E0 scope f c' N2 h) body fb)
    (ha : AX X es fr)
    (hg : ∀ (cdv : Value) (A : Around) (outer : List Env) (s : Shared) (H : Hp) (E : XK) (dl : D) (tl : D → Nat → KD → Prop), Room (k + 1) (A.deeper (envOfC qual (defScope st) s.heap.objs.size g cdv)) →
      (∀ (e : Expr) (fe : FE) (p1 p2 : Pos), starEach [e] (envOfC qual (defScope st) s.heap.objs.size g cdv) = (false, eval e (envOfC qual (defScope st) s.heap.objs.size g cdv)) :: starEach [] (envOfC qual (defScope st) s.heap.objs.size g cdv) →
        EX (cxOf CX0 X.prog X.w X.K X.mg X.base Ng qual (defScope st) g cdv A outer s H E).nox e fe → EX (cxOf CX0 X.prog X.w X.K X.mg X.base Ng qual (defScope st) g cdv A outer s H E).nox (.Call (.Name a p1) [e] [] p2) (eLm dl tl fe)) →
      BX (cxOf CX0 X.prog X.w X.K X.mg X.base Ng qual (defScope st) g cdv A outer s H E).nox (defBody st) (gg dl tl))
    (hp : ∀ dl tl ds c Q, m tl ds c Q → ds.length = ps.length ∧ runM Ng.length (gg dl tl) (dl :: ds) c Q)
    (hgl : Gl X x := by rfl) (hN : Ng[0]? = some a := by rfl) (hva : Vis (defScope st) a := by first | exact Or.inl rfl | exact Or.inr (Or.inl rfl)) (hdb : (x == ("__debug__" : Str)) = false := by decide) (hd : (a == ("__debug__" : Str)) = false := by decide) (hcd : (a == ("__classdict__" : Str)) = false := by decide)
    (hpl : (backTo pos (starEach es X.env)).any (·.1) = false := by rfl) :
    EX X (.Call (.Name x p1) (.Lambda params body scope lpos :: es) [] pos) (eLam m fr fb) := by
  obtain ⟨oc, od, kV, doc, pmg, an, cdv, ct, osl, efd, lk, hcg⟩ := G.ex
  refine ⟨fun pins s σ H Q I ⟨p, c0, ρ, F, Q', est, hq, t⟩ => ?_⟩
  refine wpAny_Call_Name_kw (ld_glob I hgl hm ?_ hdb)
  refine PySem.W.callWith_K (h₀ := X.base) I.ok.mod.kin G.kp ?_ (by rfl) hpl
  show wpAny _ _ (spliced ((false, eval (.Lambda params body scope lpos) X.env) :: backTo pos (starEach es X.env))) _ _ s
  have hasC : ∀ y ∈ scope.names, y.2 = .free → ∃ c, X.env.cells.lookup y.1 = some c := fun y hy e => (L.free y hy e).elim (fun k => I.ok.has _ (.inl k)) (fun k => I.ok.has _ (.inr k))
  refine Calls.spliced_cons (lam_made I TB hcode hmT hu est.ok.tab.tabs hdef hasC fun f c' pm' ctv H1 s' I1 eN th T1 hco => ?_)
  have w1 : Fwd p F H F H1 := ⟨fun _ _ z => z, fun b o z _ t => eN b o z t, fun _ _ z => .inl z, th⟩
  have ok1 : Ok3 p c0 F H1 := ⟨fun b o z => eN b o (est.ok.sub b o z) (fun ps e => est.ok.nt.t b ps (e ▸ z)), fun b z => by
      obtain ⟨⟨x, y, z, q, r⟩, nn⟩ := est.ok.pot b z
      exact ⟨⟨x, y, z, eN _ _ q (fun _ z => nomatch z), r⟩, nn⟩, ⟨T1, fun q hq => eN _ _ (est.ok.tab.cod q hq) LamX.codeO_ne⟩, est.ok.nt⟩
  refine thn (ha.run pos _ s' σ H1 (fun vs H2 => ∃ l c1 F2, Fwd p F H1 F2 H2 ∧ Ok3 p c1 F2 H2 ∧ RepL X.K p F2 l vs ∧ m (fun d c Q => fb (ρ ++ [some d]) c Q) l c1 fun d c => noLst d = true ∧ Q' d c) I1 ⟨p, c0, ρ, F, _, est.fwd w1 ok1, hq, fun l c1 vs F2 H2 w2 ok2 r2 q2 => ⟨l, c1, F2, w2, ok2, r2, q2⟩⟩) fun us s2 ⟨vs, H2, I2, rv, l, c1, F2, w2, ok2, r2, q2⟩ => ?_
  refine ⟨I2.kIn, ?_⟩
  have w12 := w1.trans w2
  have hco2 : H2 c' = some (LamX.CodeO c' (X.env.qual ++ "<lambda>")) := w2.keep _ _ hco (fun e => by
    obtain ⟨⟨x, y, z, q, r⟩, nn⟩ := ok1.pot c' e
    rw [hco] at q
    exact absurd (Option.some.inj q) (by unfold LamX.CodeO; exact fun z => nomatch z)) LamX.codeO_ne
  have est2 := est.fwd w12 ok2
  let p' : Pn := ⟨p.pot, (c', X.env.qual ++ "<lambda>") :: p.cod, p.flo⟩
  have ok2' : Ok3 p' c1 F2 H2 := ⟨ok2.sub, ok2.pot, ⟨ok2.tab.tabs, fun q hq => by
    rcases List.mem_cons.mp hq with z | z
    · rw [z]; exact hco2
    · exact ok2.tab.cod q z⟩, ⟨ok2.nt.t, ok2.nt.f⟩⟩
  let tl : D → Nat → KD → Prop := fun d c Q => fb (ρ ++ [some d]) c Q
  obtain ⟨hlen, hrun⟩ := hp (.lam f F2 p') tl l c1 _ q2
  have rc : codeAny (model X.prog X.w) X.A (.call (.ref g) ⟨.ref f :: us, []⟩) (CR CX0 X.stack X.prog X.w H2 s2 Q E0) s2 := by
    refine LamX.run_ofS (N := Ng) (ps := a :: ps) (us := .ref f :: us) (vs := .ref f :: vs) (efd ▸ lk) hcg S hr I2.env0 (efd ▸ by
      have z := hb s2 (.ref f :: us) I2.kIn (by rw [List.length_append, List.length_nil, List.length_cons, List.length_cons, ← rv.length, r2.len, hlen])
      rw [List.append_nil] at z
      exact z) (.cons rfl rv) (by rw [List.length_cons, List.length_cons, r2.len, hlen]) fun hr' => ?_
    have act : ∀ (e : Expr) (fe : FE) (p1 p2 : Pos), starEach [e] (envOfC qual (defScope st) s2.heap.objs.size g cdv) = (false, eval e (envOfC qual (defScope st) s2.heap.objs.size g cdv)) :: starEach [] (envOfC qual (defScope st) s2.heap.objs.size g cdv) →
        EX (cxOf CX0 X.prog X.w X.K X.mg X.base Ng qual (defScope st) g cdv X.A X.stack s2 H2 E0).nox e fe → EX (cxOf CX0 X.prog X.w X.K X.mg X.base Ng qual (defScope st) g cdv X.A X.stack s2 H2 E0).nox (.Call (.Name a p1) [e] [] p2) (eLm (.lam f F2 p') tl fe) := fun e fe p1 p2 hst he => by
      refine PE.imp (lam_act (i := 0) (tb := tE X.K fb) (p1 := p1) (p2 := p2) I2 L hnew (fun u => hbind _ _ _ _ u) hr' (fun A outer s H hr2 => hbody A outer s H f c' hr2) hN hva he hst hd hcd) fun σZ HZ QZ ⟨pz, cz, ρz, Fz, Qz', ez, ⟨g1, hz⟩, tz⟩ => ?_
      obtain ⟨v0, e1, e2⟩ := ez.slot 0 _ g1
      obtain ⟨rfl, kF, kp, kc⟩ := e2
      refine ⟨e1, pz, cz, ρz, Fz, _, ez, hz, fun d c3 v F3 H3 w3 ok3 r3 q3 => ⟨ok3.tab.cod (c', X.env.qual ++ "<lambda>") (kc _ List.mem_cons_self), ?_⟩⟩
      refine ⟨pz, c3, ρ ++ [some d], F3, _, ⟨ok3, fun i d' hi => ?_, by rw [List.length_append, List.length_append, est2.len]; rfl⟩, q3, tz.fwd w3⟩
      rcases get3_snoc hi with z | ⟨z1, z2⟩
      · obtain ⟨v', y1, y2⟩ := est2.slot i d' z
        refine ⟨v', ?_, ((Rep.pn (p := p) (p' := pz) kp (fun x hx => kc x (List.mem_cons_of_mem _ hx)) y2).mono kF).mono w3.frz⟩
        have : i < σ.length := (List.getElem?_eq_some_iff.mp y1).1
        rw [List.getElem?_append_left this]
        exact y1
      · subst z2
        refine ⟨v, ?_, r3⟩
        rw [z1, est2.len, List.getElem?_append_right (Nat.le_refl _), Nat.sub_self]
        rfl
    have B := hg cdv X.A X.stack s2 H2 E0 (.lam f F2 p') tl hr' act
    have r2' : RepL X.K p' F2 (.lam f F2 p' :: l) (.ref f :: vs) := ⟨_, _, rfl, ⟨rfl, fun _ _ z => z, rfl, fun _ z => z⟩, RepL.pn (p := p) (p' := p') rfl (fun x hx => List.mem_cons_of_mem _ hx) r2⟩
    have back : ∀ (d : D) (c3 : Nat) (v : V) (F3 H3 : Hp), Fwd p' F2 H2 F3 H3 → Ok3 p' c3 F3 H3 → Rep X.K p' F3 d v → noLst d = true ∧ Q' d c3 → Q v H3 := fun d c3 v F3 H3 w3 ok3 r3 q3 =>
      t d c3 v F3 H3 (w12.trans (Fwd.pn (p := p') (p' := p) rfl w3)) ⟨ok3.sub, ok3.pot, ⟨ok3.tab.tabs, fun q hq => ok3.tab.cod q (List.mem_cons_of_mem _ hq)⟩, ⟨ok3.nt.t, ok3.nt.f⟩⟩ (Rep.pnL q3.1 r3) q3.2
    refine ⟨_, PSs.nox B, p', c1, start3 Ng.length (.lam f F2 p' :: l), F2, F2, H2, _, start_ok ok2' r2', hrun, fun c ρ σ F' H' s q => ?_, fun _ _ _ _ _ _ q => q.elim, fun _ _ _ _ _ _ q => q.elim, back⟩
    exact back .non c .non F' H' s.ent s.ok rfl q
  refine wpAny_call (codeAny_mono rc fun r s3 hq => ?_)
  cases r with
  | error e => exact (show False from hq).elim
  | ok fl =>
    cases fl with
    | ret u => 
      obtain ⟨v, H', J, r, q⟩ := I2.after hq
      exact ⟨v, H', pin_off J, r, q⟩
    | next => exact False.elim hq
    | brk => exact False.elim hq
    | cont => exact False.elim hq
end
end L3

/-! L3, sorted, max and min of one sequence, names of built-ins. -/
namespace L3
open PySem PySem.Spec PyProof.Rows L2
section
variable {K : PySem.W.Frag} {X : Cx} {e a b : Expr} {es : List Expr} {fa fb : FE} {fr : FA} {pos : Pos}
/-! sorted -/
def sortedM (l : List D) (Q : List D → Prop) : Prop :=
  (∃ ns, intsOf l = some ns ∧ ns.length < 64 ∧ ∀ ns' : List Int, ns'.Perm ns → ns'.Pairwise (· ≤ ·) → Q (ns'.map .int)) ∨
  (∃ ds, toPyL l = some ds ∧ PySem.W.AllAlike ds ∧ PySem.W.Sortable ds ∧ ds.length ≤ 16777216 ∧ (∀ d ∈ ds, d.depth ≤ 64) ∧ ∀ l' : List D, l'.Perm l → Q l')
/-- three rows beside one another -/
def zip3 : List D → List V → List PyData → List (D × V × PyData)
  | d :: l, v :: vs, x :: xs => (d, v, x) :: zip3 l vs xs
  | _, _, _ => []
theorem zip3_at : ∀ (l : List D) (vs : List V) (xs : List PyData), vs.length = l.length → xs.length = l.length → (zip3 l vs xs).map (·.1) = l ∧ (zip3 l vs xs).map (·.2.1) = vs ∧ (zip3 l vs xs).map (·.2.2) = xs
  | [], [], [], _, _ => ⟨rfl, rfl, rfl⟩
  | d :: l, v :: vs, x :: xs, h1, h2 => by
    obtain ⟨a, b, c⟩ := zip3_at l vs xs (Nat.succ.inj h1) (Nat.succ.inj h2)
    exact ⟨congrArg (d :: ·) a, congrArg (v :: ·) b, congrArg (x :: ·) c⟩
  | [], v :: vs, _, h1, _ => by cases h1
  | [], [], x :: xs, _, h2 => by cases h2
  | d :: l, [], _, h1, _ => by cases h1
  | d :: l, v :: vs, [], _, h2 => by cases h2
theorem zip3_mem {P : D → V → Prop} {R : D → PyData → Prop} : ∀ (l : List D) (vs : List V) (xs : List PyData), (∀ (i : Nat) d v, l[i]? = some d → vs[i]? = some v → P d v) → (∀ (i : Nat) d x, l[i]? = some d → xs[i]? = some x → R d x) → ∀ b ∈ zip3 l vs xs, P b.1 b.2.1 ∧ R b.1 b.2.2
  | d :: l, v :: vs, x :: xs, h1, h2, b, hb => by
    rcases List.mem_cons.mp hb with z | z
    · subst z; exact ⟨h1 0 d v rfl rfl, h2 0 d x rfl rfl⟩
    · exact zip3_mem l vs xs (fun i d v a b => h1 (i + 1) d v a b) (fun i d v a b => h2 (i + 1) d v a b) b z
  | [], _, _, _, _, b, hb => by cases hb
  | _ :: _, [], _, _, _, b, hb => by cases hb
  | _ :: _, _ :: _, [], _, _, b, hb => by cases hb
theorem toPyL_len : ∀ {l : List D} {xs : List PyData}, toPyL l = some xs → xs.length = l.length
  | [], _, h => by unfold toPyL at h; cases h; rfl
  | d :: l, _, h => by
    unfold toPyL at h
    split at h
    · cases h
      rename_i e1 e2
      rw [List.length_cons, List.length_cons, toPyL_len e2]
    · cases h
theorem toPyL_get : ∀ {l : List D} {xs : List PyData} (i : Nat) (d : D) (x : PyData), toPyL l = some xs → l[i]? = some d → xs[i]? = some x → toPy d = some x
  | [], _, i, d, x, _, h, _ => by simp at h
  | e :: l, _, i, d, x, h, h1, h2 => by
    unfold toPyL at h
    split at h
    · cases h
      rename_i e1 e2
      cases i with
      | zero =>
        cases (show some e = some d from h1)
        cases (show some _ = some x from h2)
        exact e1
      | succ i => exact toPyL_get i d x e2 (show l[i]? = some d from h1) h2
    · cases h
/-- data sorted: in some sequence -/
def rSortP (K : PySem.W.Frag) : List V → Hp → VK → Prop := fun vs H Q => ∃ (a : Addr) (bs : List (D × V × PyData)), vs = [V.ref a] ∧ SqL K H a (bs.map (·.2.1)) ∧ (∀ b ∈ bs, Dp K H b.2.1 b.2.2) ∧ PySem.W.AllAlike (bs.map (·.2.2)) ∧ PySem.W.Sortable (bs.map (·.2.2)) ∧
  bs.length ≤ sizeLine ∧ (∀ b ∈ bs, b.2.2.depth ≤ 64) ∧ ∀ (bs' : List (D × V × PyData)) (p : Addr), bs'.Perm bs → H p = none → Q (.ref p) (upd H p (.lst (bs'.map (·.2.1))))
theorem each_of : ∀ {bs : List (D × V × PyData)} {us : List Value}, Vals (bs.map (·.2.1)) us → PySem.W.EachIs (fun v (b : D × V × PyData) => RelV b.2.1 v) us bs
  | [], _, .nil => .nil
  | b :: bs, _, .cons r t => .cons r (each_of t)
theorem vals_each : ∀ {bs : List (D × V × PyData)} {us : List Value}, PySem.W.EachIs (fun v (b : D × V × PyData) => RelV b.2.1 v) us bs → Vals (bs.map (·.2.1)) us
  | [], _, .nil => .nil
  | b :: bs, _, .cons r t => .cons r (vals_each t)
theorem cr_sortP (hu : X.A.units + 66 < cLine) : CallR X (.builtin "sorted") (rSortP X.K) := by
  intro pins s σ H vs us Q I r h
  obtain ⟨a, bs, rfl, hs, hd, hal, hk, hlen, hdep, q⟩ := h
  obtain ⟨its, rv, hl, _⟩ := I.list hs
  rw [Vals.ref1 r]
  have e := each_of rv
  have er : PySem.W.EachIs (fun v (b : D × V × PyData) => ∃ as, Reads s.heap v b.2.2 as) its bs := PySem.W.EachIs.of_zip e.length fun p hp => by
    have h2 := e.zip p hp
    exact Dp.reads I _ _ _ (hd p.2 (List.of_mem_zip hp).2) h2
  refine PySem.W.sorted_data (enc := fun b => b.2.2) hl.isList e er hal hk hlen (fun b hb => by have := hdep b hb; omega) fun out ho eo => ?_
  obtain ⟨ep, he'⟩ := PyProof.Rows.sortedAll_at s.heap its out.toArray
  have hp := List.mergeSort_perm bs (PySem.W.dataLe false fun b => b.2.2)
  refine ⟨.ref _, upd H (s.heap.objs.size + 1) (.lst ((bs.mergeSort (PySem.W.dataLe false fun b => b.2.2)).map (·.2.1))), I.laid (t' := s.toks) (fun _ _ => PyProof.Rows.sortedAll_old) (Nat.le_succ _) ⟨by rw [List.length_map, hp.length_eq]; exact hlen, out, ep, vals_each eo, he'⟩, rfl, q _ _ hp (I.hok.fresh (Nat.le_succ _))⟩
@[simp ↓] def fSorted (fa : FE) : FL := fun ρ c Q => fa ρ c fun x c => match x with
  | .lst l => sortedM l fun l' => Q l' c
  | _ => False
theorem RepL.ofMap {p : Pn} {F : Hp} : ∀ (bs : List (D × V × PyData)), (∀ b ∈ bs, Rep K p F b.1 b.2.1) → RepL K p F (bs.map (·.1)) (bs.map (·.2.1))
  | [], _ => rfl
  | b :: bs, h => ⟨_, _, rfl, h b List.mem_cons_self, RepL.ofMap bs fun x hx => h x (List.mem_cons_of_mem _ hx)⟩
theorem fx_sorted (hu : X.A.units + 66 < cLine) (hm : X.mg "sorted" = none) (ha : EX X e fa) (hg : Gl X "sorted" := by rfl) (hs : starEach [e] X.env = (false, eval e X.env) :: starEach [] X.env := by rfl) {p : Pos} :
    FX X (.Call (.Name "sorted" p) [e] [] pos) (fSorted fa) := PE.imp (pe_callB (CallR.or cr_sorted (cr_sortP hu)) hg hm (by decide +kernel) (pa_cons ha pa_nil hs) (by decide) (by decide) hs rfl) fun σ H Q ⟨p, c, ρ, F, Q', es, h, t⟩ =>
  ⟨p, c, ρ, F, _, es, h, fun d c1 v F1 H1 w1 ok1 r1 q1 => by
    split at q1
    · obtain ⟨a, xs, rfl, h1, rl⟩ := r1
      rcases q1 with ⟨ns, e1, e2, e3⟩ | ⟨ds, e1, e2, e3, e4, e5, e6⟩
      · refine .inl ⟨a, ns, rfl, by rw [← RepL.ints rl e1]; exact .of (ok1.sub _ _ h1), e2, fun ns' q hp hs nq => ?_⟩
        obtain ⟨w, ok, n1, n2, n3⟩ := layL w1 ok1 nq (ns'.map V.int)
        exact t _ c1 q _ F1 _ w ok n1 n2 n3 upd_same (rep_ints ns') (e3 ns' hp hs)
      · rename_i l
        obtain ⟨z1, z2, z3⟩ := zip3_at l xs ds rl.len (toPyL_len e1)
        have hm := zip3_mem (P := fun d v => Rep X.K p F1 d v) (R := fun d x => toPy d = some x) l xs ds (fun i d v g1 g2 => by
          obtain ⟨v', y1, y2⟩ := rl.get g1
          rw [g2] at y1
          cases y1
          exact y2) (fun i d x g1 g2 => toPyL_get i d x e1 g1 g2)
        refine .inr ⟨a, zip3 l xs ds, rfl, by rw [z2]; exact .of (ok1.sub _ _ h1), fun b hb => (hm b hb).1.dp ok1.sub (hm b hb).2, by rw [z3]; exact e2, by rw [z3]; exact e3, ?_, fun b hb => e5 _ (by rw [← z3]; exact List.mem_map.mpr ⟨b, hb, rfl⟩), fun bs' q hp nq => ?_⟩
        · have := congrArg List.length z3
          rw [List.length_map] at this
          rw [this, line16]; exact e4
        · obtain ⟨w, ok, n1, n2, n3⟩ := layL w1 ok1 nq (bs'.map (·.2.1))
          refine t (bs'.map (·.1)) c1 q _ F1 _ w ok n1 n2 n3 upd_same (RepL.ofMap bs' fun b hb => (hm b (hp.mem_iff.mp hb)).1) (e6 _ ?_)
          have := hp.map (·.1)
          rw [z1] at this
          exact this
    · exact q1.elim⟩
/-! max, min of one sequence of ints -/
@[simp ↓] def maxM : FM := fun l c Q => match l with
  | [.tup m] => (match intsOf m with | some (n :: ns) => Q (.int (ns.foldl max n)) c | _ => False)
  | [.lst m] => (match intsOf m with | some (n :: ns) => Q (.int (ns.foldl max n)) c | _ => False)
  | _ => False
@[simp ↓] def minM : FM := fun l c Q => match l with
  | [.tup m] => (match intsOf m with | some (n :: ns) => Q (.int (ns.foldl min n)) c | _ => False)
  | [.lst m] => (match intsOf m with | some (n :: ns) => Q (.int (ns.foldl min n)) c | _ => False)
  | _ => False
def rOne (K : PySem.W.Frag) (f : Int → List Int → Int) : List V → Hp → VK → Prop := fun vs H Q => ∃ (a : Addr) (n : Int) (ns : List Int), vs = [V.ref a] ∧ (SqL K H a ((n :: ns).map V.int) ∨ SqT K H a ((n :: ns).map V.int)) ∧ Q (.int (f n ns)) H
theorem reads_ints {h : Heap} : ∀ {ns : List Int} {us : List Value}, Vals (ns.map V.int) us → ReadsAll h us (ns.map .int) []
  | [], _, .nil => .nil
  | n :: ns, _, .cons r t => by
    obtain ⟨k, rfl⟩ := r
    exact .cons (.int n k) (reads_ints t)
theorem depth_ints : ∀ ns : List Int, PyData.depthAll (ns.map .int) = 0
  | [] => rfl
  | n :: ns => by
    show max (PyData.depth (.int n)) (PyData.depthAll (ns.map .int)) = 0
    rw [depth_ints ns]
    rfl
theorem alike_all (n : Int) (ns : List Int) : PySem.W.AlikeAll (PyData.int n :: ns.map .int) := by
  have h : ∀ x ∈ (n :: ns).map PyData.int, ∃ i, x = .int i := fun x hx => by
    obtain ⟨i, _, rfl⟩ := List.mem_map.mp hx
    exact ⟨i, rfl⟩
  refine ⟨fun x hx y hy => ?_, fun x hx => ?_⟩
  · obtain ⟨i, rfl⟩ := h x hx
    obtain ⟨j, rfl⟩ := h y hy
    rfl
  · obtain ⟨i, rfl⟩ := h x hx
    exact fun z => nomatch z
theorem maxR (hc : X.calm = true) (hu : X.A.units + 2 < cLine) : CallR X (.builtin "max") (rOne X.K fun n ns => ns.foldl max n) := by
  intro pins s σ H vs us Q I r h
  obtain ⟨a, n, ns, rfl, hs, q⟩ := h
  rw [Vals.ref1 r]
  have fin : ∀ (its : List Value), Vals ((n :: ns).map V.int) its → ∀ (i : Nat) (v : Value) (h' : Heap) (tk : Nat) (bs : List Addr), its.toArray[i]? = some v → Reads h' v (PySem.W.maxD (.int n) (ns.map .int)) bs → (∀ b o, s.heap.get? b = some o → h'.get? b = some o) → EP X pins σ Q v { s with heap := h', toks := tk } := fun its rv i v h' tk bs e rd k => by
    rw [PySem.W.maxD_ints] at rd
    cases rd
    exact ⟨.int (ns.foldl max n), H, I.kept k, ⟨_, rfl⟩, q⟩
  have hdep : X.A.units + 1 + PyData.depthAll (PyData.int n :: ns.map .int) < cLine := by
    have := depth_ints (n :: ns)
    rw [show PyData.int n :: ns.map .int = (n :: ns).map .int from rfl, this]
    omega
  rcases hs with hs | hs
  · obtain ⟨its, rv, hl, _⟩ := I.list hs
    exact PySem.W.max_list_data (I.ok.hd hc) hl.isList (by simpa using reads_ints rv) (alike_all n ns) hdep (fin its rv)
  · obtain ⟨its, rv, hl, _⟩ := I.tuple hs
    exact PySem.W.max_tuple_data (I.ok.hd hc) hl (by simpa using reads_ints rv) (alike_all n ns) hdep (fin its rv)
theorem minR (hc : X.calm = true) (hu : X.A.units + 2 < cLine) : CallR X (.builtin "min") (rOne X.K fun n ns => ns.foldl min n) := by
  intro pins s σ H vs us Q I r h
  obtain ⟨a, n, ns, rfl, hs, q⟩ := h
  rw [Vals.ref1 r]
  have fin : ∀ (its : List Value), Vals ((n :: ns).map V.int) its → ∀ (i : Nat) (v : Value) (h' : Heap) (tk : Nat) (bs : List Addr), its.toArray[i]? = some v → Reads h' v (PySem.W.minD (.int n) (ns.map .int)) bs → (∀ b o, s.heap.get? b = some o → h'.get? b = some o) → EP X pins σ Q v { s with heap := h', toks := tk } := fun its rv i v h' tk bs e rd k => by
    rw [PySem.W.minD_ints] at rd
    cases rd
    exact ⟨.int (ns.foldl min n), H, I.kept k, ⟨_, rfl⟩, q⟩
  have hdep : X.A.units + 1 + PyData.depthAll (PyData.int n :: ns.map .int) < cLine := by
    have := depth_ints (n :: ns)
    rw [show PyData.int n :: ns.map .int = (n :: ns).map .int from rfl, this]
    omega
  rcases hs with hs | hs
  · obtain ⟨its, rv, hl, _⟩ := I.list hs
    exact PySem.W.min_list_data (I.ok.hd hc) hl.isList (by simpa using reads_ints rv) (alike_all n ns) hdep (fin its rv)
  · obtain ⟨its, rv, hl, _⟩ := I.tuple hs
    exact PySem.W.min_tuple_data (I.ok.hd hc) hl (by simpa using reads_ints rv) (alike_all n ns) hdep (fin its rv)

theorem maxS : CallS K (rOne K fun n ns => ns.foldl max n) maxM := by
  intro p c F H l vs Q' Q ok r h t
  unfold maxM at h
  split at h
  · obtain ⟨v, rfl, r1⟩ := r.one
    obtain ⟨a, xs, rfl, h1, rl⟩ := r1
    split at h
    · rename_i n ns e
      exact ⟨a, n, ns, rfl, .inr (by rw [← RepL.ints rl e]; exact ok.sqT h1), tellI ok t h⟩
    · exact h.elim
  · obtain ⟨v, rfl, r1⟩ := r.one
    obtain ⟨a, xs, rfl, h1, rl⟩ := r1
    split at h
    · rename_i n ns e
      exact ⟨a, n, ns, rfl, .inl (by rw [← RepL.ints rl e]; exact .of (ok.sub _ _ h1)), tellI ok t h⟩
    · exact h.elim
  · exact h.elim
theorem minS : CallS K (rOne K fun n ns => ns.foldl min n) minM := by
  intro p c F H l vs Q' Q ok r h t
  unfold minM at h
  split at h
  · obtain ⟨v, rfl, r1⟩ := r.one
    obtain ⟨a, xs, rfl, h1, rl⟩ := r1
    split at h
    · rename_i n ns e
      exact ⟨a, n, ns, rfl, .inr (by rw [← RepL.ints rl e]; exact ok.sqT h1), tellI ok t h⟩
    · exact h.elim
  · obtain ⟨v, rfl, r1⟩ := r.one
    obtain ⟨a, xs, rfl, h1, rl⟩ := r1
    split at h
    · rename_i n ns e
      exact ⟨a, n, ns, rfl, .inl (by rw [← RepL.ints rl e]; exact .of (ok.sub _ _ h1)), tellI ok t h⟩
    · exact h.elim
  · exact h.elim
end
/-! names of built-ins -/
theorem boot_len3 : bootBuiltins "len" = some (.builtin "len") := by decide +kernel
theorem boot_abs3 : bootBuiltins "abs" = some (.builtin "abs") := by decide +kernel
theorem boot_all3 : bootBuiltins "all" = some (.builtin "all") := by decide +kernel
theorem boot_any3 : bootBuiltins "any" = some (.builtin "any") := by decide +kernel
theorem boot_sum3 : bootBuiltins "sum" = some (.builtin "sum") := by decide +kernel
theorem boot_max3 : bootBuiltins "max" = some (.builtin "max") := by decide +kernel
theorem boot_min3 : bootBuiltins "min" = some (.builtin "min") := by decide +kernel
theorem boot_isinstance3 : bootBuiltins "isinstance" = some (.builtin "isinstance") := by decide +kernel
theorem boot_int3 : bootBuiltins "int" = some (.type "int") := by decide +kernel
theorem boot_bool3 : bootBuiltins "bool" = some (.type "bool") := by decide +kernel
theorem boot_str3 : bootBuiltins "str" = some (.type "str") := by decide +kernel
theorem boot_tuple3 : bootBuiltins "tuple" = some (.type "tuple") := by decide +kernel
theorem boot_list3 : bootBuiltins "list" = some (.type "list") := by decide +kernel
end L3

/-! L3, the pot: a list of three ints that a law draws from. -/
namespace L3
open PySem PySem.Spec PyProof.Rows L2
theorem u66 {k : Nat} {A : Around} (r : Room k A) {n : Nat} (h : n ≤ 200 := by decide) : A.units + n < cLine := by
  have := r.un
  omega
section
variable {K : PySem.W.Frag} {X : Cx} {e a b : Expr} {es : List Expr} {fa fb fe : FE} {fr : FA} {pos p2 : Pos}
/-- pot[k] -/
@[simp ↓] def ePot (i : Nat) (k : Int) : FE := fun ρ c Q => get3 ρ i = some .pot ∧ ((k = 0 ∧ ∀ x : Int, 0 ≤ x → Q (.int x) c) ∨ (k = 1 ∧ ∀ y : Int, 0 ≤ y → y < 2 ^ 61 → Q (.int y) c) ∨ (k = 2 ∧ ∀ z : Int, 0 ≤ z → z ≤ c → Q (.int z) c))
theorem ex_pot (i : Nat) {x : Str} {px pk : Pos} {k : Int} {j : Nat} (hN : X.N[i]? = some x := by rfl) (hv : Vis X.env.scope x := by first | exact Or.inl rfl | exact Or.inr (Or.inl rfl) | exact Or.inr (Or.inr rfl)) (hd : (x == ("__debug__" : Str)) = false := by decide)
    (hcd : (x == ("__classdict__" : Str)) = false := by decide) : EX X (.Subscript (.Name x px) (.Constant (.int k) j pk) pos) (ePot i k) := PE.imp (pe_ix L2.ix_seq (pe_var (i := i) hN hv hd hcd) pe_int (fun _ _ => rfl)) fun σ H Q ⟨p, c, ρ, F, Q', es, ⟨g, h⟩, t⟩ => by
  obtain ⟨v, e1, r⟩ := es.slot i _ g
  obtain ⟨a, e2, rfl⟩ := r
  obtain ⟨⟨x, y, z, hH, x0, y0, y1, z0, z1⟩, nF⟩ := es.ok.pot a e2
  refine ⟨_, e1, ?_⟩
  have hL : SqL X.K H a [.int x, .int y, .int z] := .of hH
  rcases h with ⟨rfl, h⟩ | ⟨rfl, h⟩ | ⟨rfl, h⟩
  · exact .inl ⟨a, _, 0, .int x, rfl, rfl, hL, rfl, tellI es.ok t (h x x0)⟩
  · exact .inl ⟨a, _, 1, .int y, rfl, rfl, hL, rfl, tellI es.ok t (h y y0 y1)⟩
  · exact .inl ⟨a, _, 2, .int z, rfl, rfl, hL, rfl, tellI es.ok t (h z z0 z1)⟩
/-- pot[k] = e -/
@[simp ↓] def sPot (i : Nat) (k : Int) (fe : FE) : FS := fun E ρ c => fe (ρ.map vA) c fun d c => match d with
  | .int v => ρ[i]? = some (.val .pot) ∧ ((k = 0 ∧ 0 ≤ v ∧ E.nx ρ (c + 1)) ∨ (k = 2 ∧ 0 ≤ v ∧ v ≤ (c : Int) + 1 ∧ E.nx ρ (c + 1)))
  | _ => False
theorem sx_pot {i : Nat} {k : Int} {st : Stmt} (h : PS X st (tAsg (tE X.K fa) (gSub (tVar i) (tC (.int k)) rSetL))) : SX X st (sPot i k fa) := PS.imp h fun D σ H ⟨p, c, ρ, F, F0, H0, E, s, h, t⟩ => by
  refine ⟨p, c, _, F, _, s.e, h, fun d c1 v F1 H1 w1 ok1 r1 q1 => ?_⟩
  split at q1
  · rename_i n
    cases (show v = .int n from r1)
    obtain ⟨g, q⟩ := q1
    have s1 := s.fwd w1 ok1
    obtain ⟨u, e1, r⟩ := s1.val i _ g
    obtain ⟨a, e2, rfl⟩ := r
    obtain ⟨⟨x, y, z, hH, x0, y0, y1, z0, z1⟩, nF⟩ := ok1.pot a e2
    have put : ∀ x' z' : Int, 0 ≤ x' → 0 ≤ z' → z' ≤ (c1 : Int) + 1 → SSt X.K p (c1 + 1) ρ σ F1 (upd H1 a (.lst [.int x', .int y, .int z'])) F0 H0 := fun x' z' h1 h2 h3 => by
      refine s1.fwd ⟨fun _ _ z => z, fun b o hb n _ => ?_, fun _ _ z => .inl z, fun b hb => ?_⟩ ⟨fun b o hb => ?_, fun b hb => ?_, tabs_put ok1.tab hH, ok1.nt⟩
      · rw [upd_ne (fun z => n (by rw [z]; exact e2))]; exact hb
      · by_cases z : b = a
        · rw [z, upd_same] at hb; cases hb
        · rw [upd_ne z] at hb; exact hb
      · rw [upd_ne (ne_of_none hb nF)]; exact ok1.sub b o hb
      · rw [e2] at hb
        cases hb
        exact ⟨⟨x', y, z', upd_same, h1, y0, y1, h2, by omega⟩, nF⟩
    refine ⟨_, e1, ?_⟩
    rcases q with ⟨rfl, q1, q2⟩ | ⟨rfl, q1, q2, q3⟩
    · exact ⟨a, _, 0, 0, rfl, rfl, hH, rfl, t.nx _ ρ σ F1 _ (put n z q1 z0 (by omega)) q2⟩
    · exact ⟨a, _, 2, 2, rfl, rfl, hH, rfl, t.nx _ ρ σ F1 _ (put x n x0 q1 q2) q3⟩
  · exact q1.elim
/-! a def that hands out a list of its own -/
abbrev FSF := (List D → Nat → Prop) → Env3 → Nat → Prop
def TellF (K : PySem.W.Frag) (p : Pn) (F0 H0 : Hp) (Q' : List D → Nat → Prop) (Q : VK) : Prop := ∀ l c' a xs F' H', Fwd p F0 H0 F' H' → Ok3 p c' F' H' → H0 a = none → F' a = none → p.pot ≠ some a → H' a = some (.lst xs) → RepL K p F' l xs → Q' l c' → Q (.ref a) H'
def tSF (K : PySem.W.Frag) (s : FSF) : TS := fun D σ H => ∃ p c ρ F F0 H0 Q', SSt K p c ρ σ F H F0 H0 ∧ s Q' ρ c ∧ TellF K p F0 H0 Q' D.rt
@[simp ↓] def sRetF (f : FL) : FSF := fun Q ρ c => f (ρ.map vA) c Q
@[simp ↓] def sThenF (g : FS) (h : FSF) : FSF := fun Q ρ c => g { nx := fun ρ c => h Q ρ c, rt := fun _ _ => False } ρ c
theorem bf_ret {f : FL} (h : FX X e f) : PSs X [.Return (some e) pos] (tSF X.K (sRetF f)) := PSs.imp (pss_one (ps_ret h)) fun D σ H ⟨p, c, ρ, F, F0, H0, Q', s, h, t⟩ =>
  ⟨p, c, _, F, Q', s.e, h, fun l c' a xs F' H' w ok n1 n2 n3 h1 r q => t l c' a xs F' H' (s.ent.trans w) ok (s.ent.there a n1) n2 n3 h1 r q⟩
theorem bf_cons {st : Stmt} {rest : List Stmt} {g : FS} {f : FSF} (h1 : SX X st g) (h2 : PSs X rest (tSF X.K f)) : PSs X (st :: rest) (tSF X.K (sThenF g f)) := PSs.imp (pss_cons h1 h2) fun D σ H ⟨p, c, ρ, F, F0, H0, Q', s, h, t⟩ =>
  ⟨p, c, ρ, F, F0, H0, _, s, h, fun c1 ρ1 σ1 F1 H1 s1 q => ⟨p, c1, ρ1, F1, F0, H0, Q', s1, q, t⟩, fun _ _ _ _ _ _ q => q.elim, fun _ _ _ _ _ _ q => q.elim, fun _ _ _ _ _ _ _ _ q => q.elim⟩
abbrev FMF := List D → Nat → (List D → Nat → Prop) → Prop
def spF (K : PySem.W.Frag) (n : Nat) (m : FMF) : Sp := fun vs H Q _ => vs.length = n ∧ ∃ p c F ds Q', Ok3 p c F H ∧ RepL K p F ds vs ∧ m ds c Q' ∧ TellF K p F H Q' Q
theorem fn3F {P : Program} {w : World} {mg : Str → Option Value} {base : Heap} {x qual : Str} {st : Stmt} {f : Addr} {fd : FuncData} {N ps : List Str} {k n : Nat} {m : FMF} {g : FSF}
    (F : Fun K x qual st f fd) (S : FnScope N ps (defScope st)) (hn : ps.length = n) (hp : ∀ ds c Q, m ds c Q → g Q (start3 N.length ds) c)
    (hbody : ∀ (cdv : Value) (A : Around) (outer : List Env) (s : Shared) (H : Hp) (E : XK), Room k (A.deeper (envOfC qual (defScope st) s.heap.objs.size f cdv)) →
      PSs (cxOf CX0 P w K mg base N qual (defScope st) f cdv A outer s H E).nox (defBody st) (tSF K g)) : FnOk P w K mg base CX0 (k + 1) f fd ps (spF K n m) := by
  refine F.ok S (fun vs H Q E h => h.1.trans hn.symm) fun cdv A outer s H vs Q E hr ⟨hl, p, c, F1, ds, Q', ok, r, h, t⟩ => ?_
  exact ⟨_, hbody cdv A outer s H E hr, p, c, start3 N.length ds, F1, F1, H, _, start_ok ok r, hp ds c Q' h, t⟩
/-- right(pot(es)): a new pot, drawn from by right -/
@[simp ↓] def ePotCall (mp : FMF) (mr : FM) (fr : FA) : FE := fun ρ c Q => fr ρ c fun l c => mp l c fun l' c => ∃ x y : Int, l' = [.int x, .int y, .int 0] ∧ 0 ≤ x ∧ 0 ≤ y ∧ y < 2 ^ 61 ∧ mr [.pot] 0 fun d _ => noLst d = true ∧ Q d c
theorem ex_potcall {k k2 n : Nat} {f f2 : Addr} {fd fd2 : FuncData} {ps ps2 : List Str} {mp : FMF} {mr : FM} {x y : Str} {p1 p2 : Pos} (G : FnOk X.prog X.w X.K X.mg X.base CX0 k f fd ps (spF X.K n mp)) (G2 : FnOk X.prog X.w X.K X.mg X.base CX0 k2 f2 fd2 ps2 (spM X.K 1 mr)) (hr : Room k X.A) (hr2 : Room k2 X.A)
    (hm : X.mg x = some (.ref f)) (hk : PySem.W.keepIn X.K (.ref f) = true) (hb : Binds X.K fd ps []) (hm2 : X.mg y = some (.ref f2)) (hk2 : PySem.W.keepIn X.K (.ref f2) = true) (hb2 : Binds X.K fd2 ps2 []) (ha : AX X (a :: es) fr) (hl : ∀ l c Q, mp l c Q → l.length = n)
    (hg : Gl X x := by rfl) (hg2 : Gl X y := by rfl) (hdb : (x == ("__debug__" : Str)) = false := by decide) (hdb2 : (y == ("__debug__" : Str)) = false := by decide) (he : starEach (a :: es) X.env = (false, eval a X.env) :: starEach es X.env := by rfl) (hpl : (backTo p2 (starEach es X.env)).any (·.1) = false := by rfl)
    (he2 : starEach [.Call (.Name x p1) (a :: es) [] p2] X.env = (false, eval (.Call (.Name x p1) (a :: es) [] p2) X.env) :: starEach [] X.env := by rfl) {p3 : Pos} :
    EX X (.Call (.Name y p3) [.Call (.Name x p1) (a :: es) [] p2] [] pos) (ePotCall mp mr fr) := PE.imp (pe_call (dvs := []) (E := E0) G2 hr2 hg2 hm2 hk2 hb2 .nil pass0 (pa_cons (pe_call (dvs := []) (E := E0) G hr hg hm hk hb .nil pass0 ha hdb he hpl) pa_nil he2) hdb2 he2 rfl) fun σ H Q ⟨p, c, ρ, F, Q', es, h, t⟩ =>
  ⟨p, c, ρ, F, _, es, h, fun l c1 vs F1 H1 w1 ok1 r1 q1 => ⟨by rw [List.append_nil, r1.len]; exact hl _ _ _ q1, p, c1, F1, l, _, ok1, by rw [List.append_nil]; exact r1, q1, fun l' c2 a xs F2 H2 w2 ok2 n1 n2 n3 h1 r2 q2 => by
    obtain ⟨x, y, rfl, x0, y0, y1, q2⟩ := q2
    obtain ⟨v1, vs1, rfl, e1, r3⟩ := r2
    obtain ⟨v2, v3, rfl, e2, e3⟩ := r3.two
    cases (show v1 = .int x from e1)
    cases (show v2 = .int y from e2)
    cases (show v3 = .int 0 from e3)
    have w12 := w1.trans w2
    have nH : H a = none := w1.there a n1
    refine ⟨rfl, ⟨some a, p.cod, p.flo⟩, 0, F2, [.pot], _, ⟨ok2.sub, fun b hb => ?_, ⟨ok2.tab.tabs, ok2.tab.cod⟩, ⟨ok2.nt.t, ok2.nt.f⟩⟩, ⟨_, _, rfl, ⟨a, rfl, rfl⟩, rfl⟩, q2, fun d c3 v F3 H3 w3 ok3 r3 q3 => ?_⟩
    · cases hb
      exact ⟨⟨x, y, 0, h1, x0, y0, y1, Int.le_refl _, Int.le_refl _⟩, n2⟩
    · have kp : ∀ b o, H2 b = some o → b ≠ a → (∀ ps, o ≠ HO.tbl ps) → H3 b = some o := fun b o h n t => w3.keep b o h (fun z => n (Option.some.inj z).symm) t
      refine t d c2 v F3 H3 ⟨fun b o z => w3.frz b o (w12.frz b o z), fun b o hb n t => ?_, fun b o hb => ?_, fun b hb => w12.there b (w3.there b hb)⟩ ⟨ok3.sub, fun b hb => ?_, ⟨ok3.tab.tabs, ok3.tab.cod⟩, ⟨ok3.nt.t, ok3.nt.f⟩⟩ (Rep.pnL q3.1 r3) q3.2
      · exact kp b o (w12.keep b o hb n t) (ne_of_none hb nH) t
      · rcases w3.new b o hb with z | z
        · exact w12.new b o z
        · exact .inr (w12.there b z)
      · obtain ⟨⟨x', y', z', g1, g2⟩, g3⟩ := ok2.pot b hb
        refine ⟨⟨x', y', z', kp b _ g1 (fun z => n3 (z ▸ hb)) (fun _ z => nomatch z), g2⟩, ?_⟩
        cases z : F3 b with
        | none => rfl
        | some o =>
          rcases w3.new b o z with q | q
          · rw [g3] at q; cases q
          · rw [g1] at q; cases q⟩⟩
end
/-- a def that makes a lambda: its code object is told -/
theorem fn3L {P : Program} {w : World} {K : PySem.W.Frag} {mg : Str → Option Value} {base : Heap} {x qual : Str} {st : Stmt} {f : Addr} {fd : FuncData} {N ps : List Str} {k n : Nat} {m : FM} {g : FS}
    (F : Fun K x qual st f fd) (S : FnScope N ps (defScope st)) (hn : ps.length = n) (hp : ∀ ds c Q, m ds c Q → runM N.length g ds c Q)
    (hbody : ∀ (cdv : Value) (A : Around) (outer : List Env) (s : Shared) (H : Hp) (E : XK), fd.code = cdv → Room k (A.deeper (envOfC qual (defScope st) s.heap.objs.size f cdv)) →
      BX (cxOf CX0 P w K mg base N qual (defScope st) f cdv A outer s H E).nox (defBody st) g) : FnOk P w K mg base CX0 (k + 1) f fd ps (spM K n m) := by
  obtain ⟨oc, od, kV, doc, pm, an, cdv, ct, osl, rfl, lk, hcd⟩ := F.ex
  refine L2.fn_of lk hcd S (fun vs H Q E h => h.1.trans hn.symm) fun A outer s H vs Q E hr ⟨hl, p, c, F1, ds, Q', ok, r, h, t⟩ => ?_
  refine ⟨_, (hbody cdv A outer s H E rfl hr).nox, p, c, start3 N.length ds, F1, F1, H, _, start_ok ok r, hp ds c Q' h, fun c ρ σ F' H' s q => ?_, fun _ _ _ _ _ _ q => q.elim, fun _ _ _ _ _ _ q => q.elim, t⟩
  exact t .non c .non F' H' s.ent s.ok rfl q
end L3

/-! L3, plain rules: loops and comprehensions as invariants. -/
namespace L3
open PySem PySem.Spec PyProof.Rows L2
theorem while_n {t : FT} {b : FS} {E : End3} (I : Env3 → Nat → Nat → Prop)
    (step : ∀ μ ρ c, I ρ c μ → ∀ N : Env3 → Nat → Prop, (∀ ρ' c' μ', μ' < μ → I ρ' c' μ' → N ρ' c') → t (ρ.map vB) c fun k c' => if k = true then b { E with nx := N, ct := N, bk := E.nx } ρ c' else E.nx ρ c') :
    ∀ n μ ρ c, μ < n → I ρ c μ → whileN t b E n ρ c
  | 0, _, _, _, h, _ => absurd h (Nat.not_lt_zero _)
  | n + 1, μ, ρ, c, h, i => step μ ρ c i (whileN t b E n) fun ρ' c' μ' h' i' => while_n I step n μ' ρ' c' (Nat.lt_of_lt_of_le h' (Nat.le_of_lt_succ h)) i'
theorem while_rule {t : FT} {b : FS} {E : End3} (I : Env3 → Nat → Nat → Prop) {ρ : Env3} {c μ : Nat} (i : I ρ c μ)
    (step : ∀ μ ρ c, I ρ c μ → ∀ N : Env3 → Nat → Prop, (∀ ρ' c' μ', μ' < μ → I ρ' c' μ' → N ρ' c') → t (ρ.map vB) c fun k c' => if k = true then b { E with nx := N, ct := N, bk := E.nx } ρ c' else E.nx ρ c') : sWhile t b E ρ c :=
  ⟨μ + 1, while_n I step (μ + 1) μ ρ c (Nat.lt_succ_self _) i⟩
theorem for_rule {g : FG} {b : FS} {E : End3} (I : List D → Env3 → Nat → Prop)
    (step : ∀ d l ρ c, I (d :: l) ρ c → ∀ N : Env3 → Nat → Prop, (∀ ρ' c', I l ρ' c' → N ρ' c') → g d ρ fun ρ => b { E with nx := N, ct := N, bk := E.nx } ρ c)
    (fin : ∀ ρ c, I [] ρ c → E.nx ρ c) : ∀ (l : List D) (ρ : Env3) (c : Nat), I l ρ c → forL g b E l ρ c
  | [], ρ, c, i => fin ρ c i
  | d :: l, ρ, c, i => step d l ρ c i (fun ρ c => forL g b E l ρ c) fun ρ' c' i' => for_rule I step fin l ρ' c' i'
theorem comp_rule {g : FG} {fe : FE} {ρ : Rho} (P : D → Prop) (k C : Nat) : ∀ (l : List D) (c : Nat) (Q : List D → Nat → Prop),
    (∀ d ∈ l, ∀ c (K : KD), c + k ≤ C → (∀ y, P y → K y (c + k)) → g d (ρ.map upS) fun ρ' => fe (ρ'.map vA) c K) → c + k * l.length ≤ C → (∀ ys, ys.length = l.length → (∀ y ∈ ys, P y) → Q ys (c + k * l.length)) → compL g tYes3 fe ρ l c Q
  | [], c, Q, _, _, q => q [] rfl (fun _ h => absurd h List.not_mem_nil)
  | d :: l, c, Q, step, hc, q => by
    have e : c + k * (d :: l).length = c + k + k * l.length := by
      rw [List.length_cons, Nat.mul_succ]
      omega
    rw [e] at hc q
    show g d (ρ.map upS) fun ρ' => fe (ρ'.map vA) c fun y c => compL g tYes3 fe ρ l c fun ys c => Q (y :: ys) c
    refine step d List.mem_cons_self c _ (by omega) fun y py => comp_rule P k C l (c + k) _ (fun d hd => step d (List.mem_cons_of_mem _ hd)) hc fun ys h1 h2 => q (y :: ys) (by rw [List.length_cons, List.length_cons, h1]) fun z hz => ?_
    rcases List.mem_cons.mp hz with e | e
    · rw [e]; exact py
    · exact h2 z e
/-- each by its own: no draws -/
theorem comp_map {g : FG} {fe : FE} {ρ : Rho} (f : D → D) {c : Nat} : ∀ (l : List D) (Q : List D → Nat → Prop),
    (∀ d ∈ l, ∀ (K : KD), K (f d) c → g d (ρ.map upS) fun ρ' => fe (ρ'.map vA) c K) → Q (l.map f) c → compL g tYes3 fe ρ l c Q
  | [], Q, _, q => q
  | d :: l, Q, step, q => by
    show g d (ρ.map upS) fun ρ' => fe (ρ'.map vA) c fun y c => compL g tYes3 fe ρ l c fun ys c => Q (y :: ys) c
    exact step d List.mem_cons_self _ (comp_map f l _ (fun d hd => step d (List.mem_cons_of_mem _ hd)) q)
theorem bls_true (l : List D) : blsOf (l.map fun _ => .bl true) = some (l.map fun _ => true) := by
  induction l with
  | nil => rfl
  | cons d l ih =>
    show (blsOf (l.map fun _ => .bl true)).map (true :: ·) = _
    rw [ih]
    rfl
theorem all_true {α : Type} (l : List α) : (l.map fun _ => true).all id = true := by
  induction l with
  | nil => rfl
  | cons d l ih => exact ih
theorem ints_of (ns : List Int) : intsOf (ns.map .int) = some ns := by
  induction ns with
  | nil => rfl
  | cons n ns ih =>
    show (intsOf (ns.map .int)).map (n :: ·) = _
    rw [ih]
    rfl
/-- drawn ints -/
theorem ints_drawn {m : Int} : ∀ {ys : List D}, (∀ y ∈ ys, ∃ d, y = .int d ∧ 0 ≤ d ∧ d < m) → ∃ ds : List Int, ys = ds.map .int ∧ ∀ d ∈ ds, 0 ≤ d ∧ d < m
  | [], _ => ⟨[], rfl, fun _ h => absurd h List.not_mem_nil⟩
  | y :: ys, h => by
    obtain ⟨d, rfl, h1, h2⟩ := h y List.mem_cons_self
    obtain ⟨ds, rfl, h3⟩ := ints_drawn fun z hz => h z (List.mem_cons_of_mem _ hz)
    refine ⟨d :: ds, rfl, fun z hz => ?_⟩
    rcases List.mem_cons.mp hz with e | e
    · rw [e]; exact ⟨h1, h2⟩
    · exact h3 z e
/-- with a test -/
theorem comp_filter {g : FG} {t : FT} {fe : FE} {ρ : Rho} (P : D → Bool) (f : D → D) {c : Nat} : ∀ (l : List D) (Q : List D → Nat → Prop),
    (∀ d ∈ l, ∀ (A : KD) (B : Nat → Prop), (P d = true → A (f d) c) → (P d = false → B c) → g d (ρ.map upS) fun ρ' => t (ρ'.map vA) c fun b c => if b = true then fe (ρ'.map vA) c A else B c) → Q ((l.filter P).map f) c → compL g t fe ρ l c Q
  | [], Q, _, q => q
  | d :: l, Q, step, q => by
    show g d (ρ.map upS) fun ρ' => t (ρ'.map vA) c fun b c => if b = true then fe (ρ'.map vA) c (fun y c => compL g t fe ρ l c fun ys c => Q (y :: ys) c) else compL g t fe ρ l c Q
    have st : ∀ e ∈ l, _ := fun e he => step e (List.mem_cons_of_mem _ he)
    refine step d List.mem_cons_self _ _ (fun h => ?_) fun h => ?_
    · refine comp_filter P f l _ st ?_
      rw [List.filter_cons_of_pos h] at q
      exact q
    · refine comp_filter P f l _ st ?_
      rw [List.filter_cons_of_neg (by rw [h]; decide)] at q
      exact q
theorem rangeL0 (n : Nat) : rangeL 0 n = (List.range n).map fun k => D.int (k : Nat) := by
  unfold rangeL
  refine List.map_congr_left fun k _ => ?_
  rw [Int.zero_add]
end L3

set_option maxHeartbeats 2000000
/-! L3, sorted by a lambda's keys. -/
namespace L3
open PySem PySem.Spec PyProof.Rows L2
/-! ### reading data off a heap -/
mutual
theorem reads_nil {h : Heap} : ∀ (d : D) {p : PyData} {u : Value} {as : List Addr}, noLst d = true → toPy d = some p → Reads h u p as → as = []
  | .non, _, _, _, _, e, r => by cases e; cases r; rfl
  | .bl _, _, _, _, _, e, r => by cases e; cases r; rfl
  | .int _, _, _, _, _, e, r => by cases e; cases r; rfl
  | .str _, _, _, _, _, e, r => by cases e; cases r; rfl
  | .ty _, _, _, _, _, e, _ => by cases e
  | .rf _, _, _, _, _, e, _ => by cases e
  | .lam .., _, _, _, _, e, _ => by cases e
  | .exc .., _, _, _, _, e, _ => by cases e
  | .clo .., _, _, _, _, e, _ => by cases e
  | .dic _, _, _, _, _, e, _ => by cases e
  | .dct _ _, _, _, _, _, e, _ => by cases e
  | .pot, _, _, _, _, e, _ => by cases e
  | .scr _, _, _, _, _, e, _ => by cases e
  | .lst _, _, _, _, n, _, _ => by simp [noLst] at n
  | .tup l, _, _, _, n, e, r => by
    unfold toPy at e
    cases q : toPyL l with
    | none => rw [q] at e; cases e
    | some ps =>
      rw [q] at e
      cases e
      cases r with
      | tuple _ _ _ ra => exact readsL_nil l (by simpa [noLst] using n) q ra
theorem readsL_nil {h : Heap} : ∀ (l : List D) {ps : List PyData} {us : List Value} {as : List Addr}, noLstL l = true → toPyL l = some ps → ReadsAll h us ps as → as = []
  | [], _, _, _, _, e, r => by unfold toPyL at e; cases e; cases r; rfl
  | d :: l, _, _, _, n, e, r => by
    unfold toPyL at e
    have n' : noLst d = true ∧ noLstL l = true := by simpa [noLstL] using n
    split at e
    · rename_i e1 e2
      cases e
      cases r with
      | cons r1 r2 =>
        rw [reads_nil d n'.1 e1 r1, readsL_nil l n'.2 e2 r2]
        rfl
    · cases e
end
/-! ### expressions that only read: from any heap that has h0 in it -/
section
variable {prog : Program} {w : World} {A : Around} {env : Env} {h0 : Heap}
def Up (h h' : Heap) : Prop := ∀ b o, h.get? b = some o → h'.get? b = some o
def PV (prog : Program) (w : World) (A : Around) (env : Env) (h0 : Heap) (e : Expr) (d : PyData) : Prop := ∀ (s : Shared), Up h0 s.heap → ∀ (Q E : Value → Shared → Prop),
  (∀ v h' tk, Up s.heap h' → Reads h' v d [] → Q v { s with heap := h', toks := tk }) → wpAny (model prog w) A (eval e env) Q E s
theorem pv_local {x : Str} {pos : Pos} {m : Str → Option Value} {u : Value} {d : PyData} (hk : env.scope.kind = .function) (hl : env.kindOf x = some .local) (hn : h0.Ns env.locals m) (hv : m x = some u) (hr : Reads h0 u d []) (hd : (x == ("__debug__" : Str)) = false := by decide) : PV prog w A env h0 (.Name x pos) d :=
  fun s k Q E q => wpAny_Name (wpAny_loadName_local hk hl (hn.keeps k) hv (q u s.heap s.toks (fun _ _ e => e) (PyProof.Rows.Reads.keeps k hr))) hd
theorem pv_free {x : Str} {pos : Pos} {c : Addr} {u : Value} {d : PyData} (hk : env.scope.kind = .function) (hl : env.kindOf x = some .free) (hc : env.cells.lookup x = some c) (hv : h0.IsCell c (some u)) (hr : Reads h0 u d []) (hd : (x == ("__debug__" : Str)) = false := by decide) (hcd : (x == ("__classdict__" : Str)) = false := by decide) : PV prog w A env h0 (.Name x pos) d :=
  fun s k Q E q => wpAny_Name (wpAny_loadName_free hk hl hc (let ⟨o, ho, hd⟩ := hv; ⟨o, k _ _ ho, hd⟩) (q u s.heap s.toks (fun _ _ e => e) (PyProof.Rows.Reads.keeps k hr)) hcd) hd
theorem pv_int {i : Int} {j : Nat} {pos : Pos} : PV prog w A env h0 (.Constant (.int i) j pos) (.int i) := fun s k Q E q => wpAny_Constant_int (q _ s.heap _ (fun _ _ e => e) (.int i _))
theorem pv_neg {e : Expr} {pos : Pos} {i : Int} (h : PV prog w A env h0 e (.int i)) : PV prog w A env h0 (.UnaryOp .USub e pos) (.int (-i)) := fun s k Q E q =>
  UnaryOp_ (h s k _ _ fun v h' tk k' r => by
    cases r
    exact PyProof.Rows.neg_int (q _ h' _ k' (.int _ _)))
theorem rd_len3 {h : Heap} : ∀ {us : List Value} {ps : List PyData} {as : List Addr}, ReadsAll h us ps as → us.length = ps.length
  | _, _, _, .nil => rfl
  | _, _, _, .cons _ r => by rw [List.length_cons, List.length_cons, rd_len3 r]
theorem rd_at3 {h : Heap} : ∀ {us : List Value} {ps : List PyData} {as : List Addr} {n : Nat} {d : PyData}, ReadsAll h us ps as → as = [] → ps[n]? = some d → ∃ u, us[n]? = some u ∧ Reads h u d []
  | _, _, _, n, d, .nil, _, e => by simp at e
  | u :: us, p :: ps, _, n, d, .cons r1 r2, z, e => by
    obtain ⟨z1, z2⟩ := List.append_eq_nil_iff.mp z
    cases n with
    | zero =>
      cases (show some p = some d from e)
      exact ⟨u, rfl, z1 ▸ r1⟩
    | succ n =>
      obtain ⟨u', h2, h3⟩ := rd_at3 r2 z2 (n := n) (d := d) (show ps[n]? = some d from e)
      exact ⟨u', h2, h3⟩
theorem rd_ix3 {h : Heap} {us : List Value} {ps : List PyData} {n : Nat} {d : PyData} (r : ReadsAll h us ps []) (e : ps[n]? = some d) : us.length = ps.length ∧ ∃ u, us[n]? = some u ∧ Reads h u d [] := ⟨rd_len3 r, rd_at3 r rfl e⟩
theorem pv_ix {a b : Expr} {pos : Pos} {ds : List PyData} {i : Int} {d : PyData} (ha : PV prog w A env h0 a (.tuple ds)) (hb : PV prog w A env h0 b (.int i)) (hl : ds.length < 2 ^ 63) (hi : atI ds i = some d)
    (hs : ∀ t u, subscripted b false (.ref t) (.int i u) = operate [.ref t, .int i u] (getItem (.ref t) (.int i u)) := by intro _ _; with_unfolding_all rfl) : PV prog w A env h0 (.Subscript a b pos) d := fun s k Q E q => by
  refine Subscript_ (ha s k _ _ fun v h1 t1 k1 r1 => ?_)
  refine hb { s with heap := h1, toks := t1 } (fun b o e => k1 b o (k b o e)) _ _ fun u h2 t2 k2 r2 => ?_
  cases r2
  have r3 := PyProof.Rows.Reads.keeps k2 r1
  cases r3 with
  | tuple ho hc hd ra =>
    rename_i o vs n
    obtain ⟨j, h3, h4, h5, h6, h7⟩ := atI_get hi
    obtain ⟨hlen, x, hx, rx⟩ := rd_ix3 ra h4
    have ht : IsTup h2 _ vs := ⟨_, ho, hc, _, hd⟩
    exact tail_any (s := { s with heap := h2, toks := t2 }) (ops := [.ref _, .int i _]) ht.typeIs PyProof.Rows.slot_tuple_getitem.lookup (PyProof.Rows.getItem_tuple ht (by omega) (by omega) (by rw [← Array.length_toList, hlen]; exact h3) (by rw [← Array.getElem?_toList]; exact hx) (q x h2 t2 (fun b o e => k2 b o (k1 b o e)) rx)) (hs _ _)
theorem pv_pair {a b : Expr} {k : Nat} {pos : Pos} {c d : PyData} (ha : PV prog w A env h0 a c) (hb : PV prog w A env h0 b d) (hs : starEach [a, b] env = (false, eval a env) :: starEach [b] env := by rfl) (hs2 : starEach [b] env = (false, eval b env) :: starEach [] env := by rfl) : PV prog w A env h0 (.Tuple [a, b] k pos) (.tuple [c, d]) := fun s kk Q E q => by
  refine wpAny_Tuple_spliced ?_
  rw [hs, hs2]
  refine Calls.spliced_cons (ha s kk _ _ fun v h1 t1 k1 r1 => ?_)
  refine Calls.spliced_cons (hb { s with heap := h1, toks := t1 } (fun b o e => k1 b o (kk b o e)) _ _ fun u h2 t2 k2 r2 => ?_)
  refine Calls.spliced_nil ⟨by show 2 ≤ sizeLine; decide, ?_⟩
  have k3 : Up h2 (h2.push { cls := .type "tuple", data := .seq [v, u].toArray }) := fun b o e => Heap.get?_push_of_some _ e
  refine q _ _ t2 (fun b o e => k3 b o (k2 b o (k1 b o e))) ?_
  have ra : ReadsAll (h2.push { cls := .type "tuple", data := .seq [v, u].toArray }) [v, u] [c, d] ([] ++ ([] ++ [])) := .cons (PyProof.Rows.Reads.keeps (fun b o e => k3 b o (k2 b o e)) r1) (.cons (PyProof.Rows.Reads.keeps k3 r2) .nil)
  exact .tuple (Heap.get?_push_size _ rfl) rfl rfl ra
end
/-! ### keys over data -/
abbrev FK := Rho → Option PyData
def pyOf (d : D) : Option PyData := if noLst d = true then toPy d else none
def kVar (i : Nat) : FK := fun ρ => (get3 ρ i).bind pyOf
def kInt (i : Int) : FK := fun _ => some (.int i)
def kNeg (k : FK) : FK := fun ρ => match k ρ with | some (.int i) => some (.int (-i)) | _ => none
def kIx (a b : FK) : FK := fun ρ => match a ρ, b ρ with | some (.tuple ds), some (.int i) => (if ds.length ≤ 16777216 then atI ds i else none) | _, _ => none
def kPair (a b : FK) : FK := fun ρ => match a ρ, b ρ with | some c, some d => some (.tuple [c, d]) | _, _ => none
/-- what the names are worth at h0 -/
def NR (N : List Str) (scope : Scope) (cl : List (Str × Addr)) (L : Addr) (h0 : Heap) (ρ : Rho) : Prop := ∀ i y d p, N[i]? = some y → get3 ρ i = some d → pyOf d = some p →
  (scope.names.lookup y = some .local → ∃ m u, h0.Ns L m ∧ m y = some u ∧ Reads h0 u p []) ∧ (scope.names.lookup y = some .free → ∃ c u, cl.lookup y = some c ∧ h0.IsCell c (some u) ∧ Reads h0 u p [])
def KX (X : Cx) (N2 : List Str) (scope : Scope) (h : Str) (e : Expr) (k : FK) : Prop := ∀ (A : Around) (L f c' : Addr) (h0 : Heap) (ρ : Rho) (d : PyData), scope.kind = .function → NR (N2 ++ [h]) scope (cloFrom X.env.cells scope.names []) L h0 ρ → k ρ = some d → PV X.prog X.w A (LamX.lamEnv X scope L f c') h0 e d
section
variable {X : Cx} {N2 : List Str} {scope : Scope} {h : Str} {a b : Expr} {ka kb : FK} {pos : Pos}
theorem kx_var (i : Nat) {x : Str} (hN : (N2 ++ [h])[i]? = some x := by rfl) (hv : scope.names.lookup x = some .local ∨ scope.names.lookup x = some .free := by first | exact .inl rfl | exact .inr rfl) (hd : (x == ("__debug__" : Str)) = false := by decide) (hcd : (x == ("__classdict__" : Str)) = false := by decide) : KX X N2 scope h (.Name x pos) (kVar i) := by
  intro A L f c' h0 ρ d hk nr hkd
  unfold kVar at hkd
  obtain ⟨d0, e1, e2⟩ := Option.bind_eq_some_iff.mp hkd
  obtain ⟨n1, n2⟩ := nr i x d0 d hN e1 e2
  rcases hv with hv | hv
  · obtain ⟨m, u, g1, g2, g3⟩ := n1 hv
    exact pv_local hk hv g1 g2 g3 hd
  · obtain ⟨c, u, g1, g2, g3⟩ := n2 hv
    exact pv_free hk hv g1 g2 g3 hd hcd
theorem kx_int {i : Int} {j : Nat} : KX X N2 scope h (.Constant (.int i) j pos) (kInt i) := by
  intro A L f c' h0 ρ d hk nr hkd
  cases hkd
  exact pv_int
theorem kx_neg (ha : KX X N2 scope h a ka) : KX X N2 scope h (.UnaryOp .USub a pos) (kNeg ka) := by
  intro A L f c' h0 ρ d hk nr hkd
  unfold kNeg at hkd
  split at hkd
  · rename_i i e
    cases hkd
    exact pv_neg (ha A L f c' h0 ρ _ hk nr e)
  · cases hkd
theorem kx_ix (ha : KX X N2 scope h a ka) (hb : KX X N2 scope h b kb) (hs : ∀ t i u, subscripted b false (.ref t) (.int i u) = operate [.ref t, .int i u] (getItem (.ref t) (.int i u)) := by intro _ _ _; with_unfolding_all rfl) :
    KX X N2 scope h (.Subscript a b pos) (kIx ka kb) := by
  intro A L f c' h0 ρ d hk nr hkd
  unfold kIx at hkd
  split at hkd
  · rename_i ds i e1 e2
    split at hkd
    · exact pv_ix (ha A L f c' h0 ρ _ hk nr e1) (hb A L f c' h0 ρ _ hk nr e2) (by omega) hkd (fun t u => hs t i u)
    · cases hkd
  · cases hkd
theorem kx_pair {n : Nat} (ha : KX X N2 scope h a ka) (hb : KX X N2 scope h b kb) (hs : ∀ env, starEach [a, b] env = (false, eval a env) :: starEach [b] env := by intro _; rfl) (hs2 : ∀ env, starEach [b] env = (false, eval b env) :: starEach [] env := by intro _; rfl) : KX X N2 scope h (.Tuple [a, b] n pos) (kPair ka kb) := by
  intro A L f c' h0 ρ d hk nr hkd
  unfold kPair at hkd
  split at hkd
  · rename_i c d' e1 e2
    cases hkd
    exact pv_pair (ha A L f c' h0 ρ _ hk nr e1) (hb A L f c' h0 ρ _ hk nr e2) (hs _) (hs2 _)
  · cases hkd
/-- the lambda called on one item: the heap grows, the key is read -/
theorem key_run {pins : List (Addr × Obj)} {σ : L2.St} {H : Hp} {s : Shared} {f c' : Addr} {pm ctv : Value} {params : Arguments} {body : Expr} {k : FK} {p : Pn} {c : Nat} {ρ : Rho} {F : Hp} {A : Around} {d : D} {v : V} {u : Value} {q : PyData}
    (I : Inv X ((f, lamO X params body scope pm ctv c') :: pins) σ H s) (L : LamS1 X.env.scope scope h) (hnew : Mask scope h X.N N2) (est : ESt X.K p c ρ σ F H) (hco : H c' = some (LamX.CodeO c' (X.env.qual ++ "<lambda>")))
    (hbind : ∀ u : Value, bindArgs (PySem.W.kla_fn "<lambda>" (X.env.qual ++ "<lambda>") params body scope (cloFrom X.env.cells scope.names []) pm (.ref c') ctv) ⟨[u], []⟩ = pure [(h, u)])
    (hroom : A.depth < recursionLimit) (kx : KX X N2 scope h body k) (rd : Rep X.K p F d v) (rv : RelV v u) (nl : noLst d = true) (hkd : k (ρ ++ [some d]) = some q) {pd : PyData} (hpd : toPy d = some pd) (g : Heap) (tk : Nat) (up : Up s.heap g) :
    wpAny (model X.prog X.w) A (call (.ref f) [u]) (PySem.W.KeyPure q { s with heap := g, toks := tk }) (fun _ _ => False) { s with heap := g, toks := tk } := by
  obtain ⟨q1, q2, q3, q4, q5⟩ := I.pin (f, lamO X params body scope pm ctv c') (List.mem_append_right _ List.mem_cons_self)
  obtain ⟨⟨oc, vs, t, hoc, hdc, hvc⟩, _, _⟩ := I.hok c' _ hco
  have hasC : ∀ y ∈ scope.names, y.2 = .free → ∃ c, X.env.cells.lookup y.1 = some c := fun y hy e => (L.free y hy e).elim (fun k => I.ok.has _ (.inl k)) (fun k => I.ok.has _ (.inr k))
  have rc : codeAny (model X.prog X.w) A (.call (.ref f) ⟨[u], []⟩) (fun r s'' => match r with | .ok (.ret v) => PySem.W.KeyPure q { s with heap := g, toks := tk } v s'' | _ => False) { s with heap := g, toks := tk } := by
    refine PySem.W.kla_callFunE hroom (up _ _ q1) rfl L.co L.gen rfl ⟨c', oc, vs, t, rfl, up _ _ hoc, hdc, hvc⟩ ?_
    rw [hbind]
    refine wpAny_pure (wpAny_newFunctionEnv (fun y hy => (L.own y hy).1) (fun y hy => ?_) (fun h₁ hns hsb => ⟨(I.nolimit.keeps up).fresh _ hsb, ?_⟩) L.kind)
    · rcases List.mem_cons.mp hy with z | z
      · rw [z]; exact L.par
      · exact absurd z (by simp)
    show codeAny _ _ (.expr body (LamX.lamEnv X scope g.objs.size f c')) _ _
    have kp : Up g h₁ := fun b o e => hsb.extBut b o (Nat.ne_of_lt (Heap.lt_size e)) (Heap.get?_push_of_some _ e)
    have kp0 : Up s.heap h₁ := fun b o e => kp b o (up b o e)
    have nr : NR (N2 ++ [h]) scope (cloFrom X.env.cells scope.names []) g.objs.size h₁ (ρ ++ [some d]) := by
      intro i y d' p' hN hg hp
      have hp' : noLst d' = true ∧ toPy d' = some p' := by
        unfold pyOf at hp
        split at hp
        · exact ⟨by assumption, hp⟩
        · cases hp
      by_cases hi : i < N2.length
      · rw [List.getElem?_append_left hi] at hN
        have hl : ρ.length = N2.length := (est.len.trans I.len).trans hnew.len.symm
        have hg' : get3 ρ i = some d' := by
          rcases get3_snoc hg with z | ⟨z, _⟩
          · exact z
          · omega
        obtain ⟨v', e1, r'⟩ := est.slot i d' hg'
        refine ⟨fun hl => absurd ((L.own _ (PySem.mem_of_lookup hl)).2 rfl) (hnew.at_ i y hN (.inl hl)).2, fun hf => ?_⟩
        have hN := (hnew.at_ i y hN (.inr (.inr hf))).1
        obtain ⟨m, hn, hlk⟩ := I.loc
        have hvis : Vis X.env.scope y := (L.free _ (PySem.mem_of_lookup hf) rfl).elim (fun k => .inr (.inl k)) (fun k => .inr (.inr k))
        obtain ⟨w', rw', lk⟩ := hlk i y v' hN e1 hvis
        obtain ⟨as, ra⟩ := Dp.reads I _ _ _ (r'.dp est.ok.sub hp'.2) rw'
        have z := reads_nil d' hp'.1 hp'.2 ra
        subst z
        have hcl : ∃ c2, (cloFrom X.env.cells scope.names []).lookup y = some c2 ∧ X.env.cells.lookup y = some c2 := by
          obtain ⟨c2, h2⟩ := mem_lookup (cloFrom_has (cells := X.env.cells) (acc := []) (PySem.mem_of_lookup hf))
          refine ⟨c2, h2, ?_⟩
          rcases cloFrom_mem (PySem.mem_of_lookup h2) with hm | ⟨x1, x2⟩
          · cases hm
          · obtain ⟨c1, hc⟩ := hasC _ x1 rfl
            simp only at hc x2
            rw [hc] at x2
            rw [x2]
            exact hc
        obtain ⟨c2, h2, h3⟩ := hcl
        rcases lk with ⟨k', _⟩ | ⟨_, c3, e', ⟨o, ho, hd⟩⟩
        · have k' : X.env.scope.names.lookup y = some .local := k'
          rcases L.free _ (PySem.mem_of_lookup hf) rfl with k2 | k2 <;> rw [show X.env.scope.names.lookup y = _ from k2] at k' <;> cases k'
        · rw [h3] at e'
          cases e'
          exact ⟨c2, w', h2, ⟨o, kp0 _ _ ho, hd⟩, PyProof.Rows.Reads.keeps kp0 ra⟩
      · have hi2 : i = N2.length := by
          have := (List.getElem?_eq_some_iff.mp hN).1
          rw [List.length_append, List.length_singleton] at this
          omega
        subst hi2
        rw [List.getElem?_append_right (Nat.le_refl _), Nat.sub_self] at hN
        cases hN
        have hl : ρ.length = N2.length := (est.len.trans I.len).trans hnew.len.symm
        have hg' : d' = d := by
          rcases get3_snoc hg with z | ⟨_, z⟩
          · obtain ⟨v', e1, _⟩ := est.slot _ _ z
            have := (List.getElem?_eq_some_iff.mp e1).1
            rw [← est.len] at this
            omega
          · exact z
        subst hg'
        obtain ⟨as, ra⟩ := Dp.reads I _ _ _ (rd.dp est.ok.sub hp'.2) rv
        have z := reads_nil d' hp'.1 hp'.2 ra
        subst z
        refine ⟨fun _ => ⟨_, u, hns, ?_, PyProof.Rows.Reads.keeps kp0 ra⟩, fun hf => ?_⟩
        · show ([(h, u)] : List (Str × Value)).reverse.lookup h = some u
          simp
        · rw [L.par] at hf
          cases hf
    have pv := kx (A.deeper (LamX.lamEnv X scope g.objs.size f c')) g.objs.size f c' h₁ _ q L.kind nr hkd
    refine PySem.W.kla_codeExpr (pv { s with heap := h₁, toks := tk + ([(h, u)] : List (Str × Value)).length } (fun _ _ e => e) _ _ fun v h' tk' k' r => ?_)
    exact ⟨h', tk', rfl, fun b o e => k' b o (kp b o e), r⟩
  refine wpAny_call (codeAny_mono rc fun r s' hq => ?_)
  cases r with
  | error e => exact hq.elim
  | ok fl =>
    cases fl with
    | ret u => exact hq
    | next => exact hq.elim
    | brk => exact hq.elim
    | cont => exact hq.elim
end
/-- sorted(e, key=lambda h: ..) -/
def fSortK (fa : FE) (k : FK) : FL := fun ρ c Q => fa ρ c fun x c => match x with
  | .lst l => ∃ key : D → PyData, (∀ d ∈ l, noLst d = true ∧ (toPy d).isSome = true ∧ k (ρ ++ [some d]) = some (key d) ∧ (key d).depth ≤ 64) ∧ PySem.W.AllAlike (l.map key) ∧ PySem.W.Sortable (l.map key) ∧ l.length ≤ 16777216 ∧ Q (l.mergeSort (PySem.W.dataLe false key)) c
  | _ => False
def zipV : List D → List V → List (D × V)
  | d :: l, v :: vs => (d, v) :: zipV l vs
  | _, _ => []
theorem zipV_of {K : PySem.W.Frag} {p : Pn} {F : Hp} : ∀ {l : List D} {vs : List V}, RepL K p F l vs → (zipV l vs).map (·.1) = l ∧ (zipV l vs).map (·.2) = vs ∧ ∀ b ∈ zipV l vs, Rep K p F b.1 b.2
  | [], _, r => by
    cases r
    exact ⟨rfl, rfl, fun b h => by cases h⟩
  | d :: l, _, r => by
    obtain ⟨x, r', rfl, h1, h2⟩ := r
    obtain ⟨e1, e2, e3⟩ := zipV_of h2
    refine ⟨congrArg (d :: ·) e1, congrArg (x :: ·) e2, fun b h => ?_⟩
    rcases List.mem_cons.mp h with z | z
    · rw [z]; exact h1
    · exact e3 b z
theorem eachV : ∀ {bs : List (D × V)} {us : List Value}, Vals (bs.map (·.2)) us → PySem.W.EachIs (fun v (b : D × V) => RelV b.2 v) us bs
  | [], _, .nil => .nil
  | b :: bs, _, .cons r t => .cons r (eachV t)
theorem valsV : ∀ {bs : List (D × V)} {us : List Value}, PySem.W.EachIs (fun v (b : D × V) => RelV b.2 v) us bs → Vals (bs.map (·.2)) us
  | [], _, .nil => .nil
  | b :: bs, _, .cons r t => .cons r (valsV t)
theorem repV {K : PySem.W.Frag} {p : Pn} {F : Hp} : ∀ (bs : List (D × V)), (∀ b ∈ bs, Rep K p F b.1 b.2) → RepL K p F (bs.map (·.1)) (bs.map (·.2))
  | [], _ => rfl
  | b :: bs, h => ⟨_, _, rfl, h b List.mem_cons_self, repV bs fun x hx => h x (List.mem_cons_of_mem _ hx)⟩
section
variable {X : Cx} {e : Expr} {fa : FE} {k : FK} {h : Str} {N2 : List Str}
theorem boot_sorted3 : bootBuiltins "sorted" = some (.builtin "sorted") := by decide +kernel
theorem fx_sortK {c0 P : Addr} {params : Arguments} {body : Expr} {scope : Scope} {p1 lpos kpos pos : Pos} (hm : X.mg "sorted" = none) (ha : EX X e fa) (TB : LamX.TabB X.base X.mg c0 P) (hcode : X.env.code = .ref c0)
    (hmT : (P, X.env.qual ++ "<lambda>") ∈ tabs0) (hu : ∀ p ∈ tabs0, p.1 = P → p.2 = X.env.qual ++ "<lambda>") (hroom : X.A.depth < recursionLimit) (hun : X.A.units + 66 < cLine) (L : LamS1 X.env.scope scope h) (hnew : Mask scope h X.N N2) (hdef : defaultsOf params X.env = ([], []))
    (hbind : ∀ (cl : List (Str × Addr)) (pm cv ctv u : Value), bindArgs (PySem.W.kla_fn "<lambda>" (X.env.qual ++ "<lambda>") params body scope cl pm cv ctv) ⟨[u], []⟩ = pure [(h, u)])
    (kx : KX X N2 scope h body k) (hg : Gl X "sorted" := by rfl) (hs : starEach [e] X.env = (false, eval e X.env) :: starEach [] X.env := by rfl)
    (he : backTo pos (starEach [e] X.env) = (false, eval e X.env) :: backTo pos (starEach [] X.env) := by rfl) (hpl : (backTo pos (starEach [e] X.env)).any (·.1) = false := by rfl)
    (hkw : backToKw pos (keywordEach [⟨some "key", .Lambda params body scope lpos, kpos⟩] X.env) = [(some (Str.ofString "key"), do let v ← eval (.Lambda params body scope lpos) X.env; standAt pos; pure v)] := by rfl) :
    FX X (.Call (.Name "sorted" p1) [e] [⟨some "key", .Lambda params body scope lpos, kpos⟩] pos) (fSortK fa k) := by
  refine ⟨fun pins s σ H Q I ⟨p, c, ρ, F, Q', est, hq, t⟩ => ?_⟩
  refine wpAny_Call_Name_kw (ld_blt I hg hm boot_sorted3 ?_)
  refine PyProof.Rows.callWith_kw (thn ((pa_cons ha pa_nil hs).run pos pins s σ H (fun vs H1 => ∃ d c1 F1 v, vs = [v] ∧ Fwd p F H F1 H1 ∧ Ok3 p c1 F1 H1 ∧ Rep X.K p F1 d v ∧ (match d with
      | .lst l => ∃ key : D → PyData, (∀ d ∈ l, noLst d = true ∧ (toPy d).isSome = true ∧ k (ρ ++ [some d]) = some (key d) ∧ (key d).depth ≤ 64) ∧ PySem.W.AllAlike (l.map key) ∧ PySem.W.Sortable (l.map key) ∧ l.length ≤ 16777216 ∧ Q' (l.mergeSort (PySem.W.dataLe false key)) c1
      | _ => False)) I ⟨p, c, ρ, F, _, est, hq, fun d c1 v F1 H1 w1 ok1 r1 q1 => ⟨d, c1, F1, v, rfl, w1, ok1, r1, q1⟩⟩) fun us s1 ⟨vs, H1, I1, rv, d, c1, F1, v, ev, w1, ok1, r1, q1⟩ => ?_) he hpl (by rw [hkw]; rfl) (by rw [hkw]; rfl)
  subst ev
  rw [hkw]
  have hasC : ∀ y ∈ scope.names, y.2 = .free → ∃ c, X.env.cells.lookup y.1 = some c := fun y hy e => (L.free y hy e).elim (fun k => I.ok.has _ (.inl k)) (fun k => I.ok.has _ (.inr k))
  show wpAny _ _ (evalAll [do let v ← eval (.Lambda params body scope lpos) X.env; standAt pos; pure v]) _ _ s1
  refine wpAny_evalAll_cons (wpAny_bind (lam_made I1 TB hcode hmT hu ok1.tab.tabs hdef hasC fun f c' pm ctv H2 s2 I2 eN th T1 hco => wpAny_bind (wpAny_standAt (wpAny_pure (wpAny_evalAll_nil ?_)))))
  have w2 : Fwd p F1 H1 F1 H2 := ⟨fun _ _ z => z, fun b o z _ t => eN b o z t, fun _ _ z => .inl z, th⟩
  have ok2 : Ok3 p c1 F1 H2 := ⟨fun b o z => eN b o (ok1.sub b o z) (fun ps e => ok1.nt.t b ps (e ▸ z)), fun b z => by
      obtain ⟨⟨x, y, z, q, r⟩, nn⟩ := ok1.pot b z
      exact ⟨⟨x, y, z, eN _ _ q (fun _ z => nomatch z), r⟩, nn⟩, ⟨T1, fun q hq => eN _ _ (ok1.tab.cod q hq) LamX.codeO_ne⟩, ok1.nt⟩
  split at q1
  · rename_i l
    obtain ⟨key, hk, hal, hso, hlen, q1⟩ := q1
    obtain ⟨a, xs, rfl, h1, rl⟩ := r1
    obtain ⟨z1, z2, z3⟩ := zipV_of rl
    have est2 := est.fwd (w1.trans w2) ok2
    rw [Vals.ref1 rv]
    obtain ⟨its, rits, hl, hz⟩ := I2.list (.of (ok2.sub _ _ h1) : SqL X.K H2 a xs)
    have rits' : Vals ((zipV l xs).map (·.2)) its := by rw [z2]; exact rits
    have e := eachV rits'
    have ek : (zipV l xs).map (fun b => key b.1) = l.map key := by
      rw [← z1, List.map_map, z1]
      rfl
    show wpAny _ _ (call (.builtin "sorted") [.ref a] [(Str.ofString "key", .ref f)]) _ _ s2
    refine PySem.W.sorted_key_data (b := false) (fun b : D × V => key b.1) hl.isList e (by rw [ek]; exact hal) (by rw [ek]; exact hso) ?_ (fun b hb => ?_) (PyProof.Rows.ksk_s1 _ _) (fun _ => PyProof.Rows.ksk_l1 _ _) (fun _ => PyProof.Rows.ksk_t1 _ _) (fun u b ru hb g tk up => ?_) fun out cc h' tk up hfr hD hlo eo => ?_
    · have := congrArg List.length z1
      rw [List.length_map] at this
      rw [this, line16]
      exact hlen
    · have hb' : b.1 ∈ l := by rw [← z1]; exact List.mem_map.mpr ⟨b, hb, rfl⟩
      have := (hk _ hb').2.2.2
      omega
    · have hb' : b.1 ∈ l := by rw [← z1]; exact List.mem_map.mpr ⟨b, hb, rfl⟩
      obtain ⟨k1, k2, k3, _⟩ := hk _ hb'
      obtain ⟨pd, hpd⟩ := Option.isSome_iff_exists.mp k2
      exact key_run (A := X.A.in1.in1) I2 L hnew est2 hco (fun u => hbind _ _ _ _ u) hroom kx (z3 b hb) ru k1 k3 hpd g tk up
    · have ds : ((zipV l xs).mergeSort (PySem.W.dataLe false fun b => key b.1)).map (·.1) = l.mergeSort (PySem.W.dataLe false key) := by
        have q := List.map_mergeSort (f := fun b : D × V => b.1) (r := PySem.W.dataLe false fun b : D × V => key b.1) (s := PySem.W.dataLe false key) (l := zipV l xs) (fun _ _ _ _ => rfl)
        rw [z1] at q
        exact q
      have nH : H2 (s2.heap.objs.size + 1) = none := I2.hok.fresh (Nat.le_succ _)
      obtain ⟨w3, ok3, n1, n2, n3⟩ := layL (w1.trans w2) ok2 nH (((zipV l xs).mergeSort (PySem.W.dataLe false fun b => key b.1)).map (·.2))
      have J := I2.laid (t' := tk) (o := .lst (((zipV l xs).mergeSort (PySem.W.dataLe false fun b => key b.1)).map (·.2))) up (Nat.le_succ _) ⟨by
        rw [List.length_map, (List.mergeSort_perm _ _).length_eq]
        have := congrArg List.length z1
        rw [List.length_map] at this
        rw [this, line16]
        exact hlen, out, cc, valsV eo, hD⟩
      refine ⟨.ref _, _, pin_off J, rfl, ?_⟩
      refine t (l.mergeSort (PySem.W.dataLe false key)) c1 _ _ F1 _ w3 ok3 n1 n2 n3 upd_same ?_ q1
      rw [← ds]
      exact repV _ fun b hb => z3 b ((List.mergeSort_perm _ _).mem_iff.mp hb)
  · exact q1.elim
end
end L3

set_option maxHeartbeats 2000000
/-! L3, reversed tuples, sets counted, two new lists at once, += of ints. -/
namespace L3
open PySem PySem.Spec PyProof.Rows L2
section
variable {K : PySem.W.Frag} {X : Cx} {e a b : Expr} {es : List Expr} {fa fb : FE} {fr : FA} {f f2 : FL} {pos : Pos}
@[simp ↓] def revD : D → Nat → KD → Prop
  | .tup l, c, Q => Q (.tup l.reverse) c
  | _, _, _ => False
theorem RepL.rev {p : Pn} {F : Hp} : ∀ {l : List D} {xs : List V}, RepL K p F l xs → RepL K p F l.reverse xs.reverse
  | [], _, h => by cases h; exact rfl
  | d :: l, _, h => by
    obtain ⟨x, r, rfl, h1, h2⟩ := h
    rw [List.reverse_cons, List.reverse_cons]
    exact RepL.app (RepL.rev h2) ⟨x, [], rfl, h1, rfl⟩
theorem ex_rev {k : Nat} {p1 p2 p3 : Pos} (ha : EX X a fa) : EX X (.Subscript a (.Slice none none (some (.UnaryOp .USub (.Constant (.int 1) k p1) p2)) p3) pos) (eUn revD fa) := PE.imp (pe_revT ha) fun σ H Q ⟨p, c, ρ, F, Q', es, h, t⟩ =>
  ⟨p, c, ρ, F, _, es, h, fun d c1 v F1 H1 w1 ok1 r1 q1 => by
    unfold revD at q1
    split at q1
    · obtain ⟨b, xs, rfl, h1, rl⟩ := r1
      exact ⟨b, xs, rfl, ok1.sqT h1, tellNewT ok1 (t.fwd w1) rl.rev q1⟩
    · exact q1.elim⟩
/-! len(set(t)), t a tuple of ints -/
@[simp ↓] def lenSetD : D → Nat → KD → Prop
  | .tup l, c, Q => ∃ ns, intsOf l = some ns ∧ ns.length ≤ 4000 ∧ ∀ m : List Int, m.Nodup → (∀ k, k ∈ m ↔ k ∈ ns) → Q (.int m.length) c
  | _, _, _ => False
def tLenSetT (K : PySem.W.Frag) (ta : TE) : TE := fun σ H Q => ta σ H fun x H1 => ∃ (l : Addr) (ns : List Int), x = .ref l ∧ SqT K H1 l (ns.map V.int) ∧ ns.length ≤ 4000 ∧ ∀ m : List Int, m.Nodup → (∀ k, k ∈ m ↔ k ∈ ns) → Q (.int m.length) H1
theorem pe_lenSetT {ta : TE} {p p2 q : Pos} (hg : Gl X "len") (hm : X.mg "len" = none) (hg2 : Gl X "set") (hm2 : X.mg "set" = none) (ha : PE X a ta) (hc : X.calm = true := by rfl)
    (na : starEach [a] X.env = (false, eval a X.env) :: starEach [] X.env := by rfl) : PE X (.Call (.Name "len" p) [.Call (.Name "set" p2) [a] [] q] [] pos) (tLenSetT X.K ta) := by
  refine ⟨fun pins s σ H Q I h => ?_⟩
  refine Call_ (ld_blt I hg hm boot_len3 ?_)
  refine PyProof.Rows.callWith_builtin1 (PyProof.Rows.args_cons ?_ rfl) rfl rfl
  refine Call_ (ld_blt I hg2 hm2 (by decide +kernel : bootBuiltins "set" = some (.type "set")) ?_)
  refine PyProof.Rows.callWith_type1 (PyProof.Rows.args_cons (thn (ha.run pins s σ H _ I h) fun v s1 ⟨x, H1, I1, r1, q1⟩ => PyProof.Rows.args_nil ?_) na) na rfl
  obtain ⟨l, ns, rfl, hq, hl, q1⟩ := q1
  cases r1
  obtain ⟨its, r, pl, hz⟩ := I1.tuple hq
  have hi : IntsAre its.toArray.toList ns := by simpa using RZ.intsAre_vals r
  refine call_set_tupI ns (I1.ok.hd hc) (show s1.heap.IsTuple l its.toArray from pl) hi (by unfold scanBound; omega) fun h' tk c R1 hcn k => ?_
  refine PyProof.Rows.args_nil ?_
  obtain ⟨o, es, ep, t, ho, hex, hdt, g, nd, hm3, hb, hf, hn, hr, hl2⟩ := R1
  have I2 : Inv X pins σ H1 { s1 with heap := h', toks := tk } := I1.kept fun b o e => k b o e
  refine call_len_set ho hex hdt hf (by unfold scanBound at hb; omega) ⟨.int es.size, H1, I2.tok _, ⟨_, rfl⟩, ?_⟩
  have := q1 (es.toList.map keyOf) nd fun z => (hm3 z).symm.trans (decide_eq_true_iff)
  rw [List.length_map, Array.length_toList] at this
  exact this
theorem ex_lenSet {p p2 q : Pos} (hm : X.mg "len" = none) (hm2 : X.mg "set" = none) (ha : EX X a fa) (hg : Gl X "len" := by rfl) (hg2 : Gl X "set" := by rfl) (hc : X.calm = true := by rfl) (na : starEach [a] X.env = (false, eval a X.env) :: starEach [] X.env := by rfl) :
    EX X (.Call (.Name "len" p) [.Call (.Name "set" p2) [a] [] q] [] pos) (eUn lenSetD fa) := PE.imp (pe_lenSetT hg hm hg2 hm2 ha hc na) fun σ H Q ⟨p, c, ρ, F, Q', es, h, t⟩ =>
  ⟨p, c, ρ, F, _, es, h, fun d c1 v F1 H1 w1 ok1 r1 q1 => by
    unfold lenSetD at q1
    split at q1
    · obtain ⟨b, xs, rfl, h1, rl⟩ := r1
      obtain ⟨ns, e, hl, q⟩ := q1
      exact ⟨b, ns, rfl, by rw [← RepL.ints rl e]; exact ok1.sqT h1, hl, fun m h1 h2 => tellI ok1 (t.fwd w1) (q m h1 h2)⟩
    · exact q1.elim⟩
/-! += of ints -/
@[simp ↓] def addI : D → D → Nat → KD → Prop
  | .int i, .int j, c, Q => Q (.int (i + j)) c
  | _, _, _, _ => False
theorem iaddS : OpS K (rI0 fun i j => .int (i + j)) addI := by
  intro p c F H x y v u Q' Q ok rx ry h t
  unfold addI at h
  split at h
  · rename_i i j
    cases (show v = .int i from rx)
    cases (show u = .int j from ry)
    exact ⟨i, j, rfl, rfl, tellI ok t h⟩
  · exact h.elim
/-! two names at once, of new lists -/
@[simp ↓] def sParOO (i j : Nat) (f f2 : FL) : FS := fun E ρ c => f (ρ.map vA) c fun l c => f2 (ρ.map vA) c fun m c => E.nx ((ρ.set i (.own l)).set j (.own m)) c
theorem sx_parOO {i j : Nat} {x y : Str} {px py pt : Pos} {kt k2 pt2} (hc : X.calm = true) (hN : X.N.Nodup) (ha : FX X a f) (hb : FX X b f2) (hij : i ≠ j := by decide) (hi : X.N[i]? = some x := by rfl) (hj : X.N[j]? = some y := by rfl)
    (hx : X.env.scope.names.lookup x = some .local := by rfl) (hy : X.env.scope.names.lookup y = some .local := by rfl) (hw : swappedStores [.Tuple [.Name x px, .Name y py] kt pt] (.Tuple [a, b] k2 pt2) X.env = pure (some [x, y]) := by rfl)
    (hs : swapsWithSole [.Tuple [.Name x px, .Name y py] kt pt] (.Tuple [a, b] k2 pt2) pos.line X.env = pure false := by rfl) (hs1 : starEach [b] X.env = (false, eval b X.env) :: starEach [] X.env := by rfl) (hs2 : starEach [a, b] X.env = (false, eval a X.env) :: starEach [b] X.env := by rfl) :
    SX X (.Assign [.Tuple [.Name x px, .Name y py] kt pt] (.Tuple [a, b] k2 pt2) pos) (sParOO i j f f2) := by
  refine PS.imp (ps_par hc hN hi hj hij hx hy (pa_cons ha (pa_cons hb pa_nil hs1) hs2) hw hs) fun En σ H ⟨p, c, ρ, F, F0, H0, E, s, h, t⟩ => ?_
  refine ⟨p, c, _, F, _, s.e, h, fun l c1 q1 xs F1 H1 w1 ok1 n1 n2 n3 h1 r1 g1 => ?_⟩
  refine ⟨p, c1, _, F1, _, s.e.fwd w1 ok1, g1, fun m c2 q2 ys F2 H2 w2 ok2 m1 m2 m3 h2 r2 g2 => ?_⟩
  refine ⟨.ref q1, .ref q2, rfl, ?_⟩
  have k1 : H2 q1 = some (.lst xs) := w2.keep _ _ h1 n3 (fun _ z => nomatch z)
  have f1 : F2 q1 = none := by
    cases z : F2 q1 with
    | none => rfl
    | some o =>
      rcases w2.new q1 o z with y | y
      · rw [n2] at y; cases y
      · rw [h1] at y; cases y
  have ne : q1 ≠ q2 := fun z => by rw [z, m1] at h1; cases h1
  have e1 : H0 q1 = none := s.ent.there q1 n1
  have e2 : H0 q2 = none := s.ent.there q2 (w1.there q2 m1)
  have own : ∀ (k : Nat) (z : List D), ρ[k]? = some (SV.own z) → ∃ b, σ[k]? = some (some (V.ref b)) ∧ ∃ u, H b = some (.lst u) := fun k z hk => by
    obtain ⟨b, u, g1, g2, _⟩ := s.own k z hk
    exact ⟨b, g1, u, g2⟩
  have s2 := (s.fwd (w1.trans w2) ok2).setOwn i k1 f1 e1 n3 (r1.mono w2.frz) fun k z hk hb => by
    obtain ⟨b, g1, u, g2⟩ := own k z hk
    rw [hb] at g1
    cases g1
    rw [n1] at g2
    cases g2
  refine t.nx c2 _ _ F2 H2 (s2.setOwn j h2 m2 e2 m3 r2 fun k z hk hb => ?_) g2
  rcases set_get hk with ⟨rfl, hl, q⟩ | ⟨n, q⟩
  · have hl2 : k < σ.length := by rw [← s.len]; exact hl
    rw [List.getElem?_set_self hl2] at hb
    cases hb
    exact ne rfl
  · rw [List.getElem?_set_ne (Ne.symm n)] at hb
    obtain ⟨b, g1, u, g3⟩ := own k z q
    rw [hb] at g1
    cases g1
    rw [w1.there q2 m1] at g3
    cases g3
end
end L3

/-! L3: x[e] += v on an own list of ints. -/
namespace L3
open PySem PySem.Spec PyProof.Rows L2
section
variable {X : Cx} {fa fb : FE}
def rGetN (K : PySem.W.Frag) : V → V → Hp → VK → Prop := fun x y H Q => ∃ p xs i v, x = .ref p ∧ y = .int i ∧ SqL K H p xs ∧ 0 ≤ i ∧ xs[i.toNat]? = some v ∧ Q v H
theorem get_listN : PGet X (rGetN X.K) := by
  intro pins s σ H x y v u Q I rx ry h
  obtain ⟨p, xs, i, z, rfl, rfl, hq, i0, he, q⟩ := h
  cases rx
  obtain ⟨t, rfl⟩ := ry
  obtain ⟨its, r, pl, hz⟩ := I.list hq
  obtain ⟨w, ew, rw'⟩ := r.get he
  have hl := r.length
  have hn := line63
  have lt : i.toNat < its.length := (List.getElem?_eq_some_iff.mp ew).1
  exact PyProof.Rows.getItem_listL (l := its) pl.isList i0 (by omega) ew ⟨z, H, I, rw', q⟩
/-- x[e] += v -/
@[simp ↓] def sAugS (i : Nat) (fi fe : FE) : FS := fun E ρ c => match ρ[i]? with
  | some (.own l) => fi (ρ.map vB) c fun d c => match d with
    | .int k => (0 ≤ k ∧ k < l.length) ∧ match l[k.toNat]? with
      | some (.int x) => fe (ρ.map vB) c fun y c => match y with
        | .int y => E.nx (ρ.set i (.own (l.set k.toNat (.int (x + y))))) c
        | _ => False
      | _ => False
    | _ => False
  | _ => False
theorem RepL.at' {K : PySem.W.Frag} {p : Pn} {F : Hp} : ∀ {l : List D} {xs : List V} {n : Nat} {d : D}, RepL K p F l xs → l[n]? = some d → ∃ v, xs[n]? = some v ∧ Rep K p F d v
  | [], _, _, _, _, e => by simp at e
  | _ :: l, _, 0, d, h, e => by
    obtain ⟨x, r, rfl, h1, h2⟩ := h
    simp at e
    subst e
    exact ⟨x, rfl, h1⟩
  | _ :: l, _, n + 1, d, h, e => by
    obtain ⟨x, r, rfl, h1, h2⟩ := h
    exact RepL.at' (n := n) h2 (by simpa using e)
theorem sx_augS {st : Stmt} (i : Nat) (h : PS X st (tAugS (tVar i) (tE X.K fa) (tE X.K fb) (rGetN X.K) (ipI fun i j => i + j) rSetL)) : SX X st (sAugS i fa fb) := PS.imp h fun D σ H ⟨p, c, ρ, F, F0, H0, E, s, h, t⟩ => by
  unfold sAugS at h
  split at h
  · rename_i l hi
    obtain ⟨a, xs, e1, e2, e3, e4, e5, r0⟩ := s.own i l hi
    obtain ⟨F2, es, w2, k⟩ := s.lend
    refine ⟨_, e1, p, c, _, F2, _, es, h, fun d c1 v F1 H1 w1 ok1 r1 q1 => ?_⟩
    obtain ⟨F3, s1, w3, k1, k2, _⟩ := k c1 F1 H1 w1 ok1
    obtain ⟨a', xs', g1, g2, g3, g4, g5, r0'⟩ := s1.own i l hi
    rw [e1] at g1
    cases g1
    split at q1
    · rename_i j
      cases (show v = .int j from r1)
      obtain ⟨⟨j0, j1⟩, q⟩ := q1
      split at q
      · rename_i z hz
        obtain ⟨v, hv, rv⟩ := RepL.at' r0' hz
        cases (show v = .int z from rv)
        refine ⟨a, xs', j, .int z, rfl, rfl, .inl (.inl g2), j0, hv, p, c1, _, F1, _, es.fwd w1 ok1, q, fun y c4 u F4 H4 w4 ok4 r4 q4 => ?_⟩
        obtain ⟨F5, s2, w5, k3, k4, _⟩ := k c4 F4 H4 (w1.trans w4) ok4
        obtain ⟨a2, xs2, y1, y2, y3, y4, y5, r2⟩ := s2.own i l hi
        rw [e1] at y1
        cases y1
        split at q4
        · rename_i m
          cases (show u = .int m from r4)
          refine ⟨z, m, rfl, rfl, a, xs2, j, j.toNat, rfl, rfl, y2, by rw [r2.len]; unfold ixN; rw [if_pos j0, if_pos j1], t.nx c4 _ _ F5 _ (s2.put hi e1 (RepL.set (show Rep X.K p F5 (.int (z + m)) (.int (z + m)) from rfl) _ r2)) q4⟩
        · exact q4.elim
      · exact q.elim
    · exact q1.elim
  · exact h.elim
/-! sorted(set(t)), t a tuple of few ints -/
@[simp ↓] def fSortSet (fa : FE) : FL := fun ρ c Q => fa ρ c fun x c => match x with
  | .tup l => ∃ ns, intsOf l = some ns ∧ ns.length < 64 ∧ ∀ m : List Int, m.Pairwise (· < ·) → (∀ k, k ∈ m ↔ k ∈ ns) → Q (m.map .int) c
  | _ => False
def tSortSet (K : PySem.W.Frag) (ta : TE) : TE := fun σ H Q => ta σ H fun x H1 => ∃ (l : Addr) (ns : List Int), x = .ref l ∧ SqT K H1 l (ns.map V.int) ∧ ns.length < 64 ∧ ∀ (m : List Int) (q : Addr), m.Pairwise (· < ·) → (∀ k, k ∈ m ↔ k ∈ ns) → H1 q = none → Q (.ref q) (upd H1 q (.lst (m.map V.int)))
theorem pe_sortSet {a : Expr} {ta : TE} {p p2 q pos : Pos} (hg : Gl X "sorted") (hm : X.mg "sorted" = none) (hg2 : Gl X "set") (hm2 : X.mg "set" = none) (ha : PE X a ta) (hc : X.calm = true := by rfl)
    (na : starEach [a] X.env = (false, eval a X.env) :: starEach [] X.env := by rfl) : PE X (.Call (.Name "sorted" p) [.Call (.Name "set" p2) [a] [] q] [] pos) (tSortSet X.K ta) := by
  refine ⟨fun pins s σ H Q I h => ?_⟩
  refine Call_ (ld_blt I hg hm (by decide +kernel : bootBuiltins "sorted" = some (.builtin "sorted")) ?_)
  refine PyProof.Rows.callWith_builtin1 (PyProof.Rows.args_cons ?_ rfl) rfl rfl
  refine Call_ (ld_blt I hg2 hm2 (by decide +kernel : bootBuiltins "set" = some (.type "set")) ?_)
  refine PyProof.Rows.callWith_type1 (PyProof.Rows.args_cons (thn (ha.run pins s σ H _ I h) fun v s1 ⟨x, H1, I1, r1, q1⟩ => PyProof.Rows.args_nil ?_) na) na rfl
  obtain ⟨l, ns, rfl, hq, hl, q1⟩ := q1
  cases r1
  obtain ⟨its, r, pl, hz⟩ := I1.tuple hq
  have hi : IntsAre its.toArray.toList ns := by simpa using RZ.intsAre_vals r
  refine call_set_tupI ns (I1.ok.hd hc) (show s1.heap.IsTuple l its.toArray from pl) hi (by unfold scanBound; omega) fun h' tk c R1 hcn k => ?_
  refine PyProof.Rows.args_nil ?_
  have I2 : Inv X pins σ H1 { s1 with heap := h', toks := tk } := I1.kept fun b o e => k b o e
  refine sorted_set (s := { s1 with heap := h', toks := tk }) R1 (I1.ok.hd hc) (by omega) fun s' p' out c' ms k2 g o hp hgo hI hs hmm hl2 => ?_
  have hlen : (ms.map V.int).length ≤ sizeLine := by rw [List.length_map, hl2, sizeLine_eq]; omega
  have hn : H1 p' = none := I2.hok.fresh hp
  have J : Inv X pins σ (upd H1 p' (.lst (ms.map V.int))) { s1 with heap := s'.heap, gens := s'.gens, drawn := s'.drawn, toks := s'.toks } :=
    L2.Inv.call (s := { s1 with heap := h', toks := tk }) I2 (ch := []) (Un.laid k2 hp hn) (I2.hok.laid k2 hp ⟨hlen, out.toList, c', vals_of_ints hI, hgo⟩) (by rw [g]; exact I2.bare) (fun _ z => nomatch z)
  have e : s' = { s1 with heap := s'.heap, gens := s'.gens, drawn := s'.drawn, toks := s'.toks } := by
    cases s'
    cases s1
    cases o
    rfl
  rw [e]
  exact ⟨.ref p', _, J, rfl, q1 ms p' hs (fun z => (hmm z).trans decide_eq_true_iff) hn⟩
theorem fx_sortSet {e : Expr} {p p2 q pos : Pos} (hm : X.mg "sorted" = none) (hm2 : X.mg "set" = none) (ha : EX X e fa) (hg : Gl X "sorted" := by rfl) (hg2 : Gl X "set" := by rfl) (hc : X.calm = true := by rfl) (na : starEach [e] X.env = (false, eval e X.env) :: starEach [] X.env := by rfl) :
    FX X (.Call (.Name "sorted" p) [.Call (.Name "set" p2) [e] [] q] [] pos) (fSortSet fa) := PE.imp (pe_sortSet hg hm hg2 hm2 ha hc na) fun σ H Q ⟨p, c, ρ, F, Q', es, h, t⟩ =>
  ⟨p, c, ρ, F, _, es, h, fun d c1 v F1 H1 w1 ok1 r1 q1 => by
    split at q1
    · obtain ⟨b, xs, rfl, h1, rl⟩ := r1
      obtain ⟨ns, e1, hl, q⟩ := q1
      refine ⟨b, ns, rfl, by rw [← RepL.ints rl e1]; exact ok1.sqT h1, hl, fun m a hp hs nq => ?_⟩
      obtain ⟨w, ok, n1, n2, n3⟩ := layL w1 ok1 nq (m.map V.int)
      exact t _ c1 a _ F1 _ w ok n1 n2 n3 upd_same (rep_ints m) (q m hp hs)
    · exact q1.elim⟩
/-! three names, the third of a new list -/
@[simp ↓] def sPar3O (i j k : Nat) (fa fb : FE) (f : FL) : FS := fun E ρ c => fa (ρ.map vA) c fun x c => fb (ρ.map vA) c fun y c => f (ρ.map vA) c fun l c => E.nx (((ρ.set i (.val x)).set j (.val y)).set k (.own l)) c
theorem sx_par3O {i j k : Nat} {a b c : Expr} {f : FL} {x y z : Str} {px py pz pt pos : Pos} {kt k2 pt2} (hc : X.calm = true) (hN : X.N.Nodup) (ha : EX X a fa) (hb : EX X b fb) (hf : FX X c f) (hij : i ≠ j := by decide) (hil : i ≠ k := by decide) (hjl : j ≠ k := by decide) (hi : X.N[i]? = some x := by rfl) (hj : X.N[j]? = some y := by rfl) (hl : X.N[k]? = some z := by rfl)
    (hx : X.env.scope.names.lookup x = some .local := by rfl) (hy : X.env.scope.names.lookup y = some .local := by rfl) (hz : X.env.scope.names.lookup z = some .local := by rfl)
    (hw : swappedStores [.Tuple [.Name x px, .Name y py, .Name z pz] kt pt] (.Tuple [a, b, c] k2 pt2) X.env = pure (some [x, y, z]) := by rfl)
    (hs : swapsWithSole [.Tuple [.Name x px, .Name y py, .Name z pz] kt pt] (.Tuple [a, b, c] k2 pt2) pos.line X.env = pure false := by rfl)
    (hs1 : starEach [c] X.env = (false, eval c X.env) :: starEach [] X.env := by rfl) (hs2 : starEach [b, c] X.env = (false, eval b X.env) :: starEach [c] X.env := by rfl) (hs3 : starEach [a, b, c] X.env = (false, eval a X.env) :: starEach [b, c] X.env := by rfl) :
    SX X (.Assign [.Tuple [.Name x px, .Name y py, .Name z pz] kt pt] (.Tuple [a, b, c] k2 pt2) pos) (sPar3O i j k fa fb f) := by
  refine PS.imp (ps_par3 hc hN hi hj hl hij hil hjl hx hy hz (pa_cons ha (pa_cons hb (pa_cons hf pa_nil hs1) hs2) hs3) hw hs) fun En σ H ⟨p, c, ρ, F, F0, H0, E, s, h, t⟩ => ?_
  refine ⟨p, c, _, F, _, s.e, h, fun d1 c1 v1 F1 H1 w1 ok1 r1 g1 => ?_⟩
  refine ⟨p, c1, _, F1, _, s.e.fwd w1 ok1, g1, fun d2 c2 v2 F2 H2 w2 ok2 r2 g2 => ?_⟩
  refine ⟨p, c2, _, F2, _, s.e.fwd (w1.trans w2) ok2, g2, fun m c3 q3 ys F3 H3 w3 ok3 m1 m2 m3 h3 r3 g3 => ?_⟩
  refine ⟨v1, v2, .ref q3, rfl, ?_⟩
  have w12 := w1.trans w2
  have e2 : H0 q3 = none := s.ent.there q3 (w12.there q3 m1)
  have s3 := ((s.fwd (w12.trans w3) ok3).set i (r1.mono (w2.trans w3).frz)).set j (r2.mono w3.frz)
  refine t.nx c3 _ _ F3 H3 (s3.setOwn k h3 m2 e2 m3 r3 fun n l hk hb => ?_) g3
  rcases set_get hk with ⟨_, _, q⟩ | ⟨n1, q⟩
  · cases q
  rcases set_get q with ⟨_, _, q'⟩ | ⟨n2, q'⟩
  · cases q'
  rw [List.getElem?_set_ne (Ne.symm n1), List.getElem?_set_ne (Ne.symm n2)] at hb
  obtain ⟨b', u, g4, g5, _⟩ := s.own n l q'
  rw [hb] at g4
  cases g4
  rw [w12.there q3 m1] at g5
  cases g5
/-! a list times an int -/
@[simp ↓] def fRep (fa fb : FE) : FL := fun ρ c Q => fa ρ c fun x c => fb ρ c fun y c => match x, y with
  | .lst l, .int k => ((-(2 ^ 63) ≤ k ∧ k < 2 ^ 63) ∧ l.length * k.toNat ≤ 16777216) ∧ Q (List.replicate k.toNat l).flatten c
  | _, _ => False
theorem RepL.repL {K : PySem.W.Frag} {p : Pn} {F : Hp} {l : List D} {xs : List V} (h : RepL K p F l xs) : ∀ n : Nat, RepL K p F (List.replicate n l).flatten (List.replicate n xs).flatten
  | 0 => rfl
  | n + 1 => by
    rw [List.replicate_succ, List.replicate_succ, List.flatten_cons, List.flatten_cons]
    exact h.app (RepL.repL h n)
theorem fx_rep {a b : Expr} {pos : Pos} (ha : EX X a fa) (hb : EX X b fb) : FX X (.BinOp a .Mult b pos) (fRep fa fb) := PE.imp (pe_op op_rep ha hb) fun σ H Q ⟨p, c, ρ, F, Q', es, h, t⟩ =>
  ⟨p, c, ρ, F, _, es, h, fun x c1 v F1 H1 w1 ok1 r1 q1 => ⟨p, c1, ρ, F1, _, es.fwd w1 ok1, q1, fun y c2 u F2 H2 w2 ok2 r2 q2 => by
    split at q2
    · rename_i k
      obtain ⟨b, xs, rfl, h1, rl⟩ := r1.mono w2.frz
      cases (show u = .int k from r2)
      exact ⟨b, k, xs, rfl, rfl, ok2.sub _ _ h1, q2.1.1.1, q2.1.1.2, by rw [line16, rl.len]; exact q2.1.2, fun q nq => by
        obtain ⟨w, ok, n1, n2, n3⟩ := layL (w1.trans w2) ok2 nq (List.replicate k.toNat xs).flatten
        exact t _ c2 q _ F2 _ w ok n1 n2 n3 upd_same (RepL.repL rl _) q2.2⟩
    · exact q2.elim⟩⟩
end
end L3

/-! L3, the end: facts of the head as what the walk asks. -/
namespace L3
open PySem PySem.Spec PyProof.Rows L2
section
variable {K : PySem.W.Frag}
theorem fun_of {x : Str} {st : Stmt} {f : Addr} {fd : FuncData} (F : FunD K x x (defArgs st) (defBody st) (defScope st) [] [] f fd) : Fun K x x st f fd := by
  obtain ⟨oc, od, dV, kV, doc, pm, an, cdv, ct, osl, e, lk, hcd, hD, _⟩ := F.ex
  rcases hD with ⟨_, rfl⟩ | ⟨z, _⟩
  · exact ⟨⟨oc, od, kV, doc, pm, an, cdv, ct, osl, e, lk, hcd⟩, F.kp⟩
  · exact absurd rfl z
theorem code_of {x q : Str} {pr : Arguments} {b : List Stmt} {sc : Scope} {dvs : List V} {kws : List (Str × V)} {p : Str × Option Str} {fd : FuncData} (F : FunD K x q pr b sc dvs kws (He.fAd K p) fd) : fd.code = .ref (He.cT K p).1 := by
  obtain ⟨oc, od, dV, kV, doc, pm, an, cdv, ct, osl, rfl, lk, hcd, _, _⟩ := F.ex
  obtain ⟨c, rfl⟩ := He.codeIn_ref hcd
  have e : He.codeOf K p = c := He.codeOf_eq lk rfl
  show Value.ref c = .ref (He.codeOf K p)
  rw [e]
theorem law_sp {m : FM} {H : Hp} {a : Addr} {ns : List Int} {E : XK} (ht : LamX.Tabs tabs0 H) (hS : SqL K H a (ns.map V.int)) (h : m [.scr ns] 0 fun d _ => d = .bl true) : spM K 1 m [.ref a] H (fun v _ => v = .bl true) E := by
  have go : ∀ F : Hp, (∀ b o, F b = some o → H b = some o) → (∀ b ps, F b ≠ some (.tbl ps)) → SqL K F a (ns.map V.int) → spM K 1 m [.ref a] H (fun v _ => v = .bl true) E := fun F h1 h2 h3 =>
    ⟨rfl, ⟨none, [], fun _ => none⟩, 0, F, [.scr ns], _, ⟨h1, fun _ z => (nomatch z), ⟨ht, fun _ z => absurd z List.not_mem_nil⟩, ⟨h2, fun _ _ z => nomatch z⟩⟩, ⟨_, _, rfl, ⟨a, rfl, h3⟩, rfl⟩, h, fun d c v F' H' _ _ r q => by
      subst q
      exact r⟩
  have one : ∀ u : HO, H a = some u → (∀ ps, u ≠ .tbl ps) → (∀ F : Hp, F a = some u → SqL K F a (ns.map V.int)) → spM K 1 m [.ref a] H (fun v _ => v = .bl true) E := fun u e n k => by
    refine go (fun b => if b = a then some u else none) (fun b o z => ?_) (fun b ps z => ?_) (k _ (if_pos rfl))
    · by_cases q : b = a
      · rw [q]
        exact e.trans ((if_pos q).symm.trans z)
      · exact nomatch (if_neg q).symm.trans z
    · by_cases q : b = a
      · exact n ps (Option.some.inj ((if_pos q).symm.trans z))
      · exact nomatch (if_neg q).symm.trans z
  rcases hS with (hS | ⟨o, hS⟩) | hS
  · exact one _ hS (fun _ z => nomatch z) fun F e => .inl (.inl e)
  · exact one _ hS (fun _ z => nomatch z) fun F e => .inl (.inr ⟨o, e⟩)
  · exact go (fun _ => none) (fun _ _ z => nomatch z) (fun _ _ z => nomatch z) (.inr hS)
end
end L3

/-! L3C: plain helpers that all laws share. -/
namespace L3
open PySem PySem.Spec PyProof.Rows L2
theorem five_at (z : Int) (hz : 0 ≤ z) {a b c d e : Int} (h : 0 < a ∧ 0 < b ∧ 0 < c ∧ 0 < d ∧ 0 < e) (h' : a < 4294967296 ∧ b < 4294967296 ∧ c < 4294967296 ∧ d < 4294967296 ∧ e < 4294967296) : ∃ p, atI [D.int a, D.int b, D.int c, D.int d, D.int e] (z % 5) = some (.int p) ∧ 0 < p ∧ p < 4294967296 := by
  have : z % 5 = 0 ∨ z % 5 = 1 ∨ z % 5 = 2 ∨ z % 5 = 3 ∨ z % 5 = 4 := by omega
  rcases this with q | q | q | q | q <;> rw [q]
  · exact ⟨a, rfl, h.1, h'.1⟩
  · exact ⟨b, rfl, h.2.1, h'.2.1⟩
  · exact ⟨c, rfl, h.2.2.1, h'.2.2.1⟩
  · exact ⟨d, rfl, h.2.2.2.1, h'.2.2.2.1⟩
  · exact ⟨e, rfl, h.2.2.2.2, h'.2.2.2.2⟩
def isIntB (lo hi : Int) : D → Bool
  | .int v => decide (lo ≤ v ∧ v ≤ hi)
  | _ => false
def areIntsB (lo hi : Int) : D → Bool
  | .tup l => l.all fun d => isIntB lo hi d
  | _ => false
/-- a value that isinstance may ask, its items too if it is a tuple -/
def tyAll : D → Bool
  | .tup l => l.all fun d => (tyName d).isSome
  | d => (tyName d).isSome
theorem tyAll_ints (vs : List Int) : tyAll (.tup (vs.map .int)) = true := List.all_eq_true.mpr fun d hd => by
  obtain ⟨v, _, rfl⟩ := List.mem_map.mp hd
  rfl
theorem areInts_ok {vs : List Int} {lo hi : Int} (h : ∀ v ∈ vs, lo ≤ v ∧ v ≤ hi) : areIntsB lo hi (.tup (vs.map .int)) = true := List.all_eq_true.mpr fun d hd => by
  obtain ⟨v, hv, rfl⟩ := List.mem_map.mp hd
  exact decide_eq_true (h v hv)
theorem bls_map {α : Type} (f : α → Bool) : ∀ l : List α, blsOf (l.map fun d => .bl (f d)) = some (l.map f)
  | [] => rfl
  | d :: l => by
    show (blsOf (l.map fun d => .bl (f d))).map (f d :: ·) = _
    rw [bls_map f l]
    rfl
theorem map_all {α : Type} (f : α → Bool) (l : List α) : (l.map f).all id = l.all f := by
  rw [List.all_map]
  rfl
theorem bls_yes : ∀ {ys : List D}, (∀ y ∈ ys, y = .bl true) → blsOf ys = some (ys.map fun _ => true)
  | [], _ => rfl
  | y :: ys, h => by
    rw [h y List.mem_cons_self]
    show (blsOf ys).map (true :: ·) = _
    rw [bls_yes fun z hz => h z (List.mem_cons_of_mem _ hz)]
    rfl
theorem cut_one (ns : List Int) : cutD (ns.map .int) none (some 1) = (ns.take 1).map D.int := by
  cases ns with
  | nil => rfl
  | cons x r => simp [cutD, HT.sIx]
theorem erase_permD {α : Type} {m r : List α} {f : List α} {k : Nat} {x : α} (h : m[k]? = some x) (p : (f ++ m).Perm r) : (f ++ [x] ++ m.eraseIdx k).Perm r := by
  obtain ⟨hk, hx⟩ := List.getElem?_eq_some_iff.mp h
  have e : (x :: m.eraseIdx k).Perm m := by
    rw [List.eraseIdx_eq_take_drop_succ]
    refine List.perm_middle.symm.trans (List.Perm.of_eq ?_)
    rw [← hx, ← List.drop_eq_getElem_cons hk, List.take_append_drop]
  rw [List.append_assoc]
  exact ((List.Perm.append_left f e).trans p)
theorem get3_set_eq {x : Option D} : ∀ {ρ : Rho} {i : Nat}, i < ρ.length → get3 (ρ.set i x) i = x
  | [], _, h => absurd h (Nat.not_lt_zero _)
  | _ :: _, 0, _ => rfl
  | _ :: ρ, i + 1, h => get3_set_eq (ρ := ρ) (Nat.lt_of_succ_lt_succ h)
theorem get3_set_ne {x : Option D} : ∀ {i j : Nat} (ρ : Rho), i ≠ j → get3 (ρ.set i x) j = get3 ρ j
  | _, _, [], _ => rfl
  | 0, 0, _ :: _, h => absurd rfl h
  | 0, j + 1, _ :: _, _ => rfl
  | i + 1, 0, _ :: _, _ => rfl
  | i + 1, j + 1, _ :: ρ, h => get3_set_ne (i := i) (j := j) ρ (fun e => h (by rw [e]))
theorem vA_upS (ρ : Rho) : ρ.map (vA ∘ upS) = ρ := by
  refine (List.map_congr_left fun x _ => ?_).trans (List.map_id _)
  cases x <;> rfl
theorem comp_le {g : FG} {fe : FE} {ρ : Rho} (P : D → Prop) (k C : Nat) : ∀ (l : List D) (c : Nat) (Q : List D → Nat → Prop),
    (∀ d ∈ l, ∀ c (K : KD), c + k ≤ C → (∀ y c', P y → c' ≤ c + k → K y c') → g d (ρ.map upS) fun ρ' => fe (ρ'.map vA) c K) → c + k * l.length ≤ C → (∀ ys c', ys.length = l.length → (∀ y ∈ ys, P y) → c' ≤ c + k * l.length → Q ys c') → compL g tYes3 fe ρ l c Q
  | [], c, Q, _, _, q => q [] c rfl (fun _ h => absurd h List.not_mem_nil) (Nat.le_add_right _ _)
  | d :: l, c, Q, step, hc, q => by
    have e : c + k * (d :: l).length = c + k + k * l.length := by
      rw [List.length_cons, Nat.mul_succ]
      omega
    rw [e] at hc q
    show g d (ρ.map upS) fun ρ' => fe (ρ'.map vA) c fun y c => compL g tYes3 fe ρ l c fun ys c => Q (y :: ys) c
    refine step d List.mem_cons_self c _ (by omega) fun y c1 py hc1 => comp_le P k C l c1 _ (fun d hd => step d (List.mem_cons_of_mem _ hd)) (by omega) fun ys c2 h1 h2 h3 => q (y :: ys) c2 (by rw [List.length_cons, List.length_cons, h1]) (fun z hz => ?_) (by omega)
    rcases List.mem_cons.mp hz with e | e
    · rw [e]; exact py
    · exact h2 z e
theorem cutD_from {l : List D} (k : Nat) : cutD l (some (k : Int)) none = l.drop k := by
  unfold cutD
  rw [HT.sIx_none, HT.sIx_nat]
  by_cases h : k ≤ l.length
  · rw [Nat.min_eq_left h, List.take_of_length_le (by rw [List.length_drop]; omega)]
  · rw [Nat.min_eq_right (by omega), List.drop_eq_nil_of_le (by omega : l.length ≤ k), List.drop_eq_nil_of_le (Nat.le_refl _)]
    exact List.take_nil
theorem cutD_to {l : List D} (k : Nat) : cutD l none (some (k : Int)) = l.take k := by
  unfold cutD
  rw [HT.sIx_none, HT.sIx_nat, List.drop_zero, Nat.sub_zero]
  by_cases h : k ≤ l.length
  · rw [Nat.min_eq_left h]
  · rw [Nat.min_eq_right (by omega), List.take_of_length_le (Nat.le_refl _), List.take_of_length_le (by omega)]
theorem cutD_both {l : List D} (j k : Nat) (h : j ≤ k) : cutD l (some (j : Int)) (some (k : Int)) = (l.drop j).take (k - j) := by
  unfold cutD
  rw [HT.sIx_nat, HT.sIx_nat]
  by_cases h1 : j ≤ l.length
  · rw [Nat.min_eq_left h1]
    by_cases h2 : k ≤ l.length
    · rw [Nat.min_eq_left h2]
    · rw [Nat.min_eq_right (by omega), List.take_of_length_le (by rw [List.length_drop]; omega), List.take_of_length_le (by rw [List.length_drop]; omega)]
  · rw [Nat.min_eq_right (show l.length ≤ j by omega), Nat.min_eq_right (by omega), List.drop_eq_nil_of_le (show l.length ≤ j by omega), List.drop_eq_nil_of_le (Nat.le_refl _)]
    simp
theorem cutD_but1 {l : List D} : cutD l none (some (-1)) = l.take (l.length - 1) := by
  unfold cutD
  rw [HT.sIx_none, List.drop_zero, Nat.sub_zero]
  have e : HT.sIx l.length l.length (some (-1)) = l.length - 1 := by
    show (if (-1 : Int) < 0 then ((-1 : Int) + (l.length : Int)).toNat else min (-1 : Int).toNat l.length) = _
    rw [if_pos (by decide)]
    omega
  rw [e]
theorem atI_last {α : Type} {l : List α} {x : α} (h : l[l.length - 1]? = some x) : atI l (-1) = some x := by
  have hl : 0 < l.length := by
    have := (List.getElem?_eq_some_iff.mp h).1
    omega
  unfold atI
  rw [← h]
  have e : ixN l.length (-1) = some (l.length - 1) := by
    unfold ixN
    rw [if_neg (by decide), if_pos (by omega)]
    congr 1
    omega
  rw [e]
  rfl
theorem zipL_mem : ∀ {l m : List D} {d : D}, d ∈ zipL l m → ∃ (i : Nat) (x y : D), l[i]? = some x ∧ m[i]? = some y ∧ d = .tup [x, y]
  | [], _, _, h => by simp [zipL] at h
  | _ :: _, [], _, h => by simp [zipL] at h
  | x :: l, y :: m, d, h => by
    rcases List.mem_cons.mp (show d ∈ .tup [x, y] :: zipL l m from h) with e | e
    · exact ⟨0, x, y, rfl, rfl, e⟩
    · obtain ⟨i, a, b, h1, h2, h3⟩ := zipL_mem e
      exact ⟨i + 1, a, b, h1, h2, h3⟩
theorem rangeL_succ (lo : Int) (n : Nat) : rangeL lo (n + 1) = .int lo :: rangeL (lo + 1) n := by
  unfold rangeL
  rw [List.range_succ_eq_map, List.map_cons, List.map_map]
  congr 1
  · simp
  · refine List.map_congr_left fun k _ => ?_
    show D.int (lo + ((k + 1 : Nat) : Int)) = D.int (lo + 1 + (k : Int))
    congr 1
    omega
/-! numbers as data; == -/
abbrev nD (n : Nat) : D := .int (n : Nat)
theorem map_nD (S : List Nat) : S.map nD = (S.map fun n : Nat => (n : Int)).map D.int := by rw [List.map_map]; rfl
theorem at_map {α : Type} {f : α → D} {S : List α} {i : Nat} (h : i < S.length) : atI (S.map f) (i : Int) = some (f S[i]) := by
  refine atI_nat ?_
  rw [List.getElem?_map, List.getElem?_eq_getElem h]
  rfl
theorem intsOf_nD (o : List Nat) : intsOf (o.map nD) = some (o.map fun n : Nat => (n : Int)) := by
  have := ints_of (o.map fun n : Nat => (n : Int))
  rw [List.map_map] at this
  exact this
theorem sum_nD (o : List Nat) : (o.map fun n : Nat => (n : Int)).sum = ((o.sum : Nat) : Int) := by
  induction o with
  | nil => rfl
  | cons n o ih => rw [List.map_cons, List.sum_cons, List.sum_cons, ih]; omega
theorem noLstL_map {α : Type} {f : α → D} : ∀ {l : List α}, (∀ x ∈ l, noLst (f x) = true) → noLstL (l.map f) = true
  | [], _ => rfl
  | x :: l, h => by
    show (noLst (f x) && noLstL (l.map f)) = true
    rw [h x List.mem_cons_self, noLstL_map fun y hy => h y (List.mem_cons_of_mem _ hy)]
    rfl
theorem pyDL_map {α : Type} {f : α → D} {n : Nat} : ∀ {l : List α}, (∀ x ∈ l, pyD n (f x) = true) → pyDL n (l.map f) = true
  | [], _ => by unfold pyDL; rfl
  | x :: l, h => by
    rw [List.map_cons]
    unfold pyDL
    rw [h x List.mem_cons_self, pyDL_map fun y hy => h y (List.mem_cons_of_mem _ hy)]
    rfl
theorem pyDL_of {n : Nat} : ∀ {l : List D}, (∀ x ∈ l, pyD n x = true) → pyDL n l = true
  | [], _ => by unfold pyDL; rfl
  | x :: l, h => by
    unfold pyDL
    rw [h x List.mem_cons_self, pyDL_of fun y hy => h y (List.mem_cons_of_mem _ hy)]
    rfl
theorem pyD_int {n : Nat} {i : Int} : pyD n (.int i) = true := by unfold pyD; rfl
theorem pyD_non {n : Nat} : pyD n .non = true := by unfold pyD; rfl
theorem pyD_bl {n : Nat} {b : Bool} : pyD n (.bl b) = true := by unfold pyD; rfl
theorem eqvDL_nil (l : List D) : eqvDL l [] = l.isEmpty := by
  cases l <;> rfl
mutual
theorem eqvD_refl : ∀ {n : Nat} {d : D}, pyD n d = true → eqvD d d = true
  | _, .non, _ => rfl
  | _, .int i, _ => by simp [eqvD]
  | _, .bl i, _ => by simp [eqvD]
  | _, .str x, h => by simp [eqvD]
  | n + 1, .tup l, h => by
    unfold pyD at h
    unfold eqvD
    exact eqvDL_refl h
  | n + 1, .lst l, h => by
    unfold pyD at h
    unfold eqvD
    exact eqvDL_refl h
  | 0, .tup l, h => by simp [pyD] at h
  | 0, .lst l, h => by simp [pyD] at h
  | _, .ty _, h => by simp [pyD] at h
  | _, .rf _, h => by simp [pyD] at h
  | _, .pot, h => by simp [pyD] at h
  | _, .scr _, h => by simp [pyD] at h
  | _, .lam .., h => by simp [pyD] at h
  | _, .exc .., h => by simp [pyD] at h
  | _, .clo .., h => by simp [pyD] at h
  | _, .dic _, h => by simp [pyD] at h
theorem eqvDL_refl : ∀ {n : Nat} {l : List D}, pyDL n l = true → eqvDL l l = true
  | _, [], _ => rfl
  | n, d :: l, h => by
    unfold pyDL at h
    obtain ⟨h1, h2⟩ := Bool.and_eq_true_iff.mp h
    unfold eqvDL
    rw [eqvD_refl h1, eqvDL_refl h2]
    rfl
end
mutual
/-- no bools within -/
def nbD : D → Bool
  | .non => true
  | .int _ => true
  | .str _ => true
  | .tup l => nbDL l
  | .lst l => nbDL l
  | _ => false
def nbDL : List D → Bool
  | [] => true
  | d :: l => nbD d && nbDL l
end
mutual
theorem eqvD_iff : ∀ {x y : D}, nbD x = true → nbD y = true → (eqvD x y = true ↔ x = y)
  | .non, y, _, hy => by cases y <;> simp [nbD, eqvD] at hy ⊢
  | .int i, y, _, hy => by cases y <;> simp [nbD, eqvD] at hy ⊢
  | .str i, y, _, hy => by cases y <;> simp [nbD, eqvD] at hy ⊢
  | .tup l, y, hx, hy => by
    cases y with
    | tup m =>
      unfold nbD at hx hy
      unfold eqvD
      rw [eqvDL_iff hx hy, D.tup.injEq]
    | _ => simp [nbD, eqvD] at hy ⊢
  | .lst l, y, hx, hy => by
    cases y with
    | lst m =>
      unfold nbD at hx hy
      unfold eqvD
      rw [eqvDL_iff hx hy, D.lst.injEq]
    | _ => simp [nbD, eqvD] at hy ⊢
  | .bl _, _, h, _ => by simp [nbD] at h
  | .ty _, _, h, _ => by simp [nbD] at h
  | .rf _, _, h, _ => by simp [nbD] at h
  | .pot, _, h, _ => by simp [nbD] at h
  | .scr _, _, h, _ => by simp [nbD] at h
  | .lam .., _, h, _ => by simp [nbD] at h
  | .exc .., _, h, _ => by simp [nbD] at h
  | .clo .., _, h, _ => by simp [nbD] at h
  | .dic _, _, h, _ => by simp [nbD] at h
  | .dct _ _, _, h, _ => by simp [nbD] at h
theorem eqvDL_iff : ∀ {l m : List D}, nbDL l = true → nbDL m = true → (eqvDL l m = true ↔ l = m)
  | [], [], _, _ => by simp [eqvDL]
  | [], _ :: _, _, _ => by simp [eqvDL]
  | _ :: _, [], _, _ => by simp [eqvDL]
  | x :: l, y :: m, hx, hy => by
    unfold nbDL at hx hy
    obtain ⟨h1, h2⟩ := Bool.and_eq_true_iff.mp hx
    obtain ⟨g1, g2⟩ := Bool.and_eq_true_iff.mp hy
    unfold eqvDL
    rw [Bool.and_eq_true, eqvD_iff h1 g1, eqvDL_iff h2 g2, List.cons.injEq]
end
theorem nbDL_map {α : Type} {f : α → D} : ∀ {l : List α}, (∀ x ∈ l, nbD (f x) = true) → nbDL (l.map f) = true
  | [], _ => by unfold nbDL; rfl
  | x :: l, h => by
    rw [List.map_cons]
    unfold nbDL
    rw [h x List.mem_cons_self, nbDL_map fun y hy => h y (List.mem_cons_of_mem _ hy)]
    rfl
open Classical in
theorem eqvD_dec {x y : D} (hx : nbD x = true) (hy : nbD y = true) : eqvD x y = decide (x = y) := by
  by_cases h : x = y
  · rw [decide_eq_true h]; exact (eqvD_iff hx hy).mpr h
  · rw [decide_eq_false h]
    cases e : eqvD x y with
    | false => rfl
    | true => exact absurd ((eqvD_iff hx hy).mp e) h
theorem rangeL_app (lo : Int) : ∀ (a b : Nat), rangeL lo (a + b) = rangeL lo a ++ rangeL (lo + a) b
  | 0, b => by rw [Nat.zero_add]; show _ = rangeL (lo + ((0 : Nat) : Int)) b; rw [show lo + ((0 : Nat) : Int) = lo by omega]
  | a + 1, b => by
    rw [show a + 1 + b = (a + b) + 1 by omega, rangeL_succ, rangeL_succ, rangeL_app (lo + 1) a b, show lo + 1 + (a : Int) = lo + ((a + 1 : Nat) : Int) by omega]
    rfl
theorem mem_rangeL {lo : Int} {n : Nat} {d : D} (h : d ∈ rangeL lo n) : ∃ k : Nat, k < n ∧ d = .int (lo + k) := by
  obtain ⟨k, hk, rfl⟩ := List.mem_map.mp h
  exact ⟨k, List.mem_range.mp hk, rfl⟩
theorem atI_lastD {l : List D} (h : l ≠ []) : ∃ x ∈ l, atI l (-1) = some x := by
  have hl := List.length_pos_iff.mpr h
  exact ⟨l[l.length - 1], List.getElem_mem _, atI_last (List.getElem?_eq_getElem (by omega))⟩
theorem mem_enumL : ∀ {n : Nat} {l : List D} {d : D}, d ∈ enumL n l → ∃ (i : Nat) (x : D), l[i]? = some x ∧ d = .tup [.int ((n + i : Nat) : Int), x]
  | _, [], _, h => by cases h
  | n, x :: l, d, h => by
    rcases List.mem_cons.mp (show d ∈ .tup [.int n, x] :: enumL (n + 1) l from h) with e | e
    · exact ⟨0, x, rfl, e⟩
    · obtain ⟨i, y, h1, h2⟩ := mem_enumL e
      exact ⟨i + 1, y, h1, by rw [h2, show n + 1 + i = n + (i + 1) by omega]⟩
@[simp] theorem atI_0 {α : Type} (x : α) (l : List α) : atI (x :: l) 0 = some x := atI_nat (j := 0) rfl
@[simp] theorem atI_1 {α : Type} (x y : α) (l : List α) : atI (x :: y :: l) 1 = some y := atI_nat (j := 1) rfl
@[simp] theorem atI_2 {α : Type} (x y z : α) (l : List α) : atI (x :: y :: z :: l) 2 = some z := atI_nat (j := 2) rfl
@[simp] theorem atI_3 {α : Type} (x y z u : α) (l : List α) : atI (x :: y :: z :: u :: l) 3 = some u := atI_nat (j := 3) rfl
end L3

/-! L3D: several names at once, values and new lists in any mix. -/
namespace L3
open PySem PySem.Spec PyProof.Rows L2
inductive AK where
  | e (f : FE)
  | f (f : FL)
@[simp ↓] def parRun : List AK → Rho → Nat → (List SV → Nat → Prop) → Prop
  | [], _, c, Q => Q [] c
  | .e f :: r, ρ, c, Q => f ρ c fun d c => parRun r ρ c fun m c => Q (.val d :: m) c
  | .f f :: r, ρ, c, Q => f ρ c fun l c => parRun r ρ c fun m c => Q (.own l :: m) c
@[simp ↓] def setAll : List Nat → List SV → Env3 → Env3
  | i :: is, v :: vs, ρ => setAll is vs (ρ.set i v)
  | _, _, ρ => ρ
def setAllV : List Nat → List V → L2.St → L2.St
  | i :: is, v :: vs, σ => setAllV is vs (σ.set i (some v))
  | _, _, σ => σ
@[simp ↓] def putAll : List Nat → List SV → Env3 → (Env3 → Prop) → Prop
  | [], [], ρ, k => k ρ
  | i :: is, v :: vs, ρ, k => putAll is vs (ρ.set i v) k
  | _, _, _, _ => False
theorem putAll_is : ∀ {is : List Nat} {svs : List SV} {ρ : Env3} {k : Env3 → Prop}, putAll is svs ρ k → svs.length = is.length ∧ k (setAll is svs ρ)
  | [], [], _, _, h => ⟨rfl, h⟩
  | i :: is, v :: vs, _, _, h => by
    obtain ⟨h1, h2⟩ := putAll_is (is := is) (svs := vs) h
    exact ⟨by rw [List.length_cons, List.length_cons, h1], h2⟩
  | [], _ :: _, _, _, h => h.elim
  | _ :: _, [], _, _, h => h.elim
@[simp ↓] def sParN (is : List Nat) (ks : List AK) : FS := fun E ρ c => parRun ks (ρ.map vA) c fun vs c => putAll is vs ρ fun ρ => E.nx ρ c
@[simp ↓] def okSV : List SV → Bool
  | [] => true
  | .val d :: r => noLst d && okSV r
  | .own l :: r => noLstL l && okSV r
  | .no :: r => okSV r
  | .dic _ _ :: r => okSV r
@[simp ↓] def sParNB (is : List Nat) (ks : List AK) : FS := fun E ρ c => parRun ks (ρ.map vB) c fun vs c => okSV vs = true ∧ putAll is vs ρ fun ρ => E.nx ρ c
def RepSV (K : PySem.W.Frag) (p : Pn) (F H : Hp) : Hp → List SV → List V → Prop
  | _, [], vs => vs = []
  | Hs, .val d :: r, vs => ∃ v w, vs = v :: w ∧ Rep K p F d v ∧ RepSV K p F H Hs r w
  | Hs, .own l :: r, vs => ∃ a w xs H1, vs = .ref a :: w ∧ H a = some (.lst xs) ∧ F a = none ∧ Hs a = none ∧ p.pot ≠ some a ∧ RepL K p F l xs ∧ H1 a ≠ none ∧ (∀ b, H1 b = none → Hs b = none) ∧ RepSV K p F H H1 r w
  | _, .no :: _, _ => False
  | _, .dic _ _ :: _, _ => False
section
variable {K : PySem.W.Frag} {p : Pn} {F H : Hp}
theorem RepSV.mono : ∀ {svs : List SV} {vs : List V} {Hs Hs' : Hp}, (∀ b, Hs' b = none → Hs b = none) → RepSV K p F H Hs' svs vs → RepSV K p F H Hs svs vs
  | [], _, _, _, _, h => h
  | .val d :: r, _, _, _, e, h => by
    obtain ⟨v, w, rfl, h1, h2⟩ := h
    exact ⟨v, w, rfl, h1, RepSV.mono e h2⟩
  | .own l :: r, _, _, _, e, h => by
    obtain ⟨a, w, xs, H1, rfl, h1, h2, h3, h4, h5, h6, h7, h8⟩ := h
    exact ⟨a, w, xs, H1, rfl, h1, h2, e a h3, h4, h5, h6, fun b hb => e b (h7 b hb), h8⟩
  | .no :: _, _, _, _, _, h => h
  | .dic _ _ :: _, _, _, _, _, h => h
theorem RepSV.move {F' H' : Hp} (e : ∀ b u, F b = some u → F' b = some u) (eo : ∀ a xs, H a = some (.lst xs) → F a = none → p.pot ≠ some a → H' a = some (.lst xs) ∧ F' a = none) : ∀ {svs : List SV} {vs : List V} {Hs : Hp}, RepSV K p F H Hs svs vs → RepSV K p F' H' Hs svs vs
  | [], _, _, h => h
  | .val d :: r, _, _, h => by
    obtain ⟨v, w, rfl, h1, h2⟩ := h
    exact ⟨v, w, rfl, h1.mono e, RepSV.move e eo h2⟩
  | .own l :: r, _, _, h => by
    obtain ⟨a, w, xs, H1, rfl, h1, h2, h3, h4, h5, h6, h7, h8⟩ := h
    obtain ⟨g1, g2⟩ := eo a xs h1 h2 h4
    exact ⟨a, w, xs, H1, rfl, g1, g2, h3, h4, h5.mono e, h6, h7, RepSV.move e eo h8⟩
  | .no :: _, _, _, h => h
  | .dic _ _ :: _, _, _, h => h
theorem RepSV.lent {F3 : Hp} (k1 : ∀ d v, noLst d = true → Rep K p F d v → Rep K p F3 d v) (k2 : ∀ l xs, noLstL l = true → RepL K p F l xs → RepL K p F3 l xs) (k3 : ∀ b, F b = none → F3 b = none) : ∀ {svs : List SV} {vs : List V} {Hs : Hp}, okSV svs = true → RepSV K p F H Hs svs vs → RepSV K p F3 H Hs svs vs
  | [], _, _, _, h => h
  | .val d :: r, _, _, n, h => by
    obtain ⟨v, w, rfl, h1, h2⟩ := h
    have n' : noLst d = true ∧ okSV r = true := by simpa [okSV] using n
    exact ⟨v, w, rfl, k1 _ _ n'.1 h1, RepSV.lent k1 k2 k3 n'.2 h2⟩
  | .own l :: r, _, _, n, h => by
    obtain ⟨a, w, xs, H1, rfl, h1, h2, h3, h4, h5, h6, h7, h8⟩ := h
    have n' : noLstL l = true ∧ okSV r = true := by simpa [okSV] using n
    exact ⟨a, w, xs, H1, rfl, h1, k3 a h2, h3, h4, k2 _ _ n'.1 h5, h6, h7, RepSV.lent k1 k2 k3 n'.2 h8⟩
  | .no :: _, _, _, _, h => h
  | .dic _ _ :: _, _, _, _, h => h
theorem RepSV.len : ∀ {svs : List SV} {vs : List V} {Hs : Hp}, RepSV K p F H Hs svs vs → vs.length = svs.length
  | [], _, _, h => by cases h; rfl
  | .val d :: r, _, _, h => by
    obtain ⟨v, w, rfl, h1, h2⟩ := h
    rw [List.length_cons, List.length_cons, RepSV.len h2]
  | .own l :: r, _, _, h => by
    obtain ⟨a, w, xs, H1, rfl, h1, h2, h3, h4, h5, h6, h7, h8⟩ := h
    rw [List.length_cons, List.length_cons, RepSV.len h8]
  | .no :: _, _, _, h => h.elim
  | .dic _ _ :: _, _, _, h => h.elim
/-- all are stored -/
theorem SSt.setAll {c : Nat} {F0 H0 : Hp} : ∀ {is : List Nat} {svs : List SV} {vs : List V} {Hs : Hp} {ρ : Env3} {σ : L2.St}, SSt K p c ρ σ F H F0 H0 → RepSV K p F H Hs svs vs → (∀ b, Hs b = none → H0 b = none) →
    (∀ (j : Nat) (m : List D) (b : Addr), ρ[j]? = some (SV.own m) → σ[j]? = some (some (V.ref b)) → Hs b ≠ none) → SSt K p c (L3.setAll is svs ρ) (setAllV is vs σ) F H F0 H0
  | [], svs, vs, _, _, _, s, h, _, _ => by
    cases svs <;> cases vs <;> exact s
  | i :: is, [], vs, _, _, _, s, h, _, _ => by
    cases h
    exact s
  | i :: is, .val d :: r, _, Hs, _, _, s, h, e0, eo => by
    obtain ⟨v, w, rfl, h1, h2⟩ := h
    refine SSt.setAll (is := is) (svs := r) (vs := w) (s.set i h1) h2 e0 fun j m b g1 g2 => ?_
    rcases set_get g1 with ⟨rfl, hl, q⟩ | ⟨n, q⟩
    · cases q
    · rw [List.getElem?_set_ne (Ne.symm n)] at g2
      exact eo j m b q g2
  | i :: is, .own l :: r, _, Hs, ρ, σ, s, h, e0, eo => by
    obtain ⟨a, w, xs, H1, rfl, h1, h2, h3, h4, h5, h6, h7, h8⟩ := h
    refine SSt.setAll (is := is) (svs := r) (vs := w) (s.setOwn i h1 h2 (e0 a h3) h4 h5 fun j m g1 g2 => eo j m a g1 g2 h3) h8 (fun b hb => e0 b (h7 b hb)) fun j m b g1 g2 => ?_
    rcases set_get g1 with ⟨rfl, hl, q⟩ | ⟨n, q⟩
    · rw [List.getElem?_set_self (by rw [← s.len]; exact hl)] at g2
      cases g2
      exact h6
    · rw [List.getElem?_set_ne (Ne.symm n)] at g2
      exact fun z => eo j m b q g2 (h7 b z)
  | _ :: _, .no :: _, _, _, _, _, _, h, _, _ => h.elim
  | _ :: _, .dic _ _ :: _, _, _, _, _, _, h, _, _ => h.elim
end
section
variable {X : Cx} {e a b d : Expr} {es : List Expr} {f : FL} {fe : FE} {ks : List AK} {pos : Pos}
def tPk (K : PySem.W.Frag) (ks : List AK) : TA := fun σ H Q => ∃ p c ρ F Q', ESt K p c ρ σ F H ∧ parRun ks ρ c Q' ∧ ∀ svs c' vs F' H', Fwd p F H F' H' → Ok3 p c' F' H' → RepSV K p F' H' H svs vs → Q' svs c' → Q vs H'
abbrev JX (X : Cx) (es : List Expr) (ks : List AK) : Prop := PA X es (tPk X.K ks)
theorem jx_nil : JX X [] [] := PA.imp pa_nil fun σ H Q ⟨p, c, ρ, F, Q', es, h, t⟩ => t [] c [] F H (.refl ..) es.ok rfl h
theorem jx_e (he : EX X e fe) (hr : JX X es ks) (hs : starEach (e :: es) X.env = (false, eval e X.env) :: starEach es X.env := by rfl) : JX X (e :: es) (.e fe :: ks) := PA.imp (pa_cons he hr hs) fun σ H Q ⟨p, c, ρ, F, Q', es, h, t⟩ =>
  ⟨p, c, ρ, F, _, es, h, fun d c1 v F1 H1 w1 ok1 r1 q1 => ⟨p, c1, ρ, F1, _, es.fwd w1 ok1, q1, fun svs c2 vs F2 H2 w2 ok2 r2 q2 =>
    t (.val d :: svs) c2 (v :: vs) F2 H2 (w1.trans w2) ok2 ⟨v, vs, rfl, r1.mono w2.frz, r2.mono w1.there⟩ q2⟩⟩
theorem jx_f (he : FX X e f) (hr : JX X es ks) (hs : starEach (e :: es) X.env = (false, eval e X.env) :: starEach es X.env := by rfl) : JX X (e :: es) (.f f :: ks) := PA.imp (pa_cons he hr hs) fun σ H Q ⟨p, c, ρ, F, Q', es, h, t⟩ =>
  ⟨p, c, ρ, F, _, es, h, fun l c1 a xs F1 H1 w1 ok1 n1 n2 n3 h1 r1 q1 => ⟨p, c1, ρ, F1, _, es.fwd w1 ok1, q1, fun svs c2 vs F2 H2 w2 ok2 r2 q2 => by
    have k1 : H2 a = some (.lst xs) := w2.keep _ _ h1 n3 (fun _ z => nomatch z)
    have f1 : F2 a = none := by
      cases z : F2 a with
      | none => rfl
      | some o =>
        rcases w2.new a o z with y | y
        · rw [n2] at y; cases y
        · rw [h1] at y; cases y
    exact t (.own l :: svs) c2 (.ref a :: vs) F2 H2 (w1.trans w2) ok2 ⟨a, vs, xs, H1, rfl, k1, f1, n1, n3, r1.mono w2.frz, by rw [h1]; exact nofun, w1.there, r2⟩ q2⟩⟩
theorem SSt.ownThere {K : PySem.W.Frag} {p : Pn} {c : Nat} {ρ : Env3} {σ : L2.St} {F H F0 H0 : Hp} (s : SSt K p c ρ σ F H F0 H0) : ∀ (j : Nat) (m : List D) (b : Addr), ρ[j]? = some (SV.own m) → σ[j]? = some (some (V.ref b)) → H b ≠ none := fun j m b g1 g2 z => by
  obtain ⟨b', u, e1, e2, _⟩ := s.own j m g1
  rw [g2] at e1
  cases e1
  rw [z] at e2
  cases e2
theorem parW {is : List Nat} {σ : L2.St} {H : Hp} {D : Ends} {R : List V → Hp → Prop} (hR : ∀ vs H', vs.length = is.length → D.nx (setAllV is vs σ) H' → R vs H') (h : tS X.K (sParN is ks) D σ H) : tPk X.K ks σ H R := by
  obtain ⟨p, c, ρ, F, F0, H0, E, s, h, t⟩ := h
  refine ⟨p, c, _, F, _, s.e, h, fun svs c1 vs F1 H1 w1 ok1 r1 q1 => ?_⟩
  obtain ⟨hl, q⟩ := putAll_is q1
  exact hR _ _ (r1.len.trans hl) (t.nx c1 _ _ F1 H1 (SSt.setAll (s.fwd w1 ok1) r1 s.ent.there s.ownThere) q)
theorem parWB {is : List Nat} {σ : L2.St} {H : Hp} {D : Ends} {R : List V → Hp → Prop} (hR : ∀ vs H', vs.length = is.length → D.nx (setAllV is vs σ) H' → R vs H') (h : tS X.K (sParNB is ks) D σ H) : tPk X.K ks σ H R := by
  obtain ⟨p, c, ρ, F, F0, H0, E, s, h, t⟩ := h
  obtain ⟨F2, es, w2, k⟩ := s.lend
  refine ⟨p, c, _, F2, _, es, h, fun svs c1 vs F1 H1 w1 ok1 r1 q1 => ?_⟩
  obtain ⟨F3, s3, w3, k1, k2, k3⟩ := k c1 F1 H1 w1 ok1
  obtain ⟨hl, q⟩ := putAll_is q1.2
  exact hR _ _ (r1.len.trans hl) (t.nx c1 _ _ F3 H1 (SSt.setAll s3 (r1.lent k1 k2 k3 q1.1) s.ent.there s.ownThere) q)
theorem two_of {vs : List V} (h : vs.length = 2) : ∃ v w, vs = [v, w] := by
  match vs, h with
  | [v, w], _ => exact ⟨v, w, rfl⟩
theorem three_of {vs : List V} (h : vs.length = 3) : ∃ u v w, vs = [u, v, w] := by
  match vs, h with
  | [u, v, w], _ => exact ⟨u, v, w, rfl⟩
section
variable {i j k : Nat} {x y z : Str} {px py pz pt : Pos} {kt k2 pt2}
theorem sx_parN2 (hc : X.calm = true) (hN : X.N.Nodup) (ha : JX X [a, b] ks) (hij : i ≠ j := by decide) (hi : X.N[i]? = some x := by rfl) (hj : X.N[j]? = some y := by rfl)
    (hx : X.env.scope.names.lookup x = some .local := by rfl) (hy : X.env.scope.names.lookup y = some .local := by rfl) (hw : swappedStores [.Tuple [.Name x px, .Name y py] kt pt] (.Tuple [a, b] k2 pt2) X.env = pure (some [x, y]) := by rfl)
    (hs : swapsWithSole [.Tuple [.Name x px, .Name y py] kt pt] (.Tuple [a, b] k2 pt2) pos.line X.env = pure false := by rfl) :
    SX X (.Assign [.Tuple [.Name x px, .Name y py] kt pt] (.Tuple [a, b] k2 pt2) pos) (sParN [i, j] ks) := PS.imp (ps_par hc hN hi hj hij hx hy ha hw hs) fun D σ H h => parW (is := [i, j]) (fun vs H' hl q => by
    obtain ⟨v, w, rfl⟩ := two_of hl
    exact ⟨v, w, rfl, q⟩) h
theorem sx_parN2B (hc : X.calm = true) (hN : X.N.Nodup) (ha : JX X [a, b] ks) (hij : i ≠ j := by decide) (hi : X.N[i]? = some x := by rfl) (hj : X.N[j]? = some y := by rfl)
    (hx : X.env.scope.names.lookup x = some .local := by rfl) (hy : X.env.scope.names.lookup y = some .local := by rfl) (hw : swappedStores [.Tuple [.Name x px, .Name y py] kt pt] (.Tuple [a, b] k2 pt2) X.env = pure (some [x, y]) := by rfl)
    (hs : swapsWithSole [.Tuple [.Name x px, .Name y py] kt pt] (.Tuple [a, b] k2 pt2) pos.line X.env = pure false := by rfl) :
    SX X (.Assign [.Tuple [.Name x px, .Name y py] kt pt] (.Tuple [a, b] k2 pt2) pos) (sParNB [i, j] ks) := PS.imp (ps_par hc hN hi hj hij hx hy ha hw hs) fun D σ H h => parWB (is := [i, j]) (fun vs H' hl q => by
    obtain ⟨v, w, rfl⟩ := two_of hl
    exact ⟨v, w, rfl, q⟩) h
theorem sx_parN3 (hc : X.calm = true) (hN : X.N.Nodup) (ha : JX X [a, b, d] ks) (hij : i ≠ j := by decide) (hil : i ≠ k := by decide) (hjl : j ≠ k := by decide) (hi : X.N[i]? = some x := by rfl) (hj : X.N[j]? = some y := by rfl) (hl : X.N[k]? = some z := by rfl)
    (hx : X.env.scope.names.lookup x = some .local := by rfl) (hy : X.env.scope.names.lookup y = some .local := by rfl) (hz : X.env.scope.names.lookup z = some .local := by rfl)
    (hw : swappedStores [.Tuple [.Name x px, .Name y py, .Name z pz] kt pt] (.Tuple [a, b, d] k2 pt2) X.env = pure (some [x, y, z]) := by rfl)
    (hs : swapsWithSole [.Tuple [.Name x px, .Name y py, .Name z pz] kt pt] (.Tuple [a, b, d] k2 pt2) pos.line X.env = pure false := by rfl) :
    SX X (.Assign [.Tuple [.Name x px, .Name y py, .Name z pz] kt pt] (.Tuple [a, b, d] k2 pt2) pos) (sParN [i, j, k] ks) := PS.imp (ps_par3 hc hN hi hj hl hij hil hjl hx hy hz ha hw hs) fun D σ H h => parW (is := [i, j, k]) (fun vs H' hl q => by
    obtain ⟨u, v, w, rfl⟩ := three_of hl
    exact ⟨u, v, w, rfl, q⟩) h
theorem sx_parN3B (hc : X.calm = true) (hN : X.N.Nodup) (ha : JX X [a, b, d] ks) (hij : i ≠ j := by decide) (hil : i ≠ k := by decide) (hjl : j ≠ k := by decide) (hi : X.N[i]? = some x := by rfl) (hj : X.N[j]? = some y := by rfl) (hl : X.N[k]? = some z := by rfl)
    (hx : X.env.scope.names.lookup x = some .local := by rfl) (hy : X.env.scope.names.lookup y = some .local := by rfl) (hz : X.env.scope.names.lookup z = some .local := by rfl)
    (hw : swappedStores [.Tuple [.Name x px, .Name y py, .Name z pz] kt pt] (.Tuple [a, b, d] k2 pt2) X.env = pure (some [x, y, z]) := by rfl)
    (hs : swapsWithSole [.Tuple [.Name x px, .Name y py, .Name z pz] kt pt] (.Tuple [a, b, d] k2 pt2) pos.line X.env = pure false := by rfl) :
    SX X (.Assign [.Tuple [.Name x px, .Name y py, .Name z pz] kt pt] (.Tuple [a, b, d] k2 pt2) pos) (sParNB [i, j, k] ks) := PS.imp (ps_par3 hc hN hi hj hl hij hil hjl hx hy hz ha hw hs) fun D σ H h => parWB (is := [i, j, k]) (fun vs H' hl q => by
    obtain ⟨u, v, w, rfl⟩ := three_of hl
    exact ⟨u, v, w, rfl, q⟩) h
end
/-! by a tuple, taken apart -/
def gAll : List Nat → TGs
  | [] => gNil
  | i :: is => gCons (gName i) (gAll is)
theorem gAll_k : ∀ {is : List Nat} {vs : List V} {σ : L2.St} {H : Hp} {kk : L2.St → Hp → Prop}, vs.length = is.length → kk (setAllV is vs σ) H → gAll is vs σ H kk
  | [], [], _, _, _, _, h => ⟨rfl, h⟩
  | i :: is, v :: vs, _, _, _, hl, h => ⟨v, vs, rfl, gAll_k (is := is) (by simpa using hl) h⟩
theorem Fwd.upH {p : Pn} {F H F1 H1 : Hp} (w : Fwd p F H F1 H1) {q : Addr} (nq : H1 q = none) (o : HO) : Fwd p F H F1 (upd H1 q o) := ⟨w.frz, fun b u h n t => by
    have := w.keep b u h n t
    rw [upd_ne (ne_of_none this nq)]; exact this, w.new, fun b h => by
    by_cases e : b = q
    · subst e; exact w.there _ nq
    · rw [upd_ne e] at h; exact w.there b h⟩
theorem Ok3.upH {p : Pn} {c : Nat} {F H : Hp} (ok : Ok3 p c F H) {q : Addr} (nq : H q = none) (o : HO) : Ok3 p c F (upd H q o) := ⟨fun b u h => by
    rw [upd_ne (ne_of_none (ok.sub b u h) nq)]; exact ok.sub b u h, fun b e => by
    obtain ⟨⟨x, y, z, h, r⟩, n⟩ := ok.pot b e
    exact ⟨⟨x, y, z, by rw [upd_ne (ne_of_none h nq)]; exact h, r⟩, n⟩, ok.tab.ext fun b u h => by rw [upd_ne (ne_of_none h nq)]; exact h, ok.nt⟩
theorem sx_parT {tgs es : List Expr} {is : List Nat} {kt pt k2 pt2} (ha : JX X es ks) (hg : PGs X tgs (gAll is)) (hl16 : is.length ≤ 16777216 := by decide) {n : Nat} (hn : is.length = n := by rfl) (hpg : ∀ g, PGs X tgs g → PG X (.Tuple tgs kt pt) (gTup X.K n g))
    (hs : swapsWithSole [.Tuple tgs kt pt] (.Tuple es k2 pt2) pos.line X.env = pure false := by rfl) (hw : swappedStores [.Tuple tgs kt pt] (.Tuple es k2 pt2) X.env = pure none := by rfl) (h1 : (assignEach [.Tuple tgs kt pt] X.env).map (·.2) = [assign (.Tuple tgs kt pt) X.env] := by rfl) :
    SX X (.Assign [.Tuple tgs kt pt] (.Tuple es k2 pt2) pos) (sParN is ks) := PS.imp (ps_asg (pe_tup ha) (hpg _ hg) hs hw h1) fun D σ H h => by
  obtain ⟨p, c, ρ, F, F0, H0, E, s, h, t⟩ := h
  refine ⟨p, c, _, F, _, s.e, h, fun svs c1 vs F1 H1 w1 ok1 r1 q1 => ?_⟩
  obtain ⟨hl, q⟩ := putAll_is q1
  have hv := r1.len.trans hl
  refine ⟨by rw [hv, line16]; exact hl16, fun a na => ⟨a, vs, rfl, .of upd_same, hv.trans hn, ?_⟩⟩
  refine gAll_k hv (t.nx c1 _ _ F1 _ (SSt.setAll (s.fwd (w1.upH na _) (ok1.upH na _)) (r1.move (fun _ _ h => h) fun b xs h1 h2 h3 => ⟨by rw [upd_ne (ne_of_none h1 na)]; exact h1, h2⟩) s.ent.there s.ownThere) q)
theorem sx_parTB {tgs es : List Expr} {is : List Nat} {kt pt k2 pt2} (ha : JX X es ks) (hg : PGs X tgs (gAll is)) (hl16 : is.length ≤ 16777216 := by decide) {n : Nat} (hn : is.length = n := by rfl) (hpg : ∀ g, PGs X tgs g → PG X (.Tuple tgs kt pt) (gTup X.K n g))
    (hs : swapsWithSole [.Tuple tgs kt pt] (.Tuple es k2 pt2) pos.line X.env = pure false := by rfl) (hw : swappedStores [.Tuple tgs kt pt] (.Tuple es k2 pt2) X.env = pure none := by rfl) (h1 : (assignEach [.Tuple tgs kt pt] X.env).map (·.2) = [assign (.Tuple tgs kt pt) X.env] := by rfl) :
    SX X (.Assign [.Tuple tgs kt pt] (.Tuple es k2 pt2) pos) (sParNB is ks) := PS.imp (ps_asg (pe_tup ha) (hpg _ hg) hs hw h1) fun D σ H h => by
  obtain ⟨p, c, ρ, F, F0, H0, E, s, h, t⟩ := h
  obtain ⟨F2, es, w2, k⟩ := s.lend
  refine ⟨p, c, _, F2, _, es, h, fun svs c1 vs F1 H1 w1 ok1 r1 q1 => ?_⟩
  obtain ⟨hl, q⟩ := putAll_is q1.2
  have hv := r1.len.trans hl
  refine ⟨by rw [hv, line16]; exact hl16, fun a na => ⟨a, vs, rfl, .of upd_same, hv.trans hn, ?_⟩⟩
  obtain ⟨F3, s3, w3, k1, k2, k3⟩ := k c1 F1 _ (w1.upH na (.tup vs)) (ok1.upH na (.tup vs))
  refine gAll_k hv (t.nx c1 _ _ F3 _ (SSt.setAll s3 ((r1.lent k1 k2 k3 q1.1).move (fun _ _ h => h) fun b xs h1 h2 h3 => ⟨by rw [upd_ne (ne_of_none h1 na)]; exact h1, h2⟩) s.ent.there s.ownThere) q)
end
section comp
variable {X : Cx} {tg elt iter : Expr} {ifs : List Expr} {scope : Scope} {own : List (Str × Nat)} {fi : FI} {gg : FG} {is : List Nat} {fe : FE} {ft : FT} {y : Str} {py spos pos : Pos}
/-- x = [..], own lists read within -/
@[simp ↓] def sValFB (i : Nat) (f : FL) : FS := fun E ρ c => f (ρ.map vB) c fun l c => noLstL l = true ∧ E.nx (ρ.set i (.val (.lst l))) c
theorem sx_valBL (i : Nat) (hN0 : X.N.Nodup) (hc : X.calm = true) (hN : X.N.Nodup) (hi : IX X tg iter fi) (ok : BlkOk X.N X.env.scope scope own) {gl : TG}
    (hg : ∀ (s : Shared) (H : Hp) (C : Addr) (cl : List (Str × Addr)) (fp : List Addr), PG (X.blk s H scope (compEnvC scope cl C X.env) fp) tg gl) (kg : KG X.K is gg gl)
    {t : TT} (ht : ∀ (s : Shared) (H : Hp) (C : Addr) (cl : List (Str × Addr)) (fp : List Addr), PTs (X.blk s H scope (compEnvC scope cl C X.env) fp) ifs t) (kt : KT3 X.K ft t)
    (he : ∀ (s : Shared) (H : Hp) (C : Addr) (cl : List (Str × Addr)) (fp : List Addr), EX (X.blk s H scope (compEnvC scope cl C X.env) fp) elt fe)
    (his : ∀ j ∈ is, j ∈ own.map (·.2)) (hs : ∀ x, foldedSetIterable iter X.env x = pure x := by intro _; rfl) (hy : X.N[i]? = some y := by rfl) (hyl : X.env.scope.names.lookup y = some .local := by rfl)
    (hsw : swapsWith (.ListComp elt [⟨tg, iter, ifs, 0⟩] scope pos) (some (.Name y py)) spos.line X.env = pure true := by exact sw_true rfl rfl rfl (by decide +kernel)) :
    SX X (.Assign [.Name y py] (.ListComp elt [⟨tg, iter, ifs, 0⟩] scope pos) spos) (sValFB i (fComp fi gg ft fe (own.map (·.2)))) :=
  PS.imp (ps_setC i hN0 hc hN hi ok hg kg ht kt he his hs hy hyl hsw) fun D σ H ⟨p, c, ρ, F, F0, H0, E, s, h, t⟩ => by
    obtain ⟨F2, es, w2, k⟩ := s.lend
    refine ⟨p, c, _, F2, _, es, h, fun l c1 a xs F1 H1 w1 ok1 n1 n2 n3 h1 r1 q1 => ?_⟩
    obtain ⟨F3, s3, w3, _, k2, k3⟩ := k c1 F1 H1 w1 ok1
    obtain ⟨F', w', ok', r'⟩ := own_frz w3 s3.ok n1 (k3 a n2) n3 h1 (k2 l xs q1.1 r1)
    exact t.nx c1 _ _ F' H1 ((s.fwd w' ok').set i r') q1.2
end comp
end L3

set_option maxHeartbeats 4000000
/-! L3G: sorted(set(l)) of a list of ints of any length; x[e] -= v. -/
namespace L2
open PySem PySem.Spec PyProof.Rows PySem.Calls PySem.W
section
variable {P : Program} {w : World} {A : Around} {E : Value → Shared → Prop} {s : Shared} {a : Addr}
theorem set_of_list {l : Addr} {items : Array Value} (ns : List Int) {Q : Value → Shared → Prop} (hh : A.handled = none) (hl : s.heap.IsList l items) (hit : IntsAre items.toList ns) (hb : ns.length + 1 < scanBound)
    (h : ∀ (h' : Heap) (tk c : Nat), SetR w h' s.heap.objs.size (fun j => decide (j ∈ ns)) c → c ≤ ns.length → (∀ b o, s.heap.get? b = some o → h'.get? b = some o) → Q (.ref s.heap.objs.size) { s with heap := h', toks := tk }) :
    wpAny (model P w) A (call (.type "set") [.ref l]) Q E s := by
  have hisz : items.size = ns.length := by
    have q := IntsAre.length hit
    rw [Array.length_toList] at q
    exact q
  obtain ⟨c, tl, hmro⟩ := F.called_set.mro
  have hmade := F.called_set.made
  have hsub := F.called_set.sub
  refine wpAny_call (codeAny_of_tree ?_)
  show wpAny _ _ (callAny (.type "set") _) _ _ _
  refine wpAny_pure ⟨Code.quiet_builtin _ (by decide +kernel), codeAny_builtin F.entry_type_call ?_⟩
  rw [Around.under_plain (weight_type_call_type "set" [.ref l] []) rfl]
  have h1 := F.called_set.notType
  have h2 := F.called_set.canCreate
  have hct := F.typeCall_set_1 (.ref l)
  repeat (any_goals (first | assumption | wp_step))

  refine codeAny_mono (code_set_led1 (.ref l) (E := E) (Q₁ := fun obj s₁ => obj = .ref s.heap.objs.size ∧ s₁ = { s with heap := s.heap.push { cls := .type "set", dict := none, data := .set #[] 0 (.fresh 0 0 (!w.params.followText "set-order")) } }) ⟨rfl, rfl⟩) fun r s₁ hr => ?_
  cases r with
  | error e => exact hr
  | ok fl =>
    cases fl with
    | ret obj =>
      obtain ⟨rfl, rfl⟩ := hr
      have hS : (s.heap.push { cls := .type "set", dict := none, data := .set #[] 0 (.fresh 0 0 (!w.params.followText "set-order")) }).get? s.heap.objs.size = some { cls := .type "set", dict := none, data := .set #[] 0 (.fresh 0 0 (!w.params.followText "set-order")) } := Heap.get?_push_size _ rfl
      have hT : Shared.TypeIs { s with heap := s.heap.push { cls := .type "set", dict := none, data := .set #[] 0 (.fresh 0 0 (!w.params.followText "set-order")) } } (.ref s.heap.objs.size) "set" := ⟨_, hS, rfl⟩
      have hli := F.called_set.init.lookup
      have hbi := F.called_set.init.bind (.ref s.heap.objs.size)
      repeat (any_goals (first | assumption | wp_step))

      refine codeAny_mono (codeAny_call_builtin (R := wants (fun r s₂ => r = .none ∧ ∃ h' tk c, s₂ = { s with heap := h', toks := tk } ∧ SetR w h' s.heap.objs.size (fun j => decide (j ∈ ns)) c ∧ c ≤ ns.length ∧
          (∀ b o, s.heap.get? b = some o → h'.get? b = some o)) E) F.called_set.init.plain F.entry_set_init (check_set_init_1 hT ?_)) fun r₂ s₂ hr₂ => ?_
      · obtain ⟨ol, hol, hcl, nl, hdl⟩ := hl
        obtain ⟨ocls, odict, odata, oslots⟩ := ol
        simp only at hcl hdl
        subst hcl; subst hdl
        have hol' : (s.heap.push { cls := .type "set", dict := none, data := .set #[] 0 (.fresh 0 0 (!w.params.followText "set-order")) }).get? l = some { cls := .type "list", dict := odict, data := .seq items nl, slots := oslots } := Heap.get?_push_of_some _ hol
        have hsls := F.sub_list_set
        have hslf := F.sub_list_frozenset
        have hne : (Value.type "list" == Value.type "dict") = false := by decide
        have hl1 : (s.heap.push { cls := .type "set", dict := none, data := .set #[] 0 (.fresh 0 0 (!w.params.followText "set-order")) }).IsList l items := ⟨_, hol', rfl, nl, rfl⟩
        unfold Builtin.«set.__init__» noKeywords Builtin.Frozenset.updateFrom
        generalize hPI : pyIter = PI
        wp_walk
        subst hPI

        refine wpAny_pyIter_list hl1 ?_
        refine wpAny_bind (wpAny_runValue ?_)
        have hlS : l < s.heap.objs.size := Heap.lt_size hol
        have hh3 : A.in1.in1.in1.handled = none := by simp [hh]
        have hz1 : (s.heap.push { cls := .type "set", dict := none, data := .set #[] 0 (.fresh 0 0 (!w.params.followText "set-order")) }).objs.size = s.heap.objs.size + 1 := Heap.size_push ..
        have hneI : l ≠ (s.heap.push { cls := .type "set", dict := none, data := .set #[] 0 (.fresh 0 0 (!w.params.followText "set-order")) }).objs.size := by
          rw [Heap.size_push]; exact Nat.ne_of_lt (Nat.lt_succ_of_lt hlS)
        have hSf : s.heap.objs.size ∉ [(s.heap.push { cls := .type "set", dict := none, data := .set #[] 0 (.fresh 0 0 (!w.params.followText "set-order")) }).objs.size, l] := by
          rw [Heap.size_push]; simp only [List.mem_cons, List.mem_singleton, List.not_mem_nil, or_false, not_or]
          exact ⟨Nat.ne_of_lt (Nat.lt_succ_self _), Nat.ne_of_gt hlS⟩
        have hval : ∀ (i : Nat) (v : Value), items[i]? = some v → ∃ k t, ns[i]? = some k ∧ v = .int k t := fun i v hv => by
          have hi : i < ns.length := by rw [← hisz]; exact (Array.getElem?_eq_some_iff.mp hv).1
          obtain ⟨t, e⟩ := PyProof.Rows.IntsAre.int_at hit i v (by rw [Array.getElem?_toList]; exact hv)
          refine ⟨ns[i], t, List.getElem?_eq_getElem hi, ?_⟩
          rw [e, List.getD_eq_getElem?_getD, List.getElem?_eq_getElem hi] <;> rfl
        refine set_update_ints ((Walks.list hh3 _ l hneI items).toS) s.heap.objs.size
          hSf ns hisz hb hval (items.size - 0) 0 _ (by omega) (Nat.zero_le _)
          ⟨⟨_, Heap.get?_push_size _ rfl, rfl, rfl⟩, (hl1.push _)⟩ ?hS0 ?hR
        case hS0 =>
          have hget : ((s.heap.push { cls := .type "set", dict := none, data := .set #[] 0 (.fresh 0 0 (!w.params.followText "set-order")) }).push { cls := .type "list_iterator", data := .fields #[.ref l, .int 0 0] }).get? s.heap.objs.size
              = some { cls := .type "set", dict := none, data := .set #[] 0 (.fresh 0 0 (!w.params.followText "set-order")) } := Heap.get?_push_of_some _ hS
          exact ⟨0, Nat.le_refl 0, setR_new_at hget⟩
        case hR =>
          intro s' c' hm hc' hS'
          obtain ⟨h', g2, d', tk', os'⟩ := s'
          have eg : g2 = s.gens := hm.gens
          have ed : d' = s.drawn := hm.drawn
          have eo : os' = s.os := hm.os
          subst eg; subst ed; subst eo
          show wpAny _ _ _ _ _ _
          refine wpAny_pure ?_
          show wpAny _ _ (ret Value.none) _ _ _
          rw [hisz] at hc'
          refine wpAny_pure ⟨rfl, h', tk', c', rfl, hS', hc', fun b o e => ?_⟩
          have hb0 : b < s.heap.objs.size := Heap.lt_size e
          have hb1 : b ≠ s.heap.objs.size := Nat.ne_of_lt hb0
          have hb2 : b ≠ (s.heap.push { cls := .type "set", dict := none, data := .set #[] 0 (.fresh 0 0 (!w.params.followText "set-order")) }).objs.size := by
            rw [Heap.size_push]; exact Nat.ne_of_lt (Nat.lt_succ_of_lt hb0)
          exact hm.heap b o (by simp only [List.mem_cons, List.mem_singleton, List.not_mem_nil, or_false, not_or]; exact ⟨hb1, hb2⟩) (Heap.get?_push_of_some _ (Heap.get?_push_of_some _ e))

      · cases r₂ with
        | error e => exact hr₂
        | ok fl₂ =>
          cases fl₂ with
          | ret r =>
            obtain ⟨rfl, h', tk, c', rfl, hS', hc', hk'⟩ := hr₂
            repeat (any_goals (first | assumption | wp_step))
            exact h _ _ _ hS' hc' hk'
          | _ => exact hr₂.elim
    | _ => exact hr.elim

theorem sorted_of_set {S : Int → Bool} {n : Nat} {Q : Value → Shared → Prop} (R : SetR w s.heap a S n) (hh : A.handled = none) (h64 : n < scanBound)
    (hQ : ∀ s' p (out : Array Value) (c : Nat) (ns : List Int), (∀ b o, s.heap.get? b = some o → s'.heap.get? b = some o) → s'.gens = s.gens → s'.os = s.os → s.heap.objs.size ≤ p →
      s'.heap.get? p = some (seqObj "list" out c) → IntsAre out.toList ns → ns.Pairwise (· < ·) → (∀ k, k ∈ ns ↔ S k = true) → ns.length = n → Q (.ref p) s') :
    wpAny (model P w) A (call (.builtin "sorted") [.ref a]) Q E s := by
  obtain ⟨o, es, ep, t, ho, hex, hd, g, nd, hm, hb, hf, hn, hr, hl⟩ := R
  refine Calls.call_function_entry kind_sorted plain_sorted entry_sorted (args_sorted1 _) ?_
  unfold Builtin.«sorted»
  refine wpAny_bind (m := checkCount "sorted" 1 1 _) (wpAny_pure ?_)
  refine wpAny_bind (collect_set (A := A.in1) hh ⟨o, ho, hex.1, hd⟩ hf hb hr hl fun s1 vs k1 hz g1 o1 pm => ?_)
  have hvl : vs.length = n := by rw [pm.length_eq, List.length_map, Array.length_toList]; exact hn
  have hI : IntsAre vs (vs.map Builtin.Re.reRawOf) := ints_of vs fun v hv => by
    obtain ⟨e, he, q⟩ := List.mem_map.mp (pm.mem_iff.mp hv)
    obtain ⟨k, tk, h1, _⟩ := g e he
    exact ⟨k, tk, by rw [← q]; exact h1⟩
  have pk : (vs.map Builtin.Re.reRawOf).Perm (es.toList.map keyOf) := by
    have q := pm.map Builtin.Re.reRawOf
    rw [List.map_map] at q
    exact q
  refine wpAny_bind (wpAny_newList ?_ (by rw [hvl, sizeLine_eq]; unfold scanBound at h64; omega))
  have hoL : (s1.heap.push (seqObj "list" vs.toArray 0)).get? s1.heap.objs.size = some (seqObj "list" vs.toArray 0) := Heap.get?_push_size _ rfl
  refine wpAny_bind (wpAny_holding (wpAny_call_entry slot_list_sort ⟨_, hoL, rfl⟩ entry_list_sort (SrtO.list_sort_ord SrtO.swo_int hoL (by rw [hvl, sizeLine_eq]; unfold scanBound at h64; omega) (fun h2 => SrtO.ints_sortable hI h2) fun out h1 h2 => ⟨_, rfl, ?_⟩) (args_list_sort _)))
  obtain ⟨a1, a2, a3⟩ := SrtO.ints_out hI h1 h2
  obtain ⟨c, hc⟩ := sortedHeap_at (vs := vs) (out := out.toArray) hoL
  have pn : (out.map SrtO.iv).Perm (es.toList.map keyOf) := a2.trans pk
  refine wpAny_pure ⟨_, rfl, hQ _ s1.heap.objs.size out.toArray c (out.map SrtO.iv) (fun b u e => ?_) g1 o1 hz hc a1 (lt_of_le_nodup _ a3 (pn.nodup_iff.mpr nd)) (fun k => by rw [pn.mem_iff, ← hm k]) ?_⟩
  · have q := k1 b u e
    have hlt := Heap.lt_size q
    show (sortedHeap (s1.heap.push (seqObj "list" vs.toArray 0)) s1.heap.objs.size vs out.toArray).get? b = some u
    rw [sortedHeap_old (Nat.ne_of_lt hlt) (by rw [size_push']; exact Nat.lt_succ_of_lt hlt)]
    exact Heap.get?_push_of_some _ q
  · rw [pn.length_eq, List.length_map, Array.length_toList]; exact hn
end
end L2

set_option maxHeartbeats 2000000
/-! L3O: sorted(set(l)), x[e] -= v as readings. -/
namespace L3
open PySem PySem.Spec PyProof.Rows L2
section
variable {K : PySem.W.Frag} {X : Cx} {e a b : Expr} {es : List Expr} {fa fb : FE} {fr : FA} {f f2 : FL} {pos : Pos}
/-- x[e] -= v -/
@[simp ↓] def sAugM (i : Nat) (fi fe : FE) : FS := fun E ρ c => match ρ[i]? with
  | some (.own l) => fi (ρ.map vB) c fun d c => match d with
    | .int k => (0 ≤ k ∧ k < l.length) ∧ match l[k.toNat]? with
      | some (.int x) => fe (ρ.map vB) c fun y c => match y with
        | .int y => E.nx (ρ.set i (.own (l.set k.toNat (.int (x - y))))) c
        | _ => False
      | _ => False
    | _ => False
  | _ => False
theorem sx_augM {st : Stmt} (i : Nat) (h : PS X st (tAugS (tVar i) (tE X.K fa) (tE X.K fb) (rGetN X.K) (ipI fun i j => i - j) rSetL)) : SX X st (sAugM i fa fb) := PS.imp h fun D σ H ⟨p, c, ρ, F, F0, H0, E, s, h, t⟩ => by
  unfold sAugM at h
  split at h
  · rename_i l hi
    obtain ⟨a, xs, e1, e2, e3, e4, e5, r0⟩ := s.own i l hi
    obtain ⟨F2, es, w2, k⟩ := s.lend
    refine ⟨_, e1, p, c, _, F2, _, es, h, fun d c1 v F1 H1 w1 ok1 r1 q1 => ?_⟩
    obtain ⟨F3, s1, w3, k1, k2, _⟩ := k c1 F1 H1 w1 ok1
    obtain ⟨a', xs', g1, g2, g3, g4, g5, r0'⟩ := s1.own i l hi
    rw [e1] at g1
    cases g1
    split at q1
    · rename_i j
      cases (show v = .int j from r1)
      obtain ⟨⟨j0, j1⟩, q⟩ := q1
      split at q
      · rename_i z hz
        obtain ⟨v, hv, rv⟩ := RepL.at' r0' hz
        cases (show v = .int z from rv)
        refine ⟨a, xs', j, .int z, rfl, rfl, .inl (.inl g2), j0, hv, p, c1, _, F1, _, es.fwd w1 ok1, q, fun y c4 u F4 H4 w4 ok4 r4 q4 => ?_⟩
        obtain ⟨F5, s2, w5, k3, k4, _⟩ := k c4 F4 H4 (w1.trans w4) ok4
        obtain ⟨a2, xs2, y1, y2, y3, y4, y5, r2⟩ := s2.own i l hi
        rw [e1] at y1
        cases y1
        split at q4
        · rename_i m
          cases (show u = .int m from r4)
          refine ⟨z, m, rfl, rfl, a, xs2, j, j.toNat, rfl, rfl, y2, by rw [r2.len]; unfold ixN; rw [if_pos j0, if_pos j1], t.nx c4 _ _ F5 _ (s2.put hi e1 (RepL.set (show Rep X.K p F5 (.int (z - m)) (.int (z - m)) from rfl) _ r2)) q4⟩
        · exact q4.elim
      · exact q.elim
    · exact q1.elim
  · exact h.elim
/-- sorted(set(l)), l a list of ints -/
@[simp ↓] def fSortSetL (fa : FE) : FL := fun ρ c Q => fa ρ c fun x c => match x with
  | .lst l => ∃ ns, intsOf l = some ns ∧ ns.length ≤ 4000 ∧ ∀ m : List Int, m.Pairwise (· < ·) → (∀ k, k ∈ m ↔ k ∈ ns) → Q (m.map .int) c
  | _ => False
def tSortSetL (K : PySem.W.Frag) (ta : TE) : TE := fun σ H Q => ta σ H fun x H1 => ∃ (l : Addr) (ns : List Int), x = .ref l ∧ SqL K H1 l (ns.map V.int) ∧ ns.length ≤ 4000 ∧ ∀ (m : List Int) (q : Addr), m.Pairwise (· < ·) → (∀ k, k ∈ m ↔ k ∈ ns) → H1 q = none → Q (.ref q) (upd H1 q (.lst (m.map V.int)))
theorem pe_sortSetL {a : Expr} {ta : TE} {p p2 q pos : Pos} (hg : Gl X "sorted") (hm : X.mg "sorted" = none) (hg2 : Gl X "set") (hm2 : X.mg "set" = none) (ha : PE X a ta) (hc : X.calm = true := by rfl)
    (na : starEach [a] X.env = (false, eval a X.env) :: starEach [] X.env := by rfl) : PE X (.Call (.Name "sorted" p) [.Call (.Name "set" p2) [a] [] q] [] pos) (tSortSetL X.K ta) := by
  refine ⟨fun pins s σ H Q I h => ?_⟩
  refine Call_ (ld_blt I hg hm (by decide +kernel : bootBuiltins "sorted" = some (.builtin "sorted")) ?_)
  refine PyProof.Rows.callWith_builtin1 (PyProof.Rows.args_cons ?_ rfl) rfl rfl
  refine Call_ (ld_blt I hg2 hm2 (by decide +kernel : bootBuiltins "set" = some (.type "set")) ?_)
  refine PyProof.Rows.callWith_type1 (PyProof.Rows.args_cons (thn (ha.run pins s σ H _ I h) fun v s1 ⟨x, H1, I1, r1, q1⟩ => PyProof.Rows.args_nil ?_) na) na rfl
  obtain ⟨l, ns, rfl, hq, hl, q1⟩ := q1
  cases r1
  obtain ⟨its, r, pl, hz⟩ := I1.list hq
  have hi : IntsAre its.toArray.toList ns := by simpa using RZ.intsAre_vals r
  refine set_of_list ns (I1.ok.hd hc) pl.isList hi (by unfold scanBound; omega) fun h' tk c R1 hcn k => ?_
  refine PyProof.Rows.args_nil ?_
  have I2 : Inv X pins σ H1 { s1 with heap := h', toks := tk } := I1.kept fun b o e => k b o e
  refine sorted_of_set (s := { s1 with heap := h', toks := tk }) R1 (I1.ok.hd hc) (by unfold scanBound; omega) fun s' p' out c' ms k2 g o hp hgo hI hs hmm hl2 => ?_
  have hlen : (ms.map V.int).length ≤ sizeLine := by rw [List.length_map, hl2, sizeLine_eq]; omega
  have hn : H1 p' = none := I2.hok.fresh hp
  have J : Inv X pins σ (upd H1 p' (.lst (ms.map V.int))) { s1 with heap := s'.heap, gens := s'.gens, drawn := s'.drawn, toks := s'.toks } :=
    L2.Inv.call (s := { s1 with heap := h', toks := tk }) I2 (ch := []) (Un.laid k2 hp hn) (I2.hok.laid k2 hp ⟨hlen, out.toList, c', vals_of_ints hI, hgo⟩) (by rw [g]; exact I2.bare) (fun _ z => nomatch z)
  have e : s' = { s1 with heap := s'.heap, gens := s'.gens, drawn := s'.drawn, toks := s'.toks } := by
    cases s'
    cases s1
    cases o
    rfl
  rw [e]
  exact ⟨.ref p', _, J, rfl, q1 ms p' hs (fun z => (hmm z).trans decide_eq_true_iff) hn⟩
theorem fx_sortSetL {e : Expr} {p p2 q pos : Pos} (hm : X.mg "sorted" = none) (hm2 : X.mg "set" = none) (ha : EX X e fa) (hg : Gl X "sorted" := by rfl) (hg2 : Gl X "set" := by rfl) (hc : X.calm = true := by rfl) (na : starEach [e] X.env = (false, eval e X.env) :: starEach [] X.env := by rfl) :
    FX X (.Call (.Name "sorted" p) [.Call (.Name "set" p2) [e] [] q] [] pos) (fSortSetL fa) := PE.imp (pe_sortSetL hg hm hg2 hm2 ha hc na) fun σ H Q ⟨p, c, ρ, F, Q', es, h, t⟩ =>
  ⟨p, c, ρ, F, _, es, h, fun d c1 v F1 H1 w1 ok1 r1 q1 => by
    split at q1
    · obtain ⟨b, xs, rfl, h1, rl⟩ := r1
      obtain ⟨ns, e1, hl, q⟩ := q1
      refine ⟨b, ns, rfl, by rw [← RepL.ints rl e1]; exact .of (ok1.sub _ _ h1), hl, fun m a hp hs nq => ?_⟩
      obtain ⟨w, ok, n1, n2, n3⟩ := layL w1 ok1 nq (m.map V.int)
      exact t _ c1 a _ F1 _ w ok n1 n2 n3 upd_same (rep_ints m) (q m hp hs)
    · exact q1.elim⟩
/-- sum(t), t a list or a tuple of ints -/
def rSumT (K : PySem.W.Frag) : List V → Hp → VK → Prop := fun vs H Q => ∃ (a : Addr) (ns : List Int), vs = [V.ref a] ∧ SqT K H a (ns.map V.int) ∧ Q (.int ns.sum) H
theorem cr_sumT (hc : X.calm = true) : CallR X (.builtin "sum") (rSumT X.K) := by
  intro pins s σ H vs us Q I r h
  obtain ⟨a, ns, rfl, hs, q⟩ := h
  obtain ⟨its, rv, hl, _⟩ := I.tuple hs
  rw [Vals.ref1 r]
  have hi := rv.ints
  obtain ⟨xs, e⟩ := hi.allInts.items
  have hn : numsOf (intItems xs).toList = ns := by rw [← e]; exact hi.numsOf
  rw [nums_intItems] at hn
  have hl : s.heap.IsTuple a its.toArray := hl
  rw [e] at hl
  refine PySem.W.ktm_sumG (I.ok.hd hc) hl fun h' tk t' hk => ?_
  rw [preSum_eq, List.take_of_length_le (by simp), hn]
  exact ⟨.int _, H, I.kept hk, ⟨_, rfl⟩, q⟩
theorem cr_sum2 (hc : X.calm = true) : CallR X (.builtin "sum") fun vs H Q => rSum X.K vs H Q ∨ rSumT X.K vs H Q := CallR.or (cr_sum hc) (cr_sumT hc)
@[simp ↓] def sum2M : FM := fun l c Q => match l with
  | [.lst m] => (match intsOf m with | some ns => Q (.int ns.sum) c | none => False)
  | [.tup m] => (match intsOf m with | some ns => Q (.int ns.sum) c | none => False)
  | _ => False
theorem sum2S : CallS K (fun vs H Q => rSum K vs H Q ∨ rSumT K vs H Q) sum2M := by
  intro p c F H l vs Q' Q ok r h t
  unfold sum2M at h
  split at h
  · split at h
    · rename_i bs e
      obtain ⟨v, rfl, a, xs, rfl, h1, r1⟩ := r.one
      exact .inl ⟨a, bs, rfl, by rw [← r1.ints e]; exact ok_lst ok h1, tellI ok t h⟩
    · exact h.elim
  · split at h
    · rename_i bs e
      obtain ⟨v, rfl, a, xs, rfl, h1, r1⟩ := r.one
      exact .inr ⟨a, bs, rfl, by rw [← r1.ints e]; exact ok.sqT h1, tellI ok t h⟩
    · exact h.elim
  · exact h.elim
/-- x[i] = e, i also from the end -/
@[simp ↓] def sSetN (i : Nat) (fe fi : FE) : FS := fun E ρ c => match ρ[i]? with
  | some (.own l) => fe (ρ.map vB) c fun y c => fi (ρ.map vB) c fun d c => match d with
    | .int k => (match ixN l.length k with
      | some j => noLst y = true ∧ E.nx (ρ.set i (.own (l.set j y))) c
      | none => False)
    | _ => False
  | _ => False
theorem sx_setN {st : Stmt} (i : Nat) (h : PS X st (tAsg (tE X.K fa) (gSub (tVar i) (tE X.K fb) rSetL))) : SX X st (sSetN i fa fb) := PS.imp h fun D σ H ⟨p, c, ρ, F, F0, H0, E, s, h, t⟩ => by
  unfold sSetN at h
  split at h
  · rename_i l hi
    obtain ⟨a, xs, e1, e2, e3, e4, e5, r0⟩ := s.own i l hi
    obtain ⟨F2, es, w2, k⟩ := s.lend
    refine ⟨p, c, _, F2, _, es, h, fun y c1 v F1 H1 w1 ok1 r1 q1 => ⟨_, e1, p, c1, _, F1, _, es.fwd w1 ok1, q1, fun d c4 u F4 H4 w4 ok4 r4 q4 => ?_⟩⟩
    obtain ⟨F3, s1, w3, k1, k2, _⟩ := k c4 F4 H4 (w1.trans w4) ok4
    obtain ⟨a', xs', g1, g2, g3, g4, g5, r0'⟩ := s1.own i l hi
    rw [e1] at g1
    cases g1
    split at q4
    · rename_i j
      cases (show u = .int j from r4)
      split at q4
      · rename_i k hk
        obtain ⟨nl, q⟩ := q4
        exact ⟨a, xs', j, k, rfl, rfl, g2, by rw [r0'.len]; exact hk, t.nx c4 _ _ F3 _ (s1.put hi e1 (RepL.set (k1 _ _ nl (r1.mono w4.frz)) _ r0')) q⟩
      · exact q4.elim
    · exact q4.elim
  · exact h.elim
end
end L3

set_option maxHeartbeats 2000000
/-! L3A: dicts of a def's own, their keys ints or texts. -/
namespace L3
open PySem PySem.Spec PyProof.Rows L2
def keyD : D → Option Key
  | .int i => some (.inl i)
  | .str x => some (.inr x)
  | _ => none
def hasK (ks : List Key) (k : Key) : Bool := ks.any fun a => decide (a = k)
def putKs (ks : List Key) (k : Key) : List Key := if hasK ks k = true then ks else ks ++ [k]
def putDs (ks : List Key) (l : List D) (k : Key) (d : D) : List D := if hasK ks k = true then List.zipWith (fun a x => if a = k then d else x) ks l else l ++ [d]
def getDs : List Key → List D → Key → Option D
  | a :: r, x :: l, k => if a = k then some x else getDs r l k
  | _, _, _ => none
section
variable {K : PySem.W.Frag} {p : Pn} {F : Hp}
theorem Rep.key {d : D} {v : V} {k : Key} (r : Rep K p F d v) (e : keyD d = some k) : v = kV k := by
  cases d <;> cases e
  · exact r
  · exact r
theorem rep_getD : ∀ {kvs : List (Key × V)} {l : List D} {k : Key} {d : D}, RepL K p F l (kvs.map (·.2)) → getDs (kvs.map (·.1)) l k = some d → ∃ v, valV kvs k = some v ∧ Rep K p F d v
  | [], l, k, d, _, e => by cases l <;> cases e
  | kv :: kvs, [], k, d, r, e => by cases e
  | kv :: kvs, x :: l, k, d, r, e => by
    obtain ⟨v, w, e1, r1, r2⟩ := r
    cases e1
    by_cases h : kv.1 = k
    · have e : (if kv.1 = k then some x else getDs (kvs.map (·.1)) l k) = some d := e
      rw [if_pos h] at e
      cases e
      exact ⟨kv.2, valV_pos h, r1⟩
    · have e : (if kv.1 = k then some x else getDs (kvs.map (·.1)) l k) = some d := e
      rw [if_neg h] at e
      obtain ⟨v, g1, g2⟩ := rep_getD r2 e
      exact ⟨v, (valV_neg h).trans g1, g2⟩
theorem any_mem (k : Key) : ∀ kvs : List (Key × V), (kvs.any fun kv => decide (kv.1 = k)) = hasK (kvs.map (·.1)) k
  | [] => rfl
  | kv :: kvs => by
    show (decide (kv.1 = k) || kvs.any fun kv => decide (kv.1 = k)) = (decide (kv.1 = k) || hasK (kvs.map (·.1)) k)
    rw [any_mem k kvs]
theorem rep_putD {kvs : List (Key × V)} {l : List D} {k : Key} {d : D} {v : V} (r : RepL K p F l (kvs.map (·.2))) (rd : Rep K p F d v) : (putK kvs k v).map (·.1) = putKs (kvs.map (·.1)) k ∧ RepL K p F (putDs (kvs.map (·.1)) l k d) ((putK kvs k v).map (·.2)) := by
  unfold putK putKs putDs
  rw [any_mem]
  by_cases h : hasK (kvs.map (·.1)) k = true
  · rw [if_pos h, if_pos h, if_pos h]
    clear h
    constructor
    · rw [List.map_map]
      refine List.map_congr_left fun kv _ => ?_
      show (if kv.1 = k then (kv.1, v) else kv).1 = kv.1
      split <;> rfl
    · induction kvs generalizing l with
      | nil => cases l with
        | nil => exact rfl
        | cons x l => obtain ⟨_, _, e, _⟩ := r; cases e
      | cons kv kvs ih =>
        cases l with
        | nil => cases (show _ = _ from r)
        | cons x l =>
          obtain ⟨y, w, e, r1, r2⟩ := r
          cases e
          refine ⟨_, _, rfl, ?_, ih r2⟩
          show Rep K p F (if kv.1 = k then d else x) (if kv.1 = k then (kv.1, v) else kv).2
          split
          · exact rd
          · exact r1
  · rw [if_neg h, if_neg h, if_neg h, List.map_append, List.map_append]
    exact ⟨rfl, r.app ⟨v, [], rfl, rd, rfl⟩⟩
end
section
variable {K : PySem.W.Frag} {p : Pn} {c c' : Nat} {ρ : Env3} {σ : L2.St} {F H F0 H0 F' H' : Hp}
/-- a new dict of its own -/
theorem SSt.setDic (s : SSt K p c ρ σ F H F0 H0) (i : Nat) {ks : List Key} {l : List D} {a : Addr} {kvs : List (Key × V)} (h1 : H a = some (.dK kvs)) (h2 : F a = none) (h3 : H0 a = none) (h4 : p.pot ≠ some a) (hk : kvs.map (·.1) = ks) (r : RepL K p F l (kvs.map (·.2)))
    (h5 : ∀ (j : Nat) (ks : List Key) (m : List D), j ≠ i → ρ[j]? = some (SV.dic ks m) → σ[j]? ≠ some (some (V.ref a))) : SSt K p c (ρ.set i (SV.dic ks l)) (σ.set i (some (.ref a))) F H F0 H0 where
  ok := s.ok
  ent := s.ent
  len := by rw [List.length_set, List.length_set, s.len]
  val := fun j d' e => by
    rcases set_get e with ⟨rfl, hl, q⟩ | ⟨n, q⟩
    · cases q
    · rw [List.getElem?_set_ne (Ne.symm n)]
      exact s.val j d' q
  own := fun j l e => by
    rcases set_get e with ⟨rfl, hl, q⟩ | ⟨n, q⟩
    · cases q
    · rw [List.getElem?_set_ne (Ne.symm n)]
      exact s.own j l q
  sep := fun j k l m a e1 e2 e3 e4 => by
    rcases set_get e1 with ⟨rfl, hl, q⟩ | ⟨n, q⟩
    · cases q
    rcases set_get e2 with ⟨rfl, hl, q2⟩ | ⟨n2, q2⟩
    · cases q2
    rw [List.getElem?_set_ne (Ne.symm n)] at e3
    rw [List.getElem?_set_ne (Ne.symm n2)] at e4
    exact s.sep j k l m a q q2 e3 e4
  dic := fun j ks' l' e => by
    rcases set_get e with ⟨rfl, hl, q⟩ | ⟨n, q⟩
    · cases q
      exact ⟨a, kvs, List.getElem?_set_self (by rw [← s.len]; exact hl), h1, h2, h3, h4, hk, r⟩
    · rw [List.getElem?_set_ne (Ne.symm n)]
      exact s.dic j ks' l' q
  sepd := fun j k ks1 ks2 l m b e1 e2 e3 e4 => by
    rcases set_get e1 with ⟨rfl, hl, q⟩ | ⟨n, q⟩
    · rcases set_get e2 with ⟨rfl, hl, q2⟩ | ⟨n2, q2⟩
      · rfl
      · rw [List.getElem?_set_self (by rw [← s.len]; exact hl)] at e3
        rw [List.getElem?_set_ne (Ne.symm n2)] at e4
        cases e3
        exact absurd e4 (h5 k ks2 m n2 q2)
    · rw [List.getElem?_set_ne (Ne.symm n)] at e3
      rcases set_get e2 with ⟨rfl, hl, q2⟩ | ⟨n2, q2⟩
      · rw [List.getElem?_set_self (by rw [← s.len]; exact hl)] at e4
        cases e4
        exact absurd e3 (h5 j ks1 l n q)
      · rw [List.getElem?_set_ne (Ne.symm n2)] at e4
        exact s.sepd j k ks1 ks2 l m b q q2 e3 e4
theorem tabs_putD {p : Pn} {H : Hp} {a : Addr} {xs ys : List (Key × V)} (t : Tab3 p H) (h : H a = some (.dK xs)) : Tab3 p (upd H a (.dK ys)) := ⟨fun q hq => by
  obtain ⟨ps, h1, h2, h3⟩ := t.tabs q hq
  refine ⟨ps, by rw [upd_ne (ne_of h1 h (fun z => nomatch z))]; exact h1, h2, fun pos cv hc => ?_⟩
  obtain ⟨c, e1, e2⟩ := h3 pos cv hc
  exact ⟨c, e1, by rw [upd_ne (ne_of e2 h (fun z => nomatch z))]; exact e2⟩, fun q hq => by
  have e2 := t.cod q hq
  rw [upd_ne (ne_of e2 h (fun z => nomatch z))]; exact e2⟩
/-- an own dict is changed -/
theorem SSt.putDic (s : SSt K p c ρ σ F H F0 H0) {i : Nat} {ks ks' : List Key} {l l' : List D} {a : Addr} {kvs' : List (Key × V)} (hi : ρ[i]? = some (SV.dic ks l)) (ha : σ[i]? = some (some (V.ref a))) (hk : kvs'.map (·.1) = ks') (r : RepL K p F l' (kvs'.map (·.2))) :
    SSt K p c (ρ.set i (SV.dic ks' l')) σ F (upd H a (.dK kvs')) F0 H0 := by
  obtain ⟨a', xs, e1, e2, e3, e4, e5, e6, r0⟩ := s.dic i ks l hi
  rw [ha] at e1
  cases e1
  have neF : ∀ b o, F b = some o → b ≠ a := fun b o h => ne_of_none h e3
  refine ⟨⟨fun b o h => by rw [upd_ne (neF b o h)]; exact s.ok.sub b o h, fun b hb => ?_, tabs_putD s.ok.tab e2, s.ok.nt⟩, ⟨s.ent.frz, fun b o h n t => by rw [upd_ne (ne_of_none h e4)]; exact s.ent.keep b o h n t, s.ent.new, fun b h => ?_⟩, by rw [List.length_set, s.len], fun j d e => ?_, fun j m e => ?_, fun j k m m' b f1 f2 f3 f4 => ?_, fun j ks1 m e => ?_, fun j k ks1 ks2 m m' b f1 f2 f3 f4 => ?_⟩
  · obtain ⟨⟨x, y, z, q, w⟩, n⟩ := s.ok.pot b hb
    have ne : b ≠ a := fun e => e5 (e ▸ hb)
    exact ⟨⟨x, y, z, by rw [upd_ne ne]; exact q, w⟩, n⟩
  · by_cases e : b = a
    · subst e; exact e4
    · rw [upd_ne e] at h; exact s.ent.there b h
  · rcases set_get e with ⟨rfl, hl, q⟩ | ⟨n, q⟩
    · cases q
    · exact s.val j d q
  · rcases set_get e with ⟨rfl, hl, q⟩ | ⟨n, q⟩
    · cases q
    · obtain ⟨b, ys, g1, g2, g3, g4, g5, g6⟩ := s.own j m q
      have ne : b ≠ a := fun e => by rw [e, e2] at g2; cases g2
      exact ⟨b, ys, g1, by rw [upd_ne ne]; exact g2, g3, g4, g5, g6⟩
  · rcases set_get f1 with ⟨rfl, hl, q⟩ | ⟨n, q⟩
    · cases q
    rcases set_get f2 with ⟨rfl, hl, q2⟩ | ⟨n2, q2⟩
    · cases q2
    exact s.sep j k m m' b q q2 f3 f4
  · rcases set_get e with ⟨rfl, hl, q⟩ | ⟨n, q⟩
    · cases q
      exact ⟨a, kvs', ha, upd_same, e3, e4, e5, hk, r⟩
    · obtain ⟨b, ys, g1, g2, g3, g4, g5, g6, g7⟩ := s.dic j ks1 m q
      have ne : b ≠ a := fun e => n (s.sepd j i ks1 ks m l a q hi (e ▸ g1) ha)
      exact ⟨b, ys, g1, by rw [upd_ne ne]; exact g2, g3, g4, g5, g6, g7⟩
  · have get : ∀ {j : Nat} {ks1 : List Key} {m : List D}, (ρ.set i (SV.dic ks' l'))[j]? = some (SV.dic ks1 m) → ∃ ks2 m', ρ[j]? = some (SV.dic ks2 m') := fun {j ks1 m} e => by
      rcases set_get e with ⟨rfl, hl, q⟩ | ⟨n, q⟩
      · exact ⟨ks, l, hi⟩
      · exact ⟨ks1, m, q⟩
    obtain ⟨_, _, q1⟩ := get f1
    obtain ⟨_, _, q2⟩ := get f2
    exact s.sepd j k _ _ _ _ b q1 q2 f3 f4
/-- nothing is known of a slot any more -/
theorem SSt.drop (s : SSt K p c ρ σ F H F0 H0) (i : Nat) : SSt K p c (ρ.set i SV.no) σ F H F0 H0 :=
  ⟨s.ok, s.ent, by rw [List.length_set, s.len], fun j d e => (set_get e).elim (fun ⟨_, _, q⟩ => nomatch q) fun ⟨_, q⟩ => s.val j d q, fun j d e => (set_get e).elim (fun ⟨_, _, q⟩ => nomatch q) fun ⟨_, q⟩ => s.own j d q,
    fun j k l m a e1 e2 e3 e4 => (set_get e1).elim (fun ⟨_, _, q⟩ => nomatch q) fun ⟨_, q⟩ => (set_get e2).elim (fun ⟨_, _, q⟩ => nomatch q) fun ⟨_, q2⟩ => s.sep j k l m a q q2 e3 e4,
    fun j ks d e => (set_get e).elim (fun ⟨_, _, q⟩ => nomatch q) fun ⟨_, q⟩ => s.dic j ks d q,
    fun j k ks ks' l m a e1 e2 e3 e4 => (set_get e1).elim (fun ⟨_, _, q⟩ => nomatch q) fun ⟨_, q⟩ => (set_get e2).elim (fun ⟨_, _, q⟩ => nomatch q) fun ⟨_, q2⟩ => s.sepd j k ks ks' l m a q q2 e3 e4⟩
end
abbrev FD := Rho → Nat → (List Key → List D → Nat → Prop) → Prop
/-- an expression whose value is a new dict -/
def tD (K : PySem.W.Frag) (f : FD) : TE := fun σ H Q => ∃ p c ρ F Q', ESt K p c ρ σ F H ∧ f ρ c Q' ∧
  ∀ ks l c' a kvs F' H', Fwd p F H F' H' → Ok3 p c' F' H' → H a = none → F' a = none → p.pot ≠ some a → H' a = some (.dK kvs) → kvs.map (·.1) = ks → RepL K p F' l (kvs.map (·.2)) → Q' ks l c' → Q (.ref a) H'
abbrev DX (X : Cx) (e : Expr) (f : FD) : Prop := PE X e (tD X.K f)
section
variable {K : PySem.W.Frag} {X : Cx} {e a b o i v : Expr} {f : FD} {fa fb fo fi fe : FE} {pos pos' : Pos}
theorem layD {p : Pn} {c : Nat} {F H F1 H1 : Hp} (w : Fwd p F H F1 H1) (ok : Ok3 p c F1 H1) {q : Addr} (nq : H1 q = none) (xs : List (Key × V)) :
    Fwd p F H F1 (upd H1 q (.dK xs)) ∧ Ok3 p c F1 (upd H1 q (.dK xs)) ∧ H q = none ∧ F1 q = none ∧ p.pot ≠ some q := by
  have nF : F1 q = none := by
    cases e : F1 q with
    | none => rfl
    | some u => rw [ok.sub q u e] at nq; cases nq
  have np : p.pot ≠ some q := fun e => by
    obtain ⟨⟨x, y, z, h, _⟩, _⟩ := ok.pot q e
    rw [nq] at h; cases h
  refine ⟨⟨w.frz, fun b u h n t => ?_, w.new, fun b h => ?_⟩, ⟨fun b u h => ?_, fun b e => ?_, ok.tab.ext fun b u h => by rw [upd_ne (ne_of_none h nq)]; exact h, ok.nt⟩, w.there q nq, nF, np⟩
  · have := w.keep b u h n t
    rw [upd_ne (ne_of_none this nq)]; exact this
  · by_cases e : b = q
    · subst e; exact w.there _ nq
    · rw [upd_ne e] at h; exact w.there b h
  · rw [upd_ne (ne_of_none h nF)]; exact ok.sub b u h
  · obtain ⟨⟨x, y, z, h, r⟩, n⟩ := ok.pot b e
    exact ⟨⟨x, y, z, by rw [upd_ne (ne_of_none h nq)]; exact h, r⟩, n⟩
@[simp ↓] def dNew : FD := fun _ c Q => Q [] [] c
theorem dx_new : DX X (.Dict [] [] pos) dNew := PE.imp pe_dnewK fun σ H Q ⟨p, c, ρ, F, Q', es, h, t⟩ q nq => by
  obtain ⟨w, ok, n1, n2, n3⟩ := layD (Fwd.refl p F H) es.ok nq []
  exact t [] [] c q [] F _ w ok n1 n2 n3 upd_same rfl rfl h
/-- x = a new dict -/
@[simp ↓] def sDic (n : Nat) (f : FD) : FS := fun E ρ c => f (ρ.map vB) c fun ks l c => noLstL l = true ∧ E.nx (ρ.set n (.dic ks l)) c
theorem sx_dic (n : Nat) {x : Str} {px : Pos} (h : DX X e f) (hN : X.N.Nodup) (hi : X.N[n]? = some x := by rfl) (hx : Loc X.env.scope x := by first | exact Or.inl rfl | exact Or.inr rfl) (hs : swapsWith e (some (.Name x px)) pos.line X.env = pure false := by rfl)
    (hf : X.fn x = true ∨ X.env.scope.names.lookup x = some .local := by first | exact .inl rfl | exact .inr rfl) : SX X (.Assign [.Name x px] e pos) (sDic n f) := PS.imp (ps_set hN hi hx h hs hf) fun D σ H ⟨p, c, ρ, F, F0, H0, E, s, h, t⟩ => by
  obtain ⟨F2, es, w2, k⟩ := s.lend
  refine ⟨p, c, _, F2, _, es, h, fun ks l c1 a kvs F1 H1 w1 ok1 n1 n2 n3 h1 hk r1 q1 => ?_⟩
  obtain ⟨F3, s3, w3, _, k2, k3⟩ := k c1 F1 H1 w1 ok1
  have n4 : F3 a = none := k3 a n2
  refine t.nx c1 _ _ F3 H1 (s3.setDic n h1 n4 (s.ent.there a n1) n3 hk (k2 l _ q1.1 r1) fun j ks m _ e1 e2 => ?_) q1.2
  obtain ⟨b, ys, g1, g2, _⟩ := s.dic j ks m e1
  rw [e2] at g1
  cases g1
  rw [n1] at g2
  cases g2
/-- o[i], o a dict -/
@[simp ↓] def dgD : D → D → Nat → KD → Prop
  | .dct ks l, x, c, Q => (match keyD x with
    | some k => (match getDs ks l k with
      | some d => Q d c
      | none => False)
    | none => False)
  | _, _, _, _ => False
theorem ex_dget (hu : X.A.units + 1 < cLine) (ho : EX X o fo) (hi : EX X i fi) (hs : NoSl i) : EX X (.Subscript o i pos) (eOp dgD fo fi) := PE.imp (pe_dget hu ho hi hs) fun σ H Q ⟨p, c, ρ, F, Q', es, h, t⟩ => by
  refine ⟨p, c, ρ, F, _, es, h, fun x c1 u F1 H1 w1 ok1 r1 q1 => ⟨p, c1, ρ, F1, _, es.fwd w1 ok1, q1, fun y c2 v F2 H2 w2 ok2 r2 q2 => ?_⟩⟩
  have r1' := r1.mono w2.frz
  unfold dgD at q2
  split at q2
  · obtain ⟨a, kvs, rfl, h1, hk, rl⟩ := r1'
    split at q2
    · rename_i k ek
      split at q2
      · rename_i d ed
        rw [← hk] at ed
        obtain ⟨w, g1, g2⟩ := rep_getD rl ed
        refine ⟨a, w, rfl, ?_, (t.fwd w1).fwd w2 _ _ _ _ _ (Fwd.refl ..) ok2 g2 q2⟩
        rw [r2.key ek, ← g1]
        exact DGet.k (ok2.sub _ _ h1)
      · exact q2.elim
    · exact q2.elim
  · exact q2.elim
/-- x[i] = e, x an own dict -/
@[simp ↓] def sDput (n : Nat) (fe fi : FE) : FS := fun E ρ c => match ρ[n]? with
  | some (.dic ks l) => fe (ρ.map vB) c fun d c => fi (ρ.map vB) c fun x c => (match keyD x with
    | some k => (noLst d = true ∧ l.length < 16777216) ∧ E.nx (ρ.set n (.dic (putKs ks k) (putDs ks l k d))) c
    | none => False)
  | _ => False
theorem sx_dput (n : Nat) {value : Expr} {p1 : Pos} {x : Str} (hu : X.A.units + 1 < cLine) (hv : EX X value fe) (hi : EX X i fi) (pv : PE X (.Name x p1) (tVar n)) (hs : swapsWith value (some (.Subscript (.Name x p1) i pos')) pos.line X.env = pure false := by rfl) :
    SX X (.Assign [.Subscript (.Name x p1) i pos'] value pos) (sDput n fe fi) := PS.imp (ps_dput hu pv hi hv hs) fun D σ H ⟨p, c, ρ, F, F0, H0, E, s, h, t⟩ => by
  unfold sDput at h
  split at h
  · rename_i ks l hn
    obtain ⟨a, kvs, e1, e2, e3, e4, e5, e6, r0⟩ := s.dic n ks l hn
    obtain ⟨F2, es, w2, k⟩ := s.lend
    refine ⟨p, c, _, F2, _, es, h, fun y c1 v F1 H1 w1 ok1 r1 q1 => ⟨_, e1, p, c1, _, F1, _, es.fwd w1 ok1, q1, fun d c4 u F4 H4 w4 ok4 r4 q4 => ?_⟩⟩
    obtain ⟨F3, s1, w3, k1, k2, _⟩ := k c4 F4 H4 (w1.trans w4) ok4
    obtain ⟨a', kvs', g1, g2, g3, g4, g5, g6, r0'⟩ := s1.dic n ks l hn
    rw [e1] at g1
    cases g1
    split at q4
    · rename_i kk ek
      obtain ⟨⟨nl, hl⟩, q⟩ := q4
      obtain ⟨z1, z2⟩ := rep_putD (k := kk) r0' (k1 _ _ nl (r1.mono w4.frz))
      rw [g6] at z1 z2
      refine ⟨a, _, rfl, ?_, t.nx c4 _ _ F3 _ (s1.putDic hn e1 z1 z2) q⟩
      rw [r4.key ek]
      refine DPut.k g2 ?_
      have := r0'.len
      rw [List.length_map] at this
      rw [line16, this]
      exact hl
    · exact q4.elim
  · exact h.elim
/-- x = y, y an own dict: it is x's from now on -/
@[simp ↓] def sMove (n m : Nat) : FS := fun E ρ c => match ρ[m]? with
  | some (.dic ks l) => E.nx ((ρ.set m .no).set n (.dic ks l)) c
  | _ => False
theorem sx_move (n m : Nat) {x y : Str} {px py : Pos} (pv : PE X (.Name y py) (tVar m)) (hN : X.N.Nodup) (hi : X.N[n]? = some x := by rfl) (hx : Loc X.env.scope x := by first | exact Or.inl rfl | exact Or.inr rfl) (hs : swapsWith (.Name y py) (some (.Name x px)) pos.line X.env = pure false := by rfl)
    (hf : X.fn x = true ∨ X.env.scope.names.lookup x = some .local := by first | exact .inl rfl | exact .inr rfl) : SX X (.Assign [.Name x px] (.Name y py) pos) (sMove n m) := PS.imp (ps_set hN hi hx pv hs hf) fun D σ H ⟨p, c, ρ, F, F0, H0, E, s, h, t⟩ => by
  unfold sMove at h
  split at h
  · rename_i ks l hn
    obtain ⟨a, kvs, e1, e2, e3, e4, e5, e6, r0⟩ := s.dic m ks l hn
    refine ⟨_, e1, t.nx c _ _ F H ((s.drop m).setDic n e2 e3 e4 e5 e6 r0 fun j ks' l' nj g1 g2 => ?_) h⟩
    rcases set_get g1 with ⟨_, _, q⟩ | ⟨nm, q⟩
    · cases q
    · exact nm (s.sepd j m ks' ks l' l a q hn g2 e1)
  · exact h.elim
/-- a comprehension of a dict -/
@[simp ↓] def compD (g : FG) (t : FT) (fk fe : FE) (ρ : Rho) : List D → Nat → List Key → List D → (List Key → List D → Nat → Prop) → Prop
  | [], c, ks, vs, Q => Q ks vs c
  | d :: l, c, ks, vs, Q => g d (ρ.map upS) fun ρ' => t (ρ'.map vA) c fun b c =>
      if b = true then fk (ρ'.map vA) c fun x c => fe (ρ'.map vA) c fun y c => (match keyD x with
        | some k => vs.length < 16777216 ∧ compD g t fk fe ρ l c (putKs ks k) (putDs ks vs k y) Q
        | none => False)
      else compD g t fk fe ρ l c ks vs Q
@[simp ↓] def dComp (fi : FI) (g : FG) (t : FT) (fk fe : FE) (vs : List Nat) : FD := fun ρ c Q => fi ρ c fun l c => compD g t fk fe (wipeD ρ vs) l c [] [] Q
end
section
variable {X : Cx} {tg iter kx vx : Expr} {ifs : List Expr} {scope : Scope} {own : List (Str × Nat)} {pos : Pos} {is : List Nat} {fi : FI} {gg : FG} {ft : FT} {fk fe : FE}
theorem dcomp_w {t : TT} {gl : TG} {wi : TI} {vs : List Nat} (his : ∀ j ∈ is, j ∈ vs)
    (ki : ∀ σ H p c ρ F Q' R, ESt X.K p c ρ σ F H → fi ρ c Q' → (∀ items c' F' H' J, Fwd p F H F' H' → Ok3 p c' F' H' → Walks3 X.K p J items F' → Q' items c' → R J H') → wi σ H R)
    (kg : ∀ p c ρ σ F H F0 H0 d v k kk, SSt X.K p c ρ σ F H F0 H0 → Rep X.K p F d v → gg d ρ k → (∀ ρ' σ', SSt X.K p c ρ' σ' F H F0 H0 → σ'.length = σ.length → (∀ j, j ∉ is → σ'[j]? = σ[j]?) → k ρ' → kk σ' H) → gl v σ H kk)
    (kt : ∀ σ H p c ρ F Q' Q, ESt X.K p c ρ σ F H → ft ρ c Q' → TellB p F H Q' Q → t σ H Q) {σ : L2.St} {H : Hp} {Q : VK} (h : tD X.K (dComp fi gg ft fk fe vs) σ H Q) : tDc wi gl t (tE X.K fk) (tE X.K fe) vs σ H Q := by
  obtain ⟨p, c, ρ, F, Q', es, h, tl⟩ := h
  refine ki σ H p c ρ F _ _ es h fun items c1 F1 H1 J w1 ok1 wk q1 => fun D hD => ?_
  obtain ⟨w0, ok0, n1, n2, n3⟩ := layD (Fwd.refl p F1 H1) ok1 hD []
  refine ⟨fun i m H' => m = items.length - i ∧ i ≤ items.length ∧ ∃ c F acc ks ds, Fwd p F1 H1 F H' ∧ Ok3 p c F H' ∧ H' D = some (.dK acc) ∧ F D = none ∧ acc.map (·.1) = ks ∧ RepL X.K p F ds (acc.map (·.2)) ∧ compD gg ft fk fe (wipeD ρ vs) (items.drop i) c ks ds Q',
    ⟨items.length, rfl, Nat.zero_le _, c1, F1, [], [], [], w0, ok0, upd_same, n2, rfl, rfl, q1⟩, fun i m H2 ⟨em, hi, c, F2, acc, ks, ds, w, ok, hDl, nF, hk, r, hc⟩ => ?_⟩
  obtain ⟨go, stop⟩ := wk.2 i F2 H2 c w.frz ok
  by_cases hlt : i < items.length
  · obtain ⟨hgo, hy⟩ := go hlt
    refine .inr ⟨hgo, fun H' => ∃ c F acc ks ds, Fwd p F1 H1 F H' ∧ Ok3 p c F H' ∧ H' D = some (.dK acc) ∧ F D = none ∧ acc.map (·.1) = ks ∧ RepL X.K p F ds (acc.map (·.2)) ∧ compD gg ft fk fe (wipeD ρ vs) (items.drop (i + 1)) c ks ds Q',
      fun H' z => ⟨items.length - (i + 1), by omega, rfl, hlt, z⟩, fun x H' y => ?_⟩
    obtain ⟨F', d, e1, w', ok', r'⟩ := hy x H' y
    have ed : items.drop i = d :: items.drop (i + 1) := by
      rw [List.drop_eq_getElem_cons hlt]
      rw [List.getElem?_eq_getElem hlt] at e1
      rw [Option.some.inj e1]
    rw [ed] at hc
    have wF := w1.trans (w.trans w')
    have ss : SSt X.K p c ((wipeD ρ vs).map upS) (wipe σ vs) F' H' F' H' := by
      refine ⟨ok', .refl .., by rw [List.length_map, wipeD_len, wipe_length, es.len], fun j dj ej => ?_, fun j lj ej => ?_, fun j k l m a e1 _ _ _ => ?_, fun j ks lj ej => ?_, fun j k ks ks' l m a e1 _ _ _ => ?_⟩
      · rw [List.getElem?_map] at ej
        obtain ⟨z, ez, eu⟩ := Option.map_eq_some_iff.mp ej
        cases z with
        | none => cases eu
        | some z =>
          cases eu
          obtain ⟨nj, e2⟩ := wipeD_some ρ vs j dj ez
          obtain ⟨v, g1, g2⟩ := es.slot j dj ((get3_eq ρ j dj).mpr e2)
          exact ⟨v, by rw [wipe_get σ vs j nj]; exact g1, g2.mono wF.frz⟩
      · rw [List.getElem?_map] at ej
        obtain ⟨z, ez, eu⟩ := Option.map_eq_some_iff.mp ej
        cases z <;> cases eu
      · rw [List.getElem?_map] at e1
        obtain ⟨z, ez, eu⟩ := Option.map_eq_some_iff.mp e1
        cases z <;> cases eu
      · rw [List.getElem?_map] at ej
        obtain ⟨z, ez, eu⟩ := Option.map_eq_some_iff.mp ej
        cases z <;> cases eu
      · rw [List.getElem?_map] at e1
        obtain ⟨z, ez, eu⟩ := Option.map_eq_some_iff.mp e1
        cases z <;> cases eu
    refine kg p c _ (wipe σ vs) F' H' F' H' d x _ _ ss r' hc fun ρ2 σ2 s2 l2 e2 h2 => ⟨?_, ?_⟩
    · refine wipe_eq (by rw [l2, wipe_length]) fun j hj => ?_
      rw [e2 j fun z => hj (his j z), wipe_get σ vs j hj]
    · refine kt σ2 H' p c _ F' _ _ s2.e h2 fun b c3 F3 H3 w3 ok3 q3 => ?_
      have w23 := w'.trans w3
      have keepD : ∀ {F4 H4 : Hp}, Fwd p F2 H2 F4 H4 → H4 D = some (.dK acc) ∧ F4 D = none := fun {F4 H4} w4 => by
        refine ⟨w4.keep D _ hDl n3 (fun _ z => nomatch z), ?_⟩
        cases q : F4 D with
        | none => rfl
        | some u =>
          rcases w4.new D u q with z | z
          · rw [nF] at z; cases z
          · rw [hDl] at z; cases z
      cases b with
      | true =>
        refine ⟨p, c3, _, F3, _, s2.e.fwd w3 ok3, q3, fun xd c4 u F4 H4 w4 ok4 r4 q4 => ⟨p, c4, _, F4, _, (s2.e.fwd w3 ok3).fwd w4 ok4, q4, fun yd c5 v F5 H5 w5 ok5 r5 q5 => ?_⟩⟩
        split at q5
        · rename_i kk ek
          have w24 := (w23.trans w4).trans w5
          obtain ⟨d1, d2⟩ := keepD w24
          have w14 := w.trans w24
          obtain ⟨z1, z2⟩ := rep_putD (k := kk) (r.mono w24.frz) r5
          rw [hk] at z1 z2
          have rl := r.len
          rw [List.length_map] at rl
          refine ⟨acc, kk, r4.key ek, d1, by rw [line16, rl]; exact q5.1, c5, F5, putK acc kk v, _, _, ⟨w14.frz, fun b u hb n tt => ?_, w14.new, fun b hb => ?_⟩, ⟨fun b u hb => ?_, fun b hb => ?_, tabs_putD ok5.tab d1, ok5.nt⟩, upd_same, d2, z1, z2, q5.2⟩
          · rw [upd_ne (ne_of_none hb n1)]
            exact w14.keep b u hb n tt
          · by_cases e : b = D
            · subst e; exact n1
            · rw [upd_ne e] at hb; exact w14.there b hb
          · rw [upd_ne (ne_of_none hb d2)]
            exact ok5.sub b u hb
          · obtain ⟨⟨x, y, z, h, rr⟩, n⟩ := ok5.pot b hb
            have ne : b ≠ D := fun e => n3 (e ▸ hb)
            exact ⟨⟨x, y, z, by rw [upd_ne ne]; exact h, rr⟩, n⟩
        · exact q5.elim
      | false =>
        obtain ⟨d1, d2⟩ := keepD w23
        exact ⟨c3, F3, acc, ks, ds, w.trans w23, ok3, d1, d2, hk, r.mono w23.frz, q3⟩
  · have ei : items.drop i = [] := List.drop_eq_nil_of_le (by omega)
    rw [ei] at hc
    exact .inl ⟨stop (by omega), tl ks ds c D acc F2 H2 (w1.trans w) ok (w1.there D n1) nF n3 hDl hk r hc⟩
theorem dx_comp (hc : X.calm = true) (hN : X.N.Nodup) (hi : IX X tg iter fi) (ok : BlkOk X.N X.env.scope scope own) {gl : TG}
    (hg : ∀ (s : Shared) (H : Hp) (C : Addr) (cl : List (Str × Addr)) (fp : List Addr), PG (X.blk s H scope (compEnvC scope cl C X.env) fp) tg gl)
    (kg : KG X.K is gg gl)
    {t : TT} (ht : ∀ (s : Shared) (H : Hp) (C : Addr) (cl : List (Str × Addr)) (fp : List Addr), PTs (X.blk s H scope (compEnvC scope cl C X.env) fp) ifs t)
    (kt : KT3 X.K ft t)
    (hk : ∀ (s : Shared) (H : Hp) (C : Addr) (cl : List (Str × Addr)) (fp : List Addr), EX (X.blk s H scope (compEnvC scope cl C X.env) fp) kx fk)
    (he : ∀ (s : Shared) (H : Hp) (C : Addr) (cl : List (Str × Addr)) (fp : List Addr), EX (X.blk s H scope (compEnvC scope cl C X.env) fp) vx fe)
    (his : ∀ j ∈ is, j ∈ own.map (·.2)) (hs : ∀ x, foldedSetIterable iter X.env x = pure x := by intro _; rfl) : DX X (.DictComp kx vx [⟨tg, iter, ifs, 0⟩] scope pos) (dComp fi gg ft fk fe (own.map (·.2))) := by
  obtain ⟨wi, pi, ki⟩ := hi.ex
  exact PE.imp (pe_dc hc hN pi ok hg ht hk he hs) fun σ H Q h => dcomp_w his ki kg.k kt.k h
end
end L3

set_option maxHeartbeats 2000000
/-! L3B: min of a list of data. -/
namespace L3
open PySem PySem.Spec PyProof.Rows L2
def rMinP (K : PySem.W.Frag) : List V → Hp → VK → Prop := fun vs H Q => ∃ (a : Addr) (ws : List V) (x : PyData) (xs : List PyData), vs = [V.ref a] ∧ SqL K H a ws ∧ DpAll K H ws (x :: xs) ∧ PySem.W.AlikeAll (x :: xs) ∧ PyData.depthAll (x :: xs) ≤ 64 ∧
  ∀ (i : Nat) (w : V), ws[i]? = some w → (x :: xs)[i]? = some (PySem.W.minD x xs) → Q w H
theorem readsAll_get {h : Heap} : ∀ {us : List Value} {ds : List PyData} {as : List Addr} {i : Nat} {u : Value}, ReadsAll h us ds as → us[i]? = some u → ∃ d bs, ds[i]? = some d ∧ Reads h u d bs
  | _, _, _, i, u, .nil, e => by simp at e
  | _, _, _, 0, u, .cons r t, e => by
    simp at e
    subst e
    exact ⟨_, _, rfl, r⟩
  | _, _, _, i + 1, u, .cons r t, e => by
    obtain ⟨d, bs, h1, h2⟩ := readsAll_get (i := i) t (by simpa using e)
    exact ⟨d, bs, by simpa using h1, h2⟩
section
variable {K : PySem.W.Frag} {X : Cx}
theorem minPR (hc : X.calm = true) (hu : X.A.units + 66 < cLine) : CallR X (.builtin "min") (rMinP X.K) := by
  intro pins s σ H vs us Q I r h
  obtain ⟨a, ws, x, xs, rfl, hs, hd, al, dep, q⟩ := h
  rw [Vals.ref1 r]
  obtain ⟨its, rv, hl, _⟩ := I.list hs
  obtain ⟨as, ra⟩ := Dp.readsAll I _ _ _ hd rv
  refine PySem.W.min_list_data (I.ok.hd hc) hl.isList (by simpa using ra) al (by omega) fun i v h' tk bs e rd k => ?_
  have e' : its[i]? = some v := by simpa using e
  obtain ⟨d, cs, g1, g2⟩ := readsAll_get ra e'
  have hlen := rv.length
  have hi := (List.getElem?_eq_some_iff.mp e').1
  have hw : ws[i]? = some ws[i] := List.getElem?_eq_getElem (by omega)
  obtain ⟨u, eu, ru⟩ := rv.get hw
  rw [e'] at eu
  cases eu
  have same : d = PySem.W.minD x xs := (Reads.unique (PySem.W.reads_keeps k g2) _ _ rd).1
  subst same
  exact ⟨ws[i], H, I.kept k, ru, q i _ hw g1⟩
def minPs (m : List D) (Q : D → Prop) : Prop := ∃ x xs, toPyL m = some (x :: xs) ∧ PySem.W.AlikeAll (x :: xs) ∧ PyData.depthAll (x :: xs) ≤ 64 ∧ ∀ d ∈ m, toPy d = some (PySem.W.minD x xs) → Q d
@[simp ↓] def minPM : FM := fun l c Q => match l with
  | [.lst m] => minPs m fun d => Q d c
  | _ => False
theorem minPS : CallS K (rMinP K) minPM := by
  intro p c F H l vs Q' Q ok r h t
  unfold minPM at h
  split at h
  · rename_i m
    obtain ⟨v, rfl, a, ws, rfl, h1, rl⟩ := r.one
    obtain ⟨x, xs, e, al, dep, q⟩ := h
    refine ⟨a, ws, x, xs, rfl, .of (ok.sub _ _ h1), RepL.dp ok.sub rl e, al, dep, fun i w e1 e2 => ?_⟩
    have hi := (List.getElem?_eq_some_iff.mp e1).1
    have hi2 : i < m.length := by rw [← rl.len]; exact hi
    have hm : m[i]? = some m[i] := List.getElem?_eq_getElem hi2
    obtain ⟨w', y1, y2⟩ := rl.get hm
    rw [e1] at y1
    cases y1
    exact t _ c _ F H (Fwd.refl ..) ok y2 (q _ (List.mem_of_getElem? hm) (toPyL_get i _ _ e hm e2))
  · exact h.elim
end
abbrev ppD (p : Int × Int) : D := .tup [.int p.1, .int p.2]
theorem pairs_toPy : ∀ ps : List (Int × Int), toPyL (ps.map ppD) = some (ps.map fun p => PyData.tuple [.int p.1, .int p.2])
  | [] => rfl
  | p :: ps => by
    rw [List.map_cons, List.map_cons]
    simp only [toPyL, pairs_toPy ps]
    rfl
theorem minD_pairs : ∀ (ps : List (Int × Int)) (p : Int × Int), ∃ r ∈ p :: ps, PySem.W.minD (.tuple [.int p.1, .int p.2]) (ps.map fun p => PyData.tuple [.int p.1, .int p.2]) = .tuple [.int r.1, .int r.2] ∧ ∀ q ∈ p :: ps, r.1 < q.1 ∨ (r.1 = q.1 ∧ r.2 ≤ q.2)
  | [], p => ⟨p, List.mem_cons_self .., rfl, fun q hq => by simp at hq; subst hq; exact .inr ⟨rfl, Int.le_refl _⟩⟩
  | b :: ps, p => by
    have step : PySem.W.minD (.tuple [.int p.1, .int p.2]) ((b :: ps).map fun p => PyData.tuple [.int p.1, .int p.2]) = PySem.W.minD (if PySem.W.dataLt (.tuple [.int b.1, .int b.2]) (.tuple [.int p.1, .int p.2]) then .tuple [.int b.1, .int b.2] else .tuple [.int p.1, .int p.2]) (ps.map fun p => PyData.tuple [.int p.1, .int p.2]) := rfl
    rw [step, PySem.W.dataLt_ii]
    by_cases h : b.1 < p.1 ∨ (b.1 = p.1 ∧ b.2 < p.2)
    · rw [if_pos (decide_eq_true h)]
      obtain ⟨r, h1, h2, h3⟩ := minD_pairs ps b
      refine ⟨r, List.mem_cons_of_mem _ h1, h2, fun q hq => ?_⟩
      rcases List.mem_cons.mp hq with rfl | hq
      · have := h3 b (List.mem_cons_self ..)
        omega
      · exact h3 q hq
    · rw [if_neg (by simpa using h)]
      obtain ⟨r, h1, h2, h3⟩ := minD_pairs ps p
      refine ⟨r, (List.mem_cons.mp h1).elim (fun e => e ▸ List.mem_cons_self ..) fun z => List.mem_cons_of_mem _ (List.mem_cons_of_mem _ z), h2, fun q hq => ?_⟩
      rcases List.mem_cons.mp hq with rfl | hq
      · exact h3 q (List.mem_cons_self ..)
      · rcases List.mem_cons.mp hq with rfl | hq
        · have := h3 p (List.mem_cons_self ..)
          omega
        · exact h3 q (List.mem_cons_of_mem _ hq)
theorem minPs_pairs {p : Int × Int} {ps : List (Int × Int)} {Q : D → Prop} (q : ∀ r ∈ p :: ps, (∀ q ∈ p :: ps, r.1 < q.1 ∨ (r.1 = q.1 ∧ r.2 ≤ q.2)) → Q (ppD r)) : minPs ((p :: ps).map ppD) Q := by
  refine ⟨_, _, pairs_toPy (p :: ps), ?_, ?_, fun d hd e => ?_⟩
  · have h : ∀ x ∈ (p :: ps).map (fun p => PyData.tuple [.int p.1, .int p.2]), ∃ a b : Int, x = .tuple [.int a, .int b] := fun x hx => by
      obtain ⟨i, _, rfl⟩ := List.mem_map.mp hx
      exact ⟨_, _, rfl⟩
    refine ⟨fun x hx y hy => ?_, fun x hx => ?_⟩
    · obtain ⟨_, _, rfl⟩ := h x hx
      obtain ⟨_, _, rfl⟩ := h y hy
      rfl
    · obtain ⟨_, _, rfl⟩ := h x hx
      exact fun z => nomatch z
  · have : ∀ l : List (Int × Int), PyData.depthAll (l.map fun p => PyData.tuple [.int p.1, .int p.2]) ≤ 1 := by
      intro l
      induction l with
      | nil => exact Nat.zero_le _
      | cons a l ih =>
        show max (PyData.depth (.tuple [.int a.1, .int a.2])) (PyData.depthAll (l.map _)) ≤ 1
        have : PyData.depth (.tuple [.int a.1, .int a.2]) = 1 := by simp [PyData.depth, PyData.depthAll]
        omega
    exact Nat.le_trans (this (p :: ps)) (by decide)
  · obtain ⟨r, h1, h2, h3⟩ := minD_pairs ps p
    obtain ⟨b, hb, rfl⟩ := List.mem_map.mp hd
    have e : some (PyData.tuple [.int b.1, .int b.2]) = some (PySem.W.minD _ (ps.map _)) := e
    rw [h2] at e
    obtain ⟨b1, b2⟩ := b
    obtain ⟨r1, r2⟩ := r
    cases e
    exact q _ h1 h3
theorem u1_of {n : Nat} (h : n + 66 < cLine) : n + 1 < cLine := by omega
end L3

set_option maxHeartbeats 4000000
namespace Law62
open PySem PySem.Spec PyProof.Rows L2 L3
def topS (i : Nat) : Stmt := PySem.Challenge.pw_foldedandsewn_k62_whole_titles_wider_and.main.body.getD i (.Pass ⟨0, 0, 0, 0⟩)
/-- _law_take(pot, upto) -/
def m_law_take : FM := fun ds c Q => match ds with | [.pot, .int n] => (0 < n ∧ n < 1073741824 ∧ c < 1000000) ∧ ∀ d, 0 ≤ d → d < n → Q (.int d) (c + 1) | _ => False
theorem l_law_take : ∀ ds c Q, m_law_take ds c Q → ds.length = 2 := fun ds c Q h => by
  unfold m_law_take at h
  split at h
  · rfl
  · exact h.elim
abbrev s_is_int : Stmt := topS 5
theorem sc_is_int : FnScope ["value", "low", "high"] ["value", "low", "high"] (defScope s_is_int) := ⟨rfl, rfl, rfl, by decide +kernel, rfl, by decide +kernel, by decide +kernel⟩
def g_is_int : FS :=
  (sRet (eAnd (eB isiM (aCons (eVar 0) (aCons (eC (.ty "int")) aNil))) (eAnd (eNot (eB isiM (aCons (eVar 0) (aCons (eC (.ty "bool")) aNil)))) (eCh leD leD (eVar 1) (eVar 0) (eVar 2)))))
structure m_is_int (ds : List D) (c : Nat) (Q : KD) : Prop where
  len : ds.length = 3
  run : runM 3 g_is_int ds c Q
theorem p_is_int : ∀ ds c Q, m_is_int ds c Q → runM 3 g_is_int ds c Q := fun _ _ _ h => h.2
theorem l_is_int : ∀ ds c Q, m_is_int ds c Q → ds.length = 3 := fun _ _ _ h => h.1
abbrev s_are_ints : Stmt := topS 6
theorem sc_are_ints : FnScope ["value", "low", "high", "one"] ["value", "low", "high"] (defScope s_are_ints) := ⟨rfl, rfl, rfl, by decide +kernel, rfl, by decide +kernel, by decide +kernel⟩
def g_are_ints : FS :=
  (sRet (eAnd (eB isiM (aCons (eVar 0) (aCons (eC (.ty "tuple")) aNil))) (eB allM (aCons (eF (fComp (iSeq (eVar 0)) (gN 3) tYes3 (eCall m_is_int (aCons (eVar 3) (aCons (eVar 1) (aCons (eVar 2) aNil)))) [3])) aNil))))
structure m_are_ints (ds : List D) (c : Nat) (Q : KD) : Prop where
  len : ds.length = 3
  run : runM 4 g_are_ints ds c Q
theorem p_are_ints : ∀ ds c Q, m_are_ints ds c Q → runM 4 g_are_ints ds c Q := fun _ _ _ h => h.2
theorem l_are_ints : ∀ ds c Q, m_are_ints ds c Q → ds.length = 3 := fun _ _ _ h => h.1
abbrev s_common : Stmt := topS 8
theorem sc_common : FnScope ["one", "other"] ["one", "other"] (defScope s_common) := ⟨rfl, rfl, rfl, by decide +kernel, rfl, by decide +kernel, by decide +kernel⟩
def g_common : FS :=
  (sSeq (sWhile (tV (eOp neD (eVar 1) (eC (.int 0))))
  (sPar 0 1 (aCons (eVar 1) (aCons (eOp modD (eVar 0) (eVar 1)) aNil))))
  (sRet (eVar 0)))
structure m_common (ds : List D) (c : Nat) (Q : KD) : Prop where
  len : ds.length = 2
  run : runM 2 g_common ds c Q
theorem p_common : ∀ ds c Q, m_common ds c Q → runM 2 g_common ds c Q := fun _ _ _ h => h.2
theorem l_common : ∀ ds c Q, m_common ds c Q → ds.length = 2 := fun _ _ _ h => h.1
abbrev s_lowest : Stmt := topS 9
theorem sc_lowest : FnScope ["top", "bottom", "less"] ["top", "bottom"] (defScope s_lowest) := ⟨rfl, rfl, rfl, by decide +kernel, rfl, by decide +kernel, by decide +kernel⟩
def g_lowest : FS :=
  (sSeq (sAsg (gN 2) (eCall m_common (aCons (eB absM (aCons (eVar 0) aNil)) (aCons (eVar 1) aNil))))
  (sRet (eTup (aCons (eOp fdivD (eVar 0) (eVar 2)) (aCons (eOp fdivD (eVar 1) (eVar 2)) aNil)))))
structure m_lowest (ds : List D) (c : Nat) (Q : KD) : Prop where
  len : ds.length = 2
  run : runM 3 g_lowest ds c Q
theorem p_lowest : ∀ ds c Q, m_lowest ds c Q → runM 3 g_lowest ds c Q := fun _ _ _ h => h.2
theorem l_lowest : ∀ ds c Q, m_lowest ds c Q → ds.length = 2 := fun _ _ _ h => h.1
abbrev s_look_at_words : Stmt := topS 13
theorem sc_look_at_words : FnScope ["words", "gap"] ["words", "gap"] (defScope s_look_at_words) := ⟨rfl, rfl, rfl, by decide +kernel, rfl, by decide +kernel, by decide +kernel⟩
def g_look_at_words : FS :=
  (sSeq (sIf (tO3 (tN3 (tV (eCall m_are_ints (aCons (eVar 0) (aCons (eC (.int 1)) (aCons (eC (.int 1000000)) aNil)))))) (tN3 (tV (eCh leD leD (eC (.int 1)) (eB lenM (aCons (eVar 0) aNil)) (eC (.int 40))))))
  sNever
  sNil)
  (sIf (tN3 (tV (eCall m_is_int (aCons (eVar 1) (aCons (eC (.int 0)) (aCons (eC (.int 1000000)) aNil))))))
  sNever
  sNil))
structure m_look_at_words (ds : List D) (c : Nat) (Q : KD) : Prop where
  len : ds.length = 2
  run : runM 2 g_look_at_words ds c Q
theorem p_look_at_words : ∀ ds c Q, m_look_at_words ds c Q → runM 2 g_look_at_words ds c Q := fun _ _ _ h => h.2
theorem l_look_at_words : ∀ ds c Q, m_look_at_words ds c Q → ds.length = 2 := fun _ _ _ h => h.1
abbrev s_width_of : Stmt := topS 14
theorem sc_width_of : FnScope ["words", "gap", "first", "last"] ["words", "gap", "first", "last"] (defScope s_width_of) := ⟨rfl, rfl, rfl, by decide +kernel, rfl, by decide +kernel, by decide +kernel⟩
def g_width_of : FS :=
  (sRet (eOp addD (eB sum2M (aCons (eSl (eVar 0) (oSome (eVar 2)) (oSome (eVar 3))) aNil)) (eOp mulD (eVar 1) (eOp subD (eOp subD (eVar 3) (eVar 2)) (eC (.int 1))))))
structure m_width_of (ds : List D) (c : Nat) (Q : KD) : Prop where
  len : ds.length = 4
  run : runM 4 g_width_of ds c Q
theorem p_width_of : ∀ ds c Q, m_width_of ds c Q → runM 4 g_width_of ds c Q := fun _ _ _ h => h.2
theorem l_width_of : ∀ ds c Q, m_width_of ds c Q → ds.length = 4 := fun _ _ _ h => h.1
abbrev s_told_lines : Stmt := topS 15
theorem sc_told_lines : FnScope ["words", "gap", "breaks", "edges", "first", "last"] ["words", "gap", "breaks"] (defScope s_told_lines) := ⟨rfl, rfl, rfl, by decide +kernel, rfl, by decide +kernel, by decide +kernel⟩
def g_told_lines : FS :=
  (sSeq (sAsg (gN 3) (eLst (aCons (eC (.int 0)) (aStar (eVar 2) (aCons (eB lenM (aCons (eVar 0) aNil)) aNil)))))
  (sRet (eF (fComp (iZip3 (eVar 3) (eSl (eVar 3) (oSome (eC (.int 1))) oNone)) (gT 2 (gsCons (gN 4) (gsCons (gN 5) gsNil))) tYes3 (eCall m_width_of (aCons (eVar 0) (aCons (eVar 1) (aCons (eVar 4) (aCons (eVar 5) aNil))))) [4, 5]))))
structure m_told_lines (ds : List D) (c : Nat) (Q : KD) : Prop where
  len : ds.length = 3
  run : runM 6 g_told_lines ds c Q
theorem p_told_lines : ∀ ds c Q, m_told_lines ds c Q → runM 6 g_told_lines ds c Q := fun _ _ _ h => h.2
theorem l_told_lines : ∀ ds c Q, m_told_lines ds c Q → ds.length = 3 := fun _ _ _ h => h.1
abbrev s_are_breaks : Stmt := topS 16
theorem sc_are_breaks : FnScope ["words", "value", "one", "other"] ["words", "value"] (defScope s_are_breaks) := ⟨rfl, rfl, rfl, by decide +kernel, rfl, by decide +kernel, by decide +kernel⟩
def g_are_breaks : FS :=
  (sRet (eAnd (eCall m_are_ints (aCons (eVar 1) (aCons (eC (.int 1)) (aCons (eOp subD (eB lenM (aCons (eVar 0) aNil)) (eC (.int 1))) aNil)))) (eB allM (aCons (eF (fComp (iZip3 (eVar 1) (eSl (eVar 1) (oSome (eC (.int 1))) oNone)) (gT 2 (gsCons (gN 2) (gsCons (gN 3) gsNil))) tYes3 (eOp ltD (eVar 2) (eVar 3)) [2, 3])) aNil))))
structure m_are_breaks (ds : List D) (c : Nat) (Q : KD) : Prop where
  len : ds.length = 2
  run : runM 4 g_are_breaks ds c Q
theorem p_are_breaks : ∀ ds c Q, m_are_breaks ds c Q → runM 4 g_are_breaks ds c Q := fun _ _ _ h => h.2
theorem l_are_breaks : ∀ ds c Q, m_are_breaks ds c Q → ds.length = 2 := fun _ _ _ h => h.1
abbrev s_lines_of : Stmt := topS 17
theorem sc_lines_of : FnScope ["words", "gap", "breaks"] ["words", "gap", "breaks"] (defScope s_lines_of) := ⟨rfl, rfl, rfl, by decide +kernel, rfl, by decide +kernel, by decide +kernel⟩
def g_lines_of : FS :=
  (sSeq (sExpr (eCall m_look_at_words (aCons (eVar 0) (aCons (eVar 1) aNil))))
  (sSeq (sIf (tN3 (tV (eCall m_are_breaks (aCons (eVar 0) (aCons (eVar 2) aNil)))))
  sNever
  sNil)
  (sRet (eB tupleM (aCons (eCall m_told_lines (aCons (eVar 0) (aCons (eVar 1) (aCons (eVar 2) aNil)))) aNil)))))
structure m_lines_of (ds : List D) (c : Nat) (Q : KD) : Prop where
  len : ds.length = 3
  run : runM 3 g_lines_of ds c Q
theorem p_lines_of : ∀ ds c Q, m_lines_of ds c Q → runM 3 g_lines_of ds c Q := fun _ _ _ h => h.2
theorem l_lines_of : ∀ ds c Q, m_lines_of ds c Q → ds.length = 3 := fun _ _ _ h => h.1
abbrev s_told_narrowest : Stmt := topS 18
theorem sc_told_narrowest : FnScope ["words", "gap", "lines", "many", "best", "at", "lap", "later", "some", "ahead", "width"] ["words", "gap", "lines"] (defScope s_told_narrowest) := ⟨rfl, rfl, rfl, by decide +kernel, rfl, by decide +kernel, by decide +kernel⟩
def g_told_narrowest : FS :=
  (sSeq (sAsg (gN 3) (eB lenM (aCons (eVar 0) aNil)))
  (sSeq (sDic 4 (dComp (iR2 (aCons (eC (.int 1)) (aCons (eOp addD (eVar 3) (eC (.int 1))) aNil))) (gN 5) tYes3 (eVar 5) (eTup (aCons (eCall m_width_of (aCons (eVar 0) (aCons (eVar 1) (aCons (eC (.int 0)) (aCons (eVar 5) aNil))))) (aCons (eTup aNil) aNil))) [5]))
  (sSeq (sFor (iR2 (aCons (eC (.int 1)) (aCons (eVar 2) aNil))) (gN 6)
  (sSeq (sDic 7 dNew)
  (sSeq (sFor (iR2 (aCons (eOp addD (eVar 6) (eC (.int 1))) (aCons (eOp addD (eVar 3) (eC (.int 1))) aNil))) (gN 5)
  (sSeq (sValFB 8 (fComp (iR2 (aCons (eVar 6) (aCons (eVar 5) aNil))) (gN 9) tYes3 (eTup (aCons (eB max2M (aCons (eOp ixD (eOp dgD (eVar 4) (eVar 9)) (eC (.int 0))) (aCons (eCall m_width_of (aCons (eVar 0) (aCons (eVar 1) (aCons (eVar 9) (aCons (eVar 5) aNil))))) aNil))) (aCons (eVar 9) aNil))) [9]))
  (sSeq (sAsg (gT 2 (gsCons (gN 10) (gsCons (gN 9) gsNil))) (eB minPM (aCons (eVar 8) aNil)))
  (sDput 7 (eTup (aCons (eVar 10) (aCons (eTup (aStar (eOp ixD (eOp dgD (eVar 4) (eVar 9)) (eC (.int 1))) (aCons (eVar 9) aNil))) aNil))) (eVar 5)))))
  (sMove 4 7))))
  (sRet (eOp dgD (eVar 4) (eVar 3))))))
structure m_told_narrowest (ds : List D) (c : Nat) (Q : KD) : Prop where
  len : ds.length = 3
  run : runM 11 g_told_narrowest ds c Q
theorem p_told_narrowest : ∀ ds c Q, m_told_narrowest ds c Q → runM 11 g_told_narrowest ds c Q := fun _ _ _ h => h.2
theorem l_told_narrowest : ∀ ds c Q, m_told_narrowest ds c Q → ds.length = 3 := fun _ _ _ h => h.1
abbrev s_look_at_lines : Stmt := topS 19
theorem sc_look_at_lines : FnScope ["words", "gap", "lines"] ["words", "gap", "lines"] (defScope s_look_at_lines) := ⟨rfl, rfl, rfl, by decide +kernel, rfl, by decide +kernel, by decide +kernel⟩
def g_look_at_lines : FS :=
  (sSeq (sExpr (eCall m_look_at_words (aCons (eVar 0) (aCons (eVar 1) aNil))))
  (sIf (tN3 (tV (eCall m_is_int (aCons (eVar 2) (aCons (eC (.int 1)) (aCons (eB lenM (aCons (eVar 0) aNil)) aNil))))))
  sNever
  sNil))
structure m_look_at_lines (ds : List D) (c : Nat) (Q : KD) : Prop where
  len : ds.length = 3
  run : runM 3 g_look_at_lines ds c Q
theorem p_look_at_lines : ∀ ds c Q, m_look_at_lines ds c Q → runM 3 g_look_at_lines ds c Q := fun _ _ _ h => h.2
theorem l_look_at_lines : ∀ ds c Q, m_look_at_lines ds c Q → ds.length = 3 := fun _ _ _ h => h.1
abbrev s_narrowest : Stmt := topS 20
theorem sc_narrowest : FnScope ["words", "gap", "lines"] ["words", "gap", "lines"] (defScope s_narrowest) := ⟨rfl, rfl, rfl, by decide +kernel, rfl, by decide +kernel, by decide +kernel⟩
def g_narrowest : FS :=
  (sSeq (sExpr (eCall m_look_at_lines (aCons (eVar 0) (aCons (eVar 1) (aCons (eVar 2) aNil)))))
  (sRet (eCall m_told_narrowest (aCons (eVar 0) (aCons (eVar 1) (aCons (eVar 2) aNil))))))
structure m_narrowest (ds : List D) (c : Nat) (Q : KD) : Prop where
  len : ds.length = 3
  run : runM 3 g_narrowest ds c Q
theorem p_narrowest : ∀ ds c Q, m_narrowest ds c Q → runM 3 g_narrowest ds c Q := fun _ _ _ h => h.2
theorem l_narrowest : ∀ ds c Q, m_narrowest ds c Q → ds.length = 3 := fun _ _ _ h => h.1
abbrev s_fewest_lines : Stmt := topS 21
theorem sc_fewest_lines : FnScope ["words", "gap", "width", "breaks", "start", "at"] ["words", "gap", "width"] (defScope s_fewest_lines) := ⟨rfl, rfl, rfl, by decide +kernel, rfl, by decide +kernel, by decide +kernel⟩
def g_fewest_lines : FS :=
  (sSeq (sExpr (eCall m_look_at_words (aCons (eVar 0) (aCons (eVar 1) aNil))))
  (sSeq (sIf (tN3 (tV (eCall m_is_int (aCons (eVar 2) (aCons (eC (.int 1)) (aCons (eOp mulD (eC (.int 1000000)) (eC (.int 40))) aNil))))))
  sNever
  sNil)
  (sSeq (sIf (tV (eOp gtD (eB maxM (aCons (eVar 0) aNil)) (eVar 2)))
  (sRet (eC .non))
  sNil)
  (sSeq (sParN [3, 4] [.f (fLst aNil), .e (eC (.int 0))])
  (sSeq (sFor (iR2 (aCons (eC (.int 1)) (aCons (eB lenM (aCons (eVar 0) aNil)) aNil))) (gN 5)
  (sIf (tV (eOp gtD (eCall m_width_of (aCons (eVar 0) (aCons (eVar 1) (aCons (eVar 4) (aCons (eOp addD (eVar 5) (eC (.int 1))) aNil))))) (eVar 2)))
  (sSeq (sApp 3 (eVar 5))
  (sAsg (gN 4) (eVar 5)))
  sNil))
  (sRet (eB tupleM (aCons (eVar 3) aNil))))))))
structure m_fewest_lines (ds : List D) (c : Nat) (Q : KD) : Prop where
  len : ds.length = 3
  run : runM 6 g_fewest_lines ds c Q
theorem p_fewest_lines : ∀ ds c Q, m_fewest_lines ds c Q → runM 6 g_fewest_lines ds c Q := fun _ _ _ h => h.2
theorem l_fewest_lines : ∀ ds c Q, m_fewest_lines ds c Q → ds.length = 3 := fun _ _ _ h => h.1
abbrev s_look_at_back : Stmt := topS 22
theorem sc_look_at_back : FnScope ["words", "gap", "high", "wide", "tall", "number"] ["words", "gap", "high", "wide", "tall"] (defScope s_look_at_back) := ⟨rfl, rfl, rfl, by decide +kernel, rfl, by decide +kernel, by decide +kernel⟩
def g_look_at_back : FS :=
  (sSeq (sExpr (eCall m_look_at_words (aCons (eVar 0) (aCons (eVar 1) aNil))))
  (sFor (iSeq (eTup (aCons (eVar 2) (aCons (eVar 3) (aCons (eVar 4) aNil))))) (gN 5)
  (sIf (tN3 (tV (eCall m_is_int (aCons (eVar 5) (aCons (eC (.int 1)) (aCons (eC (.int 1000000)) aNil))))))
  sNever
  sNil)))
structure m_look_at_back (ds : List D) (c : Nat) (Q : KD) : Prop where
  len : ds.length = 5
  run : runM 6 g_look_at_back ds c Q
theorem p_look_at_back : ∀ ds c Q, m_look_at_back ds c Q → runM 6 g_look_at_back ds c Q := fun _ _ _ h => h.2
theorem l_look_at_back : ∀ ds c Q, m_look_at_back ds c Q → ds.length = 5 := fun _ _ _ h => h.1
abbrev s_told_greatest : Stmt := topS 23
theorem sc_told_greatest : FnScope ["words", "gap", "high", "wide", "tall", "best", "lines", "width", "breaks", "first", "last", "size"] ["words", "gap", "high", "wide", "tall"] (defScope s_told_greatest) := ⟨rfl, rfl, rfl, by decide +kernel, rfl, by decide +kernel, by decide +kernel⟩
def g_told_greatest : FS :=
  (sSeq (sAsg (gN 5) (eC .non))
  (sSeq (sFor (iR2 (aCons (eC (.int 1)) (aCons (eOp addD (eB lenM (aCons (eVar 0) aNil)) (eC (.int 1))) aNil))) (gN 6)
  (sSeq (sAsg (gT 2 (gsCons (gN 7) (gsCons (gN 8) gsNil))) (eCall m_told_narrowest (aCons (eVar 0) (aCons (eVar 1) (aCons (eVar 6) aNil)))))
  (sSeq (sPar 9 10 (aCons (eTup (aCons (eVar 3) (aCons (eVar 7) aNil))) (aCons (eTup (aCons (eVar 4) (aCons (eOp mulD (eVar 6) (eVar 2)) aNil))) aNil)))
  (sSeq (sAsg (gN 11) (eIf3 (tV (eOp leD (eOp mulD (eOp ixD (eVar 9) (eC (.int 0))) (eOp ixD (eVar 10) (eC (.int 1)))) (eOp mulD (eOp ixD (eVar 10) (eC (.int 0))) (eOp ixD (eVar 9) (eC (.int 1)))))) (eVar 9) (eVar 10)))
  (sIf (tO3 (tV (eOp isD (eVar 5) (eC .non))) (tV (eOp gtD (eOp mulD (eOp ixD (eVar 11) (eC (.int 0))) (eOp ixD (eOp ixD (eVar 5) (eC (.int 0))) (eC (.int 1)))) (eOp mulD (eOp ixD (eOp ixD (eVar 5) (eC (.int 0))) (eC (.int 0))) (eOp ixD (eVar 11) (eC (.int 1)))))))
  (sAsg (gN 5) (eTup (aCons (eVar 11) (aCons (eVar 8) aNil))))
  sNil)))))
  (sRet (eTup (aStar (eCall m_lowest (aCons (eOp ixD (eOp ixD (eVar 5) (eC (.int 0))) (eC (.int 0))) (aCons (eOp ixD (eOp ixD (eVar 5) (eC (.int 0))) (eC (.int 1))) aNil))) (aCons (eOp ixD (eVar 5) (eC (.int 1))) aNil))))))
structure m_told_greatest (ds : List D) (c : Nat) (Q : KD) : Prop where
  len : ds.length = 5
  run : runM 12 g_told_greatest ds c Q
theorem p_told_greatest : ∀ ds c Q, m_told_greatest ds c Q → runM 12 g_told_greatest ds c Q := fun _ _ _ h => h.2
theorem l_told_greatest : ∀ ds c Q, m_told_greatest ds c Q → ds.length = 5 := fun _ _ _ h => h.1
abbrev s_greatest_letters : Stmt := topS 24
theorem sc_greatest_letters : FnScope ["words", "gap", "high", "wide", "tall"] ["words", "gap", "high", "wide", "tall"] (defScope s_greatest_letters) := ⟨rfl, rfl, rfl, by decide +kernel, rfl, by decide +kernel, by decide +kernel⟩
def g_greatest_letters : FS :=
  (sSeq (sExpr (eCall m_look_at_back (aCons (eVar 0) (aCons (eVar 1) (aCons (eVar 2) (aCons (eVar 3) (aCons (eVar 4) aNil)))))))
  (sRet (eCall m_told_greatest (aCons (eVar 0) (aCons (eVar 1) (aCons (eVar 2) (aCons (eVar 3) (aCons (eVar 4) aNil))))))))
structure m_greatest_letters (ds : List D) (c : Nat) (Q : KD) : Prop where
  len : ds.length = 5
  run : runM 5 g_greatest_letters ds c Q
theorem p_greatest_letters : ∀ ds c Q, m_greatest_letters ds c Q → runM 5 g_greatest_letters ds c Q := fun _ _ _ h => h.2
theorem l_greatest_letters : ∀ ds c Q, m_greatest_letters ds c Q → ds.length = 5 := fun _ _ _ h => h.1
abbrev s_shows_greatest_letters : Stmt := topS 25
theorem sc_shows_greatest_letters : FnScope ["words", "gap", "high", "wide", "tall", "value", "top", "bottom", "lines"] ["words", "gap", "high", "wide", "tall", "value"] (defScope s_shows_greatest_letters) := ⟨rfl, rfl, rfl, by decide +kernel, rfl, by decide +kernel, by decide +kernel⟩
def g_shows_greatest_letters : FS :=
  (sSeq (sExpr (eCall m_look_at_back (aCons (eVar 0) (aCons (eVar 1) (aCons (eVar 2) (aCons (eVar 3) (aCons (eVar 4) aNil)))))))
  (sSeq (sIf (tO3 (tN3 (tV (eB isiM (aCons (eVar 5) (aCons (eC (.ty "tuple")) aNil))))) (tO3 (tV (eOp neD (eB lenM (aCons (eVar 5) aNil)) (eOp addD (eC (.int 2)) (eC (.int 1))))) (tN3 (tV (eCall m_are_breaks (aCons (eVar 0) (aCons (eOp ixD (eVar 5) (eC (.int 2))) aNil)))))))
  (sRet (eC (.bl false)))
  sNil)
  (sSeq (sAsg (gT 2 (gsCons (gN 6) (gsCons (gN 7) gsNil))) (eSl (eCall m_told_greatest (aCons (eVar 0) (aCons (eVar 1) (aCons (eVar 2) (aCons (eVar 3) (aCons (eVar 4) aNil)))))) oNone (oSome (eC (.int 2)))))
  (sSeq (sIf (tO3 (tN3 (tV (eCall m_is_int (aCons (eOp ixD (eVar 5) (eC (.int 0))) (aCons (eVar 6) (aCons (eVar 6) aNil)))))) (tN3 (tV (eCall m_is_int (aCons (eOp ixD (eVar 5) (eC (.int 1))) (aCons (eVar 7) (aCons (eVar 7) aNil)))))))
  (sRet (eC (.bl false)))
  sNil)
  (sSeq (sAsg (gN 8) (eCall m_told_lines (aCons (eVar 0) (aCons (eVar 1) (aCons (eOp ixD (eVar 5) (eC (.int 2))) aNil)))))
  (sRet (eAnd (eOp leD (eOp mulD (eB maxM (aCons (eVar 8) aNil)) (eVar 6)) (eOp mulD (eVar 3) (eVar 7))) (eOp leD (eOp mulD (eOp mulD (eB lenM (aCons (eVar 8) aNil)) (eVar 2)) (eVar 6)) (eOp mulD (eVar 4) (eVar 7))))))))))
structure m_shows_greatest_letters (ds : List D) (c : Nat) (Q : KD) : Prop where
  len : ds.length = 6
  run : runM 9 g_shows_greatest_letters ds c Q
theorem p_shows_greatest_letters : ∀ ds c Q, m_shows_greatest_letters ds c Q → runM 9 g_shows_greatest_letters ds c Q := fun _ _ _ h => h.2
theorem l_shows_greatest_letters : ∀ ds c Q, m_shows_greatest_letters ds c Q → ds.length = 6 := fun _ _ _ h => h.1
abbrev s_law_pot : Stmt := topS 27
theorem sc_law_pot : FnScope ["script", "place", "cell", "own", "small"] ["script", "place"] (defScope s_law_pot) := ⟨rfl, rfl, rfl, by decide +kernel, rfl, by decide +kernel, by decide +kernel⟩
def g_law_pot : FSF :=
  (sThenF (sAsg (gN 2) (eIf3 (tV (eOp ltD (eVar 1) (eB lenM (aCons (eVar 0) aNil)))) (eOp ixD (eVar 0) (eVar 1)) (eOp addD (eOp addD (eOp modD (eB intM (aCons (eB sum2M (aCons (eSl (eVar 0) oNone (oSome (eC (.int 1)))) aNil)) aNil)) (eC (.int 1000249))) (eOp mulD (eC (.int 6421)) (eVar 1))) (eC (.int 3907)))))
  (sThenF (sAsg (gN 3) (eOp mulD (eOp modD (eB intM (aCons (eB absM (aCons (eVar 2) aNil)) aNil)) (eOp powD (eOp powD (eC (.int 10)) (eC (.int 60))) (eC (.int 5)))) (eB intM (aCons (eOp geD (eB absM (aCons (eVar 2) aNil)) (eOp powD (eC (.int 10)) (eC (.int 18)))) aNil))))
  (sThenF (sAsg (gN 4) (eOp modD (eB intM (aCons (eVar 2) aNil)) (eC (.int 2305843009213693951))))
  (sRetF (fLst (aCons (eVar 3) (aCons (eOp modD (eB intM (aCons (eOp addD (eOp addD (eOp mulD (eVar 4) (eC (.int 92003))) (eOp mulD (eOp mulD (eC (.int 12899)) (eVar 1)) (eVar 1))) (eC (.int 3407))) aNil)) (eC (.int 2305843009213693921))) (aCons (eC (.int 0)) aNil))))))))
structure m_law_pot (ds : List D) (c : Nat) (Q : List D → Nat → Prop) : Prop where
  len : ds.length = 2
  run : g_law_pot Q (start3 5 ds) c
theorem p_law_pot : ∀ ds c Q, m_law_pot ds c Q → g_law_pot Q (start3 5 ds) c := fun _ _ _ h => h.2
theorem l_law_pot : ∀ ds c Q, m_law_pot ds c Q → ds.length = 2 := fun _ _ _ h => h.1
abbrev s_law_take : Stmt := topS 28
theorem sc_law_take : FnScope ["pot", "upto", "digit", "prime", "blend"] ["pot", "upto"] (defScope s_law_take) := ⟨rfl, rfl, rfl, by decide +kernel, rfl, by decide +kernel, by decide +kernel⟩
def g_law_take : FS :=
  (sSeq (sIf (tV (eOp gtD (ePot 0 0) (eC (.int 0))))
  (sSeq (sAsg (gN 2) (eOp modD (eB intM (aCons (ePot 0 0) aNil)) (eVar 1)))
  (sSeq (sPot 0 0 (eOp fdivD (ePot 0 0) (eVar 1)))
  (sRet (eVar 2))))
  sNil)
  (sSeq (sPot 0 2 (eOp addD (ePot 0 2) (eC (.int 1))))
  (sSeq (sAsg (gN 3) (eOp ixD (eLst (aCons (eC (.int 2147483647)) (aCons (eC (.int 2147483629)) (aCons (eC (.int 2147483587)) (aCons (eC (.int 2147483579)) (aCons (eC (.int 2147483563)) aNil)))))) (eOp modD (eB intM (aCons (ePot 0 2) aNil)) (eC (.int 5)))))
  (sSeq (sAsg (gN 4) (eOp modD (eB intM (aCons (eOp powD (eB intM (aCons (eOp addD (eOp addD (ePot 0 1) (eOp mulD (eOp mulD (eC (.int 102811)) (ePot 0 2)) (ePot 0 2))) (eC (.int 3907))) aNil)) (eC (.int 3))) aNil)) (eVar 3)))
  (sSeq (sAsg (gN 4) (eOp modD (eB intM (aCons (eOp mulD (eVar 4) (eOp addD (eOp modD (eB intM (aCons (eVar 4) aNil)) (eC (.int 13049))) (eOp mulD (eC (.int 421)) (ePot 0 2)))) aNil)) (eC (.int 2305843009213693907))))
  (sRet (eOp modD (eB intM (aCons (eOp fdivD (eVar 4) (eC (.int 263))) aNil)) (eVar 1))))))))
abbrev s_law_cells : Stmt := topS 29
theorem sc_law_cells : FnScope ["script", "most"] ["script", "most"] (defScope s_law_cells) := ⟨rfl, rfl, rfl, by decide +kernel, rfl, by decide +kernel, by decide +kernel⟩
def g_law_cells : FS :=
  (sRet (eF (fRange1 (aCons (eB max2M (aCons (eC (.int 1)) (aCons (eB min2M (aCons (eVar 1) (aCons (eB lenM (aCons (eVar 0) aNil)) aNil))) aNil))) aNil))))
structure m_law_cells (ds : List D) (c : Nat) (Q : KD) : Prop where
  len : ds.length = 2
  run : runM 2 g_law_cells ds c Q
theorem p_law_cells : ∀ ds c Q, m_law_cells ds c Q → runM 2 g_law_cells ds c Q := fun _ _ _ h => h.2
theorem l_law_cells : ∀ ds c Q, m_law_cells ds c Q → ds.length = 2 := fun _ _ _ h => h.1
abbrev s_law_is_less : Stmt := topS 30
theorem sc_law_is_less : FnScope ["one", "other"] ["one", "other"] (defScope s_law_is_less) := ⟨rfl, rfl, rfl, by decide +kernel, rfl, by decide +kernel, by decide +kernel⟩
def g_law_is_less : FS :=
  (sRet (eOp ltD (eOp mulD (eOp ixD (eVar 0) (eC (.int 0))) (eOp ixD (eVar 1) (eC (.int 1)))) (eOp mulD (eOp ixD (eVar 1) (eC (.int 0))) (eOp ixD (eVar 0) (eC (.int 1))))))
structure m_law_is_less (ds : List D) (c : Nat) (Q : KD) : Prop where
  len : ds.length = 2
  run : runM 2 g_law_is_less ds c Q
theorem p_law_is_less : ∀ ds c Q, m_law_is_less ds c Q → runM 2 g_law_is_less ds c Q := fun _ _ _ h => h.2
theorem l_law_is_less : ∀ ds c Q, m_law_is_less ds c Q → ds.length = 2 := fun _ _ _ h => h.1
abbrev s_law_right : Stmt := topS 31
theorem sc_law_right : FnScope ["pot", "lap", "words", "word", "gap", "many", "widths", "before", "lines", "width", "breaks", "told", "wide", "fit", "at", "high", "tall", "top", "bottom", "best", "size", "more", "back", "times", "far", "wider"] ["pot"] (defScope s_law_right) := ⟨rfl, rfl, rfl, by decide +kernel, rfl, by decide +kernel, by decide +kernel⟩
def g_law_right_t1 : FS :=
  (sAsg (gN 7) (eVar 9))
def g_law_right_t2 : FS :=
  (sSeq (sIf (tO3 (tA3 (tV (eOp isNotD (eVar 7) (eC .non))) (tV (eOp gtD (eVar 9) (eVar 7)))) (tO3 (tV (eOp ltD (eVar 9) (eB maxM (aCons (eVar 2) aNil)))) (tV (eOp ltD (eOp mulD (eVar 9) (eVar 8)) (eB sum2M (aCons (eVar 2) aNil))))))
  (sRet (eC (.bl false)))
  sNil)
  g_law_right_t1)
def g_law_right_t3 : FS :=
  (sSeq (sAsg (gN 25) (eCall m_greatest_letters (aCons (eB tupleM (aCons (eF (fComp (iSeq (eVar 2)) (gN 3) tYes3 (eOp mulD (eVar 23) (eVar 3)) [3])) aNil)) (aCons (eOp mulD (eVar 23) (eVar 4)) (aCons (eOp mulD (eVar 23) (eVar 15)) (aCons (eVar 12) (aCons (eVar 16) aNil)))))))
  (sIf (tV (eOp neD (eOp mulD (eOp mulD (eVar 23) (eOp ixD (eVar 25) (eC (.int 0)))) (eVar 18)) (eOp mulD (eVar 17) (eOp ixD (eVar 25) (eC (.int 1))))))
  (sRet (eC (.bl false)))
  sNil))
def g_law_right_t4 : FS :=
  (sSeq (sIf (tV (eOp isNotBD (eCall m_shows_greatest_letters (aCons (eVar 2) (aCons (eVar 4) (aCons (eVar 15) (aCons (eVar 12) (aCons (eVar 16) (aCons (eTup (aCons (eVar 17) (aCons (eVar 18) (aCons (eVar 10) aNil)))) aNil))))))) (eC (.bl true))))
  (sRet (eC (.bl false)))
  sNil)
  g_law_right_t3)
def g_law_right_t5 : FS :=
  (sSeq (sAsg (gN 23) (eOp addD (eC (.int 2)) (eB intM (aCons (eCall m_law_take (aCons (eVar 0) (aCons (eC (.int 5)) aNil))) aNil))))
  (sSeq (sAsg (gN 24) (eCall m_greatest_letters (aCons (eVar 2) (aCons (eVar 4) (aCons (eVar 15) (aCons (eOp mulD (eVar 23) (eVar 12)) (aCons (eOp mulD (eVar 23) (eVar 16)) aNil)))))))
  (sSeq (sIf (tV (eOp neD (eOp mulD (eOp ixD (eVar 24) (eC (.int 0))) (eVar 18)) (eOp mulD (eOp mulD (eVar 23) (eVar 17)) (eOp ixD (eVar 24) (eC (.int 1))))))
  (sRet (eC (.bl false)))
  sNil)
  g_law_right_t4)))
def g_law_right_t6 : FS :=
  (sSeq (sAsg (gN 21) (eOp addD (eC (.int 1)) (eB intM (aCons (eCall m_law_take (aCons (eVar 0) (aCons (eC (.int 50)) aNil))) aNil))))
  (sSeq (sFor (iSeq (eTup (aCons (eTup (aCons (eOp addD (eVar 12) (eVar 21)) (aCons (eVar 16) aNil))) (aCons (eTup (aCons (eVar 12) (aCons (eOp addD (eVar 16) (eVar 21)) aNil))) aNil)))) (gN 22)
  (sIf (tV (eCall m_law_is_less (aCons (eSl (eCall m_greatest_letters (aCons (eVar 2) (aCons (eVar 4) (aCons (eVar 15) (aCons (eOp ixD (eVar 22) (eC (.int 0))) (aCons (eOp ixD (eVar 22) (eC (.int 1))) aNil)))))) oNone (oSome (eC (.int 2)))) (aCons (eTup (aCons (eVar 17) (aCons (eVar 18) aNil))) aNil))))
  (sRet (eC (.bl false)))
  sNil))
  g_law_right_t5))
def g_law_right_t7 : FS :=
  (sSeq (sIf (tV (eOp neD (eOp mulD (eOp ixD (eVar 19) (eC (.int 0))) (eVar 18)) (eOp mulD (eVar 17) (eOp ixD (eVar 19) (eC (.int 1))))))
  (sRet (eC (.bl false)))
  sNil)
  g_law_right_t6)
def g_law_right_t8 : FS :=
  (sSeq (sPar 15 16 (aCons (eOp addD (eC (.int 1)) (eB intM (aCons (eCall m_law_take (aCons (eVar 0) (aCons (eC (.int 9)) aNil))) aNil))) (aCons (eOp addD (eC (.int 1)) (eB intM (aCons (eCall m_law_take (aCons (eVar 0) (aCons (eC (.int 200)) aNil))) aNil))) aNil)))
  (sSeq (sAsg (gT 3 (gsCons (gN 17) (gsCons (gN 18) (gsCons (gN 10) gsNil)))) (eCall m_greatest_letters (aCons (eVar 2) (aCons (eVar 4) (aCons (eVar 15) (aCons (eVar 12) (aCons (eVar 16) aNil)))))))
  (sSeq (sAsg (gN 19) (eTup (aCons (eC (.int 0)) (aCons (eC (.int 1)) aNil))))
  (sSeq (sFrz 6 (sFor (iEnum3 (eVar 6)) (gT 2 (gsCons (gN 14) (gsCons (gN 9) gsNil)))
  (sSeq (sAsg (gN 20) (eIf3 (tV (eCall m_law_is_less (aCons (eTup (aCons (eVar 12) (aCons (eVar 9) aNil))) (aCons (eTup (aCons (eVar 16) (aCons (eOp mulD (eVar 15) (eOp addD (eVar 14) (eC (.int 1)))) aNil))) aNil)))) (eTup (aCons (eVar 12) (aCons (eVar 9) aNil))) (eTup (aCons (eVar 16) (aCons (eOp mulD (eVar 15) (eOp addD (eVar 14) (eC (.int 1)))) aNil)))))
  (sAsg (gN 19) (eIf3 (tV (eCall m_law_is_less (aCons (eVar 19) (aCons (eVar 20) aNil)))) (eVar 20) (eVar 19))))))
  g_law_right_t7))))
def g_law_right_t9 : FS :=
  (sSeq (sAsgB (gN 12) (eOp addD (eC (.int 1)) (eB intM (aCons (eCall m_law_take (aCons (eVar 0) (aCons (eOp addD (eOp ixD (eVar 6) (eC (.int 0))) (eC (.int 9))) aNil))) aNil))))
  (sSeq (sAsg (gN 10) (eCall m_fewest_lines (aCons (eVar 2) (aCons (eVar 4) (aCons (eVar 12) aNil)))))
  (sSeq (sValFB 13 (fComp (iEnum3 (eVar 6)) (gT 2 (gsCons (gN 14) (gsCons (gN 9) gsNil))) (tV (eOp leD (eVar 9) (eVar 12))) (eOp addD (eVar 14) (eC (.int 1))) [14, 9]))
  (sSeq (sIf (tO3 (tV (eOp neD (eOp isD (eVar 10) (eC .non)) (eOp eqD (eVar 13) (eLst aNil)))) (tA3 (tV (eOp isNotD (eVar 10) (eC .non))) (tV (eOp neD (eOp addD (eB lenM (aCons (eVar 10) aNil)) (eC (.int 1))) (eOp ixD (eVar 13) (eC (.int 0)))))))
  (sRet (eC (.bl false)))
  sNil)
  g_law_right_t8))))
def g_law_right_t10 : FS :=
  (sSeq (sAsg (gN 8) (eOp addD (eC (.int 1)) (eB intM (aCons (eCall m_law_take (aCons (eVar 0) (aCons (eVar 5) aNil))) aNil))))
  (sSeq (sIf (tV (eOp neD (eOp ixD (eCall m_narrowest (aCons (eUn revD (eVar 2)) (aCons (eVar 4) (aCons (eVar 8) aNil)))) (eC (.int 0))) (eOp ixD (eVar 6) (eOp subD (eVar 8) (eC (.int 1))))))
  (sRet (eC (.bl false)))
  sNil)
  g_law_right_t9))
def g_law_right_t11 : FS :=
  (sSeq (sIf (tO3 (tV (eOp neD (eOp ixD (eVar 6) (eC (.int 0))) (eOp addD (eB sum2M (aCons (eVar 2) aNil)) (eOp mulD (eVar 4) (eOp subD (eVar 5) (eC (.int 1))))))) (tV (eOp neD (eOp ixD (eVar 6) (eUn negD (eC (.int 1)))) (eB maxM (aCons (eVar 2) aNil)))))
  (sRet (eC (.bl false)))
  sNil)
  g_law_right_t10)
def g_law_right_t12 : FS :=
  (sRet (eC (.bl true)))
def g_law_right : FS :=
  (sSeq (sFor (iR1 (aCons (eC (.int 10)) aNil)) (gN 1)
  (sSeq (sAsg (gN 2) (eB tupleM (aCons (eF (fComp (iR1 (aCons (eOp addD (eC (.int 1)) (eCall m_law_take (aCons (eVar 0) (aCons (eIf3 (tV (eOp eqD (eVar 1) (eC (.int 0)))) (eC (.int 14)) (eC (.int 8))) aNil)))) aNil)) (gN 3) tYes3 (eOp addD (eC (.int 1)) (eB intM (aCons (eCall m_law_take (aCons (eVar 0) (aCons (eC (.int 30)) aNil))) aNil))) [3])) aNil)))
  (sSeq (sPar 4 5 (aCons (eB intM (aCons (eCall m_law_take (aCons (eVar 0) (aCons (eC (.int 6)) aNil))) aNil)) (aCons (eB lenM (aCons (eVar 2) aNil)) aNil)))
  (sSeq (sParN [6, 7] [.f (fLst aNil), .e (eC .non)])
  (sSeq (sFor (iR2 (aCons (eC (.int 1)) (aCons (eOp addD (eVar 5) (eC (.int 1))) aNil))) (gN 8)
  (sSeq (sAsg (gT 2 (gsCons (gN 9) (gsCons (gN 10) gsNil))) (eCall m_narrowest (aCons (eVar 2) (aCons (eVar 4) (aCons (eVar 8) aNil)))))
  (sSeq (sApp 6 (eVar 9))
  (sSeq (sAsg (gN 11) (eCall m_lines_of (aCons (eVar 2) (aCons (eVar 4) (aCons (eVar 10) aNil)))))
  (sSeq (sIf (tO3 (tV (eOp neD (eB lenM (aCons (eVar 11) aNil)) (eVar 8))) (tO3 (tV (eOp neD (eB maxM (aCons (eVar 11) aNil)) (eVar 9))) (tV (eOp neD (eB sum2M (aCons (eVar 11) aNil)) (eOp addD (eB sum2M (aCons (eVar 2) aNil)) (eOp mulD (eVar 4) (eOp subD (eVar 5) (eVar 8))))))))
  (sRet (eC (.bl false)))
  sNil)
  g_law_right_t2)))))
  g_law_right_t11)))))
  g_law_right_t12)
structure m_law_right (ds : List D) (c : Nat) (Q : KD) : Prop where
  len : ds.length = 1
  run : runM 26 g_law_right ds c Q
theorem p_law_right : ∀ ds c Q, m_law_right ds c Q → runM 26 g_law_right ds c Q := fun _ _ _ h => h.2
theorem l_law_right : ∀ ds c Q, m_law_right ds c Q → ds.length = 1 := fun _ _ _ h => h.1
abbrev s_law : Stmt := topS 32
theorem sc_law : FnScope ["script", "at"] ["script"] (defScope s_law) := ⟨rfl, rfl, rfl, by decide +kernel, rfl, by decide +kernel, by decide +kernel⟩
def g_law : FS :=
  (sRet (eB allM (aCons (eF (fComp (iSeq (eCall m_law_cells (aCons (eVar 0) (aCons (eC (.int 3)) aNil)))) (gN 1) tYes3 (ePotCall m_law_pot m_law_right (aCons (eVar 0) (aCons (eVar 1) aNil))) [1])) aNil)))
structure m_law (ds : List D) (c : Nat) (Q : KD) : Prop where
  len : ds.length = 1
  run : runM 2 g_law ds c Q
theorem p_law : ∀ ds c Q, m_law ds c Q → runM 2 g_law ds c Q := fun _ _ _ h => h.2
theorem l_law : ∀ ds c Q, m_law ds c Q → ds.length = 1 := fun _ _ _ h => h.1
structure Top (K : PySem.W.Frag) (mg : Str → Option Value) (base : Heap) where
  a_is_int : Addr
  fd_is_int : FuncData
  F_is_int : Fun K "is_int" "is_int" s_is_int a_is_int fd_is_int
  b_is_int : Binds K fd_is_int ["value", "low", "high"] []
  m_is_int : mg "is_int" = some (.ref a_is_int)
  a_are_ints : Addr
  fd_are_ints : FuncData
  F_are_ints : Fun K "are_ints" "are_ints" s_are_ints a_are_ints fd_are_ints
  b_are_ints : Binds K fd_are_ints ["value", "low", "high"] []
  m_are_ints : mg "are_ints" = some (.ref a_are_ints)
  a_common : Addr
  fd_common : FuncData
  F_common : Fun K "common" "common" s_common a_common fd_common
  b_common : Binds K fd_common ["one", "other"] []
  m_common : mg "common" = some (.ref a_common)
  a_lowest : Addr
  fd_lowest : FuncData
  F_lowest : Fun K "lowest" "lowest" s_lowest a_lowest fd_lowest
  b_lowest : Binds K fd_lowest ["top", "bottom"] []
  m_lowest : mg "lowest" = some (.ref a_lowest)
  a_look_at_words : Addr
  fd_look_at_words : FuncData
  F_look_at_words : Fun K "look_at_words" "look_at_words" s_look_at_words a_look_at_words fd_look_at_words
  b_look_at_words : Binds K fd_look_at_words ["words", "gap"] []
  m_look_at_words : mg "look_at_words" = some (.ref a_look_at_words)
  a_width_of : Addr
  fd_width_of : FuncData
  F_width_of : Fun K "width_of" "width_of" s_width_of a_width_of fd_width_of
  b_width_of : Binds K fd_width_of ["words", "gap", "first", "last"] []
  m_width_of : mg "width_of" = some (.ref a_width_of)
  a_told_lines : Addr
  fd_told_lines : FuncData
  F_told_lines : Fun K "told_lines" "told_lines" s_told_lines a_told_lines fd_told_lines
  b_told_lines : Binds K fd_told_lines ["words", "gap", "breaks"] []
  m_told_lines : mg "told_lines" = some (.ref a_told_lines)
  a_are_breaks : Addr
  fd_are_breaks : FuncData
  F_are_breaks : Fun K "are_breaks" "are_breaks" s_are_breaks a_are_breaks fd_are_breaks
  b_are_breaks : Binds K fd_are_breaks ["words", "value"] []
  m_are_breaks : mg "are_breaks" = some (.ref a_are_breaks)
  a_lines_of : Addr
  fd_lines_of : FuncData
  F_lines_of : Fun K "lines_of" "lines_of" s_lines_of a_lines_of fd_lines_of
  b_lines_of : Binds K fd_lines_of ["words", "gap", "breaks"] []
  m_lines_of : mg "lines_of" = some (.ref a_lines_of)
  a_told_narrowest : Addr
  fd_told_narrowest : FuncData
  F_told_narrowest : Fun K "told_narrowest" "told_narrowest" s_told_narrowest a_told_narrowest fd_told_narrowest
  b_told_narrowest : Binds K fd_told_narrowest ["words", "gap", "lines"] []
  m_told_narrowest : mg "told_narrowest" = some (.ref a_told_narrowest)
  a_look_at_lines : Addr
  fd_look_at_lines : FuncData
  F_look_at_lines : Fun K "look_at_lines" "look_at_lines" s_look_at_lines a_look_at_lines fd_look_at_lines
  b_look_at_lines : Binds K fd_look_at_lines ["words", "gap", "lines"] []
  m_look_at_lines : mg "look_at_lines" = some (.ref a_look_at_lines)
  a_narrowest : Addr
  fd_narrowest : FuncData
  F_narrowest : Fun K "narrowest" "narrowest" s_narrowest a_narrowest fd_narrowest
  b_narrowest : Binds K fd_narrowest ["words", "gap", "lines"] []
  m_narrowest : mg "narrowest" = some (.ref a_narrowest)
  a_fewest_lines : Addr
  fd_fewest_lines : FuncData
  F_fewest_lines : Fun K "fewest_lines" "fewest_lines" s_fewest_lines a_fewest_lines fd_fewest_lines
  b_fewest_lines : Binds K fd_fewest_lines ["words", "gap", "width"] []
  m_fewest_lines : mg "fewest_lines" = some (.ref a_fewest_lines)
  a_look_at_back : Addr
  fd_look_at_back : FuncData
  F_look_at_back : Fun K "look_at_back" "look_at_back" s_look_at_back a_look_at_back fd_look_at_back
  b_look_at_back : Binds K fd_look_at_back ["words", "gap", "high", "wide", "tall"] []
  m_look_at_back : mg "look_at_back" = some (.ref a_look_at_back)
  a_told_greatest : Addr
  fd_told_greatest : FuncData
  F_told_greatest : Fun K "told_greatest" "told_greatest" s_told_greatest a_told_greatest fd_told_greatest
  b_told_greatest : Binds K fd_told_greatest ["words", "gap", "high", "wide", "tall"] []
  m_told_greatest : mg "told_greatest" = some (.ref a_told_greatest)
  a_greatest_letters : Addr
  fd_greatest_letters : FuncData
  F_greatest_letters : Fun K "greatest_letters" "greatest_letters" s_greatest_letters a_greatest_letters fd_greatest_letters
  b_greatest_letters : Binds K fd_greatest_letters ["words", "gap", "high", "wide", "tall"] []
  m_greatest_letters : mg "greatest_letters" = some (.ref a_greatest_letters)
  a_shows_greatest_letters : Addr
  fd_shows_greatest_letters : FuncData
  F_shows_greatest_letters : Fun K "shows_greatest_letters" "shows_greatest_letters" s_shows_greatest_letters a_shows_greatest_letters fd_shows_greatest_letters
  b_shows_greatest_letters : Binds K fd_shows_greatest_letters ["words", "gap", "high", "wide", "tall", "value"] []
  m_shows_greatest_letters : mg "shows_greatest_letters" = some (.ref a_shows_greatest_letters)
  a_law_pot : Addr
  fd_law_pot : FuncData
  F_law_pot : Fun K "_law_pot" "_law_pot" s_law_pot a_law_pot fd_law_pot
  b_law_pot : Binds K fd_law_pot ["script", "place"] []
  m_law_pot : mg "_law_pot" = some (.ref a_law_pot)
  a_law_take : Addr
  fd_law_take : FuncData
  F_law_take : Fun K "_law_take" "_law_take" s_law_take a_law_take fd_law_take
  b_law_take : Binds K fd_law_take ["pot", "upto"] []
  m_law_take : mg "_law_take" = some (.ref a_law_take)
  a_law_cells : Addr
  fd_law_cells : FuncData
  F_law_cells : Fun K "_law_cells" "_law_cells" s_law_cells a_law_cells fd_law_cells
  b_law_cells : Binds K fd_law_cells ["script", "most"] []
  m_law_cells : mg "_law_cells" = some (.ref a_law_cells)
  a_law_is_less : Addr
  fd_law_is_less : FuncData
  F_law_is_less : Fun K "_law_is_less" "_law_is_less" s_law_is_less a_law_is_less fd_law_is_less
  b_law_is_less : Binds K fd_law_is_less ["one", "other"] []
  m_law_is_less : mg "_law_is_less" = some (.ref a_law_is_less)
  a_law_right : Addr
  fd_law_right : FuncData
  F_law_right : Fun K "_law_right" "_law_right" s_law_right a_law_right fd_law_right
  b_law_right : Binds K fd_law_right ["pot"] []
  m_law_right : mg "_law_right" = some (.ref a_law_right)
  a_law : Addr
  fd_law : FuncData
  F_law : Fun K "law" "law" s_law a_law fd_law
  b_law : Binds K fd_law ["script"] []
  m_law : mg "law" = some (.ref a_law)
  z_abs : mg "abs" = none
  z_all : mg "all" = none
  z_bool : mg "bool" = none
  z_enumerate : mg "enumerate" = none
  z_int : mg "int" = none
  z_isinstance : mg "isinstance" = none
  z_len : mg "len" = none
  z_list : mg "list" = none
  z_max : mg "max" = none
  z_min : mg "min" = none
  z_range : mg "range" = none
  z_sum : mg "sum" = none
  z_tuple : mg "tuple" = none
  z_zip : mg "zip" = none
  t_MOST_SIZE : Tok
  c_MOST_SIZE : mg "MOST_SIZE" = some (.int 1000000 t_MOST_SIZE)
  t_MOST_WORDS : Tok
  c_MOST_WORDS : mg "MOST_WORDS" = some (.int 40 t_MOST_WORDS)
end Law62

set_option maxHeartbeats 4000000
namespace Law62
open PySem PySem.Spec PyProof.Rows L2 L3
theorem p_law_take : ∀ ds c Q, m_law_take ds c Q → runM 5 g_law_take ds c Q := by
  intro ds c Q h
  unfold m_law_take at h
  split at h
  · rename_i n
    obtain ⟨⟨h1, h2, h3⟩, h⟩ := h
    have hq : ∀ i : Int, Q (.int (i % n)) (c + 1) := fun i => h _ (Int.emod_nonneg _ (by omega)) (Int.emod_lt_of_pos _ h1)
    simp [runM, g_law_take, start3]
    intro x hx
    split
    · exact fun x' hx' => ⟨h1, fun y hy => ⟨⟨h1, h2⟩, Int.ediv_nonneg hy (by omega), hq _⟩⟩
    · intro z z0 z1
      refine ⟨by omega, z1, fun z2 y0 y1 => ?_⟩
      obtain ⟨p, e, p0, p1⟩ := L3.five_at z2 y0 (a := 2147483647) (b := 2147483629) (c := 2147483587) (d := 2147483579) (e := 2147483563) (by decide) (by decide)
      rw [e]
      simp
      intro y a0 a1 z3 b0 b1
      refine ⟨.inl ⟨by decide, by decide⟩, fun z4 c0 c1 => ?_⟩
      have hz : z3 * z4 ≤ 1000000 * 1000000 := Int.mul_le_mul (by omega) (by omega) c0 (by decide)
      have hz0 : 0 ≤ z3 * z4 := Int.mul_nonneg b0 c0
      have hz1 : 102811 * z3 * z4 = 102811 * (z3 * z4) := Int.mul_assoc _ _ _
      refine ⟨.inr ⟨by omega, by omega⟩, .inl ?_, p0, ?_⟩
      · rw [hz1]
        generalize z3 * z4 = t at hz hz0
        omega
      · generalize (y + 102811 * z3 * z4 + 3907) ^ 3 = v
        have v0 := Int.emod_nonneg v (show p ≠ 0 by omega)
        have v1 := Int.emod_lt_of_pos v p0
        generalize v % p = u at v0 v1
        exact fun z5 d0 d1 => ⟨.inl ⟨by decide, by decide⟩, .inl ⟨by omega, by omega⟩, h1, hq _⟩
  · exact h.elim
theorem S_take {n : Int} {c : Nat} {Q : KD} (h0 : 0 < n) (h1 : n < 1073741824) (hc : c < 1000000) (q : ∀ d, 0 ≤ d → d < n → Q (.int d) (c + 1)) : m_law_take [.pot, .int n] c Q := ⟨⟨h0, h1, hc⟩, q⟩
theorem S_is_int {d : D} {lo hi : Int} {c : Nat} {Q : KD} (h : (L3.tyName d).isSome = true) (q : Q (.bl (L3.isIntB lo hi d)) c) : m_is_int [d, .int lo, .int hi] c Q := by
  refine ⟨rfl, ?_⟩
  cases d with
  | int v =>
    simp [runM, g_is_int, start3]
    refine ⟨rfl, ?_⟩
    have e : L3.isIntB lo hi (.int v) = if lo ≤ v then decide (v ≤ hi) else false := by
      show decide (lo ≤ v ∧ v ≤ hi) = _
      by_cases h : lo ≤ v <;> simp [h]
    rw [e] at q
    split
    · rename_i z
      rw [if_pos z] at q
      exact q
    · rename_i z
      rw [if_neg z] at q
      exact q
  | bl b => simp [runM, g_is_int, start3]; exact ⟨rfl, q⟩
  | non => simp [runM, g_is_int, start3]; exact ⟨rfl, q⟩
  | str s => simp [runM, g_is_int, start3]; exact ⟨rfl, q⟩
  | tup l => simp [runM, g_is_int, start3]; exact ⟨rfl, q⟩
  | lst l => simp [runM, g_is_int, start3]; exact ⟨rfl, q⟩
  | ty n => cases h
  | rf a => cases h
  | pot => cases h
  | exc n d => cases h
  | clo a o => cases h
  | dic l => simp [runM, g_is_int, start3]; exact ⟨rfl, q⟩
  | dct ks l => cases h
  | scr l => cases h
  | lam a F0 p => cases h
theorem S_int_ok {v lo hi : Int} {c : Nat} {Q : KD} (h1 : lo ≤ v) (h2 : v ≤ hi) (q : Q (.bl true) c) : m_is_int [.int v, .int lo, .int hi] c Q :=
  S_is_int rfl (by rw [show L3.isIntB lo hi (.int v) = true from decide_eq_true ⟨h1, h2⟩]; exact q)
theorem S_are_ints {d : D} {lo hi : Int} {c : Nat} {Q : KD} (h : L3.tyAll d = true) (q : Q (.bl (L3.areIntsB lo hi d)) c) : m_are_ints [d, .int lo, .int hi] c Q := by
  refine ⟨rfl, ?_⟩
  cases d with
  | tup l =>
    simp [runM, g_are_ints, start3, -compL]
    refine ⟨rfl, comp_map (fun d => .bl (L3.isIntB lo hi d)) _ _ (fun d hd K hK => ?_) ?_⟩
    · simp
      exact S_is_int (List.all_eq_true.mp h d hd) hK
    · rw [L3.bls_map]
      simp
      rw [show (l.all fun d => L3.isIntB lo hi d) = L3.areIntsB lo hi (.tup l) from rfl]
      exact q
  | int v => simp [runM, g_are_ints, start3]; exact ⟨rfl, q⟩
  | bl b => simp [runM, g_are_ints, start3]; exact ⟨rfl, q⟩
  | non => simp [runM, g_are_ints, start3]; exact ⟨rfl, q⟩
  | str s => simp [runM, g_are_ints, start3]; exact ⟨rfl, q⟩
  | lst l => simp [runM, g_are_ints, start3]; exact ⟨rfl, q⟩
  | ty n => cases h
  | rf a => cases h
  | pot => cases h
  | exc n d => cases h
  | clo a o => cases h
  | dic l => simp [runM, g_are_ints, start3]; exact ⟨rfl, q⟩
  | dct ks l => cases h
  | scr l => cases h
  | lam a F0 p => cases h
theorem S_ints_ok {vs : List Int} {lo hi : Int} {c : Nat} {Q : KD} (h : ∀ v ∈ vs, lo ≤ v ∧ v ≤ hi) (q : Q (.bl true) c) : m_are_ints [.tup (vs.map .int), .int lo, .int hi] c Q :=
  S_are_ints (L3.tyAll_ints vs) (by rw [L3.areInts_ok h]; exact q)
theorem S_ints_nat {vs : List Nat} {lo hi : Int} {c : Nat} {Q : KD} (h : ∀ v ∈ vs, lo ≤ (v : Int) ∧ (v : Int) ≤ hi) (q : Q (.bl true) c) : m_are_ints [.tup (vs.map nD), .int lo, .int hi] c Q := by
  rw [L3.map_nD]
  exact S_ints_ok (fun v hv => by obtain ⟨n, hn, rfl⟩ := List.mem_map.mp hv; exact h n hn) q
theorem S_cells {ns : List Int} {c : Nat} {k : Int} {Q : KD} (hk : 0 < k) (hk1 : k ≤ 63) (hl : ns.length ≤ 63) (q : ∀ n : Nat, 0 < n → (n : Int) ≤ k → Q (.lst (rangeL 0 n)) c) : m_law_cells [.scr ns, .int k] c Q := by
  refine ⟨rfl, ?_⟩
  simp [runM, g_law_cells, start3]
  generalize hj : (if 1 < if (ns.length : Int) < k then (ns.length : Int) else k then if (ns.length : Int) < k then (ns.length : Int) else k else 1) = j
  have k0 : 0 < j ∧ j ≤ k := by
    subst hj
    split <;> split <;> omega
  exact ⟨⟨by omega, by omega⟩, q _ (by omega) (by omega)⟩
theorem S_pot {ns : List Int} {a : Int} {c : Nat} {Q : List D → Nat → Prop} (a0 : 0 ≤ a) (a1 : a ≤ 63) (q : ∀ x y : Int, 0 ≤ x → 0 ≤ y → y < 2 ^ 61 → Q [.int x, .int y, .int 0] c) : m_law_pot [.scr ns, .int a] c Q := by
  refine ⟨rfl, ?_⟩
  simp [g_law_pot, start3]
  have okS : ∀ {x y : Int}, 0 ≤ x → x ≤ 100000000 → L3.MulOk x y := fun h0 h1 => .inl ⟨by omega, by omega⟩
  have fin : ∀ m v w : Int, 0 < m → (w = 0 ∨ w = 1) → L3.MulOk (v % m) w ∧ 0 ≤ v % m * w := fun m v w hm hw => by
    refine ⟨?_, ?_⟩
    · rcases hw with rfl | rfl
      · exact .inr ⟨by decide, by decide⟩
      · exact .inr ⟨by decide, by decide⟩
    · refine Int.mul_nonneg (Int.emod_nonneg _ (by omega)) ?_
      rcases hw with rfl | rfl <;> decide
  have one : ∀ p : Prop, [Decidable p] → ((if p then 1 else 0 : Int) = 0 ∨ (if p then 1 else 0 : Int) = 1) := fun p _ => by
    by_cases h : p
    · rw [if_pos h]; exact .inr rfl
    · rw [if_neg h]; exact .inl rfl
  by_cases z : a < ns.length
  · rw [if_pos z]
    obtain ⟨n, rfl⟩ := Int.eq_ofNat_of_zero_le a0
    have hn : n < ns.length := by omega
    rw [atI_nat (List.getElem?_eq_getElem hn)]
    exact ⟨(fin _ _ _ (by decide) (one _)).1, .inr ⟨by decide, by decide⟩, okS (by decide) (by decide), .inr ⟨by omega, by omega⟩, q _ _ (fin _ _ _ (by decide) (one _)).2 (Int.emod_nonneg _ (by decide)) (Int.lt_trans (Int.emod_lt_of_pos _ (by decide)) (by decide))⟩
  · rw [if_neg z, L3.cut_one, L3.ints_of]
    exact ⟨okS (by decide) (by decide), (fin _ _ _ (by decide) (one _)).1, .inr ⟨by decide, by decide⟩, okS (by decide) (by decide), .inr ⟨by omega, by omega⟩, q _ _ (fin _ _ _ (by decide) (one _)).2 (Int.emod_nonneg _ (by decide)) (Int.lt_trans (Int.emod_lt_of_pos _ (by decide)) (by decide))⟩
/-- the whole of law's last row, given one pot's -/
theorem S_all {ns : List Int} {k : Int} {c : Nat} {ρ : Rho} {v : Nat} {Q : KD} (right : ∀ Q : KD, (∀ c', Q (.bl true) c') → m_law_right [.pot] 0 Q) (hk : 0 < k) (hk1 : k ≤ 63) (hl : ns.length ≤ 63) (hv : v < ρ.length) (h0 : get3 ρ 0 = some (.scr ns)) (hv0 : v ≠ 0) (q : Q (.bl true) c) :
    eB allM (aCons (eComp (iSeq (eCall m_law_cells (aCons (eVar 0) (aCons (eC (.int k)) aNil)))) (gN v) tYes3 (ePotCall m_law_pot m_law_right (aCons (eVar 0) (aCons (eVar v) aNil))) [v]) aNil) ρ c Q := by
  simp [h0, -compL]
  refine S_cells hk hk1 hl fun n n0 hn => ?_
  simp [-compL]
  refine comp_map (fun _ => .bl true) _ _ (fun d hd K hK => ?_) ?_
  · obtain ⟨j, hj, rfl⟩ := List.mem_map.mp hd
    have hj := List.mem_range.mp hj
    simp
    rw [L3.vA_upS, L3.get3_set_ne _ hv0, h0, L3.get3_set_eq hv]
    simp
    refine S_pot (by omega) (by omega) fun x y x0 y0 y1 => ⟨x, y, rfl, x0, y0, y1, right _ fun _ => ⟨rfl, hK⟩⟩
  · rw [bls_true]
    show Q (.bl ((rangeL 0 n |>.map fun _ => true).all id)) c
    rw [all_true]
    exact q
end Law62

set_option maxHeartbeats 4000000
/-! words in lines: plain. -/
namespace Lines
def wd (g : Int) (c : List Int) : Int := c.sum + g * ((c.length : Int) - 1)
/-- the words in l lines, each no wider than w -/
def Fit (g : Int) (ws : List Int) (l : Nat) (w : Int) : Prop := ∃ cs : List (List Int), cs.flatten = ws ∧ (∀ c ∈ cs, c ≠ []) ∧ cs.length = l ∧ ∀ c ∈ cs, wd g c ≤ w
/-- the least width for l lines -/
def Nar (g : Int) (ws : List Int) (l : Nat) (w : Int) : Prop := Fit g ws l w ∧ ∀ w', Fit g ws l w' → w ≤ w'
theorem Nar.eq {g : Int} {ws : List Int} {l : Nat} {w w' : Int} (h : Nar g ws l w) (h' : Nar g ws l w') : w = w' := Int.le_antisymm (h.2 _ h'.1) (h'.2 _ h.1)
theorem Fit.mono {g : Int} {ws : List Int} {l : Nat} {w w' : Int} (h : Fit g ws l w) (hw : w ≤ w') : Fit g ws l w' := by
  obtain ⟨cs, h1, h2, h3, h4⟩ := h
  exact ⟨cs, h1, h2, h3, fun c hc => Int.le_trans (h4 c hc) hw⟩
theorem fit_one {g : Int} {ws : List Int} {w : Int} (h0 : ws ≠ []) : Fit g ws 1 w ↔ wd g ws ≤ w := by
  constructor
  · rintro ⟨cs, h1, h2, h3, h4⟩
    match cs, h3 with
    | [c], _ =>
      rw [show [c].flatten = c by simp] at h1
      rw [← h1]
      exact h4 c (List.mem_cons_self ..)
  · intro h
    exact ⟨[ws], by simp, by simpa using h0, rfl, by simpa using h⟩
/-- the last line taken off -/
theorem fit_snoc {g : Int} {ws : List Int} {l : Nat} {w : Int} : Fit g ws (l + 1) w ↔ ∃ a, a < ws.length ∧ Fit g (ws.take a) l w ∧ wd g (ws.drop a) ≤ w := by
  constructor
  · rintro ⟨cs, h1, h2, h3, h4⟩
    have hne : cs ≠ [] := fun z => by rw [z] at h3; cases h3
    obtain ⟨cs', c, rfl⟩ : ∃ cs' c, cs = cs' ++ [c] := ⟨cs.dropLast, cs.getLast hne, (List.dropLast_concat_getLast hne).symm⟩
    rw [List.flatten_append, List.flatten_singleton] at h1
    have hc := h2 c (by simp)
    have hl : 0 < c.length := List.length_pos_iff.mpr hc
    refine ⟨cs'.flatten.length, by rw [← h1, List.length_append]; omega, ?_, ?_⟩
    · rw [← h1, List.take_left]
      exact ⟨cs', rfl, fun d hd => h2 d (by simp [hd]), by simpa using h3, fun d hd => h4 d (by simp [hd])⟩
    · rw [← h1, List.drop_left]
      exact h4 c (by simp)
  · rintro ⟨a, ha, ⟨cs, h1, h2, h3, h4⟩, hw⟩
    refine ⟨cs ++ [ws.drop a], by rw [List.flatten_append, List.flatten_singleton, h1, List.take_append_drop], fun d hd => ?_, by rw [List.length_append, h3]; rfl, fun d hd => ?_⟩
    · rcases List.mem_append.mp hd with hd | hd
      · exact h2 d hd
      · simp at hd
        rw [hd]
        intro z
        have := congrArg List.length z
        rw [List.length_drop, List.length_nil] at this
        omega
    · rcases List.mem_append.mp hd with hd | hd
      · exact h4 d hd
      · simp at hd
        rw [hd]
        exact hw
theorem sum_nonneg {l : List Int} (h : ∀ x ∈ l, 0 ≤ x) : 0 ≤ l.sum := by
  induction l with
  | nil => simp
  | cons a l ih =>
    have := h a (List.mem_cons_self ..)
    have := ih fun x hx => h x (List.mem_cons_of_mem _ hx)
    simp only [List.sum_cons]
    omega
theorem mem_le_sum {l : List Int} (h : ∀ x ∈ l, 0 ≤ x) {x : Int} (hx : x ∈ l) : x ≤ l.sum := by
  induction l with
  | nil => cases hx
  | cons a l ih =>
    have h0 := h a (List.mem_cons_self ..)
    have h1 := sum_nonneg fun x hx => h x (List.mem_cons_of_mem _ hx)
    simp only [List.sum_cons]
    rcases List.mem_cons.mp hx with rfl | hx
    · omega
    · have := ih (fun x hx => h x (List.mem_cons_of_mem _ hx)) hx
      omega
theorem wd_ge {g : Int} (hg : 0 ≤ g) {c : List Int} (hc : c ≠ []) : c.sum ≤ wd g c := by
  unfold wd
  have : 0 < c.length := List.length_pos_iff.mpr hc
  have := Int.mul_nonneg hg (show 0 ≤ (c.length : Int) - 1 by omega)
  omega
/-- no line is narrower than a word -/
theorem Fit.word {g : Int} (hg : 0 ≤ g) {ws : List Int} {l : Nat} {w : Int} (h : Fit g ws l w) (h0 : ∀ x ∈ ws, 0 ≤ x) : ∀ x ∈ ws, x ≤ w := by
  obtain ⟨cs, h1, h2, h3, h4⟩ := h
  intro x hx
  rw [← h1] at hx
  obtain ⟨c, hc, hxc⟩ := List.mem_flatten.mp hx
  have := mem_le_sum (fun y hy => h0 y (by rw [← h1]; exact List.mem_flatten.mpr ⟨c, hc, hy⟩)) hxc
  have := wd_ge hg (h2 c hc)
  have := h4 c hc
  omega
theorem flat_sum : ∀ cs : List (List Int), cs.flatten.sum = (cs.map List.sum).sum
  | [] => rfl
  | c :: cs => by rw [List.flatten_cons, List.sum_append, flat_sum cs, List.map_cons, List.sum_cons]
theorem Fit.sum {g : Int} (hg : 0 ≤ g) {ws : List Int} {l : Nat} {w : Int} (h : Fit g ws l w) : ws.sum ≤ l * w := by
  obtain ⟨cs, h1, h2, h3, h4⟩ := h
  rw [← h1, ← h3, flat_sum]
  clear h1 h3
  induction cs with
  | nil => simp
  | cons c cs ih =>
    have a := ih (fun d hd => h2 d (List.mem_cons_of_mem _ hd)) fun d hd => h4 d (List.mem_cons_of_mem _ hd)
    have b := wd_ge hg (h2 c (List.mem_cons_self ..))
    have e := h4 c (List.mem_cons_self ..)
    simp only [List.map_cons, List.sum_cons, List.length_cons]
    have : (((cs.length + 1 : Nat) : Int)) * w = (cs.length : Int) * w + w := by rw [Int.natCast_add, Int.add_mul]; simp
    omega
/-- each word in a line of its own -/
theorem fit_all {g : Int} {ws : List Int} {w : Int} (h : ∀ x ∈ ws, x ≤ w) : Fit g ws ws.length w := by
  refine ⟨ws.map fun x => [x], ?_, ?_, by rw [List.length_map], ?_⟩
  · induction ws with
    | nil => rfl
    | cons a ws ih =>
      rw [List.map_cons, List.flatten_cons, ih fun x hx => h x (List.mem_cons_of_mem _ hx)]
      rfl
  · intro c hc
    obtain ⟨x, _, rfl⟩ := List.mem_map.mp hc
    simp
  · intro c hc
    obtain ⟨x, hx, rfl⟩ := List.mem_map.mp hc
    have := h x hx
    unfold wd
    simp
    exact this
/-- one line more is no worse -/
theorem Fit.more {g : Int} (hg : 0 ≤ g) {ws : List Int} (h0 : ∀ x ∈ ws, 0 ≤ x) {l : Nat} {w : Int} (h : Fit g ws l w) (hl : l < ws.length) : Fit g ws (l + 1) w := by
  obtain ⟨cs, h1, h2, h3, h4⟩ := h
  subst h1
  subst h3
  induction cs with
  | nil => simp at hl
  | cons c cs ih =>
    by_cases hc : 2 ≤ c.length
    · match c, hc with
      | x :: y :: r, _ =>
        have hx := h0 x (by simp)
        have hyr : ∀ z ∈ y :: r, 0 ≤ z := fun z hz => h0 z (List.mem_flatten.mpr ⟨_, List.mem_cons_self .., List.mem_cons_of_mem _ hz⟩)
        have hw := h4 (x :: y :: r) (List.mem_cons_self ..)
        have hs := sum_nonneg hyr
        have hgl := Int.mul_nonneg hg (show 0 ≤ ((y :: r).length : Int) - 1 by simp)
        have e : wd g (x :: y :: r) = x + g + wd g (y :: r) := by
          unfold wd
          simp only [List.sum_cons, List.length_cons]
          grind
        refine ⟨[x] :: (y :: r) :: cs, by simp, fun d hd => ?_, by simp, fun d hd => ?_⟩
        · rcases List.mem_cons.mp hd with rfl | hd
          · simp
          · rcases List.mem_cons.mp hd with rfl | hd
            · simp
            · exact h2 d (List.mem_cons_of_mem _ hd)
        · rcases List.mem_cons.mp hd with rfl | hd
          · have : wd g [x] = x := by unfold wd; simp
            have : 0 ≤ wd g (y :: r) := by unfold wd; omega
            omega
          · rcases List.mem_cons.mp hd with rfl | hd
            · omega
            · exact h4 d (List.mem_cons_of_mem _ hd)
    · have hc1 : c.length = 1 := by
        have := List.length_pos_iff.mpr (h2 c (List.mem_cons_self ..))
        omega
      have := ih (fun d hd => h2 d (List.mem_cons_of_mem _ hd)) (fun d hd => h4 d (List.mem_cons_of_mem _ hd)) (fun x hx => h0 x (by rw [List.flatten_cons]; exact List.mem_append_right _ hx)) (by
        rw [List.flatten_cons, List.length_append, List.length_cons] at hl
        omega)
      obtain ⟨ds, k1, k2, k3, k4⟩ := this
      refine ⟨c :: ds, by rw [List.flatten_cons, List.flatten_cons, k1], fun d hd => ?_, by rw [List.length_cons, List.length_cons, k3], fun d hd => ?_⟩
      · rcases List.mem_cons.mp hd with rfl | hd
        · exact h2 _ (List.mem_cons_self ..)
        · exact k2 d hd
      · rcases List.mem_cons.mp hd with rfl | hd
        · exact h4 _ (List.mem_cons_self ..)
        · exact k4 d hd
/-- from the other side -/
theorem Fit.rev {g : Int} {ws : List Int} {l : Nat} {w : Int} (h : Fit g ws l w) : Fit g ws.reverse l w := by
  obtain ⟨cs, h1, h2, h3, h4⟩ := h
  refine ⟨(cs.map List.reverse).reverse, by rw [← h1, List.reverse_flatten], fun c hc => ?_, by rw [List.length_reverse, List.length_map, h3], fun c hc => ?_⟩
  · obtain ⟨d, hd, rfl⟩ := List.mem_map.mp (List.mem_reverse.mp hc)
    exact fun z => h2 d hd (List.reverse_eq_nil_iff.mp z)
  · obtain ⟨d, hd, rfl⟩ := List.mem_map.mp (List.mem_reverse.mp hc)
    have := h4 d hd
    unfold wd at this ⊢
    rw [List.sum_reverse, List.length_reverse]
    exact this
theorem Nar.rev {g : Int} {ws : List Int} {l : Nat} {w : Int} (h : Nar g ws l w) : Nar g ws.reverse l w :=
  ⟨h.1.rev, fun w' f => h.2 w' (by have := f.rev; rwa [List.reverse_reverse] at this)⟩
/-- all times as great -/
theorem wd_times {t g : Int} (c : List Int) : wd (t * g) (c.map (t * ·)) = t * wd g c := by
  have : (c.map (t * ·)).sum = t * c.sum := by
    induction c with
    | nil => simp
    | cons a c ih => rw [List.map_cons, List.sum_cons, List.sum_cons, ih, Int.mul_add]
  unfold wd
  rw [this, List.length_map]
  grind
theorem Nar.times {t g : Int} (ht : 0 < t) {ws : List Int} {l : Nat} {w : Int} (h : Nar g ws l w) : Nar (t * g) (ws.map (t * ·)) l (t * w) := by
  constructor
  · obtain ⟨cs, h1, h2, h3, h4⟩ := h.1
    refine ⟨cs.map fun c => c.map (t * ·), by rw [← h1, List.map_flatten], fun c hc => ?_, by rw [List.length_map, h3], fun c hc => ?_⟩
    · obtain ⟨d, hd, rfl⟩ := List.mem_map.mp hc
      exact fun z => h2 d hd (List.map_eq_nil_iff.mp z)
    · obtain ⟨d, hd, rfl⟩ := List.mem_map.mp hc
      rw [wd_times]
      exact Int.mul_le_mul_of_nonneg_left (h4 d hd) (Int.le_of_lt ht)
  · rintro w' ⟨cs, h1, h2, h3, h4⟩
    have key : ∀ (cs : List (List Int)) (ws : List Int), cs.flatten = ws.map (t * ·) → ∃ ds : List (List Int), ds.flatten = ws ∧ cs = ds.map fun c => c.map (t * ·) := by
      intro cs
      induction cs with
      | nil =>
        intro ws e
        have : ws = [] := List.map_eq_nil_iff.mp e.symm
        exact ⟨[], by rw [this]; rfl, rfl⟩
      | cons c cs ih =>
        intro ws e
        rw [List.flatten_cons] at e
        obtain ⟨a, b, rfl, e1, e2⟩ := List.map_eq_append_iff.mp e.symm
        obtain ⟨ds, k1, k2⟩ := ih b e2.symm
        exact ⟨a :: ds, by rw [List.flatten_cons, k1], by rw [List.map_cons, ← k2, e1]⟩
    obtain ⟨ds, k1, rfl⟩ := key cs ws h1
    have : w ≤ w' / t := h.2 _ ⟨ds, k1, fun c hc z => h2 (c.map (t * ·)) (List.mem_map.mpr ⟨c, hc, rfl⟩) (by rw [z]; rfl), by rw [← h3, List.length_map], fun c hc => by
      have := h4 (c.map (t * ·)) (List.mem_map.mpr ⟨c, hc, rfl⟩)
      rw [wd_times] at this
      exact Int.le_ediv_of_mul_le ht (by rw [Int.mul_comm]; exact this)⟩
    have h5 := Int.mul_le_mul_of_nonneg_left this (Int.le_of_lt ht)
    have h6 := Int.mul_ediv_self_le (x := w') (k := t) (by omega)
    omega
end Lines

set_option maxHeartbeats 4000000
/-! words in lines: the table, the greedy breaks. -/
namespace Lines
/-- the line of the words from f up to l -/
def ln (ws : List Int) (f l : Nat) : List Int := (ws.drop f).take (l - f)
def W (g : Int) (ws : List Int) (f l : Nat) : Int := wd g (ln ws f l)
def pf (ws : List Int) (i : Nat) : Int := (ws.take i).sum
theorem ln_take {ws : List Int} {a i : Nat} : (ws.take i).drop a = ln ws a i := by
  unfold ln
  rw [List.drop_take]
theorem ln_len {ws : List Int} {f l : Nat} (hl : l ≤ ws.length) : (ln ws f l).length = l - f := by
  unfold ln
  rw [List.length_take, List.length_drop]
  omega
theorem ln_sum {ws : List Int} {f l : Nat} (h : f ≤ l) : (ln ws f l).sum = pf ws l - pf ws f := by
  unfold pf
  have : ws.take l = ws.take f ++ ln ws f l := by
    unfold ln
    rw [show l = f + (l - f) by omega, List.take_add, show f + (l - f) - f = l - f by omega]
  rw [this, List.sum_append]
  omega
theorem W_eq {g : Int} {ws : List Int} {f l : Nat} (h : f ≤ l) (hl : l ≤ ws.length) : W g ws f l = pf ws l - pf ws f + g * ((l : Int) - (f : Int) - 1) := by
  unfold W wd
  rw [ln_sum h, ln_len hl, show ((l - f : Nat) : Int) = (l : Int) - (f : Int) by omega]
theorem pf_mono {ws : List Int} (h0 : ∀ x ∈ ws, 0 ≤ x) {i j : Nat} (h : i ≤ j) : pf ws i ≤ pf ws j := by
  have e := ln_sum (ws := ws) h
  have := sum_nonneg (l := ln ws i j) fun x hx => h0 x (List.mem_of_mem_drop (List.mem_of_mem_take hx))
  omega
theorem W_mono {g : Int} (hg : 0 ≤ g) {ws : List Int} (h0 : ∀ x ∈ ws, 0 ≤ x) {f' f l l' : Nat} (h1 : f' ≤ f) (h2 : f < l) (h3 : l ≤ l') (h4 : l' ≤ ws.length) : W g ws f l ≤ W g ws f' l' := by
  rw [W_eq (by omega) (by omega), W_eq (by omega) h4]
  have a := pf_mono h0 h1
  have b := pf_mono h0 h3
  have := Int.mul_le_mul_of_nonneg_left (show (l : Int) - (f : Int) - 1 ≤ (l' : Int) - (f' : Int) - 1 by omega) hg
  omega
theorem Fit.len {g : Int} {ws : List Int} {l : Nat} {w : Int} (h : Fit g ws l w) : l ≤ ws.length := by
  obtain ⟨cs, h1, h2, h3, h4⟩ := h
  rw [← h1, ← h3]
  clear h1 h3 h4
  induction cs with
  | nil => exact Nat.zero_le _
  | cons c cs ih =>
    have := ih fun d hd => h2 d (List.mem_cons_of_mem _ hd)
    have := List.length_pos_iff.mpr (h2 c (List.mem_cons_self ..))
    rw [List.flatten_cons, List.length_append, List.length_cons]
    omega
theorem fit_last {g : Int} {ws : List Int} {i l : Nat} {w : Int} (hi : i ≤ ws.length) : Fit g (ws.take i) (l + 1) w ↔ ∃ a, a < i ∧ Fit g (ws.take a) l w ∧ W g ws a i ≤ w := by
  rw [fit_snoc]
  constructor
  · rintro ⟨a, h1, h2, h3⟩
    rw [List.length_take] at h1
    rw [List.take_take, Nat.min_eq_left (by omega)] at h2
    rw [ln_take] at h3
    exact ⟨a, by omega, h2, h3⟩
  · rintro ⟨a, h1, h2, h3⟩
    refine ⟨a, by rw [List.length_take]; omega, by rw [List.take_take, Nat.min_eq_left (by omega)]; exact h2, by rw [ln_take]; exact h3⟩
/-- the lines that breaks make -/
def chk (ws : List Int) (bs : List Nat) (i : Nat) : List (List Int) := List.zipWith (ln ws) (0 :: bs) (bs ++ [i])
theorem chk_snoc (ws : List Int) (bs : List Nat) (a i : Nat) : chk ws (bs ++ [a]) i = chk ws bs a ++ [ln ws a i] := by
  unfold chk
  rw [show 0 :: (bs ++ [a]) = (0 :: bs) ++ [a] from rfl, List.zipWith_append (by simp)]
  rfl
/-- an entry of the table -/
structure Ent (g : Int) (ws : List Int) (k i : Nat) (w : Int) (bs : List Nat) : Prop where
  len : bs.length + 1 = k
  up : (bs ++ [i]).Pairwise (· < ·)
  pos : ∀ b ∈ bs ++ [i], 0 < b
  nar : Nar g (ws.take i) k w
  le : ∀ c ∈ chk ws bs i, wd g c ≤ w
  top : ∃ c ∈ chk ws bs i, wd g c = w
theorem Ent.first {g : Int} {ws : List Int} {i : Nat} (hi : 0 < i) (hl : i ≤ ws.length) : Ent g ws 1 i (W g ws 0 i) [] := by
  have e : ws.take i = ln ws 0 i := by unfold ln; simp
  have hne : ws.take i ≠ [] := fun z => by
    have := congrArg List.length z
    rw [List.length_take, List.length_nil] at this
    omega
  refine ⟨rfl, List.pairwise_singleton .., by simpa using hi, ⟨(fit_one hne).mpr (by rw [e]; exact Int.le_refl _), fun w' f => by have := (fit_one hne).mp f; rw [e] at this; exact this⟩, fun c hc => ?_, ⟨ln ws 0 i, by simp [chk], rfl⟩⟩
  simp [chk] at hc
  rw [hc]
  exact Int.le_refl _
theorem Ent.next {g : Int} {ws : List Int} {k i a : Nat} {w : Nat → Int} {bs : Nat → List Nat} (hi : i ≤ ws.length) (hk : 1 ≤ k) (ha : k ≤ a ∧ a < i) (ent : ∀ a, k ≤ a → a < i → Ent g ws k a (w a) (bs a))
    (least : ∀ b, k ≤ b → b < i → max (w a) (W g ws a i) ≤ max (w b) (W g ws b i)) : Ent g ws (k + 1) i (max (w a) (W g ws a i)) (bs a ++ [a]) := by
  have ea := ent a ha.1 ha.2
  refine ⟨by rw [List.length_append]; have := ea.len; simp; omega, List.pairwise_append.mpr ⟨ea.up, List.pairwise_singleton .., fun b hb c hc => ?_⟩, fun b hb => ?_, ⟨(fit_last hi).mpr ⟨a, ha.2, ea.nar.1.mono (by omega), by omega⟩, fun w' f => ?_⟩, fun c hc => ?_, ?_⟩
  · simp at hc
    subst hc
    rcases List.mem_append.mp hb with hb | hb
    · have := (List.pairwise_append.mp ea.up).2.2 b hb a (by simp)
      omega
    · simp at hb
      omega
  · rcases List.mem_append.mp hb with hb | hb
    · exact ea.pos b hb
    · simp at hb
      omega
  · obtain ⟨b, h1, h2, h3⟩ := (fit_last hi).mp f
    have hb : k ≤ b := by
      have := h2.len
      rw [List.length_take] at this
      omega
    have := (ent b hb h1).nar.2 _ h2
    have := least b hb h1
    omega
  · rw [chk_snoc] at hc
    rcases List.mem_append.mp hc with hc | hc
    · have := ea.le c hc
      omega
    · simp at hc
      rw [hc]
      show W g ws a i ≤ _
      omega
  · rw [chk_snoc]
    obtain ⟨c, hc, ec⟩ := ea.top
    by_cases h : W g ws a i ≤ w a
    · exact ⟨c, List.mem_append_left _ hc, by omega⟩
    · exact ⟨ln ws a i, List.mem_append_right _ (List.mem_singleton.mpr rfl), by show W g ws a i = _; omega⟩
/-- the greedy breaks for the first i words: the fewest lines, the last of them begun as late as may be -/
structure Gre (g : Int) (ws : List Int) (w : Int) (i : Nat) (bs : List Nat) (s : Nat) : Prop where
  lt : s < i
  fit : Fit g (ws.take s) bs.length w
  last : W g ws s i ≤ w
  few : ∀ l a, a < i → Fit g (ws.take a) l w → W g ws a i ≤ w → bs.length < l ∨ (bs.length = l ∧ a ≤ s)
theorem Gre.all {g : Int} {ws : List Int} {w : Int} {i : Nat} {bs : List Nat} {s : Nat} (h : Gre g ws w i bs s) (hi : i ≤ ws.length) : Fit g (ws.take i) (bs.length + 1) w ∧ ∀ l, Fit g (ws.take i) l w → bs.length + 1 ≤ l := by
  refine ⟨(fit_last hi).mpr ⟨s, h.lt, h.fit, h.last⟩, fun l f => ?_⟩
  cases l with
  | zero =>
    obtain ⟨cs, h1, _, h3, _⟩ := f
    have : cs = [] := List.eq_nil_of_length_eq_zero h3
    rw [this] at h1
    have h5 := congrArg List.length h1
    rw [List.length_take] at h5
    have h6 := h.lt
    simp at h5
    omega
  | succ l =>
    obtain ⟨a, h1, h2, h3⟩ := (fit_last hi).mp f
    have := h.few l a h1 h2 h3
    omega
theorem Gre.one {g : Int} {ws : List Int} {w : Int} (h : W g ws 0 1 ≤ w) : Gre g ws w 1 [] 0 :=
  ⟨Nat.one_pos, ⟨[], by simp, by simp, rfl, by simp⟩, h, fun l a ha _ _ => by
    have : a = 0 := by omega
    cases l with
    | zero => exact .inr ⟨rfl, by omega⟩
    | succ l => exact .inl (Nat.succ_pos _)⟩
theorem Gre.keep {g : Int} (hg : 0 ≤ g) {ws : List Int} (h0 : ∀ x ∈ ws, 0 ≤ x) {w : Int} {i : Nat} {bs : List Nat} {s : Nat} (h : Gre g ws w i bs s) (hi : i < ws.length) (hw : W g ws s (i + 1) ≤ w) : Gre g ws w (i + 1) bs s := by
  refine ⟨Nat.lt_succ_of_lt h.lt, h.fit, hw, fun l a ha f fw => ?_⟩
  by_cases hai : a < i
  · exact h.few l a hai f (Int.le_trans (W_mono hg h0 (Nat.le_refl _) hai (Nat.le_succ _) hi) fw)
  · have : a = i := by omega
    subst this
    have := (h.all (by omega)).2 l f
    exact .inl (by omega)
theorem Gre.new {g : Int} (hg : 0 ≤ g) {ws : List Int} (h0 : ∀ x ∈ ws, 0 ≤ x) {w : Int} {i : Nat} {bs : List Nat} {s : Nat} (h : Gre g ws w i bs s) (hi : i < ws.length) (hw : ¬ W g ws s (i + 1) ≤ w) (h1 : W g ws i (i + 1) ≤ w) : Gre g ws w (i + 1) (bs ++ [i]) i := by
  have hl : (bs ++ [i]).length = bs.length + 1 := by simp
  refine ⟨Nat.lt_succ_self _, by rw [hl]; exact (h.all (by omega)).1, h1, fun l a ha f fw => ?_⟩
  rw [hl]
  by_cases hai : a < i
  · rcases h.few l a hai f (Int.le_trans (W_mono hg h0 (Nat.le_refl _) hai (Nat.le_succ _) hi) fw) with z | ⟨z1, z2⟩
    · by_cases e : bs.length + 1 = l
      · exact .inr ⟨e, by omega⟩
      · exact .inl (by omega)
    · exact absurd (Int.le_trans (W_mono hg h0 z2 (by have := h.lt; omega) (Nat.le_refl _) hi) fw) hw
  · have : a = i := by omega
    subst this
    have := (h.all (by omega)).2 l f
    by_cases e : bs.length + 1 = l
    · exact .inr ⟨e, Nat.le_refl _⟩
    · exact .inl (by omega)
end Lines

set_option maxHeartbeats 4000000
namespace Law62
open PySem PySem.Spec PyProof.Rows L2 L3
/-- top over bottom, in lowest terms -/
abbrev lowD (t b : Nat) : D := .tup [.int ((t / Nat.gcd t b : Nat) : Int), .int ((b / Nat.gcd t b : Nat) : Int)]
theorem S_common {a b : Nat} {c : Nat} {Q : KD} (hb : b < 1000000000) (q : Q (.int ((Nat.gcd a b : Nat) : Int)) c) : m_common [.int (a : Int), .int (b : Int)] c Q := by
  refine ⟨rfl, ?_⟩
  simp [runM, g_common, start3]
  refine while_rule (I := fun ρ c' μ => c' = c ∧ ∃ x y : Nat, ρ = [.val (.int (x : Int)), .val (.int (y : Int))] ∧ μ = y ∧ y < 1000000000 ∧ Nat.gcd x y = Nat.gcd a b) (μ := b) ⟨rfl, a, b, rfl, rfl, hb, rfl⟩ ?_
  rintro μ ρ c' ⟨rfl, x, y, rfl, rfl, hy, e⟩ N hN
  simp
  by_cases h0 : μ = 0
  · subst h0
    simp
    rw [Nat.gcd_zero_right] at e
    rw [e]
    exact q
  · rw [if_neg h0]
    have hlt : x % μ < μ := Nat.mod_lt _ (by omega)
    refine ⟨by omega, hN _ _ (x % μ) hlt ⟨rfl, μ, x % μ, by rw [Int.natCast_emod], rfl, by omega, ?_⟩⟩
    rw [← e, Nat.gcd_comm x μ, Nat.gcd_comm μ (x % μ)]
    exact (Nat.gcd_rec μ x).symm
theorem gcd_pos' {t b : Nat} (hb : 0 < b) : 0 < Nat.gcd t b := Nat.gcd_pos_of_pos_right _ hb
theorem gcd_le' {t b : Nat} (hb : 0 < b) : Nat.gcd t b ≤ b := Nat.le_of_dvd hb (Nat.gcd_dvd_right t b)
theorem S_lowest {t b : Nat} {c : Nat} {Q : KD} (hb : 0 < b) (hb2 : b < 1000000000) (q : Q (lowD t b) c) : m_lowest [.int (t : Int), .int (b : Int)] c Q := by
  refine ⟨rfl, ?_⟩
  simp [runM, g_lowest, start3]
  refine S_common hb2 ?_
  have h1 := gcd_pos' (t := t) hb
  have h2 := gcd_le' (t := t) hb
  refine ⟨by omega, ?_⟩
  have := q
  unfold lowD at this
  rw [Int.natCast_ediv, Int.natCast_ediv] at this
  exact ⟨by omega, this⟩
abbrev tD (S : List Int) : D := .tup (S.map .int)
/-- words and gap as look_at_words asks them -/
structure Wo (ws : List Int) (g : Int) : Prop where
  all : ∀ x ∈ ws, 1 ≤ x ∧ x ≤ 1000000
  ne : 1 ≤ ws.length
  len : ws.length ≤ 40
  gap : 0 ≤ g ∧ g ≤ 1000000
theorem Wo.nn {ws : List Int} {g : Int} (h : Wo ws g) : ∀ x ∈ ws, 0 ≤ x := fun x hx => by have := h.all x hx; omega
theorem S_words {ws : List Int} {g : Int} {c : Nat} {Q : KD} (h : Wo ws g) (q : Q .non c) : m_look_at_words [tD ws, .int g] c Q := by
  refine ⟨rfl, ?_⟩
  have h1 := h.ne
  have h2 := h.len
  simp [runM, g_look_at_words, start3]
  refine S_ints_ok h.all ?_
  simp
  refine ⟨by omega, by omega, S_int_ok h.gap.1 h.gap.2 ⟨rfl, q⟩⟩
theorem S_width {ws : List Int} {g : Int} {f l : Nat} {c : Nat} {Q : KD} (h : Wo ws g) (hf : f ≤ l) (hl : l ≤ ws.length) (q : Q (.int (Lines.W g ws f l)) c) : m_width_of [tD ws, .int g, .int (f : Int), .int (l : Int)] c Q := by
  refine ⟨rfl, ?_⟩
  have hg := h.gap
  simp [runM, g_width_of, start3]
  rw [cutD_both f l hf, ← List.map_drop, ← List.map_take, L3.ints_of]
  refine ⟨.inl (by omega), ?_⟩
  have e : ((ws.drop f).take (l - f)).sum + g * ((l : Int) - (f : Int) - 1) = Lines.W g ws f l := by
    unfold Lines.W Lines.wd
    rw [Lines.ln_len hl, show ((l - f : Nat) : Int) = (l : Int) - (f : Int) by omega]
    rfl
  rw [e]
  exact q
theorem zip_last {f : D → D} {k : Nat → Nat → D} (hf : ∀ x y : Nat, f (.tup [nD x, nD y]) = k x y) : ∀ (as cs : List Nat) (x : Nat), as.length = cs.length → (zipL ((as ++ [x]).map nD) (cs.map nD)).map f = List.zipWith k as cs
  | [], [], x, _ => rfl
  | a :: as, c :: cs, x, h => by
    show f (.tup [nD a, nD c]) :: (zipL ((as ++ [x]).map nD) (cs.map nD)).map f = k a c :: List.zipWith k as cs
    rw [hf, zip_last hf as cs x (by simpa using h)]
  | [], c :: cs, x, h => by cases h
  | a :: as, [], x, h => by cases h
def wdD (g : Int) (ws : List Int) : D → D
  | .tup [.int f, .int l] => .int (Lines.W g ws f.toNat l.toNat)
  | d => d
/-- breaks as the table makes them -/
structure Bk (n : Nat) (bs : List Nat) : Prop where
  up : (bs ++ [n]).Pairwise (· < ·)
  pos : ∀ b ∈ bs ++ [n], 0 < b
theorem Bk.up0 {n : Nat} {bs : List Nat} (h : Bk n bs) : (0 :: (bs ++ [n])).Pairwise (· < ·) := List.pairwise_cons.mpr ⟨h.pos, h.up⟩
theorem Bk.le {n : Nat} {bs : List Nat} (h : Bk n bs) : ∀ b ∈ bs ++ [n], b ≤ n := fun b hb => by
  rcases List.mem_append.mp hb with hb | hb
  · have := (List.pairwise_append.mp h.up).2.2 b hb n (by simp)
    omega
  · simp at hb
    omega
theorem S_tlines {ws : List Int} {g : Int} {bs : List Nat} {c : Nat} {Q : KD} (h : Wo ws g) (hb : Bk ws.length bs) (hl : bs.length ≤ 40) (q : Q (.lst ((Lines.chk ws bs ws.length).map fun c => D.int (Lines.wd g c))) c) : m_told_lines [tD ws, .int g, .tup (bs.map nD)] c Q := by
  refine ⟨rfl, ?_⟩
  have h2 := h.len
  simp [runM, g_told_lines, start3, -compL]
  have e0 : D.int 0 :: (bs.map nD ++ [D.int (ws.length : Int)]) = (0 :: (bs ++ [ws.length])).map nD := by
    rw [List.map_cons, List.map_append]
    rfl
  rw [e0]
  have ec : L3.cutD ((0 :: (bs ++ [ws.length])).map nD) (some 1) none = (bs ++ [ws.length]).map nD := by
    rw [show (1 : Int) = ((1 : Nat) : Int) from rfl, cutD_from]
    rfl
  rw [ec]
  refine ⟨by omega, ⟨by omega, by rw [List.length_map, List.length_append]; simp; omega⟩, ?_⟩
  refine L3.comp_map (wdD g ws) _ _ (fun d hd K hK => ?_) ?_
  · obtain ⟨i, x, y, hx, hy, rfl⟩ := zipL_mem hd
    rw [List.getElem?_map] at hx hy
    obtain ⟨a, ha, rfl⟩ := Option.map_eq_some_iff.mp hx
    obtain ⟨b, hb', rfl⟩ := Option.map_eq_some_iff.mp hy
    have hlt : a < b := by
      have hb2 : (0 :: (bs ++ [ws.length]))[i + 1]? = some b := hb'
      have := List.pairwise_iff_getElem.mp hb.up0 i (i + 1) (List.getElem?_eq_some_iff.mp ha).1 (List.getElem?_eq_some_iff.mp hb2).1 (by omega)
      rw [(List.getElem?_eq_some_iff.mp ha).2, (List.getElem?_eq_some_iff.mp hb2).2] at this
      exact this
    have hble := hb.le b (List.mem_of_getElem? hb')
    simp
    refine S_width h (by omega) hble ?_
    have : wdD g ws (.tup [nD a, nD b]) = .int (Lines.W g ws a b) := by
      show D.int (Lines.W g ws (a : Int).toNat (b : Int).toNat) = _
      rw [Int.toNat_natCast, Int.toNat_natCast]
    rw [this] at hK
    exact hK
  · rw [show (0 :: (bs ++ [ws.length])) = (0 :: bs) ++ [ws.length] from rfl, zip_last (f := wdD g ws) (k := fun x y => .int (Lines.W g ws x y)) (fun x y => by
      show D.int (Lines.W g ws (x : Int).toNat (y : Int).toNat) = _
      rw [Int.toNat_natCast, Int.toNat_natCast]) (0 :: bs) (bs ++ [ws.length]) ws.length (by simp)]
    have e : (Lines.chk ws bs ws.length).map (fun c => D.int (Lines.wd g c)) = List.zipWith (fun x y => D.int (Lines.W g ws x y)) (0 :: bs) (bs ++ [ws.length]) := by
      unfold Lines.chk
      rw [List.map_zipWith]
      rfl
    rw [← e]
    exact q
theorem S_abreaks {ws : List Int} {g : Int} {bs : List Nat} {c : Nat} {Q : KD} (h : Wo ws g) (hb : Bk ws.length bs) (hl : bs.length ≤ 40) (q : Q (.bl true) c) : m_are_breaks [tD ws, .tup (bs.map nD)] c Q := by
  refine ⟨rfl, ?_⟩
  simp [runM, g_are_breaks, start3, -compL]
  refine S_ints_nat (fun v hv => ?_) ?_
  · have h1 := hb.pos v (List.mem_append_left _ hv)
    have h2 := (List.pairwise_append.mp hb.up).2.2 v hv ws.length (by simp)
    omega
  simp [-compL]
  rw [show (1 : Int) = ((1 : Nat) : Int) from rfl, cutD_from]
  refine ⟨⟨by omega, by rw [List.length_drop, List.length_map]; omega⟩, L3.comp_map (fun _ => .bl true) _ _ (fun d hd K hK => ?_) ?_⟩
  · obtain ⟨i, x, y, h1, h2, rfl⟩ := zipL_mem hd
    rw [List.getElem?_drop, List.getElem?_map] at h2
    rw [List.getElem?_map] at h1
    obtain ⟨a, ha, rfl⟩ := Option.map_eq_some_iff.mp h1
    obtain ⟨b, hb', rfl⟩ := Option.map_eq_some_iff.mp h2
    have := List.pairwise_iff_getElem.mp (List.pairwise_append.mp hb.up).1 i (1 + i) (List.getElem?_eq_some_iff.mp ha).1 (List.getElem?_eq_some_iff.mp hb').1 (by omega)
    rw [(List.getElem?_eq_some_iff.mp ha).2, (List.getElem?_eq_some_iff.mp hb').2] at this
    simp
    rw [decide_eq_true this]
    exact hK
  · rw [bls_true]
    show Q (.bl ((List.map (fun _ => true) _).all id)) c
    rw [all_true]
    exact q
theorem S_lines_of {ws : List Int} {g : Int} {bs : List Nat} {c : Nat} {Q : KD} (h : Wo ws g) (hb : Bk ws.length bs) (hl : bs.length ≤ 40) (q : Q (.tup ((Lines.chk ws bs ws.length).map fun c => D.int (Lines.wd g c))) c) : m_lines_of [tD ws, .int g, .tup (bs.map nD)] c Q := by
  refine ⟨rfl, ?_⟩
  simp [runM, g_lines_of, start3]
  refine S_words h (S_abreaks h hb hl ⟨rfl, S_tlines h hb hl ?_⟩)
  exact q
end Law62

set_option maxHeartbeats 4000000
namespace Law62
open PySem PySem.Spec PyProof.Rows L2 L3
abbrev kI (i : Nat) : Key := .inl (i : Int)
abbrev rg (k m : Nat) : List Nat := List.range' k m
theorem kI_inj {i j : Nat} : (kI i = kI j) ↔ i = j := ⟨fun h => by have := Sum.inl.inj h; omega, fun h => by rw [h]⟩
theorem get_rg {V : Nat → D} {i : Nat} : ∀ (m k : Nat), k ≤ i → i < k + m → getDs ((rg k m).map kI) ((rg k m).map V) (kI i) = some (V i)
  | 0, k, h1, h2 => by omega
  | m + 1, k, h1, h2 => by
    rw [rg, List.range'_succ, List.map_cons, List.map_cons]
    show (if kI k = kI i then some (V k) else _) = _
    by_cases h : k = i
    · rw [if_pos (kI_inj.mpr h), h]
    · rw [if_neg fun z => h (kI_inj.mp z)]
      exact get_rg m (k + 1) (by omega) (by omega)
theorem has_rg {k m i : Nat} (h : k + m ≤ i) : hasK ((rg k m).map kI) (kI i) = false := by
  unfold hasK
  rw [List.any_eq_false]
  intro a ha
  obtain ⟨j, hj, rfl⟩ := List.mem_map.mp ha
  have := List.mem_range'_1.mp hj
  simp only [decide_eq_true_eq]
  exact fun z => by have := kI_inj.mp z; omega
theorem put_rg {V : Nat → D} {k m : Nat} : putKs ((rg k m).map kI) (kI (k + m)) = (rg k (m + 1)).map kI ∧ putDs ((rg k m).map kI) ((rg k m).map V) (kI (k + m)) (V (k + m)) = (rg k (m + 1)).map V := by
  have h := has_rg (k := k) (m := m) (i := k + m) (Nat.le_refl _)
  unfold putKs putDs
  rw [h]
  simp only [Bool.false_eq_true, if_false]
  have e : rg k (m + 1) = rg k m ++ [k + m] := by
    unfold rg
    rw [List.range'_concat, Nat.one_mul]
  rw [e, List.map_append, List.map_append]
  exact ⟨rfl, rfl⟩
theorem rangeL_nD (k m : Nat) : rangeL (k : Int) m = (rg k m).map nD := by
  unfold rangeL rg
  rw [List.range'_eq_map_range, List.map_map]
  refine List.map_congr_left fun i _ => ?_
  show D.int _ = D.int _
  congr 1
theorem compD_rg {g : FG} {fk fe : FE} {ρ : Rho} {c : Nat} {V : Nat → D} {s0 : Nat} (Q : List Key → List D → Nat → Prop) : ∀ (m m0 : Nat), m0 + m < 16777216 →
    (∀ i, s0 + m0 ≤ i → i < s0 + m0 + m → ∀ K : D → D → Nat → Prop, K (.int (i : Int)) (V i) c → g (nD i) (ρ.map upS) fun ρ' => fk (ρ'.map vA) c fun x c => fe (ρ'.map vA) c fun y c => K x y c) →
    Q ((rg s0 (m0 + m)).map kI) ((rg s0 (m0 + m)).map V) c → compD g tYes3 fk fe ρ ((rg (s0 + m0) m).map nD) c ((rg s0 m0).map kI) ((rg s0 m0).map V) Q
  | 0, m0, hm, step, q => q
  | m + 1, m0, hm, step, q => by
    rw [rg, List.range'_succ, List.map_cons]
    show g (nD (s0 + m0)) (ρ.map upS) fun ρ' => fk (ρ'.map vA) c fun x c => fe (ρ'.map vA) c fun y c => _
    refine step (s0 + m0) (Nat.le_refl _) (by omega) _ ?_
    show _ ∧ compD g tYes3 fk fe ρ _ c (putKs _ (kI (s0 + m0))) (putDs _ _ (kI (s0 + m0)) (V (s0 + m0))) Q
    rw [(put_rg (V := V)).1, (put_rg (V := V)).2]
    refine ⟨by rw [List.length_map, List.length_range']; omega, ?_⟩
    have := compD_rg (s0 := s0) Q m (m0 + 1) (by omega) (fun i h1 h2 => step i (by omega) (by omega)) (by rw [show m0 + 1 + m = m0 + (m + 1) by omega]; exact q)
    exact this
abbrev vD (w : Nat → Int) (bs : Nat → List Nat) (i : Nat) : D := .tup [.int (w i), .tup ((bs i).map nD)]
theorem S_tnarrow {ws : List Int} {g : Int} {l : Nat} {c : Nat} {Q : KD} (h : Wo ws g) (l1 : 1 ≤ l) (l2 : l ≤ ws.length) (q : ∀ (w : Int) (bs : List Nat), Lines.Ent g ws l ws.length w bs → Q (.tup [.int w, .tup (bs.map nD)]) c) : m_told_narrowest [tD ws, .int g, .int (l : Int)] c Q := by
  refine ⟨rfl, ?_⟩
  have hn := h.len
  have hn1 := h.ne
  simp [runM, g_told_narrowest, start3, -compL, -compD, -forL]
  refine ⟨by omega, ?_⟩
  rw [show rangeL 1 ws.length = (rg (1 + 0) ws.length).map nD from rangeL_nD 1 ws.length]
  refine compD_rg (s0 := 1) (V := vD (fun i => Lines.W g ws 0 i) fun _ => []) _ ws.length 0 (by omega) (fun i h1 h2 K hK => ?_) ?_
  · simp
    refine S_width (f := 0) h (Nat.zero_le _) (by omega) ?_
    exact hK
  refine ⟨noLstL_map fun _ _ => rfl, by omega, ?_⟩
  rw [Nat.zero_add, show rangeL 1 (l - 1) = (rg 1 (l - 1)).map nD from rangeL_nD 1 (l - 1)]
  refine for_rule (I := fun r ρ c' => c' = c ∧ ∃ (j : Nat) (w : Nat → Int) (bs : Nat → List Nat) (x5 x6 x8 x9 x10 : SV), 1 ≤ j ∧ j ≤ l ∧ r = (rg j (l - j)).map nD ∧ (∀ a, j ≤ a → a ≤ ws.length → Lines.Ent g ws j a (w a) (bs a)) ∧
    ρ = [.val (tD ws), .val (.int g), .val (.int (l : Int)), .val (.int (ws.length : Int)), .dic ((rg j (ws.length + 1 - j)).map kI) ((rg j (ws.length + 1 - j)).map (vD w bs)), x5, x6, .no, x8, x9, x10]) ?_ ?_ _ _ _
    ⟨rfl, 1, fun i => Lines.W g ws 0 i, fun _ => [], .no, .no, .no, .no, .no, Nat.le_refl _, l1, rfl, fun a h1 h2 => Lines.Ent.first (by omega) h2, rfl⟩
  · rintro d r ρ c' ⟨rfl, j, w, bs, x5, x6, x8, x9, x10, j1, j2, e, ent, rfl⟩ N hN
    have hlt : j < l := by
      refine Nat.lt_of_not_le fun hle => ?_
      rw [show l - j = 0 by omega] at e
      cases e
    rw [show l - j = (l - (j + 1)) + 1 by omega, rg, List.range'_succ, List.map_cons] at e
    cases e
    simp [-compL, -forL]
    rw [show (j : Int) + 1 = ((j + 1 : Nat) : Int) by omega, show ((ws.length : Int) + 1 - ((j + 1 : Nat) : Int)).toNat = ws.length - j by omega, rangeL_nD]
    refine ⟨rfl, by omega, ?_⟩
    refine for_rule (I := fun r ρ c'' => c'' = c' ∧ ∃ (i : Nat) (w' : Nat → Int) (bs' : Nat → List Nat) (y5 y8 y9 y10 : SV), i ≤ ws.length - j ∧ r = (rg (j + 1 + i) (ws.length - j - i)).map nD ∧ (∀ a, j + 1 ≤ a → a < j + 1 + i → Lines.Ent g ws (j + 1) a (w' a) (bs' a)) ∧
      ρ = [.val (tD ws), .val (.int g), .val (.int (l : Int)), .val (.int (ws.length : Int)), .dic ((rg j (ws.length + 1 - j)).map kI) ((rg j (ws.length + 1 - j)).map (vD w bs)), y5, .val (nD j), .dic ((rg (j + 1) i).map kI) ((rg (j + 1) i).map (vD w' bs')), y8, y9, y10]) ?_ ?_ _ _ _
      ⟨rfl, 0, w, bs, x5, x8, x9, x10, Nat.zero_le _, rfl, fun a h1 h2 => absurd h1 (by omega), rfl⟩
    · rintro d r ρ c'' ⟨rfl, i, w', bs', y5, y8, y9, y10, hi, e, ent', rfl⟩ N' hN'
      have hlt2 : i < ws.length - j := by
        refine Nat.lt_of_not_le fun hle => ?_
        rw [show ws.length - j - i = 0 by omega] at e
        cases e
      rw [show ws.length - j - i = (ws.length - j - (i + 1)) + 1 by omega, rg, List.range'_succ, List.map_cons] at e
      cases e
      have hat : j + 1 + i ≤ ws.length := by omega
      generalize hA : j + 1 + i = at_ at *
      simp [-compL]
      rw [rangeL_nD]
      refine ⟨by omega, ?_⟩
      refine L3.comp_map (fun d => match d with | .int a => ppD (max (w a.toNat) (Lines.W g ws a.toNat at_), a) | d => d) _ _ (fun d hd K hK => ?_) ?_
      · obtain ⟨a, ha, rfl⟩ := List.mem_map.mp hd
        have ha2 := List.mem_range'_1.mp ha
        simp
        have hg := get_rg (V := vD w bs) (i := a) (ws.length + 1 - j) j ha2.1 (by omega)
        show match getDs ((rg j (ws.length + 1 - j)).map kI) ((rg j (ws.length + 1 - j)).map (vD w bs)) (kI a) with | some d => _ | none => False
        rw [hg]
        simp
        refine S_width h (by omega) hat ?_
        simp
        have e : (if w a < Lines.W g ws a at_ then Lines.W g ws a at_ else w a) = max (w a) (Lines.W g ws a at_) := by split <;> omega
        rw [e]
        exact hK
      · have em : ((rg j (at_ - j)).map nD).map (fun d => match d with | .int a => ppD (max (w a.toNat) (Lines.W g ws a.toNat at_), a) | d => d) = ((rg j (at_ - j)).map fun a : Nat => (max (w a) (Lines.W g ws a at_), (a : Int))).map ppD := by
          rw [List.map_map, List.map_map]
          rfl
        rw [em]
        refine ⟨noLstL_map fun _ _ => rfl, ?_⟩
        obtain ⟨p, ps, ep⟩ : ∃ p ps, ((rg j (at_ - j)).map fun a : Nat => (max (w a) (Lines.W g ws a at_), (a : Int))) = p :: ps := by
          rw [show at_ - j = (at_ - j - 1) + 1 by omega, rg, List.range'_succ, List.map_cons]
          exact ⟨_, _, rfl⟩
        rw [ep]
        refine minPs_pairs fun r hr least => ?_
        rw [← ep] at hr least
        obtain ⟨a, ha, rfl⟩ := List.mem_map.mp hr
        have ha2 := List.mem_range'_1.mp ha
        have hg := get_rg (V := vD w bs) (i := a) (ws.length + 1 - j) j ha2.1 (by omega)
        have nx : Lines.Ent g ws (j + 1) at_ (max (w a) (Lines.W g ws a at_)) (bs a ++ [a]) := Lines.Ent.next (w := w) (bs := bs) hat j1 ⟨ha2.1, by omega⟩ (fun b h1 h2 => ent b h1 (by omega)) fun b h1 h2 => by
          have := least _ (List.mem_map.mpr ⟨b, List.mem_range'_1.mpr ⟨h1, by omega⟩, rfl⟩)
          simp only [] at this
          omega
        have hg' : getDs ((rg j (ws.length + 1 - j)).map kI) ((rg j (ws.length + 1 - j)).map (vD w bs)) (Sum.inl (a : Int)) = some (vD w bs a) := hg
        have len : (bs a).length ≤ 40 := by
          have e1 := (ent a ha2.1 (by omega)).len
          omega
        generalize hm : max (w a) (Lines.W g ws a at_) = m at *
        simp [keyD]
        rw [hg']
        simp
        refine ⟨by omega, ⟨by
          show (noLst (.int m) && (noLst (.tup ((bs a).map nD ++ [nD a])) && true)) = true
          rw [show (bs a).map nD ++ [nD a] = (bs a ++ [a]).map nD by rw [List.map_append]; rfl]
          show (true && (noLstL ((bs a ++ [a]).map nD) && true)) = true
          rw [noLstL_map fun _ _ => rfl]
          rfl, by omega⟩, ?_⟩
        have hmap : (rg (j + 1) i).map (vD w' bs') = (rg (j + 1) i).map (vD (fun x => if x = at_ then m else w' x) fun x => if x = at_ then bs a ++ [a] else bs' x) := List.map_congr_left fun x hx => by
          have := List.mem_range'_1.mp hx
          show D.tup [.int (w' x), .tup ((bs' x).map nD)] = D.tup [.int (if x = at_ then m else w' x), .tup ((if x = at_ then bs a ++ [a] else bs' x).map nD)]
          rw [if_neg (by omega), if_neg (by omega)]
        have hval : D.tup [D.int m, D.tup ((bs a).map nD ++ [nD a])] = vD (fun x => if x = at_ then m else w' x) (fun x => if x = at_ then bs a ++ [a] else bs' x) at_ := by
          show _ = D.tup [.int (if at_ = at_ then m else w' at_), .tup ((if at_ = at_ then bs a ++ [a] else bs' at_).map nD)]
          rw [if_pos rfl, if_pos rfl, List.map_append]
          rfl
        rw [show D.int (a : Int) = nD a from rfl, hval, hmap]
        have pr := put_rg (V := vD (fun x => if x = at_ then m else w' x) fun x => if x = at_ then bs a ++ [a] else bs' x) (k := j + 1) (m := i)
        rw [hA] at pr
        have p1 : putKs ((rg (j + 1) i).map kI) (Sum.inl (at_ : Int)) = _ := pr.1
        have p2 : putDs ((rg (j + 1) i).map kI) ((rg (j + 1) i).map (vD (fun x => if x = at_ then m else w' x) fun x => if x = at_ then bs a ++ [a] else bs' x)) (Sum.inl (at_ : Int)) (vD (fun x => if x = at_ then m else w' x) (fun x => if x = at_ then bs a ++ [a] else bs' x) at_) = _ := pr.2
        rw [p1, p2]
        refine hN' _ _ ⟨rfl, i + 1, _, _, _, _, _, _, hlt2, by rw [show j + 1 + (i + 1) = at_ + 1 by omega], fun x h1 h2 => ?_, rfl⟩
        by_cases hx : x = at_
        · subst hx
          rw [if_pos rfl, if_pos rfl]
          exact nx
        · rw [if_neg hx, if_neg hx]
          exact ent' x h1 (by omega)
    · rintro ρ c'' ⟨rfl, i, w', bs', y5, y8, y9, y10, hi, e, ent', rfl⟩
      have : i = ws.length - j := by
        have := congrArg List.length e
        simp at this
        omega
      subst this
      simp
      refine hN _ _ ⟨rfl, j + 1, w', bs', y5, .val (nD j), y8, y9, y10, by omega, hlt, rfl, fun a h1 h2 => ent' a h1 (by omega), ?_⟩
      rw [show ws.length + 1 - (j + 1) = ws.length - j by omega]
  · rintro ρ c' ⟨rfl, j, w, bs, x5, x6, x8, x9, x10, j1, j2, e, ent, rfl⟩
    have : j = l := by
      have := congrArg List.length e
      simp at this
      omega
    subst this
    simp
    have := get_rg (V := vD w bs) (i := ws.length) (ws.length + 1 - j) j (by omega) (by omega)
    show match getDs ((rg j (ws.length + 1 - j)).map kI) ((rg j (ws.length + 1 - j)).map (vD w bs)) (kI ws.length) with | some d => Q d c' | none => False
    rw [this]
    exact q _ _ (ent _ (by omega) (Nat.le_refl _))
end Law62

set_option maxHeartbeats 4000000
namespace Law62
open PySem PySem.Spec PyProof.Rows L2 L3
theorem S_llines {ws : List Int} {g : Int} {l : Nat} {c : Nat} {Q : KD} (h : Wo ws g) (l1 : 1 ≤ l) (l2 : l ≤ ws.length) (q : Q .non c) : m_look_at_lines [tD ws, .int g, .int (l : Int)] c Q := by
  refine ⟨rfl, ?_⟩
  simp [runM, g_look_at_lines, start3]
  refine S_words h (S_int_ok (by omega) (by omega) ⟨rfl, q⟩)
theorem S_narrow {ws : List Int} {g : Int} {l : Nat} {c : Nat} {Q : KD} (h : Wo ws g) (l1 : 1 ≤ l) (l2 : l ≤ ws.length) (q : ∀ (w : Int) (bs : List Nat), Lines.Ent g ws l ws.length w bs → Q (.tup [.int w, .tup (bs.map nD)]) c) : m_narrowest [tD ws, .int g, .int (l : Int)] c Q := by
  refine ⟨rfl, ?_⟩
  simp [runM, g_narrowest, start3]
  exact S_llines h l1 l2 (S_tnarrow h l1 l2 q)
theorem max_of : ∀ (l : List Int) (a M : Int), a ≤ M → (∀ x ∈ l, x ≤ M) → (a = M ∨ M ∈ l) → l.foldl max a = M
  | [], a, M, h1, _, h3 => by
    rcases h3 with rfl | h3
    · rfl
    · cases h3
  | b :: l, a, M, h1, h2, h3 => by
    have hb := h2 b (List.mem_cons_self ..)
    show l.foldl max (max a b) = M
    refine max_of l (max a b) M (by omega) (fun x hx => h2 x (List.mem_cons_of_mem _ hx)) ?_
    rcases h3 with rfl | h3
    · exact .inl (by omega)
    · rcases List.mem_cons.mp h3 with rfl | h3
      · exact .inl (by omega)
      · exact .inr h3
/-- max(t), t a tuple of ints: some greatest one -/
theorem max_ex : ∀ (l : List Int) (a : Int), ∃ M, (a = M ∨ M ∈ l) ∧ a ≤ M ∧ ∀ x ∈ l, x ≤ M
  | [], a => ⟨a, .inl rfl, Int.le_refl _, by simp⟩
  | b :: l, a => by
    obtain ⟨M, h1, h2, h3⟩ := max_ex l (max a b)
    refine ⟨M, ?_, by omega, fun x hx => ?_⟩
    · rcases h1 with h1 | h1
      · by_cases h : a ≤ b
        · exact .inr (by rw [show M = b by omega]; exact List.mem_cons_self ..)
        · exact .inl (by omega)
      · exact .inr (List.mem_cons_of_mem _ h1)
    · rcases List.mem_cons.mp hx with rfl | hx
      · omega
      · exact h3 x hx
theorem S_fewest {ws : List Int} {g w : Int} {c : Nat} {Q : KD} (h : Wo ws g) (w1 : 1 ≤ w) (w2 : w ≤ 40000000) (q1 : (∃ x ∈ ws, w < x) → Q .non c)
    (q2 : ∀ bs : List Nat, (∀ x ∈ ws, x ≤ w) → Lines.Fit g ws (bs.length + 1) w → (∀ l, Lines.Fit g ws l w → bs.length + 1 ≤ l) → Q (.tup (bs.map nD)) c) : m_fewest_lines [tD ws, .int g, .int w] c Q := by
  refine ⟨rfl, ?_⟩
  have hn := h.len
  have hn1 := h.ne
  simp [runM, g_fewest_lines, start3, -forL]
  refine S_words h ⟨by unfold L3.MulOk; omega, S_int_ok w1 (by omega) ?_⟩
  simp [-forL]
  obtain ⟨x, xs, rfl⟩ : ∃ x xs, ws = x :: xs := by
    cases ws with
    | nil => simp at hn1
    | cons x xs => exact ⟨x, xs, rfl⟩
  rw [L3.ints_of]
  obtain ⟨M, m1, m2, m3⟩ := max_ex xs x
  show ite _ _ _
  rw [max_of xs x M m2 m3 m1]
  have memM : M ∈ x :: xs := by
    rcases m1 with rfl | m1
    · exact List.mem_cons_self ..
    · exact List.mem_cons_of_mem _ m1
  split
  · rename_i hlt
    exact q1 ⟨M, memM, hlt⟩
  rename_i hM
  have le : ∀ y ∈ x :: xs, y ≤ w := fun y hy => by
    rcases List.mem_cons.mp hy with rfl | hy
    · omega
    · have := m3 y hy
      omega
  generalize hws : x :: xs = ws at *
  have one : ∀ i, i < ws.length → Lines.W g ws i (i + 1) ≤ w := fun i hi => by
    rw [Lines.W_eq (by omega) (by omega), show ((i + 1 : Nat) : Int) - (i : Int) - 1 = 0 by omega]
    have : Lines.pf ws (i + 1) - Lines.pf ws i = ws[i] := by
      unfold Lines.pf
      rw [List.take_succ_eq_append_getElem hi, List.sum_append]
      simp
      omega
    have := le ws[i] (List.getElem_mem hi)
    omega
  refine ⟨by omega, ?_⟩
  rw [show rangeL 1 (ws.length - 1) = (rg 1 (ws.length - 1)).map nD from rangeL_nD 1 _]
  refine for_rule (I := fun r ρ c' => c' = c ∧ ∃ (i : Nat) (bs : List Nat) (s : Nat) (x5 : SV), 1 ≤ i ∧ i ≤ ws.length ∧ r = (rg i (ws.length - i)).map nD ∧ Lines.Gre g ws w i bs s ∧ bs.length ≤ i ∧
    ρ = [.val (tD ws), .val (.int g), .val (.int w), .own (bs.map nD), .val (.int (s : Int)), x5]) ?_ ?_ _ _ _ ⟨rfl, 1, [], 0, .no, Nat.le_refl _, hn1, rfl, Lines.Gre.one (one 0 (by omega)), Nat.zero_le _, rfl⟩
  · rintro d r ρ c' ⟨rfl, i, bs, s, x5, i1, i2, e, gre, hl, rfl⟩ N hN
    have hlt : i < ws.length := by
      refine Nat.lt_of_not_le fun hle => ?_
      rw [show ws.length - i = 0 by omega] at e
      cases e
    rw [show ws.length - i = (ws.length - (i + 1)) + 1 by omega, rg, List.range'_succ, List.map_cons] at e
    cases e
    have hs := gre.lt
    simp
    rw [show (i : Int) + 1 = ((i + 1 : Nat) : Int) by omega]
    refine S_width h (by omega) hlt ?_
    simp
    split
    · rename_i hw
      refine ⟨by omega, hN _ _ ⟨rfl, i + 1, bs ++ [i], i, _, by omega, hlt, rfl, gre.new h.gap.1 h.nn hlt (by omega) (one i hlt), by rw [List.length_append]; simp; omega, by rw [List.map_append]; rfl⟩⟩
    · rename_i hw
      exact hN _ _ ⟨rfl, i + 1, bs, s, _, by omega, hlt, rfl, gre.keep h.gap.1 h.nn hlt (by omega), by omega, rfl⟩
  · rintro ρ c' ⟨rfl, i, bs, s, x5, i1, i2, e, gre, hl, rfl⟩
    have : i = ws.length := by
      have := congrArg List.length e
      simp at this
      omega
    subst this
    simp
    obtain ⟨f1, f2⟩ := gre.all (Nat.le_refl _)
    rw [List.take_length] at f1
    exact q2 bs le f1 fun l f => f2 l (by rw [List.take_length]; exact f)
end Law62

set_option maxHeartbeats 4000000
namespace Law62
open PySem PySem.Spec PyProof.Rows L2 L3
/-- high, wide, tall as look_at_back asks them -/
structure Bq (hi wi ta : Int) : Prop where
  h : 1 ≤ hi ∧ hi ≤ 1000000
  w : 1 ≤ wi ∧ wi ≤ 1000000
  t : 1 ≤ ta ∧ ta ≤ 1000000
theorem S_back {ws : List Int} {g hi wi ta : Int} {c : Nat} {Q : KD} (h : Wo ws g) (b : Bq hi wi ta) (q : Q .non c) : m_look_at_back [tD ws, .int g, .int hi, .int wi, .int ta] c Q := by
  refine ⟨rfl, ?_⟩
  simp [runM, g_look_at_back, start3]
  exact S_words h (S_int_ok b.h.1 b.h.2 ⟨rfl, S_int_ok b.w.1 b.w.2 ⟨rfl, S_int_ok b.t.1 b.t.2 ⟨rfl, q⟩⟩⟩)
/-- the letters' size where the words stand in l lines, no wider than N l -/
def sz (N : Nat → Int) (hi wi ta : Int) (l : Nat) : Int × Int := if wi * ((l : Int) * hi) ≤ ta * N l then (wi, N l) else (ta, (l : Int) * hi)
/-- the greatest of the first l -/
def bst (N : Nat → Int) (hi wi ta : Int) : Nat → Int × Int
  | 0 => (0, 1)
  | l + 1 => if (bst N hi wi ta l).1 * (sz N hi wi ta (l + 1)).2 < (sz N hi wi ta (l + 1)).1 * (bst N hi wi ta l).2 then sz N hi wi ta (l + 1) else bst N hi wi ta l
def prD (p : Int × Int) : D := .tup [.int p.1, .int p.2]
theorem S_tgreat {ws : List Int} {g hi wi ta : Int} {N : Nat → Int} {c : Nat} {Q : KD} (h : Wo ws g) (b : Bq hi wi ta) (hN : ∀ l, 1 ≤ l → l ≤ ws.length → Lines.Nar g ws l (N l)) (pos : ∀ l, 1 ≤ l → l ≤ ws.length → 1 ≤ N l ∧ N l ≤ 100000000)
    (q : ∀ (p r : Nat) (L : Nat) (bs : List Nat), bst N hi wi ta ws.length = ((p : Int), (r : Int)) → 0 < p → 0 < r → 1 ≤ L → L ≤ ws.length → sz N hi wi ta L = bst N hi wi ta ws.length → Lines.Ent g ws L ws.length (N L) bs →
      Q (.tup [.int ((p / Nat.gcd p r : Nat) : Int), .int ((r / Nat.gcd p r : Nat) : Int), .tup (bs.map nD)]) c) : m_told_greatest [tD ws, .int g, .int hi, .int wi, .int ta] c Q := by
  refine ⟨rfl, ?_⟩
  have hn := h.len
  have hn1 := h.ne
  obtain ⟨⟨b1, b2⟩, ⟨b3, b4⟩, b5, b6⟩ := b
  simp [runM, g_told_greatest, start3, -forL]
  have szb : ∀ L, 1 ≤ L → L ≤ ws.length → 1 ≤ (sz N hi wi ta L).1 ∧ (sz N hi wi ta L).1 ≤ 1000000 ∧ 1 ≤ (sz N hi wi ta L).2 ∧ (sz N hi wi ta L).2 ≤ 100000000 := fun L L1 L2 => by
    have p1 := pos L L1 L2
    have m1 := Int.mul_le_mul (show (1 : Int) ≤ (L : Int) by omega) b1 (by omega) (by omega)
    have m2 : (L : Int) * hi ≤ 40 * 1000000 := Int.mul_le_mul (by omega) b2 (by omega) (by omega)
    unfold sz
    split <;> simp <;> omega
  refine ⟨by omega, ?_⟩
  rw [show rangeL 1 ws.length = (rg 1 ws.length).map nD from rangeL_nD 1 _]
  refine for_rule (I := fun r ρ c' => c' = c ∧ ∃ (i : Nat) (d : D) (x6 x7 x8 x9 x10 x11 : SV), i ≤ ws.length ∧ r = (rg (i + 1) (ws.length - i)).map nD ∧
    ((i = 0 ∧ d = .non) ∨ (1 ≤ i ∧ ∃ L bs, d = .tup [prD (bst N hi wi ta i), .tup (bs.map nD)] ∧ 1 ≤ L ∧ L ≤ i ∧ sz N hi wi ta L = bst N hi wi ta i ∧ Lines.Ent g ws L ws.length (N L) bs)) ∧
    ρ = [.val (tD ws), .val (.int g), .val (.int hi), .val (.int wi), .val (.int ta), .val d, x6, x7, x8, x9, x10, x11]) ?_ ?_ _ _ _ ⟨rfl, 0, .non, .no, .no, .no, .no, .no, .no, Nat.zero_le _, rfl, .inl ⟨rfl, rfl⟩, rfl⟩
  · rintro d r ρ c' ⟨rfl, i, d0, x6, x7, x8, x9, x10, x11, i2, e, st, rfl⟩ N' hN'
    have hlt : i < ws.length := by
      refine Nat.lt_of_not_le fun hle => ?_
      rw [show ws.length - i = 0 by omega] at e
      cases e
    rw [show ws.length - i = (ws.length - (i + 1)) + 1 by omega, rg, List.range'_succ, List.map_cons] at e
    cases e
    simp
    rw [show (i : Int) + 1 = ((i + 1 : Nat) : Int) by omega]
    refine S_tnarrow h (by omega) hlt fun w bs ent => ?_
    have ew : w = N (i + 1) := by
      have := ent.nar
      rw [List.take_length] at this
      exact this.eq (hN (i + 1) (by omega) hlt)
    subst ew
    have p1 := pos (i + 1) (by omega) hlt
    simp
    have ei : (((i + 1 : Nat) : Int)) = (i : Int) + 1 := by omega
    have hmul : 1 ≤ ((i : Int) + 1) * hi ∧ ((i : Int) + 1) * hi ≤ 40 * 1000000 := ⟨by
      have := Int.mul_le_mul (show (1 : Int) ≤ (i : Int) + 1 by omega) b1 (by omega) (by omega)
      omega, Int.mul_le_mul (by omega) b2 (by omega) (by omega)⟩
    refine ⟨by unfold L3.MulOk; omega, by unfold L3.MulOk; omega, by unfold L3.MulOk; omega, ?_⟩
    split <;> rename_i hc
    · have es : sz N hi wi ta (i + 1) = (wi, N (i + 1)) := by
        unfold sz
        rw [if_pos (by rw [ei]; exact hc)]
      have bN : 1 ≤ wi ∧ wi ≤ 1000000 := by omega
      have bD : 1 ≤ N (i + 1) ∧ N (i + 1) ≤ 100000000 := p1
      rcases st with ⟨rfl, rfl⟩ | ⟨i1, L, bs', rfl, L1, L2, eL, entL⟩
      · simp
        refine hN' _ _ ⟨rfl, 0 + 1, _, _, _, _, _, _, _, hlt, rfl, .inr ⟨Nat.le_refl _, 0 + 1, bs, ?_, Nat.le_refl _, Nat.le_refl _, ?_, ent⟩, rfl⟩
        · show _ = D.tup [prD (if (0 : Int) * _ < _ * 1 then _ else _), _]
          rw [if_pos (by rw [es]; simp; omega), es]
          first | rfl | simp [prD]
        · show _ = (if (0 : Int) * _ < _ * 1 then _ else _)
          rw [if_pos (by rw [es]; simp; omega)]
      · have eb : bst N hi wi ta (i + 1) = if (bst N hi wi ta i).1 * N (i + 1) < wi * (bst N hi wi ta i).2 then (wi, N (i + 1)) else bst N hi wi ta i := by
          show (if (bst N hi wi ta i).1 * (sz N hi wi ta (i + 1)).2 < (sz N hi wi ta (i + 1)).1 * (bst N hi wi ta i).2 then sz N hi wi ta (i + 1) else bst N hi wi ta i) = _
          rw [es]
        obtain ⟨k1, k2, k3, k4⟩ := szb L L1 (by omega)
        rw [eL] at k1 k2 k3 k4
        have hB : bst N hi wi ta i = ((bst N hi wi ta i).1, (bst N hi wi ta i).2) := rfl
        simp [prD]
        refine ⟨by unfold L3.MulOk; omega, by unfold L3.MulOk; omega, ?_⟩
        split
        · rename_i hlt3
          refine hN' _ _ ⟨rfl, i + 1, _, _, _, _, _, _, _, hlt, rfl, .inr ⟨Nat.le_add_left .., i + 1, bs, ?_, Nat.le_add_left .., Nat.le_refl _, ?_, ent⟩, rfl⟩
          · rw [eb, if_pos hlt3]
            rfl
          · rw [eb, if_pos hlt3, es]
        · rename_i hlt3
          refine hN' _ _ ⟨rfl, i + 1, _, _, _, _, _, _, _, hlt, rfl, .inr ⟨Nat.le_add_left .., L, bs', ?_, L1, by omega, ?_, entL⟩, rfl⟩
          · rw [eb, if_neg hlt3]
            rfl
          · rw [eb, if_neg hlt3, eL]
    · have es : sz N hi wi ta (i + 1) = (ta, ((i : Int) + 1) * hi) := by
        unfold sz
        rw [if_neg (by rw [ei]; exact hc)]
        rw [ei]
      have bN : 1 ≤ ta ∧ ta ≤ 1000000 := by omega
      have bD : 1 ≤ ((i : Int) + 1) * hi ∧ ((i : Int) + 1) * hi ≤ 100000000 := by constructor <;> omega
      rcases st with ⟨rfl, rfl⟩ | ⟨i1, L, bs', rfl, L1, L2, eL, entL⟩
      · simp
        refine hN' _ _ ⟨rfl, 0 + 1, _, _, _, _, _, _, _, hlt, rfl, .inr ⟨Nat.le_refl _, 0 + 1, bs, ?_, Nat.le_refl _, Nat.le_refl _, ?_, ent⟩, rfl⟩
        · show _ = D.tup [prD (if (0 : Int) * _ < _ * 1 then _ else _), _]
          rw [if_pos (by rw [es]; simp; omega), es]
          first | rfl | simp [prD]
        · show _ = (if (0 : Int) * _ < _ * 1 then _ else _)
          rw [if_pos (by rw [es]; simp; omega)]
      · have eb : bst N hi wi ta (i + 1) = if (bst N hi wi ta i).1 * (((i : Int) + 1) * hi) < ta * (bst N hi wi ta i).2 then (ta, ((i : Int) + 1) * hi) else bst N hi wi ta i := by
          show (if (bst N hi wi ta i).1 * (sz N hi wi ta (i + 1)).2 < (sz N hi wi ta (i + 1)).1 * (bst N hi wi ta i).2 then sz N hi wi ta (i + 1) else bst N hi wi ta i) = _
          rw [es]
        obtain ⟨k1, k2, k3, k4⟩ := szb L L1 (by omega)
        rw [eL] at k1 k2 k3 k4
        have hB : bst N hi wi ta i = ((bst N hi wi ta i).1, (bst N hi wi ta i).2) := rfl
        simp [prD]
        refine ⟨by unfold L3.MulOk; omega, by unfold L3.MulOk; omega, ?_⟩
        split
        · rename_i hlt3
          refine hN' _ _ ⟨rfl, i + 1, _, _, _, _, _, _, _, hlt, rfl, .inr ⟨Nat.le_add_left .., i + 1, bs, ?_, Nat.le_add_left .., Nat.le_refl _, ?_, ent⟩, rfl⟩
          · rw [eb, if_pos hlt3]
            rfl
          · rw [eb, if_pos hlt3, es]
        · rename_i hlt3
          refine hN' _ _ ⟨rfl, i + 1, _, _, _, _, _, _, _, hlt, rfl, .inr ⟨Nat.le_add_left .., L, bs', ?_, L1, by omega, ?_, entL⟩, rfl⟩
          · rw [eb, if_neg hlt3]
            rfl
          · rw [eb, if_neg hlt3, eL]
  · rintro ρ c' ⟨rfl, i, d0, x6, x7, x8, x9, x10, x11, i2, e, st, rfl⟩
    have : i = ws.length := by
      have := congrArg List.length e
      simp at this
      omega
    subst this
    rcases st with ⟨h0, _⟩ | ⟨i1, L, bs, rfl, L1, L2, eL, entL⟩
    · omega
    obtain ⟨k1, k2, k3, k4⟩ := szb L L1 L2
    rw [eL] at k1 k2 k3 k4
    obtain ⟨p, ep⟩ : ∃ p : Nat, (bst N hi wi ta ws.length).1 = (p : Int) := ⟨_, (Int.toNat_of_nonneg (by omega)).symm⟩
    obtain ⟨r, er⟩ : ∃ r : Nat, (bst N hi wi ta ws.length).2 = (r : Int) := ⟨_, (Int.toNat_of_nonneg (by omega)).symm⟩
    simp [prD]
    rw [ep, er]
    refine S_lowest (by omega) (by omega) ?_
    have := q p r L bs (by rw [← ep, ← er]) (by omega) (by omega) L1 L2 eL entL
    simp
    rw [Int.natCast_ediv, Int.natCast_ediv] at this
    exact this
theorem S_great {ws : List Int} {g hi wi ta : Int} {N : Nat → Int} {c : Nat} {Q : KD} (h : Wo ws g) (b : Bq hi wi ta) (hN : ∀ l, 1 ≤ l → l ≤ ws.length → Lines.Nar g ws l (N l)) (pos : ∀ l, 1 ≤ l → l ≤ ws.length → 1 ≤ N l ∧ N l ≤ 100000000)
    (q : ∀ (p r : Nat) (L : Nat) (bs : List Nat), bst N hi wi ta ws.length = ((p : Int), (r : Int)) → 0 < p → 0 < r → 1 ≤ L → L ≤ ws.length → sz N hi wi ta L = bst N hi wi ta ws.length → Lines.Ent g ws L ws.length (N L) bs →
      Q (.tup [.int ((p / Nat.gcd p r : Nat) : Int), .int ((r / Nat.gcd p r : Nat) : Int), .tup (bs.map nD)]) c) : m_greatest_letters [tD ws, .int g, .int hi, .int wi, .int ta] c Q := by
  refine ⟨rfl, ?_⟩
  simp [runM, g_greatest_letters, start3]
  exact S_back h b (S_tgreat h b hN pos q)
end Law62

set_option maxHeartbeats 4000000
namespace Law62
open PySem PySem.Spec PyProof.Rows L2 L3
/-- the size told fits: no wider, no higher than the back -/
theorem sz_fits {N : Nat → Int} {hi wi ta : Int} {L p r : Nat} (e : sz N hi wi ta L = ((p : Int), (r : Int))) (hp : 0 < p) (hr : 0 < r) :
    N L * ((p / Nat.gcd p r : Nat) : Int) ≤ wi * ((r / Nat.gcd p r : Nat) : Int) ∧ (L : Int) * hi * ((p / Nat.gcd p r : Nat) : Int) ≤ ta * ((r / Nat.gcd p r : Nat) : Int) := by
  obtain ⟨h1, h2⟩ : p / Nat.gcd p r * Nat.gcd p r = p ∧ r / Nat.gcd p r * Nat.gcd p r = r := ⟨Nat.div_mul_cancel (Nat.gcd_dvd_left p r), Nat.div_mul_cancel (Nat.gcd_dvd_right p r)⟩
  have hg := gcd_pos' (t := p) hr
  generalize p / Nat.gcd p r = T at *
  generalize r / Nat.gcd p r = B at *
  generalize Nat.gcd p r = G at *
  have g1 : (T : Int) * (G : Int) = (p : Int) := by exact_mod_cast h1
  have g2 : (B : Int) * (G : Int) = (r : Int) := by exact_mod_cast h2
  have hG : (0 : Int) < (G : Int) := by omega
  unfold sz at e
  split at e
  · rename_i hc
    obtain ⟨e1, e2⟩ := Prod.mk.inj e
    constructor
    · refine Int.le_of_eq ?_
      rw [e1, e2, ← g1, ← g2]
      grind
    · refine Int.le_of_mul_le_mul_right ?_ hG
      rw [Int.mul_assoc ((L : Int) * hi), Int.mul_assoc ta, g1, g2, ← e1, ← e2]
      have : (L : Int) * hi * wi = wi * ((L : Int) * hi) := by grind
      omega
  · rename_i hc
    obtain ⟨e1, e2⟩ := Prod.mk.inj e
    constructor
    · refine Int.le_of_mul_le_mul_right ?_ hG
      rw [Int.mul_assoc, Int.mul_assoc, g1, g2, ← e1, ← e2]
      have : N L * ta = ta * N L := Int.mul_comm _ _
      omega
    · refine Int.le_of_eq ?_
      rw [e2, e1, ← g1, ← g2]
      grind
theorem S_shows {ws : List Int} {g hi wi ta : Int} {N : Nat → Int} {p r L : Nat} {bs : List Nat} {c : Nat} {Q : KD} (h : Wo ws g) (b : Bq hi wi ta) (hN : ∀ l, 1 ≤ l → l ≤ ws.length → Lines.Nar g ws l (N l)) (pos : ∀ l, 1 ≤ l → l ≤ ws.length → 1 ≤ N l ∧ N l ≤ 100000000)
    (eb : bst N hi wi ta ws.length = ((p : Int), (r : Int))) (hp : 0 < p) (hr : 0 < r) (L1 : 1 ≤ L) (L2 : L ≤ ws.length) (es : sz N hi wi ta L = bst N hi wi ta ws.length) (ent : Lines.Ent g ws L ws.length (N L) bs) (q : Q (.bl true) c) :
    m_shows_greatest_letters [tD ws, .int g, .int hi, .int wi, .int ta, .tup [.int ((p / Nat.gcd p r : Nat) : Int), .int ((r / Nat.gcd p r : Nat) : Int), .tup (bs.map nD)]] c Q := by
  refine ⟨rfl, ?_⟩
  have hn := h.len
  have hlen := ent.len
  have bk : Bk ws.length bs := ⟨ent.up, ent.pos⟩
  obtain ⟨f1, f2⟩ := sz_fits (es.trans eb) hp hr
  have bT : p / Nat.gcd p r ≤ p := Nat.div_le_self _ _
  have bB : r / Nat.gcd p r ≤ r := Nat.div_le_self _ _
  have pb : (p : Int) ≤ 1000000 := by
    have e := es.trans eb
    have h1 := b.w
    have h2 := b.t
    unfold sz at e
    split at e
    · have := (Prod.mk.inj e).1
      omega
    · have := (Prod.mk.inj e).1
      omega
  generalize hT : p / Nat.gcd p r = T at *
  generalize hB : r / Nat.gcd p r = B at *
  simp [runM, g_shows_greatest_letters, start3]
  refine S_back h b ⟨rfl, S_abreaks h bk (by omega) ?_⟩
  simp
  refine S_tgreat h b hN pos fun p' r' L' bs' eb' hp' hr' _ _ _ _ => ?_
  have epr := eb.symm.trans eb'
  obtain ⟨e1, e2⟩ := Prod.mk.inj epr
  have e1 : p = p' := by omega
  have e2 : r = r' := by omega
  subst e1
  subst e2
  rw [hT, hB]
  have ec : L3.cutD [D.int (T : Int), .int (B : Int), .tup (bs'.map nD)] none (some 2) = [.int (T : Int), .int (B : Int)] := by
    rw [show (2 : Int) = ((2 : Nat) : Int) from rfl, cutD_to]
    rfl
  simp only []
  rw [ec]
  refine ⟨rfl, ?_⟩
  simp only []
  refine S_int_ok (Int.le_refl _) (Int.le_refl _) ?_
  simp only [if_true]
  refine S_int_ok (Int.le_refl _) (Int.le_refl _) ?_
  simp only [if_true]
  refine S_tlines h bk (by omega) ?_
  have hw := b.w
  have ht := b.t
  have hh := b.h
  have hc : (Lines.chk ws bs ws.length).length = L := by
    unfold Lines.chk
    rw [List.length_zipWith, List.length_cons, List.length_append]
    simp
    omega
  obtain ⟨c0, hc0, ec0⟩ := ent.top
  have le := ent.le
  have em : (Lines.chk ws bs ws.length).map (fun c => D.int (Lines.wd g c)) = ((Lines.chk ws bs ws.length).map (Lines.wd g)).map D.int := by rw [List.map_map]; rfl
  rw [em]
  generalize Lines.chk ws bs ws.length = C at *
  cases C with
  | nil => cases hc0
  | cons c1 C =>
    simp only []
    rw [L3.ints_of]
    have em2 : (C.map (Lines.wd g)).foldl max (Lines.wd g c1) = N L := max_of (C.map (Lines.wd g)) (Lines.wd g c1) (N L) (le c1 (List.mem_cons_self ..)) (fun x hx => by
      obtain ⟨d, hd, rfl⟩ := List.mem_map.mp hx
      exact le d (List.mem_cons_of_mem _ hd)) (by
      rcases List.mem_cons.mp hc0 with rfl | hc0
      · exact .inl ec0
      · exact .inr (List.mem_map.mpr ⟨c0, hc0, ec0⟩))
    have hl2 : ((((c1 :: C).map (Lines.wd g)).map D.int).length : Int) = (L : Int) := by rw [List.length_map, List.length_map, hc]
    show L3.MulOk ((C.map (Lines.wd g)).foldl max (Lines.wd g c1)) T ∧ L3.MulOk wi B ∧ _
    rw [em2, hl2, decide_eq_true f1, decide_eq_true f2]
    have m2 : (L : Int) * hi ≤ 40 * 1000000 := Int.mul_le_mul (by omega) hh.2 (by omega) (by omega)
    have m1 : (0 : Int) ≤ (L : Int) * hi := Int.mul_nonneg (by omega) (by omega)
    have pn := pos L L1 L2
    refine ⟨by unfold L3.MulOk; omega, by unfold L3.MulOk; omega, ?_⟩
    rw [if_pos rfl]
    exact ⟨by unfold L3.MulOk; omega, by unfold L3.MulOk; omega, by unfold L3.MulOk; omega, q⟩
end Law62

set_option maxHeartbeats 4000000
namespace Law62
/-- one fraction is no more than the other -/
def le2 (a b : Int × Int) : Prop := a.1 * b.2 ≤ b.1 * a.2
theorem le2_refl (a : Int × Int) : le2 a a := Int.le_refl _
theorem le2_trans {a b c : Int × Int} (hb : 0 < b.2) (ha : 0 < a.2) (hc : 0 < c.2) (h1 : le2 a b) (h2 : le2 b c) : le2 a c := by
  unfold le2 at *
  refine Int.le_of_mul_le_mul_right ?_ hb
  have e1 := Int.mul_le_mul_of_nonneg_right h1 (Int.le_of_lt hc)
  have e2 := Int.mul_le_mul_of_nonneg_right h2 (Int.le_of_lt ha)
  have x1 : a.1 * c.2 * b.2 = a.1 * b.2 * c.2 := by grind
  have x2 : b.1 * a.2 * c.2 = b.1 * c.2 * a.2 := by grind
  have x3 : c.1 * b.2 * a.2 = c.1 * a.2 * b.2 := by grind
  omega
theorem le2_total (a b : Int × Int) (h : ¬ a.1 * b.2 < b.1 * a.2) : le2 b a := by
  unfold le2
  omega
section
variable {N : Nat → Int} {hi wi ta : Int} {n : Nat}
/-- all sizes are more than nothing -/
def Pos (N : Nat → Int) (hi wi ta : Int) (n : Nat) : Prop := ∀ l, 1 ≤ l → l ≤ n → 0 < (sz N hi wi ta l).1 ∧ 0 < (sz N hi wi ta l).2
theorem bst_one (hp : Pos N hi wi ta n) (hn : 1 ≤ n) : bst N hi wi ta 1 = sz N hi wi ta 1 := by
  have := (hp 1 (Nat.le_refl _) hn).1
  show (if (0 : Int) * (sz N hi wi ta 1).2 < (sz N hi wi ta 1).1 * 1 then sz N hi wi ta 1 else (0, 1)) = _
  rw [if_pos (by omega)]
theorem bst_is (hp : Pos N hi wi ta n) : ∀ m, 1 ≤ m → m ≤ n → (∃ L, 1 ≤ L ∧ L ≤ m ∧ bst N hi wi ta m = sz N hi wi ta L) ∧ ∀ l, 1 ≤ l → l ≤ m → le2 (sz N hi wi ta l) (bst N hi wi ta m)
  | 0, h, _ => by omega
  | 1, _, hn => by
    rw [bst_one hp hn]
    refine ⟨⟨1, Nat.le_refl _, Nat.le_refl _, rfl⟩, fun l h1 h2 => ?_⟩
    have : l = 1 := by omega
    subst this
    exact le2_refl _
  | m + 2, _, hn => by
    obtain ⟨⟨L, L1, L2, eL⟩, up⟩ := bst_is hp (m + 1) (by omega) (by omega)
    have pm := hp (m + 2) (by omega) hn
    have pL := hp L L1 (by omega)
    have step : bst N hi wi ta (m + 2) = if (bst N hi wi ta (m + 1)).1 * (sz N hi wi ta (m + 2)).2 < (sz N hi wi ta (m + 2)).1 * (bst N hi wi ta (m + 1)).2 then sz N hi wi ta (m + 2) else bst N hi wi ta (m + 1) := rfl
    rw [step]
    split
    · rename_i hlt
      refine ⟨⟨m + 2, by omega, Nat.le_refl _, rfl⟩, fun l h1 h2 => ?_⟩
      by_cases e : l = m + 2
      · subst e
        exact le2_refl _
      · refine le2_trans (b := bst N hi wi ta (m + 1)) (by rw [eL]; exact pL.2) (hp l h1 (by omega)).2 pm.2 (up l h1 (by omega)) ?_
        unfold le2
        omega
    · rename_i hlt
      refine ⟨⟨L, L1, by omega, eL⟩, fun l h1 h2 => ?_⟩
      by_cases e : l = m + 2
      · subst e
        exact le2_total _ _ hlt
      · exact up l h1 (by omega)
/-- better sizes, a better best -/
theorem bst_mono {N' : Nat → Int} {hi' wi' ta' : Int} (hp : Pos N hi wi ta n) (hp' : Pos N' hi' wi' ta' n) (hn : 1 ≤ n) (h : ∀ l, 1 ≤ l → l ≤ n → le2 (sz N hi wi ta l) (sz N' hi' wi' ta' l)) : le2 (bst N hi wi ta n) (bst N' hi' wi' ta' n) := by
  obtain ⟨⟨L, L1, L2, eL⟩, _⟩ := bst_is hp n hn (Nat.le_refl _)
  obtain ⟨⟨L', L1', L2', eL'⟩, up⟩ := bst_is hp' n hn (Nat.le_refl _)
  rw [eL]
  refine le2_trans (hp' L L1 L2).2 (hp L L1 L2).2 ?_ (h L L1 L2) (up L L1 L2)
  rw [eL']
  exact (hp' L' L1' L2').2
/-- wide and tall so many times: the sizes too -/
theorem sz_times {t : Int} (ht : 0 < t) (l : Nat) : sz N hi (t * wi) (t * ta) l = (t * (sz N hi wi ta l).1, (sz N hi wi ta l).2) := by
  have e1 : t * wi * ((l : Int) * hi) = t * (wi * ((l : Int) * hi)) := by grind
  have e2 : t * ta * N l = t * (ta * N l) := by grind
  unfold sz
  rw [e1, e2]
  by_cases h : wi * ((l : Int) * hi) ≤ ta * N l
  · rw [if_pos h, if_pos (Int.mul_le_mul_of_nonneg_left h (Int.le_of_lt ht))]
  · rw [if_neg h, if_neg fun z => h (Int.le_of_mul_le_mul_left z ht)]
theorem bst_times {t : Int} (ht : 0 < t) : ∀ l, bst N hi (t * wi) (t * ta) l = (t * (bst N hi wi ta l).1, (bst N hi wi ta l).2)
  | 0 => by simp [bst]
  | l + 1 => by
    have s1 : bst N hi (t * wi) (t * ta) (l + 1) = if (bst N hi (t * wi) (t * ta) l).1 * (sz N hi (t * wi) (t * ta) (l + 1)).2 < (sz N hi (t * wi) (t * ta) (l + 1)).1 * (bst N hi (t * wi) (t * ta) l).2 then sz N hi (t * wi) (t * ta) (l + 1) else bst N hi (t * wi) (t * ta) l := rfl
    have s2 : bst N hi wi ta (l + 1) = if (bst N hi wi ta l).1 * (sz N hi wi ta (l + 1)).2 < (sz N hi wi ta (l + 1)).1 * (bst N hi wi ta l).2 then sz N hi wi ta (l + 1) else bst N hi wi ta l := rfl
    rw [s1, s2, bst_times ht l, sz_times ht (l + 1)]
    simp only []
    have e1 : t * (bst N hi wi ta l).1 * (sz N hi wi ta (l + 1)).2 = t * ((bst N hi wi ta l).1 * (sz N hi wi ta (l + 1)).2) := by grind
    have e2 : t * (sz N hi wi ta (l + 1)).1 * (bst N hi wi ta l).2 = t * ((sz N hi wi ta (l + 1)).1 * (bst N hi wi ta l).2) := by grind
    rw [e1, e2]
    by_cases h : (bst N hi wi ta l).1 * (sz N hi wi ta (l + 1)).2 < (sz N hi wi ta (l + 1)).1 * (bst N hi wi ta l).2
    · rw [if_pos h, if_pos (Int.mul_lt_mul_of_pos_left h ht)]
    · rw [if_neg h, if_neg fun z => h (Int.lt_of_mul_lt_mul_left z (Int.le_of_lt ht))]
/-- words, gap and height so many times -/
theorem sz_wide {t : Int} (ht : 0 < t) (l : Nat) : sz (fun l => t * N l) (t * hi) wi ta l = ((sz N hi wi ta l).1, t * (sz N hi wi ta l).2) := by
  have e1 : wi * ((l : Int) * (t * hi)) = t * (wi * ((l : Int) * hi)) := by grind
  have e2 : ta * (t * N l) = t * (ta * N l) := by grind
  have e3 : (l : Int) * (t * hi) = t * ((l : Int) * hi) := by grind
  unfold sz
  simp only []
  rw [e1, e2, e3]
  by_cases h : wi * ((l : Int) * hi) ≤ ta * N l
  · rw [if_pos h, if_pos (Int.mul_le_mul_of_nonneg_left h (Int.le_of_lt ht))]
  · rw [if_neg h, if_neg fun z => h (Int.le_of_mul_le_mul_left z ht)]
theorem bst_wide {t : Int} (ht : 0 < t) (hp : Pos N hi wi ta n) (hp' : Pos (fun l => t * N l) (t * hi) wi ta n) : ∀ m, 1 ≤ m → m ≤ n → bst (fun l => t * N l) (t * hi) wi ta m = ((bst N hi wi ta m).1, t * (bst N hi wi ta m).2)
  | 0, h, _ => by omega
  | 1, _, hn => by rw [bst_one hp hn, bst_one hp' hn, sz_wide ht]
  | m + 2, _, hn => by
    have s1 : bst (fun l => t * N l) (t * hi) wi ta (m + 2) = if (bst (fun l => t * N l) (t * hi) wi ta (m + 1)).1 * (sz (fun l => t * N l) (t * hi) wi ta (m + 2)).2 < (sz (fun l => t * N l) (t * hi) wi ta (m + 2)).1 * (bst (fun l => t * N l) (t * hi) wi ta (m + 1)).2 then sz (fun l => t * N l) (t * hi) wi ta (m + 2) else bst (fun l => t * N l) (t * hi) wi ta (m + 1) := rfl
    have s2 : bst N hi wi ta (m + 2) = if (bst N hi wi ta (m + 1)).1 * (sz N hi wi ta (m + 2)).2 < (sz N hi wi ta (m + 2)).1 * (bst N hi wi ta (m + 1)).2 then sz N hi wi ta (m + 2) else bst N hi wi ta (m + 1) := rfl
    rw [s1, s2, bst_wide ht hp hp' (m + 1) (by omega) (by omega), sz_wide ht (m + 2)]
    simp only []
    have e1 : (bst N hi wi ta (m + 1)).1 * (t * (sz N hi wi ta (m + 2)).2) = t * ((bst N hi wi ta (m + 1)).1 * (sz N hi wi ta (m + 2)).2) := by grind
    have e2 : (sz N hi wi ta (m + 2)).1 * (t * (bst N hi wi ta (m + 1)).2) = t * ((sz N hi wi ta (m + 2)).1 * (bst N hi wi ta (m + 1)).2) := by grind
    rw [e1, e2]
    by_cases h : (bst N hi wi ta (m + 1)).1 * (sz N hi wi ta (m + 2)).2 < (sz N hi wi ta (m + 2)).1 * (bst N hi wi ta (m + 1)).2
    · rw [if_pos h, if_pos (Int.mul_lt_mul_of_pos_left h ht)]
    · rw [if_neg h, if_neg fun z => h (Int.lt_of_mul_lt_mul_left z (Int.le_of_lt ht))]
end
end Law62

set_option maxHeartbeats 4000000
namespace Law62
open PySem PySem.Spec PyProof.Rows L2 L3
/-- what one lap draws: words, gap, the least widths -/
structure Lap (ws : List Int) (g : Int) (N : Nat → Int) : Prop where
  wo : Wo ws g
  small : ∀ x ∈ ws, x ≤ 30
  gap : g ≤ 5
  len : ws.length ≤ 14
  nar : ∀ l, 1 ≤ l → l ≤ ws.length → Lines.Nar g ws l (N l)
theorem Lap.pos {ws : List Int} {g : Int} {N : Nat → Int} (h : Lap ws g N) : ∀ l, 1 ≤ l → l ≤ ws.length → 1 ≤ N l ∧ N l ≤ 1000 := fun l l1 l2 => by
  have f := (h.nar l l1 l2).1
  obtain ⟨x, hx⟩ : ∃ x, x ∈ ws := by
    cases ws with
    | nil => simp at l2; omega
    | cons x xs => exact ⟨x, List.mem_cons_self ..⟩
  have a := f.word h.wo.gap.1 h.wo.nn x hx
  have b := h.wo.all x hx
  refine ⟨by omega, ?_⟩
  have hle : ∀ w, Lines.Fit g ws 1 w → ∀ l, 1 ≤ l → l ≤ ws.length → Lines.Fit g ws l w := fun w f l => by
    induction l with
    | zero => intro h1; omega
    | succ l ih =>
      intro _ h2
      by_cases e : l = 0
      · subst e
        exact f
      · exact (ih (by omega) (by omega)).more h.wo.gap.1 h.wo.nn (by omega)
  have hne : ws ≠ [] := fun z => by rw [z] at hx; cases hx
  have f1 : Lines.Fit g ws 1 (Lines.wd g ws) := (Lines.fit_one hne).mpr (Int.le_refl _)
  have := (h.nar l l1 l2).2 _ (hle _ f1 l l1 l2)
  have hs : ∀ l : List Int, (∀ x ∈ l, x ≤ 30) → l.sum ≤ 30 * l.length := by
    intro l
    induction l with
    | nil => simp
    | cons a l ih =>
      intro hh
      have := ih fun x hx => hh x (List.mem_cons_of_mem _ hx)
      have := hh a (List.mem_cons_self ..)
      simp only [List.sum_cons, List.length_cons]
      omega
  have s1 := hs ws h.small
  have s2 : g * ((ws.length : Int) - 1) ≤ 5 * 13 := Int.mul_le_mul h.gap (by have := h.len; omega) (by have := h.wo.ne; omega) (by omega)
  have hl := h.len
  unfold Lines.wd at this
  omega
end Law62

set_option maxHeartbeats 4000000
namespace Law62
open PySem PySem.Spec PyProof.Rows L2 L3
/-- what a lap draws of the back -/
structure Bk2 (hi wi ta : Int) : Prop where
  h : 1 ≤ hi ∧ hi ≤ 9
  w : 1 ≤ wi ∧ wi ≤ 2000
  t : 1 ≤ ta ∧ ta ≤ 200
theorem Bk2.bq {hi wi ta : Int} (b : Bk2 hi wi ta) : Bq hi wi ta := ⟨⟨b.h.1, by have := b.h; omega⟩, ⟨b.w.1, by have := b.w; omega⟩, ⟨b.t.1, by have := b.t; omega⟩⟩
theorem Lap.Pos {ws : List Int} {g : Int} {N : Nat → Int} (h : Lap ws g N) {hi wi ta : Int} (b : Bq hi wi ta) : Pos N hi wi ta ws.length := fun l l1 l2 => by
  have p := h.pos l l1 l2
  have m := Int.mul_le_mul (show (1 : Int) ≤ (l : Int) by omega) b.h.1 (by omega) (by omega)
  have := b.w
  have := b.t
  unfold sz
  split <;> simp <;> omega
abbrev en (ws : List Int) (g hi wi ta : Int) (T B : Nat) (s1 s3 s5 s6 s7 s8 s9 s10 s11 s13 s14 s19 s20 s21 s22 s23 s24 s25 : SV) : Env3 :=
  [.val .pot, s1, .val (tD ws), s3, .val (.int g), s5, s6, s7, s8, s9, s10, s11, .val (.int wi), s13, s14, .val (.int hi), .val (.int ta), .val (.int (T : Int)), .val (.int (B : Int)), s19, s20, s21, s22, s23, s24, s25]
theorem frac {p r p' r' T B T' B' G G' a b : Int} (hG : 0 < G) (hG' : 0 < G') (h1 : T * G = p) (h2 : B * G = r) (h1' : T' * G' = p') (h2' : B' * G' = r') (e : a * p' * r = b * p * r') : a * T' * B = b * T * B' := by
  refine Int.eq_of_mul_eq_mul_right (show G' * G ≠ 0 from Int.ne_of_gt (Int.mul_pos hG' hG)) ?_
  have x1 : a * T' * B * (G' * G) = a * (T' * G') * (B * G) := by grind
  have x2 : b * T * B' * (G' * G) = b * (T * G) * (B' * G') := by grind
  rw [x1, x2, h1, h2, h1', h2', e]
theorem low_cast (p r : Nat) : (((p / Nat.gcd p r : Nat) : Int)) * ((Nat.gcd p r : Nat) : Int) = (p : Int) ∧ (((r / Nat.gcd p r : Nat) : Int)) * ((Nat.gcd p r : Nat) : Int) = (r : Int) := by
  have h1 := Nat.div_mul_cancel (Nat.gcd_dvd_left p r)
  have h2 := Nat.div_mul_cancel (Nat.gcd_dvd_right p r)
  constructor
  · exact_mod_cast h1
  · exact_mod_cast h2
theorem S_t3 {ws : List Int} {g hi wi ta t : Int} {N : Nat → Int} {p r : Nat} {c : Nat} {E : End3} {s1 s3 s5 s6 s7 s8 s9 s10 s11 s13 s14 s19 s20 s21 s22 s24 s25 : SV} (h : Lap ws g N) (b : Bk2 hi wi ta) (ht : 2 ≤ t ∧ t ≤ 6)
    (eb : bst N hi wi ta ws.length = ((p : Int), (r : Int))) (hp : 0 < p) (hr : 0 < r) (q : ∀ s25, E.nx (en ws g hi wi ta (p / Nat.gcd p r) (r / Nat.gcd p r) s1 s3 s5 s6 s7 s8 s9 s10 s11 s13 s14 s19 s20 s21 s22 (.val (.int t)) s24 s25) c) :
    g_law_right_t3 E (en ws g hi wi ta (p / Nat.gcd p r) (r / Nat.gcd p r) s1 s3 s5 s6 s7 s8 s9 s10 s11 s13 s14 s19 s20 s21 s22 (.val (.int t)) s24 s25) c := by
  obtain ⟨c1, c2⟩ := low_cast p r
  have gp := gcd_pos' (t := p) hr
  have bT : p / Nat.gcd p r ≤ p := Nat.div_le_self _ _
  generalize p / Nat.gcd p r = T at *
  generalize r / Nat.gcd p r = B at *
  simp [g_law_right_t3, en, -compL]
  refine L3.comp_map (fun d => match d with | .int x => .int (t * x) | d => d) _ _ (fun d hd K hK => ?_) ?_
  · obtain ⟨x, hx, rfl⟩ := List.mem_map.mp hd
    simp
    exact ⟨by unfold L3.MulOk; omega, hK⟩
  have em : (ws.map D.int).map (fun d => match d with | .int x => .int (t * x) | d => d) = (ws.map (t * ·)).map D.int := by
    rw [List.map_map, List.map_map]
    rfl
  rw [em]
  have wo' : Wo (ws.map (t * ·)) (t * g) := by
    have hg := h.gap
    have hg0 := h.wo.gap
    refine ⟨fun x hx => ?_, by rw [List.length_map]; exact h.wo.ne, by rw [List.length_map]; exact h.wo.len, ?_⟩
    · obtain ⟨y, hy, rfl⟩ := List.mem_map.mp hx
      have a1 := h.wo.all y hy
      have a2 := h.small y hy
      have m1 := Int.mul_le_mul (show (1 : Int) ≤ t by omega) a1.1 (by omega) (by omega)
      have m2 : t * y ≤ 6 * 30 := Int.mul_le_mul ht.2 a2 (by omega) (by omega)
      omega
    · have m1 := Int.mul_nonneg (show 0 ≤ t by omega) hg0.1
      have m2 : t * g ≤ 6 * 5 := Int.mul_le_mul ht.2 hg hg0.1 (by omega)
      omega
  have bh := b.h
  have bq' : Bq (t * hi) wi ta := by
    have m1 := Int.mul_le_mul (show (1 : Int) ≤ t by omega) bh.1 (by omega) (by omega)
    have m2 : t * hi ≤ 6 * 9 := Int.mul_le_mul ht.2 bh.2 (by omega) (by omega)
    exact ⟨by omega, b.bq.w, b.bq.t⟩
  have pos' : ∀ l, 1 ≤ l → l ≤ (ws.map (t * ·)).length → 1 ≤ t * N l ∧ t * N l ≤ 100000000 := fun l l1 l2 => by
    rw [List.length_map] at l2
    have p1 := h.pos l l1 l2
    have m1 := Int.mul_le_mul (show (1 : Int) ≤ t by omega) p1.1 (by omega) (by omega)
    have m2 : t * N l ≤ 6 * 1000 := Int.mul_le_mul ht.2 p1.2 (by omega) (by omega)
    omega
  have Pos' : Pos (fun l => t * N l) (t * hi) wi ta ws.length := fun l l1 l2 => by
    have := (h.Pos b.bq) l l1 l2
    rw [sz_wide (show 0 < t by omega)]
    exact ⟨this.1, Int.mul_pos (by omega) this.2⟩
  refine ⟨by unfold L3.MulOk; omega, by unfold L3.MulOk; omega, S_great (N := fun l => t * N l) wo' bq' (fun l l1 l2 => (h.nar l l1 (by rw [List.length_map] at l2; exact l2)).times (by omega)) pos' fun p' r' L bs e' hp' hr' _ _ _ _ => ?_⟩
  rw [List.length_map, bst_wide (show 0 < t by omega) (h.Pos b.bq) Pos' ws.length h.wo.ne (Nat.le_refl _), eb] at e'
  obtain ⟨e1, e2⟩ := Prod.mk.inj e'
  obtain ⟨c1', c2'⟩ := low_cast p' r'
  have gp' := gcd_pos' (t := p') hr'
  have hb : (p : Int) ≤ 1000000 := by
    obtain ⟨⟨L, L1, L2, eL⟩, _⟩ := bst_is (h.Pos b.bq) ws.length h.wo.ne (Nat.le_refl _)
    rw [eb] at eL
    have h1 := b.w
    have h2 := b.t
    unfold sz at eL
    split at eL
    · have := (Prod.mk.inj eL).1
      omega
    · have := (Prod.mk.inj eL).1
      omega
  have bT' : p' / Nat.gcd p' r' ≤ p' := Nat.div_le_self _ _
  have key : t * ((p' / Nat.gcd p' r' : Nat) : Int) * (B : Int) = 1 * (T : Int) * ((r' / Nat.gcd p' r' : Nat) : Int) := by
    refine frac (G := (Nat.gcd p r : Nat)) (G' := (Nat.gcd p' r' : Nat)) (by omega) (by omega) c1 c2 c1' c2' ?_
    have e1 : (p' : Int) = (p : Int) := e1.symm
    have e2 : (r' : Int) = t * (r : Int) := e2.symm
    rw [e1, e2]
    grind
  rw [Int.one_mul] at key
  generalize p' / Nat.gcd p' r' = T' at *
  generalize r' / Nat.gcd p' r' = B' at *
  simp
  have m2 : t * (T' : Int) ≤ 6 * 1000000 := Int.mul_le_mul ht.2 (by omega) (by omega) (by omega)
  have m1 : 0 ≤ t * (T' : Int) := Int.mul_nonneg (by omega) (by omega)
  refine ⟨by unfold L3.MulOk; omega, by unfold L3.MulOk; omega, by unfold L3.MulOk; omega, ?_⟩
  rw [if_pos key]
  exact q _
theorem S_t4 {ws : List Int} {g hi wi ta t : Int} {N : Nat → Int} {p r L : Nat} {bs : List Nat} {c : Nat} {E : End3} {s1 s3 s5 s6 s7 s8 s9 s11 s13 s14 s19 s20 s21 s22 s24 s25 : SV} (h : Lap ws g N) (b : Bk2 hi wi ta) (ht : 2 ≤ t ∧ t ≤ 6)
    (eb : bst N hi wi ta ws.length = ((p : Int), (r : Int))) (hp : 0 < p) (hr : 0 < r) (L1 : 1 ≤ L) (L2 : L ≤ ws.length) (es : sz N hi wi ta L = bst N hi wi ta ws.length) (ent : Lines.Ent g ws L ws.length (N L) bs)
    (q : ∀ s25, E.nx (en ws g hi wi ta (p / Nat.gcd p r) (r / Nat.gcd p r) s1 s3 s5 s6 s7 s8 s9 (.val (.tup (bs.map nD))) s11 s13 s14 s19 s20 s21 s22 (.val (.int t)) s24 s25) c) :
    g_law_right_t4 E (en ws g hi wi ta (p / Nat.gcd p r) (r / Nat.gcd p r) s1 s3 s5 s6 s7 s8 s9 (.val (.tup (bs.map nD))) s11 s13 s14 s19 s20 s21 s22 (.val (.int t)) s24 s25) c := by
  have fin := S_t3 (s1 := s1) (s3 := s3) (s5 := s5) (s6 := s6) (s7 := s7) (s8 := s8) (s9 := s9) (s10 := .val (.tup (bs.map nD))) (s11 := s11) (s13 := s13) (s14 := s14) (s19 := s19) (s20 := s20) (s21 := s21) (s22 := s22) (s24 := s24) (s25 := s25) (E := E) (c := c) h b ht eb hp hr q
  have sh := fun (Q : KD) => S_shows (c := c) (Q := Q) h.wo b.bq h.nar (fun l l1 l2 => by have := h.pos l l1 l2; omega) eb hp hr L1 L2 es ent
  generalize p / Nat.gcd p r = T at *
  generalize r / Nat.gcd p r = B at *
  simp [g_law_right_t4, en]
  refine sh _ ?_
  simp
  exact fin
theorem S_t5 {ws : List Int} {g hi wi ta : Int} {N : Nat → Int} {p r L : Nat} {bs : List Nat} {c : Nat} {E : End3} {s1 s3 s5 s6 s7 s8 s9 s11 s13 s14 s19 s20 s21 s22 s23 s24 s25 : SV} (h : Lap ws g N) (b : Bk2 hi wi ta) (hc : c ≤ 5000)
    (eb : bst N hi wi ta ws.length = ((p : Int), (r : Int))) (hp : 0 < p) (hr : 0 < r) (L1 : 1 ≤ L) (L2 : L ≤ ws.length) (es : sz N hi wi ta L = bst N hi wi ta ws.length) (ent : Lines.Ent g ws L ws.length (N L) bs)
    (q : ∀ s23 s24 s25, E.nx (en ws g hi wi ta (p / Nat.gcd p r) (r / Nat.gcd p r) s1 s3 s5 s6 s7 s8 s9 (.val (.tup (bs.map nD))) s11 s13 s14 s19 s20 s21 s22 s23 s24 s25) (c + 1)) :
    g_law_right_t5 E (en ws g hi wi ta (p / Nat.gcd p r) (r / Nat.gcd p r) s1 s3 s5 s6 s7 s8 s9 (.val (.tup (bs.map nD))) s11 s13 s14 s19 s20 s21 s22 s23 s24 s25) c := by
  have fin := fun (t : Int) (ht : 2 ≤ t ∧ t ≤ 6) s24 => S_t4 (s1 := s1) (s3 := s3) (s5 := s5) (s6 := s6) (s7 := s7) (s8 := s8) (s9 := s9) (s11 := s11) (s13 := s13) (s14 := s14) (s19 := s19) (s20 := s20) (s21 := s21) (s22 := s22) (s24 := s24) (s25 := s25) (E := E) (c := c + 1) h b ht eb hp hr L1 L2 es ent (fun s25 => q _ s24 s25)
  obtain ⟨c1, c2⟩ := low_cast p r
  have gp := gcd_pos' (t := p) hr
  have bT : p / Nat.gcd p r ≤ p := Nat.div_le_self _ _
  generalize p / Nat.gcd p r = T at *
  generalize r / Nat.gcd p r = B at *
  simp [g_law_right_t5, en]
  refine S_take (by omega) (by omega) (by omega) fun d d0 d1 => ?_
  simp only []
  have bw := b.w
  have bt := b.t
  have w1 := Int.mul_le_mul (show (1 : Int) ≤ 2 + d by omega) bw.1 (by omega) (by omega)
  have w2 : (2 + d) * wi ≤ 6 * 2000 := Int.mul_le_mul (by omega) bw.2 (by omega) (by omega)
  have t1 := Int.mul_le_mul (show (1 : Int) ≤ 2 + d by omega) bt.1 (by omega) (by omega)
  have t2 : (2 + d) * ta ≤ 6 * 200 := Int.mul_le_mul (by omega) bt.2 (by omega) (by omega)
  refine ⟨by unfold L3.MulOk; omega, by unfold L3.MulOk; omega, S_great h.wo ⟨b.bq.h, by omega, by omega⟩ h.nar (fun l l1 l2 => by have := h.pos l l1 l2; omega) fun p' r' L' bs' e' hp' hr' _ _ _ _ => ?_⟩
  rw [bst_times (show 0 < 2 + d by omega), eb] at e'
  obtain ⟨e1, e2⟩ := Prod.mk.inj e'
  obtain ⟨c1', c2'⟩ := low_cast p' r'
  have gp' := gcd_pos' (t := p') hr'
  have key : 1 * ((p' / Nat.gcd p' r' : Nat) : Int) * (B : Int) = (2 + d) * (T : Int) * ((r' / Nat.gcd p' r' : Nat) : Int) := by
    refine frac (G := (Nat.gcd p r : Nat)) (G' := (Nat.gcd p' r' : Nat)) (by omega) (by omega) c1 c2 c1' c2' ?_
    have e1 : (p' : Int) = (2 + d) * (p : Int) := e1.symm
    have e2 : (r' : Int) = (r : Int) := e2.symm
    rw [e1, e2]
    grind
  rw [Int.one_mul] at key
  have hb : (p : Int) ≤ 1000000 := by
    obtain ⟨⟨L, L1, L2, eL⟩, _⟩ := bst_is (h.Pos b.bq) ws.length h.wo.ne (Nat.le_refl _)
    rw [eb] at eL
    unfold sz at eL
    split at eL
    · have := (Prod.mk.inj eL).1
      omega
    · have := (Prod.mk.inj eL).1
      omega
  have bT' : p' / Nat.gcd p' r' ≤ p' := Nat.div_le_self _ _
  have p6 : (2 + d) * (p : Int) ≤ 6 * 1000000 := Int.mul_le_mul (by omega) hb (by omega) (by omega)
  have e1 : (p' : Int) = (2 + d) * (p : Int) := e1.symm
  have T6 : (2 + d) * (T : Int) ≤ 6 * 1000000 := Int.mul_le_mul (by omega) (by omega) (by omega) (by omega)
  have T0 : 0 ≤ (2 + d) * (T : Int) := Int.mul_nonneg (by omega) (by omega)
  generalize p' / Nat.gcd p' r' = T' at *
  generalize r' / Nat.gcd p' r' = B' at *
  simp
  refine ⟨by unfold L3.MulOk; omega, by unfold L3.MulOk; omega, by unfold L3.MulOk; omega, ?_⟩
  rw [if_pos key]
  exact fin _ (by omega) _
end Law62

set_option maxHeartbeats 4000000
namespace Law62
open PySem PySem.Spec PyProof.Rows L2 L3
theorem sz_mono {N : Nat → Int} {hi wi ta wi' ta' : Int} {l : Nat} (hN : 0 ≤ N l) (hh : 0 ≤ (l : Int) * hi) (hw : wi ≤ wi') (ht : ta ≤ ta') : le2 (sz N hi wi ta l) (sz N hi wi' ta' l) := by
  have a1 := Int.mul_le_mul_of_nonneg_right hw hN
  have a2 := Int.mul_le_mul_of_nonneg_right ht hN
  have a3 := Int.mul_le_mul_of_nonneg_right hw hh
  have a4 := Int.mul_le_mul_of_nonneg_right ht hh
  unfold sz le2
  split <;> split <;> simp only [] <;> omega
theorem frac_le {p r p' r' T B T' B' G G' : Int} (hG : 0 < G) (hG' : 0 < G') (h1 : T * G = p) (h2 : B * G = r) (h1' : T' * G' = p') (h2' : B' * G' = r') (e : p * r' ≤ p' * r) : ¬ T' * B < T * B' := by
  have x1 : T * B' * (G' * G) = (T * G) * (B' * G') := by grind
  have x2 : T' * B * (G' * G) = (T' * G') * (B * G) := by grind
  have : T * B' ≤ T' * B := by
    refine Int.le_of_mul_le_mul_right ?_ (Int.mul_pos hG' hG)
    rw [x1, x2, h1, h2, h1', h2']
    exact e
  omega
theorem S_less {a b c d : Int} {k : Nat} {Q : KD} (h1 : L3.MulOk a d) (h2 : L3.MulOk c b) (q : Q (.bl (decide (a * d < c * b))) k) : m_law_is_less [.tup [.int a, .int b], .tup [.int c, .int d]] k Q := by
  refine ⟨rfl, ?_⟩
  simp [runM, g_law_is_less, start3]
  exact ⟨h1, h2, q⟩
theorem num_le {N : Nat → Int} {hi wi ta : Int} {n p r : Nat} (hp : Pos N hi wi ta n) (hn : 1 ≤ n) (b : Bq hi wi ta) (eb : bst N hi wi ta n = ((p : Int), (r : Int))) : (p : Int) ≤ 1000000 := by
  obtain ⟨⟨L, L1, L2, eL⟩, _⟩ := bst_is hp n hn (Nat.le_refl _)
  have := b.w
  have := b.t
  rw [eb] at eL
  unfold sz at eL
  split at eL
  · have := (Prod.mk.inj eL).1
    omega
  · have := (Prod.mk.inj eL).1
    omega
/-- a back that is no smaller: letters no smaller -/
theorem S_back_less {ws : List Int} {g hi wi ta wi' ta' : Int} {N : Nat → Int} {p r : Nat} {c : Nat} {Q : KD} (h : Lap ws g N) (b : Bk2 hi wi ta) (hw : wi ≤ wi') (hw2 : wi' ≤ 3000) (ht : ta ≤ ta') (ht2 : ta' ≤ 3000)
    (eb : bst N hi wi ta ws.length = ((p : Int), (r : Int))) (hp : 0 < p) (hr : 0 < r) (q : ∀ (T' B' : Nat) (bs' : List Nat), (∀ (Q' : KD) k, Q' (.bl false) k → m_law_is_less [.tup [.int (T' : Int), .int (B' : Int)], .tup [.int ((p / Nat.gcd p r : Nat) : Int), .int ((r / Nat.gcd p r : Nat) : Int)]] k Q') → Q (.tup [.int (T' : Int), .int (B' : Int), .tup (bs'.map nD)]) c) :
    m_greatest_letters [tD ws, .int g, .int hi, .int wi', .int ta'] c Q := by
  obtain ⟨c1, c2⟩ := low_cast p r
  have gp := gcd_pos' (t := p) hr
  have bT : p / Nat.gcd p r ≤ p := Nat.div_le_self _ _
  have pb := num_le (h.Pos b.bq) h.wo.ne b.bq eb
  have bw := b.w
  have bt := b.t
  have b' : Bq hi wi' ta' := ⟨b.bq.h, by omega, by omega⟩
  refine S_great h.wo b' h.nar (fun l l1 l2 => by have := h.pos l l1 l2; omega) fun p' r' L' bs' e' hp' hr' _ _ _ _ => ?_
  obtain ⟨c1', c2'⟩ := low_cast p' r'
  have gp' := gcd_pos' (t := p') hr'
  have bT' : p' / Nat.gcd p' r' ≤ p' := Nat.div_le_self _ _
  have pb' := num_le (h.Pos b') h.wo.ne b' e'
  have mono := bst_mono (h.Pos b.bq) (h.Pos b') h.wo.ne fun l l1 l2 => sz_mono (by have := h.pos l l1 l2; omega) (Int.mul_nonneg (by omega) (by have := b.h; omega)) hw ht
  rw [eb, e'] at mono
  have key := frac_le (G := (Nat.gcd p r : Nat)) (G' := (Nat.gcd p' r' : Nat)) (by omega) (by omega) c1 c2 c1' c2' mono
  generalize p / Nat.gcd p r = T at *
  generalize r / Nat.gcd p r = B at *
  generalize p' / Nat.gcd p' r' = T' at *
  generalize r' / Nat.gcd p' r' = B' at *
  refine q T' B' bs' fun Q' k hq => S_less (by unfold L3.MulOk; omega) (by unfold L3.MulOk; omega) ?_
  rw [decide_eq_false key]
  exact hq
theorem cut2 (T' B' : Nat) (bs' : List Nat) : L3.cutD [D.int (T' : Int), .int (B' : Int), .tup (bs'.map nD)] none (some 2) = [.int (T' : Int), .int (B' : Int)] := by
  rw [show (2 : Int) = ((2 : Nat) : Int) from rfl, cutD_to]
  rfl
theorem S_t6 {ws : List Int} {g hi wi ta : Int} {N : Nat → Int} {p r L : Nat} {bs : List Nat} {c : Nat} {E : End3} {s1 s3 s5 s6 s7 s8 s9 s11 s13 s14 s19 s20 s21 s22 s23 s24 s25 : SV} (h : Lap ws g N) (b : Bk2 hi wi ta) (hc : c ≤ 4000)
    (eb : bst N hi wi ta ws.length = ((p : Int), (r : Int))) (hp : 0 < p) (hr : 0 < r) (L1 : 1 ≤ L) (L2 : L ≤ ws.length) (es : sz N hi wi ta L = bst N hi wi ta ws.length) (ent : Lines.Ent g ws L ws.length (N L) bs)
    (q : ∀ s21 s22 s23 s24 s25, E.nx (en ws g hi wi ta (p / Nat.gcd p r) (r / Nat.gcd p r) s1 s3 s5 s6 s7 s8 s9 (.val (.tup (bs.map nD))) s11 s13 s14 s19 s20 s21 s22 s23 s24 s25) (c + 1 + 1)) :
    g_law_right_t6 E (en ws g hi wi ta (p / Nat.gcd p r) (r / Nat.gcd p r) s1 s3 s5 s6 s7 s8 s9 (.val (.tup (bs.map nD))) s11 s13 s14 s19 s20 s21 s22 s23 s24 s25) c := by
  have fin := fun s21 s22 => S_t5 (s1 := s1) (s3 := s3) (s5 := s5) (s6 := s6) (s7 := s7) (s8 := s8) (s9 := s9) (s11 := s11) (s13 := s13) (s14 := s14) (s19 := s19) (s20 := s20) (s21 := s21) (s22 := s22) (s23 := s23) (s24 := s24) (s25 := s25) (E := E) (c := c + 1) h b (by omega) eb hp hr L1 L2 es ent (fun s23 s24 s25 => q s21 s22 s23 s24 s25)
  have bk := fun (wi' ta' : Int) (h1 : wi ≤ wi') (h2 : wi' ≤ 3000) (h3 : ta ≤ ta') (h4 : ta' ≤ 3000) (k : Nat) (Q : KD) => S_back_less (c := k) (Q := Q) h b h1 h2 h3 h4 eb hp hr
  have bw := b.w
  have bt := b.t
  generalize p / Nat.gcd p r = T at *
  generalize r / Nat.gcd p r = B at *
  simp [g_law_right_t6, en]
  refine S_take (by omega) (by omega) (by omega) fun d d0 d1 => ?_
  simp only []
  refine bk _ _ (by omega) (by omega) (Int.le_refl _) (by omega) _ _ fun T1 B1 bs1 l1 => ?_
  simp only []
  rw [cut2]
  refine l1 _ _ ?_
  simp only [Bool.false_eq_true, if_false]
  refine bk _ _ (Int.le_refl _) (by omega) (by omega) (by omega) _ _ fun T2 B2 bs2 l2 => ?_
  simp only []
  rw [cut2]
  refine l2 _ _ ?_
  simp only [Bool.false_eq_true, if_false]
  exact fin _ _
end Law62

set_option maxHeartbeats 4000000
namespace Law62
open PySem PySem.Spec PyProof.Rows L2 L3
theorem S_t7 {ws : List Int} {g hi wi ta : Int} {N : Nat → Int} {p r L : Nat} {x y : Int} {bs : List Nat} {c : Nat} {E : End3} {s1 s3 s5 s6 s7 s8 s9 s11 s13 s14 s20 s21 s22 s23 s24 s25 : SV} (h : Lap ws g N) (b : Bk2 hi wi ta) (hc : c ≤ 4000)
    (eb : bst N hi wi ta ws.length = ((p : Int), (r : Int))) (hp : 0 < p) (hr : 0 < r) (L1 : 1 ≤ L) (L2 : L ≤ ws.length) (es : sz N hi wi ta L = bst N hi wi ta ws.length) (ent : Lines.Ent g ws L ws.length (N L) bs)
    (hx : 0 ≤ x ∧ x ≤ 1000000) (hxy : x * (r : Int) = (p : Int) * y)
    (q : ∀ s21 s22 s23 s24 s25, E.nx (en ws g hi wi ta (p / Nat.gcd p r) (r / Nat.gcd p r) s1 s3 s5 s6 s7 s8 s9 (.val (.tup (bs.map nD))) s11 s13 s14 (.val (.tup [.int x, .int y])) s20 s21 s22 s23 s24 s25) (c + 1 + 1)) :
    g_law_right_t7 E (en ws g hi wi ta (p / Nat.gcd p r) (r / Nat.gcd p r) s1 s3 s5 s6 s7 s8 s9 (.val (.tup (bs.map nD))) s11 s13 s14 (.val (.tup [.int x, .int y])) s20 s21 s22 s23 s24 s25) c := by
  have fin := S_t6 (s1 := s1) (s3 := s3) (s5 := s5) (s6 := s6) (s7 := s7) (s8 := s8) (s9 := s9) (s11 := s11) (s13 := s13) (s14 := s14) (s19 := .val (.tup [.int x, .int y])) (s20 := s20) (s21 := s21) (s22 := s22) (s23 := s23) (s24 := s24) (s25 := s25) (E := E) (c := c) h b hc eb hp hr L1 L2 es ent q
  obtain ⟨c1, c2⟩ := low_cast p r
  have gp := gcd_pos' (t := p) hr
  have bT : p / Nat.gcd p r ≤ p := Nat.div_le_self _ _
  have pb := num_le (h.Pos b.bq) h.wo.ne b.bq eb
  have key : x * ((r / Nat.gcd p r : Nat) : Int) = ((p / Nat.gcd p r : Nat) : Int) * y := by
    refine Int.eq_of_mul_eq_mul_right (show ((Nat.gcd p r : Nat) : Int) ≠ 0 by omega) ?_
    rw [Int.mul_assoc, c2, hxy, ← c1]
    grind
  generalize p / Nat.gcd p r = T at *
  generalize r / Nat.gcd p r = B at *
  simp [g_law_right_t7, en]
  refine ⟨by unfold L3.MulOk; omega, by unfold L3.MulOk; omega, ?_⟩
  rw [if_pos key]
  exact fin
end Law62

set_option maxHeartbeats 4000000
namespace Law62
open PySem PySem.Spec PyProof.Rows L2 L3
/-- the greatest of f 1 .. f l, the earliest of equals -/
def bF (f : Nat → Int × Int) : Nat → Int × Int
  | 0 => (0, 1)
  | l + 1 => if (bF f l).1 * (f (l + 1)).2 < (f (l + 1)).1 * (bF f l).2 then f (l + 1) else bF f l
theorem bF_is {f : Nat → Int × Int} {n : Nat} (hp : ∀ l, 1 ≤ l → l ≤ n → 0 < (f l).1 ∧ 0 < (f l).2) : ∀ m, 1 ≤ m → m ≤ n → (∃ L, 1 ≤ L ∧ L ≤ m ∧ bF f m = f L) ∧ ∀ l, 1 ≤ l → l ≤ m → le2 (f l) (bF f m)
  | 0, h, _ => by omega
  | 1, _, hn => by
    have p1 := (hp 1 (Nat.le_refl _) hn).1
    have e : bF f 1 = f 1 := by
      show (if (0 : Int) * (f 1).2 < (f 1).1 * 1 then f 1 else (0, 1)) = _
      rw [if_pos (by omega)]
    rw [e]
    refine ⟨⟨1, Nat.le_refl _, Nat.le_refl _, rfl⟩, fun l h1 h2 => ?_⟩
    have : l = 1 := by omega
    subst this
    exact le2_refl _
  | m + 2, _, hn => by
    obtain ⟨⟨L, L1, L2, eL⟩, up⟩ := bF_is hp (m + 1) (by omega) (by omega)
    have pm := hp (m + 2) (by omega) hn
    have pL := hp L L1 (by omega)
    have step : bF f (m + 2) = if (bF f (m + 1)).1 * (f (m + 2)).2 < (f (m + 2)).1 * (bF f (m + 1)).2 then f (m + 2) else bF f (m + 1) := rfl
    rw [step]
    split
    · rename_i hlt
      refine ⟨⟨m + 2, by omega, Nat.le_refl _, rfl⟩, fun l h1 h2 => ?_⟩
      by_cases e : l = m + 2
      · subst e
        exact le2_refl _
      · refine le2_trans (b := bF f (m + 1)) (by rw [eL]; exact pL.2) (hp l h1 (by omega)).2 pm.2 (up l h1 (by omega)) ?_
        unfold le2
        omega
    · rename_i hlt
      refine ⟨⟨L, L1, by omega, eL⟩, fun l h1 h2 => ?_⟩
      by_cases e : l = m + 2
      · subst e
        exact le2_total _ _ hlt
      · exact up l h1 (by omega)
/-- the law's own size -/
def szl (N : Nat → Int) (hi wi ta : Int) (l : Nat) : Int × Int := if wi * (hi * (l : Int)) < ta * N l then (wi, N l) else (ta, hi * (l : Int))
theorem szl_eq {N : Nat → Int} {hi wi ta : Int} {l : Nat} : le2 (szl N hi wi ta l) (sz N hi wi ta l) ∧ le2 (sz N hi wi ta l) (szl N hi wi ta l) := by
  have e : (l : Int) * hi = hi * (l : Int) := Int.mul_comm _ _
  unfold szl sz le2
  rw [e]
  split <;> split <;> simp only [] <;> constructor <;> omega
/-- both bests are the same fraction -/
theorem best_eq {ws : List Int} {g hi wi ta : Int} {N : Nat → Int} {p r : Nat} (h : Lap ws g N) (b : Bq hi wi ta) (eb : bst N hi wi ta ws.length = ((p : Int), (r : Int))) :
    (bF (szl N hi wi ta) ws.length).1 * (r : Int) = (p : Int) * (bF (szl N hi wi ta) ws.length).2 ∧ 0 ≤ (bF (szl N hi wi ta) ws.length).1 ∧ (bF (szl N hi wi ta) ws.length).1 ≤ 1000000 := by
  have hp := h.Pos b
  have hn := h.wo.ne
  have bw := b.w
  have bt := b.t
  have hpl : ∀ l, 1 ≤ l → l ≤ ws.length → 0 < (szl N hi wi ta l).1 ∧ 0 < (szl N hi wi ta l).2 := fun l l1 l2 => by
    have p1 := h.pos l l1 l2
    have m := Int.mul_le_mul b.h.1 (show (1 : Int) ≤ (l : Int) by omega) (by omega) (by have := b.h; omega)
    unfold szl
    split <;> simp <;> omega
  obtain ⟨⟨L, L1, L2, eL⟩, up⟩ := bst_is hp ws.length hn (Nat.le_refl _)
  obtain ⟨⟨L', L1', L2', eL'⟩, up'⟩ := bF_is hpl ws.length hn (Nat.le_refl _)
  have a1 : le2 (bF (szl N hi wi ta) ws.length) (bst N hi wi ta ws.length) := by
    rw [eL']
    exact le2_trans (hp L' L1' L2').2 (hpl L' L1' L2').2 (by rw [eL]; exact (hp L L1 L2).2) szl_eq.1 (up L' L1' L2')
  have a2 : le2 (bst N hi wi ta ws.length) (bF (szl N hi wi ta) ws.length) := by
    rw [eL]
    exact le2_trans (hpl L L1 L2).2 (hp L L1 L2).2 (by rw [eL']; exact (hpl L' L1' L2').2) szl_eq.2 (up' L L1 L2)
  rw [eb] at a1 a2
  unfold le2 at a1 a2
  simp only [] at a1 a2
  refine ⟨by omega, ?_⟩
  have := hpl L' L1' L2'
  rw [eL']
  unfold szl at this ⊢
  split <;> simp <;> omega
end Law62

set_option maxHeartbeats 4000000
namespace Law62
open PySem PySem.Spec PyProof.Rows L2 L3
abbrev wL (N : Nat → Int) (n : Nat) : List D := (rg 1 n).map fun l => D.int (N l)
theorem enum_w (f : Nat → D) : ∀ (m k : Nat), enumL k ((rg (k + 1) m).map f) = (rg k m).map fun i : Nat => D.tup [.int (i : Int), f (i + 1)]
  | 0, k => rfl
  | m + 1, k => by
    unfold rg
    rw [List.range'_succ, List.range'_succ, List.map_cons, List.map_cons]
    show D.tup [.int (k : Int), f (k + 1)] :: enumL (k + 1) _ = _
    rw [show enumL (k + 1) ((List.range' (k + 1 + 1) m).map f) = _ from enum_w f m (k + 1)]
theorem szl_b {ws : List Int} {g hi wi ta : Int} {N : Nat → Int} (h : Lap ws g N) (b : Bq hi wi ta) {l : Nat} (l1 : 1 ≤ l) (l2 : l ≤ ws.length) : 0 ≤ (szl N hi wi ta l).1 ∧ (szl N hi wi ta l).1 ≤ 1000000 := by
  have := b.w
  have := b.t
  unfold szl
  split <;> simp <;> omega
theorem bF_b {f : Nat → Int × Int} {n : Nat} (h : ∀ l, 1 ≤ l → l ≤ n → 0 ≤ (f l).1 ∧ (f l).1 ≤ 1000000) : ∀ i, i ≤ n → 0 ≤ (bF f i).1 ∧ (bF f i).1 ≤ 1000000
  | 0, _ => by show (0 : Int) ≤ 0 ∧ (0 : Int) ≤ 1000000; omega
  | i + 1, hi => by
    have a := bF_b h i (by omega)
    have c := h (i + 1) (by omega) hi
    show 0 ≤ (if _ then f (i + 1) else bF f i).1 ∧ _
    by_cases e : (bF f i).1 * (f (i + 1)).2 < (f (i + 1)).1 * (bF f i).2
    · rw [show bF f (i + 1) = f (i + 1) from if_pos e, if_pos e]; exact c
    · rw [show bF f (i + 1) = bF f i from if_neg e, if_neg e]; exact a
abbrev en8 (ws : List Int) (g wi : Int) (s1 s3 s5 s6 s7 s8 s9 s10 s11 s13 s14 s15 s16 s17 s18 s19 s20 s21 s22 s23 s24 s25 : SV) : Env3 :=
  [.val .pot, s1, .val (tD ws), s3, .val (.int g), s5, s6, s7, s8, s9, s10, s11, .val (.int wi), s13, s14, s15, s16, s17, s18, s19, s20, s21, s22, s23, s24, s25]
theorem S_t8 {ws : List Int} {g wi : Int} {N : Nat → Int} {c : Nat} {E : End3} {s1 s3 s5 s7 s8 s9 s10 s11 s13 s14 s15 s16 s17 s18 s19 s20 s21 s22 s23 s24 s25 : SV} (h : Lap ws g N) (hw : 1 ≤ wi ∧ wi ≤ 2000) (hc : c ≤ 3900)
    (q : ∀ ρ, (∃ s1' s3 s4 s5 s6 s7 s8 s9 s10 s11 s12 s13 s14 s15 s16 s17 s18 s19 s20 s21 s22 s23 s24 s25, s1' = s1 ∧ ρ = [.val .pot, s1', .val (tD ws), s3, s4, s5, s6, s7, s8, s9, s10, s11, s12, s13, s14, s15, s16, s17, s18, s19, s20, s21, s22, s23, s24, s25]) → E.nx ρ (c + 4)) :
    g_law_right_t8 E (en8 ws g wi s1 s3 s5 (.own (wL N ws.length)) s7 s8 s9 s10 s11 s13 s14 s15 s16 s17 s18 s19 s20 s21 s22 s23 s24 s25) c := by
  simp [g_law_right_t8, en8, -forL]
  refine S_take (by omega) (by omega) (by omega) fun a a0 a1 => ?_
  simp only []
  refine S_take (by omega) (by omega) (by omega) fun d d0 d1 => ?_
  simp only []
  have b : Bk2 (1 + a) wi (1 + d) := ⟨by omega, hw, by omega⟩
  generalize 1 + a = hi at *
  generalize 1 + d = ta at *
  refine S_great h.wo b.bq h.nar (fun l l1 l2 => by have := h.pos l l1 l2; omega) fun p r L bs eb hp hr L1 L2 es ent => ?_
  have be := best_eq h b.bq eb
  have fin := fun (x y : Int) (s6 s9 s14 s20 : SV) (h1 : 0 ≤ x ∧ x ≤ 1000000) (h2 : x * (r : Int) = (p : Int) * y) => S_t7 (s1 := s1) (s3 := s3) (s5 := s5) (s6 := s6) (s7 := s7) (s8 := s8) (s9 := s9) (s11 := s11) (s13 := s13) (s14 := s14) (s20 := s20) (s21 := s21) (s22 := s22) (s23 := s23) (s24 := s24) (s25 := s25) (E := E) (c := c + 1 + 1) h b (by omega) eb hp hr L1 L2 es ent h1 h2 (fun _ _ _ _ _ => q _ ⟨_, _, _, _, _, _, _, _, _, _, _, _, _, _, _, _, _, _, _, _, _, _, _, _, rfl, rfl⟩)
  generalize p / Nat.gcd p r = T at *
  generalize r / Nat.gcd p r = B at *
  simp [-forL]
  rw [show enumL 0 (wL N ws.length) = _ from enum_w (fun l => D.int (N l)) ws.length 0]
  have bq := b.bq
  have hsz := fun l l1 l2 => szl_b (ws := ws) (g := g) (N := N) (hi := hi) (wi := wi) (ta := ta) h bq (l := l) l1 l2
  refine for_rule (I := fun rr ρ c' => c' = c + 1 + 1 ∧ ∃ (i : Nat) (x9 x14 x20 : SV), i ≤ ws.length ∧ rr = (rg i (ws.length - i)).map (fun i : Nat => D.tup [.int (i : Int), .int (N (i + 1))]) ∧
    ρ = en ws g hi wi ta T B s1 s3 s5 (.val (.lst (wL N ws.length))) s7 s8 x9 (.val (.tup (bs.map nD))) s11 s13 x14 (.val (.tup [.int (bF (szl N hi wi ta) i).1, .int (bF (szl N hi wi ta) i).2])) x20 s21 s22 s23 s24 s25) ?_ ?_ _ _ _ ⟨rfl, 0, s9, s14, s20, Nat.zero_le _, rfl, rfl⟩
  · rintro d r' ρ c' ⟨rfl, i, x9, x14, x20, i2, e, rfl⟩ N' hN'
    have hlt : i < ws.length := by
      refine Nat.lt_of_not_le fun hle => ?_
      rw [show ws.length - i = 0 by omega] at e
      cases e
    rw [show ws.length - i = (ws.length - (i + 1)) + 1 by omega, rg, List.range'_succ, List.map_cons] at e
    cases e
    have bb := bF_b hsz i (by omega)
    have bs1 := hsz (i + 1) (by omega) hlt
    have bw := b.w
    have bt := b.t
    have nx := fun x9 x14 x20 => hN' _ (c + 1 + 1) ⟨rfl, i + 1, x9, x14, x20, hlt, rfl, rfl⟩
    have st : bF (szl N hi wi ta) (i + 1) = if (bF (szl N hi wi ta) i).1 * (szl N hi wi ta (i + 1)).2 < (szl N hi wi ta (i + 1)).1 * (bF (szl N hi wi ta) i).2 then szl N hi wi ta (i + 1) else bF (szl N hi wi ta) i := rfl
    have es1 : szl N hi wi ta (i + 1) = if wi * (hi * ((i : Int) + 1)) < ta * N (i + 1) then (wi, N (i + 1)) else (ta, hi * ((i : Int) + 1)) := by unfold szl; rw [show ((i + 1 : Nat) : Int) = (i : Int) + 1 by omega]
    generalize szl N hi wi ta (i + 1) = S at *
    generalize bF (szl N hi wi ta) i = F at *
    generalize bF (szl N hi wi ta) (i + 1) = F' at *
    simp [en]
    have bhh := b.h
    refine ⟨by unfold L3.MulOk; omega, S_less (by unfold L3.MulOk; omega) (by unfold L3.MulOk; omega) ?_⟩
    by_cases hcond : wi * (hi * ((i : Int) + 1)) < ta * N (i + 1)
    · skip
      rw [decide_eq_true hcond]
      simp only [if_true, if_false, Bool.false_eq_true]
      rw [if_pos hcond] at es1
      subst es1
      refine S_less (by unfold L3.MulOk; omega) (by unfold L3.MulOk; omega) ?_
      by_cases h2 : F.1 * N (i + 1) < wi * F.2
      · rw [decide_eq_true h2]
        rw [show F' = _ from st, if_pos h2] at nx
        exact nx _ _ _
      · rw [decide_eq_false h2]
        rw [show F' = _ from st, if_neg h2] at nx
        exact nx _ _ _
    · skip
      rw [decide_eq_false hcond]
      simp only [if_true, if_false, Bool.false_eq_true]
      rw [if_neg hcond] at es1
      subst es1
      refine ⟨by unfold L3.MulOk; omega, S_less (by unfold L3.MulOk; omega) (by unfold L3.MulOk; omega) ?_⟩
      by_cases h2 : F.1 * (hi * ((i : Int) + 1)) < ta * F.2
      · rw [decide_eq_true h2]
        rw [show F' = _ from st, if_pos h2] at nx
        exact nx _ _ _
      · rw [decide_eq_false h2]
        rw [show F' = _ from st, if_neg h2] at nx
        exact nx _ _ _
  · rintro ρ c' ⟨rfl, i, x9, x14, x20, i2, e, rfl⟩
    have : i = ws.length := by
      have := congrArg List.length e
      simp at this
      omega
    subst this
    exact fin _ _ _ _ _ _ be.2 be.1
end Law62

set_option maxHeartbeats 4000000
namespace Law62
open PySem PySem.Spec PyProof.Rows L2 L3
abbrev en9 (ws : List Int) (g : Int) (s1 s3 s5 s6 s7 s8 s9 s10 s11 s12 s13 s14 s15 s16 s17 s18 s19 s20 s21 s22 s23 s24 s25 : SV) : Env3 :=
  [.val .pot, s1, .val (tD ws), s3, .val (.int g), s5, s6, s7, s8, s9, s10, s11, s12, s13, s14, s15, s16, s17, s18, s19, s20, s21, s22, s23, s24, s25]
theorem S_t9 {ws : List Int} {g : Int} {N : Nat → Int} {c : Nat} {E : End3} {s1 s3 s5 s7 s8 s9 s10 s11 s12 s13 s14 s15 s16 s17 s18 s19 s20 s21 s22 s23 s24 s25 : SV} (h : Lap ws g N) (hc : c ≤ 3800)
    (q : ∀ ρ, (∃ s1' s3 s4 s5 s6 s7 s8 s9 s10 s11 s12 s13 s14 s15 s16 s17 s18 s19 s20 s21 s22 s23 s24 s25, s1' = s1 ∧ ρ = [.val .pot, s1', .val (tD ws), s3, s4, s5, s6, s7, s8, s9, s10, s11, s12, s13, s14, s15, s16, s17, s18, s19, s20, s21, s22, s23, s24, s25]) → E.nx ρ (c + 5)) :
    g_law_right_t9 E (en9 ws g s1 s3 s5 (.own (wL N ws.length)) s7 s8 s9 s10 s11 s12 s13 s14 s15 s16 s17 s18 s19 s20 s21 s22 s23 s24 s25) c := by
  have hn := h.wo.ne
  have p1 := h.pos 1 (Nat.le_refl _) hn
  have e0 : atI (wL N ws.length) 0 = some (.int (N 1)) := by
    refine atI_nat (j := 0) ?_
    rw [wL, List.getElem?_map, List.getElem?_range' hn]
    rfl
  simp [g_law_right_t9, en9, -compL]
  rw [e0]
  simp [-compL]
  refine S_take (by omega) (by omega) (by omega) fun a a0 a1 => ?_
  simp only []
  refine ⟨rfl, S_fewest h.wo (by omega) (by omega) (fun hx => ?_) fun bs hle hfit hmin => ?_⟩
  · simp [-compL]
    rw [show enumL 0 (wL N ws.length) = _ from enum_w (fun l => D.int (N l)) ws.length 0]
    refine comp_filter (fun _ => false) id _ _ (fun d hd A B g1 g2 => ?_) ?_
    · obtain ⟨i, hi, rfl⟩ := List.mem_map.mp hd
      have hi2 := List.mem_range'_1.mp hi
      obtain ⟨x, hx1, hx2⟩ := hx
      have := (h.nar (i + 1) (by omega) (by omega)).1.word h.wo.gap.1 h.wo.nn x hx1
      simp
      rw [if_neg (by omega)]
      exact g2 rfl
    · rw [show ((rg 0 ws.length).map fun i : Nat => D.tup [.int (i : Int), .int (N (i + 1))]).filter (fun _ => false) = [] by simp]
      refine ⟨rfl, ⟨by decide, by decide⟩, ?_⟩
      rw [if_pos (by simp [eqvD, eqvDL])]
      exact S_t8 h (by omega) (by omega) fun ρ hρ => q ρ hρ
  · simp [-compL]
    rw [show enumL 0 (wL N ws.length) = _ from enum_w (fun l => D.int (N l)) ws.length 0]
    have hk : bs.length + 1 ≤ ws.length := hfit.len
    refine comp_filter (fun d => match d with | .tup [.int _, .int x] => decide (x ≤ 1 + a) | _ => false) (fun d => match d with | .tup [.int i, _] => .int (i + 1) | d => d) _ _ (fun d hd A B g1 g2 => ?_) ?_
    · obtain ⟨i, hi, rfl⟩ := List.mem_map.mp hd
      simp
      split
      · rename_i hx
        exact g1 (decide_eq_true hx)
      · rename_i hx
        exact g2 (decide_eq_false hx)
    · obtain ⟨l, el⟩ : ∃ l : List Nat, (((rg 0 ws.length).map fun i : Nat => D.tup [.int (i : Int), .int (N (i + 1))]).filter (fun d => match d with | .tup [.int _, .int x] => decide (x ≤ 1 + a) | _ => false)).map (fun d => match d with | .tup [.int i, _] => .int (i + 1) | d => d) = (bs.length :: l).map fun i : Nat => D.int ((i : Int) + 1) := by
        refine ⟨(rg (bs.length + 1) (ws.length - bs.length - 1)).filter fun i => decide (N (i + 1) ≤ 1 + a), ?_⟩
        rw [List.filter_map, List.map_map]
        have e1 : rg 0 ws.length = rg 0 bs.length ++ bs.length :: rg (bs.length + 1) (ws.length - bs.length - 1) := by
          have : rg 0 ws.length = rg 0 (bs.length + (ws.length - bs.length)) := by rw [show bs.length + (ws.length - bs.length) = ws.length by omega]
          rw [this]
          unfold rg
          rw [← List.range'_append_1, Nat.zero_add, show ws.length - bs.length = (ws.length - bs.length - 1) + 1 by omega, List.range'_succ, show ws.length - bs.length - 1 + 1 - 1 = ws.length - bs.length - 1 by omega]
        have e2 : (rg 0 bs.length).filter (fun i => decide (N (i + 1) ≤ 1 + a)) = [] := by
          rw [List.filter_eq_nil_iff]
          intro i hi
          have hi2 := List.mem_range'_1.mp hi
          have := h.nar (i + 1) (by omega) (by omega)
          simp only [decide_eq_true_eq]
          intro z
          have := hmin (i + 1) (this.1.mono z)
          omega
        have e3 : N (bs.length + 1) ≤ 1 + a := (h.nar (bs.length + 1) (by omega) hk).2 _ hfit
        show List.map (fun i : Nat => D.int ((i : Int) + 1)) ((rg 0 ws.length).filter fun i => decide (N (i + 1) ≤ 1 + a)) = _
        rw [e1, List.filter_append, e2, List.filter_cons_of_pos (by simpa using e3)]
        rfl
      rw [el]
      refine ⟨noLstL_map fun _ _ => rfl, ⟨by unfold pyD; exact pyDL_map fun _ _ => pyD_int, by decide⟩, ?_⟩
      simp [eqvD, eqvDL]
      exact S_t8 h (by omega) (by omega) fun ρ hρ => q ρ hρ
end Law62

set_option maxHeartbeats 4000000
namespace Law62
open PySem PySem.Spec PyProof.Rows L2 L3
theorem Wo.rev {ws : List Int} {g : Int} (h : Wo ws g) : Wo ws.reverse g := ⟨fun x hx => h.all x (List.mem_reverse.mp hx), by rw [List.length_reverse]; exact h.ne, by rw [List.length_reverse]; exact h.len, h.gap⟩
theorem wL_at {N : Nat → Int} {n i : Nat} (h : i < n) : atI (wL N n) (i : Int) = some (.int (N (i + 1))) := by
  refine atI_nat ?_
  rw [wL, List.getElem?_map, List.getElem?_range' h]
  show some (D.int (N (1 + 1 * i))) = _
  rw [Nat.one_mul, Nat.add_comm]
theorem S_t10 {ws : List Int} {g : Int} {N : Nat → Int} {c : Nat} {E : End3} {s1 s3 s7 s8 s9 s10 s11 s12 s13 s14 s15 s16 s17 s18 s19 s20 s21 s22 s23 s24 s25 : SV} (h : Lap ws g N) (hc : c ≤ 3700)
    (q : ∀ ρ, (∃ s1' s3 s4 s5 s6 s7 s8 s9 s10 s11 s12 s13 s14 s15 s16 s17 s18 s19 s20 s21 s22 s23 s24 s25, s1' = s1 ∧ ρ = [.val .pot, s1', .val (tD ws), s3, s4, s5, s6, s7, s8, s9, s10, s11, s12, s13, s14, s15, s16, s17, s18, s19, s20, s21, s22, s23, s24, s25]) → E.nx ρ (c + 6)) :
    g_law_right_t10 E (en9 ws g s1 s3 (.val (.int (ws.length : Int))) (.own (wL N ws.length)) s7 s8 s9 s10 s11 s12 s13 s14 s15 s16 s17 s18 s19 s20 s21 s22 s23 s24 s25) c := by
  have hn := h.wo.ne
  have hl := h.len
  simp [g_law_right_t10, en9]
  refine S_take (by omega) (by omega) (by omega) fun a a0 a1 => ?_
  obtain ⟨k, rfl⟩ : ∃ k : Nat, a = (k : Int) := ⟨a.toNat, by omega⟩
  simp only []
  rw [← List.map_reverse, show (1 : Int) + (k : Int) = ((k + 1 : Nat) : Int) by omega]
  refine S_narrow h.wo.rev (by omega) (by rw [List.length_reverse]; omega) fun w bs ent => ?_
  have ew : w = N (k + 1) := by
    have := ent.nar
    rw [List.take_length] at this
    exact this.eq (h.nar (k + 1) (by omega) (by omega)).rev
  subst ew
  simp
  rw [wL_at (show k < ws.length by omega)]
  simp
  exact S_t9 h (by omega) fun ρ hρ => q ρ hρ
theorem S_t11 {ws : List Int} {g : Int} {N : Nat → Int} {c : Nat} {E : End3} {s1 s3 s7 s8 s9 s10 s11 s12 s13 s14 s15 s16 s17 s18 s19 s20 s21 s22 s23 s24 s25 : SV} (h : Lap ws g N) (hc : c ≤ 3700)
    (q : ∀ ρ, (∃ s1' s3 s4 s5 s6 s7 s8 s9 s10 s11 s12 s13 s14 s15 s16 s17 s18 s19 s20 s21 s22 s23 s24 s25, s1' = s1 ∧ ρ = [.val .pot, s1', .val (tD ws), s3, s4, s5, s6, s7, s8, s9, s10, s11, s12, s13, s14, s15, s16, s17, s18, s19, s20, s21, s22, s23, s24, s25]) → E.nx ρ (c + 6)) :
    g_law_right_t11 E (en9 ws g s1 s3 (.val (.int (ws.length : Int))) (.own (wL N ws.length)) s7 s8 s9 s10 s11 s12 s13 s14 s15 s16 s17 s18 s19 s20 s21 s22 s23 s24 s25) c := by
  have hn := h.wo.ne
  have hl := h.len
  have hg := h.gap
  have hg0 := h.wo.gap
  have e0 := wL_at (N := N) (show 0 < ws.length by omega)
  have e1 : atI (wL N ws.length) (-1) = some (.int (N ws.length)) := by
    refine atI_last ?_
    rw [wL, List.length_map, List.length_range', List.getElem?_map, List.getElem?_range' (by omega)]
    show some (D.int (N (1 + 1 * (ws.length - 1)))) = _
    rw [show 1 + 1 * (ws.length - 1) = ws.length by omega]
  simp [g_law_right_t11, en9]
  have e0' : atI (wL N ws.length) 0 = some (.int (N 1)) := e0
  have hne : ws ≠ [] := List.length_pos_iff.mp (by omega)
  have n1 := h.nar 1 (Nat.le_refl _) hn
  have w1 : N 1 = ws.sum + g * ((ws.length : Int) - 1) := by
    have a := (Lines.fit_one hne).mp n1.1
    have b := n1.2 _ ((Lines.fit_one hne).mpr (Int.le_refl _))
    exact Int.le_antisymm b a
  rw [e0', L3.ints_of]
  refine ⟨.inl (by omega), ?_⟩
  simp only []
  rw [decide_eq_true w1, e1]
  simp only [Bool.not_true, Bool.false_eq_true, if_false]
  have nn := h.nar ws.length hn (Nat.le_refl _)
  obtain ⟨x, xs, ex⟩ : ∃ x xs, ws = x :: xs := by
    cases ws with
    | nil => exact absurd rfl hne
    | cons x xs => exact ⟨x, xs, rfl⟩
  obtain ⟨M, m1, m2, m3⟩ := max_ex xs x
  have memM : M ∈ ws := by
    rw [ex]
    rcases m1 with rfl | m1
    · exact List.mem_cons_self ..
    · exact List.mem_cons_of_mem _ m1
  have wn : N ws.length = xs.foldl max x := by
    rw [max_of xs x M m2 m3 m1]
    have a := nn.1.word h.wo.gap.1 h.wo.nn M memM
    have b := nn.2 M (Lines.fit_all fun y hy => by
      rw [ex] at hy
      rcases List.mem_cons.mp hy with rfl | hy
      · exact m2
      · exact m3 y hy)
    omega
  have ei : intsOf (ws.map D.int) = some (x :: xs) := by rw [L3.ints_of, ex]
  split
  · rename_i n ns he
    rw [show ws = x :: xs from ex] at he
    cases he
    rw [decide_eq_true wn]
    simp only [Bool.not_true, Bool.false_eq_true, if_false]
    exact S_t10 h hc q
  · rename_i he
    exact absurd (congrArg some ex) (he _ _)
end Law62

set_option maxHeartbeats 4000000
namespace Law62
open PySem PySem.Spec PyProof.Rows L2 L3
theorem lines_sum {ws : List Int} {g : Int} {i : Nat} (hi : i ≤ ws.length) : ∀ (bs : List Nat) (s : Nat), (s :: (bs ++ [i])).Pairwise (· < ·) → ((List.zipWith (Lines.ln ws) (s :: bs) (bs ++ [i])).map (Lines.wd g)).sum = Lines.pf ws i - Lines.pf ws s + g * ((i : Int) - (s : Int) - ((bs.length : Int) + 1))
  | [], s, h => by
    have hs : s < i := (List.pairwise_cons.mp h).1 i (by simp)
    have := Lines.W_eq (g := g) (Nat.le_of_lt hs) hi
    simp only [List.nil_append, List.zipWith_cons_cons, List.zipWith_nil_left, List.map_cons, List.map_nil, List.sum_cons, List.sum_nil, List.length_nil]
    show Lines.W g ws s i + 0 = _
    rw [this]
    grind
  | b :: bs, s, h => by
    obtain ⟨h1, h2⟩ := List.pairwise_cons.mp h
    have hs : s < b := h1 b (by simp)
    have hb : b ≤ ws.length := by
      have := (List.pairwise_cons.mp h2).1 i (by simp)
      omega
    have ih := lines_sum (g := g) hi bs b h2
    have := Lines.W_eq (g := g) (Nat.le_of_lt hs) hb
    show Lines.W g ws s b + ((List.zipWith (Lines.ln ws) (b :: bs) (bs ++ [i])).map (Lines.wd g)).sum = _
    rw [ih, this]
    simp only [List.length_cons]
    grind
theorem chk_sum {ws : List Int} {g : Int} {bs : List Nat} (hb : Bk ws.length bs) : ((Lines.chk ws bs ws.length).map (Lines.wd g)).sum = ws.sum + g * ((ws.length : Int) - ((bs.length : Int) + 1)) := by
  have := lines_sum (g := g) (Nat.le_refl ws.length) bs 0 hb.up0
  unfold Lines.chk
  rw [this]
  unfold Lines.pf
  rw [List.take_length]
  simp
end Law62

set_option maxHeartbeats 4000000
namespace Law62
open PySem PySem.Spec PyProof.Rows L2 L3
theorem least_ex {P : Int → Prop} (h0 : ∀ w, P w → 0 ≤ w) : ∀ (n : Nat), (∃ w, P w ∧ w ≤ n) → ∃ w, P w ∧ ∀ w', P w' → w ≤ w'
  | 0, ⟨w, h1, h2⟩ => ⟨w, h1, fun w' h => by have := h0 w' h; omega⟩
  | n + 1, ⟨w, h1, h2⟩ => by
    by_cases h : ∃ w, P w ∧ w ≤ (n : Int)
    · exact least_ex h0 n h
    · refine ⟨w, h1, fun w' h' => ?_⟩
      refine Int.not_lt.mp fun z => h ⟨w', h', by omega⟩
theorem nar_ex {ws : List Int} {g : Int} (h : Wo ws g) {l : Nat} (l1 : 1 ≤ l) (l2 : l ≤ ws.length) : ∃ w, Lines.Nar g ws l w := by
  have hn := h.ne
  obtain ⟨x, hx⟩ : ∃ x, x ∈ ws := by
    cases ws with
    | nil => simp at hn
    | cons x xs => exact ⟨x, List.mem_cons_self ..⟩
  have hne : ws ≠ [] := fun z => by rw [z] at hx; cases hx
  have hle : ∀ w, Lines.Fit g ws 1 w → ∀ l, 1 ≤ l → l ≤ ws.length → Lines.Fit g ws l w := fun w f l => by
    induction l with
    | zero => intro h1; omega
    | succ l ih =>
      intro _ h2
      by_cases e : l = 0
      · subst e
        exact f
      · exact (ih (by omega) (by omega)).more h.gap.1 h.nn (by omega)
  have f1 : Lines.Fit g ws 1 (Lines.wd g ws) := (Lines.fit_one hne).mpr (Int.le_refl _)
  have fl := hle _ f1 l l1 l2
  have nn : ∀ w, Lines.Fit g ws l w → 0 ≤ w := fun w f => by
    have a := f.word h.gap.1 h.nn x hx
    have b := h.all x hx
    omega
  have n0 := nn _ fl
  exact least_ex nn (Lines.wd g ws).toNat ⟨_, fl, by omega⟩
theorem lap_ex {ws : List Int} {g : Int} (h : Wo ws g) (hs : ∀ x ∈ ws, x ≤ 30) (hg : g ≤ 5) (hl : ws.length ≤ 14) : ∃ N, Lap ws g N := by
  refine ⟨fun l => if z : 1 ≤ l ∧ l ≤ ws.length then Classical.choose (nar_ex h z.1 z.2) else 0, h, hs, hg, hl, fun l l1 l2 => ?_⟩
  rw [dif_pos ⟨l1, l2⟩]
  exact Classical.choose_spec (nar_ex h l1 l2)
/-- max(t) of ints that have a greatest one -/
theorem max_at {l : List Int} {M : Int} (h1 : ∀ x ∈ l, x ≤ M) (h2 : M ∈ l) : ∃ n ns, l = n :: ns ∧ ns.foldl max n = M := by
  cases l with
  | nil => cases h2
  | cons n ns =>
    refine ⟨n, ns, rfl, max_of ns n M (h1 n (List.mem_cons_self ..)) (fun x hx => h1 x (List.mem_cons_of_mem _ hx)) ?_⟩
    rcases List.mem_cons.mp h2 with h | h
    · exact .inl h.symm
    · exact .inr h
abbrev bfD (N : Nat → Int) (k : Nat) : D := if k = 0 then .non else .int (N k)
theorem wL_succ (N : Nat → Int) (k : Nat) : wL N k ++ [.int (N (k + 1))] = wL N (k + 1) := by
  unfold wL rg
  rw [List.range'_concat, List.map_append, Nat.one_mul, Nat.add_comm 1 k]
  rfl
theorem S_t1 {E : End3} {ρ : Env3} {c : Nat} {x : D} (hx : get3 (ρ.map vA) 9 = some x) (q : E.nx (ρ.set 7 (.val x)) c) : g_law_right_t1 E ρ c := by
  simp [g_law_right_t1]
  rw [hx]
  exact q
abbrev enA (ws : List Int) (g : Int) (s1 s3 s6 s7 s8 s9 s10 s11 s12 s13 s14 s15 s16 s17 s18 s19 s20 s21 s22 s23 s24 s25 : SV) : Env3 :=
  [.val .pot, s1, .val (tD ws), s3, .val (.int g), .val (.int (ws.length : Int)), s6, s7, s8, s9, s10, s11, s12, s13, s14, s15, s16, s17, s18, s19, s20, s21, s22, s23, s24, s25]
theorem S_t2 {ws : List Int} {g : Int} {N : Nat → Int} {c k : Nat} {E : End3} {s1 s3 s6 s10 s11 s12 s13 s14 s15 s16 s17 s18 s19 s20 s21 s22 s23 s24 s25 : SV} (h : Lap ws g N) (hk : k < ws.length)
    (q : E.nx (enA ws g s1 s3 s6 (.val (.int (N (k + 1)))) (.val (.int ((k + 1 : Nat) : Int))) (.val (.int (N (k + 1)))) s10 s11 s12 s13 s14 s15 s16 s17 s18 s19 s20 s21 s22 s23 s24 s25) c) :
    g_law_right_t2 E (enA ws g s1 s3 s6 (.val (bfD N k)) (.val (.int ((k + 1 : Nat) : Int))) (.val (.int (N (k + 1)))) s10 s11 s12 s13 s14 s15 s16 s17 s18 s19 s20 s21 s22 s23 s24 s25) c := by
  have n1 := h.nar (k + 1) (by omega) (by omega)
  have hg0 := h.wo.gap
  have hN := h.pos (k + 1) (by omega) (by omega)
  obtain ⟨M, m1, m2⟩ : ∃ M, M ∈ ws ∧ ∀ x ∈ ws, x ≤ M := by
    cases ws with
    | nil => simp at hk
    | cons x xs =>
      obtain ⟨M, a, b, d⟩ := max_ex xs x
      refine ⟨M, ?_, fun y hy => ?_⟩
      · rcases a with rfl | a
        · exact List.mem_cons_self ..
        · exact List.mem_cons_of_mem _ a
      · rcases List.mem_cons.mp hy with rfl | hy
        · exact b
        · exact d y hy
  obtain ⟨x, xs, ex, em⟩ := max_at m2 m1
  have a1 : M ≤ N (k + 1) := n1.1.word h.wo.gap.1 h.wo.nn M m1
  have a2 : ws.sum ≤ N (k + 1) * ((k : Int) + 1) := by
    have := n1.1.sum h.wo.gap.1
    rw [show ((k : Int) + 1) = ((k + 1 : Nat) : Int) by omega, Int.mul_comm]
    exact this
  have rest : ∀ s7 : SV, g_law_right_t1 E (enA ws g s1 s3 s6 s7 (.val (.int ((k + 1 : Nat) : Int))) (.val (.int (N (k + 1)))) s10 s11 s12 s13 s14 s15 s16 s17 s18 s19 s20 s21 s22 s23 s24 s25) c := fun s7 => S_t1 (x := .int (N (k + 1))) rfl q
  have hi : intsOf (ws.map D.int) = some (x :: xs) := by rw [L3.ints_of, ex]
  rw [ex] at a2
  by_cases h0 : k = 0
  · subst h0
    have a2 : (x :: xs).sum ≤ N (0 + 1) * 1 := a2
    rw [show bfD N 0 = .non from rfl] at *
    simp [g_law_right_t2, enA]
    rw [hi]
    simp only []
    rw [if_neg (by rw [em]; exact Int.not_lt.mpr a1)]
    refine ⟨.inr ⟨by decide, by decide⟩, ?_⟩
    rw [if_neg (by rw [Int.mul_one] at a2; exact Int.not_lt.mpr a2)]
    exact rest _
  · have n0 := h.nar k (by omega) (by omega)
    have a3 : N (k + 1) ≤ N k := n1.2 _ (n0.1.more h.wo.gap.1 h.wo.nn (by omega))
    rw [show bfD N k = .int (N k) from if_neg h0]
    simp [g_law_right_t2, enA]
    rw [if_neg (by omega), hi]
    simp only []
    rw [if_neg (by rw [em]; exact Int.not_lt.mpr a1)]
    have hlen := h.len
    refine ⟨.inr ⟨by omega, by omega⟩, ?_⟩
    rw [if_neg (Int.not_lt.mpr a2)]
    exact rest _
abbrev lapB : FS :=
  (sSeq (sAsg (gT 2 (gsCons (gN 9) (gsCons (gN 10) gsNil))) (eCall m_narrowest (aCons (eVar 2) (aCons (eVar 4) (aCons (eVar 8) aNil)))))
  (sSeq (sApp 6 (eVar 9))
  (sSeq (sAsg (gN 11) (eCall m_lines_of (aCons (eVar 2) (aCons (eVar 4) (aCons (eVar 10) aNil)))))
  (sSeq (sIf (tO3 (tV (eOp neD (eB lenM (aCons (eVar 11) aNil)) (eVar 8))) (tO3 (tV (eOp neD (eB maxM (aCons (eVar 11) aNil)) (eVar 9))) (tV (eOp neD (eB sum2M (aCons (eVar 11) aNil)) (eOp addD (eB sum2M (aCons (eVar 2) aNil)) (eOp mulD (eVar 4) (eOp subD (eVar 5) (eVar 8))))))))
  (sRet (eC (.bl false)))
  sNil)
  g_law_right_t2))))
abbrev en0 (ws : List Int) (g : Int) (N : Nat → Int) (k : Nat) (s1 s3 s8 s9 s10 s11 s12 s13 s14 s15 s16 s17 s18 s19 s20 s21 s22 s23 s24 s25 : SV) : Env3 :=
  enA ws g s1 s3 (.own (wL N k)) (.val (bfD N k)) s8 s9 s10 s11 s12 s13 s14 s15 s16 s17 s18 s19 s20 s21 s22 s23 s24 s25
theorem S_lap {ws : List Int} {g : Int} {N : Nat → Int} {c : Nat} {E : End3} {s1 s3 s8 s9 s10 s11 s12 s13 s14 s15 s16 s17 s18 s19 s20 s21 s22 s23 s24 s25 : SV} (h : Lap ws g N)
    (q : ∀ s8 s9 s10 s11, E.nx (en0 ws g N ws.length s1 s3 s8 s9 s10 s11 s12 s13 s14 s15 s16 s17 s18 s19 s20 s21 s22 s23 s24 s25) c) :
    forL (gN 8) lapB E (rangeL 1 ws.length) (en0 ws g N 0 s1 s3 s8 s9 s10 s11 s12 s13 s14 s15 s16 s17 s18 s19 s20 s21 s22 s23 s24 s25) c := by
  refine for_rule (I := fun rr ρ c' => c' = c ∧ ∃ (k : Nat) (s8 s9 s10 s11 : SV), k ≤ ws.length ∧ rr = rangeL ((1 : Int) + k) (ws.length - k) ∧ ρ = en0 ws g N k s1 s3 s8 s9 s10 s11 s12 s13 s14 s15 s16 s17 s18 s19 s20 s21 s22 s23 s24 s25) ?_ ?_ _ _ _ ⟨rfl, 0, s8, s9, s10, s11, Nat.zero_le _, rfl, rfl⟩
  · rintro d r' ρ c' ⟨rfl, k, s8, s9, s10, s11, hk, e, rfl⟩ N' hN'
    have hlt : k < ws.length := by
      refine Nat.lt_of_not_le fun hle => ?_
      rw [show ws.length - k = 0 by omega] at e
      cases e
    rw [show ws.length - k = (ws.length - (k + 1)) + 1 by omega, rangeL_succ] at e
    obtain ⟨rfl, rfl⟩ := List.cons.inj e
    have hlen := h.len
    have hg := h.wo.gap
    have hg5 := h.gap
    have nx := fun s8 s9 s10 s11 => hN' _ c' ⟨rfl, k + 1, s8, s9, s10, s11, hlt, by rw [show (1 : Int) + (k : Int) + 1 = 1 + ((k + 1 : Nat) : Int) by omega], rfl⟩
    clear hN' e
    rw [show (1 : Int) + (k : Int) = ((k + 1 : Nat) : Int) by omega]
    simp [en0, enA, -compL]
    refine S_narrow (l := k + 1) h.wo (by omega) (by omega) fun w bs ent => ?_
    have ew : w = N (k + 1) := by
      have := ent.nar
      rw [List.take_length] at this
      exact this.eq (h.nar (k + 1) (by omega) (by omega))
    subst ew
    have bk : Bk ws.length bs := ⟨ent.up, ent.pos⟩
    have bl := ent.len
    have cs := chk_sum (g := g) bk
    have cl : (Lines.chk ws bs ws.length).length = k + 1 := by
      unfold Lines.chk
      rw [List.length_zipWith]
      simp
      omega
    obtain ⟨n1, ns1, ex, em⟩ := max_at (l := (Lines.chk ws bs ws.length).map (Lines.wd g)) (M := N (k + 1)) (fun x hx => by
      obtain ⟨c, hc, rfl⟩ := List.mem_map.mp hx
      exact ent.le c hc) (by
      obtain ⟨c, hc, hw⟩ := ent.top
      rw [← hw]
      exact List.mem_map_of_mem hc)
    have ii : intsOf ((Lines.chk ws bs ws.length).map fun c => D.int (Lines.wd g c)) = some ((Lines.chk ws bs ws.length).map (Lines.wd g)) := by
      have := L3.ints_of ((Lines.chk ws bs ws.length).map (Lines.wd g))
      rw [List.map_map] at this
      exact this
    simp
    refine ⟨by omega, ?_⟩
    refine S_lines_of h.wo bk (by omega) ?_
    have lc : ((Lines.chk ws bs ws.length).map fun c => D.int (Lines.wd g c)).length = k + 1 := by rw [List.length_map, cl]
    generalize (Lines.chk ws bs ws.length).map (fun c => D.int (Lines.wd g c)) = CH at *
    simp
    rw [if_pos (by omega), ii, L3.ints_of]
    simp only []
    rw [ex]
    simp only []
    rw [if_pos em, ← ex]
    refine ⟨.inl (by omega), ?_⟩
    rw [if_pos (by rw [cs]; congr 2; omega)]
    rw [wL_succ]
    refine S_t2 h hlt ?_
    have nx := nx (.val (.int ((k + 1 : Nat) : Int))) (.val (.int (N (k + 1)))) (.val (.tup (bs.map nD))) (.val (.tup CH))
    rw [en0, show bfD N (k + 1) = .int (N (k + 1)) from if_neg (by omega)] at nx
    exact nx
  · rintro ρ c' ⟨rfl, k, s8, s9, s10, s11, hk, e, rfl⟩
    have : k = ws.length := by
      have := congrArg List.length e
      simp [rangeL] at this
      omega
    subst this
    exact q _ _ _ _
theorem words_drawn : ∀ {ys : List D}, (∀ y ∈ ys, ∃ d, y = .int d ∧ 1 ≤ d ∧ d ≤ 30) → ∃ ds : List Int, ys = ds.map .int ∧ ∀ d ∈ ds, 1 ≤ d ∧ d ≤ 30
  | [], _ => ⟨[], rfl, fun _ h => absurd h List.not_mem_nil⟩
  | y :: ys, h => by
    obtain ⟨d, rfl, h1, h2⟩ := h y List.mem_cons_self
    obtain ⟨ds, rfl, h3⟩ := words_drawn fun z hz => h z (List.mem_cons_of_mem _ hz)
    refine ⟨d :: ds, rfl, fun z hz => ?_⟩
    rcases List.mem_cons.mp hz with e | e
    · rw [e]; exact ⟨h1, h2⟩
    · exact h3 z e
theorem S_right {Q : KD} {c : Nat} (hc : c ≤ 3) (q : ∀ c', Q (.bl true) c') : m_law_right [.pot] c Q := by
  refine ⟨rfl, ?_⟩
  simp [runM, g_law_right, start3, -forL, -compL]
  refine for_rule (I := fun rr ρ c' => rr.length ≤ 10 ∧ c' ≤ 3 + 30 * (10 - rr.length) ∧ (∀ d ∈ rr, ∃ i : Int, d = .int i) ∧ ∃ s1 s2 s3 s4 s5 s6 s7 s8 s9 s10 s11 s12 s13 s14 s15 s16 s17 s18 s19 s20 s21 s22 s23 s24 s25 : SV,
    ρ = [.val .pot, s1, s2, s3, s4, s5, s6, s7, s8, s9, s10, s11, s12, s13, s14, s15, s16, s17, s18, s19, s20, s21, s22, s23, s24, s25]) ?_ ?_ _ _ _ ?_
  · rintro d r' ρ c' ⟨hl, hcc, hd, s1, s2, s3, s4, s5, s6, s7, s8, s9, s10, s11, s12, s13, s14, s15, s16, s17, s18, s19, s20, s21, s22, s23, s24, s25, rfl⟩ N' hN'
    obtain ⟨i, rfl⟩ := hd _ (List.mem_cons_self ..)
    have hl' : r'.length + 1 ≤ 10 := by simpa using hl
    simp only [List.length_cons] at hcc
    simp [-forL, -compL]
    have fin : ∀ (m : Int), 0 < m → m ≤ 14 → ∀ (s2 s4 s5 s6 s7 : SV) (Q2 : KD), (∀ (a : Int), 0 ≤ a → a < m → Q2 (.int a) (c' + 1)) → m_law_take [D.pot, D.int m] c' Q2 := fun m m0 m1 s2 s4 s5 s6 s7 Q2 q2 => S_take m0 (by omega) (by omega) q2
    split
    all_goals
      refine S_take (by decide) (by decide) (by omega) fun a a0 a1 => ?_
      simp only []
      refine ⟨by omega, comp_rule (fun y => ∃ x, y = D.int x ∧ 1 ≤ x ∧ x ≤ 30) 1 1000 _ _ _ (fun d hd c K hC hK => ?_) ?_ fun ys hy hP => ?_⟩
      · simp
        refine S_take (by decide) (by decide) (by omega) fun b b0 b1 => ?_
        exact hK _ ⟨_, rfl, by omega, by omega⟩
      · simp [rangeL]; omega
      · obtain ⟨ws, rfl, hw⟩ := words_drawn hP
        have hwl : ws.length = (1 + a).toNat := by simpa [rangeL] using hy
        have hrl : (rangeL 0 (1 + a).toNat).length = (1 + a).toNat := by simp [rangeL]
        rw [hrl, List.length_map]
        refine S_take (by decide) (by decide) (by omega) fun g g0 g1 => ?_
        simp only []
        have wo : Wo ws g := ⟨fun x hx => by have := hw x hx; omega, by omega, by omega, by omega⟩
        obtain ⟨N, lap⟩ := lap_ex wo (fun x hx => (hw x hx).2) (by omega) (by omega)
        refine ⟨by omega, ?_⟩
        refine S_lap lap fun s8 s9 s10 s11 => ?_
        refine S_t11 lap (by omega) ?_
        rintro ρ ⟨s1', s3, s4, s5, s6, s7, s8, s9, s10, s11, s12, s13, s14, s15, s16, s17, s18, s19, s20, s21, s22, s23, s24, s25, e1, rfl⟩
        exact hN' _ _ ⟨by omega, by omega, fun d hd' => hd d (List.mem_cons_of_mem _ hd'), _, _, _, _, _, _, _, _, _, _, _, _, _, _, _, _, _, _, _, _, _, _, _, _, _, rfl⟩
  · rintro ρ c' ⟨_, _, _, s1, s2, s3, s4, s5, s6, s7, s8, s9, s10, s11, s12, s13, s14, s15, s16, s17, s18, s19, s20, s21, s22, s23, s24, s25, rfl⟩
    simp [g_law_right_t12]
    exact q _
  · refine ⟨by decide, by show c ≤ 3 + 30 * (10 - 10); omega, fun d hd => ?_, _, _, _, _, _, _, _, _, _, _, _, _, _, _, _, _, _, _, _, _, _, _, _, _, _, rfl⟩
    obtain ⟨k, _, rfl⟩ := mem_rangeL hd
    exact ⟨_, rfl⟩
theorem S_law (ns : List Int) (hl : ns.length ≤ 63) (hb : ∀ z ∈ ns, Builtin.Int.intBits z ≤ 1048576) : m_law [.scr ns] 0 fun d _ => d = .bl true := by
  refine ⟨rfl, ?_⟩
  exact S_all (ρ := [some (.scr ns), none]) (k := 3) (v := 1) (fun Q q => S_right (by decide) q) (by decide) (by decide) hl (Nat.lt_succ_self 1) rfl (by decide) rfl
end Law62

set_option maxHeartbeats 4000000
namespace Law62
open PySem PySem.Spec PyProof.Rows L2 L3
variable {P : Program} {w : World} {K : PySem.W.Frag} {mg : Str → Option Value} {base : Heap}
theorem ok_is_int (T : Top K mg base) : FnOk P w K mg base CX0 1 T.a_is_int T.fd_is_int ["value", "low", "high"] (spM K 3 m_is_int) :=
  fn3 (k := 0) (g := g_is_int) T.F_is_int sc_is_int rfl p_is_int (fun cdv A outer s H E hr => (bx_one (sx_ret (ex_and (ex_callB call_isi isiS T.z_isinstance boot_isinstance3 (ax_cons (ex_var 0) (ax_cons (ex_ty T.z_int boot_int3) ax_nil))) (ex_and (ex_not (ex_callB call_isi isiS T.z_isinstance boot_isinstance3 (ax_cons (ex_var 0) (ax_cons (ex_ty T.z_bool boot_bool3) ax_nil)))) (ex_one (ex_ch op_le leS op_le leS (ex_var 1) (ex_var 0) (ex_var 2))))))))
theorem ok_are_ints (T : Top K mg base) : FnOk P w K mg base CX0 2 T.a_are_ints T.fd_are_ints ["value", "low", "high"] (spM K 3 m_are_ints) :=
  fn3 (k := 1) (g := g_are_ints) T.F_are_ints sc_are_ints rfl p_are_ints (fun cdv A outer s H E hr => (bx_one (sx_ret (ex_and (ex_callB call_isi isiS T.z_isinstance boot_isinstance3 (ax_cons (ex_var 0) (ax_cons (ex_ty T.z_tuple boot_tuple3) ax_nil))) (ex_one (ex_callB (cr_all rfl) allS T.z_all boot_all3 (ax_cons (fx_ex (fx_comp (own := [("one", 3)]) rfl sc_are_ints.nd (ix_seq (ex_var 0)) (blkOk_by rfl) (fun _ _ _ _ _ => (pg_name (i := 3) sc_are_ints.nd rfl (.inl rfl))) (kg_name 3) (fun _ _ _ _ _ => pts_nil) kt_nil (fun _ _ _ _ _ => (ex_call (ok_is_int T) (hr.mono (by decide)) T.m_is_int T.F_is_int.kp T.b_is_int rfl (ax_cons (ex_var 3) (ax_cons (ex_var 1) (ax_cons (ex_var 2) ax_nil))) pass0 (hl := l_is_int))) (by decide)) (fun _ _ _ h => h)) ax_nil)))))))
theorem ok_common (T : Top K mg base) : FnOk P w K mg base CX0 1 T.a_common T.fd_common ["one", "other"] (spM K 2 m_common) :=
  fn3 (k := 0) (g := g_common) T.F_common sc_common rfl p_common (fun cdv A outer s H E hr => (bx_cons (sx_while PassesOwn.never (tx_cmp (op_ne2 hr.units) neS (ex_var 1) ex_int (nomark _))
  (bx_one (sx_par (i := 0) (j := 1) rfl sc_common.nd (ax_cons (ex_var 1) (ax_cons (ex_mod (ex_var 0) (ex_var 1)) ax_nil)))))
  (bx_one (sx_ret (ex_var 0)))))
theorem ok_lowest (T : Top K mg base) : FnOk P w K mg base CX0 2 T.a_lowest T.fd_lowest ["top", "bottom"] (spM K 2 m_lowest) :=
  fn3 (k := 1) (g := g_lowest) T.F_lowest sc_lowest rfl p_lowest (fun cdv A outer s H E hr => (bx_cons (sx_asg (ex_call (ok_common T) (hr.mono (by decide)) T.m_common T.F_common.kp T.b_common rfl (ax_cons (ex_callB call_abs absS T.z_abs boot_abs3 (ax_cons (ex_var 0) ax_nil)) (ax_cons (ex_var 1) ax_nil)) pass0 (hl := l_common)) (gx_of (pg_name (i := 2) sc_lowest.nd rfl (.inl rfl)) (kg_name 2)))
  (bx_one (sx_ret (ex_tup (ax_cons (ex_fdiv (ex_var 0) (ex_var 2)) (ax_cons (ex_fdiv (ex_var 1) (ex_var 2)) ax_nil)))))))
theorem ok_look_at_words (T : Top K mg base) : FnOk P w K mg base CX0 3 T.a_look_at_words T.fd_look_at_words ["words", "gap"] (spM K 2 m_look_at_words) :=
  fn3 (k := 2) (g := g_look_at_words) T.F_look_at_words sc_look_at_words rfl p_look_at_words (fun cdv A outer s H E hr => (bx_cons (sx_if (wx_pt (wx_or (tx_not (tx_val (ex_call (ok_are_ints T) (hr.mono (by decide)) T.m_are_ints T.F_are_ints.kp T.b_are_ints rfl (ax_cons (ex_var 0) (ax_cons ex_int (ax_cons (ex_gI T.c_MOST_SIZE) ax_nil))) pass0 (hl := l_are_ints)))) (wx_or1 (tx_not (tx_ch op_le leS op_le leS ex_int (ex_callB call_len_seq lenS T.z_len boot_len3 (ax_cons (ex_var 0) ax_nil)) (ex_gI T.c_MOST_WORDS))))))
  (bx_one sx_never)
  bx_nil)
  (bx_one (sx_if (tx_not (tx_val (ex_call (ok_is_int T) (hr.mono (by decide)) T.m_is_int T.F_is_int.kp T.b_is_int rfl (ax_cons (ex_var 1) (ax_cons ex_int (ax_cons (ex_gI T.c_MOST_SIZE) ax_nil))) pass0 (hl := l_is_int))))
  (bx_one sx_never)
  bx_nil))))
theorem ok_width_of (T : Top K mg base) : FnOk P w K mg base CX0 1 T.a_width_of T.fd_width_of ["words", "gap", "first", "last"] (spM K 4 m_width_of) :=
  fn3 (k := 0) (g := g_width_of) T.F_width_of sc_width_of rfl p_width_of (fun cdv A outer s H E hr => (bx_one (sx_ret (ex_add (ex_callB (cr_sum2 rfl) sum2S T.z_sum boot_sum3 (ax_cons (ex_sl (ex_var 0) (ox_some (ex_var 2)) (ox_some (ex_var 3))) ax_nil)) (ex_mul (ex_var 1) (ex_sub (ex_sub (ex_var 3) (ex_var 2)) ex_int))))))
theorem ok_told_lines (T : Top K mg base) : FnOk P w K mg base CX0 2 T.a_told_lines T.fd_told_lines ["words", "gap", "breaks"] (spM K 3 m_told_lines) :=
  fn3 (k := 1) (g := g_told_lines) T.F_told_lines sc_told_lines rfl p_told_lines (fun cdv A outer s H E hr => (bx_cons (sx_asg (ex_lst (ax_cons ex_int (ax_star (ex_var 2) (ax_cons (ex_callB call_len_seq lenS T.z_len boot_len3 (ax_cons (ex_var 0) ax_nil)) ax_nil)))) (gx_of (pg_name (i := 3) sc_told_lines.nd rfl (.inl rfl)) (kg_name 3)))
  (bx_one (sx_ret (fx_ex (fx_comp (own := [("first", 4), ("last", 5)]) rfl sc_told_lines.nd (ix_zip T.z_zip (ex_var 3) (ex_sl (ex_var 3) (ox_some ex_int) ox_none)) (blkOk_by rfl) (fun _ _ _ _ _ => (pg_tup rfl (pgs_cons (pg_name (i := 4) sc_told_lines.nd rfl (.inl rfl)) (pgs_cons (pg_name (i := 5) sc_told_lines.nd rfl (.inl rfl)) pgs_nil)))) (kg_tup (kgs_cons (kg_name 4) (kgs_cons (kg_name 5) kgs_nil))) (fun _ _ _ _ _ => pts_nil) kt_nil (fun _ _ _ _ _ => (ex_call (ok_width_of T) (hr.mono (by decide)) T.m_width_of T.F_width_of.kp T.b_width_of rfl (ax_cons (ex_var 0) (ax_cons (ex_var 1) (ax_cons (ex_var 4) (ax_cons (ex_var 5) ax_nil)))) pass0 (hl := l_width_of))) (by decide)) (fun _ _ _ h => h))))))
theorem ok_are_breaks (T : Top K mg base) : FnOk P w K mg base CX0 3 T.a_are_breaks T.fd_are_breaks ["words", "value"] (spM K 2 m_are_breaks) :=
  fn3 (k := 2) (g := g_are_breaks) T.F_are_breaks sc_are_breaks rfl p_are_breaks (fun cdv A outer s H E hr => (bx_one (sx_ret (ex_and (ex_call (ok_are_ints T) (hr.mono (by decide)) T.m_are_ints T.F_are_ints.kp T.b_are_ints rfl (ax_cons (ex_var 1) (ax_cons ex_int (ax_cons (ex_sub (ex_callB call_len_seq lenS T.z_len boot_len3 (ax_cons (ex_var 0) ax_nil)) ex_int) ax_nil))) pass0 (hl := l_are_ints)) (ex_one (ex_callB (cr_all rfl) allS T.z_all boot_all3 (ax_cons (fx_ex (fx_comp (own := [("one", 2), ("other", 3)]) rfl sc_are_breaks.nd (ix_zip T.z_zip (ex_var 1) (ex_sl (ex_var 1) (ox_some ex_int) ox_none)) (blkOk_by rfl) (fun _ _ _ _ _ => (pg_tup rfl (pgs_cons (pg_name (i := 2) sc_are_breaks.nd rfl (.inl rfl)) (pgs_cons (pg_name (i := 3) sc_are_breaks.nd rfl (.inl rfl)) pgs_nil)))) (kg_tup (kgs_cons (kg_name 2) (kgs_cons (kg_name 3) kgs_nil))) (fun _ _ _ _ _ => pts_nil) kt_nil (fun _ _ _ _ _ => (ex_cmp op_lt ltS (ex_var 2) (ex_var 3) (nomark _))) (by decide)) (fun _ _ _ h => h)) ax_nil)))))))
theorem ok_lines_of (T : Top K mg base) : FnOk P w K mg base CX0 4 T.a_lines_of T.fd_lines_of ["words", "gap", "breaks"] (spM K 3 m_lines_of) :=
  fn3 (k := 3) (g := g_lines_of) T.F_lines_of sc_lines_of rfl p_lines_of (fun cdv A outer s H E hr => (bx_cons (sx_expr (ex_call (ok_look_at_words T) (hr.mono (by decide)) T.m_look_at_words T.F_look_at_words.kp T.b_look_at_words rfl (ax_cons (ex_var 0) (ax_cons (ex_var 1) ax_nil)) pass0 (hl := l_look_at_words)))
  (bx_cons (sx_if (tx_not (tx_val (ex_call (ok_are_breaks T) (hr.mono (by decide)) T.m_are_breaks T.F_are_breaks.kp T.b_are_breaks rfl (ax_cons (ex_var 0) (ax_cons (ex_var 2) ax_nil)) pass0 (hl := l_are_breaks))))
  (bx_one sx_never)
  bx_nil)
  (bx_one (sx_ret (ex_callT call_tuple_of tupleS T.z_tuple boot_tuple3 (ax_cons (ex_call (ok_told_lines T) (hr.mono (by decide)) T.m_told_lines T.F_told_lines.kp T.b_told_lines rfl (ax_cons (ex_var 0) (ax_cons (ex_var 1) (ax_cons (ex_var 2) ax_nil))) pass0 (hl := l_told_lines)) ax_nil)))))))
theorem ok_told_narrowest (T : Top K mg base) : FnOk P w K mg base CX0 2 T.a_told_narrowest T.fd_told_narrowest ["words", "gap", "lines"] (spM K 3 m_told_narrowest) :=
  fn3 (k := 1) (g := g_told_narrowest) T.F_told_narrowest sc_told_narrowest rfl p_told_narrowest (fun cdv A outer s H E hr => (bx_cons (sx_asg (ex_callB call_len_seq lenS T.z_len boot_len3 (ax_cons (ex_var 0) ax_nil)) (gx_of (pg_name (i := 3) sc_told_narrowest.nd rfl (.inl rfl)) (kg_name 3)))
  (bx_cons (sx_dic 4 (dx_comp (own := [("at", 5)]) rfl sc_told_narrowest.nd (ix_range2 T.z_range (ax_cons ex_int (ax_cons (ex_add (ex_var 3) ex_int) ax_nil))) (blkOk_by rfl) (fun _ _ _ _ _ => (pg_name (i := 5) sc_told_narrowest.nd rfl (by first | exact .inl rfl | exact .inr rfl))) (kg_name 5) (fun _ _ _ _ _ => pts_nil) kt_nil (fun _ _ _ _ _ => (ex_var 5)) (fun _ _ _ _ _ => (ex_tup (ax_cons (ex_call (ok_width_of T) (hr.mono (by decide)) T.m_width_of T.F_width_of.kp T.b_width_of rfl (ax_cons (ex_var 0) (ax_cons (ex_var 1) (ax_cons ex_int (ax_cons (ex_var 5) ax_nil)))) pass0 (hl := l_width_of)) (ax_cons (ex_tup ax_nil) ax_nil)))) (by decide)) sc_told_narrowest.nd)
  (bx_cons (sx_for PassesOwn.never rfl (ix_range2 T.z_range (ax_cons ex_int (ax_cons (ex_var 2) ax_nil))) (gx_of (pg_name (i := 6) sc_told_narrowest.nd rfl (.inl rfl)) (kg_name 6))
  (bx_cons (sx_dic 7 dx_new sc_told_narrowest.nd)
  (bx_cons (sx_for PassesOwn.never rfl (ix_range2 T.z_range (ax_cons (ex_add (ex_var 6) ex_int) (ax_cons (ex_add (ex_var 3) ex_int) ax_nil))) (gx_of (pg_name (i := 5) sc_told_narrowest.nd rfl (.inr rfl)) (kg_name 5))
  (bx_cons (sx_valBL 8 sc_told_narrowest.nd (own := [("ahead", 9)]) rfl sc_told_narrowest.nd (ix_range2 T.z_range (ax_cons (ex_var 6) (ax_cons (ex_var 5) ax_nil))) (blkOk_by rfl) (fun _ _ _ _ _ => (pg_name (i := 9) sc_told_narrowest.nd rfl (.inl rfl))) (kg_name 9) (fun _ _ _ _ _ => pts_nil) kt_nil (fun _ _ _ _ _ => (ex_tup (ax_cons (ex_callB (call_max2 rfl) max2S T.z_max boot_max3 (ax_cons (ex_ix (ex_dget (u1_of (u66 hr)) (ex_var 4) (ex_var 9) (fun _ _ => rfl)) ex_int) (ax_cons (ex_call (ok_width_of T) (hr.mono (by decide)) T.m_width_of T.F_width_of.kp T.b_width_of rfl (ax_cons (ex_var 0) (ax_cons (ex_var 1) (ax_cons (ex_var 9) (ax_cons (ex_var 5) ax_nil)))) pass0 (hl := l_width_of)) ax_nil))) (ax_cons (ex_var 9) ax_nil)))) (by decide))
  (bx_cons (sx_asg (ex_callB (minPR rfl (u66 hr)) minPS T.z_min boot_min3 (ax_cons (ex_var 8) ax_nil)) (gx_of (pg_tup rfl (pgs_cons (pg_name (i := 10) sc_told_narrowest.nd rfl (.inl rfl)) (pgs_cons (pg_name (i := 9) sc_told_narrowest.nd rfl (.inl rfl)) pgs_nil))) (kg_tup (kgs_cons (kg_name 10) (kgs_cons (kg_name 9) kgs_nil)))))
  (bx_one (sx_dput 7 (u1_of (u66 hr)) (ex_tup (ax_cons (ex_var 10) (ax_cons (ex_tup (ax_star (ex_ix (ex_dget (u1_of (u66 hr)) (ex_var 4) (ex_var 9) (fun _ _ => rfl)) ex_int) (ax_cons (ex_var 9) ax_nil))) ax_nil))) (ex_var 5) (pv 7))))))
  (bx_one (sx_move 4 7 (pv 7) sc_told_narrowest.nd)))))
  (bx_one (sx_ret (ex_dget (u1_of (u66 hr)) (ex_var 4) (ex_var 3) (fun _ _ => rfl))))))))
theorem ok_look_at_lines (T : Top K mg base) : FnOk P w K mg base CX0 4 T.a_look_at_lines T.fd_look_at_lines ["words", "gap", "lines"] (spM K 3 m_look_at_lines) :=
  fn3 (k := 3) (g := g_look_at_lines) T.F_look_at_lines sc_look_at_lines rfl p_look_at_lines (fun cdv A outer s H E hr => (bx_cons (sx_expr (ex_call (ok_look_at_words T) (hr.mono (by decide)) T.m_look_at_words T.F_look_at_words.kp T.b_look_at_words rfl (ax_cons (ex_var 0) (ax_cons (ex_var 1) ax_nil)) pass0 (hl := l_look_at_words)))
  (bx_one (sx_if (tx_not (tx_val (ex_call (ok_is_int T) (hr.mono (by decide)) T.m_is_int T.F_is_int.kp T.b_is_int rfl (ax_cons (ex_var 2) (ax_cons ex_int (ax_cons (ex_callB call_len_seq lenS T.z_len boot_len3 (ax_cons (ex_var 0) ax_nil)) ax_nil))) pass0 (hl := l_is_int))))
  (bx_one sx_never)
  bx_nil))))
theorem ok_narrowest (T : Top K mg base) : FnOk P w K mg base CX0 5 T.a_narrowest T.fd_narrowest ["words", "gap", "lines"] (spM K 3 m_narrowest) :=
  fn3 (k := 4) (g := g_narrowest) T.F_narrowest sc_narrowest rfl p_narrowest (fun cdv A outer s H E hr => (bx_cons (sx_expr (ex_call (ok_look_at_lines T) (hr.mono (by decide)) T.m_look_at_lines T.F_look_at_lines.kp T.b_look_at_lines rfl (ax_cons (ex_var 0) (ax_cons (ex_var 1) (ax_cons (ex_var 2) ax_nil))) pass0 (hl := l_look_at_lines)))
  (bx_one (sx_ret (ex_call (ok_told_narrowest T) (hr.mono (by decide)) T.m_told_narrowest T.F_told_narrowest.kp T.b_told_narrowest rfl (ax_cons (ex_var 0) (ax_cons (ex_var 1) (ax_cons (ex_var 2) ax_nil))) pass0 (hl := l_told_narrowest))))))
theorem ok_fewest_lines (T : Top K mg base) : FnOk P w K mg base CX0 4 T.a_fewest_lines T.fd_fewest_lines ["words", "gap", "width"] (spM K 3 m_fewest_lines) :=
  fn3 (k := 3) (g := g_fewest_lines) T.F_fewest_lines sc_fewest_lines rfl p_fewest_lines (fun cdv A outer s H E hr => (bx_cons (sx_expr (ex_call (ok_look_at_words T) (hr.mono (by decide)) T.m_look_at_words T.F_look_at_words.kp T.b_look_at_words rfl (ax_cons (ex_var 0) (ax_cons (ex_var 1) ax_nil)) pass0 (hl := l_look_at_words)))
  (bx_cons (sx_if (tx_not (tx_val (ex_call (ok_is_int T) (hr.mono (by decide)) T.m_is_int T.F_is_int.kp T.b_is_int rfl (ax_cons (ex_var 2) (ax_cons ex_int (ax_cons (ex_mul (ex_gI T.c_MOST_SIZE) (ex_gI T.c_MOST_WORDS)) ax_nil))) pass0 (hl := l_is_int))))
  (bx_one sx_never)
  bx_nil)
  (bx_cons (sx_if (tx_cmp op_gt gtS (ex_callB (maxR rfl (u66 hr)) maxS T.z_max boot_max3 (ax_cons (ex_var 0) ax_nil)) (ex_var 2) (nomark _))
  (bx_one (sx_ret ex_non))
  bx_nil)
  (bx_cons (sx_parN2 (i := 3) (j := 4) rfl sc_fewest_lines.nd (jx_f (fx_lst ax_nil) (jx_e ex_int jx_nil)))
  (bx_cons (sx_for PassesOwn.never rfl (ix_range2 T.z_range (ax_cons ex_int (ax_cons (ex_callB call_len_seq lenS T.z_len boot_len3 (ax_cons (ex_var 0) ax_nil)) ax_nil))) (gx_of (pg_name (i := 5) sc_fewest_lines.nd rfl (.inl rfl)) (kg_name 5))
  (bx_one (sx_if (tx_cmp op_gt gtS (ex_call (ok_width_of T) (hr.mono (by decide)) T.m_width_of T.F_width_of.kp T.b_width_of rfl (ax_cons (ex_var 0) (ax_cons (ex_var 1) (ax_cons (ex_var 4) (ax_cons (ex_add (ex_var 5) ex_int) ax_nil)))) pass0 (hl := l_width_of)) (ex_var 2) (nomark _))
  (bx_cons (sx_app 3 (pe_bm PySem.F.plainAttrs_list PySem.F.slot_list_append PySem.F.type_list_append mt_append (pv 3) (pa_cons (ex_var 5) pa_nil)))
  (bx_one (sx_asg (ex_var 5) (gx_of (pg_name (i := 4) sc_fewest_lines.nd rfl (.inl rfl)) (kg_name 4)))))
  bx_nil)))
  (bx_one (sx_ret (ex_callT call_tuple_of tupleS T.z_tuple boot_tuple3 (ax_cons (ex_var 3) ax_nil))))))))))
theorem ok_look_at_back (T : Top K mg base) : FnOk P w K mg base CX0 4 T.a_look_at_back T.fd_look_at_back ["words", "gap", "high", "wide", "tall"] (spM K 5 m_look_at_back) :=
  fn3 (k := 3) (g := g_look_at_back) T.F_look_at_back sc_look_at_back rfl p_look_at_back (fun cdv A outer s H E hr => (bx_cons (sx_expr (ex_call (ok_look_at_words T) (hr.mono (by decide)) T.m_look_at_words T.F_look_at_words.kp T.b_look_at_words rfl (ax_cons (ex_var 0) (ax_cons (ex_var 1) ax_nil)) pass0 (hl := l_look_at_words)))
  (bx_one (sx_for PassesOwn.never rfl (ix_seq (ex_tup (ax_cons (ex_var 2) (ax_cons (ex_var 3) (ax_cons (ex_var 4) ax_nil))))) (gx_of (pg_name (i := 5) sc_look_at_back.nd rfl (.inl rfl)) (kg_name 5))
  (bx_one (sx_if (tx_not (tx_val (ex_call (ok_is_int T) (hr.mono (by decide)) T.m_is_int T.F_is_int.kp T.b_is_int rfl (ax_cons (ex_var 5) (ax_cons ex_int (ax_cons (ex_gI T.c_MOST_SIZE) ax_nil))) pass0 (hl := l_is_int))))
  (bx_one sx_never)
  bx_nil))))))
theorem ok_told_greatest (T : Top K mg base) : FnOk P w K mg base CX0 3 T.a_told_greatest T.fd_told_greatest ["words", "gap", "high", "wide", "tall"] (spM K 5 m_told_greatest) :=
  fn3 (k := 2) (g := g_told_greatest) T.F_told_greatest sc_told_greatest rfl p_told_greatest (fun cdv A outer s H E hr => (bx_cons (sx_asg ex_non (gx_of (pg_name (i := 5) sc_told_greatest.nd rfl (.inl rfl)) (kg_name 5)))
  (bx_cons (sx_for PassesOwn.never rfl (ix_range2 T.z_range (ax_cons ex_int (ax_cons (ex_add (ex_callB call_len_seq lenS T.z_len boot_len3 (ax_cons (ex_var 0) ax_nil)) ex_int) ax_nil))) (gx_of (pg_name (i := 6) sc_told_greatest.nd rfl (.inl rfl)) (kg_name 6))
  (bx_cons (sx_asg (ex_call (ok_told_narrowest T) (hr.mono (by decide)) T.m_told_narrowest T.F_told_narrowest.kp T.b_told_narrowest rfl (ax_cons (ex_var 0) (ax_cons (ex_var 1) (ax_cons (ex_var 6) ax_nil))) pass0 (hl := l_told_narrowest)) (gx_of (pg_tup rfl (pgs_cons (pg_name (i := 7) sc_told_greatest.nd rfl (.inl rfl)) (pgs_cons (pg_name (i := 8) sc_told_greatest.nd rfl (.inl rfl)) pgs_nil))) (kg_tup (kgs_cons (kg_name 7) (kgs_cons (kg_name 8) kgs_nil)))))
  (bx_cons (sx_par (i := 9) (j := 10) rfl sc_told_greatest.nd (ax_cons (ex_tup (ax_cons (ex_var 3) (ax_cons (ex_var 7) ax_nil))) (ax_cons (ex_tup (ax_cons (ex_var 4) (ax_cons (ex_mul (ex_var 6) (ex_var 2)) ax_nil))) ax_nil)))
  (bx_cons (sx_asg (ex_if (tx_cmp op_le leS (ex_mul (ex_ix (ex_var 9) ex_int) (ex_ix (ex_var 10) ex_int)) (ex_mul (ex_ix (ex_var 10) ex_int) (ex_ix (ex_var 9) ex_int)) (nomark _)) (ex_var 9) (ex_var 10)) (gx_of (pg_name (i := 11) sc_told_greatest.nd rfl (.inl rfl)) (kg_name 11)))
  (bx_one (sx_if (wx_pt (wx_or (tx_cmp op_isN isS (ex_var 5) ex_non (nomark _)) (wx_or1 (tx_cmp op_gt gtS (ex_mul (ex_ix (ex_var 11) ex_int) (ex_ix (ex_ix (ex_var 5) ex_int) ex_int)) (ex_mul (ex_ix (ex_ix (ex_var 5) ex_int) ex_int) (ex_ix (ex_var 11) ex_int)) (nomark _)))))
  (bx_one (sx_asg (ex_tup (ax_cons (ex_var 11) (ax_cons (ex_var 8) ax_nil))) (gx_of (pg_name (i := 5) sc_told_greatest.nd rfl (.inl rfl)) (kg_name 5))))
  bx_nil))))))
  (bx_one (sx_ret (ex_tup (ax_star (ex_call (ok_lowest T) (hr.mono (by decide)) T.m_lowest T.F_lowest.kp T.b_lowest rfl (ax_cons (ex_ix (ex_ix (ex_var 5) ex_int) ex_int) (ax_cons (ex_ix (ex_ix (ex_var 5) ex_int) ex_int) ax_nil)) pass0 (hl := l_lowest)) (ax_cons (ex_ix (ex_var 5) ex_int) ax_nil))))))))
theorem ok_greatest_letters (T : Top K mg base) : FnOk P w K mg base CX0 5 T.a_greatest_letters T.fd_greatest_letters ["words", "gap", "high", "wide", "tall"] (spM K 5 m_greatest_letters) :=
  fn3 (k := 4) (g := g_greatest_letters) T.F_greatest_letters sc_greatest_letters rfl p_greatest_letters (fun cdv A outer s H E hr => (bx_cons (sx_expr (ex_call (ok_look_at_back T) (hr.mono (by decide)) T.m_look_at_back T.F_look_at_back.kp T.b_look_at_back rfl (ax_cons (ex_var 0) (ax_cons (ex_var 1) (ax_cons (ex_var 2) (ax_cons (ex_var 3) (ax_cons (ex_var 4) ax_nil))))) pass0 (hl := l_look_at_back)))
  (bx_one (sx_ret (ex_call (ok_told_greatest T) (hr.mono (by decide)) T.m_told_greatest T.F_told_greatest.kp T.b_told_greatest rfl (ax_cons (ex_var 0) (ax_cons (ex_var 1) (ax_cons (ex_var 2) (ax_cons (ex_var 3) (ax_cons (ex_var 4) ax_nil))))) pass0 (hl := l_told_greatest))))))
theorem ok_shows_greatest_letters (T : Top K mg base) : FnOk P w K mg base CX0 5 T.a_shows_greatest_letters T.fd_shows_greatest_letters ["words", "gap", "high", "wide", "tall", "value"] (spM K 6 m_shows_greatest_letters) :=
  fn3 (k := 4) (g := g_shows_greatest_letters) T.F_shows_greatest_letters sc_shows_greatest_letters rfl p_shows_greatest_letters (fun cdv A outer s H E hr => (bx_cons (sx_expr (ex_call (ok_look_at_back T) (hr.mono (by decide)) T.m_look_at_back T.F_look_at_back.kp T.b_look_at_back rfl (ax_cons (ex_var 0) (ax_cons (ex_var 1) (ax_cons (ex_var 2) (ax_cons (ex_var 3) (ax_cons (ex_var 4) ax_nil))))) pass0 (hl := l_look_at_back)))
  (bx_cons (sx_if (wx_pt (wx_or (tx_not (tx_val (ex_callB call_isi isiS T.z_isinstance boot_isinstance3 (ax_cons (ex_var 5) (ax_cons (ex_ty T.z_tuple boot_tuple3) ax_nil))))) (wx_or (tx_cmp (op_ne2 hr.units) neS (ex_callB call_len_seq lenS T.z_len boot_len3 (ax_cons (ex_var 5) ax_nil)) (ex_add ex_int ex_int) (nomark _)) (wx_or1 (tx_not (tx_val (ex_call (ok_are_breaks T) (hr.mono (by decide)) T.m_are_breaks T.F_are_breaks.kp T.b_are_breaks rfl (ax_cons (ex_var 0) (ax_cons (ex_ix (ex_var 5) ex_int) ax_nil)) pass0 (hl := l_are_breaks))))))))
  (bx_one (sx_ret ex_bl))
  bx_nil)
  (bx_cons (sx_asg (ex_sl (ex_call (ok_told_greatest T) (hr.mono (by decide)) T.m_told_greatest T.F_told_greatest.kp T.b_told_greatest rfl (ax_cons (ex_var 0) (ax_cons (ex_var 1) (ax_cons (ex_var 2) (ax_cons (ex_var 3) (ax_cons (ex_var 4) ax_nil))))) pass0 (hl := l_told_greatest)) ox_none (ox_some ex_int)) (gx_of (pg_tup rfl (pgs_cons (pg_name (i := 6) sc_shows_greatest_letters.nd rfl (.inl rfl)) (pgs_cons (pg_name (i := 7) sc_shows_greatest_letters.nd rfl (.inl rfl)) pgs_nil))) (kg_tup (kgs_cons (kg_name 6) (kgs_cons (kg_name 7) kgs_nil)))))
  (bx_cons (sx_if (wx_pt (wx_or (tx_not (tx_val (ex_call (ok_is_int T) (hr.mono (by decide)) T.m_is_int T.F_is_int.kp T.b_is_int rfl (ax_cons (ex_ix (ex_var 5) ex_int) (ax_cons (ex_var 6) (ax_cons (ex_var 6) ax_nil))) pass0 (hl := l_is_int)))) (wx_or1 (tx_not (tx_val (ex_call (ok_is_int T) (hr.mono (by decide)) T.m_is_int T.F_is_int.kp T.b_is_int rfl (ax_cons (ex_ix (ex_var 5) ex_int) (ax_cons (ex_var 7) (ax_cons (ex_var 7) ax_nil))) pass0 (hl := l_is_int)))))))
  (bx_one (sx_ret ex_bl))
  bx_nil)
  (bx_cons (sx_asg (ex_call (ok_told_lines T) (hr.mono (by decide)) T.m_told_lines T.F_told_lines.kp T.b_told_lines rfl (ax_cons (ex_var 0) (ax_cons (ex_var 1) (ax_cons (ex_ix (ex_var 5) ex_int) ax_nil))) pass0 (hl := l_told_lines)) (gx_of (pg_name (i := 8) sc_shows_greatest_letters.nd rfl (.inl rfl)) (kg_name 8)))
  (bx_one (sx_ret (ex_and (ex_cmp op_le leS (ex_mul (ex_callB (maxR rfl (u66 hr)) maxS T.z_max boot_max3 (ax_cons (ex_var 8) ax_nil)) (ex_var 6)) (ex_mul (ex_var 3) (ex_var 7)) (nomark _)) (ex_one (ex_cmp op_le leS (ex_mul (ex_mul (ex_callB call_len_seq lenS T.z_len boot_len3 (ax_cons (ex_var 8) ax_nil)) (ex_var 2)) (ex_var 6)) (ex_mul (ex_var 4) (ex_var 7)) (nomark _))))))))))))
theorem ok_law_pot (T : Top K mg base) : FnOk P w K mg base CX0 1 T.a_law_pot T.fd_law_pot ["script", "place"] (spF K 2 m_law_pot) :=
  fn3F (k := 0) (g := g_law_pot) T.F_law_pot sc_law_pot rfl p_law_pot (fun cdv A outer s H E hr => (bf_cons (sx_asg (ex_if (tx_cmp op_lt ltS (ex_var 1) (ex_callB call_len_seq lenS T.z_len boot_len3 (ax_cons (ex_var 0) ax_nil)) (nomark _)) (ex_ix (ex_var 0) (ex_var 1)) (ex_add (ex_add (ex_mod (ex_callT call_int1 intS1 T.z_int boot_int3 (ax_cons (ex_callB (cr_sum2 rfl) sum2S T.z_sum boot_sum3 (ax_cons (ex_sl (ex_var 0) ox_none (ox_some ex_int)) ax_nil)) ax_nil)) ex_int) (ex_mul ex_int (ex_var 1))) ex_int)) (gx_of (pg_name (i := 2) sc_law_pot.nd rfl (.inl rfl)) (kg_name 2)))
  (bf_cons (sx_asg (ex_mul (ex_mod (ex_callT call_int1 intS1 T.z_int boot_int3 (ax_cons (ex_callB call_abs absS T.z_abs boot_abs3 (ax_cons (ex_var 2) ax_nil)) ax_nil)) (ex_pow (ex_pow ex_int ex_int) ex_int)) (ex_callT call_int1 intS1 T.z_int boot_int3 (ax_cons (ex_cmp op_ge geS (ex_callB call_abs absS T.z_abs boot_abs3 (ax_cons (ex_var 2) ax_nil)) (ex_pow ex_int ex_int) (nomark _)) ax_nil))) (gx_of (pg_name (i := 3) sc_law_pot.nd rfl (.inl rfl)) (kg_name 3)))
  (bf_cons (sx_asg (ex_mod (ex_callT call_int1 intS1 T.z_int boot_int3 (ax_cons (ex_var 2) ax_nil)) ex_int) (gx_of (pg_name (i := 4) sc_law_pot.nd rfl (.inl rfl)) (kg_name 4)))
  (bf_ret (fx_lst (ax_cons (ex_var 3) (ax_cons (ex_mod (ex_callT call_int1 intS1 T.z_int boot_int3 (ax_cons (ex_add (ex_add (ex_mul (ex_var 4) ex_int) (ex_mul (ex_mul ex_int (ex_var 1)) (ex_var 1))) ex_int) ax_nil)) ex_int) (ax_cons ex_int ax_nil)))))))))
theorem ok_law_take (T : Top K mg base) : FnOk P w K mg base CX0 1 T.a_law_take T.fd_law_take ["pot", "upto"] (spM K 2 m_law_take) :=
  fn3 (k := 0) (g := g_law_take) T.F_law_take sc_law_take rfl p_law_take (fun cdv A outer s H E hr => (bx_cons (sx_if (tx_cmp op_gt gtS (ex_pot 0) ex_int (nomark _))
  (bx_cons (sx_asg (ex_mod (ex_callT call_int1 intS1 T.z_int boot_int3 (ax_cons (ex_pot 0) ax_nil)) (ex_var 1)) (gx_of (pg_name (i := 2) sc_law_take.nd rfl (.inl rfl)) (kg_name 2)))
  (bx_cons (sx_pot (ps_asg (ex_fdiv (ex_pot 0) (ex_var 1)) (pg_sub (pv 0) pe_int set_list)))
  (bx_one (sx_ret (ex_var 2)))))
  bx_nil)
  (bx_cons (sx_pot (ps_asg (ex_add (ex_pot 0) ex_int) (pg_sub (pv 0) pe_int set_list)))
  (bx_cons (sx_asg (ex_ix (ex_lst (ax_cons ex_int (ax_cons ex_int (ax_cons ex_int (ax_cons ex_int (ax_cons ex_int ax_nil)))))) (ex_mod (ex_callT call_int1 intS1 T.z_int boot_int3 (ax_cons (ex_pot 0) ax_nil)) ex_int)) (gx_of (pg_name (i := 3) sc_law_take.nd rfl (.inl rfl)) (kg_name 3)))
  (bx_cons (sx_asg (ex_mod (ex_callT call_int1 intS1 T.z_int boot_int3 (ax_cons (ex_pow (ex_callT call_int1 intS1 T.z_int boot_int3 (ax_cons (ex_add (ex_add (ex_pot 0) (ex_mul (ex_mul ex_int (ex_pot 0)) (ex_pot 0))) ex_int) ax_nil)) ex_int) ax_nil)) (ex_var 3)) (gx_of (pg_name (i := 4) sc_law_take.nd rfl (.inl rfl)) (kg_name 4)))
  (bx_cons (sx_asg (ex_mod (ex_callT call_int1 intS1 T.z_int boot_int3 (ax_cons (ex_mul (ex_var 4) (ex_add (ex_mod (ex_callT call_int1 intS1 T.z_int boot_int3 (ax_cons (ex_var 4) ax_nil)) ex_int) (ex_mul ex_int (ex_pot 0)))) ax_nil)) ex_int) (gx_of (pg_name (i := 4) sc_law_take.nd rfl (.inl rfl)) (kg_name 4)))
  (bx_one (sx_ret (ex_mod (ex_callT call_int1 intS1 T.z_int boot_int3 (ax_cons (ex_fdiv (ex_var 4) ex_int) ax_nil)) (ex_var 1))))))))))
theorem ok_law_cells (T : Top K mg base) : FnOk P w K mg base CX0 1 T.a_law_cells T.fd_law_cells ["script", "most"] (spM K 2 m_law_cells) :=
  fn3 (k := 0) (g := g_law_cells) T.F_law_cells sc_law_cells rfl p_law_cells (fun cdv A outer s H E hr => (bx_one (sx_ret (fx_ex (fx_range1 T.z_list T.z_range (ex_callB (call_max2 rfl) max2S T.z_max boot_max3 (ax_cons ex_int (ax_cons (ex_callB (call_min2 rfl) min2S T.z_min boot_min3 (ax_cons (ex_var 1) (ax_cons (ex_callB call_len_seq lenS T.z_len boot_len3 (ax_cons (ex_var 0) ax_nil)) ax_nil))) ax_nil)))) (fun _ _ _ h => h)))))
theorem ok_law_is_less (T : Top K mg base) : FnOk P w K mg base CX0 1 T.a_law_is_less T.fd_law_is_less ["one", "other"] (spM K 2 m_law_is_less) :=
  fn3 (k := 0) (g := g_law_is_less) T.F_law_is_less sc_law_is_less rfl p_law_is_less (fun cdv A outer s H E hr => (bx_one (sx_ret (ex_cmp op_lt ltS (ex_mul (ex_ix (ex_var 0) ex_int) (ex_ix (ex_var 1) ex_int)) (ex_mul (ex_ix (ex_var 1) ex_int) (ex_ix (ex_var 0) ex_int)) (nomark _)))))
theorem ok_law_right (T : Top K mg base) : FnOk P w K mg base CX0 6 T.a_law_right T.fd_law_right ["pot"] (spM K 1 m_law_right) :=
  fn3 (k := 5) (g := g_law_right) T.F_law_right sc_law_right rfl p_law_right (fun cdv A outer s H E hr => (bx_cons (sx_for PassesOwn.never rfl (ix_range1 T.z_range (ax_cons ex_int ax_nil)) (gx_of (pg_name (i := 1) sc_law_right.nd rfl (.inl rfl)) (kg_name 1))
  (bx_cons (sx_asg (ex_callT call_tuple_of tupleS T.z_tuple boot_tuple3 (ax_cons (fx_ex (fx_comp (own := [("word", 3)]) rfl sc_law_right.nd (ix_range1 T.z_range (ax_cons (ex_add ex_int (ex_call (ok_law_take T) (hr.mono (by decide)) T.m_law_take T.F_law_take.kp T.b_law_take rfl (ax_cons (ex_var 0) (ax_cons (ex_if (tx_cmp (op_eq2 hr.units) eqS (ex_var 1) ex_int (nomark _)) ex_int ex_int) ax_nil)) pass0 (hl := l_law_take))) ax_nil)) (blkOk_by rfl) (fun _ _ _ _ _ => (pg_name (i := 3) sc_law_right.nd rfl (.inl rfl))) (kg_name 3) (fun _ _ _ _ _ => pts_nil) kt_nil (fun _ _ _ _ _ => (ex_add ex_int (ex_callT call_int1 intS1 T.z_int boot_int3 (ax_cons (ex_call (ok_law_take T) (hr.mono (by decide)) T.m_law_take T.F_law_take.kp T.b_law_take rfl (ax_cons (ex_var 0) (ax_cons ex_int ax_nil)) pass0 (hl := l_law_take)) ax_nil)))) (by decide)) (fun _ _ _ h => h)) ax_nil)) (gx_of (pg_name (i := 2) sc_law_right.nd rfl (.inl rfl)) (kg_name 2)))
  (bx_cons (sx_par (i := 4) (j := 5) rfl sc_law_right.nd (ax_cons (ex_callT call_int1 intS1 T.z_int boot_int3 (ax_cons (ex_call (ok_law_take T) (hr.mono (by decide)) T.m_law_take T.F_law_take.kp T.b_law_take rfl (ax_cons (ex_var 0) (ax_cons ex_int ax_nil)) pass0 (hl := l_law_take)) ax_nil)) (ax_cons (ex_callB call_len_seq lenS T.z_len boot_len3 (ax_cons (ex_var 2) ax_nil)) ax_nil)))
  (bx_cons (sx_parN2 (i := 6) (j := 7) rfl sc_law_right.nd (jx_f (fx_lst ax_nil) (jx_e ex_non jx_nil)))
  (bx_cons (sx_for PassesOwn.never rfl (ix_range2 T.z_range (ax_cons ex_int (ax_cons (ex_add (ex_var 5) ex_int) ax_nil))) (gx_of (pg_name (i := 8) sc_law_right.nd rfl (.inl rfl)) (kg_name 8))
  (bx_cons (sx_asg (ex_call (ok_narrowest T) (hr.mono (by decide)) T.m_narrowest T.F_narrowest.kp T.b_narrowest rfl (ax_cons (ex_var 2) (ax_cons (ex_var 4) (ax_cons (ex_var 8) ax_nil))) pass0 (hl := l_narrowest)) (gx_of (pg_tup rfl (pgs_cons (pg_name (i := 9) sc_law_right.nd rfl (.inl rfl)) (pgs_cons (pg_name (i := 10) sc_law_right.nd rfl (.inl rfl)) pgs_nil))) (kg_tup (kgs_cons (kg_name 9) (kgs_cons (kg_name 10) kgs_nil)))))
  (bx_cons (sx_app 6 (pe_bm PySem.F.plainAttrs_list PySem.F.slot_list_append PySem.F.type_list_append mt_append (pv 6) (pa_cons (ex_var 9) pa_nil)))
  (bx_cons (sx_asg (ex_call (ok_lines_of T) (hr.mono (by decide)) T.m_lines_of T.F_lines_of.kp T.b_lines_of rfl (ax_cons (ex_var 2) (ax_cons (ex_var 4) (ax_cons (ex_var 10) ax_nil))) pass0 (hl := l_lines_of)) (gx_of (pg_name (i := 11) sc_law_right.nd rfl (.inl rfl)) (kg_name 11)))
  (bx_cons (sx_if (wx_pt (wx_or (tx_cmp (op_ne2 hr.units) neS (ex_callB call_len_seq lenS T.z_len boot_len3 (ax_cons (ex_var 11) ax_nil)) (ex_var 8) (nomark _)) (wx_or (tx_cmp (op_ne2 hr.units) neS (ex_callB (maxR rfl (u66 hr)) maxS T.z_max boot_max3 (ax_cons (ex_var 11) ax_nil)) (ex_var 9) (nomark _)) (wx_or1 (tx_cmp (op_ne2 hr.units) neS (ex_callB (cr_sum2 rfl) sum2S T.z_sum boot_sum3 (ax_cons (ex_var 11) ax_nil)) (ex_add (ex_callB (cr_sum2 rfl) sum2S T.z_sum boot_sum3 (ax_cons (ex_var 2) ax_nil)) (ex_mul (ex_var 4) (ex_sub (ex_var 5) (ex_var 8)))) (nomark _))))))
  (bx_one (sx_ret ex_bl))
  bx_nil)
  (bx_cons (sx_if (wx_pt (wx_or (wx_pt (wx_and (tx_cmp op_notN isNotS (ex_var 7) ex_non (nomark _)) (wx_and1 (tx_cmp op_gt gtS (ex_var 9) (ex_var 7) (nomark _))))) (wx_or (tx_cmp op_lt ltS (ex_var 9) (ex_callB (maxR rfl (u66 hr)) maxS T.z_max boot_max3 (ax_cons (ex_var 2) ax_nil)) (nomark _)) (wx_or1 (tx_cmp op_lt ltS (ex_mul (ex_var 9) (ex_var 8)) (ex_callB (cr_sum2 rfl) sum2S T.z_sum boot_sum3 (ax_cons (ex_var 2) ax_nil)) (nomark _))))))
  (bx_one (sx_ret ex_bl))
  bx_nil)
  (bx_one (sx_asg (ex_var 9) (gx_of (pg_name (i := 7) sc_law_right.nd rfl (.inl rfl)) (kg_name 7))))))))))
  (bx_cons (sx_if (wx_pt (wx_or (tx_cmp (op_ne2 hr.units) neS (ex_ix (ex_var 6) ex_int) (ex_add (ex_callB (cr_sum2 rfl) sum2S T.z_sum boot_sum3 (ax_cons (ex_var 2) ax_nil)) (ex_mul (ex_var 4) (ex_sub (ex_var 5) ex_int))) (nomark _)) (wx_or1 (tx_cmp (op_ne2 hr.units) neS (ex_ix (ex_var 6) (ex_neg ex_int)) (ex_callB (maxR rfl (u66 hr)) maxS T.z_max boot_max3 (ax_cons (ex_var 2) ax_nil)) (nomark _)))))
  (bx_one (sx_ret ex_bl))
  bx_nil)
  (bx_cons (sx_asg (ex_add ex_int (ex_callT call_int1 intS1 T.z_int boot_int3 (ax_cons (ex_call (ok_law_take T) (hr.mono (by decide)) T.m_law_take T.F_law_take.kp T.b_law_take rfl (ax_cons (ex_var 0) (ax_cons (ex_var 5) ax_nil)) pass0 (hl := l_law_take)) ax_nil))) (gx_of (pg_name (i := 8) sc_law_right.nd rfl (.inl rfl)) (kg_name 8)))
  (bx_cons (sx_if (tx_cmp (op_ne2 hr.units) neS (ex_ix (ex_call (ok_narrowest T) (hr.mono (by decide)) T.m_narrowest T.F_narrowest.kp T.b_narrowest rfl (ax_cons (ex_rev (ex_var 2)) (ax_cons (ex_var 4) (ax_cons (ex_var 8) ax_nil))) pass0 (hl := l_narrowest)) ex_int) (ex_ix (ex_var 6) (ex_sub (ex_var 8) ex_int)) (nomark _))
  (bx_one (sx_ret ex_bl))
  bx_nil)
  (bx_cons (sx_asgB (ex_add ex_int (ex_callT call_int1 intS1 T.z_int boot_int3 (ax_cons (ex_call (ok_law_take T) (hr.mono (by decide)) T.m_law_take T.F_law_take.kp T.b_law_take rfl (ax_cons (ex_var 0) (ax_cons (ex_add (ex_ix (ex_var 6) ex_int) ex_int) ax_nil)) pass0 (hl := l_law_take)) ax_nil))) (gx_of (pg_name (i := 12) sc_law_right.nd rfl (.inr rfl)) (kg_name 12)))
  (bx_cons (sx_asg (ex_call (ok_fewest_lines T) (hr.mono (by decide)) T.m_fewest_lines T.F_fewest_lines.kp T.b_fewest_lines rfl (ax_cons (ex_var 2) (ax_cons (ex_var 4) (ax_cons (ex_var 12) ax_nil))) pass0 (hl := l_fewest_lines)) (gx_of (pg_name (i := 10) sc_law_right.nd rfl (.inl rfl)) (kg_name 10)))
  (bx_cons (sx_valBL 13 sc_law_right.nd (own := [("at", 14), ("width", 9)]) rfl sc_law_right.nd (ix_enum T.z_enumerate (ex_var 6)) (blkOk_by rfl) (fun _ _ _ _ _ => (pg_tup rfl (pgs_cons (pg_name (i := 14) sc_law_right.nd rfl (.inl rfl)) (pgs_cons (pg_name (i := 9) sc_law_right.nd rfl (.inl rfl)) pgs_nil)))) (kg_tup (kgs_cons (kg_name 14) (kgs_cons (kg_name 9) kgs_nil))) (fun _ _ _ _ _ => pts_one (tx_cmp op_le leS (ex_var 9) (ex_var 12) (nomark _))) kt_one (fun _ _ _ _ _ => (ex_add (ex_var 14) ex_int)) (by decide))
  (bx_cons (sx_if (wx_pt (wx_or (tx_cmp (op_ne2 hr.units) neS (ex_cmp op_isN isS (ex_var 10) ex_non (nomark _)) (ex_cmp (op_eq2 hr.units) eqS (ex_var 13) (ex_lst ax_nil) (nomark _)) (nomark _)) (wx_or1 (wx_pt (wx_and (tx_cmp op_notN isNotS (ex_var 10) ex_non (nomark _)) (wx_and1 (tx_cmp (op_ne2 hr.units) neS (ex_add (ex_callB call_len_seq lenS T.z_len boot_len3 (ax_cons (ex_var 10) ax_nil)) ex_int) (ex_ix (ex_var 13) ex_int) (nomark _))))))))
  (bx_one (sx_ret ex_bl))
  bx_nil)
  (bx_cons (sx_par (i := 15) (j := 16) rfl sc_law_right.nd (ax_cons (ex_add ex_int (ex_callT call_int1 intS1 T.z_int boot_int3 (ax_cons (ex_call (ok_law_take T) (hr.mono (by decide)) T.m_law_take T.F_law_take.kp T.b_law_take rfl (ax_cons (ex_var 0) (ax_cons ex_int ax_nil)) pass0 (hl := l_law_take)) ax_nil))) (ax_cons (ex_add ex_int (ex_callT call_int1 intS1 T.z_int boot_int3 (ax_cons (ex_call (ok_law_take T) (hr.mono (by decide)) T.m_law_take T.F_law_take.kp T.b_law_take rfl (ax_cons (ex_var 0) (ax_cons ex_int ax_nil)) pass0 (hl := l_law_take)) ax_nil))) ax_nil)))
  (bx_cons (sx_asg (ex_call (ok_greatest_letters T) (hr.mono (by decide)) T.m_greatest_letters T.F_greatest_letters.kp T.b_greatest_letters rfl (ax_cons (ex_var 2) (ax_cons (ex_var 4) (ax_cons (ex_var 15) (ax_cons (ex_var 12) (ax_cons (ex_var 16) ax_nil))))) pass0 (hl := l_greatest_letters)) (gx_of (pg_tup rfl (pgs_cons (pg_name (i := 17) sc_law_right.nd rfl (.inl rfl)) (pgs_cons (pg_name (i := 18) sc_law_right.nd rfl (.inl rfl)) (pgs_cons (pg_name (i := 10) sc_law_right.nd rfl (.inl rfl)) pgs_nil)))) (kg_tup (kgs_cons (kg_name 17) (kgs_cons (kg_name 18) (kgs_cons (kg_name 10) kgs_nil))))))
  (bx_cons (sx_asg (ex_tup (ax_cons ex_int (ax_cons ex_int ax_nil))) (gx_of (pg_name (i := 19) sc_law_right.nd rfl (.inl rfl)) (kg_name 19)))
  (bx_cons (sx_frz 6 (sx_for PassesOwn.never rfl (ix_enum T.z_enumerate (ex_var 6)) (gx_of (pg_tup rfl (pgs_cons (pg_name (i := 14) sc_law_right.nd rfl (.inl rfl)) (pgs_cons (pg_name (i := 9) sc_law_right.nd rfl (.inl rfl)) pgs_nil))) (kg_tup (kgs_cons (kg_name 14) (kgs_cons (kg_name 9) kgs_nil))))
  (bx_cons (sx_asg (ex_if (tx_val (ex_call (ok_law_is_less T) (hr.mono (by decide)) T.m_law_is_less T.F_law_is_less.kp T.b_law_is_less rfl (ax_cons (ex_tup (ax_cons (ex_var 12) (ax_cons (ex_var 9) ax_nil))) (ax_cons (ex_tup (ax_cons (ex_var 16) (ax_cons (ex_mul (ex_var 15) (ex_add (ex_var 14) ex_int)) ax_nil))) ax_nil)) pass0 (hl := l_law_is_less))) (ex_tup (ax_cons (ex_var 12) (ax_cons (ex_var 9) ax_nil))) (ex_tup (ax_cons (ex_var 16) (ax_cons (ex_mul (ex_var 15) (ex_add (ex_var 14) ex_int)) ax_nil)))) (gx_of (pg_name (i := 20) sc_law_right.nd rfl (.inl rfl)) (kg_name 20)))
  (bx_one (sx_asg (ex_if (tx_val (ex_call (ok_law_is_less T) (hr.mono (by decide)) T.m_law_is_less T.F_law_is_less.kp T.b_law_is_less rfl (ax_cons (ex_var 19) (ax_cons (ex_var 20) ax_nil)) pass0 (hl := l_law_is_less))) (ex_var 20) (ex_var 19)) (gx_of (pg_name (i := 19) sc_law_right.nd rfl (.inl rfl)) (kg_name 19)))))))
  (bx_cons (sx_if (tx_cmp (op_ne2 hr.units) neS (ex_mul (ex_ix (ex_var 19) ex_int) (ex_var 18)) (ex_mul (ex_var 17) (ex_ix (ex_var 19) ex_int)) (nomark _))
  (bx_one (sx_ret ex_bl))
  bx_nil)
  (bx_cons (sx_asg (ex_add ex_int (ex_callT call_int1 intS1 T.z_int boot_int3 (ax_cons (ex_call (ok_law_take T) (hr.mono (by decide)) T.m_law_take T.F_law_take.kp T.b_law_take rfl (ax_cons (ex_var 0) (ax_cons ex_int ax_nil)) pass0 (hl := l_law_take)) ax_nil))) (gx_of (pg_name (i := 21) sc_law_right.nd rfl (.inl rfl)) (kg_name 21)))
  (bx_cons (sx_for PassesOwn.never rfl (ix_seq (ex_tup (ax_cons (ex_tup (ax_cons (ex_add (ex_var 12) (ex_var 21)) (ax_cons (ex_var 16) ax_nil))) (ax_cons (ex_tup (ax_cons (ex_var 12) (ax_cons (ex_add (ex_var 16) (ex_var 21)) ax_nil))) ax_nil)))) (gx_of (pg_name (i := 22) sc_law_right.nd rfl (.inl rfl)) (kg_name 22))
  (bx_one (sx_if (tx_val (ex_call (ok_law_is_less T) (hr.mono (by decide)) T.m_law_is_less T.F_law_is_less.kp T.b_law_is_less rfl (ax_cons (ex_sl (ex_call (ok_greatest_letters T) (hr.mono (by decide)) T.m_greatest_letters T.F_greatest_letters.kp T.b_greatest_letters rfl (ax_cons (ex_var 2) (ax_cons (ex_var 4) (ax_cons (ex_var 15) (ax_cons (ex_ix (ex_var 22) ex_int) (ax_cons (ex_ix (ex_var 22) ex_int) ax_nil))))) pass0 (hl := l_greatest_letters)) ox_none (ox_some ex_int)) (ax_cons (ex_tup (ax_cons (ex_var 17) (ax_cons (ex_var 18) ax_nil))) ax_nil)) pass0 (hl := l_law_is_less)))
  (bx_one (sx_ret ex_bl))
  bx_nil)))
  (bx_cons (sx_asg (ex_add ex_int (ex_callT call_int1 intS1 T.z_int boot_int3 (ax_cons (ex_call (ok_law_take T) (hr.mono (by decide)) T.m_law_take T.F_law_take.kp T.b_law_take rfl (ax_cons (ex_var 0) (ax_cons ex_int ax_nil)) pass0 (hl := l_law_take)) ax_nil))) (gx_of (pg_name (i := 23) sc_law_right.nd rfl (.inr rfl)) (kg_name 23)))
  (bx_cons (sx_asg (ex_call (ok_greatest_letters T) (hr.mono (by decide)) T.m_greatest_letters T.F_greatest_letters.kp T.b_greatest_letters rfl (ax_cons (ex_var 2) (ax_cons (ex_var 4) (ax_cons (ex_var 15) (ax_cons (ex_mul (ex_var 23) (ex_var 12)) (ax_cons (ex_mul (ex_var 23) (ex_var 16)) ax_nil))))) pass0 (hl := l_greatest_letters)) (gx_of (pg_name (i := 24) sc_law_right.nd rfl (.inl rfl)) (kg_name 24)))
  (bx_cons (sx_if (tx_cmp (op_ne2 hr.units) neS (ex_mul (ex_ix (ex_var 24) ex_int) (ex_var 18)) (ex_mul (ex_mul (ex_var 23) (ex_var 17)) (ex_ix (ex_var 24) ex_int)) (nomark _))
  (bx_one (sx_ret ex_bl))
  bx_nil)
  (bx_cons (sx_if (tx_cmp op_notBl isNotBS (ex_call (ok_shows_greatest_letters T) (hr.mono (by decide)) T.m_shows_greatest_letters T.F_shows_greatest_letters.kp T.b_shows_greatest_letters rfl (ax_cons (ex_var 2) (ax_cons (ex_var 4) (ax_cons (ex_var 15) (ax_cons (ex_var 12) (ax_cons (ex_var 16) (ax_cons (ex_tup (ax_cons (ex_var 17) (ax_cons (ex_var 18) (ax_cons (ex_var 10) ax_nil)))) ax_nil)))))) pass0 (hl := l_shows_greatest_letters)) ex_bl (nomark _))
  (bx_one (sx_ret ex_bl))
  bx_nil)
  (bx_cons (sx_asg (ex_call (ok_greatest_letters T) (hr.mono (by decide)) T.m_greatest_letters T.F_greatest_letters.kp T.b_greatest_letters rfl (ax_cons (ex_callT call_tuple_of tupleS T.z_tuple boot_tuple3 (ax_cons (fx_ex (fx_comp (own := [("word", 3)]) rfl sc_law_right.nd (ix_seq (ex_var 2)) (blkOk_by rfl) (fun _ _ _ _ _ => (pg_name (i := 3) sc_law_right.nd rfl (.inl rfl))) (kg_name 3) (fun _ _ _ _ _ => pts_nil) kt_nil (fun _ _ _ _ _ => (ex_mul (ex_var 23) (ex_var 3))) (by decide)) (fun _ _ _ h => h)) ax_nil)) (ax_cons (ex_mul (ex_var 23) (ex_var 4)) (ax_cons (ex_mul (ex_var 23) (ex_var 15)) (ax_cons (ex_var 12) (ax_cons (ex_var 16) ax_nil))))) pass0 (hl := l_greatest_letters)) (gx_of (pg_name (i := 25) sc_law_right.nd rfl (.inl rfl)) (kg_name 25)))
  (bx_one (sx_if (tx_cmp (op_ne2 hr.units) neS (ex_mul (ex_mul (ex_var 23) (ex_ix (ex_var 25) ex_int)) (ex_var 18)) (ex_mul (ex_var 17) (ex_ix (ex_var 25) ex_int)) (nomark _))
  (bx_one (sx_ret ex_bl))
  bx_nil))))))))))))))))))))))))))
  (bx_one (sx_ret ex_bl))))
theorem ok_law (T : Top K mg base) : FnOk P w K mg base CX0 7 T.a_law T.fd_law ["script"] (spM K 1 m_law) :=
  fn3 (k := 6) (g := g_law) T.F_law sc_law rfl p_law (fun cdv A outer s H E hr => (bx_one (sx_ret (ex_callB (cr_all rfl) allS T.z_all boot_all3 (ax_cons (fx_ex (fx_comp (own := [("at", 1)]) rfl sc_law.nd (ix_seq (ex_call (ok_law_cells T) (hr.mono (by decide)) T.m_law_cells T.F_law_cells.kp T.b_law_cells rfl (ax_cons (ex_var 0) (ax_cons ex_int ax_nil)) pass0 (hl := l_law_cells))) (blkOk_by rfl) (fun _ _ _ _ _ => (pg_name (i := 1) sc_law.nd rfl (.inl rfl))) (kg_name 1) (fun _ _ _ _ _ => pts_nil) kt_nil (fun _ _ _ _ _ => (ex_potcall (ok_law_pot T) (ok_law_right T) (hr.mono (by decide)) (hr.mono (by decide)) T.m_law_pot T.F_law_pot.kp T.b_law_pot T.m_law_right T.F_law_right.kp T.b_law_right (ax_cons (ex_var 0) (ax_cons (ex_var 1) ax_nil)) l_law_pot)) (by decide)) (fun _ _ _ h => h)) ax_nil)))))
end Law62

set_option maxHeartbeats 0
namespace Law62
open PySem PySem.Spec PyProof.Rows L2 L3
def d_is_int : He.DefD := ⟨("is_int", none), "is_int", "is_int", defArgs s_is_int, defBody s_is_int, defScope s_is_int, [], []⟩
def d_are_ints : He.DefD := ⟨("are_ints", none), "are_ints", "are_ints", defArgs s_are_ints, defBody s_are_ints, defScope s_are_ints, [], []⟩
def d_common : He.DefD := ⟨("common", none), "common", "common", defArgs s_common, defBody s_common, defScope s_common, [], []⟩
def d_lowest : He.DefD := ⟨("lowest", none), "lowest", "lowest", defArgs s_lowest, defBody s_lowest, defScope s_lowest, [], []⟩
def d_look_at_words : He.DefD := ⟨("look_at_words", none), "look_at_words", "look_at_words", defArgs s_look_at_words, defBody s_look_at_words, defScope s_look_at_words, [], []⟩
def d_width_of : He.DefD := ⟨("width_of", none), "width_of", "width_of", defArgs s_width_of, defBody s_width_of, defScope s_width_of, [], []⟩
def d_told_lines : He.DefD := ⟨("told_lines", none), "told_lines", "told_lines", defArgs s_told_lines, defBody s_told_lines, defScope s_told_lines, [], []⟩
def d_are_breaks : He.DefD := ⟨("are_breaks", none), "are_breaks", "are_breaks", defArgs s_are_breaks, defBody s_are_breaks, defScope s_are_breaks, [], []⟩
def d_lines_of : He.DefD := ⟨("lines_of", none), "lines_of", "lines_of", defArgs s_lines_of, defBody s_lines_of, defScope s_lines_of, [], []⟩
def d_told_narrowest : He.DefD := ⟨("told_narrowest", none), "told_narrowest", "told_narrowest", defArgs s_told_narrowest, defBody s_told_narrowest, defScope s_told_narrowest, [], []⟩
def d_look_at_lines : He.DefD := ⟨("look_at_lines", none), "look_at_lines", "look_at_lines", defArgs s_look_at_lines, defBody s_look_at_lines, defScope s_look_at_lines, [], []⟩
def d_narrowest : He.DefD := ⟨("narrowest", none), "narrowest", "narrowest", defArgs s_narrowest, defBody s_narrowest, defScope s_narrowest, [], []⟩
def d_fewest_lines : He.DefD := ⟨("fewest_lines", none), "fewest_lines", "fewest_lines", defArgs s_fewest_lines, defBody s_fewest_lines, defScope s_fewest_lines, [], []⟩
def d_look_at_back : He.DefD := ⟨("look_at_back", none), "look_at_back", "look_at_back", defArgs s_look_at_back, defBody s_look_at_back, defScope s_look_at_back, [], []⟩
def d_told_greatest : He.DefD := ⟨("told_greatest", none), "told_greatest", "told_greatest", defArgs s_told_greatest, defBody s_told_greatest, defScope s_told_greatest, [], []⟩
def d_greatest_letters : He.DefD := ⟨("greatest_letters", none), "greatest_letters", "greatest_letters", defArgs s_greatest_letters, defBody s_greatest_letters, defScope s_greatest_letters, [], []⟩
def d_shows_greatest_letters : He.DefD := ⟨("shows_greatest_letters", none), "shows_greatest_letters", "shows_greatest_letters", defArgs s_shows_greatest_letters, defBody s_shows_greatest_letters, defScope s_shows_greatest_letters, [], []⟩
def d_law_pot : He.DefD := ⟨("_law_pot", none), "_law_pot", "_law_pot", defArgs s_law_pot, defBody s_law_pot, defScope s_law_pot, [], []⟩
def d_law_take : He.DefD := ⟨("_law_take", none), "_law_take", "_law_take", defArgs s_law_take, defBody s_law_take, defScope s_law_take, [], []⟩
def d_law_cells : He.DefD := ⟨("_law_cells", none), "_law_cells", "_law_cells", defArgs s_law_cells, defBody s_law_cells, defScope s_law_cells, [], []⟩
def d_law_is_less : He.DefD := ⟨("_law_is_less", none), "_law_is_less", "_law_is_less", defArgs s_law_is_less, defBody s_law_is_less, defScope s_law_is_less, [], []⟩
def d_law_right : He.DefD := ⟨("_law_right", none), "_law_right", "_law_right", defArgs s_law_right, defBody s_law_right, defScope s_law_right, [], []⟩
def d_law : He.DefD := ⟨("law", none), "law", "law", defArgs s_law, defBody s_law, defScope s_law, [], []⟩
def fns : List He.DefD := ([d_is_int, d_are_ints, d_common, d_lowest, d_look_at_words, d_width_of, d_told_lines, d_are_breaks, d_lines_of, d_told_narrowest, d_look_at_lines, d_narrowest, d_fewest_lines, d_look_at_back, d_told_greatest, d_greatest_letters, d_shows_greatest_letters, d_law_pot, d_law_take, d_law_cells, d_law_is_less, d_law_right, d_law] : List He.DefD)
def fas : List He.Fa := ([.glo "is_int", .glo "are_ints", .glo "common", .glo "lowest", .glo "look_at_words", .glo "width_of", .glo "told_lines", .glo "are_breaks", .glo "lines_of", .glo "told_narrowest", .glo "look_at_lines", .glo "narrowest", .glo "fewest_lines", .glo "look_at_back", .glo "told_greatest", .glo "greatest_letters", .glo "shows_greatest_letters", .glo "_law_pot", .glo "_law_take", .glo "_law_cells", .glo "_law_is_less", .glo "_law_right", .glo "law", .free "abs", .free "all", .free "bool", .free "enumerate", .free "int", .free "isinstance", .free "len"] : List He.Fa) ++ ([.free "list", .free "max", .free "min", .free "range", .free "sum", .free "tuple", .free "zip", .int "MOST_SIZE" 1000000, .int "MOST_WORDS" 40] : List He.Fa)
def tfs : List He.Defn := []
def exs (K : PySem.W.Frag) : Bool := true
def looseN : List Str := (["BindError", "BadInt", "BadPages", "is_int", "are_ints", "common", "lowest", "MOST_WORDS", "MOST_SIZE", "look_at_words", "width_of", "told_lines", "are_breaks", "lines_of", "told_narrowest", "look_at_lines", "narrowest", "fewest_lines", "look_at_back", "told_greatest", "greatest_letters", "shows_greatest_letters", "_law_pot", "_law_take", "_law_cells", "_law_is_less", "_law_right"] : List Str)
abbrev R : PySem.W.OpenRow := PySem.W.OpenLaw.row PySem.Challenge.rw_foldedandsewn_k62_whole_titles_wider_and
abbrev hk : PySem.W.Hook := He.hookX 5 fas fns [] tfs exs
def ob (s : PySem.W.SharedT) : He.AlX := He.obsX 5 fas fns [] tfs exs (HandSHeadRun.getT s)
theorem ob_eq (s : PySem.W.SharedT) : ob s = hk.obs s.abs := He.obsX_eq (HandSHeadRun.getT_eq s)
theorem run (w : World) : HandSHeadRun.RunEq R (PySem.W.view R.prog [32]) hk ob 3000 looseN w := by
  intro os
  kernel_rfl
theorem top_of {w : World} {K : PySem.W.Frag} {h h2 base : Heap} {mg : Str → Option Value} (X : K.In h2) (G : h2.Ns mainGlobals mg) (c : He.SaysX fas fns [] tfs exs w h K) (tb : ∀ p ∈ tfs.map (He.cT K), LamX.TabB base mg p.1 p.2) {fd_law : FuncData} (F_law : FunD K "law" "law" (defArgs s_law) (defBody s_law) (defScope s_law) [] [] (He.fAd K ("law", none)) fd_law) : ∃ T : Top K mg base, T.a_law = He.ga K "law" ∧ T.fd_law = fd_law := by
  obtain ⟨fd_is_int, F_is_int⟩ := c.t.d.def_ 0 (d := d_is_int) rfl
  obtain ⟨fd_are_ints, F_are_ints⟩ := c.t.d.def_ 1 (d := d_are_ints) rfl
  obtain ⟨fd_common, F_common⟩ := c.t.d.def_ 2 (d := d_common) rfl
  obtain ⟨fd_lowest, F_lowest⟩ := c.t.d.def_ 3 (d := d_lowest) rfl
  obtain ⟨fd_look_at_words, F_look_at_words⟩ := c.t.d.def_ 4 (d := d_look_at_words) rfl
  obtain ⟨fd_width_of, F_width_of⟩ := c.t.d.def_ 5 (d := d_width_of) rfl
  obtain ⟨fd_told_lines, F_told_lines⟩ := c.t.d.def_ 6 (d := d_told_lines) rfl
  obtain ⟨fd_are_breaks, F_are_breaks⟩ := c.t.d.def_ 7 (d := d_are_breaks) rfl
  obtain ⟨fd_lines_of, F_lines_of⟩ := c.t.d.def_ 8 (d := d_lines_of) rfl
  obtain ⟨fd_told_narrowest, F_told_narrowest⟩ := c.t.d.def_ 9 (d := d_told_narrowest) rfl
  obtain ⟨fd_look_at_lines, F_look_at_lines⟩ := c.t.d.def_ 10 (d := d_look_at_lines) rfl
  obtain ⟨fd_narrowest, F_narrowest⟩ := c.t.d.def_ 11 (d := d_narrowest) rfl
  obtain ⟨fd_fewest_lines, F_fewest_lines⟩ := c.t.d.def_ 12 (d := d_fewest_lines) rfl
  obtain ⟨fd_look_at_back, F_look_at_back⟩ := c.t.d.def_ 13 (d := d_look_at_back) rfl
  obtain ⟨fd_told_greatest, F_told_greatest⟩ := c.t.d.def_ 14 (d := d_told_greatest) rfl
  obtain ⟨fd_greatest_letters, F_greatest_letters⟩ := c.t.d.def_ 15 (d := d_greatest_letters) rfl
  obtain ⟨fd_shows_greatest_letters, F_shows_greatest_letters⟩ := c.t.d.def_ 16 (d := d_shows_greatest_letters) rfl
  obtain ⟨fd_law_pot, F_law_pot⟩ := c.t.d.def_ 17 (d := d_law_pot) rfl
  obtain ⟨fd_law_take, F_law_take⟩ := c.t.d.def_ 18 (d := d_law_take) rfl
  obtain ⟨fd_law_cells, F_law_cells⟩ := c.t.d.def_ 19 (d := d_law_cells) rfl
  obtain ⟨fd_law_is_less, F_law_is_less⟩ := c.t.d.def_ 20 (d := d_law_is_less) rfl
  obtain ⟨fd_law_right, F_law_right⟩ := c.t.d.def_ 21 (d := d_law_right) rfl
  obtain ⟨t_MOST_SIZE, e_MOST_SIZE⟩ := He.int_ok X G (c.t.d.fact 37 (f := .int "MOST_SIZE" 1000000) rfl)
  obtain ⟨t_MOST_WORDS, e_MOST_WORDS⟩ := He.int_ok X G (c.t.d.fact 38 (f := .int "MOST_WORDS" 40) rfl)
  exact ⟨{
    a_is_int := He.ga K "is_int"
    fd_is_int := fd_is_int
    F_is_int := fun_of F_is_int
    b_is_int := Fun.binds (x := "is_int") (qual := "is_int") (st := s_is_int) (fd := fd_is_int) (fun_of F_is_int) fun _ _ _ _ _ _ us hl => match us, hl with | [_, _, _], _ => rfl
    m_is_int := He.glo_ok X G (c.t.d.fact 0 (f := .glo "is_int") rfl)
    a_are_ints := He.ga K "are_ints"
    fd_are_ints := fd_are_ints
    F_are_ints := fun_of F_are_ints
    b_are_ints := Fun.binds (x := "are_ints") (qual := "are_ints") (st := s_are_ints) (fd := fd_are_ints) (fun_of F_are_ints) fun _ _ _ _ _ _ us hl => match us, hl with | [_, _, _], _ => rfl
    m_are_ints := He.glo_ok X G (c.t.d.fact 1 (f := .glo "are_ints") rfl)
    a_common := He.ga K "common"
    fd_common := fd_common
    F_common := fun_of F_common
    b_common := Fun.binds (x := "common") (qual := "common") (st := s_common) (fd := fd_common) (fun_of F_common) fun _ _ _ _ _ _ us hl => match us, hl with | [_, _], _ => rfl
    m_common := He.glo_ok X G (c.t.d.fact 2 (f := .glo "common") rfl)
    a_lowest := He.ga K "lowest"
    fd_lowest := fd_lowest
    F_lowest := fun_of F_lowest
    b_lowest := Fun.binds (x := "lowest") (qual := "lowest") (st := s_lowest) (fd := fd_lowest) (fun_of F_lowest) fun _ _ _ _ _ _ us hl => match us, hl with | [_, _], _ => rfl
    m_lowest := He.glo_ok X G (c.t.d.fact 3 (f := .glo "lowest") rfl)
    a_look_at_words := He.ga K "look_at_words"
    fd_look_at_words := fd_look_at_words
    F_look_at_words := fun_of F_look_at_words
    b_look_at_words := Fun.binds (x := "look_at_words") (qual := "look_at_words") (st := s_look_at_words) (fd := fd_look_at_words) (fun_of F_look_at_words) fun _ _ _ _ _ _ us hl => match us, hl with | [_, _], _ => rfl
    m_look_at_words := He.glo_ok X G (c.t.d.fact 4 (f := .glo "look_at_words") rfl)
    a_width_of := He.ga K "width_of"
    fd_width_of := fd_width_of
    F_width_of := fun_of F_width_of
    b_width_of := Fun.binds (x := "width_of") (qual := "width_of") (st := s_width_of) (fd := fd_width_of) (fun_of F_width_of) fun _ _ _ _ _ _ us hl => match us, hl with | [_, _, _, _], _ => rfl
    m_width_of := He.glo_ok X G (c.t.d.fact 5 (f := .glo "width_of") rfl)
    a_told_lines := He.ga K "told_lines"
    fd_told_lines := fd_told_lines
    F_told_lines := fun_of F_told_lines
    b_told_lines := Fun.binds (x := "told_lines") (qual := "told_lines") (st := s_told_lines) (fd := fd_told_lines) (fun_of F_told_lines) fun _ _ _ _ _ _ us hl => match us, hl with | [_, _, _], _ => rfl
    m_told_lines := He.glo_ok X G (c.t.d.fact 6 (f := .glo "told_lines") rfl)
    a_are_breaks := He.ga K "are_breaks"
    fd_are_breaks := fd_are_breaks
    F_are_breaks := fun_of F_are_breaks
    b_are_breaks := Fun.binds (x := "are_breaks") (qual := "are_breaks") (st := s_are_breaks) (fd := fd_are_breaks) (fun_of F_are_breaks) fun _ _ _ _ _ _ us hl => match us, hl with | [_, _], _ => rfl
    m_are_breaks := He.glo_ok X G (c.t.d.fact 7 (f := .glo "are_breaks") rfl)
    a_lines_of := He.ga K "lines_of"
    fd_lines_of := fd_lines_of
    F_lines_of := fun_of F_lines_of
    b_lines_of := Fun.binds (x := "lines_of") (qual := "lines_of") (st := s_lines_of) (fd := fd_lines_of) (fun_of F_lines_of) fun _ _ _ _ _ _ us hl => match us, hl with | [_, _, _], _ => rfl
    m_lines_of := He.glo_ok X G (c.t.d.fact 8 (f := .glo "lines_of") rfl)
    a_told_narrowest := He.ga K "told_narrowest"
    fd_told_narrowest := fd_told_narrowest
    F_told_narrowest := fun_of F_told_narrowest
    b_told_narrowest := Fun.binds (x := "told_narrowest") (qual := "told_narrowest") (st := s_told_narrowest) (fd := fd_told_narrowest) (fun_of F_told_narrowest) fun _ _ _ _ _ _ us hl => match us, hl with | [_, _, _], _ => rfl
    m_told_narrowest := He.glo_ok X G (c.t.d.fact 9 (f := .glo "told_narrowest") rfl)
    a_look_at_lines := He.ga K "look_at_lines"
    fd_look_at_lines := fd_look_at_lines
    F_look_at_lines := fun_of F_look_at_lines
    b_look_at_lines := Fun.binds (x := "look_at_lines") (qual := "look_at_lines") (st := s_look_at_lines) (fd := fd_look_at_lines) (fun_of F_look_at_lines) fun _ _ _ _ _ _ us hl => match us, hl with | [_, _, _], _ => rfl
    m_look_at_lines := He.glo_ok X G (c.t.d.fact 10 (f := .glo "look_at_lines") rfl)
    a_narrowest := He.ga K "narrowest"
    fd_narrowest := fd_narrowest
    F_narrowest := fun_of F_narrowest
    b_narrowest := Fun.binds (x := "narrowest") (qual := "narrowest") (st := s_narrowest) (fd := fd_narrowest) (fun_of F_narrowest) fun _ _ _ _ _ _ us hl => match us, hl with | [_, _, _], _ => rfl
    m_narrowest := He.glo_ok X G (c.t.d.fact 11 (f := .glo "narrowest") rfl)
    a_fewest_lines := He.ga K "fewest_lines"
    fd_fewest_lines := fd_fewest_lines
    F_fewest_lines := fun_of F_fewest_lines
    b_fewest_lines := Fun.binds (x := "fewest_lines") (qual := "fewest_lines") (st := s_fewest_lines) (fd := fd_fewest_lines) (fun_of F_fewest_lines) fun _ _ _ _ _ _ us hl => match us, hl with | [_, _, _], _ => rfl
    m_fewest_lines := He.glo_ok X G (c.t.d.fact 12 (f := .glo "fewest_lines") rfl)
    a_look_at_back := He.ga K "look_at_back"
    fd_look_at_back := fd_look_at_back
    F_look_at_back := fun_of F_look_at_back
    b_look_at_back := Fun.binds (x := "look_at_back") (qual := "look_at_back") (st := s_look_at_back) (fd := fd_look_at_back) (fun_of F_look_at_back) fun _ _ _ _ _ _ us hl => match us, hl with | [_, _, _, _, _], _ => rfl
    m_look_at_back := He.glo_ok X G (c.t.d.fact 13 (f := .glo "look_at_back") rfl)
    a_told_greatest := He.ga K "told_greatest"
    fd_told_greatest := fd_told_greatest
    F_told_greatest := fun_of F_told_greatest
    b_told_greatest := Fun.binds (x := "told_greatest") (qual := "told_greatest") (st := s_told_greatest) (fd := fd_told_greatest) (fun_of F_told_greatest) fun _ _ _ _ _ _ us hl => match us, hl with | [_, _, _, _, _], _ => rfl
    m_told_greatest := He.glo_ok X G (c.t.d.fact 14 (f := .glo "told_greatest") rfl)
    a_greatest_letters := He.ga K "greatest_letters"
    fd_greatest_letters := fd_greatest_letters
    F_greatest_letters := fun_of F_greatest_letters
    b_greatest_letters := Fun.binds (x := "greatest_letters") (qual := "greatest_letters") (st := s_greatest_letters) (fd := fd_greatest_letters) (fun_of F_greatest_letters) fun _ _ _ _ _ _ us hl => match us, hl with | [_, _, _, _, _], _ => rfl
    m_greatest_letters := He.glo_ok X G (c.t.d.fact 15 (f := .glo "greatest_letters") rfl)
    a_shows_greatest_letters := He.ga K "shows_greatest_letters"
    fd_shows_greatest_letters := fd_shows_greatest_letters
    F_shows_greatest_letters := fun_of F_shows_greatest_letters
    b_shows_greatest_letters := Fun.binds (x := "shows_greatest_letters") (qual := "shows_greatest_letters") (st := s_shows_greatest_letters) (fd := fd_shows_greatest_letters) (fun_of F_shows_greatest_letters) fun _ _ _ _ _ _ us hl => match us, hl with | [_, _, _, _, _, _], _ => rfl
    m_shows_greatest_letters := He.glo_ok X G (c.t.d.fact 16 (f := .glo "shows_greatest_letters") rfl)
    a_law_pot := He.ga K "_law_pot"
    fd_law_pot := fd_law_pot
    F_law_pot := fun_of F_law_pot
    b_law_pot := Fun.binds (x := "_law_pot") (qual := "_law_pot") (st := s_law_pot) (fd := fd_law_pot) (fun_of F_law_pot) fun _ _ _ _ _ _ us hl => match us, hl with | [_, _], _ => rfl
    m_law_pot := He.glo_ok X G (c.t.d.fact 17 (f := .glo "_law_pot") rfl)
    a_law_take := He.ga K "_law_take"
    fd_law_take := fd_law_take
    F_law_take := fun_of F_law_take
    b_law_take := Fun.binds (x := "_law_take") (qual := "_law_take") (st := s_law_take) (fd := fd_law_take) (fun_of F_law_take) fun _ _ _ _ _ _ us hl => match us, hl with | [_, _], _ => rfl
    m_law_take := He.glo_ok X G (c.t.d.fact 18 (f := .glo "_law_take") rfl)
    a_law_cells := He.ga K "_law_cells"
    fd_law_cells := fd_law_cells
    F_law_cells := fun_of F_law_cells
    b_law_cells := Fun.binds (x := "_law_cells") (qual := "_law_cells") (st := s_law_cells) (fd := fd_law_cells) (fun_of F_law_cells) fun _ _ _ _ _ _ us hl => match us, hl with | [_, _], _ => rfl
    m_law_cells := He.glo_ok X G (c.t.d.fact 19 (f := .glo "_law_cells") rfl)
    a_law_is_less := He.ga K "_law_is_less"
    fd_law_is_less := fd_law_is_less
    F_law_is_less := fun_of F_law_is_less
    b_law_is_less := Fun.binds (x := "_law_is_less") (qual := "_law_is_less") (st := s_law_is_less) (fd := fd_law_is_less) (fun_of F_law_is_less) fun _ _ _ _ _ _ us hl => match us, hl with | [_, _], _ => rfl
    m_law_is_less := He.glo_ok X G (c.t.d.fact 20 (f := .glo "_law_is_less") rfl)
    a_law_right := He.ga K "_law_right"
    fd_law_right := fd_law_right
    F_law_right := fun_of F_law_right
    b_law_right := Fun.binds (x := "_law_right") (qual := "_law_right") (st := s_law_right) (fd := fd_law_right) (fun_of F_law_right) fun _ _ _ _ _ _ us hl => match us, hl with | [_], _ => rfl
    m_law_right := He.glo_ok X G (c.t.d.fact 21 (f := .glo "_law_right") rfl)
    a_law := He.ga K "law"
    fd_law := fd_law
    F_law := fun_of F_law
    b_law := Fun.binds (x := "law") (qual := "law") (st := s_law) (fd := fd_law) (fun_of F_law) fun _ _ _ _ _ _ us hl => match us, hl with | [_], _ => rfl
    m_law := He.glo_ok X G (c.t.d.fact 22 (f := .glo "law") rfl)
    z_abs := He.free_ok X G (c.t.d.fact 23 (f := .free "abs") rfl)
    z_all := He.free_ok X G (c.t.d.fact 24 (f := .free "all") rfl)
    z_bool := He.free_ok X G (c.t.d.fact 25 (f := .free "bool") rfl)
    z_enumerate := He.free_ok X G (c.t.d.fact 26 (f := .free "enumerate") rfl)
    z_int := He.free_ok X G (c.t.d.fact 27 (f := .free "int") rfl)
    z_isinstance := He.free_ok X G (c.t.d.fact 28 (f := .free "isinstance") rfl)
    z_len := He.free_ok X G (c.t.d.fact 29 (f := .free "len") rfl)
    z_list := He.free_ok X G (c.t.d.fact 30 (f := .free "list") rfl)
    z_max := He.free_ok X G (c.t.d.fact 31 (f := .free "max") rfl)
    z_min := He.free_ok X G (c.t.d.fact 32 (f := .free "min") rfl)
    z_range := He.free_ok X G (c.t.d.fact 33 (f := .free "range") rfl)
    z_sum := He.free_ok X G (c.t.d.fact 34 (f := .free "sum") rfl)
    z_tuple := He.free_ok X G (c.t.d.fact 35 (f := .free "tuple") rfl)
    z_zip := He.free_ok X G (c.t.d.fact 36 (f := .free "zip") rfl)
    t_MOST_SIZE := t_MOST_SIZE
    c_MOST_SIZE := e_MOST_SIZE
    t_MOST_WORDS := t_MOST_WORDS
    c_MOST_WORDS := e_MOST_WORDS }, rfl, rfl⟩
theorem tabs_at {w : World} {K : PySem.W.Frag} {h : Heap} {H : Hp} (c : He.SaysX fas fns [] tfs exs w h K) (hH : ∀ p ∈ tfs.map (He.cT K), H p.2 = some (.tbl #[])) : LamX.Tabs tabs0 H := fun p hp => by
  exact absurd hp List.not_mem_nil
theorem law_at {w : World} {K : PySem.W.Frag} {h : Heap} {mg : Str → Option Value} {fa : Addr} (X : K.In h) (G : h.Ns mainGlobals mg) (hfa : mg ("law" : Str) = some (.ref fa)) (c : He.SaysX fas fns [] tfs exs w h K) :
    LamX.LawAtS PySem.Challenge.rw_foldedandsewn_k62_whole_titles_wider_and w K L2.CX0 7 63 "script" mg fa h := by
  obtain ⟨fd, F⟩ := c.t.d.def_ 22 (d := d_law) rfl
  have e := hfa.symm.trans (He.glo_ok X G (c.t.d.fact 22 (f := .glo "law") rfl))
  cases e
  refine ⟨fd, tfs.map (He.cT K), spM K 1 m_law, fun p hp => ?_, fun p hp => ?_, fun p hp => ?_, fun s v => (FunD.bindsA (ps := ["script"]) F fun _ _ _ _ _ _ us hl => match us, hl with | [_], _ => rfl) s [v] rfl, fun H a ns hl hb hH hS => law_sp (tabs_at c hH) hS (S_law ns hl hb), fun base hK hN tb => ?_⟩
  · obtain ⟨d, hd, rfl⟩ := List.mem_map.mp hp
    exact c.empty d hd
  · obtain ⟨d, hd, rfl⟩ := List.mem_map.mp hp
    exact c.out d hd
  · obtain ⟨d, hd, rfl⟩ := List.mem_map.mp hp
    exact PySem.W.codeHd_of_K X (c.hd d hd)
  · obtain ⟨T, e1, e2⟩ := top_of hK hN c tb F
    have z := ok_law (P := PySem.Challenge.pw_foldedandsewn_k62_whole_titles_wider_and) (w := w) T
    rw [e1, e2] at z
    exact z
end Law62
open PySem PySem.W PySem.Calls PyProof.Rows
set_option maxHeartbeats 0 in
theorem PySem.Challenge.cw_foldedandsewn_k62_whole_titles_wider_and_holds : PySem.Challenge.rw_foldedandsewn_k62_whole_titles_wider_and.Holds := by
  w_on; o_law
  refine HandSHeadRun.head_any (r := OpenLaw.row PySem.Challenge.rw_foldedandsewn_k62_whole_titles_wider_and) (q := view (OpenLaw.row PySem.Challenge.rw_foldedandsewn_k62_whole_titles_wider_and).prog [32]) (H := Law62.hk) (ob := Law62.ob) (M := 3000) (loose := Law62.looseN) (d := HandSHeadRun.topDef (OpenLaw.row PySem.Challenge.rw_foldedandsewn_k62_whole_titles_wider_and).prog 32) (kwd := []) Law62.ob_eq
    (by kernel_rfl) (fun s => by kernel_rfl) Law62.run (by kernel_rfl) (by kernel_rfl) (by kernel_rfl) (by rfl) (by first | assumption | decide +kernel) (by decide +kernel) ⟨rfl, rfl, rfl, rfl, rfl, by decide +kernel⟩ ?hw ?hc
  case hw => w_witness2
  case hc =>
    refine LamX.walk_ofTsE (l := PySem.Challenge.rw_foldedandsewn_k62_whole_titles_wider_and) (n := 63) (k := 7) (x := "script") (CX := fun _ => L2.CX0) rfl (by decide) (by kernel_rfl) ⟨rfl, by decide, by decide⟩ ?F (fun _ _ _ _ _ z => z)
    intro w mg fa h Y G hmg0
    obtain ⟨K, KX, c⟩ := Y
    have hmg : mg ("law" : PySem.Str) = some (.ref fa) := by
      have e : (HandSHeadRun.topDef (OpenLaw.row PySem.Challenge.rw_foldedandsewn_k62_whole_titles_wider_and).prog 32).name = ("law" : PySem.Str) := by kernel_rfl
      rw [← e]
      exact hmg0
    exact ⟨K, KX, Law62.law_at KX G hmg c⟩

