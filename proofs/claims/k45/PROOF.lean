import PyProof.Rows.All
import HandS.Lambda
import Wide.All
import OpenK.AllK
import Wide.FinOn
import HandS.ForMost
import HandS.Star
import HandS.Wide
import HandS.IsInst
import HandS.TupAny
import HandS.Zip
import HandS.HeadHook1
import HandS.Style
import HandS.Deep
import KE.GoesEnum
import HandS.More
import HandS.Conv
import HandS.NoneIn
import HandS.TupMul
import KE.SortData
import KE.KRevSl
import KE.KIndexOf
import HandS.SetFor
import KE.DataMinMax
import KE.SortKeyHeap
import KE.KSortKey
import HandS.SortKw
import HandS.SortInts
import KE.KTupSum
import HandS.DictComp
import PyProof.Claim2Refuses
import HandS.Flt
import HandS.Exc
import HandS.WordsExc
import HandS.ExcInit
import KE.KExcSuper
import HandS.ExcSuper
import HandS.ExcIs
import HandS.ExcField
import PyProof.ReprReads
import HandS.Head0
import HandS.Head1
import HandS.Head2
import HandS.HeadEnd
import HandS.HeadHook4
import HandS.HeadWalk
import KE.KStateDown
import HandS.EndTab
import HandS.JoinGen
import PyProof.StrLawsRepr
import PyProof.Rows.ReprOcc
import PySem.Challenge.RW_foldedandsewn_k45_whole_covers_that_clos
/-! L3, by the law: the tables of code objects that its lambdas are made at. -/
namespace L3
def tabs0 : List (PySem.Addr × PySem.Str) := [(154, "least_hinge.<locals>.<lambda>"), (262, "_law_are_refused.<locals>.<lambda>")]
end L3

set_option Elab.async false
set_option linter.all false
set_option maxRecDepth 100000
/-! L3, the pure part: data without a heap, readings as plain predicate transformers. -/
namespace L3
open PySem PySem.Spec PyProof.Rows L2

/-- what stands beside the data: the pot, code objects that are known -/
structure Pn where
  pot : Option Addr
  cod : List (Addr × Str) := []
  flo : Hp := fun _ => none
/-- the keys of a dict: ints and texts, or tuples of such -/
inductive Ks where
  | k (l : List Key) | t (l : List (List Key))
/-- data: what a value is worth, without the heap (lam: a lambda made at a frozen part of the heap) -/
inductive D where
  | non | bl (b : Bool) | int (i : Int) | str (x : Str) | ty (n : String) | rf (a : Addr) | pot | scr (ns : List Int) | lam (a : Addr) (F0 : Hp) (p : Pn)
  | exc (n : Str) (d : D) | clo (a : Addr) (o : Obj) | dic (kvs : List (Str × Int))
  | tup (l : List D) | lst (l : List D) | dct (ks : Ks) (l : List D)

/-- a slot of a body: nothing, a value, a list of its own -/
inductive SV where
  | no | val (d : D) | own (l : List D) | dic (ks : Ks) (l : List D)
@[simp ↓] def vA : SV → Option D
  | .val d => some d
  | _ => none
@[simp ↓] def vB : SV → Option D
  | .val d => some d
  | .own l => some (.lst l)
  | .dic ks l => some (.dct ks l)
  | .no => none
abbrev Rho := List (Option D)
abbrev Env3 := List SV
abbrev KD := D → Nat → Prop
/-- readings: an expression, a list of arguments, a test -/
abbrev FE := Rho → Nat → KD → Prop
abbrev FA := Rho → Nat → (List D → Nat → Prop) → Prop
abbrev FT := Rho → Nat → (Bool → Nat → Prop) → Prop
structure End3 where
  nx : Env3 → Nat → Prop
  rt : KD
  bk : Env3 → Nat → Prop := fun _ _ => False
  ct : Env3 → Nat → Prop := fun _ _ => False
  xx : Str → D → Nat → Prop := fun _ _ _ => False
abbrev FS := End3 → Env3 → Nat → Prop
abbrev FG := D → Env3 → (Env3 → Prop) → Prop
abbrev FGs := List D → Env3 → (Env3 → Prop) → Prop
/-- what a def is worth -/
abbrev FM := List D → Nat → KD → Prop

@[simp ↓] def get3 : Rho → Nat → Option D
  | [], _ => none
  | x :: _, 0 => x
  | _ :: r, n + 1 => get3 r n
@[simp ↓] def eVar (i : Nat) : FE := fun ρ c Q => match get3 ρ i with | some d => Q d c | none => False
@[simp ↓] def eC (d : D) : FE := fun _ c Q => Q d c
@[simp ↓] def eOp (g : D → D → Nat → KD → Prop) (fa fb : FE) : FE := fun ρ c Q => fa ρ c fun x c => fb ρ c fun y c => g x y c Q
@[simp ↓] def eUn (g : D → Nat → KD → Prop) (fa : FE) : FE := fun ρ c Q => fa ρ c fun x c => g x c Q
@[simp ↓] def aNil : FA := fun _ c Q => Q [] c
@[simp ↓] def aCons (fa : FE) (fr : FA) : FA := fun ρ c Q => fa ρ c fun x c => fr ρ c fun xs c => Q (x :: xs) c
@[simp ↓] def aStar (fa : FE) (fr : FA) : FA := fun ρ c Q => fa ρ c fun x c => match x with
  | .tup l => fr ρ c fun xs c => Q (l ++ xs) c
  | .lst l => fr ρ c fun xs c => Q (l ++ xs) c
  | _ => False
@[simp ↓] def eTup (fa : FA) : FE := fun ρ c Q => fa ρ c fun l c => l.length ≤ 16777216 ∧ Q (.tup l) c
@[simp ↓] def eLst (fa : FA) : FE := fun ρ c Q => fa ρ c fun l c => l.length ≤ 16777216 ∧ Q (.lst l) c
@[simp ↓] def eCall (m : FM) (fa : FA) : FE := fun ρ c Q => fa ρ c fun l c => m l c Q
/-- a built-in: the same form -/
abbrev eB := eCall
/-- tests -/
@[simp ↓] def tV (fe : FE) : FT := fun ρ c Q => fe ρ c fun x c => match x with | .bl b => Q b c | _ => False
@[simp ↓] def tA3 (t u : FT) : FT := fun ρ c Q => t ρ c fun b c => if b = true then u ρ c Q else Q false c
@[simp ↓] def tO3 (t u : FT) : FT := fun ρ c Q => t ρ c fun b c => if b = true then Q true c else u ρ c Q
@[simp ↓] def tN3 (t : FT) : FT := fun ρ c Q => t ρ c fun b c => Q (!b) c
/-- and, or, not as values of bools -/
@[simp ↓] def eAnd (fa fb : FE) : FE := fun ρ c Q => fa ρ c fun x c => match x with | .bl b => (if b = true then fb ρ c Q else Q (.bl false) c) | _ => False
@[simp ↓] def eOr (fa fb : FE) : FE := fun ρ c Q => fa ρ c fun x c => match x with | .bl b => (if b = true then Q (.bl true) c else fb ρ c Q) | _ => False
@[simp ↓] def eNot (fa : FE) : FE := fun ρ c Q => fa ρ c fun x c => match x with | .bl b => Q (.bl (!b)) c | _ => False
@[simp ↓] def eIf3 (t : FT) (fa fb : FE) : FE := fun ρ c Q => t ρ c fun b c => if b = true then fa ρ c Q else fb ρ c Q
/-- a chain a op b op' d -/
@[simp ↓] def eCh (g g' : D → D → Nat → KD → Prop) (fa fb fd : FE) : FE := fun ρ c Q => fa ρ c fun x c => fb ρ c fun y c => g x y c fun z c => match z with
  | .bl k => (if k = true then fd ρ c fun w c => g' y w c Q else Q (.bl false) c)
  | _ => False

/-! ### operators -/
@[simp ↓] def addD : D → D → Nat → KD → Prop
  | .int i, .int j, c, Q => Q (.int (i + j)) c
  | .str x, .str y, c, Q => x.length + y.length ≤ 16777216 ∧ Q (.str (x ++ y)) c
  | .tup l, .tup m, c, Q => l.length + m.length ≤ 16777216 ∧ Q (.tup (l ++ m)) c
  | .lst l, .lst m, c, Q => l.length + m.length ≤ 16777216 ∧ Q (.lst (l ++ m)) c
  | _, _, _, _ => False
@[simp ↓] def subD : D → D → Nat → KD → Prop
  | .int i, .int j, c, Q => Q (.int (i - j)) c
  | _, _, _, _ => False
def MulOk (i j : Int) : Prop := (-(2 ^ 64) < i ∧ i < 2 ^ 64) ∨ (-(2 ^ 64) < j ∧ j < 2 ^ 64)
@[simp ↓] def mulD : D → D → Nat → KD → Prop
  | .int i, .int j, c, Q => MulOk i j ∧ Q (.int (i * j)) c
  | .lst l, .int k, c, Q => (0 ≤ k ∧ k < 1000000 ∧ l.length * k.toNat ≤ 16777216) ∧ Q (.lst (List.replicate k.toNat l).flatten) c
  | _, _, _, _ => False
/-- by a positive divisor below 2 ^ 30 -/
@[simp ↓] def fdivD : D → D → Nat → KD → Prop
  | .int i, .int j, c, Q => (0 < j ∧ j < 1073741824) ∧ Q (.int (i / j)) c
  | _, _, _, _ => False
@[simp ↓] def modD : D → D → Nat → KD → Prop
  | .int i, .int j, c, Q => 0 < j ∧ Q (.int (i % j)) c
  | _, _, _, _ => False
@[simp ↓] def powD : D → D → Nat → KD → Prop
  | .int i, .int j, c, Q => (0 ≤ j ∧ ((j ≤ 1000000 ∧ i.natAbs < 2 ^ 64) ∨ (j ≤ 1000 ∧ i.natAbs < 2 ^ 256))) ∧ Q (.int (i ^ j.toNat)) c
  | _, _, _, _ => False
@[simp ↓] def negD : D → Nat → KD → Prop
  | .int i, c, Q => Q (.int (-i)) c
  | _, _, _ => False
@[simp ↓] def ltD : D → D → Nat → KD → Prop
  | .int i, .int j, c, Q => Q (.bl (decide (i < j))) c
  | _, _, _, _ => False
@[simp ↓] def leD : D → D → Nat → KD → Prop
  | .int i, .int j, c, Q => Q (.bl (decide (i ≤ j))) c
  | _, _, _, _ => False
@[simp ↓] def gtD : D → D → Nat → KD → Prop
  | .int i, .int j, c, Q => Q (.bl (decide (j < i))) c
  | _, _, _, _ => False
@[simp ↓] def geD : D → D → Nat → KD → Prop
  | .int i, .int j, c, Q => Q (.bl (decide (j ≤ i))) c
  | _, _, _, _ => False
@[simp ↓] def isNone : D → Bool
  | .non => true
  | _ => false
@[simp ↓] def isD : D → D → Nat → KD → Prop
  | x, .non, c, Q => Q (.bl (isNone x)) c
  | _, _, _, _ => False
@[simp ↓] def isNotD : D → D → Nat → KD → Prop
  | x, .non, c, Q => Q (.bl (!isNone x)) c
  | _, _, _, _ => False
/-! data as Python's data, where it has no references -/
mutual
def toPy : D → Option PyData
  | .non => some .none
  | .bl b => some (.bool b)
  | .int i => some (.int i)
  | .str x => some (.str x)
  | .tup l => (toPyL l).map .tuple
  | .lst l => (toPyL l).map .list
  | _ => none
def toPyL : List D → Option (List PyData)
  | [] => some []
  | d :: l => match toPy d, toPyL l with
    | some x, some r => some (x :: r)
    | _, _ => none
end
mutual
/-- data of a depth that == may ask -/
def pyD : Nat → D → Bool
  | _, .non => true
  | _, .int _ => true
  | _, .bl _ => true
  | _, .str x => PyData.strOk x
  | n + 1, .tup l => pyDL n l
  | n + 1, .lst l => pyDL n l
  | _, _ => false
def pyDL : Nat → List D → Bool
  | _, [] => true
  | n, d :: l => pyD n d && pyDL n l
end
mutual
/-- == of data -/
def eqvD : D → D → Bool
  | .non, .non => true
  | .bl a, .bl b => a == b
  | .bl a, .int j => (if a then 1 else 0) == j
  | .int i, .bl b => i == (if b then 1 else 0)
  | .int i, .int j => i == j
  | .str x, .str y => x == y
  | .tup l, .tup m => eqvDL l m
  | .lst l, .lst m => eqvDL l m
  | _, _ => false
def eqvDL : List D → List D → Bool
  | [], [] => true
  | x :: l, y :: m => eqvD x y && eqvDL l m
  | _, _ => false
end
/-- == of data: by its own equality on what it is asked (ints, bools, texts, None, tuples and lists of such) -/
@[simp ↓] def eqD : D → D → Nat → KD → Prop
  | .int i, .int j, c, Q => Q (.bl (decide (i = j))) c
  | .bl i, .bl j, c, Q => Q (.bl (decide (i = j))) c
  | .str i, .str j, c, Q => Q (.bl (decide (i = j))) c
  | x, y, c, Q => (pyD 64 x = true ∧ pyD 64 y = true) ∧ Q (.bl (eqvD x y)) c
@[simp ↓] def neD : D → D → Nat → KD → Prop
  | .int i, .int j, c, Q => Q (.bl (!decide (i = j))) c
  | .bl i, .bl j, c, Q => Q (.bl (!decide (i = j))) c
  | .str i, .str j, c, Q => Q (.bl (!decide (i = j))) c
  | x, y, c, Q => (pyD 64 x = true ∧ pyD 64 y = true) ∧ Q (.bl (!eqvD x y)) c
/-- items -/
@[simp ↓] def ixD : D → D → Nat → KD → Prop
  | .tup l, .int i, c, Q => match atI l i with | some d => Q d c | none => False
  | .lst l, .int i, c, Q => match atI l i with | some d => Q d c | none => False
  | .scr l, .int i, c, Q => match atI l i with | some d => Q (.int d) c | none => False
  | _, _, _, _ => False
/-- slices -/
def optI : Option D → Option (Option Int)
  | none => some none
  | some (.int i) => some (some i)
  | _ => none
def cutD (l : List D) (lo hi : Option Int) : List D := (l.drop (HT.sIx l.length 0 lo)).take (HT.sIx l.length l.length hi - HT.sIx l.length 0 lo)
@[simp ↓] def slD (x : D) (lo hi : Option Int) : Option D := match x with
  | .tup l => some (.tup (cutD l lo hi))
  | .lst l => some (.lst (cutD l lo hi))
  | .scr l => some (.lst (cutD (l.map .int) lo hi))
  | _ => none
abbrev FO := Rho → Nat → (Option Int → Nat → Prop) → Prop
@[simp ↓] def oNone : FO := fun _ c Q => Q none c
@[simp ↓] def oSome (fe : FE) : FO := fun ρ c Q => fe ρ c fun x c => match x with | .int i => Q (some i) c | _ => False
@[simp ↓] def eSl (fe : FE) (lo hi : FO) : FE := fun ρ c Q => fe ρ c fun x c => lo ρ c fun a c => hi ρ c fun b c => match slD x a b with | some d => Q d c | none => False

/-! ### built-ins -/
@[simp ↓] def lenM : FM := fun l c Q => match l with
  | [.tup m] => Q (.int m.length) c
  | [.lst m] => Q (.int m.length) c
  | [.scr m] => Q (.int m.length) c
  | _ => False
@[simp ↓] def absM : FM := fun l c Q => match l with
  | [.int i] => Q (.int (if i < 0 then -i else i)) c
  | _ => False
@[simp ↓] def intM : FM := fun l c Q => match l with
  | [.int i] => Q (.int i) c
  | [.bl b] => Q (.int (if b then 1 else 0)) c
  | _ => False
@[simp ↓] def max2M : FM := fun l c Q => match l with
  | [.int i, .int j] => Q (.int (if j > i then j else i)) c
  | _ => False
@[simp ↓] def min2M : FM := fun l c Q => match l with
  | [.int i, .int j] => Q (.int (if j < i then j else i)) c
  | _ => False
@[simp ↓] def tupleM : FM := fun l c Q => match l with
  | [.lst m] => Q (.tup m) c
  | [.tup m] => Q (.tup m) c
  | _ => False
@[simp ↓] def listM : FM := fun l c Q => match l with
  | [.lst m] => Q (.lst m) c
  | [.tup m] => Q (.lst m) c
  | _ => False
def blsOf : List D → Option (List Bool)
  | [] => some []
  | .bl b :: l => (blsOf l).map (b :: ·)
  | _ => none
def intsOf : List D → Option (List Int)
  | [] => some []
  | .int b :: l => (intsOf l).map (b :: ·)
  | _ => none
@[simp ↓] def allM : FM := fun l c Q => match l with
  | [.lst m] => (match blsOf m with | some bs => Q (.bl (bs.all id)) c | none => False)
  | _ => False
@[simp ↓] def anyM : FM := fun l c Q => match l with
  | [.lst m] => (match blsOf m with | some bs => Q (.bl (bs.any id)) c | none => False)
  | _ => False
@[simp ↓] def sumM : FM := fun l c Q => match l with
  | [.lst m] => (match intsOf m with | some ns => Q (.int ns.sum) c | none => False)
  | _ => False
/-- isinstance(x, T) -/
def tyName : D → Option String
  | .non => some "NoneType" | .bl _ => some "bool" | .int _ => some "int" | .str _ => some "str" | .tup _ => some "tuple" | .lst _ => some "list" | .dic _ => some "dict" | .dct (.k _) _ => some "dict" | _ => none
@[simp ↓] def isiD (x : D) (t : String) : Bool := match x, t with
  | .bl _, "bool" => true | .bl _, "int" => true | .int _, "int" => true | .str _, "str" => true | .tup _, "tuple" => true | .lst _, "list" => true
  | _, _ => false
@[simp ↓] def isiM : FM := fun l c Q => match l with
  | [x, .ty t] => (tyName x).isSome = true ∧ (t = "int" ∨ t = "bool" ∨ t = "str" ∨ t = "tuple" ∨ t = "list") ∧ Q (.bl (isiD x t)) c
  | _ => False

/-! ### targets -/
@[simp ↓] def gN (i : Nat) : FG := fun d ρ k => k (ρ.set i (.val d))
@[simp ↓] def gsNil : FGs := fun l ρ k => match l with | [] => k ρ | _ => False
@[simp ↓] def gsCons (g : FG) (gs : FGs) : FGs := fun l ρ k => match l with | d :: r => g d ρ fun ρ => gs r ρ k | [] => False
@[simp ↓] def gT (n : Nat) (gs : FGs) : FG := fun d ρ k => match d with | .tup l => l.length = n ∧ gs l ρ k | _ => False
/-- a list taken apart -/
@[simp ↓] def gLs (n : Nat) (gs : FGs) : FG := fun d ρ k => match d with | .lst l => l.length = n ∧ gs l ρ k | _ => False

/-! ### what is walked -/
abbrev FI := Rho → Nat → (List D → Nat → Prop) → Prop
@[simp ↓] def iSeq (fe : FE) : FI := fun ρ c Q => fe ρ c fun x c => match x with
  | .lst l => Q l c
  | .tup l => Q l c
  | _ => False
def rangeL (lo : Int) (n : Nat) : List D := (List.range n).map fun k => .int (lo + (k : Nat))
@[simp ↓] def iR1 (fa : FA) : FI := fun ρ c Q => fa ρ c fun l c => match l with
  | [.int j] => (-(2 ^ 62) ≤ j ∧ j ≤ 16777216) ∧ Q (rangeL 0 j.toNat) c
  | _ => False
@[simp ↓] def iR2 (fa : FA) : FI := fun ρ c Q => fa ρ c fun l c => match l with
  | [.int i, .int j] => (-(2 ^ 61) ≤ i ∧ i < 2 ^ 61 ∧ -(2 ^ 61) ≤ j ∧ j < 2 ^ 61 ∧ j - i ≤ 16777216) ∧ Q (rangeL i (j - i).toNat) c
  | _ => False

/-! ### comprehensions -/
@[simp ↓] def wipeD (ρ : Rho) : List Nat → Rho
  | [] => ρ
  | v :: vs => (wipeD ρ vs).set v none
@[simp ↓] def upS : Option D → SV
  | some d => .val d
  | none => .no
@[simp ↓] def compL (g : FG) (t : FT) (fe : FE) (ρ : Rho) : List D → Nat → (List D → Nat → Prop) → Prop
  | [], c, Q => Q [] c
  | d :: l, c, Q => g d (ρ.map upS) fun ρ' => t (ρ'.map vA) c fun b c =>
      if b = true then fe (ρ'.map vA) c fun y c => compL g t fe ρ l c fun ys c => Q (y :: ys) c
      else compL g t fe ρ l c Q
@[simp ↓] def tYes3 : FT := fun _ c Q => Q true c
@[simp ↓] def eComp (fi : FI) (g : FG) (t : FT) (fe : FE) (vs : List Nat) : FE := fun ρ c Q => fi ρ c fun l c => compL g t fe (wipeD ρ vs) l c fun ys c => Q (.lst ys) c

/-! ### statements -/
@[simp ↓] def sNil : FS := fun E ρ c => E.nx ρ c
@[simp ↓] def sSeq (a b : FS) : FS := fun E ρ c => a { E with nx := fun ρ c => b E ρ c } ρ c
@[simp ↓] def sBreak : FS := fun E ρ c => E.bk ρ c
@[simp ↓] def sCont : FS := fun E ρ c => E.ct ρ c
@[simp ↓] def sNever : FS := fun _ _ _ => False
/-- target = e; e reads values alone -/
@[simp ↓] def sAsg (g : FG) (fe : FE) : FS := fun E ρ c => fe (ρ.map vA) c fun d c => g d ρ fun ρ => E.nx ρ c
/-! data with no list in it -/
mutual
def noLst : D → Bool
  | .lst _ => false
  | .tup l => noLstL l
  | .pot => false
  | .scr _ => false
  | .lam .. => false
  | .exc _ d => noLst d
  | .dic _ => false
  | .dct _ _ => false
  | _ => true
def noLstL : List D → Bool
  | [] => true
  | d :: l => noLst d && noLstL l
end
/-- .. e reads own lists too, its value has no list -/
@[simp ↓] def sAsgB (g : FG) (fe : FE) : FS := fun E ρ c => fe (ρ.map vB) c fun d c => noLst d = true ∧ g d ρ fun ρ => E.nx ρ c
/-- x = a new list -/
@[simp ↓] def sOwn (i : Nat) (fe : FE) : FS := fun E ρ c => fe (ρ.map vA) c fun d c => match d with | .lst l => E.nx (ρ.set i (.own l)) c | _ => False
@[simp ↓] def sOwnB (i : Nat) (fe : FE) : FS := fun E ρ c => fe (ρ.map vB) c fun d c => match d with | .lst l => noLstL l = true ∧ E.nx (ρ.set i (.own l)) c | _ => False
/-- a list of its own is given away -/
@[simp ↓] def frz3 (i : Nat) (ρ : Env3) : Env3 := match ρ[i]? with | some (.own l) => ρ.set i (.val (.lst l)) | _ => ρ
@[simp ↓] def sFrz (i : Nat) (s : FS) : FS := fun E ρ c => s E (frz3 i ρ) c
@[simp ↓] def sAug (i : Nat) (g : D → D → Nat → KD → Prop) (fe : FE) : FS := fun E ρ c => match ρ[i]? with
  | some (.val x) => fe (ρ.map vB) c fun y c => noLst y = true ∧ g x y c fun z c => True ∧ E.nx (ρ.set i (.val z)) c
  | _ => False
@[simp ↓] def sExpr (fe : FE) : FS := fun E ρ c => fe (ρ.map vB) c fun _ c => E.nx ρ c
@[simp ↓] def sRet (fe : FE) : FS := fun E ρ c => fe (ρ.map vB) c E.rt
@[simp ↓] def sRetN : FS := fun E _ c => E.rt .non c
@[simp ↓] def sIf (t : FT) (a b : FS) : FS := fun E ρ c => t (ρ.map vB) c fun k c => if k = true then a E ρ c else b E ρ c
/-- x.append(e) -/
@[simp ↓] def sApp (i : Nat) (fe : FE) : FS := fun E ρ c => match ρ[i]? with
  | some (.own l) => fe (ρ.map vA) c fun d c => l.length < 16777216 ∧ E.nx (ρ.set i (.own (l ++ [d]))) c
  | _ => False
@[simp ↓] def sAppB (i : Nat) (fe : FE) : FS := fun E ρ c => match ρ[i]? with
  | some (.own l) => fe (ρ.map vB) c fun d c => noLst d = true ∧ l.length < 16777216 ∧ E.nx (ρ.set i (.own (l ++ [d]))) c
  | _ => False
@[simp ↓] def forL (g : FG) (b : FS) (E : End3) : List D → Env3 → Nat → Prop
  | [], ρ, c => E.nx ρ c
  | d :: l, ρ, c => g d ρ fun ρ => b { E with nx := fun ρ c => forL g b E l ρ c, ct := fun ρ c => forL g b E l ρ c, bk := E.nx } ρ c
@[simp ↓] def sFor (fi : FI) (g : FG) (b : FS) : FS := fun E ρ c => fi (ρ.map vA) c fun l c => forL g b E l ρ c
def whileN (t : FT) (b : FS) (E : End3) : Nat → Env3 → Nat → Prop
  | 0, _, _ => False
  | n + 1, ρ, c => t (ρ.map vB) c fun k c => if k = true then b { E with nx := whileN t b E n, ct := whileN t b E n, bk := E.nx } ρ c else E.nx ρ c
def sWhile (t : FT) (b : FS) : FS := fun E ρ c => ∃ n, whileN t b E n ρ c
/-- a body's start -/
@[simp ↓] def start3 (n : Nat) (ds : List D) : Env3 := ds.map .val ++ List.replicate (n - ds.length) .no
/-- the whole of a def -/
@[simp ↓] def runM (n : Nat) (g : FS) (ds : List D) (c : Nat) (Q : KD) : Prop := g { nx := fun _ c => Q .non c, rt := Q } (start3 n ds) c
end L3

/-! L3, room and promises: as the hand layer's own, but that no repr is under way. -/
namespace L3
open PySem PySem.Spec PyProof.Rows L2
structure Room (k : Nat) (A : Around) : Prop where
  r2 : L2.Room k A
  gd : A.guards = some []
section
variable {j k : Nat} {A : Around}
theorem Room.hd (r : Room k A) : A.handled = none := r.r2.hd
theorem Room.mono (r : Room k A) (h : j ≤ k) : Room j A := ⟨r.r2.mono h, r.gd⟩
theorem Room.deeper (r : Room (k + 1) A) (env : Env) : Room k (A.deeper env) := ⟨r.r2.deeper env, r.gd⟩
theorem Room.depth (r : Room k A) : A.depth < recursionLimit := r.r2.depth
theorem Room.units (r : Room k A) : A.units + 64 < cLine := r.r2.units
theorem Room.units0 (r : Room k A) : A.units < cLine := r.r2.units0
theorem Room.un (r : Room k A) : A.units + 16 * k + 200 < cLine := r.r2.un
end
/-- a def keeps the promise sp -/
structure FnOk (P : Program) (w : World) (K : PySem.W.Frag) (mg : Str → Option Value) (base : Heap) (CX : CXT) (k : Nat) (f : Addr) (fd : FuncData) (ps : List Str) (sp : Sp) : Prop where
  len : ∀ vs H Q E, sp vs H Q E → vs.length = ps.length
  run : ∀ (A : Around) (outer : List Env) (s : Shared) (H : Hp) (args : Args) (us : List Value) (vs : List V) (Q : VK) (E : XK), Room k A → Env0 P w K mg base A outer s H → BindsTo s fd args (ps.zip us) → Vals vs us → sp vs H Q E →
    codeAny (model P w) A (.call (.ref f) args) (CR CX outer P w H s Q E) s
section
variable {P : Program} {w : World} {K : PySem.W.Frag} {mg : Str → Option Value} {base : Heap} {CX : CXT} {j k : Nat} {f : Addr} {fd : FuncData} {ps : List Str} {sp sp' : Sp}
theorem FnOk.mono (F : FnOk P w K mg base CX j f fd ps sp) (h : j ≤ k) : FnOk P w K mg base CX k f fd ps sp := ⟨F.len, fun A outer s H args us vs Q E hr => F.run A outer s H args us vs Q E (hr.mono h)⟩
theorem FnOk.imp (F : FnOk P w K mg base CX k f fd ps sp) (h : ∀ vs H Q E, sp' vs H Q E → sp vs H Q E) : FnOk P w K mg base CX k f fd ps sp' :=
  ⟨fun vs H Q E q => F.len vs H Q E (h _ _ _ _ q), fun A outer s H args us vs Q E hr e0 hb r q => F.run A outer s H args us vs Q E hr e0 hb r (h _ _ _ _ q)⟩
theorem FnOk.of2 (F : L2.FnOk P w K mg base CX k f fd ps sp) : FnOk P w K mg base CX k f fd ps sp := ⟨F.len, fun A outer s H args us vs Q E hr => F.run A outer s H args us vs Q E hr.r2⟩
/-- a def by its body -/
theorem fn_of {qual name : Str} {params : Arguments} {body : List Stmt} {scope : Scope} {dV kV doc pm cdv ct oc : Value} {an od : Option Addr} {osl : Array (Option Value)} {N : List Str}
    (lk : K.lookup f = some ⟨oc, od, .func (PySem.W.fnOf name qual params body scope dV kV doc pm an cdv ct), osl⟩) (hcd : PySem.W.codeIn K cdv qual = true) (S : FnScope N ps scope) (len : ∀ vs H Q E, sp vs H Q E → vs.length = ps.length)
    (hbody : ∀ (A : Around) (outer : List Env) (s : Shared) (H : Hp) (vs : List V) (Q : VK) (E : XK), Room k (A.deeper (envOfC qual scope s.heap.objs.size f cdv)) → sp vs H Q E → ∃ t, PSs (cxOf CX P w K mg base N qual scope f cdv A outer s H E) body t ∧ t { nx := fun _ H' => Q .non H', rt := Q } (L2.start N vs) H) :
    FnOk P w K mg base CX (k + 1) f (PySem.W.fnOf name qual params body scope dV kV doc pm an cdv ct) ps sp :=
  ⟨len, fun A outer s H args us vs Q E hr e0 hb r hsp => LamX.run_ofS lk hcd S hr.r2 e0 hb r (len _ _ _ _ hsp) fun _ => hbody A outer s H vs Q E (hr.deeper _) hsp⟩
theorem Fun.ok3 {x qual : Str} {st : Stmt} {N : List Str} (F : Fun K x qual st f fd) (S : FnScope N ps (defScope st)) (len : ∀ vs H Q E, sp vs H Q E → vs.length = ps.length)
    (hbody : ∀ (cdv : Value) (A : Around) (outer : List Env) (s : Shared) (H : Hp) (vs : List V) (Q : VK) (E : XK), fd.code = cdv → Room k (A.deeper (envOfC qual (defScope st) s.heap.objs.size f cdv)) → sp vs H Q E →
      ∃ t, PSs (cxOf CX P w K mg base N qual (defScope st) f cdv A outer s H E) (defBody st) t ∧ t { nx := fun _ H' => Q .non H', rt := Q } (L2.start N vs) H) : FnOk P w K mg base CX (k + 1) f fd ps sp := by
  obtain ⟨oc, od, kV, doc, pm, an, cdv, ct, osl, rfl, lk, hcd⟩ := F.ex
  exact fn_of lk hcd S len fun A outer s H vs Q E hr hsp => hbody cdv A outer s H vs Q E rfl hr hsp
end
section
variable {X : Cx} {CX : CXT} {k : Nat} {f : Addr} {fd : FuncData} {ps ks : List Str} {ds : List Value} {dvs : List V} {sp : Sp} {E : XK} {x : Str} {p pos : Pos} {e : Expr} {es : List Expr} {kws : List Keyword} {t tk : TA}
theorem ran {pins : List (Addr × Obj)} {σ : L2.St} {H : Hp} {s : Shared} {Q : VK} {args : Args} {us : List Value} {vs : List V} (F : FnOk X.prog X.w X.K X.mg X.base CX k f fd ps sp) (hr : Room k X.A) (hx : Passes CX X E) (I : Inv X pins σ H s) (hb : BindsTo s fd args (ps.zip us)) (r : Vals vs us) (h : sp vs H Q E) :
    codeAny (model X.prog X.w) X.A (.call (.ref f) args) (fun r s' => match r with | .ok (.ret u) => EP X pins σ Q u s' | .ok _ => False | .error e => X.xe e s') s :=
  codeAny_mono (F.run X.A X.stack s H args us vs Q E hr I.env0 hb r h) fun r s' hq => by
    cases r with
    | error e => exact hx pins σ H s e s' I hq
    | ok fl =>
      cases fl with
      | ret u => exact I.after hq
      | next => exact False.elim hq
      | brk => exact False.elim hq
      | cont => exact False.elim hq
theorem of_ran {pins : List (Addr × Obj)} {σ : L2.St} {s : Shared} {Q : VK} {args : Args} (h : codeAny (model X.prog X.w) X.A (.call (.ref f) args) (fun r s' => match r with | .ok (.ret u) => EP X pins σ Q u s' | .ok _ => False | .error e => X.xe e s') s) :
    wpAny (model X.prog X.w) X.A (call (.ref f) args.pos args.kw) (EP X pins σ Q) X.xe s := by
  obtain ⟨us, kw⟩ := args
  refine wpAny_call (codeAny_mono h fun r s' hq => ?_)
  cases r with
  | error e => exact hq
  | ok fl => cases fl <;> exact hq
theorem pe_call (F : FnOk X.prog X.w X.K X.mg X.base CX k f fd ps sp) (hr : Room k X.A) (hg : Gl X x) (hm : X.mg x = some (.ref f)) (hk : PySem.W.keepIn X.K (.ref f) = true) (hb : Binds X.K fd ps ds) (hd : Vals dvs ds) (hx : Passes CX X E)
    (ha : PA X (e :: es) t) (hdb : (x == ("__debug__" : Str)) = false := by decide) (he : starEach (e :: es) X.env = (false, eval e X.env) :: starEach es X.env := by rfl) (hpl : (backTo pos (starEach es X.env)).any (·.1) = false := by rfl) :
    PE X (.Call (.Name x p) (e :: es) [] pos) (tCall sp dvs E t) := by
  refine ⟨fun pins s σ H Q I h => wpAny_Call_Name_kw (ld_glob I hg hm ?_ hdb)⟩
  refine PySem.W.callWith_K (h₀ := X.base) I.ok.mod.kin hk (thn (ha.run pos pins s σ H _ I h) fun us s1 ⟨vs, H1, I1, r, q⟩ => ⟨I1.kIn, ?_⟩) he hpl
  have r2 : Vals (vs ++ dvs) (us ++ ds) := r.append hd
  exact of_ran (args := ⟨us, []⟩) (ran F hr hx I1 (hb s1 us I1.kIn (by rw [← r2.length]; exact F.len _ _ _ _ q)) r2 q)
theorem pe_call0 (F : FnOk X.prog X.w X.K X.mg X.base CX k f fd ps sp) (hr : Room k X.A) (hg : Gl X x) (hm : X.mg x = some (.ref f)) (hk : PySem.W.keepIn X.K (.ref f) = true) (hb : Binds X.K fd ps ds) (hd : Vals dvs ds) (hx : Passes CX X E)
    (hdb : (x == ("__debug__" : Str)) = false := by decide) : PE X (.Call (.Name x p) [] [] pos) (tCall sp dvs E tNil) := by
  refine ⟨fun pins s σ H Q I h => wpAny_Call_Name_kw (ld_glob I hg hm ?_ hdb)⟩
  exact PySem.W.callWith_K0 I.kIn hk (of_ran (args := ⟨[], []⟩) (ran F hr hx I (hb s [] I.kIn (by rw [List.nil_append, ← hd.length]; exact F.len _ _ _ _ h)) hd h))
end
end L3

/-! L3, the rules: what the pure readings say of the machine. -/
namespace L3
open PySem PySem.Spec PyProof.Rows L2

/-- ** of greater bases, too -/
def CPow3 (i j : Int) : Prop := 0 ≤ j ∧ ((j ≤ 1000000 ∧ i.natAbs < 2 ^ 64) ∨ (j ≤ 1000 ∧ i.natAbs < 2 ^ 256))
theorem op_pow3 {X : Cx} : OpR X (binaryOp .Pow) (rI CPow3 fun i j => .int (i ^ j.toNat)) := opI fun i j _ _ _ _ _ hc q => by
  obtain ⟨h0, ⟨h1, h2⟩ | ⟨h1, h2⟩⟩ := hc
  · exact pow_int_small h0 h1 h2 q
  · refine PyProof.Rows.pow_int h0 ?_ q
    have hl := PySem.Flt.log2_lt_of (by decide : 0 < 256) h2
    clear h2
    have hb : Builtin.Int.intBits i ≤ 256 := by
      unfold Builtin.Int.intBits
      split
      · exact Nat.zero_le _
      · exact hl
    obtain ⟨n, rfl⟩ := Int.eq_ofNat_of_zero_le h0
    have h1 : n ≤ 1000 := by exact Int.ofNat_le.mp h1
    have h3 : Builtin.Int.intBits i * n ≤ 256000 := Nat.mul_le_mul hb h1
    have h4 : ((Builtin.Int.intBits i * n : Nat) : Int) ≤ ((256000 : Nat) : Int) := Int.ofNat_le.mpr h3
    rw [Int.natCast_mul] at h4
    exact Int.le_trans h4 (by decide)
/-- at a: an error of the class at C, its dict at dd -/
def ExcO (a C dd : Addr) : HO := .ext fun h => ∃ (oe : Obj) (vs : Array Value), h.get? a = some oe ∧ oe.cls = .ref C ∧ oe.dict = some dd ∧ oe.data = .fields vs
/-- at a: the function object o -/
def FunO (a : Addr) (o : Obj) : HO := .ext fun h => h.get? a = some o
theorem excO_lst {a C dd : Addr} {ys : List V} : ExcO a C dd ≠ .lst ys := fun z => by unfold ExcO at z; cases z
/-- a dict's object, by its keys and its values -/
def DicO : Ks → List V → HO → Prop
  | .k ks, vs, o => ∃ kvs : List (Key × V), o = .dK kvs ∧ kvs.map (·.1) = ks ∧ kvs.map (·.2) = vs
  | .t ks, vs, o => ∃ kvs : List (List Key × V), o = .dT kvs ∧ kvs.map (·.1) = ks ∧ kvs.map (·.2) = vs
theorem DicO.kind {ks : Ks} {vs : List V} {o : HO} (h : DicO ks vs o) : (∃ kvs, o = .dK kvs) ∨ ∃ kvs, o = .dT kvs := by
  cases ks with
  | k ks => obtain ⟨kvs, h, _⟩ := h; exact .inl ⟨kvs, h⟩
  | t ks => obtain ⟨kvs, h, _⟩ := h; exact .inr ⟨kvs, h⟩
theorem DicO.no {ks : Ks} {vs : List V} {o : HO} (h : DicO ks vs o) {C : Prop} (h1 : ∀ kvs, o = .dK kvs → C) (h2 : ∀ kvs, o = .dT kvs → C) : C := by
  rcases h.kind with ⟨kvs, h⟩ | ⟨kvs, h⟩
  · exact h1 kvs h
  · exact h2 kvs h
theorem excO_dK {a C dd : Addr} {ks : Ks} {vs : List V} : ¬ DicO ks vs (ExcO a C dd) := fun z => z.no (fun _ z => by unfold ExcO at z; cases z) (fun _ z => by unfold ExcO at z; cases z)
theorem funO_dK {a : Addr} {o : Obj} {ks : Ks} {vs : List V} : ¬ DicO ks vs (FunO a o) := fun z => z.no (fun _ z => by unfold FunO at z; cases z) (fun _ z => by unfold FunO at z; cases z)
theorem funO_lst {a : Addr} {o : Obj} {ys : List V} : FunO a o ≠ .lst ys := fun z => by unfold FunO at z; cases z
def dicK (kvs : List (Str × Int)) : List (Key × V) := kvs.map fun q => (Sum.inr q.1, V.int q.2)
/-- a function's code object, its qualified name -/
def codeOf (o : Obj) : Option (Addr × Str) := match o.data with
  | .func fd => match fd.code with
    | .ref c => some (c, fd.qualname)
    | _ => none
  | _ => none
theorem codeO_lst {c : Addr} {q : Str} {ys : List V} : LamX.CodeO c q ≠ .lst ys := fun z => by unfold LamX.CodeO at z; cases z
theorem codeO_dK {c : Addr} {q : Str} {ks : Ks} {vs : List V} : ¬ DicO ks vs (LamX.CodeO c q) := fun z => z.no (fun _ z => by unfold LamX.CodeO at z; cases z) (fun _ z => by unfold LamX.CodeO at z; cases z)
mutual
def Rep (K : PySem.W.Frag) (p : Pn) (F : Hp) : D → V → Prop
  | .non, v => v = .non
  | .bl b, v => v = .bl b
  | .int i, v => v = .int i
  | .str x, v => v = .str x
  | .ty n, v => v = .ty n
  | .rf a, v => v = .ref a
  | .lam a F0 p0, v => v = .ref a ∧ (∀ b o, F0 b = some o → F b = some o) ∧ p.pot = p0.pot ∧ ∀ x ∈ p0.cod, x ∈ p.cod
  | .exc n d, v => ∃ a dd w, v = .ref a ∧ F a = some (ExcO a (He.ga K n) dd) ∧ F dd = some (.xd [("value", w)]) ∧ Rep K p F d w
  | .clo a o, v => v = .ref a ∧ F a = some (FunO a o) ∧ ∃ c q, codeOf o = some (c, q) ∧ F c = some (LamX.CodeO c q)
  | .dic kvs, v => ∃ a, v = .ref a ∧ F a = some (.dK (dicK kvs))
  | .pot, v => ∃ a, p.pot = some a ∧ v = .ref a
  | .scr ns, v => ∃ a, v = .ref a ∧ SqL K F a (ns.map V.int)
  | .tup l, v => ∃ a xs, v = .ref a ∧ SqT K F a xs ∧ RepL K p F l xs
  | .lst l, v => ∃ a xs, v = .ref a ∧ F a = some (.lst xs) ∧ RepL K p F l xs
  | .dct ks l, v => ∃ (a : Addr) (o : HO) (vs : List V), v = .ref a ∧ F a = some o ∧ DicO ks vs o ∧ RepL K p F l vs
def RepL (K : PySem.W.Frag) (p : Pn) (F : Hp) : List D → List V → Prop
  | [], xs => xs = []
  | d :: l, xs => ∃ x r, xs = x :: r ∧ Rep K p F d x ∧ RepL K p F l r
end
theorem RepL.len {K : PySem.W.Frag} {p : Pn} {F : Hp} : ∀ {l : List D} {xs : List V}, RepL K p F l xs → xs.length = l.length
  | [], _, h => by cases h; rfl
  | d :: l, _, h => by
    obtain ⟨x, r, rfl, _, h⟩ := h
    rw [List.length_cons, List.length_cons, RepL.len h]
theorem Sub.sqL {K : PySem.W.Frag} {F F' : Hp} {a : Addr} {xs : List V} (e : ∀ b o, F b = some o → F' b = some o) (h : SqL K F a xs) : SqL K F' a xs := by
  rcases h with (h | ⟨o, h⟩) | h
  · exact .inl (.inl (e _ _ h))
  · exact .inl (.inr ⟨o, e _ _ h⟩)
  · exact .inr h
theorem Sub.sqT {K : PySem.W.Frag} {F F' : Hp} {a : Addr} {xs : List V} (e : ∀ b o, F b = some o → F' b = some o) (h : SqT K F a xs) : SqT K F' a xs := by
  rcases h with (h | ⟨o, h⟩) | h
  · exact .inl (.inl (e _ _ h))
  · exact .inl (.inr ⟨o, e _ _ h⟩)
  · exact .inr h
mutual
theorem Rep.mono {K : PySem.W.Frag} {p : Pn} {F F' : Hp} (e : ∀ b o, F b = some o → F' b = some o) : ∀ {d : D} {v : V}, Rep K p F d v → Rep K p F' d v
  | .non, _, h => h
  | .bl _, _, h => h
  | .int _, _, h => h
  | .str _, _, h => h
  | .ty _, _, h => h
  | .rf _, _, h => h
  | .lam .., _, h => ⟨h.1, fun b o q => e b o (h.2.1 b o q), h.2.2⟩
  | .exc n d, _, h => by
    obtain ⟨a, dd, w, rfl, h1, h2, h3⟩ := h
    exact ⟨a, dd, w, rfl, e _ _ h1, e _ _ h2, Rep.mono e h3⟩
  | .clo a o, _, h => by
    obtain ⟨h1, h2, c, q, h3, h4⟩ := h
    exact ⟨h1, e _ _ h2, c, q, h3, e _ _ h4⟩
  | .dic kvs, _, h => by
    obtain ⟨a, rfl, h1⟩ := h
    exact ⟨a, rfl, e _ _ h1⟩
  | .pot, _, h => h
  | .scr _, _, h => by
    obtain ⟨a, rfl, h1⟩ := h
    exact ⟨a, rfl, Sub.sqL e h1⟩
  | .tup l, _, h => by
    obtain ⟨a, xs, rfl, h1, h2⟩ := h
    exact ⟨a, xs, rfl, Sub.sqT e h1, RepL.mono e h2⟩
  | .lst l, _, h => by
    obtain ⟨a, xs, rfl, h1, h2⟩ := h
    exact ⟨a, xs, rfl, e _ _ h1, RepL.mono e h2⟩
  | .dct ks l, _, h => by
    obtain ⟨a, o, vs, rfl, h1, h2, h3⟩ := h
    exact ⟨a, o, vs, rfl, e _ _ h1, h2, RepL.mono e h3⟩
theorem RepL.mono {K : PySem.W.Frag} {p : Pn} {F F' : Hp} (e : ∀ b o, F b = some o → F' b = some o) : ∀ {l : List D} {xs : List V}, RepL K p F l xs → RepL K p F' l xs
  | [], _, h => h
  | d :: l, _, h => by
    obtain ⟨x, r, rfl, h1, h2⟩ := h
    exact ⟨x, r, rfl, Rep.mono e h1, RepL.mono e h2⟩
end
mutual
/-- data without lists leans on tuples alone -/
theorem Rep.tups {K : PySem.W.Frag} {p : Pn} {F F' : Hp} (e : ∀ a xs, SqT K F a xs → SqT K F' a xs) (en : ∀ a o, (∀ ys, o ≠ HO.lst ys) → (∀ ks vs, ¬ DicO ks vs o) → F a = some o → F' a = some o) : ∀ {d : D} {v : V}, noLst d = true → Rep K p F d v → Rep K p F' d v
  | .non, _, _, h => h
  | .bl _, _, _, h => h
  | .int _, _, _, h => h
  | .str _, _, _, h => h
  | .ty _, _, _, h => h
  | .rf _, _, _, h => h
  | .lam .., _, n, h => by simp [noLst] at n
  | .exc n d, _, nl, h => by
    obtain ⟨a, dd, w, rfl, h1, h2, h3⟩ := h
    exact ⟨a, dd, w, rfl, en _ _ (fun _ => excO_lst) (fun _ _ => excO_dK) h1, en _ _ (fun _ z => nomatch z) (fun _ _ z => z.no (fun _ z => nomatch z) (fun _ z => nomatch z)) h2, Rep.tups e en (by simpa [noLst] using nl) h3⟩
  | .clo a o, _, n, h => by
    obtain ⟨h1, h2, c, q, h3, h4⟩ := h
    exact ⟨h1, en _ _ (fun _ => funO_lst) (fun _ _ => funO_dK) h2, c, q, h3, en _ _ (fun _ => codeO_lst) (fun _ _ => codeO_dK) h4⟩
  | .dic kvs, _, n, h => by simp [noLst] at n
  | .pot, _, n, h => by simp [noLst] at n
  | .scr _, _, n, h => by simp [noLst] at n
  | .tup l, _, n, h => by
    obtain ⟨a, xs, rfl, h1, h2⟩ := h
    exact ⟨a, xs, rfl, e _ _ h1, RepL.tups e en (by simpa [noLst] using n) h2⟩
  | .lst l, _, n, h => by simp [noLst] at n
  | .dct _ _, _, n, h => by simp [noLst] at n
theorem RepL.tups {K : PySem.W.Frag} {p : Pn} {F F' : Hp} (e : ∀ a xs, SqT K F a xs → SqT K F' a xs) (en : ∀ a o, (∀ ys, o ≠ HO.lst ys) → (∀ ks vs, ¬ DicO ks vs o) → F a = some o → F' a = some o) : ∀ {l : List D} {xs : List V}, noLstL l = true → RepL K p F l xs → RepL K p F' l xs
  | [], _, _, h => h
  | d :: l, _, n, h => by
    obtain ⟨x, r, rfl, h1, h2⟩ := h
    have n' : noLst d = true ∧ noLstL l = true := by simpa [noLstL] using n
    exact ⟨x, r, rfl, Rep.tups e en n'.1 h1, RepL.tups e en n'.2 h2⟩
end
theorem RepL.app {K : PySem.W.Frag} {p : Pn} {F : Hp} : ∀ {l m : List D} {xs ys : List V}, RepL K p F l xs → RepL K p F m ys → RepL K p F (l ++ m) (xs ++ ys)
  | [], _, _, _, h, h2 => by cases h; exact h2
  | d :: l, _, _, _, h, h2 => by
    obtain ⟨x, r, rfl, h1, h⟩ := h
    exact ⟨x, _, rfl, h1, RepL.app h h2⟩
theorem RepL.get {K : PySem.W.Frag} {p : Pn} {F : Hp} : ∀ {l : List D} {xs : List V} {i : Nat} {d : D}, RepL K p F l xs → l[i]? = some d → ∃ v, xs[i]? = some v ∧ Rep K p F d v
  | [], _, _, _, _, e => by simp at e
  | d :: l, _, 0, _, h, e => by
    obtain ⟨x, r, rfl, h1, h⟩ := h
    simp at e
    subst e
    exact ⟨x, rfl, h1⟩
  | d :: l, _, i + 1, _, h, e => by
    obtain ⟨x, r, rfl, h1, h⟩ := h
    simp at e
    obtain ⟨v, e1, e2⟩ := RepL.get h e
    exact ⟨v, by simpa using e1, e2⟩
theorem RepL.back {K : PySem.W.Frag} {p : Pn} {F : Hp} {l : List D} {xs : List V} {i : Nat} {v : V} (h : RepL K p F l xs) (e : xs[i]? = some v) : ∃ d, l[i]? = some d ∧ Rep K p F d v := by
  have hi : i < xs.length := (List.getElem?_eq_some_iff.mp e).1
  rw [h.len] at hi
  obtain ⟨v', e1, e2⟩ := h.get (List.getElem?_eq_getElem hi)
  rw [e] at e1
  cases e1
  exact ⟨_, List.getElem?_eq_getElem hi, e2⟩
theorem RepL.take {K : PySem.W.Frag} {p : Pn} {F : Hp} : ∀ {l : List D} {xs : List V} (n : Nat), RepL K p F l xs → RepL K p F (l.take n) (xs.take n)
  | _, _, 0, _ => rfl
  | [], _, n + 1, h => by cases h; rfl
  | d :: l, _, n + 1, h => by
    obtain ⟨x, r, rfl, h1, h⟩ := h
    exact ⟨x, _, rfl, h1, RepL.take n h⟩
theorem RepL.drop {K : PySem.W.Frag} {p : Pn} {F : Hp} : ∀ {l : List D} {xs : List V} (n : Nat), RepL K p F l xs → RepL K p F (l.drop n) (xs.drop n)
  | _, _, 0, h => h
  | [], _, n + 1, h => by cases h; rfl
  | d :: l, _, n + 1, h => by
    obtain ⟨x, r, rfl, h1, h⟩ := h
    exact RepL.drop n h

/-! ### the heap, frozen and whole -/
def PotAt (H : Hp) (a : Addr) (c : Nat) : Prop := ∃ x y z : Int, H a = some (.lst [.int x, .int y, .int z]) ∧ 0 ≤ x ∧ 0 ≤ y ∧ y < 2 ^ 61 ∧ 0 ≤ z ∧ z ≤ c
structure Tab3 (p : Pn) (H : Hp) : Prop where
  tabs : LamX.Tabs tabs0 H
  cod : ∀ q ∈ p.cod, H q.1 = some (LamX.CodeO q.1 q.2)
theorem Tab3.ext {p : Pn} {H H' : Hp} (t : Tab3 p H) (e : ∀ b o, H b = some o → H' b = some o) : Tab3 p H' := ⟨t.tabs.ext e, fun q hq => e _ _ (t.cod q hq)⟩
/-- F: no tables; the floor stands -/
structure NT (p : Pn) (F : Hp) : Prop where
  t : ∀ b ps, F b ≠ some (HO.tbl ps)
  f : ∀ b o, p.flo b = some o → F b = some o
structure Ok3 (p : Pn) (c : Nat) (F H : Hp) : Prop where
  sub : ∀ b o, F b = some o → H b = some o
  pot : ∀ a, p.pot = some a → PotAt H a c ∧ F a = none
  tab : Tab3 p H
  nt : NT p F
theorem nt_upd {p : Pn} {F : Hp} (n : NT p F) (a : Addr) (xs : List V) (na : F a = none) : NT p (upd F a (.lst xs)) := ⟨fun b ps h => by
  by_cases e : b = a
  · rw [e, upd_same] at h; cases h
  · rw [upd_ne e] at h; exact n.t b ps h, fun b o h => by
  have := n.f b o h
  rw [upd_ne (ne_of_none this na)]; exact this⟩
structure Fwd (p : Pn) (F H F' H' : Hp) : Prop where
  frz : ∀ b o, F b = some o → F' b = some o
  keep : ∀ b o, H b = some o → p.pot ≠ some b → (∀ ps, o ≠ HO.tbl ps) → H' b = some o
  new : ∀ b o, F' b = some o → F b = some o ∨ H b = none ∨ ∃ q, o = LamX.CodeO b q
  there : ∀ b, H' b = none → H b = none
theorem Fwd.refl (p : Pn) (F H : Hp) : Fwd p F H F H := ⟨fun _ _ h => h, fun _ _ h _ _ => h, fun _ _ h => .inl h, fun _ h => h⟩
theorem Fwd.trans {p : Pn} {F H F1 H1 F2 H2 : Hp} (a : Fwd p F H F1 H1) (b : Fwd p F1 H1 F2 H2) : Fwd p F H F2 H2 where
  frz := fun c o h => b.frz c o (a.frz c o h)
  keep := fun c o h n t => b.keep c o (a.keep c o h n t) n t
  new := fun c o h => by
    rcases b.new c o h with h | h
    · exact a.new c o h
    · rcases h with h | h
      · exact .inr (.inl (a.there c h))
      · exact .inr (.inr h)
  there := fun c h => a.there c (b.there c h)
/-- a new frozen object -/
theorem Fwd.laid {p : Pn} {c : Nat} {F H : Hp} (ok : Ok3 p c F H) {q : Addr} (nq : H q = none) (o : HO) (ho : ∀ ps, o ≠ .tbl ps := by exact fun _ z => nomatch z) : Fwd p F H (upd F q o) (upd H q o) ∧ Ok3 p c (upd F q o) (upd H q o) := by
  have nF : F q = none := by
    cases e : F q with
    | none => rfl
    | some u => rw [ok.sub q u e] at nq; cases nq
  refine ⟨⟨fun b u h => ?_, fun b u h _ _ => ?_, fun b u h => ?_, fun b h => ?_⟩, ⟨fun b u h => ?_, fun a e => ?_, ok.tab.ext fun b u h => by rw [upd_ne (ne_of_none h nq)]; exact h, ⟨fun b ps h => ?_, fun b u h => by rw [upd_ne (ne_of_none (ok.nt.f b u h) nF)]; exact ok.nt.f b u h⟩⟩⟩
  · rw [upd_ne (ne_of_none h nF)]; exact h
  · rw [upd_ne (ne_of_none h nq)]; exact h
  · by_cases e : b = q
    · subst e; exact .inr (.inl nq)
    · rw [upd_ne e] at h; exact .inl h
  · by_cases e : b = q
    · subst e; exact nq
    · rw [upd_ne e] at h; exact h
  · by_cases e : b = q
    · subst e; rw [upd_same] at h ⊢; exact h
    · rw [upd_ne e] at h ⊢; exact ok.sub b u h
  · obtain ⟨⟨x, y, z, h, r⟩, n⟩ := ok.pot a e
    have ne : a ≠ q := ne_of_none h nq
    exact ⟨⟨x, y, z, by rw [upd_ne ne]; exact h, r⟩, by rw [upd_ne ne]; exact n⟩
  · by_cases e : b = q
    · subst e; rw [upd_same] at h; exact ho ps (Option.some.inj h)
    · rw [upd_ne e] at h; exact ok.nt.t b ps h

/-- what is told of a value: it is data d -/
def Tell (K : PySem.W.Frag) (p : Pn) (F H : Hp) (Q' : KD) (Q : VK) : Prop := ∀ d c' v F' H', Fwd p F H F' H' → Ok3 p c' F' H' → Rep K p F' d v → Q' d c' → Q v H'
theorem Tell.fwd {K : PySem.W.Frag} {p : Pn} {F H F1 H1 : Hp} {Q' : KD} {Q : VK} (t : Tell K p F H Q' Q) (w : Fwd p F H F1 H1) : Tell K p F1 H1 Q' Q := fun d c' v F' H' fw ok r q => t d c' v F' H' (w.trans fw) ok r q
def TellL (K : PySem.W.Frag) (p : Pn) (F H : Hp) (Q' : List D → Nat → Prop) (Q : List V → Hp → Prop) : Prop := ∀ d c' v F' H', Fwd p F H F' H' → Ok3 p c' F' H' → RepL K p F' d v → Q' d c' → Q v H'
def TellB (p : Pn) (F H : Hp) (Q' : Bool → Nat → Prop) (Q : Bool → Hp → Prop) : Prop := ∀ b c' F' H', Fwd p F H F' H' → Ok3 p c' F' H' → Q' b c' → Q b H'

/-- the state an expression meets -/
structure ESt (K : PySem.W.Frag) (p : Pn) (c : Nat) (ρ : Rho) (σ : L2.St) (F H : Hp) : Prop where
  ok : Ok3 p c F H
  slot : ∀ i d, get3 ρ i = some d → ∃ v, σ[i]? = some (some v) ∧ Rep K p F d v
  len : ρ.length = σ.length
theorem ESt.fwd {K : PySem.W.Frag} {p : Pn} {c c' : Nat} {ρ : Rho} {σ : L2.St} {F H F' H' : Hp} (e : ESt K p c ρ σ F H) (w : Fwd p F H F' H') (ok : Ok3 p c' F' H') : ESt K p c' ρ σ F' H' :=
  ⟨ok, fun i d h => let ⟨v, a, b⟩ := e.slot i d h; ⟨v, a, b.mono w.frz⟩, e.len⟩
def tE (K : PySem.W.Frag) (f : FE) : TE := fun σ H Q => ∃ p c ρ F Q', ESt K p c ρ σ F H ∧ f ρ c Q' ∧ Tell K p F H Q' Q
def tAr (K : PySem.W.Frag) (f : FA) : TA := fun σ H Q => ∃ p c ρ F Q', ESt K p c ρ σ F H ∧ f ρ c Q' ∧ TellL K p F H Q' Q
def tTs (K : PySem.W.Frag) (f : FT) : TT := fun σ H Q => ∃ p c ρ F Q', ESt K p c ρ σ F H ∧ f ρ c Q' ∧ TellB p F H Q' Q
abbrev EX (X : Cx) (e : Expr) (f : FE) : Prop := PE X e (tE X.K f)
abbrev AX (X : Cx) (es : List Expr) (f : FA) : Prop := PA X es (tAr X.K f)
abbrev TX (X : Cx) (e : Expr) (f : FT) : Prop := PT X e (tTs X.K f)
abbrev WX3 (X : Cx) (e : Expr) (f : FT) : Prop := PW X e (tTs X.K f)
theorem PE.imp {X : Cx} {e : Expr} {t t' : TE} (h : PE X e t) (w : ∀ σ H Q, t' σ H Q → t σ H Q) : PE X e t' := ⟨fun pins s σ H Q I q => h.run pins s σ H Q I (w σ H Q q)⟩
theorem PA.imp {X : Cx} {e : List Expr} {t t' : TA} (h : PA X e t) (w : ∀ σ H Q, t' σ H Q → t σ H Q) : PA X e t' := ⟨fun pos pins s σ H Q I q => h.run pos pins s σ H Q I (w σ H Q q)⟩
theorem PT.imp {X : Cx} {e : Expr} {t t' : TT} (h : PT X e t) (w : ∀ σ H Q, t' σ H Q → t σ H Q) : PT X e t' := ⟨fun pins s σ H Q I q => h.run pins s σ H Q I (w σ H Q q)⟩
theorem PW.imp {X : Cx} {e : Expr} {t t' : TT} (h : PW X e t) (w : ∀ σ H Q, t' σ H Q → t σ H Q) : PW X e t' := ⟨fun wh pins s σ H Q I q => h.run wh pins s σ H Q I (w σ H Q q)⟩
theorem PS.imp {X : Cx} {e : Stmt} {t t' : TS} (h : PS X e t) (w : ∀ D σ H, t' D σ H → t D σ H) : PS X e t' := ⟨fun pins s σ H D I q => h.run pins s σ H D I (w D σ H q)⟩
theorem PSs.imp {X : Cx} {e : List Stmt} {t t' : TS} (h : PSs X e t) (w : ∀ D σ H, t' D σ H → t D σ H) : PSs X e t' := ⟨fun pins s σ H D I q => h.run pins s σ H D I (w D σ H q)⟩

/-! ### expressions -/
section
variable {X : Cx} {a b c e : Expr} {es : List Expr} {fa fb fd : FE} {fr : FA} {pos : Pos}
theorem ex_var (i : Nat) {x : Str} {pos : Pos} (hN : X.N[i]? = some x := by rfl) (hv : Vis X.env.scope x := by first | exact Or.inl rfl | exact Or.inr (Or.inl rfl) | exact Or.inr (Or.inr rfl)) (hd : (x == ("__debug__" : Str)) = false := by decide)
    (hcd : (x == ("__classdict__" : Str)) = false := by decide) : EX X (.Name x pos) (eVar i) := PE.imp (pe_var hN hv hd hcd) fun σ H Q ⟨p, c, ρ, F, Q', es, h, t⟩ => by
  unfold eVar at h
  split at h
  · rename_i d e
    obtain ⟨v, e1, r⟩ := es.slot i d e
    exact ⟨v, e1, t d c v F H (.refl ..) es.ok r h⟩
  · exact h.elim
/-- a value that hangs on nothing -/
def FlatR (d : D) (v : V) : Prop := ∀ K p F, Rep K p F d v
theorem ex_C {d : D} {v : V} (h : PE X e (tC v)) (r : FlatR d v) : EX X e (eC d) := PE.imp h fun σ H Q ⟨p, c, ρ, F, Q', es, h, t⟩ => t d c v F H (.refl ..) es.ok (r _ _ _) h
theorem ex_int {i j pos} : EX X (.Constant (.int i) j pos) (eC (.int i)) := ex_C pe_int fun _ _ _ => rfl
theorem ex_bl {i j pos} : EX X (.Constant (.bool i) j pos) (eC (.bl i)) := ex_C pe_bl fun _ _ _ => rfl
theorem ex_non {j pos} : EX X (.Constant .none j pos) (eC .non) := ex_C pe_non fun _ _ _ => rfl
theorem ex_str {x j pos} : EX X (.Constant (.str x) j pos) (eC (.str x)) := ex_C pe_str fun _ _ _ => rfl
theorem ex_gI {x : Str} {i : Int} {t : Tok} (hm : X.mg x = some (.int i t)) (hg : Gl X x := by rfl) (hd : (x == ("__debug__" : Str)) = false := by decide) : EX X (.Name x pos) (eC (.int i)) := ex_C (pe_glob (v := .int i) hg hm ⟨_, rfl⟩ hd) fun _ _ _ => rfl
theorem ex_gS {x y : Str} {t : Tok} (hm : X.mg x = some (.str y t)) (hg : Gl X x := by rfl) (hd : (x == ("__debug__" : Str)) = false := by decide) : EX X (.Name x pos) (eC (.str y)) := ex_C (pe_glob (v := .str y) hg hm ⟨_, rfl⟩ hd) fun _ _ _ => rfl
/-- a built-in class as a value -/
theorem ex_ty {x : Str} {n : String} (hm : X.mg x = none) (hv : bootBuiltins x = some (.type n)) (hg : Gl X x := by rfl) (hn : x ≠ "__name__" := by decide) (hd : (x == ("__debug__" : Str)) = false := by decide) : EX X (.Name x pos) (eC (.ty n)) :=
  ex_C (pe_bltn hg hm hv (v := .ty n) rfl hn hd) fun _ _ _ => rfl
/-- a pure operation on values, as the layer's R2 asks it -/
def OpS (K : PySem.W.Frag) (r : R2) (g : D → D → Nat → KD → Prop) : Prop := ∀ p c F H x y v u Q' Q, Ok3 p c F H → Rep K p F x v → Rep K p F y u → g x y c Q' → Tell K p F H Q' Q → r v u H Q
theorem ex2 {r : R2} {g : D → D → Nat → KD → Prop} (s : OpS X.K r g) (h : PE X e (tOp r (tE X.K fa) (tE X.K fb))) : EX X e (eOp g fa fb) := PE.imp h fun σ H Q ⟨p, c, ρ, F, Q', es, h, t⟩ =>
  ⟨p, c, ρ, F, _, es, h, fun x c1 v F1 H1 w1 ok1 r1 q1 => ⟨p, c1, ρ, F1, _, es.fwd w1 ok1, q1, fun y c2 u F2 H2 w2 ok2 r2 q2 =>
    s p c2 F2 H2 x y v u Q' Q ok2 (r1.mono w2.frz) r2 q2 (t.fwd (w1.trans w2))⟩⟩
theorem ex_op {op : Operator} {r : R2} {g : D → D → Nat → KD → Prop} (ho : OpR X (binaryOp op) r) (s : OpS X.K r g) (ha : EX X a fa) (hb : EX X b fb) : EX X (.BinOp a op b pos) (eOp g fa fb) := ex2 s (pe_op ho ha hb)
theorem ex_cmp {op : CmpOp} {r : R2} {g : D → D → Nat → KD → Prop} (ho : OpR X (compareOp op) r) (s : OpS X.K r g) (ha : EX X a fa) (hb : EX X b fb) (hm : behindInMarks op b = false) : EX X (.Compare a [op] [b] pos) (eOp g fa fb) := ex2 s (pe_cmpR ho ha hb hm)
theorem ex_ch {op op' : CmpOp} {r r' : R2} {g g' : D → D → Nat → KD → Prop} (ho : OpR X (compareOp op) r) (s : OpS X.K r g) (ho' : OpR X (compareOp op') r') (s' : OpS X.K r' g') (ha : EX X a fa) (hb : EX X b fb) (hc : EX X c fd)
    (hm : lastMarks [op, op'] [b, c] = false := by rfl) : EX X (.Compare a [op, op'] [b, c] pos) (eCh g g' fa fb fd) := PE.imp (pe_chain ho ho' ha hb hc hm) fun σ H Q ⟨p, c, ρ, F, Q', es, h, t⟩ =>
  ⟨p, c, ρ, F, _, es, h, fun x c1 v F1 H1 w1 ok1 r1 q1 => ⟨p, c1, ρ, F1, _, es.fwd w1 ok1, q1, fun y c2 u F2 H2 w2 ok2 r2 q2 =>
    s p c2 F2 H2 x y v u _ _ ok2 (r1.mono w2.frz) r2 q2 fun z c3 v3 F3 H3 w3 ok3 r3 q3 => by
      split at q3
      · rename_i k
        cases (show v3 = .bl k from r3)
        refine ⟨k, rfl, ?_⟩
        have w13 := w1.trans (w2.trans w3)
        cases k with
        | true => exact ⟨p, c3, ρ, F3, _, es.fwd w13 ok3, q3, fun w c4 v4 F4 H4 w4 ok4 r4 q4 => s' p c4 F4 H4 y w u v4 _ _ ok4 (r2.mono fun b o h => w4.frz b o (w3.frz b o h)) r4 q4 (t.fwd (w13.trans w4))⟩
        | false => exact t (.bl false) c3 _ F3 H3 w13 ok3 rfl q3
      · exact q3.elim⟩⟩
end

/-! ### operators -/
theorem line16 : sizeLine = 16777216 := sizeLine_eq
section
variable {K : PySem.W.Frag} {X : Cx}
theorem tellNew {p : Pn} {c : Nat} {F H : Hp} {Q' : KD} {Q : VK} {l : List D} {xs : List V} (ok : Ok3 p c F H) (t : Tell K p F H Q' Q) (r : RepL K p F l xs) (h : Q' (.lst l) c) : ∀ q, H q = none → Q (.ref q) (upd H q (.lst xs)) := fun q nq => by
  obtain ⟨w, ok'⟩ := Fwd.laid ok nq (.lst xs)
  exact t (.lst l) c _ _ _ w ok' ⟨q, xs, rfl, upd_same, r.mono w.frz⟩ h
theorem tellNewT {p : Pn} {c : Nat} {F H : Hp} {Q' : KD} {Q : VK} {l : List D} {xs : List V} (ok : Ok3 p c F H) (t : Tell K p F H Q' Q) (r : RepL K p F l xs) (h : Q' (.tup l) c) : ∀ q, H q = none → Q (.ref q) (upd H q (.tup xs)) := fun q nq => by
  obtain ⟨w, ok'⟩ := Fwd.laid ok nq (.tup xs)
  exact t (.tup l) c _ _ _ w ok' ⟨q, xs, rfl, .of upd_same, r.mono w.frz⟩ h
theorem Ok3.sqT {p : Pn} {c : Nat} {F H : Hp} (ok : Ok3 p c F H) {a : Addr} {xs : List V} (h : SqT K F a xs) : SqT K H a xs := Sub.sqT ok.sub h
/-- a value and nothing new -/
theorem tell0 {p : Pn} {c : Nat} {F H : Hp} {Q' : KD} {Q : VK} {d : D} {v : V} (ok : Ok3 p c F H) (t : Tell K p F H Q' Q) (r : Rep K p F d v) (h : Q' d c) : Q v H := t d c v F H (.refl ..) ok r h
theorem tellI {p : Pn} {c : Nat} {F H : Hp} {Q' : KD} {Q : VK} {i : Int} (ok : Ok3 p c F H) (t : Tell K p F H Q' Q) (h : Q' (.int i) c) : Q (.int i) H := t (.int i) c _ F H (.refl ..) ok rfl h
theorem tellBl {p : Pn} {c : Nat} {F H : Hp} {Q' : KD} {Q : VK} {i : Bool} (ok : Ok3 p c F H) (t : Tell K p F H Q' Q) (h : Q' (.bl i) c) : Q (.bl i) H := t (.bl i) c _ F H (.refl ..) ok rfl h
theorem tellS {p : Pn} {c : Nat} {F H : Hp} {Q' : KD} {Q : VK} {i : Str} (ok : Ok3 p c F H) (t : Tell K p F H Q' Q) (h : Q' (.str i) c) : Q (.str i) H := t (.str i) c _ F H (.refl ..) ok rfl h
theorem tellN {p : Pn} {c : Nat} {F H : Hp} {Q' : KD} {Q : VK} (ok : Ok3 p c F H) (t : Tell K p F H Q' Q) (h : Q' .non c) : Q .non H := t .non c _ F H (.refl ..) ok rfl h
abbrev rAdd4 (K : PySem.W.Frag) : R2 := fun x y H Q => rI0 (fun i j => .int (i + j)) x y H Q ∨ (∃ i j, x = .str i ∧ y = .str j ∧ i.length + j.length ≤ sizeLine ∧ Q (.str (i ++ j)) H) ∨ rCatA K x y H Q ∨ rCat x y H Q
theorem op_add4 : OpR X (binaryOp .Add) (rAdd4 X.K) := op_add.or (op_add_str.or (op_catA.or op_cat))
theorem addS : OpS K (rAdd4 K) addD := by
  intro p c F H x y v u Q' Q ok rx ry h t
  unfold addD at h
  split at h
  · rename_i i j
    cases (show v = .int i from rx)
    cases (show u = .int j from ry)
    exact .inl ⟨i, j, rfl, rfl, tellI ok t h⟩
  · rename_i i j
    cases (show v = .str i from rx)
    cases (show u = .str j from ry)
    exact .inr (.inl ⟨i, j, rfl, rfl, by rw [line16]; exact h.1, tellS ok t h.2⟩)
  · obtain ⟨a, xs, rfl, h1, r1⟩ := rx
    obtain ⟨b, ys, rfl, h2, r2⟩ := ry
    obtain ⟨z, q⟩ := h
    have e1 := r1.len
    have e2 := r2.len
    refine .inr (.inr (.inl ⟨a, b, xs, ys, rfl, rfl, ok.sqT h1, ok.sqT h2, by rw [line16, e1, e2]; exact z, fun e => ?_, fun _ e => ?_, fun _ _ => tellNewT ok t (r1.app r2) q⟩))
    · subst e
      rw [List.eq_nil_of_length_eq_zero e1.symm, List.nil_append] at q
      exact t (.tup _) c _ F H (.refl ..) ok ⟨b, ys, rfl, h2, r2⟩ q
    · subst e
      rw [List.eq_nil_of_length_eq_zero e2.symm, List.append_nil] at q
      exact t (.tup _) c _ F H (.refl ..) ok ⟨a, xs, rfl, h1, r1⟩ q
  · obtain ⟨a, xs, rfl, h1, r1⟩ := rx
    obtain ⟨b, ys, rfl, h2, r2⟩ := ry
    exact .inr (.inr (.inr ⟨a, b, xs, ys, rfl, rfl, ok.sub _ _ h1, ok.sub _ _ h2, by rw [line16, r1.len, r2.len]; exact h.1, tellNew ok t (r1.app r2) h.2⟩))
  · exact h.elim
theorem intS {f : Int → Int → Int} {g : D → D → Nat → KD → Prop} (hg : ∀ x y c Q, g x y c Q → ∃ i j, x = .int i ∧ y = .int j ∧ Q (.int (f i j)) c) : OpS K (rI0 fun i j => .int (f i j)) g := by
  intro p c F H x y v u Q' Q ok rx ry h t
  obtain ⟨i, j, rfl, rfl, h'⟩ := hg x y c Q' h
  cases (show v = .int i from rx)
  cases (show u = .int j from ry)
  exact ⟨i, j, rfl, rfl, tellI ok t h'⟩
theorem intCS {C : Int → Int → Prop} {f : Int → Int → Int} {g : D → D → Nat → KD → Prop} (hg : ∀ x y c Q, g x y c Q → ∃ i j, x = .int i ∧ y = .int j ∧ C i j ∧ Q (.int (f i j)) c) : OpS K (rI C fun i j => .int (f i j)) g := by
  intro p c F H x y v u Q' Q ok rx ry h t
  obtain ⟨i, j, rfl, rfl, hc, h⟩ := hg x y c Q' h
  cases (show v = .int i from rx)
  cases (show u = .int j from ry)
  exact ⟨i, j, rfl, rfl, hc, tellI ok t h⟩
theorem cmpS {f : Int → Int → Bool} {g : D → D → Nat → KD → Prop} (hg : ∀ x y c Q, g x y c Q → ∃ i j, x = .int i ∧ y = .int j ∧ Q (.bl (f i j)) c) : OpS K (rI0 fun i j => .bl (f i j)) g := by
  intro p c F H x y v u Q' Q ok rx ry h t
  obtain ⟨i, j, rfl, rfl, h'⟩ := hg x y c Q' h
  cases (show v = .int i from rx)
  cases (show u = .int j from ry)
  exact ⟨i, j, rfl, rfl, tellBl ok t h'⟩
theorem subS : OpS K (rI0 fun i j => .int (i - j)) subD := intS fun x y c Q h => by
  unfold subD at h
  split at h
  · exact ⟨_, _, rfl, rfl, h⟩
  · exact h.elim
abbrev rMul2 : R2 := fun x y H Q => rI CMul (fun i j => .int (i * j)) x y H Q ∨ rRep x y H Q
theorem op_mul2 : OpR X (binaryOp .Mult) rMul2 := op_mul.or op_rep
theorem RepL.rep {p : Pn} {F : Hp} {l : List D} {xs : List V} (r : RepL K p F l xs) : ∀ k : Nat, RepL K p F (List.replicate k l).flatten (List.replicate k xs).flatten
  | 0 => rfl
  | k + 1 => by
    rw [List.replicate_succ, List.replicate_succ, List.flatten_cons, List.flatten_cons]
    exact r.app (RepL.rep r k)
theorem mulS : OpS K rMul2 mulD := by
  intro p c F H x y v u Q' Q ok rx ry h t
  unfold mulD at h
  split at h
  · rename_i i j
    cases (show v = .int i from rx)
    cases (show u = .int j from ry)
    exact .inl ⟨i, j, rfl, rfl, h.1, tellI ok t h.2⟩
  · rename_i l k
    obtain ⟨a, xs, rfl, h1, r1⟩ := rx
    cases (show u = .int k from ry)
    obtain ⟨⟨k0, k1, k2⟩, q⟩ := h
    exact .inr ⟨a, k, xs, rfl, rfl, ok.sub _ _ h1, by omega, by omega, by rw [line16, r1.len]; exact k2, tellNew ok t (r1.rep _) q⟩
  · exact h.elim
theorem fdivS : OpS K (rI CDiv fun i j => .int (i / j)) fdivD := intCS fun x y c Q h => by
  unfold fdivD at h
  split at h
  · exact ⟨_, _, rfl, rfl, h.1, h.2⟩
  · exact h.elim
theorem modS : OpS K (rI (fun _ j => 0 < j) fun i j => .int (i % j)) modD := intCS fun x y c Q h => by
  unfold modD at h
  split at h
  · exact ⟨_, _, rfl, rfl, h.1, h.2⟩
  · exact h.elim
theorem powS : OpS K (rI CPow3 fun i j => .int (i ^ j.toNat)) powD := intCS fun x y c Q h => by
  unfold powD at h
  split at h
  · exact ⟨_, _, rfl, rfl, h.1, h.2⟩
  · exact h.elim
theorem ltS : OpS K (rI0 fun i j => .bl (decide (i < j))) ltD := cmpS fun x y c Q h => by
  unfold ltD at h
  split at h
  · exact ⟨_, _, rfl, rfl, h⟩
  · exact h.elim
theorem leS : OpS K (rI0 fun i j => .bl (decide (i ≤ j))) leD := cmpS fun x y c Q h => by
  unfold leD at h
  split at h
  · exact ⟨_, _, rfl, rfl, h⟩
  · exact h.elim
theorem gtS : OpS K (rI0 fun i j => .bl (decide (j < i))) gtD := cmpS fun x y c Q h => by
  unfold gtD at h
  split at h
  · exact ⟨_, _, rfl, rfl, h⟩
  · exact h.elim
theorem geS : OpS K (rI0 fun i j => .bl (decide (j ≤ i))) geD := cmpS fun x y c Q h => by
  unfold geD at h
  split at h
  · exact ⟨_, _, rfl, rfl, h⟩
  · exact h.elim
theorem Rep.none_iff {p : Pn} {F : Hp} {d : D} {v : V} (r : Rep K p F d v) : decide (v = .non) = isNone d := by
  cases d with
  | non => cases (show v = .non from r); rfl
  | bl _ => cases (show v = .bl _ from r); rfl
  | int _ => cases (show v = .int _ from r); rfl
  | str _ => cases (show v = .str _ from r); rfl
  | ty _ => cases (show v = .ty _ from r); rfl
  | rf _ => cases (show v = .ref _ from r); rfl
  | lam _ _ _ => obtain ⟨rfl, _⟩ := r; rfl
  | exc _ _ => obtain ⟨a, _, _, rfl, _⟩ := r; rfl
  | clo _ _ => obtain ⟨rfl, _⟩ := r; rfl
  | dic _ => obtain ⟨a, rfl, _⟩ := r; rfl
  | pot => obtain ⟨a, _, rfl⟩ := r; rfl
  | scr _ => obtain ⟨a, rfl, _⟩ := r; rfl
  | tup _ => obtain ⟨a, _, rfl, _⟩ := r; rfl
  | lst _ => obtain ⟨a, _, rfl, _⟩ := r; rfl
  | dct _ _ => obtain ⟨a, _, _, rfl, _⟩ := r; rfl
theorem isS : OpS K (fun x y H Q => y = .non ∧ Q (.bl (decide (x = .non))) H) isD := by
  intro p c F H x y v u Q' Q ok rx ry h t
  unfold isD at h
  split at h
  · cases (show u = .non from ry)
    refine ⟨rfl, ?_⟩
    rw [rx.none_iff]
    exact tellBl ok t h
  · exact h.elim
theorem isNotS : OpS K (fun x y H Q => y = .non ∧ Q (.bl (!decide (x = .non))) H) isNotD := by
  intro p c F H x y v u Q' Q ok rx ry h t
  unfold isNotD at h
  split at h
  · cases (show u = .non from ry)
    refine ⟨rfl, ?_⟩
    rw [rx.none_iff]
    exact tellBl ok t h
  · exact h.elim
/-! == and != -/
mutual
theorem Rep.dp {p : Pn} {F H : Hp} (e : ∀ b o, F b = some o → H b = some o) : ∀ {d : D} {v : V} {x : PyData}, Rep K p F d v → toPy d = some x → Dp K H v x
  | .non, _, _, h, q => by cases q; cases (show _ = V.non from h); exact .non
  | .bl _, _, _, h, q => by cases q; cases (show _ = V.bl _ from h); exact .bl _
  | .int _, _, _, h, q => by cases q; cases (show _ = V.int _ from h); exact .int _
  | .str _, _, _, h, q => by cases q; cases (show _ = V.str _ from h); exact .str _
  | .ty _, _, _, h, q => by cases q
  | .rf _, _, _, h, q => by cases q
  | .lam .., _, _, h, q => by cases q
  | .exc .., _, _, h, q => by cases q
  | .clo .., _, _, h, q => by cases q
  | .dic _, _, _, h, q => by cases q
  | .dct _ _, _, _, h, q => by cases q
  | .pot, _, _, h, q => by cases q
  | .scr _, _, _, h, q => by cases q
  | .tup l, _, x, h, q => by
    obtain ⟨a, xs, rfl, h1, h2⟩ := h
    obtain ⟨ys, e1, rfl⟩ := Option.map_eq_some_iff.mp (show (toPyL l).map PyData.tuple = some x from q)
    exact .tup (Sub.sqT e h1) (RepL.dp e h2 e1)
  | .lst l, _, x, h, q => by
    obtain ⟨a, xs, rfl, h1, h2⟩ := h
    obtain ⟨ys, e1, rfl⟩ := Option.map_eq_some_iff.mp (show (toPyL l).map PyData.list = some x from q)
    exact .lst (.of (e _ _ h1)) (RepL.dp e h2 e1)
theorem RepL.dp {p : Pn} {F H : Hp} (e : ∀ b o, F b = some o → H b = some o) : ∀ {l : List D} {xs : List V} {ys : List PyData}, RepL K p F l xs → toPyL l = some ys → DpAll K H xs ys
  | [], _, _, h, q => by cases q; cases h; exact .nil
  | d :: l, _, ys, h, q => by
    obtain ⟨x, r, rfl, h1, h2⟩ := h
    unfold toPyL at q
    split at q
    · rename_i y z e1 e2
      cases q
      exact .cons (Rep.dp e h1 e1) (RepL.dp e h2 e2)
    · cases q
end
mutual
theorem toPy_of : ∀ {n : Nat} {d : D}, pyD n d = true → ∃ x, toPy d = some x ∧ x.canLay0 = true ∧ x.depth ≤ n
  | _, .non, _ => ⟨_, rfl, rfl, Nat.zero_le _⟩
  | _, .int _, _ => ⟨_, rfl, rfl, Nat.zero_le _⟩
  | _, .bl _, _ => ⟨_, rfl, rfl, Nat.zero_le _⟩
  | _, .str x, h => ⟨.str x, rfl, by unfold pyD at h; unfold PyData.canLay0; exact h, by unfold PyData.depth; exact Nat.zero_le _⟩
  | n + 1, .tup l, h => by
    unfold pyD at h
    obtain ⟨xs, e1, e2, e3⟩ := toPyL_of h
    refine ⟨.tuple xs, by unfold toPy; rw [e1]; rfl, by unfold PyData.canLay0; exact e2, by unfold PyData.depth; omega⟩
  | n + 1, .lst l, h => by
    unfold pyD at h
    obtain ⟨xs, e1, e2, e3⟩ := toPyL_of h
    refine ⟨.list xs, by unfold toPy; rw [e1]; rfl, by unfold PyData.canLay0; exact e2, by unfold PyData.depth; omega⟩
  | 0, .tup l, h => by simp [pyD] at h
  | 0, .lst l, h => by simp [pyD] at h
  | _, .ty _, h => by simp [pyD] at h
  | _, .rf _, h => by simp [pyD] at h
  | _, .pot, h => by simp [pyD] at h
  | _, .scr _, h => by simp [pyD] at h
  | _, .lam .., h => by simp [pyD] at h
  | _, .exc .., h => by simp [pyD] at h
  | _, .clo .., h => by simp [pyD] at h
  | _, .dic _, h => by simp [pyD] at h
theorem toPyL_of : ∀ {n : Nat} {l : List D}, pyDL n l = true → ∃ xs, toPyL l = some xs ∧ PyData.canLayAll0 xs = true ∧ PyData.depthAll xs ≤ n
  | _, [], _ => ⟨[], by unfold toPyL; rfl, by unfold PyData.canLayAll0; rfl, by unfold PyData.depthAll; exact Nat.zero_le _⟩
  | n, d :: l, h => by
    unfold pyDL at h
    obtain ⟨h1, h2⟩ := Bool.and_eq_true_iff.mp h
    obtain ⟨x, e1, e2, e3⟩ := toPy_of h1
    obtain ⟨xs, g1, g2, g3⟩ := toPyL_of h2
    exact ⟨x :: xs, by unfold toPyL; rw [e1, g1], by unfold PyData.canLayAll0; rw [e2, g2]; rfl, by unfold PyData.depthAll; omega⟩
end
mutual
theorem eqv_toPy : ∀ (x y : D) {d e : PyData}, toPy x = some d → toPy y = some e → PyData.eqv d e = eqvD x y
  | .non, y, _, e, h1, h2 => by cases h1; cases y <;> simp [toPy] at h2 <;> first | (obtain ⟨_, _, rfl⟩ := h2; simp [PyData.eqv, eqvD]; done) | (cases h2; simp [PyData.eqv, eqvD]; done)
  | .int i, y, _, e, h1, h2 => by cases h1; cases y <;> simp [toPy] at h2 <;> first | (obtain ⟨_, _, rfl⟩ := h2; simp [PyData.eqv, eqvD]; done) | (cases h2; simp [PyData.eqv, eqvD]; done)
  | .bl i, y, _, e, h1, h2 => by cases h1; cases y <;> simp [toPy] at h2 <;> first | (obtain ⟨_, _, rfl⟩ := h2; simp [PyData.eqv, eqvD]; done) | (cases h2; simp [PyData.eqv, eqvD]; done)
  | .str i, y, _, e, h1, h2 => by cases h1; cases y <;> simp [toPy] at h2 <;> first | (obtain ⟨_, _, rfl⟩ := h2; simp [PyData.eqv, eqvD]; done) | (cases h2; simp [PyData.eqv, eqvD]; done)
  | .tup l, y, _, e, h1, h2 => by
    simp [toPy] at h1
    obtain ⟨xs, g1, rfl⟩ := h1
    cases y with
    | tup m =>
      simp [toPy] at h2
      obtain ⟨ys, g2, rfl⟩ := h2
      unfold PyData.eqv eqvD
      exact eqvL_toPy l m g1 g2
    | lst m => simp [toPy] at h2; obtain ⟨_, _, rfl⟩ := h2; simp [PyData.eqv, eqvD]
    | non => simp [toPy] at h2; cases h2; simp [PyData.eqv, eqvD]
    | int _ => simp [toPy] at h2; cases h2; simp [PyData.eqv, eqvD]
    | bl _ => simp [toPy] at h2; cases h2; simp [PyData.eqv, eqvD]
    | str _ => simp [toPy] at h2; cases h2; simp [PyData.eqv, eqvD]
    | _ => simp [toPy] at h2
  | .lst l, y, _, e, h1, h2 => by
    simp [toPy] at h1
    obtain ⟨xs, g1, rfl⟩ := h1
    cases y with
    | lst m =>
      simp [toPy] at h2
      obtain ⟨ys, g2, rfl⟩ := h2
      unfold PyData.eqv eqvD
      exact eqvL_toPy l m g1 g2
    | tup m => simp [toPy] at h2; obtain ⟨_, _, rfl⟩ := h2; simp [PyData.eqv, eqvD]
    | non => simp [toPy] at h2; cases h2; simp [PyData.eqv, eqvD]
    | int _ => simp [toPy] at h2; cases h2; simp [PyData.eqv, eqvD]
    | bl _ => simp [toPy] at h2; cases h2; simp [PyData.eqv, eqvD]
    | str _ => simp [toPy] at h2; cases h2; simp [PyData.eqv, eqvD]
    | _ => simp [toPy] at h2
  | .ty _, _, _, _, h, _ => by simp [toPy] at h
  | .rf _, _, _, _, h, _ => by simp [toPy] at h
  | .pot, _, _, _, h, _ => by simp [toPy] at h
  | .scr _, _, _, _, h, _ => by simp [toPy] at h
  | .lam .., _, _, _, h, _ => by simp [toPy] at h
  | .exc .., _, _, _, h, _ => by simp [toPy] at h
  | .clo .., _, _, _, h, _ => by simp [toPy] at h
  | .dic _, _, _, _, h, _ => by simp [toPy] at h
  | .dct _ _, _, _, _, h, _ => by simp [toPy] at h
theorem eqvL_toPy : ∀ (l m : List D) {xs ys : List PyData}, toPyL l = some xs → toPyL m = some ys → PyData.eqvAll xs ys = eqvDL l m
  | [], [], _, _, h1, h2 => by
    simp [toPyL] at h1 h2
    subst h1 h2
    simp [PyData.eqvAll, eqvDL]
  | [], y :: m, _, _, h1, h2 => by
    simp [toPyL] at h1
    subst h1
    unfold toPyL at h2
    split at h2
    · cases h2; simp [PyData.eqvAll, eqvDL]
    · cases h2
  | x :: l, [], _, _, h1, h2 => by
    simp [toPyL] at h2
    subst h2
    unfold toPyL at h1
    split at h1
    · cases h1; simp [PyData.eqvAll, eqvDL]
    · cases h1
  | x :: l, y :: m, _, _, h1, h2 => by
    unfold toPyL at h1 h2
    split at h1
    · rename_i d r e1 e2
      cases h1
      split at h2
      · rename_i d' r' f1 f2
        cases h2
        unfold PyData.eqvAll eqvDL
        rw [eqv_toPy x y e1 f1, eqvL_toPy l m e2 f2]
      · cases h2
    · cases h1
end
theorem shaped_of {x : PyData} (h1 : x.canLay0 = true) (h2 : x.depth ≤ 64) : SeqAt.shaped x = true := by
  unfold SeqAt.shaped
  rw [h1, decide_eq_true h2]
  rfl
theorem eqS : OpS K (fun x y H Q => rEq x y H Q ∨ rEqD K x y H Q) eqD := by
  intro p c F H x y v u Q' Q ok rx ry h t
  unfold eqD at h
  split at h
  · rename_i i j
    cases (show v = .int i from rx)
    cases (show u = .int j from ry)
    refine .inl ⟨rfl, ?_⟩
    rw [show decide (V.int i = V.int j) = decide (i = j) by simp]
    exact tellBl ok t h
  · rename_i i j
    cases (show v = .bl i from rx)
    cases (show u = .bl j from ry)
    refine .inl ⟨rfl, ?_⟩
    rw [show decide (V.bl i = V.bl j) = decide (i = j) by simp]
    exact tellBl ok t h
  · rename_i i j
    cases (show v = .str i from rx)
    cases (show u = .str j from ry)
    refine .inl ⟨rfl, ?_⟩
    rw [show decide (V.str i = V.str j) = decide (i = j) by simp]
    exact tellBl ok t h
  · rename_i x y _ _ _
    obtain ⟨⟨p1, p2⟩, h⟩ := h
    obtain ⟨d, h1, a1, a2⟩ := toPy_of p1
    obtain ⟨e, h2, b1, b2⟩ := toPy_of p2
    have h3 := shaped_of a1 a2
    have h4 := shaped_of b1 b2
    rw [← eqv_toPy _ _ h1 h2] at h
    exact .inr ⟨d, e, rx.dp ok.sub h1, ry.dp ok.sub h2, h3, h4, tellBl ok t h⟩
theorem neS : OpS K (fun x y H Q => rNe x y H Q ∨ rNeD K x y H Q) neD := by
  intro p c F H x y v u Q' Q ok rx ry h t
  unfold neD at h
  split at h
  · rename_i i j
    cases (show v = .int i from rx)
    cases (show u = .int j from ry)
    refine .inl ⟨rfl, ?_⟩
    rw [show decide (V.int i = V.int j) = decide (i = j) by simp]
    exact tellBl ok t h
  · rename_i i j
    cases (show v = .bl i from rx)
    cases (show u = .bl j from ry)
    refine .inl ⟨rfl, ?_⟩
    rw [show decide (V.bl i = V.bl j) = decide (i = j) by simp]
    exact tellBl ok t h
  · rename_i i j
    cases (show v = .str i from rx)
    cases (show u = .str j from ry)
    refine .inl ⟨rfl, ?_⟩
    rw [show decide (V.str i = V.str j) = decide (i = j) by simp]
    exact tellBl ok t h
  · rename_i x y _ _ _
    obtain ⟨⟨p1, p2⟩, h⟩ := h
    obtain ⟨d, h1, a1, a2⟩ := toPy_of p1
    obtain ⟨e, h2, b1, b2⟩ := toPy_of p2
    have h3 := shaped_of a1 a2
    have h4 := shaped_of b1 b2
    rw [← eqv_toPy _ _ h1 h2] at h
    exact .inr ⟨d, e, rx.dp ok.sub h1, ry.dp ok.sub h2, h3, h4, tellBl ok t h⟩
theorem op_eq2 (hu : X.A.units + 64 < cLine) : OpR X (compareOp .Eq) (fun x y H Q => rEq x y H Q ∨ rEqD X.K x y H Q) := op_eq.or (op_eqD hu)
theorem op_ne2 (hu : X.A.units + 64 < cLine) : OpR X (compareOp .NotEq) (fun x y H Q => rNe x y H Q ∨ rNeD X.K x y H Q) := op_ne.or (op_neD hu)
theorem atI_mapI (l : List Int) (i : Int) : atI (l.map V.int) i = (atI l i).map V.int := by
  unfold atI
  rw [List.length_map]
  cases ixN l.length i with
  | none => rfl
  | some j => exact List.getElem?_map ..
theorem rep_ints {p : Pn} {F : Hp} : ∀ ns : List Int, RepL K p F (ns.map .int) (ns.map V.int)
  | [] => rfl
  | n :: ns => ⟨_, _, rfl, rfl, rep_ints ns⟩
theorem ixS : OpS K (rIx K) ixD := by
  intro p c F H x y v u Q' Q ok rx ry h t
  unfold ixD at h
  split at h
  · rename_i l i
    obtain ⟨a, xs, rfl, h1, r1⟩ := rx
    cases (show u = .int i from ry)
    split at h
    · rename_i d e
      unfold atI at e
      obtain ⟨j, e1, e2⟩ := Option.bind_eq_some_iff.mp e
      obtain ⟨w, e3, r3⟩ := r1.get e2
      exact .inr (.inl ⟨a, xs, i, w, rfl, rfl, ok.sqT h1, by unfold atI; rw [r1.len, e1]; exact e3, tell0 ok t r3 h⟩)
    · exact h.elim
  · rename_i l i
    obtain ⟨a, xs, rfl, h1, r1⟩ := rx
    cases (show u = .int i from ry)
    split at h
    · rename_i d e
      unfold atI at e
      obtain ⟨j, e1, e2⟩ := Option.bind_eq_some_iff.mp e
      obtain ⟨w, e3, r3⟩ := r1.get e2
      exact .inl ⟨a, xs, i, w, rfl, rfl, .of (ok.sub _ _ h1), by unfold atI; rw [r1.len, e1]; exact e3, tell0 ok t r3 h⟩
    · exact h.elim
  · rename_i l i
    obtain ⟨a, rfl, h1⟩ := rx
    cases (show u = .int i from ry)
    split at h
    · rename_i d e
      exact .inl ⟨a, l.map V.int, i, .int d, rfl, rfl, Sub.sqL ok.sub h1, by rw [atI_mapI, e]; rfl, tellI ok t h⟩
    · exact h.elim
  · exact h.elim
end
section
variable {X : Cx} {a b c e : Expr} {es : List Expr} {fa fb fd : FE} {fr : FA} {pos : Pos}
theorem ex_add (ha : EX X a fa) (hb : EX X b fb) : EX X (.BinOp a .Add b pos) (eOp addD fa fb) := ex_op op_add4 addS ha hb
theorem ex_sub (ha : EX X a fa) (hb : EX X b fb) : EX X (.BinOp a .Sub b pos) (eOp subD fa fb) := ex_op op_sub subS ha hb
theorem ex_mul (ha : EX X a fa) (hb : EX X b fb) : EX X (.BinOp a .Mult b pos) (eOp mulD fa fb) := ex_op op_mul2 mulS ha hb
theorem ex_fdiv (ha : EX X a fa) (hb : EX X b fb) : EX X (.BinOp a .FloorDiv b pos) (eOp fdivD fa fb) := ex_op op_fdiv fdivS ha hb
theorem ex_mod (ha : EX X a fa) (hb : EX X b fb) : EX X (.BinOp a .Mod b pos) (eOp modD fa fb) := ex_op op_mod modS ha hb
theorem ex_pow (ha : EX X a fa) (hb : EX X b fb) : EX X (.BinOp a .Pow b pos) (eOp powD fa fb) := ex_op op_pow3 powS ha hb
theorem ex_ix (ha : EX X a fa) (hb : EX X b fb) (hs : PlainIx b := by exact fun _ _ => rfl) : EX X (.Subscript a b pos) (eOp ixD fa fb) := ex2 ixS (pe_ix ix_seq ha hb hs)
theorem ex_neg (ha : EX X a fa) : EX X (.UnaryOp .USub a pos) (eUn negD fa) := PE.imp (pe_un un_neg ha) fun σ H Q ⟨p, c, ρ, F, Q', es, h, t⟩ =>
  ⟨p, c, ρ, F, _, es, h, fun x c1 v F1 H1 w1 ok1 r1 q1 => by
    unfold negD at q1
    split at q1
    · rename_i i
      cases (show v = .int i from r1)
      exact ⟨i, rfl, tellI ok1 (t.fwd w1) q1⟩
    · exact q1.elim⟩
/-! tests -/
theorem tx_of {f : FE} {t : TT} (h : PT X e t) (w : ∀ σ H Q, tE X.K f σ H (fun x H' => ∃ k, x = .bl k ∧ Q k H') → t σ H Q) : TX X e (tV f) := PT.imp h fun σ H Q ⟨p, c, ρ, F, Q', es, h, t⟩ => w σ H Q ⟨p, c, ρ, F, _, es, h, fun x c1 v F1 H1 w1 ok1 r1 q1 => by
  split at q1
  · rename_i k
    cases (show v = .bl k from r1)
    exact ⟨k, rfl, t k c1 F1 H1 w1 ok1 q1⟩
  · exact q1.elim⟩
theorem tx_val {f : FE} (h : EX X e f) (he : ∀ whole, isTrue e X.env whole = (do let v ← whole; standAt e.pos; holding [v] (truthy v)) := by intro _; rfl) : TX X e (tV f) := tx_of (pt_val h he) fun _ _ _ h => h
theorem ex2w {r : R2} {g : D → D → Nat → KD → Prop} (s : OpS X.K r g) {σ : L2.St} {H : Hp} {Q : VK} (h : tE X.K (eOp g fa fb) σ H Q) : tOp r (tE X.K fa) (tE X.K fb) σ H Q := by
  obtain ⟨p, c, ρ, F, Q', es, h, t⟩ := h
  exact ⟨p, c, ρ, F, _, es, h, fun x c1 v F1 H1 w1 ok1 r1 q1 => ⟨p, c1, ρ, F1, _, es.fwd w1 ok1, q1, fun y c2 u F2 H2 w2 ok2 r2 q2 => s p c2 F2 H2 x y v u Q' Q ok2 (r1.mono w2.frz) r2 q2 (t.fwd (w1.trans w2))⟩⟩
theorem tx_cmp {op : CmpOp} {r : R2} {g : D → D → Nat → KD → Prop} (ho : OpR X (compareOp op) r) (s : OpS X.K r g) (ha : EX X a fa) (hb : EX X b fb) (hm : behindInMarks op b = false) : TX X (.Compare a [op] [b] pos) (tV (eOp g fa fb)) :=
  tx_of (pt_cmpR ho ha hb hm) fun _ _ _ h => ex2w s h
theorem exChw {r r' : R2} {g g' : D → D → Nat → KD → Prop} (s : OpS X.K r g) (s' : OpS X.K r' g') {σ : L2.St} {H : Hp} {Q : VK} (h : tE X.K (eCh g g' fa fb fd) σ H Q) : tChain r r' (tE X.K fa) (tE X.K fb) (tE X.K fd) σ H Q := by
  obtain ⟨p, c, ρ, F, Q', es, h, t⟩ := h
  exact ⟨p, c, ρ, F, _, es, h, fun x c1 v F1 H1 w1 ok1 r1 q1 => ⟨p, c1, ρ, F1, _, es.fwd w1 ok1, q1, fun y c2 u F2 H2 w2 ok2 r2 q2 =>
    s p c2 F2 H2 x y v u _ _ ok2 (r1.mono w2.frz) r2 q2 fun z c3 v3 F3 H3 w3 ok3 r3 q3 => by
      split at q3
      · rename_i k
        cases (show v3 = .bl k from r3)
        refine ⟨k, rfl, ?_⟩
        have w13 := w1.trans (w2.trans w3)
        cases k with
        | true => exact ⟨p, c3, ρ, F3, _, es.fwd w13 ok3, q3, fun w c4 v4 F4 H4 w4 ok4 r4 q4 => s' p c4 F4 H4 y w u v4 _ _ ok4 (r2.mono fun b o h => w4.frz b o (w3.frz b o h)) r4 q4 (t.fwd (w13.trans w4))⟩
        | false => exact t (.bl false) c3 _ F3 H3 w13 ok3 rfl q3
      · exact q3.elim⟩⟩
theorem tx_ch {op op' : CmpOp} {r r' : R2} {g g' : D → D → Nat → KD → Prop} (ho : OpR X (compareOp op) r) (s : OpS X.K r g) (ho' : OpR X (compareOp op') r') (s' : OpS X.K r' g') (ha : EX X a fa) (hb : EX X b fb) (hc : EX X c fd)
    (hm : lastMarks [op, op'] [b, c] = false := by rfl) : TX X (.Compare a [op, op'] [b, c] pos) (tV (eCh g g' fa fb fd)) := tx_of (pt_chain ho ho' ha hb hc hm) fun _ _ _ h => exChw s s' h
theorem wx_and1 {f : FT} (h : TX X a f) : WX3 X (.BoolOp .And [a] pos) f := pw_and1 h
theorem wx_or1 {f : FT} (h : TX X a f) : WX3 X (.BoolOp .Or [a] pos) f := pw_or1 h
theorem wx_and {f g : FT} {rest : List Expr} (h : TX X a f) (h2 : WX3 X (.BoolOp .And (b :: rest) pos) g) : WX3 X (.BoolOp .And (a :: b :: rest) pos) (tA3 f g) := PW.imp (pw_and h h2) fun σ H Q ⟨p, c, ρ, F, Q', es, h, t⟩ =>
  ⟨p, c, ρ, F, _, es, h, fun k c1 F1 H1 w1 ok1 q1 => by
    cases k with
    | true => exact ⟨p, c1, ρ, F1, Q', es.fwd w1 ok1, q1, fun k2 c2 F2 H2 w2 ok2 q2 => t k2 c2 F2 H2 (w1.trans w2) ok2 q2⟩
    | false => exact t false c1 F1 H1 w1 ok1 q1⟩
theorem wx_or {f g : FT} {rest : List Expr} (h : TX X a f) (h2 : WX3 X (.BoolOp .Or (b :: rest) pos) g) : WX3 X (.BoolOp .Or (a :: b :: rest) pos) (tO3 f g) := PW.imp (pw_or h h2) fun σ H Q ⟨p, c, ρ, F, Q', es, h, t⟩ =>
  ⟨p, c, ρ, F, _, es, h, fun k c1 F1 H1 w1 ok1 q1 => by
    cases k with
    | false => exact ⟨p, c1, ρ, F1, Q', es.fwd w1 ok1, q1, fun k2 c2 F2 H2 w2 ok2 q2 => t k2 c2 F2 H2 (w1.trans w2) ok2 q2⟩
    | true => exact t true c1 F1 H1 w1 ok1 q1⟩
theorem wx_pt {f : FT} (h : WX3 X e f) : TX X e f := PW.pt h
theorem tx_not {f : FT} (h : TX X a f) : TX X (.UnaryOp .Not a pos) (tN3 f) := PT.imp (pt_not h) fun σ H Q ⟨p, c, ρ, F, Q', es, h, t⟩ =>
  ⟨p, c, ρ, F, _, es, h, fun k c1 F1 H1 w1 ok1 q1 => t _ c1 F1 H1 w1 ok1 q1⟩
theorem ex_one {op} {f : FE} (h : EX X a f) : EX X (.BoolOp op [a] pos) f := pe_one h
theorem ex_and {f g : FE} {rest : List Expr} (h : EX X a f) (h2 : EX X (.BoolOp .And (b :: rest) pos) g) : EX X (.BoolOp .And (a :: b :: rest) pos) (eAnd f g) := PE.imp (pe_and h h2) fun σ H Q ⟨p, c, ρ, F, Q', es, h, t⟩ =>
  ⟨p, c, ρ, F, _, es, h, fun x c1 v F1 H1 w1 ok1 r1 q1 => by
    split at q1
    · rename_i k
      cases (show v = .bl k from r1)
      refine ⟨k, rfl, ?_⟩
      cases k with
      | true => exact ⟨p, c1, ρ, F1, Q', es.fwd w1 ok1, q1, t.fwd w1⟩
      | false => exact t (.bl false) c1 _ F1 H1 w1 ok1 rfl q1
    · exact q1.elim⟩
theorem ex_or {f g : FE} {rest : List Expr} (h : EX X a f) (h2 : EX X (.BoolOp .Or (b :: rest) pos) g) : EX X (.BoolOp .Or (a :: b :: rest) pos) (eOr f g) := PE.imp (pe_or h h2) fun σ H Q ⟨p, c, ρ, F, Q', es, h, t⟩ =>
  ⟨p, c, ρ, F, _, es, h, fun x c1 v F1 H1 w1 ok1 r1 q1 => by
    split at q1
    · rename_i k
      cases (show v = .bl k from r1)
      refine ⟨k, rfl, ?_⟩
      cases k with
      | false => exact ⟨p, c1, ρ, F1, Q', es.fwd w1 ok1, q1, t.fwd w1⟩
      | true => exact t (.bl true) c1 _ F1 H1 w1 ok1 rfl q1
    · exact q1.elim⟩
theorem ex_not {f : FE} (h : EX X a f) : EX X (.UnaryOp .Not a pos) (eNot f) := PE.imp (pe_not h) fun σ H Q ⟨p, c, ρ, F, Q', es, h, t⟩ =>
  ⟨p, c, ρ, F, _, es, h, fun x c1 v F1 H1 w1 ok1 r1 q1 => by
    split at q1
    · rename_i k
      cases (show v = .bl k from r1)
      exact ⟨k, rfl, t (.bl (!k)) c1 _ F1 H1 w1 ok1 rfl q1⟩
    · exact q1.elim⟩
theorem ex_if {f : FT} (hc : TX X c f) (ha : EX X a fa) (hb : EX X b fb) : EX X (.IfExp c a b pos) (eIf3 f fa fb) := PE.imp (pe_ifExp hc ha hb) fun σ H Q ⟨p, c, ρ, F, Q', es, h, t⟩ =>
  ⟨p, c, ρ, F, _, es, h, fun k c1 F1 H1 w1 ok1 q1 => by
    cases k with
    | true => exact ⟨p, c1, ρ, F1, Q', es.fwd w1 ok1, q1, t.fwd w1⟩
    | false => exact ⟨p, c1, ρ, F1, Q', es.fwd w1 ok1, q1, t.fwd w1⟩⟩
/-! arguments, displays -/
theorem ax_nil : AX X [] aNil := PA.imp pa_nil fun σ H Q ⟨p, c, ρ, F, Q', es, h, t⟩ => t [] c [] F H (.refl ..) es.ok rfl h
theorem ax_cons (ha : EX X e fa) (hr : AX X es fr) (hs : starEach (e :: es) X.env = (false, eval e X.env) :: starEach es X.env := by rfl) : AX X (e :: es) (aCons fa fr) := PA.imp (pa_cons ha hr hs) fun σ H Q ⟨p, c, ρ, F, Q', es, h, t⟩ =>
  ⟨p, c, ρ, F, _, es, h, fun x c1 v F1 H1 w1 ok1 r1 q1 => ⟨p, c1, ρ, F1, _, es.fwd w1 ok1, q1, fun xs c2 vs F2 H2 w2 ok2 r2 q2 => t (x :: xs) c2 (v :: vs) F2 H2 (w1.trans w2) ok2 ⟨v, vs, rfl, r1.mono w2.frz, r2⟩ q2⟩⟩
theorem ax_star {sp : Pos} (ha : EX X e fa) (hr : AX X es fr) (hs : starEach (.Starred e sp :: es) X.env = (true, eval e X.env) :: starEach es X.env := by rfl) : AX X (.Starred e sp :: es) (aStar fa fr) := PA.imp (StX.pa_star ha hr hs) fun σ H Q ⟨p, c, ρ, F, Q', es, h, t⟩ =>
  ⟨p, c, ρ, F, _, es, h, fun x c1 v F1 H1 w1 ok1 r1 q1 => by
    split at q1
    · obtain ⟨a, xs, rfl, h1, rl⟩ := r1
      exact ⟨a, xs, rfl, .inl (ok1.sqT h1), p, c1, ρ, F1, _, es.fwd w1 ok1, q1, fun ys c2 vs F2 H2 w2 ok2 r2 q2 => t _ c2 _ F2 H2 (w1.trans w2) ok2 ((rl.mono w2.frz).app r2) q2⟩
    · obtain ⟨a, xs, rfl, h1, rl⟩ := r1
      exact ⟨a, xs, rfl, .inr (.of (ok1.sub _ _ h1)), p, c1, ρ, F1, _, es.fwd w1 ok1, q1, fun ys c2 vs F2 H2 w2 ok2 r2 q2 => t _ c2 _ F2 H2 (w1.trans w2) ok2 ((rl.mono w2.frz).app r2) q2⟩
    · exact q1.elim⟩
theorem ex_tup {x1} (h : AX X es fr) : EX X (.Tuple es x1 pos) (eTup fr) := PE.imp (pe_tup h) fun σ H Q ⟨p, c, ρ, F, Q', es, h, t⟩ =>
  ⟨p, c, ρ, F, _, es, h, fun l c1 vs F1 H1 w1 ok1 r1 q1 => ⟨by rw [line16, r1.len]; exact q1.1, tellNewT ok1 (t.fwd w1) r1 q1.2⟩⟩
theorem ex_lst (h : AX X es fr) : EX X (.List es pos) (eLst fr) := PE.imp (pe_lst h) fun σ H Q ⟨p, c, ρ, F, Q', es, h, t⟩ =>
  ⟨p, c, ρ, F, _, es, h, fun l c1 vs F1 H1 w1 ok1 r1 q1 => ⟨by rw [line16, r1.len]; exact q1.1, tellNew ok1 (t.fwd w1) r1 q1.2⟩⟩
end

/-! ### slices, calls, built-ins -/
section
variable {X : Cx} {a b c e : Expr} {es : List Expr} {fa fb fd : FE} {fr : FA} {pos p2 : Pos}
structure OX (X : Cx) (e : Option Expr) (f : FO) : Prop where
  ex : ∃ t, PO X e t ∧ ∀ σ H p c ρ F Q' Q, ESt X.K p c ρ σ F H → f ρ c Q' → (∀ i c' F' H', Fwd p F H F' H' → Ok3 p c' F' H' → Q' i c' → Q i H') → t σ H Q
theorem ox_none : OX X none oNone := ⟨_, po_none, fun σ H p c ρ F Q' Q es h k => k none c F H (.refl ..) es.ok h⟩
theorem ox_some (h : EX X e fa) : OX X (some e) (oSome fa) := ⟨_, po_some h, fun σ H p c ρ F Q' Q es h k => ⟨p, c, ρ, F, _, es, h, fun x c1 v F1 H1 w1 ok1 r1 q1 => by
  split at q1
  · rename_i i
    cases (show v = .int i from r1)
    exact ⟨i, rfl, k _ c1 F1 H1 w1 ok1 q1⟩
  · exact q1.elim⟩⟩
theorem cut_len {l : List D} {xs : List V} (e : xs.length = l.length) (lo hi : Option Int) : cutV xs lo hi = (xs.drop (HT.sIx l.length 0 lo)).take (HT.sIx l.length l.length hi - HT.sIx l.length 0 lo) := by
  unfold cutV
  rw [e]
theorem RepL.cut {K : PySem.W.Frag} {p : Pn} {F : Hp} {l : List D} {xs : List V} (r : RepL K p F l xs) (lo hi : Option Int) : RepL K p F (cutD l lo hi) (cutV xs lo hi) := by
  rw [cut_len r.len]
  exact (r.drop _).take _
abbrev rSl2 (K : PySem.W.Frag) : V → Option Int → Option Int → Hp → VK → Prop := fun x lo hi H Q => rSlA K x lo hi H Q ∨ rSlL K x lo hi H Q
theorem ex_sl {lo hi : Option Expr} {fl fh : FO} (ha : EX X e fa) (hl : OX X lo fl) (hh : OX X hi fh) : EX X (.Subscript e (.Slice lo hi none p2) pos) (eSl fa fl fh) := by
  obtain ⟨tl, pl, kl⟩ := hl.ex
  obtain ⟨th, ph, kh⟩ := hh.ex
  refine PE.imp (pe_slice (sl_tupA.or sl_list) ha pl ph) fun σ H Q ⟨p, c, ρ, F, Q', es, h, t⟩ => ⟨p, c, ρ, F, _, es, h, fun x c1 v F1 H1 w1 ok1 r1 q1 => ?_⟩
  refine kl σ H1 p c1 ρ F1 _ _ (es.fwd w1 ok1) q1 fun i c2 F2 H2 w2 ok2 q2 => ?_
  have w12 := w1.trans w2
  refine kh σ H2 p c2 ρ F2 _ _ (es.fwd w12 ok2) q2 fun j c3 F3 H3 w3 ok3 q3 => ?_
  have w13 := w12.trans w3
  have r3 := (r1.mono w2.frz).mono w3.frz
  split at q3
  · rename_i d e3
    cases x with
    | tup l =>
      cases (show some (D.tup (cutD l i j)) = some d from e3)
      obtain ⟨b, xs, rfl, h1, rl⟩ := r3
      refine .inl ⟨b, xs, rfl, ok3.sqT h1, fun hw => ?_, fun _ => tellNewT ok3 (t.fwd w13) (rl.cut i j) q3⟩
      have e4 : cutD l i j = l := by
        rw [rl.len] at hw
        unfold cutD
        rw [hw.1, hw.2]
        simp
      rw [e4] at q3
      exact t (.tup l) c3 _ F3 H3 w13 ok3 ⟨b, xs, rfl, h1, rl⟩ q3
    | lst l =>
      cases (show some (D.lst (cutD l i j)) = some d from e3)
      obtain ⟨b, xs, rfl, h1, rl⟩ := r3
      exact .inr ⟨b, xs, rfl, .of (ok3.sub _ _ h1), tellNew ok3 (t.fwd w13) (rl.cut i j) q3⟩
    | scr ns =>
      cases (show some (D.lst (cutD (ns.map .int) i j)) = some d from e3)
      obtain ⟨b, rfl, h1⟩ := r3
      exact .inr ⟨b, _, rfl, Sub.sqL ok3.sub h1, tellNew ok3 (t.fwd w13) ((rep_ints ns).cut i j) q3⟩
    | _ => cases e3
  · exact q3.elim
end

section
variable {X : Cx} {a b c e : Expr} {es : List Expr} {fa fb fd : FE} {fr : FA} {pos p2 : Pos}
/-- a def's promise, plain -/
def spM (K : PySem.W.Frag) (n : Nat) (m : FM) : Sp := fun vs H Q _ => vs.length = n ∧ ∃ p c F ds Q', Ok3 p c F H ∧ RepL K p F ds vs ∧ m ds c Q' ∧ Tell K p F H Q' Q
theorem ex_call {CX : CXT} {k n : Nat} {f : Addr} {fd : FuncData} {ps : List Str} {m : FM} {x : Str} {p : Pos} {E : XK} (G : FnOk X.prog X.w X.K X.mg X.base CX k f fd ps (spM X.K n m)) (hr : Room k X.A) (hm : X.mg x = some (.ref f)) (hk : PySem.W.keepIn X.K (.ref f) = true) (hb : Binds X.K fd ps [])
    (hn : ps.length = n) (ha : AX X (e :: es) fr) (hx : Passes CX X E) (hg : Gl X x := by rfl) (hdb : (x == ("__debug__" : Str)) = false := by decide) (he : starEach (e :: es) X.env = (false, eval e X.env) :: starEach es X.env := by rfl) (hpl : (backTo pos (starEach es X.env)).any (·.1) = false := by rfl) (hl : ∀ l c Q, m l c Q → l.length = n) :
    EX X (.Call (.Name x p) (e :: es) [] pos) (eCall m fr) := PE.imp (pe_call (dvs := []) G hr hg hm hk hb .nil hx ha hdb he hpl) fun σ H Q ⟨p, c, ρ, F, Q', es, h, t⟩ =>
  ⟨p, c, ρ, F, _, es, h, fun l c1 vs F1 H1 w1 ok1 r1 q1 => ⟨by rw [List.append_nil, r1.len]; exact hl _ _ _ q1, p, c1, F1, l, Q', ok1, by rw [List.append_nil]; exact r1, q1, t.fwd w1⟩⟩
/-- a built-in on values -/
def CallS (K : PySem.W.Frag) (r : List V → Hp → VK → Prop) (m : FM) : Prop := ∀ p c F H l vs Q' Q, Ok3 p c F H → RepL K p F l vs → m l c Q' → Tell K p F H Q' Q → r vs H Q
theorem ex_callB {id : String} {r : List V → Hp → VK → Prop} {m : FM} {x : Str} {p : Pos} (hc : CallR X (.builtin id) r) (s : CallS X.K r m) (hm : X.mg x = none) (hv : bootBuiltins x = some (.builtin id)) (ha : AX X (e :: es) fr) (hg : Gl X x := by rfl) (hn : x ≠ "__name__" := by decide) (hdb : (x == ("__debug__" : Str)) = false := by decide)
    (he : starEach (e :: es) X.env = (false, eval e X.env) :: starEach es X.env := by rfl) (hpl : (backTo pos (starEach es X.env)).any (·.1) = false := by rfl) : EX X (.Call (.Name x p) (e :: es) [] pos) (eB m fr) := PE.imp (pe_callB hc hg hm hv ha hn hdb he hpl) fun σ H Q ⟨p, c, ρ, F, Q', es, h, t⟩ =>
  ⟨p, c, ρ, F, _, es, h, fun l c1 vs F1 H1 w1 ok1 r1 q1 => s p c1 F1 H1 l vs Q' Q ok1 r1 q1 (t.fwd w1)⟩
theorem ex_callT {id : String} {r : List V → Hp → VK → Prop} {m : FM} {x : Str} {p : Pos} (hc : CallR X (.type id) r) (s : CallS X.K r m) (hm : X.mg x = none) (hv : bootBuiltins x = some (.type id)) (ha : AX X (e :: es) fr) (hg : Gl X x := by rfl) (hn : x ≠ "__name__" := by decide) (hdb : (x == ("__debug__" : Str)) = false := by decide)
    (he : starEach (e :: es) X.env = (false, eval e X.env) :: starEach es X.env := by rfl) (hpl : (backTo pos (starEach es X.env)).any (·.1) = false := by rfl) : EX X (.Call (.Name x p) (e :: es) [] pos) (eB m fr) := PE.imp (pe_callTy hc hg hm hv ha hn hdb he hpl) fun σ H Q ⟨p, c, ρ, F, Q', es, h, t⟩ =>
  ⟨p, c, ρ, F, _, es, h, fun l c1 vs F1 H1 w1 ok1 r1 q1 => s p c1 F1 H1 l vs Q' Q ok1 r1 q1 (t.fwd w1)⟩
end
section
variable {K : PySem.W.Frag}
theorem RepL.one {p : Pn} {F : Hp} {d : D} {vs : List V} (h : RepL K p F [d] vs) : ∃ v, vs = [v] ∧ Rep K p F d v := by
  obtain ⟨x, r, rfl, h1, h2⟩ := h
  cases h2
  exact ⟨x, rfl, h1⟩
theorem RepL.two {p : Pn} {F : Hp} {d e : D} {vs : List V} (h : RepL K p F [d, e] vs) : ∃ v u, vs = [v, u] ∧ Rep K p F d v ∧ Rep K p F e u := by
  obtain ⟨x, r, rfl, h1, y, r2, rfl, h2, h3⟩ := h
  cases h3
  exact ⟨x, y, rfl, h1, h2⟩
theorem RepL.int1 {p : Pn} {F : Hp} {i : Int} {vs : List V} (h : RepL K p F [.int i] vs) : vs = [.int i] := by
  obtain ⟨v, rfl, e⟩ := h.one
  cases (show v = .int i from e)
  rfl
theorem RepL.int2 {p : Pn} {F : Hp} {i j : Int} {vs : List V} (h : RepL K p F [.int i, .int j] vs) : vs = [.int i, .int j] := by
  obtain ⟨v, u, rfl, e, e'⟩ := h.two
  cases (show v = .int i from e)
  cases (show u = .int j from e')
  rfl
theorem ok_lst {p : Pn} {c : Nat} {F H : Hp} (ok : Ok3 p c F H) {a : Addr} {xs : List V} (h : F a = some (.lst xs)) : SqL K H a xs := .of (ok.sub _ _ h)
theorem lenS : CallS K (fun xs H Q => ∃ p ys, xs = [.ref p] ∧ (SqL K H p ys ∨ SqT K H p ys) ∧ Q (.int ys.length) H) lenM := by
  intro p c F H l vs Q' Q ok r h t
  unfold lenM at h
  split at h
  · obtain ⟨v, rfl, a, xs, rfl, h1, r1⟩ := r.one
    exact ⟨a, xs, rfl, .inr (ok.sqT h1), by rw [r1.len]; exact tellI ok t h⟩
  · obtain ⟨v, rfl, a, xs, rfl, h1, r1⟩ := r.one
    exact ⟨a, xs, rfl, .inl (ok_lst ok h1), by rw [r1.len]; exact tellI ok t h⟩
  · rename_i ns
    obtain ⟨v, rfl, a, rfl, h1⟩ := r.one
    exact ⟨a, ns.map V.int, rfl, .inl (Sub.sqL ok.sub h1), by rw [List.length_map]; exact tellI ok t h⟩
  · exact h.elim
theorem absS : CallS K (fun xs H Q => ∃ i, xs = [.int i] ∧ Q (.int (if i < 0 then -i else i)) H) absM := by
  intro p c F H l vs Q' Q ok r h t
  unfold absM at h
  split at h
  · exact ⟨_, r.int1, tellI ok t h⟩
  · exact h.elim
theorem max2S : CallS K (fun xs H Q => ∃ i j, xs = [.int i, .int j] ∧ Q (.int (if j > i then j else i)) H) max2M := by
  intro p c F H l vs Q' Q ok r h t
  unfold max2M at h
  split at h
  · exact ⟨_, _, r.int2, tellI ok t h⟩
  · exact h.elim
theorem min2S : CallS K (fun xs H Q => ∃ i j, xs = [.int i, .int j] ∧ Q (.int (if j < i then j else i)) H) min2M := by
  intro p c F H l vs Q' Q ok r h t
  unfold min2M at h
  split at h
  · exact ⟨_, _, r.int2, tellI ok t h⟩
  · exact h.elim
theorem intS1 : CallS K (fun xs H Q => (∃ i, xs = [.int i] ∧ Q (.int i) H) ∨ ∃ k, xs = [.bl k] ∧ Q (.int (if k then 1 else 0)) H) intM := by
  intro p c F H l vs Q' Q ok r h t
  unfold intM at h
  split at h
  · exact .inl ⟨_, r.int1, tellI ok t h⟩
  · obtain ⟨v, rfl, e⟩ := r.one
    rename_i b
    cases (show v = .bl b from e)
    exact .inr ⟨b, rfl, tellI ok t h⟩
  · exact h.elim
theorem tupleS : CallS K (fun xs H Q => ∃ p ys, xs = [.ref p] ∧ ((SqL K H p ys ∧ ∀ l, H l = none → Q (.ref l) (upd H l (.tup ys))) ∨ (SqT K H p ys ∧ Q (.ref p) H))) tupleM := by
  intro p c F H l vs Q' Q ok r h t
  unfold tupleM at h
  split at h
  · obtain ⟨v, rfl, a, xs, rfl, h1, r1⟩ := r.one
    exact ⟨a, xs, rfl, .inl ⟨ok_lst ok h1, tellNewT ok t r1 h⟩⟩
  · obtain ⟨v, rfl, a, xs, rfl, h1, r1⟩ := r.one
    exact ⟨a, xs, rfl, .inr ⟨ok.sqT h1, t (.tup _) c _ F H (.refl ..) ok ⟨a, xs, rfl, h1, r1⟩ h⟩⟩
  · exact h.elim
theorem listS : CallS K (fun xs H Q => ∃ p ys, xs = [.ref p] ∧ (SqL K H p ys ∨ SqT K H p ys) ∧ ∀ l, H l = none → Q (.ref l) (upd H l (.lst ys))) listM := by
  intro p c F H l vs Q' Q ok r h t
  unfold listM at h
  split at h
  · obtain ⟨v, rfl, a, xs, rfl, h1, r1⟩ := r.one
    exact ⟨a, xs, rfl, .inl (ok_lst ok h1), tellNew ok t r1 h⟩
  · obtain ⟨v, rfl, a, xs, rfl, h1, r1⟩ := r.one
    exact ⟨a, xs, rfl, .inr (ok.sqT h1), tellNew ok t r1 h⟩
  · exact h.elim
theorem RepL.bls {p : Pn} {F : Hp} : ∀ {l : List D} {xs : List V} {bs : List Bool}, RepL K p F l xs → blsOf l = some bs → xs = bs.map V.bl
  | [], _, _, h, q => by cases q; cases h; rfl
  | d :: l, _, bs, h, q => by
    obtain ⟨x, r, rfl, h1, h2⟩ := h
    unfold blsOf at q
    split at q
    · rename_i e; cases e
    · rename_i b l' e
      cases e
      obtain ⟨bs', e1, rfl⟩ := Option.map_eq_some_iff.mp q
      cases (show x = .bl b from h1)
      rw [RepL.bls h2 e1]
      rfl
    · cases q
theorem RepL.ints {p : Pn} {F : Hp} : ∀ {l : List D} {xs : List V} {bs : List Int}, RepL K p F l xs → intsOf l = some bs → xs = bs.map V.int
  | [], _, _, h, q => by cases q; cases h; rfl
  | d :: l, _, bs, h, q => by
    obtain ⟨x, r, rfl, h1, h2⟩ := h
    unfold intsOf at q
    split at q
    · rename_i e; cases e
    · rename_i b l' e
      cases e
      obtain ⟨bs', e1, rfl⟩ := Option.map_eq_some_iff.mp q
      cases (show x = .int b from h1)
      rw [RepL.ints h2 e1]
      rfl
    · cases q
theorem allS : CallS K (rAll K) allM := by
  intro p c F H l vs Q' Q ok r h t
  unfold allM at h
  split at h
  · split at h
    · rename_i bs e
      obtain ⟨v, rfl, a, xs, rfl, h1, r1⟩ := r.one
      exact ⟨a, bs, rfl, by rw [← r1.bls e]; exact ok_lst ok h1, tellBl ok t h⟩
    · exact h.elim
  · exact h.elim
theorem anyS : CallS K (rAny K) anyM := by
  intro p c F H l vs Q' Q ok r h t
  unfold anyM at h
  split at h
  · split at h
    · rename_i bs e
      obtain ⟨v, rfl, a, xs, rfl, h1, r1⟩ := r.one
      exact ⟨a, bs, rfl, by rw [← r1.bls e]; exact ok_lst ok h1, tellBl ok t h⟩
    · exact h.elim
  · exact h.elim
theorem sumS : CallS K (rSum K) sumM := by
  intro p c F H l vs Q' Q ok r h t
  unfold sumM at h
  split at h
  · split at h
    · rename_i bs e
      obtain ⟨v, rfl, a, xs, rfl, h1, r1⟩ := r.one
      exact ⟨a, bs, rfl, by rw [← r1.ints e]; exact ok_lst ok h1, tellI ok t h⟩
    · exact h.elim
  · exact h.elim
end

/-! ### isinstance -/
section
variable {K : PySem.W.Frag}
theorem Rep.tyX {p : Pn} {c : Nat} {F H : Hp} (ok : Ok3 p c F H) {d : D} {v : V} {n : String} (h : Rep K p F d v) (e : tyName d = some n) : TyX K H v (.type n) := by
  cases d with
  | non => cases e; cases (show _ = V.non from h); exact .base .non
  | bl _ => cases e; cases (show _ = V.bl _ from h); exact .base (.bl _)
  | int _ => cases e; cases (show _ = V.int _ from h); exact .base (.int _)
  | str _ => cases e; cases (show _ = V.str _ from h); exact .base (.str _)
  | tup l =>
    cases e
    obtain ⟨a, xs, rfl, h1, _⟩ := h
    rcases ok.sqT h1 with (h | ⟨o, h⟩) | ⟨o, its, n, h, hc, _⟩
    · exact .base (.tup h)
    · exact .fTuple h
    · exact .kTuple h hc
  | lst l =>
    cases e
    obtain ⟨a, xs, rfl, h1, _⟩ := h
    exact .base (.lst (ok.sub _ _ h1))
  | dic kvs =>
    cases e
    obtain ⟨a, rfl, h1⟩ := h
    exact .base (.dK (ok.sub _ _ h1))
  | ty _ => cases e
  | rf _ => cases e
  | lam _ _ _ => cases e
  | exc _ _ => cases e
  | clo _ _ => cases e
  | dct ks _ =>
    cases ks with
    | k ks =>
      cases e
      obtain ⟨a, o, vs, rfl, h1, ⟨kvs, rfl, _⟩, _⟩ := h
      exact .base (.dK (ok.sub _ _ h1))
    | t ks => cases e
  | pot => cases e
  | scr _ => cases e
theorem kits : (kitB "NoneType" "int" = some false ∧ kitB "NoneType" "bool" = some false ∧ kitB "NoneType" "str" = some false ∧ kitB "NoneType" "tuple" = some false ∧ kitB "NoneType" "list" = some false) ∧
    (kitB "bool" "int" = some true ∧ kitB "bool" "bool" = some true ∧ kitB "bool" "str" = some false ∧ kitB "bool" "tuple" = some false ∧ kitB "bool" "list" = some false) ∧
    (kitB "int" "int" = some true ∧ kitB "int" "bool" = some false ∧ kitB "int" "str" = some false ∧ kitB "int" "tuple" = some false ∧ kitB "int" "list" = some false) ∧
    (kitB "str" "int" = some false ∧ kitB "str" "bool" = some false ∧ kitB "str" "str" = some true ∧ kitB "str" "tuple" = some false ∧ kitB "str" "list" = some false) ∧
    (kitB "tuple" "int" = some false ∧ kitB "tuple" "bool" = some false ∧ kitB "tuple" "str" = some false ∧ kitB "tuple" "tuple" = some true ∧ kitB "tuple" "list" = some false) ∧
    (kitB "list" "int" = some false ∧ kitB "list" "bool" = some false ∧ kitB "list" "str" = some false ∧ kitB "list" "tuple" = some false ∧ kitB "list" "list" = some true) ∧
    (kitB "dict" "int" = some false ∧ kitB "dict" "bool" = some false ∧ kitB "dict" "str" = some false ∧ kitB "dict" "tuple" = some false ∧ kitB "dict" "list" = some false) := by decide +kernel
theorem kit_isi {x : D} {n t : String} (e : tyName x = some n) (ht : t = "int" ∨ t = "bool" ∨ t = "str" ∨ t = "tuple" ∨ t = "list") : kitB n t = some (isiD x t) := by
  obtain ⟨⟨a1, a2, a3, a4, a5⟩, ⟨b1, b2, b3, b4, b5⟩, ⟨c1, c2, c3, c4, c5⟩, ⟨d1, d2, d3, d4, d5⟩, ⟨e1, e2, e3, e4, e5⟩, ⟨f1, f2, f3, f4, f5⟩, ⟨g1, g2, g3, g4, g5⟩⟩ := kits
  cases x with
  | dct ks l => cases ks <;> cases e <;> rcases ht with rfl | rfl | rfl | rfl | rfl <;> (simp only [isiD]; assumption)
  | _ => cases e <;> rcases ht with rfl | rfl | rfl | rfl | rfl <;> (simp only [isiD]; assumption)
theorem isiS : CallS K (rIsi K) isiM := by
  intro p c F H l vs Q' Q ok r h t
  unfold isiM at h
  split at h
  · rename_i x ty
    obtain ⟨h1, h2, h⟩ := h
    obtain ⟨v, u, rfl, r1, r2⟩ := r.two
    cases (show u = .ty ty from r2)
    obtain ⟨n, e⟩ := Option.isSome_iff_exists.mp h1
    exact ⟨v, .ty ty, .type n, .type ty, isiD x ty, rfl, .ty ty, r1.tyX ok e, kit_ty (kit_isi e h2), tellBl ok t h⟩
  · exact h.elim
end
end L3

/-! L3, the rules for statements, targets, loops, comprehensions, defs. -/
namespace L3
open PySem PySem.Spec PyProof.Rows L2
/-- the state a statement meets; F0, H0: the def's entry -/
structure SSt (K : PySem.W.Frag) (p : Pn) (c : Nat) (ρ : Env3) (σ : L2.St) (F H F0 H0 : Hp) : Prop where
  ok : Ok3 p c F H
  ent : Fwd p F0 H0 F H
  len : ρ.length = σ.length
  val : ∀ (i : Nat) (d : D), ρ[i]? = some (SV.val d) → ∃ v, σ[i]? = some (some v) ∧ Rep K p F d v
  own : ∀ (i : Nat) (l : List D), ρ[i]? = some (SV.own l) → ∃ a xs, σ[i]? = some (some (V.ref a)) ∧ H a = some (.lst xs) ∧ F a = none ∧ H0 a = none ∧ p.pot ≠ some a ∧ RepL K p F l xs
  sep : ∀ (i j : Nat) (l m : List D) (a : Addr), ρ[i]? = some (SV.own l) → ρ[j]? = some (SV.own m) → σ[i]? = some (some (V.ref a)) → σ[j]? = some (some (V.ref a)) → i = j
  dic : ∀ (i : Nat) (ks : Ks) (l : List D), ρ[i]? = some (SV.dic ks l) → ∃ (a : Addr) (o : HO) (vs : List V), σ[i]? = some (some (V.ref a)) ∧ H a = some o ∧ F a = none ∧ H0 a = none ∧ p.pot ≠ some a ∧ DicO ks vs o ∧ RepL K p F l vs
  sepd : ∀ (i j : Nat) (ks ks' : Ks) (l m : List D) (a : Addr), ρ[i]? = some (SV.dic ks l) → ρ[j]? = some (SV.dic ks' m) → σ[i]? = some (some (V.ref a)) → σ[j]? = some (some (V.ref a)) → i = j
theorem get3_map (f : SV → Option D) : ∀ (ρ : Env3) (i : Nat) (d : D), get3 (ρ.map f) i = some d ↔ ∃ s, ρ[i]? = some s ∧ f s = some d
  | [], i, d => by simp [get3]
  | x :: r, 0, d => by simp [get3]
  | x :: r, i + 1, d => by
    have := get3_map f r i d
    simpa [get3] using this
section
variable {K : PySem.W.Frag} {p : Pn} {c c' : Nat} {ρ : Env3} {σ : L2.St} {F H F0 H0 F' H' : Hp}
theorem SSt.e (s : SSt K p c ρ σ F H F0 H0) : ESt K p c (ρ.map vA) σ F H where
  ok := s.ok
  slot := fun i d e => by
    obtain ⟨x, e1, e2⟩ := (get3_map vA ρ i d).mp e
    cases x with
    | val d' => cases e2; exact s.val i _ e1
    | own l => cases e2
    | dic _ _ => cases e2
    | no => cases e2
  len := by rw [List.length_map, s.len]
theorem SSt.fwd (s : SSt K p c ρ σ F H F0 H0) (w : Fwd p F H F' H') (ok : Ok3 p c' F' H') : SSt K p c' ρ σ F' H' F0 H0 where
  ok := ok
  ent := s.ent.trans w
  len := s.len
  val := fun i d e => let ⟨v, a, b⟩ := s.val i d e; ⟨v, a, b.mono w.frz⟩
  own := fun i l e => by
    obtain ⟨a, xs, e1, e2, e3, e4, e5, r⟩ := s.own i l e
    refine ⟨a, xs, e1, w.keep a _ e2 e5 (fun _ z => nomatch z), ?_, e4, e5, r.mono w.frz⟩
    cases q : F' a with
    | none => rfl
    | some u =>
      rcases w.new a u q with z | z
      · rw [e3] at z; cases z
      · rcases z with z | ⟨q', z⟩
        · rw [e2] at z; cases z
        · have y := ok.sub a u q
          rw [w.keep a _ e2 e5 (fun _ z => nomatch z)] at y
          exact absurd (z.symm.trans (Option.some.inj y.symm)) codeO_lst
  sep := s.sep
  dic := fun i ks l e => by
    obtain ⟨a, o, xs, e1, e2, e3, e4, e5, e6, r⟩ := s.dic i ks l e
    refine ⟨a, o, xs, e1, w.keep a _ e2 e5 (fun _ z => e6.no (fun _ q => nomatch z.symm.trans q) (fun _ q => nomatch z.symm.trans q)), ?_, e4, e5, e6, r.mono w.frz⟩
    cases q : F' a with
    | none => rfl
    | some u =>
      rcases w.new a u q with z | z
      · rw [e3] at z; cases z
      · rcases z with z | ⟨q', z⟩
        · rw [e2] at z; cases z
        · have y := ok.sub a u q
          rw [w.keep a _ e2 e5 (fun _ z => e6.no (fun _ q => nomatch z.symm.trans q) (fun _ q => nomatch z.symm.trans q))] at y
          rw [Option.some.inj y, z] at e6
          exact absurd e6 codeO_dK
  sepd := s.sepd
theorem set_get {α : Type} {l : List α} {i j : Nat} {x y : α} (h : (l.set i x)[j]? = some y) : (j = i ∧ i < l.length ∧ y = x) ∨ (j ≠ i ∧ l[j]? = some y) := by
  by_cases e : i = j
  · subst e
    by_cases hl : i < l.length
    · rw [List.getElem?_set_self hl] at h
      exact .inl ⟨rfl, hl, (Option.some.inj h).symm⟩
    · rw [List.getElem?_eq_none (by simpa using hl)] at h
      cases h
  · rw [List.getElem?_set_ne e] at h
    exact .inr ⟨fun z => e z.symm, h⟩
theorem SSt.set (s : SSt K p c ρ σ F H F0 H0) (i : Nat) {d : D} {v : V} (r : Rep K p F d v) : SSt K p c (ρ.set i (SV.val d)) (σ.set i (some v)) F H F0 H0 where
  ok := s.ok
  ent := s.ent
  len := by rw [List.length_set, List.length_set, s.len]
  val := fun j d' e => by
    rcases set_get e with ⟨rfl, hl, q⟩ | ⟨n, q⟩
    · cases q
      exact ⟨v, List.getElem?_set_self (by rw [← s.len]; exact hl), r⟩
    · rw [List.getElem?_set_ne (Ne.symm n)]
      exact s.val j d' q
  own := fun j l e => by
    rcases set_get e with ⟨rfl, hl, q⟩ | ⟨n, q⟩
    · cases q
    · rw [List.getElem?_set_ne (Ne.symm n)]
      exact s.own j l q
  sep := fun j k l m a e1 e2 e3 e4 => by
    rcases set_get e1 with ⟨rfl, hl, q⟩ | ⟨n, q⟩
    · cases q
    rcases set_get e2 with ⟨rfl, hl, q2⟩ | ⟨n2, q2⟩
    · cases q2
    rw [List.getElem?_set_ne (Ne.symm n)] at e3
    rw [List.getElem?_set_ne (Ne.symm n2)] at e4
    exact s.sep j k l m a q q2 e3 e4
  dic := fun j ks l e => by
    rcases set_get e with ⟨rfl, hl, q⟩ | ⟨n, q⟩
    · cases q
    · rw [List.getElem?_set_ne (Ne.symm n)]
      exact s.dic j ks l q
  sepd := fun j k ks ks' l m a e1 e2 e3 e4 => by
    rcases set_get e1 with ⟨rfl, hl, q⟩ | ⟨n, q⟩
    · cases q
    rcases set_get e2 with ⟨rfl, hl, q2⟩ | ⟨n2, q2⟩
    · cases q2
    rw [List.getElem?_set_ne (Ne.symm n)] at e3
    rw [List.getElem?_set_ne (Ne.symm n2)] at e4
    exact s.sepd j k ks ks' l m a q q2 e3 e4
/-- a new list of its own -/
theorem SSt.setOwn (s : SSt K p c ρ σ F H F0 H0) (i : Nat) {l : List D} {a : Addr} {xs : List V} (h1 : H a = some (.lst xs)) (h2 : F a = none) (h3 : H0 a = none) (h4 : p.pot ≠ some a) (r : RepL K p F l xs)
    (h5 : ∀ (j : Nat) (m : List D), ρ[j]? = some (SV.own m) → σ[j]? ≠ some (some (V.ref a))) : SSt K p c (ρ.set i (SV.own l)) (σ.set i (some (.ref a))) F H F0 H0 where
  ok := s.ok
  ent := s.ent
  len := by rw [List.length_set, List.length_set, s.len]
  val := fun j d' e => by
    rcases set_get e with ⟨rfl, hl, q⟩ | ⟨n, q⟩
    · cases q
    · rw [List.getElem?_set_ne (Ne.symm n)]
      exact s.val j d' q
  own := fun j l e => by
    rcases set_get e with ⟨rfl, hl, q⟩ | ⟨n, q⟩
    · cases q
      exact ⟨a, xs, List.getElem?_set_self (by rw [← s.len]; exact hl), h1, h2, h3, h4, r⟩
    · rw [List.getElem?_set_ne (Ne.symm n)]
      exact s.own j l q
  sep := fun j k l m b e1 e2 e3 e4 => by
    rcases set_get e1 with ⟨rfl, hl, q⟩ | ⟨n, q⟩
    · rcases set_get e2 with ⟨rfl, hl, q2⟩ | ⟨n2, q2⟩
      · rfl
      · rw [List.getElem?_set_self (by rw [← s.len]; exact hl)] at e3
        rw [List.getElem?_set_ne (Ne.symm n2)] at e4
        cases e3
        exact absurd e4 (h5 k m q2)
    · rw [List.getElem?_set_ne (Ne.symm n)] at e3
      rcases set_get e2 with ⟨rfl, hl, q2⟩ | ⟨n2, q2⟩
      · rw [List.getElem?_set_self (by rw [← s.len]; exact hl)] at e4
        cases e4
        exact absurd e3 (h5 j l q)
      · rw [List.getElem?_set_ne (Ne.symm n2)] at e4
        exact s.sep j k l m b q q2 e3 e4
  dic := fun j ks l e => by
    rcases set_get e with ⟨rfl, hl, q⟩ | ⟨n, q⟩
    · cases q
    · rw [List.getElem?_set_ne (Ne.symm n)]
      exact s.dic j ks l q
  sepd := fun j k ks ks' l m a e1 e2 e3 e4 => by
    rcases set_get e1 with ⟨rfl, hl, q⟩ | ⟨n, q⟩
    · cases q
    rcases set_get e2 with ⟨rfl, hl, q2⟩ | ⟨n2, q2⟩
    · cases q2
    rw [List.getElem?_set_ne (Ne.symm n)] at e3
    rw [List.getElem?_set_ne (Ne.symm n2)] at e4
    exact s.sepd j k ks ks' l m a q q2 e3 e4
theorem tabs_put {p : Pn} {H : Hp} {a : Addr} {xs ys : List V} (t : Tab3 p H) (h : H a = some (.lst xs)) : Tab3 p (upd H a (.lst ys)) := ⟨fun q hq => by
  obtain ⟨ps, h1, h2, h3⟩ := t.tabs q hq
  refine ⟨ps, by rw [upd_ne (ne_of h1 h (fun z => nomatch z))]; exact h1, h2, fun pos cv hc => ?_⟩
  obtain ⟨c, e1, e2⟩ := h3 pos cv hc
  exact ⟨c, e1, by rw [upd_ne (ne_of e2 h (fun z => nomatch z))]; exact e2⟩, fun q hq => by
  have e2 := t.cod q hq
  rw [upd_ne (ne_of e2 h (fun z => nomatch z))]; exact e2⟩
/-- an own list is changed -/
theorem SSt.put (s : SSt K p c ρ σ F H F0 H0) {i : Nat} {l l' : List D} {a : Addr} {xs' : List V} (hi : ρ[i]? = some (SV.own l)) (ha : σ[i]? = some (some (V.ref a))) (r : RepL K p F l' xs') :
    SSt K p c (ρ.set i (SV.own l')) σ F (upd H a (.lst xs')) F0 H0 := by
  obtain ⟨a', xs, e1, e2, e3, e4, e5, r0⟩ := s.own i l hi
  rw [ha] at e1
  cases e1
  have neF : ∀ b o, F b = some o → b ≠ a := fun b o h => ne_of_none h e3
  refine ⟨⟨fun b o h => by rw [upd_ne (neF b o h)]; exact s.ok.sub b o h, fun b hb => ?_, tabs_put s.ok.tab e2, s.ok.nt⟩, ⟨s.ent.frz, fun b o h n t => by rw [upd_ne (ne_of_none h e4)]; exact s.ent.keep b o h n t, s.ent.new, fun b h => ?_⟩, by rw [List.length_set, s.len], fun j d e => ?_, fun j m e => ?_, fun j k m m' b f1 f2 f3 f4 => ?_, fun j ks m e => ?_, fun j k ks ks' m m' b f1 f2 f3 f4 => ?_⟩
  · obtain ⟨⟨x, y, z, q, w⟩, n⟩ := s.ok.pot b hb
    have ne : b ≠ a := fun e => e5 (e ▸ hb)
    exact ⟨⟨x, y, z, by rw [upd_ne ne]; exact q, w⟩, n⟩
  · by_cases e : b = a
    · subst e; exact e4
    · rw [upd_ne e] at h; exact s.ent.there b h
  · rcases set_get e with ⟨rfl, hl, q⟩ | ⟨n, q⟩
    · cases q
    · exact s.val j d q
  · rcases set_get e with ⟨rfl, hl, q⟩ | ⟨n, q⟩
    · cases q
      exact ⟨a, xs', ha, upd_same, e3, e4, e5, r⟩
    · obtain ⟨b, ys, g1, g2, g3, g4, g5, g6⟩ := s.own j m q
      have ne : b ≠ a := fun e => n (s.sep j i m l a q hi (e ▸ g1) ha)
      exact ⟨b, ys, g1, by rw [upd_ne ne]; exact g2, g3, g4, g5, g6⟩
  · have get : ∀ {j : Nat} {m : List D}, (ρ.set i (SV.own l'))[j]? = some (SV.own m) → ∃ m', ρ[j]? = some (SV.own m') := fun {j m} e => by
      rcases set_get e with ⟨rfl, hl, q⟩ | ⟨n, q⟩
      · exact ⟨l, hi⟩
      · exact ⟨m, q⟩
    obtain ⟨_, q1⟩ := get f1
    obtain ⟨_, q2⟩ := get f2
    exact s.sep j k _ _ b q1 q2 f3 f4
  · rcases set_get e with ⟨rfl, hl, q⟩ | ⟨n, q⟩
    · cases q
    · obtain ⟨b, o, ys, g1, g2, g3, g4, g5, g6, g7⟩ := s.dic j ks m q
      have ne : b ≠ a := fun e => by rw [e, e2] at g2; cases g2; exact g6.no (fun _ q => nomatch q) (fun _ q => nomatch q)
      exact ⟨b, o, ys, g1, by rw [upd_ne ne]; exact g2, g3, g4, g5, g6, g7⟩
  · rcases set_get f1 with ⟨rfl, hl, q⟩ | ⟨n, q⟩
    · cases q
    rcases set_get f2 with ⟨rfl, hl, q2⟩ | ⟨n2, q2⟩
    · cases q2
    exact s.sepd j k ks ks' m m' b q q2 f3 f4
/-- an own list is given away -/
theorem SSt.frz (s : SSt K p c ρ σ F H F0 H0) (i : Nat) : ∃ F', SSt K p c (frz3 i ρ) σ F' H F0 H0 := by
  unfold frz3
  split
  · rename_i l hi
    obtain ⟨a, xs, e1, e2, e3, e4, e5, r0⟩ := s.own i l hi
    have neF : ∀ b o, F b = some o → b ≠ a := fun b o h => ne_of_none h e3
    have up : ∀ b o, F b = some o → upd F a (.lst xs) b = some o := fun b o h => by rw [upd_ne (neF b o h)]; exact h
    refine ⟨upd F a (.lst xs), ⟨fun b o h => ?_, fun b hb => ?_, s.ok.tab, nt_upd s.ok.nt a xs e3⟩, ⟨fun b o h => up b o (s.ent.frz b o h), s.ent.keep, fun b o h => ?_, s.ent.there⟩, by rw [List.length_set, s.len], fun j d e => ?_, fun j m e => ?_, fun j k m m' b f1 f2 f3 f4 => ?_, fun j ks m e => ?_, fun j k ks ks' m m' b f1 f2 f3 f4 => ?_⟩
    · by_cases e : b = a
      · subst e; rw [upd_same] at h; cases h; exact e2
      · rw [upd_ne e] at h; exact s.ok.sub b o h
    · obtain ⟨q, n⟩ := s.ok.pot b hb
      have ne : b ≠ a := fun e => e5 (e ▸ hb)
      exact ⟨q, by rw [upd_ne ne]; exact n⟩
    · by_cases e : b = a
      · subst e; exact .inr (.inl e4)
      · rw [upd_ne e] at h; exact s.ent.new b o h
    · rcases set_get e with ⟨rfl, hl, q⟩ | ⟨n, q⟩
      · cases q
        exact ⟨_, e1, a, xs, rfl, upd_same, r0.mono up⟩
      · obtain ⟨v, g1, g2⟩ := s.val j d q
        exact ⟨v, g1, g2.mono up⟩
    · rcases set_get e with ⟨rfl, hl, q⟩ | ⟨n, q⟩
      · cases q
      · obtain ⟨b, ys, g1, g2, g3, g4, g5, g6⟩ := s.own j m q
        have ne : b ≠ a := fun e => n (s.sep j i m l a q hi (e ▸ g1) e1)
        exact ⟨b, ys, g1, g2, by rw [upd_ne ne]; exact g3, g4, g5, g6.mono up⟩
    · rcases set_get f1 with ⟨rfl, hl, q⟩ | ⟨n, q⟩
      · cases q
      rcases set_get f2 with ⟨rfl, hl, q2⟩ | ⟨n2, q2⟩
      · cases q2
      exact s.sep j k m m' b q q2 f3 f4
    · rcases set_get e with ⟨rfl, hl, q⟩ | ⟨n, q⟩
      · cases q
      · obtain ⟨b, o, ys, g1, g2, g3, g4, g5, g6, g7⟩ := s.dic j ks m q
        have ne : b ≠ a := fun e => by rw [e, e2] at g2; cases g2; exact g6.no (fun _ q => nomatch q) (fun _ q => nomatch q)
        exact ⟨b, o, ys, g1, g2, by rw [upd_ne ne]; exact g3, g4, g5, g6, g7.mono up⟩
    · rcases set_get f1 with ⟨rfl, hl, q⟩ | ⟨n, q⟩
      · cases q
      rcases set_get f2 with ⟨rfl, hl, q2⟩ | ⟨n2, q2⟩
      · cases q2
      exact s.sepd j k ks ks' m m' b q q2 f3 f4
  · exact ⟨F, s⟩
open Classical in
/-- all own lists lent to an expression -/
theorem SSt.lend (s : SSt K p c ρ σ F H F0 H0) : ∃ F2, ESt K p c (ρ.map vB) σ F2 H ∧ Fwd p F0 H0 F2 H ∧
    ∀ c' F' H', Fwd p F2 H F' H' → Ok3 p c' F' H' → ∃ F3, SSt K p c' ρ σ F3 H' F0 H0 ∧ Fwd p F H F3 H' ∧ (∀ d v, noLst d = true → Rep K p F' d v → Rep K p F3 d v) ∧ (∀ l xs, noLstL l = true → RepL K p F' l xs → RepL K p F3 l xs) ∧ ∀ b, F' b = none → F3 b = none := by
  let o : Addr → Prop := fun b => (∃ (i : Nat) (l : List D), ρ[i]? = some (SV.own l) ∧ σ[i]? = some (some (V.ref b))) ∨ ∃ (i : Nat) (ks : Ks) (l : List D), ρ[i]? = some (SV.dic ks l) ∧ σ[i]? = some (some (V.ref b))
  have oH : ∀ b, o b → ∃ u, H b = some u ∧ F b = none ∧ H0 b = none ∧ p.pot ≠ some b ∧ ((∃ xs, u = .lst xs) ∨ ∃ ks vs, DicO ks vs u) := fun b hb => by
    rcases hb with ⟨i, l, e1, e2⟩ | ⟨i, ks, l, e1, e2⟩
    · obtain ⟨a, xs, g1, g2, g3, g4, g5, _⟩ := s.own i l e1
      rw [e2] at g1
      cases g1
      exact ⟨_, g2, g3, g4, g5, .inl ⟨xs, rfl⟩⟩
    · obtain ⟨a, o, xs, g1, g2, g3, g4, g5, g6, _⟩ := s.dic i ks l e1
      rw [e2] at g1
      cases g1
      exact ⟨_, g2, g3, g4, g5, .inr ⟨ks, xs, g6⟩⟩
  let F2 : Hp := fun b => if o b then H b else F b
  have F2o : ∀ b, o b → F2 b = H b := fun b h => if_pos h
  have F2n : ∀ b, ¬ o b → F2 b = F b := fun b h => if_neg h
  have up : ∀ b u, F b = some u → F2 b = some u := fun b u h => by
    by_cases q : o b
    · obtain ⟨_, _, z, _⟩ := oH b q
      rw [h] at z; cases z
    · rw [F2n b q]; exact h
  have ok2 : Ok3 p c F2 H := ⟨fun b u h => by
    by_cases q : o b
    · rw [F2o b q] at h; exact h
    · rw [F2n b q] at h; exact s.ok.sub b u h, fun b hb => by
      obtain ⟨q, n⟩ := s.ok.pot b hb
      refine ⟨q, ?_⟩
      by_cases z : o b
      · obtain ⟨_, _, _, _, e, _⟩ := oH b z
        exact absurd hb e
      · rw [F2n b z]; exact n, s.ok.tab, ⟨fun b ps h => by
      by_cases z : o b
      · rw [F2o b z] at h
        obtain ⟨ys, z1, _, _, _, zz⟩ := oH b z
        rw [z1] at h; cases h
        rcases zz with ⟨_, q⟩ | ⟨_, _, q⟩
        · cases q
        · exact q.no (fun _ q => nomatch q) (fun _ q => nomatch q)
      · rw [F2n b z] at h; exact s.ok.nt.t b ps h, fun b u h => up b u (s.ok.nt.f b u h)⟩⟩
  refine ⟨F2, ⟨ok2, fun i d e => ?_, by rw [List.length_map, s.len]⟩, ⟨fun b u h => up b u (s.ent.frz b u h), s.ent.keep, fun b u h => ?_, s.ent.there⟩, fun c' F' H' w ok' => ?_⟩
  · obtain ⟨x, e1, e2⟩ := (get3_map vB ρ i d).mp e
    cases x with
    | no => cases e2
    | val d' =>
      cases e2
      obtain ⟨v, g1, g2⟩ := s.val i _ e1
      exact ⟨v, g1, g2.mono up⟩
    | own l =>
      cases e2
      obtain ⟨a, xs, g1, g2, g3, g4, g5, g6⟩ := s.own i l e1
      exact ⟨_, g1, a, xs, rfl, by rw [F2o a (.inl ⟨i, l, e1, g1⟩)]; exact g2, g6.mono up⟩
    | dic ks l =>
      cases e2
      obtain ⟨a, o, xs, g1, g2, g3, g4, g5, g6, g7⟩ := s.dic i ks l e1
      exact ⟨_, g1, a, o, xs, rfl, by rw [F2o a (.inr ⟨i, ks, l, e1, g1⟩)]; exact g2, g6, g7.mono up⟩
  · by_cases q : o b
    · obtain ⟨_, _, _, z, _⟩ := oH b q
      exact .inr (.inl z)
    · rw [F2n b q] at h; exact s.ent.new b u h
  · let F3 : Hp := fun b => if o b then none else F' b
    have F3o : ∀ b, o b → F3 b = none := fun b h => if_pos h
    have F3n : ∀ b, ¬ o b → F3 b = F' b := fun b h => if_neg h
    have up3 : ∀ b u, F b = some u → F3 b = some u := fun b u h => by
      by_cases q : o b
      · obtain ⟨_, _, z, _⟩ := oH b q
        rw [h] at z; cases z
      · rw [F3n b q]; exact w.frz b u (up b u h)
    have w3 : Fwd p F H F3 H' := ⟨up3, w.keep, fun b u h => by
      by_cases q : o b
      · rw [F3o b q] at h; cases h
      · rw [F3n b q] at h
        rcases w.new b u h with z | z
        · rw [F2n b q] at z; exact .inl z
        · exact .inr z, w.there⟩
    have ok3 : Ok3 p c' F3 H' := ⟨fun b u h => by
      by_cases q : o b
      · rw [F3o b q] at h; cases h
      · rw [F3n b q] at h; exact ok'.sub b u h, fun b hb => by
        obtain ⟨q, n⟩ := ok'.pot b hb
        refine ⟨q, ?_⟩
        by_cases z : o b
        · exact F3o b z
        · rw [F3n b z]; exact n, ok'.tab, ⟨fun b ps h => by
        by_cases z : o b
        · rw [F3o b z] at h; cases h
        · rw [F3n b z] at h; exact ok'.nt.t b ps h, fun b u h => up3 b u (s.ok.nt.f b u h)⟩⟩
    have tups : ∀ a xs, SqT K F' a xs → SqT K F3 a xs := fun a xs h => by
      have no : ∀ u, (∀ ys, u ≠ HO.lst ys) → (∀ ks vs, ¬ DicO ks vs u) → F' a = some u → F3 a = some u := fun u hu hu2 e => by
        rw [F3n a fun q => ?_]
        · exact e
        · obtain ⟨u', z1, _, _, z4, zz⟩ := oH a q
          have := w.keep a _ z1 z4 (fun _ z => by
            rcases zz with ⟨_, rfl⟩ | ⟨_, _, q⟩
            · exact nomatch z
            · exact q.no (fun _ q => nomatch z.symm.trans q) (fun _ q => nomatch z.symm.trans q))
          rw [ok'.sub a u e] at this
          rcases zz with ⟨ys, rfl⟩ | ⟨ks, vs, q⟩
          · exact hu ys (Option.some.inj this)
          · exact hu2 ks vs (by rw [Option.some.inj this]; exact q)
      rcases h with (h | ⟨u, h⟩) | h
      · exact .inl (.inl (no _ (fun _ z => nomatch z) (fun _ _ z => z.no (fun _ q => nomatch q) (fun _ q => nomatch q)) h))
      · exact .inl (.inr ⟨u, no _ (fun _ z => nomatch z) (fun _ _ z => z.no (fun _ q => nomatch q) (fun _ q => nomatch q)) h⟩)
      · exact .inr h
    have noO : ∀ a o, (∀ ys, o ≠ HO.lst ys) → (∀ ks vs, ¬ DicO ks vs o) → F' a = some o → F3 a = some o := fun a u hu hu2 e => by
      rw [F3n a fun q => ?_]
      · exact e
      · obtain ⟨u', z1, _, _, z4, zz⟩ := oH a q
        have := w.keep a _ z1 z4 (fun _ z => by
            rcases zz with ⟨_, rfl⟩ | ⟨_, _, q⟩
            · exact nomatch z
            · exact q.no (fun _ q => nomatch z.symm.trans q) (fun _ q => nomatch z.symm.trans q))
        rw [ok'.sub a u e] at this
        rcases zz with ⟨ys, rfl⟩ | ⟨ks, vs, q⟩
        · exact hu ys (Option.some.inj this)
        · exact hu2 ks vs (by rw [Option.some.inj this]; exact q)
    exact ⟨F3, s.fwd w3 ok3, w3, fun d v n r => r.tups tups noO n, fun l xs n r => r.tups tups noO n, fun b h => by
      by_cases q : o b
      · exact F3o b q
      · rw [F3n b q]; exact h⟩
end
structure TellS (K : PySem.W.Frag) (p : Pn) (F0 H0 : Hp) (E : End3) (D : Ends) : Prop where
  nx : ∀ c ρ σ F H, SSt K p c ρ σ F H F0 H0 → E.nx ρ c → D.nx σ H
  bk : ∀ c ρ σ F H, SSt K p c ρ σ F H F0 H0 → E.bk ρ c → D.bk σ H
  ct : ∀ c ρ σ F H, SSt K p c ρ σ F H F0 H0 → E.ct ρ c → D.ct σ H
  rt : Tell K p F0 H0 E.rt D.rt
def tS (K : PySem.W.Frag) (g : FS) : TS := fun D σ H => ∃ p c ρ F F0 H0 E, SSt K p c ρ σ F H F0 H0 ∧ g E ρ c ∧ TellS K p F0 H0 E D
abbrev SX (X : Cx) (st : Stmt) (g : FS) : Prop := PS X st (tS X.K g)
abbrev BX (X : Cx) (sts : List Stmt) (g : FS) : Prop := PSs X sts (tS X.K g)
/-- a target; is: the slots it stores -/
structure GX (X : Cx) (tg : Expr) (is : List Nat) (g : FG) : Prop where
  ex : ∃ gl, PG X tg gl ∧ ∀ p c ρ σ F H F0 H0 d v k kk, SSt X.K p c ρ σ F H F0 H0 → Rep X.K p F d v → g d ρ k →
    (∀ ρ' σ', SSt X.K p c ρ' σ' F H F0 H0 → σ'.length = σ.length → (∀ j, j ∉ is → σ'[j]? = σ[j]?) → k ρ' → kk σ' H) → gl v σ H kk
structure GsX (X : Cx) (tgs : List Expr) (is : List Nat) (g : FGs) : Prop where
  ex : ∃ gl, PGs X tgs gl ∧ ∀ p c ρ σ F H F0 H0 d v k kk, SSt X.K p c ρ σ F H F0 H0 → RepL X.K p F d v → g d ρ k →
    (∀ ρ' σ', SSt X.K p c ρ' σ' F H F0 H0 → σ'.length = σ.length → (∀ j, j ∉ is → σ'[j]? = σ[j]?) → k ρ' → kk σ' H) → gl v σ H kk
section
variable {X : Cx} {pos : Pos}
theorem gx_name (i : Nat) {x : Str} (hN : X.N.Nodup) (hi : X.N[i]? = some x := by rfl) (hx : Loc X.env.scope x := by first | exact Or.inl rfl | exact Or.inr rfl) (hf : X.fn x = true ∨ X.env.scope.names.lookup x = some .local := by first | exact .inl rfl | exact .inr rfl) : GX X (.Name x pos) [i] (gN i) :=
  ⟨gName i, pg_name hN hi hx hf, fun p c ρ σ F H F0 H0 d v k kk s r h q => q _ _ (s.set i r) (List.length_set ..) (fun j hj => List.getElem?_set_ne (fun e => hj (by simp [e]))) h⟩
theorem gsx_nil : GsX X [] [] gsNil := ⟨gNil, pgs_nil, fun p c ρ σ F H F0 H0 d v k kk s r h q => by
  unfold gsNil at h
  split at h
  · cases r
    exact ⟨rfl, q _ _ s rfl (fun _ _ => rfl) h⟩
  · exact h.elim⟩
theorem gsx_cons {e : Expr} {es : List Expr} {is js : List Nat} {g : FG} {gs : FGs} (h1 : GX X e is g) (h2 : GsX X es js gs)
    (hs : (assignEach (e :: es) X.env).map (·.2) = assign e X.env :: (assignEach es X.env).map (·.2) := by rfl) : GsX X (e :: es) (is ++ js) (gsCons g gs) := by
  obtain ⟨g1, p1, k1⟩ := h1.ex
  obtain ⟨g2, p2, k2⟩ := h2.ex
  refine ⟨gCons g1 g2, pgs_cons p1 p2 hs, fun p c ρ σ F H F0 H0 d v k kk s r h q => ?_⟩
  unfold gsCons at h
  split at h
  · rename_i d ds
    obtain ⟨x, xr, rfl, r1, r2⟩ := r
    refine ⟨x, xr, rfl, k1 p c ρ σ F H F0 H0 _ _ _ _ s r1 h fun ρ' σ' s' l1 e1 h' => ?_⟩
    refine k2 p c ρ' σ' F H F0 H0 _ _ _ _ s' r2 h' fun ρ2 σ2 s2 l2 e2 h2 => ?_
    exact q ρ2 σ2 s2 (l2.trans l1) (fun j hj => (e2 j fun z => hj (List.mem_append_right _ z)).trans (e1 j fun z => hj (List.mem_append_left _ z))) h2
  · exact h.elim
/-! ### statements -/
variable {st : Stmt} {rest : List Stmt} {e : Expr} {fe : FE} {g a b : FS}
theorem bx_nil : BX X [] sNil := PSs.imp pss_nil fun D σ H ⟨p, c, ρ, F, F0, H0, E, s, h, t⟩ => t.nx c ρ σ F H s h
theorem bx_cons (h1 : SX X st a) (h2 : BX X rest b) : BX X (st :: rest) (sSeq a b) := PSs.imp (pss_cons h1 h2) fun D σ H ⟨p, c, ρ, F, F0, H0, E, s, h, t⟩ =>
  ⟨p, c, ρ, F, F0, H0, _, s, h, fun c1 ρ1 σ1 F1 H1 s1 q => ⟨p, c1, ρ1, F1, F0, H0, E, s1, q, t⟩, t.bk, t.ct, t.rt⟩
theorem bx_one (h1 : SX X st a) : BX X [st] a := pss_one h1
theorem bx_never {sts : List Stmt} : BX X sts sNever := PSs.imp pss_never fun D σ H ⟨p, c, ρ, F, F0, H0, E, s, h, t⟩ => h.elim
theorem sx_never : SX X st sNever := PS.imp ps_never fun D σ H ⟨p, c, ρ, F, F0, H0, E, s, h, t⟩ => h.elim
theorem sx_pass : SX X (.Pass pos) sNil := PS.imp ps_pass fun D σ H ⟨p, c, ρ, F, F0, H0, E, s, h, t⟩ => t.nx c ρ σ F H s h
theorem sx_break : SX X (.Break pos) sBreak := PS.imp ps_break fun D σ H ⟨p, c, ρ, F, F0, H0, E, s, h, t⟩ => t.bk c ρ σ F H s h
theorem sx_cont : SX X (.Continue pos) sCont := PS.imp ps_continue fun D σ H ⟨p, c, ρ, F, F0, H0, E, s, h, t⟩ => t.ct c ρ σ F H s h
theorem sx_frz (i : Nat) (h : SX X st g) : SX X st (sFrz i g) := PS.imp h fun D σ H ⟨p, c, ρ, F, F0, H0, E, s, h, t⟩ =>
  let ⟨F', s'⟩ := s.frz i
  ⟨p, c, _, F', F0, H0, E, s', h, t⟩
theorem sx_asg {tg : Expr} {is : List Nat} {gg : FG} (he : EX X e fe) (hg : GX X tg is gg) (hs : swapsWithSole [tg] e pos.line X.env = pure false := by rfl) (hw : swappedStores [tg] e X.env = pure none := by rfl)
    (h1 : (assignEach [tg] X.env).map (·.2) = [assign tg X.env] := by rfl) : SX X (.Assign [tg] e pos) (sAsg gg fe) := by
  obtain ⟨gl, pg, kg⟩ := hg.ex
  refine PS.imp (ps_asg he pg hs hw h1) fun D σ H ⟨p, c, ρ, F, F0, H0, E, s, h, t⟩ => ⟨p, c, _, F, _, s.e, h, fun d c1 v F1 H1 w1 ok1 r1 q1 => ?_⟩
  exact kg p c1 ρ σ F1 H1 F0 H0 d v _ _ (s.fwd w1 ok1) r1 q1 fun ρ' σ' s' _ _ h' => t.nx c1 ρ' σ' F1 H1 s' h'
theorem sx_asgB {tg : Expr} {is : List Nat} {gg : FG} (he : EX X e fe) (hg : GX X tg is gg) (hs : swapsWithSole [tg] e pos.line X.env = pure false := by rfl) (hw : swappedStores [tg] e X.env = pure none := by rfl)
    (h1 : (assignEach [tg] X.env).map (·.2) = [assign tg X.env] := by rfl) : SX X (.Assign [tg] e pos) (sAsgB gg fe) := by
  obtain ⟨gl, pg, kg⟩ := hg.ex
  refine PS.imp (ps_asg he pg hs hw h1) fun D σ H ⟨p, c, ρ, F, F0, H0, E, s, h, t⟩ => ?_
  obtain ⟨F2, es, w2, k⟩ := s.lend
  refine ⟨p, c, _, F2, _, es, h, fun d c1 v F1 H1 w1 ok1 r1 q1 => ?_⟩
  obtain ⟨F3, s3, _, k1, _⟩ := k c1 F1 H1 w1 ok1
  exact kg p c1 ρ σ F3 H1 F0 H0 d v _ _ s3 (k1 d v q1.1 r1) q1.2 fun ρ' σ' s' _ _ h' => t.nx c1 ρ' σ' F3 H1 s' h'
theorem sx_expr (he : EX X e fe) (hs : swapsWith e none pos.line X.env = pure false := by rfl) : SX X (.Expr e pos) (sExpr fe) := PS.imp (ps_expr he hs) fun D σ H ⟨p, c, ρ, F, F0, H0, E, s, h, t⟩ => by
  obtain ⟨F2, es, w2, k⟩ := s.lend
  refine ⟨p, c, _, F2, _, es, h, fun d c1 v F1 H1 w1 ok1 r1 q1 => ?_⟩
  obtain ⟨F3, s3, _⟩ := k c1 F1 H1 w1 ok1
  exact t.nx c1 ρ σ F3 H1 s3 q1
theorem sx_ret (he : EX X e fe) : SX X (.Return (some e) pos) (sRet fe) := PS.imp (ps_ret he) fun D σ H ⟨p, c, ρ, F, F0, H0, E, s, h, t⟩ => by
  obtain ⟨F2, es, w2, k⟩ := s.lend
  exact ⟨p, c, _, F2, _, es, h, t.rt.fwd w2⟩
theorem sx_retN : SX X (.Return none pos) sRetN := PS.imp ps_retN fun D σ H ⟨p, c, ρ, F, F0, H0, E, s, h, t⟩ => t.rt .non c .non F H s.ent s.ok rfl h
theorem sx_if {cd : Expr} {sa sb : List Stmt} {f : FT} (hc : TX X cd f) (ha : BX X sa a) (hb : BX X sb b) : SX X (.If cd sa sb pos) (sIf f a b) := PS.imp (ps_if hc ha hb) fun D σ H ⟨p, c, ρ, F, F0, H0, E, s, h, t⟩ => by
  obtain ⟨F2, es, w2, k⟩ := s.lend
  refine ⟨p, c, _, F2, _, es, h, fun d c1 F1 H1 w1 ok1 q1 => ?_⟩
  obtain ⟨F3, s3, _⟩ := k c1 F1 H1 w1 ok1
  cases d with
  | true => exact ⟨p, c1, ρ, F3, F0, H0, E, s3, q1, t⟩
  | false => exact ⟨p, c1, ρ, F3, F0, H0, E, s3, q1, t⟩
theorem sx_aug (i : Nat) {x : Str} {op : Operator} {r : R2} {g : D → D → Nat → KD → Prop} {pos' : Pos} (ho : OpR X (inplaceOp op) r) (sp : OpS X.K r g) (he : EX X e fe) (hN : X.N.Nodup) (hi : X.N[i]? = some x := by rfl) (hx : Loc X.env.scope x := by first | exact Or.inl rfl | exact Or.inr rfl)
    (hf : X.fn x = true ∨ X.env.scope.names.lookup x = some .local := by first | exact .inl rfl | exact .inr rfl) : SX X (.AugAssign (.Name x pos') op e pos) (sAug i g fe) := PS.imp (ps_aug hN hi hx he (ti := r) ho hf) fun D σ H ⟨p, c, ρ, F, F0, H0, E, s, h, t⟩ => by
  unfold sAug at h
  split at h
  · rename_i x e
    obtain ⟨v, e1, r1⟩ := s.val i x e
    obtain ⟨F2, es, w2, k⟩ := s.lend
    refine ⟨v, e1, p, c, _, F2, _, es, h, fun y c1 u F1 H1 w1 ok1 r2 q1 => ?_⟩
    obtain ⟨F3, s3, w3, k1, _⟩ := k c1 F1 H1 w1 ok1
    refine sp p c1 F3 H1 x y v u _ _ s3.ok (r1.mono w3.frz) (k1 _ _ q1.1 r2) q1.2 fun z c4 v4 F4 H4 w4 ok4 r4 q4 => ?_
    exact t.nx c4 _ _ F4 H4 ((s3.fwd w4 ok4).set i r4) q4.2
  · exact h.elim
end
end L3

/-! L3, own lists, loops, comprehensions, defs. -/
namespace L3
open PySem PySem.Spec PyProof.Rows L2
/-! ### new lists -/
abbrev FL := Rho → Nat → (List D → Nat → Prop) → Prop
def tF (K : PySem.W.Frag) (f : FL) : TE := fun σ H Q => ∃ p c ρ F Q', ESt K p c ρ σ F H ∧ f ρ c Q' ∧
  ∀ l c' a xs F' H', Fwd p F H F' H' → Ok3 p c' F' H' → H a = none → F' a = none → p.pot ≠ some a → H' a = some (.lst xs) → RepL K p F' l xs → Q' l c' → Q (.ref a) H'
abbrev FX (X : Cx) (e : Expr) (f : FL) : Prop := PE X e (tF X.K f)
section
variable {K : PySem.W.Frag} {X : Cx} {e a b : Expr} {es : List Expr} {f : FL} {fa fb : FE} {fr : FA} {pos : Pos}
/-- one new list onto a state -/
theorem layL {p : Pn} {c : Nat} {F H F1 H1 : Hp} (w : Fwd p F H F1 H1) (ok : Ok3 p c F1 H1) {q : Addr} (nq : H1 q = none) (xs : List V) :
    Fwd p F H F1 (upd H1 q (.lst xs)) ∧ Ok3 p c F1 (upd H1 q (.lst xs)) ∧ H q = none ∧ F1 q = none ∧ p.pot ≠ some q := by
  have nF : F1 q = none := by
    cases e : F1 q with
    | none => rfl
    | some u => rw [ok.sub q u e] at nq; cases nq
  have np : p.pot ≠ some q := fun e => by
    obtain ⟨⟨x, y, z, h, _⟩, _⟩ := ok.pot q e
    rw [nq] at h; cases h
  refine ⟨⟨w.frz, fun b u h n t => ?_, w.new, fun b h => ?_⟩, ⟨fun b u h => ?_, fun b e => ?_, ok.tab.ext fun b u h => by rw [upd_ne (ne_of_none h nq)]; exact h, ok.nt⟩, w.there q nq, nF, np⟩
  · have := w.keep b u h n t
    rw [upd_ne (ne_of_none this nq)]; exact this
  · by_cases e : b = q
    · subst e; exact w.there _ nq
    · rw [upd_ne e] at h; exact w.there b h
  · rw [upd_ne (ne_of_none h nF)]; exact ok.sub b u h
  · obtain ⟨⟨x, y, z, h, r⟩, n⟩ := ok.pot b e
    exact ⟨⟨x, y, z, by rw [upd_ne (ne_of_none h nq)]; exact h, r⟩, n⟩
@[simp ↓] def fLst (fa : FA) : FL := fun ρ c Q => fa ρ c fun l c => l.length ≤ 16777216 ∧ Q l c
theorem fx_lst (h : AX X es fr) : FX X (.List es pos) (fLst fr) := PE.imp (pe_lst h) fun σ H Q ⟨p, c, ρ, F, Q', es, h, t⟩ =>
  ⟨p, c, ρ, F, _, es, h, fun l c1 vs F1 H1 w1 ok1 r1 q1 => ⟨by rw [line16, r1.len]; exact q1.1, fun q nq => by
    obtain ⟨w, ok, n1, n2, n3⟩ := layL w1 ok1 nq vs
    exact t l c1 q vs F1 _ w ok n1 n2 n3 upd_same r1 q1.2⟩⟩
/-- list(e) -/
@[simp ↓] def fList (fa : FE) : FL := fun ρ c Q => fa ρ c fun x c => match x with
  | .lst l => Q l c
  | .tup l => Q l c
  | _ => False
theorem fx_list {x : Str} {p : Pos} (hm : X.mg x = none) (hv : bootBuiltins x = some (.type "list")) (ha : EX X e fa) (hg : Gl X x := by rfl) (hn : x ≠ "__name__" := by decide) (hdb : (x == ("__debug__" : Str)) = false := by decide)
    (hs : starEach [e] X.env = (false, eval e X.env) :: starEach [] X.env := by rfl) : FX X (.Call (.Name x p) [e] [] pos) (fList fa) := PE.imp (pe_callTy call_list_of hg hm hv (pa_cons ha pa_nil hs) hn hdb hs rfl) fun σ H Q ⟨p, c, ρ, F, Q', es, h, t⟩ =>
  ⟨p, c, ρ, F, _, es, h, fun d c1 v F1 H1 w1 ok1 r1 q1 => by
    split at q1
    · obtain ⟨b, xs, rfl, h1, rl⟩ := r1
      exact ⟨b, xs, rfl, .inl (.of (ok1.sub _ _ h1)), fun q nq => by
        obtain ⟨w, ok, n1, n2, n3⟩ := layL w1 ok1 nq xs
        exact t _ c1 q xs F1 _ w ok n1 n2 n3 upd_same rl q1⟩
    · obtain ⟨b, xs, rfl, h1, rl⟩ := r1
      exact ⟨b, xs, rfl, .inr (ok1.sqT h1), fun q nq => by
        obtain ⟨w, ok, n1, n2, n3⟩ := layL w1 ok1 nq xs
        exact t _ c1 q xs F1 _ w ok n1 n2 n3 upd_same rl q1⟩
    · exact q1.elim⟩
/-- a + b, lists -/
@[simp ↓] def fCat (fa fb : FE) : FL := fun ρ c Q => fa ρ c fun x c => fb ρ c fun y c => match x, y with
  | .lst l, .lst m => l.length + m.length ≤ 16777216 ∧ Q (l ++ m) c
  | _, _ => False
theorem fx_cat (ha : EX X a fa) (hb : EX X b fb) : FX X (.BinOp a .Add b pos) (fCat fa fb) := PE.imp (pe_op op_cat ha hb) fun σ H Q ⟨p, c, ρ, F, Q', es, h, t⟩ =>
  ⟨p, c, ρ, F, _, es, h, fun x c1 v F1 H1 w1 ok1 r1 q1 => ⟨p, c1, ρ, F1, _, es.fwd w1 ok1, q1, fun y c2 u F2 H2 w2 ok2 r2 q2 => by
    split at q2
    · obtain ⟨b, xs, rfl, h1, rl⟩ := r1.mono w2.frz
      obtain ⟨b', ys, rfl, h2, rl'⟩ := r2
      exact ⟨b, b', xs, ys, rfl, rfl, ok2.sub _ _ h1, ok2.sub _ _ h2, by rw [line16, rl.len, rl'.len]; exact q2.1, fun q nq => by
        obtain ⟨w, ok, n1, n2, n3⟩ := layL (w1.trans w2) ok2 nq (xs ++ ys)
        exact t _ c2 q _ F2 _ w ok n1 n2 n3 upd_same (rl.app rl') q2.2⟩
    · exact q2.elim⟩⟩
/-- e[lo:hi], a list -/
@[simp ↓] def fSl (fe : FE) (lo hi : FO) : FL := fun ρ c Q => fe ρ c fun x c => lo ρ c fun a c => hi ρ c fun b c => match x with | .lst l => Q (cutD l a b) c | _ => False
theorem fx_sl {p2 : Pos} {lo hi : Option Expr} {fl fh : FO} (ha : EX X e fa) (hl : OX X lo fl) (hh : OX X hi fh) : FX X (.Subscript e (.Slice lo hi none p2) pos) (fSl fa fl fh) := by
  obtain ⟨tl, pl, kl⟩ := hl.ex
  obtain ⟨th, ph, kh⟩ := hh.ex
  refine PE.imp (pe_slice sl_list ha pl ph) fun σ H Q ⟨p, c, ρ, F, Q', es, h, t⟩ => ⟨p, c, ρ, F, _, es, h, fun x c1 v F1 H1 w1 ok1 r1 q1 => ?_⟩
  refine kl σ H1 p c1 ρ F1 _ _ (es.fwd w1 ok1) q1 fun i c2 F2 H2 w2 ok2 q2 => ?_
  have w12 := w1.trans w2
  refine kh σ H2 p c2 ρ F2 _ _ (es.fwd w12 ok2) q2 fun j c3 F3 H3 w3 ok3 q3 => ?_
  have w13 := w12.trans w3
  have r3 := (r1.mono w2.frz).mono w3.frz
  split at q3
  · obtain ⟨b, xs, rfl, h1, rl⟩ := r3
    exact ⟨b, xs, rfl, .of (ok3.sub _ _ h1), fun q nq => by
      obtain ⟨w, ok, n1, n2, n3⟩ := layL w13 ok3 nq (cutV xs i j)
      exact t _ c3 q _ F3 _ w ok n1 n2 n3 upd_same (rl.cut i j) q3⟩
  · exact q3.elim
/-- a new list as a value -/
theorem fx_ex {g : FE} (h : FX X e f) (hg : ∀ ρ c Q, g ρ c Q → f ρ c fun l c => Q (.lst l) c) : EX X e g := PE.imp h fun σ H Q ⟨p, c, ρ, F, Q', es, h, t⟩ =>
  ⟨p, c, ρ, F, _, es, hg _ _ _ h, fun l c1 a xs F1 H1 w1 ok1 n1 n2 n3 h1 r1 q1 => by
    have up : ∀ b u, F1 b = some u → upd F1 a (.lst xs) b = some u := fun b u h => by rw [upd_ne (ne_of_none h n2)]; exact h
    refine t (.lst l) c1 (.ref a) (upd F1 a (.lst xs)) H1 ⟨fun b u h => up b u (w1.frz b u h), w1.keep, fun b u h => ?_, w1.there⟩ ⟨fun b u h => ?_, fun b e => ?_, ok1.tab, nt_upd ok1.nt a xs n2⟩ ⟨a, xs, rfl, upd_same, r1.mono up⟩ q1
    · by_cases e : b = a
      · subst e; exact .inr (.inl n1)
      · rw [upd_ne e] at h; exact w1.new b u h
    · by_cases e : b = a
      · subst e; rw [upd_same] at h; cases h; exact h1
      · rw [upd_ne e] at h; exact ok1.sub b u h
    · obtain ⟨z, n⟩ := ok1.pot b e
      have ne : b ≠ a := fun z => n3 (z ▸ e)
      exact ⟨z, by rw [upd_ne ne]; exact n⟩⟩
/-- x = a new list -/
@[simp ↓] def sOwnF (i : Nat) (f : FL) : FS := fun E ρ c => f (ρ.map vA) c fun l c => E.nx (ρ.set i (.own l)) c
@[simp ↓] def sOwnFB (i : Nat) (f : FL) : FS := fun E ρ c => f (ρ.map vB) c fun l c => noLstL l = true ∧ E.nx (ρ.set i (.own l)) c
theorem sx_own (i : Nat) {x : Str} {px : Pos} (h : FX X e f) (hN : X.N.Nodup) (hi : X.N[i]? = some x := by rfl) (hx : Loc X.env.scope x := by first | exact Or.inl rfl | exact Or.inr rfl) (hs : swapsWith e (some (.Name x px)) pos.line X.env = pure false := by rfl)
    (hf : X.fn x = true ∨ X.env.scope.names.lookup x = some .local := by first | exact .inl rfl | exact .inr rfl) : SX X (.Assign [.Name x px] e pos) (sOwnF i f) := PS.imp (ps_set hN hi hx h hs hf) fun D σ H ⟨p, c, ρ, F, F0, H0, E, s, h, t⟩ => ⟨p, c, _, F, _, s.e, h, fun l c1 a xs F1 H1 w1 ok1 n1 n2 n3 h1 r1 q1 => by
  refine t.nx c1 _ _ F1 H1 ((s.fwd w1 ok1).setOwn i h1 n2 (s.ent.there a n1) n3 r1 fun j m e1 e2 => ?_) q1
  obtain ⟨b, ys, g1, g2, _⟩ := s.own j m e1
  rw [e2] at g1
  cases g1
  rw [n1] at g2
  cases g2⟩
theorem sx_ownB (i : Nat) {x : Str} {px : Pos} (h : FX X e f) (hN : X.N.Nodup) (hi : X.N[i]? = some x := by rfl) (hx : Loc X.env.scope x := by first | exact Or.inl rfl | exact Or.inr rfl) (hs : swapsWith e (some (.Name x px)) pos.line X.env = pure false := by rfl)
    (hf : X.fn x = true ∨ X.env.scope.names.lookup x = some .local := by first | exact .inl rfl | exact .inr rfl) : SX X (.Assign [.Name x px] e pos) (sOwnFB i f) := PS.imp (ps_set hN hi hx h hs hf) fun D σ H ⟨p, c, ρ, F, F0, H0, E, s, h, t⟩ => by
  obtain ⟨F2, es, w2, k⟩ := s.lend
  refine ⟨p, c, _, F2, _, es, h, fun l c1 a xs F1 H1 w1 ok1 n1 n2 n3 h1 r1 q1 => ?_⟩
  obtain ⟨F3, s3, w3, _, k2, k3⟩ := k c1 F1 H1 w1 ok1
  have n4 : F3 a = none := k3 a n2
  refine t.nx c1 _ _ F3 H1 (s3.setOwn i h1 n4 (s.ent.there a n1) n3 (k2 l xs q1.1 r1) fun j m e1 e2 => ?_) q1.2
  obtain ⟨b, ys, g1, g2, _⟩ := s.own j m e1
  rw [e2] at g1
  cases g1
  rw [n1] at g2
  cases g2
end

/-! ### append; loops -/
theorem RepL.single {K : PySem.W.Frag} {p : Pn} {F : Hp} {d : D} {v : V} (h : Rep K p F d v) : RepL K p F [d] [v] := ⟨v, [], rfl, h, rfl⟩
theorem Fwd.unfloor {p : Pn} {F0 H0 F1 H1 F H : Hp} (a : Fwd p F1 H0 F H) (w : Fwd p F0 H0 F1 H1) : Fwd p F0 H0 F H := ⟨fun b o h => a.frz b o (w.frz b o h), a.keep, fun b o h => by
  rcases a.new b o h with z | z
  · exact w.new b o z
  · exact .inr z, a.there⟩
theorem Fwd.floor {p : Pn} {F0 H0 F1 H1 F H : Hp} (a : Fwd p F0 H0 F H) (w : Fwd p F0 H0 F1 H1) (up : ∀ b o, F1 b = some o → F b = some o) : Fwd p F1 H0 F H := ⟨up, a.keep, fun b o h => by
  rcases a.new b o h with z | z
  · exact .inl (w.frz b o z)
  · exact .inr z, a.there⟩
theorem SSt.floor {K : PySem.W.Frag} {p : Pn} {c : Nat} {ρ : Env3} {σ : L2.St} {F0 H0 F1 H1 F H : Hp} (s : SSt K p c ρ σ F H F0 H0) (w : Fwd p F0 H0 F1 H1) (up : ∀ b o, F1 b = some o → F b = some o) : SSt K p c ρ σ F H F1 H0 :=
  ⟨s.ok, s.ent.floor w up, s.len, s.val, s.own, s.sep, s.dic, s.sepd⟩
theorem SSt.unfloor {K : PySem.W.Frag} {p : Pn} {c : Nat} {ρ : Env3} {σ : L2.St} {F0 H0 F1 H1 F H : Hp} (s : SSt K p c ρ σ F H F1 H0) (w : Fwd p F0 H0 F1 H1) : SSt K p c ρ σ F H F0 H0 :=
  ⟨s.ok, s.ent.unfloor w, s.len, s.val, s.own, s.sep, s.dic, s.sepd⟩
section
variable {K : PySem.W.Frag} {X : Cx} {e a b : Expr} {es : List Expr} {fa fb : FE} {fr : FA} {pos apos : Pos} {g : FS}
theorem sx_app (i : Nat) (h : PE X e (tBM X.K "list" rAppend (tVar i) (tCons (tE X.K fa) tNil))) (hsw : swapsWith e none pos.line X.env = pure false := by rfl) : SX X (.Expr e pos) (sApp i fa) :=
  PS.imp (ps_expr h hsw) fun D σ H ⟨p, c, ρ, F, F0, H0, E, s, h, t⟩ => by
  unfold sApp at h
  split at h
  · rename_i l hi
    obtain ⟨a, xs, e1, e2, e3, e4, e5, r0⟩ := s.own i l hi
    refine ⟨_, e1, .inl ⟨rfl, _, .inl (.inl e2)⟩, p, c, _, F, _, s.e, h, fun d c1 v F1 H1 w1 ok1 r1 q1 => ?_⟩
    have s1 := s.fwd w1 ok1
    obtain ⟨a', xs', g1, g2, g3, g4, g5, r0'⟩ := s1.own i l hi
    rw [e1] at g1
    cases g1
    refine ⟨a, xs', v, rfl, rfl, g2, by rw [r0'.len, line16]; exact q1.1, t.nx c1 _ _ F1 _ (s1.put hi e1 (r0'.app (RepL.single r1))) q1.2⟩
  · exact h.elim
theorem sx_appB (i : Nat) (h : PE X e (tBM X.K "list" rAppend (tVar i) (tCons (tE X.K fa) tNil))) (hsw : swapsWith e none pos.line X.env = pure false := by rfl) : SX X (.Expr e pos) (sAppB i fa) :=
  PS.imp (ps_expr h hsw) fun D σ H ⟨p, c, ρ, F, F0, H0, E, s, h, t⟩ => by
  unfold sAppB at h
  split at h
  · rename_i l hi
    obtain ⟨a, xs, e1, e2, e3, e4, e5, r0⟩ := s.own i l hi
    obtain ⟨F2, es, w2, k⟩ := s.lend
    refine ⟨_, e1, .inl ⟨rfl, _, .inl (.inl e2)⟩, p, c, _, F2, _, es, h, fun d c1 v F1 H1 w1 ok1 r1 q1 => ?_⟩
    obtain ⟨F3, s1, w3, k1, _⟩ := k c1 F1 H1 w1 ok1
    obtain ⟨a', xs', g1, g2, g3, g4, g5, r0'⟩ := s1.own i l hi
    rw [e1] at g1
    cases g1
    refine ⟨a, xs', v, rfl, rfl, g2, by rw [r0'.len, line16]; exact q1.2.1, t.nx c1 _ _ F3 _ (s1.put hi e1 (r0'.app (RepL.single (k1 _ _ q1.1 r1)))) q1.2.2⟩
  · exact h.elim
/-- a, b = x, y -/
@[simp ↓] def sPar (i j : Nat) (fr : FA) : FS := fun E ρ c => fr (ρ.map vA) c fun l c => match l with | [x, y] => E.nx ((ρ.set i (.val x)).set j (.val y)) c | _ => False
@[simp ↓] def sParB (i j : Nat) (fr : FA) : FS := fun E ρ c => fr (ρ.map vB) c fun l c => noLstL l = true ∧ match l with | [x, y] => E.nx ((ρ.set i (.val x)).set j (.val y)) c | _ => False
theorem sx_par {i j : Nat} {x y : Str} {px py pt : Pos} {kt k2 pt2} (hc : X.calm = true) (hN : X.N.Nodup) (ha : AX X [a, b] fr) (hij : i ≠ j := by decide) (hi : X.N[i]? = some x := by rfl) (hj : X.N[j]? = some y := by rfl)
    (hx : X.env.scope.names.lookup x = some .local := by rfl) (hy : X.env.scope.names.lookup y = some .local := by rfl) (hw : swappedStores [.Tuple [.Name x px, .Name y py] kt pt] (.Tuple [a, b] k2 pt2) X.env = pure (some [x, y]) := by rfl)
    (hs : swapsWithSole [.Tuple [.Name x px, .Name y py] kt pt] (.Tuple [a, b] k2 pt2) pos.line X.env = pure false := by rfl) :
    SX X (.Assign [.Tuple [.Name x px, .Name y py] kt pt] (.Tuple [a, b] k2 pt2) pos) (sPar i j fr) := by
  refine PS.imp (ps_par hc hN hi hj hij hx hy ha hw hs) fun D σ H ⟨p, c, ρ, F, F0, H0, E, s, h, t⟩ => ⟨p, c, _, F, _, s.e, h, fun l c1 vs F1 H1 w1 ok1 r1 q1 => ?_⟩
  split at q1
  · obtain ⟨v, u, rfl, r1, r2⟩ := r1.two
    exact ⟨v, u, rfl, t.nx c1 _ _ F1 H1 (((s.fwd w1 ok1).set i r1).set j r2) q1⟩
  · exact q1.elim
theorem sx_parB {i j : Nat} {x y : Str} {px py pt : Pos} {kt k2 pt2} (hc : X.calm = true) (hN : X.N.Nodup) (ha : AX X [a, b] fr) (hij : i ≠ j := by decide) (hi : X.N[i]? = some x := by rfl) (hj : X.N[j]? = some y := by rfl)
    (hx : X.env.scope.names.lookup x = some .local := by rfl) (hy : X.env.scope.names.lookup y = some .local := by rfl) (hw : swappedStores [.Tuple [.Name x px, .Name y py] kt pt] (.Tuple [a, b] k2 pt2) X.env = pure (some [x, y]) := by rfl)
    (hs : swapsWithSole [.Tuple [.Name x px, .Name y py] kt pt] (.Tuple [a, b] k2 pt2) pos.line X.env = pure false := by rfl) :
    SX X (.Assign [.Tuple [.Name x px, .Name y py] kt pt] (.Tuple [a, b] k2 pt2) pos) (sParB i j fr) := by
  refine PS.imp (ps_par hc hN hi hj hij hx hy ha hw hs) fun D σ H ⟨p, c, ρ, F, F0, H0, E, s, h, t⟩ => ?_
  obtain ⟨F2, es, w2, k⟩ := s.lend
  refine ⟨p, c, _, F2, _, es, h, fun l c1 vs F1 H1 w1 ok1 r1 q1 => ?_⟩
  obtain ⟨F3, s3, w3, k1, k2, _⟩ := k c1 F1 H1 w1 ok1
  have r3 := k2 _ _ q1.1 r1
  have q2 := q1.2
  split at q2
  · obtain ⟨v, u, rfl, r1, r2⟩ := r3.two
    exact ⟨v, u, rfl, t.nx c1 _ _ F3 H1 ((s3.set i r1).set j r2) q2⟩
  · exact q2.elim
/-- what a loop walks: items told -/
def Walks3 (K : PySem.W.Frag) (p : Pn) (J : It) (items : List D) (F1 : Hp) : Prop := items.length ≤ 16777216 ∧ ∀ (i : Nat) (F H : Hp) (c : Nat), (∀ b o, F1 b = some o → F b = some o) → Ok3 p c F H →
  (i < items.length → J.go i H ∧ ∀ x H', J.yld i H x H' → ∃ F' d, items[i]? = some d ∧ Fwd p F H F' H' ∧ Ok3 p c F' H' ∧ Rep K p F' d x) ∧ (i = items.length → J.stop i H)
structure IX (X : Cx) (tg iter : Expr) (fi : FI) : Prop where
  ex : ∃ wi, PI X tg iter wi ∧ ∀ σ H p c ρ F Q' R, ESt X.K p c ρ σ F H → fi ρ c Q' → (∀ items c' F' H' J, Fwd p F H F' H' → Ok3 p c' F' H' → Walks3 X.K p J items F' → Q' items c' → R J H') → wi σ H R
variable {tg : Expr}
theorem walks_list {p : Pn} {a : Addr} {xs : List V} {l : List D} {F1 : Hp} (h : F1 a = some (.lst xs)) (r : RepL K p F1 l xs) (hl : l.length ≤ 16777216) : Walks3 K p (Itl K a) l F1 := ⟨hl, fun i F H c up ok => by
  have hH : SqL K H a xs := .of (ok.sub _ _ (up _ _ h))
  refine ⟨fun hi => ⟨⟨xs, xs[i]'(by rw [r.len]; exact hi), hH, List.getElem?_eq_getElem _⟩, fun x H' y => ?_⟩, fun hi => ⟨xs, hH, by rw [r.len]; exact Nat.le_of_eq hi.symm⟩⟩
  obtain ⟨rfl, y⟩ := y
  obtain ⟨d, e1, e2⟩ := r.back (y xs hH)
  exact ⟨F, d, e1, .refl .., ok, e2.mono up⟩⟩
theorem walks_tup {p : Pn} {a : Addr} {xs : List V} {l : List D} {F1 : Hp} (h : SqT K F1 a xs) (r : RepL K p F1 l xs) (hl : l.length ≤ 16777216) : Walks3 K p (Itt K a) l F1 := ⟨hl, fun i F H c up ok => by
  have hH : SqT K H a xs := ok.sqT (Sub.sqT up h)
  refine ⟨fun hi => ⟨⟨xs, xs[i]'(by rw [r.len]; exact hi), hH, List.getElem?_eq_getElem _⟩, fun x H' y => ?_⟩, fun hi => ⟨xs, hH, by rw [r.len]; exact Nat.le_of_eq hi.symm⟩⟩
  obtain ⟨rfl, y⟩ := y
  obtain ⟨d, e1, e2⟩ := r.back (y xs hH)
  exact ⟨F, d, e1, .refl .., ok, e2.mono up⟩⟩
theorem range_get (lo : Int) (n i : Nat) (h : i < n) : (rangeL lo n)[i]? = some (.int (lo + (i : Nat))) := by
  unfold rangeL
  rw [List.getElem?_map, List.getElem?_range h]
  rfl
theorem range_len (lo : Int) (n : Nat) : (rangeL lo n).length = n := by
  unfold rangeL
  rw [List.length_map, List.length_range]
theorem walks_range {p : Pn} {lo : Int} {n : Nat} {F1 : Hp} (hl : n ≤ 16777216) : Walks3 K p (Itr lo n) (rangeL lo n) F1 := ⟨by rw [range_len]; exact hl, fun i F H c up ok => by
  rw [range_len]
  refine ⟨fun hi => ⟨hi, fun x H' y => ?_⟩, fun hi => Nat.le_of_eq hi.symm⟩
  obtain ⟨rfl, rfl⟩ := y
  exact ⟨F, _, range_get lo n i hi, .refl .., ok, rfl⟩⟩
/-- what is walked is a list's, a tuple's length at most -/
def iL (fe : FE) : FI := fun ρ c Q => fe ρ c fun x c => match x with
  | .lst l => l.length ≤ 16777216 ∧ Q l c
  | _ => False
def iT (fe : FE) : FI := fun ρ c Q => fe ρ c fun x c => match x with
  | .tup l => l.length ≤ 16777216 ∧ Q l c
  | _ => False
theorem ix_lst (h : EX X e fa) : IX X tg e (iL fa) := ⟨_, pi_list h, fun σ H p c ρ F Q' R es h k => ⟨p, c, ρ, F, _, es, h, fun x c1 v F1 H1 w1 ok1 r1 q1 => by
  split at q1
  · obtain ⟨a, xs, rfl, h1, rl⟩ := r1
    exact ⟨a, rfl, ⟨xs, .of (ok1.sub _ _ h1)⟩, k _ c1 F1 H1 _ w1 ok1 (walks_list h1 rl q1.1) q1.2⟩
  · exact q1.elim⟩⟩
theorem ix_tupl (h : EX X e fa) : IX X tg e (iT fa) := ⟨_, pi_tup h, fun σ H p c ρ F Q' R es h k => ⟨p, c, ρ, F, _, es, h, fun x c1 v F1 H1 w1 ok1 r1 q1 => by
  split at q1
  · obtain ⟨a, xs, rfl, h1, rl⟩ := r1
    exact ⟨a, rfl, ⟨xs, ok1.sqT h1⟩, k _ c1 F1 H1 _ w1 ok1 (walks_tup h1 rl q1.1) q1.2⟩
  · exact q1.elim⟩⟩
theorem ix_range1 {a : Expr} {p' pos : Pos} (hm : X.mg "range" = none) (ha : AX X [a] fr) (hg : Gl X "range" := by rfl) (hs : starEach [a] X.env = [(false, eval a X.env)] := by rfl) : IX X tg (.Call (.Name "range" p') [a] [] pos) (iR1 fr) :=
  ⟨_, pi_range1 hg hm ha hs, fun σ H p c ρ F Q' R es h k => ⟨p, c, ρ, F, _, es, h, fun l c1 vs F1 H1 w1 ok1 r1 q1 => by
  split at q1
  · rename_i j
    exact ⟨j, r1.int1, q1.1.1, by omega, k _ c1 F1 H1 _ w1 ok1 (walks_range (by omega)) q1.2⟩
  · exact q1.elim⟩⟩
theorem ix_range2 {a b : Expr} {p' pos : Pos} (hm : X.mg "range" = none) (ha : AX X [a, b] fr) (hg : Gl X "range" := by rfl) (hs : starEach [a, b] X.env = [(false, eval a X.env), (false, eval b X.env)] := by rfl) (hs2 : starEach [b] X.env = [(false, eval b X.env)] := by rfl) : IX X tg (.Call (.Name "range" p') [a, b] [] pos) (iR2 fr) :=
  ⟨_, pi_range2 hg hm ha hs hs2, fun σ H p c ρ F Q' R es h k => ⟨p, c, ρ, F, _, es, h, fun l c1 vs F1 H1 w1 ok1 r1 q1 => by
  split at q1
  · rename_i i j
    exact ⟨i, j, r1.int2, ⟨by omega, by omega, by omega, by omega⟩, k _ c1 F1 H1 _ w1 ok1 (walks_range (by omega)) q1.2⟩
  · exact q1.elim⟩⟩
theorem sx_for {iter : Expr} {body : List Stmt} {fi : FI} {gg : FG} {is : List Nat} (hp : PassesOwn (model X.prog X.w) X.A X.env X.xe) (hc : X.calm = true) (hi : IX X tg iter fi) (hg : GX X tg is gg) (hb : BX X body g) (hs : ∀ x, foldedSetIterable iter X.env x = pure x := by intro _; rfl) :
    SX X (.For tg iter body [] pos) (sFor fi gg g) := by
  obtain ⟨wi, pi, ki⟩ := hi.ex
  obtain ⟨gl, pg, kg⟩ := hg.ex
  refine PS.imp (ps_for hp hc pi pg hb hs) fun D σ H ⟨p, c, ρ, F, F0, H0, E, s, h, t⟩ => ki σ H p c _ F _ _ s.e h fun items c1 F1 H1 J w1 ok1 wk q1 => ?_
  have wf := s.ent.trans w1
  refine ⟨fun i m σ H => m = items.length - i ∧ i ≤ items.length ∧ ∃ c ρ F, SSt X.K p c ρ σ F H F1 H0 ∧ forL gg g E (items.drop i) ρ c, ⟨items.length, rfl, Nat.zero_le _, c1, ρ, F1, (s.fwd w1 ok1).floor wf (fun _ _ h => h), q1⟩, fun i m σ H ⟨em, hi, c, ρ, F, s, h⟩ => ?_⟩
  obtain ⟨go, stop⟩ := wk.2 i F H c s.ent.frz s.ok
  by_cases hlt : i < items.length
  · obtain ⟨hgo, hy⟩ := go hlt
    refine .inr ⟨hgo, fun σ' H' => ∃ c ρ F, SSt X.K p c ρ σ' F H' F1 H0 ∧ forL gg g E (items.drop (i + 1)) ρ c, fun σ' H' ⟨c', ρ', F', s', h'⟩ => ⟨items.length - (i + 1), by omega, rfl, hlt, c', ρ', F', s', h'⟩, fun x H' y => ?_⟩
    obtain ⟨F', d, e1, w', ok', r'⟩ := hy x H' y
    have ed : items.drop i = d :: items.drop (i + 1) := by
      rw [List.drop_eq_getElem_cons hlt]
      rw [List.getElem?_eq_getElem hlt] at e1
      rw [Option.some.inj e1]
    rw [ed] at h
    refine kg p c ρ σ F' H' F1 H0 d x _ _ (s.fwd w' ok') r' h fun ρ2 σ2 s2 _ _ h2 => ?_
    exact ⟨p, c, ρ2, F', F1, H0, _, s2, h2, fun c ρ σ F H s q => ⟨c, ρ, F, s, q⟩, fun c ρ σ F H s q => t.nx c ρ σ F H (s.unfloor wf) q, fun c ρ σ F H s q => ⟨c, ρ, F, s, q⟩,
      fun d c' v F' H' w ok r q => t.rt d c' v F' H' (w.unfloor wf) ok r q⟩
  · have ei : items.drop i = [] := List.drop_eq_nil_of_le (by omega)
    rw [ei] at h
    exact .inl ⟨stop (by omega), t.nx c ρ σ F H (s.unfloor wf) h⟩
theorem sx_while {cd : Expr} {body : List Stmt} {f : FT} (hp : PassesOwn (model X.prog X.w) X.A X.env X.xe) (hc : TX X cd f) (hb : BX X body g) : SX X (.While cd body [] pos) (sWhile f g) := by
  refine PS.imp (ps_while hp hc hb) fun D σ H ⟨p, c, ρ, F, F0, H0, E, s, ⟨n, h⟩, t⟩ => ?_
  refine ⟨fun m σ H => ∃ c ρ F, SSt X.K p c ρ σ F H F0 H0 ∧ whileN f g E m ρ c, ⟨n, c, ρ, F, s, h⟩, fun m σ H ⟨c, ρ, F, s, h⟩ => ?_⟩
  cases m with
  | zero => exact h.elim
  | succ m =>
    obtain ⟨F2, es, w2, k⟩ := s.lend
    refine ⟨p, c, _, F2, _, es, h, fun b c1 F1 H1 w1 ok1 q1 => ?_⟩
    obtain ⟨F3, s3, _⟩ := k c1 F1 H1 w1 ok1
    cases b with
    | true => exact ⟨fun σ' H' => ∃ c ρ F, SSt X.K p c ρ σ' F H' F0 H0 ∧ whileN f g E m ρ c, fun σ' H' ⟨c, ρ, F, s, h⟩ => ⟨m, Nat.lt_succ_self m, c, ρ, F, s, h⟩,
        p, c1, ρ, F3, F0, H0, _, s3, q1, fun c ρ σ F H s q => ⟨c, ρ, F, s, q⟩, fun c ρ σ F H s q => t.nx c ρ σ F H s q, fun c ρ σ F H s q => ⟨c, ρ, F, s, q⟩, t.rt⟩
    | false => exact t.nx c1 ρ σ F3 H1 s3 q1
end
/-! ### a list comprehension -/
/-- a target's reading over the heap -/
structure KG (K : PySem.W.Frag) (is : List Nat) (gg : FG) (gl : TG) : Prop where
  k : ∀ p c ρ σ F H F0 H0 d v k kk, SSt K p c ρ σ F H F0 H0 → Rep K p F d v → gg d ρ k → (∀ ρ' σ', SSt K p c ρ' σ' F H F0 H0 → σ'.length = σ.length → (∀ j, j ∉ is → σ'[j]? = σ[j]?) → k ρ' → kk σ' H) → gl v σ H kk
structure KGs (K : PySem.W.Frag) (is : List Nat) (gg : FGs) (gl : TGs) : Prop where
  k : ∀ p c ρ σ F H F0 H0 d v k kk, SSt K p c ρ σ F H F0 H0 → RepL K p F d v → gg d ρ k → (∀ ρ' σ', SSt K p c ρ' σ' F H F0 H0 → σ'.length = σ.length → (∀ j, j ∉ is → σ'[j]? = σ[j]?) → k ρ' → kk σ' H) → gl v σ H kk
structure KT3 (K : PySem.W.Frag) (ft : FT) (t : TT) : Prop where
  k : ∀ σ H p c ρ F Q' Q, ESt K p c ρ σ F H → ft ρ c Q' → TellB p F H Q' Q → t σ H Q
theorem kt_nil {K : PySem.W.Frag} : KT3 K tYes3 tYes := ⟨fun σ H p c ρ F Q' Q es h t => t true c F H (.refl ..) es.ok h⟩
theorem kt_one {K : PySem.W.Frag} {f : FT} : KT3 K f (tTs K f) := ⟨fun σ H p c ρ F Q' Q es h t => ⟨p, c, ρ, F, Q', es, h, t⟩⟩
theorem kg_name {K : PySem.W.Frag} (i : Nat) : KG K [i] (gN i) (gName i) := ⟨fun p c ρ σ F H F0 H0 d v k kk s r h q => q _ _ (s.set i r) (List.length_set ..) (fun j hj => List.getElem?_set_ne (fun e => hj (by simp [e]))) h⟩
theorem kgs_nil {K : PySem.W.Frag} : KGs K [] gsNil gNil := ⟨fun p c ρ σ F H F0 H0 d v k kk s r h q => by
  unfold gsNil at h
  split at h
  · cases r
    exact ⟨rfl, q _ _ s rfl (fun _ _ => rfl) h⟩
  · exact h.elim⟩
theorem kgs_cons {K : PySem.W.Frag} {is js : List Nat} {g : FG} {gs : FGs} {gl : TG} {gls : TGs} (h1 : KG K is g gl) (h2 : KGs K js gs gls) : KGs K (is ++ js) (gsCons g gs) (gCons gl gls) := ⟨fun p c ρ σ F H F0 H0 d v k kk s r h q => by
  unfold gsCons at h
  split at h
  · rename_i d ds
    obtain ⟨x, xr, rfl, r1, r2⟩ := r
    refine ⟨x, xr, rfl, h1.k p c ρ σ F H F0 H0 _ _ _ _ s r1 h fun ρ' σ' s' l1 e1 h' => ?_⟩
    refine h2.k p c ρ' σ' F H F0 H0 _ _ _ _ s' r2 h' fun ρ2 σ2 s2 l2 e2 h2 => ?_
    exact q ρ2 σ2 s2 (l2.trans l1) (fun j hj => (e2 j fun z => hj (List.mem_append_right _ z)).trans (e1 j fun z => hj (List.mem_append_left _ z))) h2
  · exact h.elim⟩
theorem kg_tup {K : PySem.W.Frag} {is : List Nat} {gs : FGs} {gls : TGs} {n : Nat} (h1 : KGs K is gs gls) : KG K is (gT n gs) (gTup K n gls) := ⟨fun p c ρ σ F H F0 H0 d v k kk s r h q => by
  unfold gT at h
  split at h
  · obtain ⟨a, xs, rfl, e1, r1⟩ := r
    exact ⟨a, xs, rfl, s.ok.sqT e1, by rw [r1.len]; exact h.1, h1.k p c ρ σ F H F0 H0 _ _ _ _ s r1 h.2 q⟩
  · exact h.elim⟩
theorem gx_of {X : Cx} {tg : Expr} {is : List Nat} {g : FG} {gl : TG} (pg : PG X tg gl) (kg : KG X.K is g gl) : GX X tg is g := ⟨gl, pg, kg.k⟩
section
variable {X : Cx} {pos : Pos} {elt tg iter : Expr} {ifs : List Expr} {scope : Scope} {own : List (Str × Nat)} {fi : FI} {gg : FG} {is : List Nat} {fe : FE} {ft : FT}
structure PX (X : Cx) (ifs : List Expr) (f : FT) : Prop where
  ex : ∃ t, PTs X ifs t ∧ ∀ σ H p c ρ F Q' Q, ESt X.K p c ρ σ F H → f ρ c Q' → TellB p F H Q' Q → t σ H Q
theorem px_nil : PX X [] tYes3 := ⟨tYes, pts_nil, fun σ H p c ρ F Q' Q es h t => t true c F H (.refl ..) es.ok h⟩
theorem px_one {c : Expr} {f : FT} (h : TX X c f) : PX X [c] f := ⟨_, pts_one h, fun σ H p c ρ F Q' Q es h t => ⟨p, c, ρ, F, Q', es, h, t⟩⟩
theorem wipe_get (σ : L2.St) : ∀ (vs : List Nat) (i : Nat), i ∉ vs → (wipe σ vs)[i]? = σ[i]?
  | [], i, _ => rfl
  | v :: vs, i, h => by
    unfold wipe
    rw [List.getElem?_set_ne (fun e => h (by simp [e]))]
    exact wipe_get σ vs i (fun z => h (List.mem_cons_of_mem _ z))
theorem wipe_in (σ : L2.St) : ∀ (vs : List Nat) (i : Nat), i ∈ vs → i < σ.length → (wipe σ vs)[i]? = some none
  | v :: vs, i, h, hl => by
    unfold wipe
    by_cases e : v = i
    · subst e
      rw [List.getElem?_set_self (by rw [wipe_length]; exact hl)]
    · rw [List.getElem?_set_ne e]
      exact wipe_in σ vs i ((List.mem_cons.mp h).resolve_left (fun z => e z.symm)) hl
theorem wipe_eq {σ σ' : L2.St} {vs : List Nat} (hl : σ'.length = σ.length) (h : ∀ j, j ∉ vs → σ'[j]? = σ[j]?) : wipe σ' vs = wipe σ vs := by
  apply List.ext_getElem?
  intro i
  by_cases hi : i ∈ vs
  · by_cases hlt : i < σ.length
    · rw [wipe_in σ vs i hi hlt, wipe_in σ' vs i hi (by omega)]
    · rw [List.getElem?_eq_none (by rw [wipe_length]; omega), List.getElem?_eq_none (by rw [wipe_length]; omega)]
  · rw [wipe_get σ vs i hi, wipe_get σ' vs i hi, h i hi]
theorem get3_eq : ∀ (ρ : Rho) (i : Nat) (d : D), get3 ρ i = some d ↔ ρ[i]? = some (some d)
  | [], i, d => by simp [get3]
  | x :: r, 0, d => by simp [get3]
  | x :: r, i + 1, d => by simpa [get3] using get3_eq r i d
theorem wipeD_len (ρ : Rho) : ∀ vs : List Nat, (wipeD ρ vs).length = ρ.length
  | [] => rfl
  | v :: vs => by unfold wipeD; rw [List.length_set, wipeD_len ρ vs]
theorem wipeD_some (ρ : Rho) : ∀ (vs : List Nat) (i : Nat) (d : D), (wipeD ρ vs)[i]? = some (some d) → i ∉ vs ∧ ρ[i]? = some (some d)
  | [], i, d, h => ⟨by simp, h⟩
  | v :: vs, i, d, h => by
    unfold wipeD at h
    rcases set_get h with ⟨rfl, _, q⟩ | ⟨n, q⟩
    · cases q
    · obtain ⟨a, b⟩ := wipeD_some ρ vs i d q
      exact ⟨by simp [n, a], b⟩
/-- the comprehension's list, new -/
@[simp ↓] def fComp (fi : FI) (g : FG) (t : FT) (fe : FE) (vs : List Nat) : FL := fun ρ c Q => fi ρ c fun l c => compL g t fe (wipeD ρ vs) l c Q
theorem comp_w {t : TT} {gl : TG} {wi : TI} {vs : List Nat} (his : ∀ j ∈ is, j ∈ vs) {tE' : TE} (hte : ∀ σ H Q, tE X.K fe σ H Q → tE' σ H Q)
    (ki : ∀ σ H p c ρ F Q' R, ESt X.K p c ρ σ F H → fi ρ c Q' → (∀ items c' F' H' J, Fwd p F H F' H' → Ok3 p c' F' H' → Walks3 X.K p J items F' → Q' items c' → R J H') → wi σ H R)
    (kg : ∀ p c ρ σ F H F0 H0 d v k kk, SSt X.K p c ρ σ F H F0 H0 → Rep X.K p F d v → gg d ρ k → (∀ ρ' σ', SSt X.K p c ρ' σ' F H F0 H0 → σ'.length = σ.length → (∀ j, j ∉ is → σ'[j]? = σ[j]?) → k ρ' → kk σ' H) → gl v σ H kk)
    (kt : ∀ σ H p c ρ F Q' Q, ESt X.K p c ρ σ F H → ft ρ c Q' → TellB p F H Q' Q → t σ H Q) {σ : L2.St} {H : Hp} {Q : VK} (h : tF X.K (fComp fi gg ft fe vs) σ H Q) : tLc wi gl t tE' vs σ H Q := by
  obtain ⟨p, c, ρ, F, Q', es, h, tl⟩ := h
  refine ki σ H p c ρ F _ _ es h fun items c1 F1 H1 J w1 ok1 wk q1 => fun D hD => ?_
  obtain ⟨w0, ok0, n1, n2, n3⟩ := layL (Fwd.refl p F1 H1) ok1 hD []
  refine ⟨fun i m H' => m = items.length - i ∧ i ≤ items.length ∧ ∃ c F acc ds, Fwd p F1 H1 F H' ∧ Ok3 p c F H' ∧ H' D = some (.lst acc) ∧ F D = none ∧ RepL X.K p F ds acc ∧ ds.length ≤ i ∧ compL gg ft fe (wipeD ρ vs) (items.drop i) c (fun ys c => Q' (ds ++ ys) c),
    ⟨items.length, rfl, Nat.zero_le _, c1, F1, [], [], w0, ok0, upd_same, n2, rfl, Nat.zero_le _, q1⟩, fun i m H2 ⟨em, hi, c, F2, acc, ds, w, ok, hDl, nF, r, dl, hc⟩ => ?_⟩
  obtain ⟨go, stop⟩ := wk.2 i F2 H2 c w.frz ok
  by_cases hlt : i < items.length
  · obtain ⟨hgo, hy⟩ := go hlt
    refine .inr ⟨hgo, fun H' => ∃ c F acc ds, Fwd p F1 H1 F H' ∧ Ok3 p c F H' ∧ H' D = some (.lst acc) ∧ F D = none ∧ RepL X.K p F ds acc ∧ ds.length ≤ i + 1 ∧ compL gg ft fe (wipeD ρ vs) (items.drop (i + 1)) c (fun ys c => Q' (ds ++ ys) c),
      fun H' z => ⟨items.length - (i + 1), by omega, rfl, hlt, z⟩, fun x H' y => ?_⟩
    obtain ⟨F', d, e1, w', ok', r'⟩ := hy x H' y
    have ed : items.drop i = d :: items.drop (i + 1) := by
      rw [List.drop_eq_getElem_cons hlt]
      rw [List.getElem?_eq_getElem hlt] at e1
      rw [Option.some.inj e1]
    rw [ed] at hc
    have wF := w1.trans (w.trans w')
    have ss : SSt X.K p c ((wipeD ρ vs).map upS) (wipe σ vs) F' H' F' H' := by
      refine ⟨ok', .refl .., by rw [List.length_map, wipeD_len, wipe_length, es.len], fun j dj ej => ?_, fun j lj ej => ?_, fun j k l m a e1 _ _ _ => ?_, fun j ks lj ej => ?_, fun j k ks ks' l m a e1 _ _ _ => ?_⟩
      · rw [List.getElem?_map] at ej
        obtain ⟨z, ez, eu⟩ := Option.map_eq_some_iff.mp ej
        cases z with
        | none => cases eu
        | some z =>
          cases eu
          obtain ⟨nj, e2⟩ := wipeD_some ρ vs j dj ez
          obtain ⟨v, g1, g2⟩ := es.slot j dj ((get3_eq ρ j dj).mpr e2)
          exact ⟨v, by rw [wipe_get σ vs j nj]; exact g1, g2.mono wF.frz⟩
      · rw [List.getElem?_map] at ej
        obtain ⟨z, ez, eu⟩ := Option.map_eq_some_iff.mp ej
        cases z <;> cases eu
      · rw [List.getElem?_map] at e1
        obtain ⟨z, ez, eu⟩ := Option.map_eq_some_iff.mp e1
        cases z <;> cases eu
      · rw [List.getElem?_map] at ej
        obtain ⟨z, ez, eu⟩ := Option.map_eq_some_iff.mp ej
        cases z <;> cases eu
      · rw [List.getElem?_map] at e1
        obtain ⟨z, ez, eu⟩ := Option.map_eq_some_iff.mp e1
        cases z <;> cases eu
    refine kg p c _ (wipe σ vs) F' H' F' H' d x _ _ ss r' hc fun ρ2 σ2 s2 l2 e2 h2 => ⟨?_, ?_⟩
    · refine wipe_eq (by rw [l2, wipe_length]) fun j hj => ?_
      rw [e2 j fun z => hj (his j z), wipe_get σ vs j hj]
    · refine kt σ2 H' p c _ F' _ _ s2.e h2 fun b c3 F3 H3 w3 ok3 q3 => ?_
      have w23 := w'.trans w3
      have keepD : ∀ {F4 H4 : Hp} {c4 : Nat}, Fwd p F2 H2 F4 H4 → Ok3 p c4 F4 H4 → H4 D = some (.lst acc) ∧ F4 D = none := fun {F4 H4 c4} w4 ok4 => by
        refine ⟨w4.keep D _ hDl n3 (fun _ z => nomatch z), ?_⟩
        cases q : F4 D with
        | none => rfl
        | some u =>
          rcases w4.new D u q with z | z | ⟨q', z⟩
          · rw [nF] at z; cases z
          · rw [hDl] at z; cases z
          · have y := ok4.sub D u q
            rw [w4.keep D _ hDl n3 (fun _ z => nomatch z)] at y
            exact absurd (z.symm.trans (Option.some.inj y.symm)) codeO_lst
      cases b with
      | true =>
        refine hte _ _ _ ⟨p, c3, _, F3, _, s2.e.fwd w3 ok3, q3, fun yd c4 v F4 H4 w4 ok4 r4 q4 => ?_⟩
        have w24 := w23.trans w4
        obtain ⟨d1, d2⟩ := keepD w24 (by assumption)
        have rl := (r.mono w24.frz).app (RepL.single r4)
        have w14 := w.trans w24
        refine ⟨acc, d1, ?_, c4, F4, acc ++ [v], ds ++ [yd], ⟨w14.frz, fun b u hb n tt => ?_, w14.new, fun b hb => ?_⟩, ⟨fun b u hb => ?_, fun b hb => ?_, tabs_put ok4.tab d1, ok4.nt⟩, upd_same, d2, rl, by rw [List.length_append]; exact Nat.succ_le_succ dl, ?_⟩
        · have := r.len
          rw [line16, this]
          have := wk.1
          omega
        · rw [upd_ne (ne_of_none hb n1)]
          exact w14.keep b u hb n tt
        · by_cases e : b = D
          · subst e; exact n1
          · rw [upd_ne e] at hb; exact w14.there b hb
        · rw [upd_ne (ne_of_none hb d2)]
          exact ok4.sub b u hb
        · obtain ⟨⟨x, y, z, h, rr⟩, n⟩ := ok4.pot b hb
          have ne : b ≠ D := fun e => n3 (e ▸ hb)
          exact ⟨⟨x, y, z, by rw [upd_ne ne]; exact h, rr⟩, n⟩
        · have e : (fun ys c => Q' (ds ++ [yd] ++ ys) c) = fun ys c => Q' (ds ++ (yd :: ys)) c := by
            funext ys c
            rw [List.append_assoc]
            rfl
          rw [e]
          exact q4
      | false =>
        obtain ⟨d1, d2⟩ := keepD w23 (by assumption)
        exact ⟨c3, F3, acc, ds, w.trans w23, ok3, d1, d2, r.mono w23.frz, Nat.le_succ_of_le dl, q3⟩
  · have ei : items.drop i = [] := List.drop_eq_nil_of_le (by omega)
    rw [ei] at hc
    have hc' : Q' (ds ++ []) c := hc
    rw [List.append_nil] at hc'
    exact .inl ⟨stop (by omega), tl ds c D acc F2 H2 (w1.trans w) ok (w1.there D n1) nF n3 hDl r hc'⟩
/-- what a comprehension's parts are, whichever block runs them -/
theorem fx_comp (hc : X.calm = true) (hN : X.N.Nodup) (hi : IX X tg iter fi) (ok : BlkOk X.N X.env.scope scope own) {gl : TG}
    (hg : ∀ (s : Shared) (H : Hp) (C : Addr) (cl : List (Str × Addr)) (fp : List Addr), PG (X.blk s H scope (compEnvC scope cl C X.env) fp) tg gl)
    (kg : KG X.K is gg gl)
    {t : TT} (ht : ∀ (s : Shared) (H : Hp) (C : Addr) (cl : List (Str × Addr)) (fp : List Addr), PTs (X.blk s H scope (compEnvC scope cl C X.env) fp) ifs t)
    (kt : KT3 X.K ft t)
    (he : ∀ (s : Shared) (H : Hp) (C : Addr) (cl : List (Str × Addr)) (fp : List Addr), EX (X.blk s H scope (compEnvC scope cl C X.env) fp) elt fe)
    (his : ∀ j ∈ is, j ∈ own.map (·.2)) (hs : ∀ x, foldedSetIterable iter X.env x = pure x := by intro _; rfl) : FX X (.ListComp elt [⟨tg, iter, ifs, 0⟩] scope pos) (fComp fi gg ft fe (own.map (·.2))) := by
  obtain ⟨wi, pi, ki⟩ := hi.ex
  exact PE.imp (pe_lc hc hN pi ok hg ht he hs) fun σ H Q h => comp_w his (fun _ _ _ h => h) ki kg.k kt.k h
end

/-! ### a def -/
theorem start_get {n : Nat} {ds : List D} {i : Nat} {x : SV} (h : (start3 n ds)[i]? = some x) : (∃ d, ds[i]? = some d ∧ x = .val d) ∨ x = .no := by
  unfold start3 at h
  by_cases hi : i < (ds.map SV.val).length
  · rw [List.getElem?_append_left hi, List.getElem?_map] at h
    obtain ⟨d, e1, e2⟩ := Option.map_eq_some_iff.mp h
    exact .inl ⟨d, e1, e2.symm⟩
  · rw [List.getElem?_append_right (by omega), List.getElem?_replicate] at h
    split at h
    · exact .inr (Option.some.inj h).symm
    · cases h
theorem start_ok {K : PySem.W.Frag} {p : Pn} {c : Nat} {F H : Hp} {N : List Str} {ds : List D} {vs : List V} (ok : Ok3 p c F H) (r : RepL K p F ds vs) : SSt K p c (start3 N.length ds) (start N vs) F H F H := by
  have hl := r.len
  refine ⟨ok, .refl .., ?_, fun i d e => ?_, fun i l e => ?_, fun i j l m a e1 _ _ _ => ?_, fun i ks l e => ?_, fun i j ks ks' l m a e1 _ _ _ => ?_⟩
  · unfold start3 L2.start
    simp only [List.length_append, List.length_map, List.length_replicate, hl]
  · rcases start_get e with ⟨d', e1, e2⟩ | e2
    · cases e2
      obtain ⟨v, g1, g2⟩ := r.get e1
      refine ⟨v, ?_, g2⟩
      unfold L2.start
      rw [List.getElem?_append_left (by rw [List.length_map]; exact (List.getElem?_eq_some_iff.mp g1).1), List.getElem?_map, g1]
      rfl
    · cases e2
  · rcases start_get e with ⟨d', e1, e2⟩ | e2 <;> cases e2
  · rcases start_get e1 with ⟨d', _, e2⟩ | e2 <;> cases e2
  · rcases start_get e with ⟨d', e1, e2⟩ | e2 <;> cases e2
  · rcases start_get e1 with ⟨d', _, e2⟩ | e2 <;> cases e2
/-- THE RULE for a def: its body's reading g, and the plain fact that g gives what m says -/
theorem fn3 {P : Program} {w : World} {K : PySem.W.Frag} {mg : Str → Option Value} {base : Heap} {x qual : Str} {st : Stmt} {f : Addr} {fd : FuncData} {N ps : List Str} {k n : Nat} {m : FM} {g : FS}
    (F : Fun K x qual st f fd) (S : FnScope N ps (defScope st)) (hn : ps.length = n) (hp : ∀ ds c Q, m ds c Q → runM N.length g ds c Q)
    (hbody : ∀ (cdv : Value) (A : Around) (outer : List Env) (s : Shared) (H : Hp) (E : XK), Room k (A.deeper (envOfC qual (defScope st) s.heap.objs.size f cdv)) →
      BX (cxOf CX0 P w K mg base N qual (defScope st) f cdv A outer s H E).nox (defBody st) g) : FnOk P w K mg base CX0 (k + 1) f fd ps (spM K n m) := by
  refine Fun.ok3 F S (fun vs H Q E h => h.1.trans hn.symm) fun cdv A outer s H vs Q E _ hr ⟨hl, p, c, F1, ds, Q', ok, r, h, t⟩ => ?_
  refine ⟨_, (hbody cdv A outer s H E hr).nox, p, c, start3 N.length ds, F1, F1, H, _, start_ok ok r, hp ds c Q' h, fun c ρ σ F' H' s q => ?_, fun _ _ _ _ _ _ q => q.elim, fun _ _ _ _ _ _ q => q.elim, t⟩
  exact t .non c .non F' H' s.ent s.ok rfl q
/-- a promise told by another reading -/
theorem fn3_imp {P : Program} {w : World} {K : PySem.W.Frag} {mg : Str → Option Value} {base : Heap} {CX : CXT} {k n : Nat} {f : Addr} {fd : FuncData} {ps : List Str} {m m' : FM} (G : FnOk P w K mg base CX k f fd ps (spM K n m)) (h : ∀ ds c Q, m' ds c Q → m ds c Q) :
    FnOk P w K mg base CX k f fd ps (spM K n m') := G.imp fun vs H Q E ⟨hl, p, c, F1, ds, Q', ok, r, q, t⟩ => ⟨hl, p, c, F1, ds, Q', ok, r, h _ _ _ q, t⟩
end L3

/-! L3, more rules: what is walked. -/
namespace L3
open PySem PySem.Spec PyProof.Rows L2
section
variable {K : PySem.W.Frag} {X : Cx} {e a b tg : Expr} {es : List Expr} {fa fb : FE} {fr : FA} {pos : Pos}
def iSeqW (K : PySem.W.Frag) (tl : TE) : TI := fun σ H R => tl σ H fun x H1 => (∃ a xs, x = .ref a ∧ SqL K H1 a xs ∧ (xs.length ≤ sizeLine → R (Itl K a) H1)) ∨ (∃ a xs, x = .ref a ∧ SqT K H1 a xs ∧ (xs.length ≤ sizeLine → R (Itt K a) H1))
theorem pi_seqW {l : Expr} {tl : TE} (hl : PE X l tl) : PI X tg l (iSeqW X.K tl) := by
  refine ⟨fun pins s σ H R I h => ?_⟩
  refine thn (hl.run pins s σ H _ I h) fun v s1 ⟨x, H1, I1, r1, q1⟩ => ?_
  rcases q1 with ⟨a, xs, e, hq, q⟩ | ⟨a, xs, e, hq, q⟩
  · subst e
    cases r1
    obtain ⟨its, rv, p, hz⟩ := I1.list hq
    refine wpAny_pyIter_list p.isList ?_
    refine ⟨s1.heap.objs.size, [s1.heap.objs.size], _, _, H1, rfl, I1.kept (t' := s1.toks) fun b o e => Heap.get?_push_of_some _ e, turn_list a _, ⟨_, Heap.get?_push_size _ rfl, rfl, rfl⟩, fun b hb => ?_, q hz⟩
    have e : b = s1.heap.objs.size := by simpa using hb
    subst e
    exact I1.fpOk (Nat.le_refl _) (I1.hok.fresh (Nat.le_refl _))
  · subst e
    cases r1
    obtain ⟨its, rv, p, hz⟩ := I1.tuple hq
    refine wpAny_pyIter_tuple (show s1.heap.IsTuple a its.toArray from p) ?_
    refine ⟨s1.heap.objs.size, [s1.heap.objs.size], _, _, H1, rfl, I1.kept (t' := s1.toks) fun b o e => Heap.get?_push_of_some _ e, turn_tuple a _, ⟨_, Heap.get?_push_size _ rfl, rfl, rfl⟩, fun b hb => ?_, q hz⟩
    have e : b = s1.heap.objs.size := by simpa using hb
    subst e
    exact I1.fpOk (Nat.le_refl _) (I1.hok.fresh (Nat.le_refl _))
theorem ix_seq (h : EX X e fa) : IX X tg e (iSeq fa) := ⟨_, pi_seqW h, fun σ H p c ρ F Q' R es h k => ⟨p, c, ρ, F, _, es, h, fun x c1 v F1 H1 w1 ok1 r1 q1 => by
  split at q1
  · obtain ⟨a, xs, rfl, h1, rl⟩ := r1
    exact .inl ⟨a, xs, rfl, .of (ok1.sub _ _ h1), fun hz => k _ c1 F1 H1 _ w1 ok1 (walks_list h1 rl (by rw [line16, rl.len] at hz; exact hz)) q1⟩
  · obtain ⟨a, xs, rfl, h1, rl⟩ := r1
    exact .inr ⟨a, xs, rfl, ok1.sqT h1, fun hz => k _ c1 F1 H1 _ w1 ok1 (walks_tup h1 rl (by rw [line16, rl.len] at hz; exact hz)) q1⟩
  · exact q1.elim⟩⟩
/-! enumerate -/
def IteT (K : PySem.W.Frag) (a : Addr) : It :=
  ⟨fun i H => ∃ (xs : List V) (x : V), SqT K H a xs ∧ xs[i]? = some x, fun i H v H' => ∃ T x, v = .ref T ∧ H T = none ∧ H' = upd H T (.tup [.int (i : Nat), x]) ∧ ∀ xs, SqT K H a xs → xs[i]? = some x, fun i H => ∃ xs : List V, SqT K H a xs ∧ xs.length = i⟩
theorem turn_enumT {P : Program} {w : World} {K : PySem.W.Frag} {elts : List Expr} {kk : Nat} {tpos : Pos} (a e it : Addr) :
    Turn P w K (.Tuple elts kk tpos) (IteT K a) [e, it] e (fun i h => (∃ old, IsEnum h e it ((i : Nat) : Int) old) ∧ h.IsTupleIter it a i ∧ e ≠ it ∧ a ≠ it ∧ e ≠ a) where
  mem := by simp
  obj := fun i h st b hb => by
    obtain ⟨⟨old, he⟩, ⟨o, ho, hc, hd⟩, _⟩ := st
    have e' : b = e ∨ b = it := by simpa using hb
    rcases e' with z | z
    · rw [z]; exact ⟨_, he, fun v q => nomatch q⟩
    · rw [z]; exact ⟨o, ho, fun v q => by rw [hd] at q; cases q⟩
  keep := fun i h h' st k => let ⟨⟨old, he⟩, hi, hne⟩ := st; ⟨⟨old, k e (by simp) _ he⟩, hi.at fun o q => k it (by simp) o q, hne⟩
  item := by
    intro X hP hw hK hc i pins s σ H E I hf st hg
    subst hP hw hK
    obtain ⟨⟨old, he⟩, hit, hne, hna, hea⟩ := st
    obtain ⟨xs, x, hq, hx⟩ := hg
    obtain ⟨its, rv, p, hz⟩ := I.tuple hq
    obtain ⟨u, hu, ru⟩ := rv.get hx
    have hel : e < s.heap.objs.size := Heap.lt_size he
    have hil : it < s.heap.objs.size := by obtain ⟨_, q, _⟩ := hit; exact Heap.lt_size q
    have hi : i < its.toArray.size := by
      have := (List.getElem?_eq_some_iff.mp hu).1
      simpa using this
    refine wpAny_pyNext_enum_itemC (Draws.tuple (A := X.A.in1) (show X.A.in1.handled = none from I.ok.hd hc) it a hna its.toArray) he ⟨hit, p⟩ hi hne (by simp [hne, hea]) fun y h' tk hP ho hs' hT hsz hk => ?_
    have ey : y = u := by
      have hP' : its.toArray[i]? = some y := hP
      rw [show its.toArray[i]? = its[i]? by simp, hu] at hP'
      exact (Option.some.inj hP').symm
    subst ey
    refine ⟨_, rfl, wpAny_letOwnedTupleGo_enum (s := { s with heap := h', toks := tk + 1 }) ho fun h'' he' sb => ?_⟩
    have hT2 : h''.get? s.heap.objs.size = some { cls := .type "tuple", data := .seq #[.int i tk, y] } := (sb.2 _ (Nat.ne_of_gt hel)).trans hT
    have new : ObjOk X.prog X.w (upd H s.heap.objs.size (.tup [.int (i : Nat), x])) h'' s.heap.objs.size (.tup [.int (i : Nat), x]) :=
      ⟨by show 2 ≤ sizeLine; decide, [.int i tk, y], .cons ⟨_, rfl⟩ (.cons ru .nil), ⟨_, hT2, rfl, _, rfl⟩⟩
    have I1 : Inv X pins σ (upd H s.heap.objs.size (.tup [.int (i : Nat), x])) { s with heap := h'', toks := tk + 1 } :=
      I.turnedNew (ch := [e, it]) (fun b ob hb q => (sb.2 b (fun z => hb (by simp [z]))).trans (hk b ob (fun z => hb (by simp [z])) (fun z => hb (by simp [z])) q)) hf (Nat.le_refl _) new
    refine ⟨.ref s.heap.objs.size, _, I1, rfl, ⟨_, x, rfl, I.hok.fresh (Nat.le_refl _), rfl, fun ys hy => by rw [I.tuple_inj hy hq]; exact hx⟩, ⟨⟨y, ?_⟩, hs'.1.at fun o q => (sb.2 it (Ne.symm hne)).trans q, hne, hna, hea⟩, fun b hb => ?_⟩
    · have e1 : ((i + 1 : Nat) : Int) = (i : Int) + 1 := by omega
      rw [e1]; exact he'
    · have hb' : b < s.heap.objs.size := by
        have e' : b = e ∨ b = it := by simpa using hb
        rcases e' with z | z
        · rw [z]; exact hel
        · rw [z]; exact hil
      rw [upd_ne (Nat.ne_of_lt hb')]
      exact (hf b hb).1
  done := by
    intro X hP hw hK hc i pins s σ H E I hf st hg
    subst hP hw hK
    obtain ⟨⟨old, he⟩, hit, hne, hna, hea⟩ := st
    obtain ⟨xs, hq, hx⟩ := hg
    obtain ⟨its, rv, p, hz⟩ := I.tuple hq
    obtain ⟨f0, f1, f2, f3, f4, f5⟩ := hf it (by simp)
    have hl := rv.length
    have en : its.toArray.size = i := by simp; omega
    refine wpAny_pyNext_enum_endD (i := ((i : Nat) : Int)) (Draws.tuple (A := X.A.in1) (show X.A.in1.handled = none from I.ok.hd hc) it a hna its.toArray) he ?_ fun h' eb => ⟨rfl, I.turned (t' := s.toks) (fun b o hb q => eb b o hb q) f0 f1 f3 f4 f5⟩
    rw [en]
    exact ⟨hit, p⟩
  self := fun A i s Q E st h => let ⟨⟨_, he⟩, _⟩ := st; wpAny_pyIter_enum he h
set_option maxHeartbeats 1000000 in
theorem meets_enumerate_newB1 {v : Value} {o : Obj} {H : Heap → Prop} (B : Begins v o H) :
    Meets (Builtin.«enumerate.__new__» ⟨[.type "enumerate", v], []⟩) (fun _ R s => H s.heap ∧
      R (.ok (.ret (.ref (s.heap.push o).objs.size))) { s with heap := (s.heap.push o).push { cls := .type "enumerate", data := .fields #[.none, .bool false, .ref s.heap.objs.size, rawInt 0, .none, .none] } }) :=
  .of_wp fun prog w A R s h => by
    obtain ⟨hp, g, d, tk, os⟩ := s; obtain ⟨h1, h⟩ := h
    have hsub := sub_enumerate
    have q1 : ∀ {A' : Around} {E : Value → Shared → Prop} {Q : Value → Shared → Prop}, Q (.ref hp.objs.size) ⟨hp.push o, g, d, tk, os⟩ → wpAny (model prog w) A' (pyIter v) Q E ⟨hp, g, d, tk, os⟩ :=
      fun q => B.iter prog w _ _ ⟨hp, g, d, tk, os⟩ _ h1 q
    wp_walk using q1
    refine wpAny_stack_any fun st => wpAny_pure ?_
    split
    · rename_i c _ _ _ _ _
      cases (c == Value.type "enumerate")
      · wp_walk using q1
        exact ⟨_, rfl, h⟩
      · wp_walk using q1
        exact ⟨_, rfl, h⟩
    · wp_walk using q1
      exact ⟨_, rfl, h⟩
theorem call_enumerate_B {prog : Program} {w : World} {A : Around} {E : Value → Shared → Prop} {s : Shared} {v : Value} {o : Obj} {H : Heap → Prop} {Q : Value → Shared → Prop} (B : Begins v o H) (h1 : H s.heap)
    (h : ∀ h', IsEnum h' (s.heap.objs.size + 1) s.heap.objs.size 0 .none → h'.get? s.heap.objs.size = some o → h'.objs.size = s.heap.objs.size + 2 →
      (∀ b o, s.heap.get? b = some o → h'.get? b = some o) → Q (.ref (s.heap.objs.size + 1)) { s with heap := h' }) :
    wpAny (model prog w) A (call (.type "enumerate") [v]) Q E s := by
  refine callType_new PySem.F.called_enumerate (by decide) (PySem.F.typeCall_enumerate_1 _) (PySem.F.newCall_enumerate_1 _) (fun obj => PySem.F.args_object_init_2 obj _) PySem.F.entry_enumerate_new
    (meets_enumerate_newB1 B) ⟨h1, ?_⟩
  have hz : (s.heap.push o).objs.size = s.heap.objs.size + 1 := Heap.size_push ..
  show _ ∧ _
  rw [hz]
  have he : IsEnum ((s.heap.push o).push { cls := .type "enumerate", data := .fields #[.none, .bool false, .ref s.heap.objs.size, rawInt 0, .none, .none] }) (s.heap.objs.size + 1) s.heap.objs.size 0 .none := by
    have := Heap.get?_push_size (s.heap.push o) (o := { cls := .type "enumerate", data := .fields #[.none, .bool false, .ref s.heap.objs.size, rawInt 0, .none, .none] }) rfl
    rw [hz] at this; exact this
  refine ⟨⟨_, he, rfl⟩, h _ he (Heap.get?_push_of_some _ (Heap.get?_push_size _ B.free)) (by rw [Heap.size_push, hz]) fun b o x => Heap.get?_push_of_some _ (Heap.get?_push_of_some _ x)⟩
def iEnumT (K : PySem.W.Frag) (ta : TA) : TI := fun σ H R => ta σ H fun vs H1 => ∃ a xs, vs = [.ref a] ∧ ((SqL K H1 a xs ∧ (xs.length ≤ sizeLine → R (Ite K a) H1)) ∨ (SqT K H1 a xs ∧ (xs.length ≤ sizeLine → R (IteT K a) H1)))
theorem pi_enumT {X : Cx} {e : Expr} {ta : TA} {p pos tpos : Pos} {elts : List Expr} {kk : Nat} (hg : Gl X "enumerate") (hm : X.mg "enumerate" = none) (ha : PA X [e] ta) (hs : starEach [e] X.env = [(false, eval e X.env)] := by rfl) :
    PI X (.Tuple elts kk tpos) (.Call (.Name "enumerate" p) [e] [] pos) (iEnumT X.K ta) := by
  refine ⟨fun pins s σ H R I h => ?_⟩
  refine Call_ (ld_blt I hg hm PyProof.Rows.boot_enumerate (PyProof.Rows.callWith_type1 (thn (ha.run pos pins s σ H _ I h) fun us s1 ⟨vs, H1, I1, r1, q1⟩ => ?_) hs rfl))
  obtain ⟨a, xs, ex, q1⟩ := q1
  subst ex
  cases r1 with
  | cons r rr =>
    cases rr
    cases r
    have fresh2 : ∀ b, b ∈ [s1.heap.objs.size + 1, s1.heap.objs.size] → FpOk X pins H1 b := fun b hb => by
      have e' : b = s1.heap.objs.size + 1 ∨ b = s1.heap.objs.size := by simpa using hb
      have hle : s1.heap.objs.size ≤ b := by
        rcases e' with z | z
        · rw [z]; exact Nat.le_add_right _ _
        · rw [z]; exact Nat.le_refl _
      exact I1.fpOk hle (I1.hok.fresh hle)
    rcases q1 with ⟨hq, q⟩ | ⟨hq, q⟩
    · obtain ⟨its, rv, p', hz⟩ := I1.list hq
      refine call_enumerate_list p'.isList fun h' he hit hsz hk => wpAny_pyIter_enum he ?_
      have I2 : Inv X pins σ H1 { s1 with heap := h' } := I1.kept (t' := s1.toks) hk
      exact ⟨s1.heap.objs.size + 1, [s1.heap.objs.size + 1, s1.heap.objs.size], _, _, H1, rfl, I2, turn_enum a (s1.heap.objs.size + 1) s1.heap.objs.size, ⟨⟨.none, he⟩, hit, Nat.succ_ne_self _⟩, fresh2, q hz⟩
    · obtain ⟨its, rv, p', hz⟩ := I1.tuple hq
      have hta : s1.heap.IsTuple a its.toArray := p'
      have hal : a < s1.heap.objs.size := p'.lt
      refine call_enumerate_B (begins_tuple a its.toArray) hta fun h' he hit hsz hk => wpAny_pyIter_enum he ?_
      have I2 : Inv X pins σ H1 { s1 with heap := h' } := I1.kept (t' := s1.toks) hk
      exact ⟨s1.heap.objs.size + 1, [s1.heap.objs.size + 1, s1.heap.objs.size], _, _, H1, rfl, I2, turn_enumT a (s1.heap.objs.size + 1) s1.heap.objs.size, ⟨⟨.none, he⟩, ⟨_, hit, rfl, rfl⟩, Nat.succ_ne_self _, Nat.ne_of_lt hal, Nat.ne_of_gt (Nat.lt_succ_of_lt hal)⟩, fresh2, q hz⟩
def enumL (n : Nat) : List D → List D
  | [] => []
  | d :: l => .tup [.int n, d] :: enumL (n + 1) l
theorem enumL_len : ∀ (n : Nat) (l : List D), (enumL n l).length = l.length
  | _, [] => rfl
  | n, d :: l => by show (enumL (n + 1) l).length + 1 = l.length + 1; rw [enumL_len]
theorem enumL_get : ∀ (n : Nat) (l : List D) (i : Nat) (d : D), l[i]? = some d → (enumL n l)[i]? = some (.tup [.int ((n + i : Nat) : Int), d])
  | _, [], _, _, h => by simp at h
  | n, x :: l, 0, d, h => by
    cases (show some x = some d from h)
    rfl
  | n, x :: l, i + 1, d, h => by
    have := enumL_get (n + 1) l i d h
    rw [show n + 1 + i = n + (i + 1) by omega] at this
    exact this
@[simp ↓] def iEnum3 (fe : FE) : FI := fun ρ c Q => fe ρ c fun x c => match x with
  | .lst l => Q (enumL 0 l) c
  | .tup l => Q (enumL 0 l) c
  | _ => False
theorem pair_new {p : Pn} {c : Nat} {F H : Hp} {T : Addr} {x y : V} {d d' : D} (ok : Ok3 p c F H) (n : H T = none) (r : Rep K p F d x) (r' : Rep K p F d' y) : ∃ F', Fwd p F H F' (upd H T (.tup [x, y])) ∧ Ok3 p c F' (upd H T (.tup [x, y])) ∧ Rep K p F' (.tup [d, d']) (.ref T) := by
  obtain ⟨w, ok'⟩ := Fwd.laid ok n (.tup [x, y])
  exact ⟨_, w, ok', T, [x, y], rfl, .of upd_same, x, [y], rfl, r.mono w.frz, y, [], rfl, r'.mono w.frz, rfl⟩
theorem ix_enum {p' tpos : Pos} {elts : List Expr} {kk : Nat} (hm : X.mg "enumerate" = none) (ha : EX X e fa) (hg : Gl X "enumerate" := by rfl) (hs : starEach [e] X.env = [(false, eval e X.env)] := by rfl) : IX X (.Tuple elts kk tpos) (.Call (.Name "enumerate" p') [e] [] pos) (iEnum3 fa) :=
  ⟨_, pi_enumT hg hm (pa_cons ha pa_nil hs) hs, fun σ H p c ρ F Q' R es h k => ⟨p, c, ρ, F, _, es, h, fun x c1 v F1 H1 w1 ok1 r1 q1 => by
  split at q1
  · rename_i l
    obtain ⟨a, xs, rfl, h1, rl⟩ := r1
    refine ⟨a, xs, rfl, .inl ⟨.of (ok1.sub _ _ h1), fun hz => k _ c1 F1 H1 _ w1 ok1 ⟨by rw [enumL_len, ← rl.len, ← line16]; exact hz, fun i F H c up ok => ?_⟩ q1⟩⟩
    have hH : SqL X.K H a xs := .of (ok.sub _ _ (up _ _ h1))
    rw [enumL_len]
    refine ⟨fun hi => ⟨⟨xs, xs[i]'(by rw [rl.len]; exact hi), hH, List.getElem?_eq_getElem _⟩, fun y H' hy => ?_⟩, fun hi => ⟨xs, hH, by rw [rl.len]; exact Nat.le_of_eq hi.symm⟩⟩
    obtain ⟨T, z, rfl, nT, rfl, hz⟩ := hy
    obtain ⟨d, e1, e2⟩ := rl.back (hz xs hH)
    obtain ⟨F', w', ok', r'⟩ := pair_new (x := V.int ((i : Nat) : Int)) (d := D.int ((0 + i : Nat) : Int)) ok nT (by rw [Nat.zero_add]; rfl) (e2.mono up)
    exact ⟨F', _, enumL_get 0 l i d e1, w', ok', r'⟩
  · rename_i l
    obtain ⟨a, xs, rfl, h1, rl⟩ := r1
    refine ⟨a, xs, rfl, .inr ⟨ok1.sqT h1, fun hz => k _ c1 F1 H1 _ w1 ok1 ⟨by rw [enumL_len, ← rl.len, ← line16]; exact hz, fun i F H c up ok => ?_⟩ q1⟩⟩
    have hH : SqT X.K H a xs := ok.sqT (Sub.sqT up h1)
    rw [enumL_len]
    refine ⟨fun hi => ⟨⟨xs, xs[i]'(by rw [rl.len]; exact hi), hH, List.getElem?_eq_getElem _⟩, fun y H' hy => ?_⟩, fun hi => ⟨xs, hH, by rw [rl.len]; exact hi.symm⟩⟩
    obtain ⟨T, z, rfl, nT, rfl, hz⟩ := hy
    obtain ⟨d, e1, e2⟩ := rl.back (hz xs hH)
    obtain ⟨F', w', ok', r'⟩ := pair_new (x := V.int ((i : Nat) : Int)) (d := D.int ((0 + i : Nat) : Int)) ok nT (by rw [Nat.zero_add]; rfl) (e2.mono up)
    exact ⟨F', _, enumL_get 0 l i d e1, w', ok', r'⟩
  · exact q1.elim⟩⟩
end
end L3

/-! L3, own lists changed; stores of comprehensions; several targets. -/
namespace L3
open PySem PySem.Spec PyProof.Rows L2
section
variable {K : PySem.W.Frag} {X : Cx} {e a b tg : Expr} {es : List Expr} {fa fb : FE} {fr : FA} {pos : Pos} {f f2 : FL}
/-- x = e, x a value that is a new list -/
@[simp ↓] def sValF (i : Nat) (f : FL) : FS := fun E ρ c => f (ρ.map vA) c fun l c => E.nx (ρ.set i (.val (.lst l))) c
@[simp ↓] def eF (f : FL) : FE := fun ρ c Q => f ρ c fun l c => Q (.lst l) c
/-- what a new list may be, once it is given away -/
theorem own_frz {p : Pn} {c : Nat} {F H F1 H1 : Hp} {l : List D} {q : Addr} {xs : List V} (w1 : Fwd p F H F1 H1) (ok1 : Ok3 p c F1 H1) (n1 : H q = none) (n2 : F1 q = none) (n3 : p.pot ≠ some q) (h1 : H1 q = some (.lst xs)) (r1 : RepL K p F1 l xs) :
    ∃ F', Fwd p F H F' H1 ∧ Ok3 p c F' H1 ∧ Rep K p F' (.lst l) (.ref q) := by
  have up : ∀ b u, F1 b = some u → upd F1 q (.lst xs) b = some u := fun b u h => by rw [upd_ne (ne_of_none h n2)]; exact h
  refine ⟨upd F1 q (.lst xs), ⟨fun b u h => up b u (w1.frz b u h), w1.keep, fun b u h => ?_, w1.there⟩, ⟨fun b u h => ?_, fun b e => ?_, ok1.tab, nt_upd ok1.nt q xs n2⟩, q, xs, rfl, upd_same, r1.mono up⟩
  · by_cases e : b = q
    · subst e; exact .inr (.inl n1)
    · rw [upd_ne e] at h; exact w1.new b u h
  · by_cases e : b = q
    · subst e; rw [upd_same] at h; cases h; exact h1
    · rw [upd_ne e] at h; exact ok1.sub b u h
  · obtain ⟨z, n⟩ := ok1.pot b e
    have ne : b ≠ q := fun z => n3 (z ▸ e)
    exact ⟨z, by rw [upd_ne ne]; exact n⟩
section comp
variable {elt iter : Expr} {ifs : List Expr} {scope : Scope} {own : List (Str × Nat)} {fi : FI} {gg : FG} {is : List Nat} {fe : FE} {ft : FT} {y : Str} {py spos : Pos}
theorem ps_setC (i : Nat) (hN0 : X.N.Nodup) (hc : X.calm = true) (hN : X.N.Nodup) (hi : IX X tg iter fi) (ok : BlkOk X.N X.env.scope scope own) {gl : TG}
    (hg : ∀ (s : Shared) (H : Hp) (C : Addr) (cl : List (Str × Addr)) (fp : List Addr), PG (X.blk s H scope (compEnvC scope cl C X.env) fp) tg gl) (kg : KG X.K is gg gl)
    {t : TT} (ht : ∀ (s : Shared) (H : Hp) (C : Addr) (cl : List (Str × Addr)) (fp : List Addr), PTs (X.blk s H scope (compEnvC scope cl C X.env) fp) ifs t) (kt : KT3 X.K ft t)
    (he : ∀ (s : Shared) (H : Hp) (C : Addr) (cl : List (Str × Addr)) (fp : List Addr), EX (X.blk s H scope (compEnvC scope cl C X.env) fp) elt fe)
    (his : ∀ j ∈ is, j ∈ own.map (·.2)) (hs : ∀ x, foldedSetIterable iter X.env x = pure x) (hy : X.N[i]? = some y) (hyl : X.env.scope.names.lookup y = some .local)
    (hsw : swapsWith (.ListComp elt [⟨tg, iter, ifs, 0⟩] scope pos) (some (.Name y py)) spos.line X.env = pure true) :
    PS X (.Assign [.Name y py] (.ListComp elt [⟨tg, iter, ifs, 0⟩] scope pos) spos) (tAsg (tF X.K (fComp fi gg ft fe (own.map (·.2)))) (gName i)) := by
  obtain ⟨wi, pi, ki⟩ := hi.ex
  exact PS.imp (ps_setLc hc hN hy hyl hsw pi ok hg ht he hs) fun D σ H h => comp_w his (fun _ _ _ h => h) ki kg.k kt.k h
theorem sx_ownL (i : Nat) (hN0 : X.N.Nodup) (hc : X.calm = true) (hN : X.N.Nodup) (hi : IX X tg iter fi) (ok : BlkOk X.N X.env.scope scope own) {gl : TG}
    (hg : ∀ (s : Shared) (H : Hp) (C : Addr) (cl : List (Str × Addr)) (fp : List Addr), PG (X.blk s H scope (compEnvC scope cl C X.env) fp) tg gl) (kg : KG X.K is gg gl)
    {t : TT} (ht : ∀ (s : Shared) (H : Hp) (C : Addr) (cl : List (Str × Addr)) (fp : List Addr), PTs (X.blk s H scope (compEnvC scope cl C X.env) fp) ifs t) (kt : KT3 X.K ft t)
    (he : ∀ (s : Shared) (H : Hp) (C : Addr) (cl : List (Str × Addr)) (fp : List Addr), EX (X.blk s H scope (compEnvC scope cl C X.env) fp) elt fe)
    (his : ∀ j ∈ is, j ∈ own.map (·.2)) (hs : ∀ x, foldedSetIterable iter X.env x = pure x := by intro _; rfl) (hy : X.N[i]? = some y := by rfl) (hyl : X.env.scope.names.lookup y = some .local := by rfl)
    (hsw : swapsWith (.ListComp elt [⟨tg, iter, ifs, 0⟩] scope pos) (some (.Name y py)) spos.line X.env = pure true := by exact sw_true rfl rfl rfl (by decide +kernel)) :
    SX X (.Assign [.Name y py] (.ListComp elt [⟨tg, iter, ifs, 0⟩] scope pos) spos) (sOwnF i (fComp fi gg ft fe (own.map (·.2)))) :=
  PS.imp (ps_setC i hN0 hc hN hi ok hg kg ht kt he his hs hy hyl hsw) fun D σ H ⟨p, c, ρ, F, F0, H0, E, s, h, t⟩ => ⟨p, c, _, F, _, s.e, h, fun l c1 a xs F1 H1 w1 ok1 n1 n2 n3 h1 r1 q1 => by
    refine t.nx c1 _ _ F1 H1 ((s.fwd w1 ok1).setOwn i h1 n2 (s.ent.there a n1) n3 r1 fun j m e1 e2 => ?_) q1
    obtain ⟨b, ys, g1, g2, _⟩ := s.own j m e1
    rw [e2] at g1
    cases g1
    rw [n1] at g2
    cases g2⟩
theorem sx_ownBL (i : Nat) (hN0 : X.N.Nodup) (hc : X.calm = true) (hN : X.N.Nodup) (hi : IX X tg iter fi) (ok : BlkOk X.N X.env.scope scope own) {gl : TG}
    (hg : ∀ (s : Shared) (H : Hp) (C : Addr) (cl : List (Str × Addr)) (fp : List Addr), PG (X.blk s H scope (compEnvC scope cl C X.env) fp) tg gl) (kg : KG X.K is gg gl)
    {t : TT} (ht : ∀ (s : Shared) (H : Hp) (C : Addr) (cl : List (Str × Addr)) (fp : List Addr), PTs (X.blk s H scope (compEnvC scope cl C X.env) fp) ifs t) (kt : KT3 X.K ft t)
    (he : ∀ (s : Shared) (H : Hp) (C : Addr) (cl : List (Str × Addr)) (fp : List Addr), EX (X.blk s H scope (compEnvC scope cl C X.env) fp) elt fe)
    (his : ∀ j ∈ is, j ∈ own.map (·.2)) (hs : ∀ x, foldedSetIterable iter X.env x = pure x := by intro _; rfl) (hy : X.N[i]? = some y := by rfl) (hyl : X.env.scope.names.lookup y = some .local := by rfl)
    (hsw : swapsWith (.ListComp elt [⟨tg, iter, ifs, 0⟩] scope pos) (some (.Name y py)) spos.line X.env = pure true := by exact sw_true rfl rfl rfl (by decide +kernel)) :
    SX X (.Assign [.Name y py] (.ListComp elt [⟨tg, iter, ifs, 0⟩] scope pos) spos) (sOwnFB i (fComp fi gg ft fe (own.map (·.2)))) :=
  PS.imp (ps_setC i hN0 hc hN hi ok hg kg ht kt he his hs hy hyl hsw) fun D σ H ⟨p, c, ρ, F, F0, H0, E, s, h, t⟩ => by
    obtain ⟨F2, es, w2, k⟩ := s.lend
    refine ⟨p, c, _, F2, _, es, h, fun l c1 a xs F1 H1 w1 ok1 n1 n2 n3 h1 r1 q1 => ?_⟩
    obtain ⟨F3, s3, w3, _, k2, k3⟩ := k c1 F1 H1 w1 ok1
    refine t.nx c1 _ _ F3 H1 (s3.setOwn i h1 (k3 a n2) (s.ent.there a n1) n3 (k2 l xs q1.1 r1) fun j m e1 e2 => ?_) q1.2
    obtain ⟨b, ys, g1, g2, _⟩ := s.own j m e1
    rw [e2] at g1
    cases g1
    rw [n1] at g2
    cases g2
theorem sx_valL (i : Nat) (hN0 : X.N.Nodup) (hc : X.calm = true) (hN : X.N.Nodup) (hi : IX X tg iter fi) (ok : BlkOk X.N X.env.scope scope own) {gl : TG}
    (hg : ∀ (s : Shared) (H : Hp) (C : Addr) (cl : List (Str × Addr)) (fp : List Addr), PG (X.blk s H scope (compEnvC scope cl C X.env) fp) tg gl) (kg : KG X.K is gg gl)
    {t : TT} (ht : ∀ (s : Shared) (H : Hp) (C : Addr) (cl : List (Str × Addr)) (fp : List Addr), PTs (X.blk s H scope (compEnvC scope cl C X.env) fp) ifs t) (kt : KT3 X.K ft t)
    (he : ∀ (s : Shared) (H : Hp) (C : Addr) (cl : List (Str × Addr)) (fp : List Addr), EX (X.blk s H scope (compEnvC scope cl C X.env) fp) elt fe)
    (his : ∀ j ∈ is, j ∈ own.map (·.2)) (hs : ∀ x, foldedSetIterable iter X.env x = pure x := by intro _; rfl) (hy : X.N[i]? = some y := by rfl) (hyl : X.env.scope.names.lookup y = some .local := by rfl)
    (hsw : swapsWith (.ListComp elt [⟨tg, iter, ifs, 0⟩] scope pos) (some (.Name y py)) spos.line X.env = pure true := by exact sw_true rfl rfl rfl (by decide +kernel)) :
    SX X (.Assign [.Name y py] (.ListComp elt [⟨tg, iter, ifs, 0⟩] scope pos) spos) (sValF i (fComp fi gg ft fe (own.map (·.2)))) :=
  PS.imp (ps_setC i hN0 hc hN hi ok hg kg ht kt he his hs hy hyl hsw) fun D σ H ⟨p, c, ρ, F, F0, H0, E, s, h, t⟩ => ⟨p, c, _, F, _, s.e, h, fun l c1 a xs F1 H1 w1 ok1 n1 n2 n3 h1 r1 q1 => by
    obtain ⟨F', w', ok', r'⟩ := own_frz w1 ok1 n1 n2 n3 h1 r1
    exact t.nx c1 _ _ F' H1 ((s.fwd w' ok').set i r') q1⟩
end comp
/-! methods and stores -/
/-- x.extend(a new list) -/
@[simp ↓] def sExt (i : Nat) (f : FL) : FS := fun E ρ c => match ρ[i]? with
  | some (.own l) => f (ρ.map vA) c fun m c => l.length + m.length ≤ 16777216 ∧ E.nx (ρ.set i (.own (l ++ m))) c
  | _ => False
theorem sx_ext (i : Nat) (h : PE X e (tBM X.K "list" rExtend (tVar i) (tCons (tF X.K f) tNil))) (hsw : swapsWith e none pos.line X.env = pure false := by rfl) : SX X (.Expr e pos) (sExt i f) :=
  PS.imp (ps_expr h hsw) fun D σ H ⟨p, c, ρ, F, F0, H0, E, s, h, t⟩ => by
  unfold sExt at h
  split at h
  · rename_i l hi
    obtain ⟨a, xs, e1, e2, e3, e4, e5, r0⟩ := s.own i l hi
    refine ⟨_, e1, .inl ⟨rfl, _, .inl (.inl e2)⟩, p, c, _, F, _, s.e, h, fun m c1 b ys F1 H1 w1 ok1 n1 n2 n3 h1 r1 q1 => ?_⟩
    have s1 := s.fwd w1 ok1
    obtain ⟨a', xs', g1, g2, g3, g4, g5, r0'⟩ := s1.own i l hi
    rw [e1] at g1
    cases g1
    exact ⟨a, b, xs', ys, rfl, rfl, g2, h1, by rw [line16, r0'.len, r1.len]; exact q1.1, t.nx c1 _ _ F1 _ (s1.put hi e1 (r0'.app r1)) q1.2⟩
  · exact h.elim
def sExtB (i : Nat) (f : FL) : FS := fun E ρ c => match ρ[i]? with
  | some (.own l) => f (ρ.map vB) c fun m c => noLstL m = true ∧ l.length + m.length ≤ 16777216 ∧ E.nx (ρ.set i (.own (l ++ m))) c
  | _ => False
theorem sx_extB (i : Nat) (h : PE X e (tBM X.K "list" rExtend (tVar i) (tCons (tF X.K f) tNil))) (hsw : swapsWith e none pos.line X.env = pure false := by rfl) : SX X (.Expr e pos) (sExtB i f) :=
  PS.imp (ps_expr h hsw) fun D σ H ⟨p, c, ρ, F, F0, H0, E, s, h, t⟩ => by
  unfold sExtB at h
  split at h
  · rename_i l hi
    obtain ⟨a, xs, e1, e2, e3, e4, e5, r0⟩ := s.own i l hi
    obtain ⟨F2, es, w2, k⟩ := s.lend
    refine ⟨_, e1, .inl ⟨rfl, _, .inl (.inl e2)⟩, p, c, _, F2, _, es, h, fun m c1 b ys F1 H1 w1 ok1 n1 n2 n3 h1 r1 q1 => ?_⟩
    obtain ⟨F3, s1, w3, k1, k2, _⟩ := k c1 F1 H1 w1 ok1
    obtain ⟨a', xs', g1, g2, g3, g4, g5, r0'⟩ := s1.own i l hi
    rw [e1] at g1
    cases g1
    exact ⟨a, b, xs', ys, rfl, rfl, g2, h1, by rw [line16, r0'.len, r1.len]; exact q1.2.1, t.nx c1 _ _ F3 _ (s1.put hi e1 (r0'.app (k2 _ _ q1.1 r1))) q1.2.2⟩
  · exact h.elim
/-- x.pop(i) as a statement -/
@[simp ↓] def sPopAt (i : Nat) (fe : FE) : FS := fun E ρ c => match ρ[i]? with
  | some (.own l) => fe (ρ.map vB) c fun d c => match d with
    | .int k => (0 ≤ k ∧ k < l.length ∧ k < 2 ^ 62) ∧ E.nx (ρ.set i (.own (l.eraseIdx k.toNat))) c
    | _ => False
  | _ => False
abbrev sPopAtB := sPopAt
theorem RepL.erase {p : Pn} {F : Hp} : ∀ {l : List D} {xs : List V} (n : Nat), RepL K p F l xs → RepL K p F (l.eraseIdx n) (xs.eraseIdx n)
  | [], _, n, h => by cases h; exact rfl
  | d :: l, _, 0, h => by
    obtain ⟨x, r, rfl, _, h⟩ := h
    exact h
  | d :: l, _, n + 1, h => by
    obtain ⟨x, r, rfl, h1, h⟩ := h
    exact ⟨x, _, rfl, h1, RepL.erase n h⟩
theorem seq_ix {k : Int} {n : Nat} (h0 : 0 ≤ k) (h1 : k < n) : seqIndex? k n = some k.toNat := by
  have : ixN n k = some k.toNat := by
    unfold ixN
    rw [if_pos h0, if_pos h1]
  exact (ixN_seq this).1
theorem sx_popAt (i : Nat) (h : PE X e (tBM X.K "list" rPopAt (tVar i) (tCons (tE X.K fa) tNil))) (hsw : swapsWith e none pos.line X.env = pure false := by rfl) : SX X (.Expr e pos) (sPopAt i fa) :=
  PS.imp (ps_expr h hsw) fun D σ H ⟨p, c, ρ, F, F0, H0, E, s, h, t⟩ => by
  unfold sPopAt at h
  split at h
  · rename_i l hi
    obtain ⟨a, xs, e1, e2, e3, e4, e5, r0⟩ := s.own i l hi
    obtain ⟨F2, es, w2, k⟩ := s.lend
    refine ⟨_, e1, .inl ⟨rfl, _, .inl (.inl e2)⟩, p, c, _, F2, _, es, h, fun d c1 v F1 H1 w1 ok1 r1 q1 => ?_⟩
    obtain ⟨F3, s1, w3, k1, k2, _⟩ := k c1 F1 H1 w1 ok1
    obtain ⟨a', xs', g1, g2, g3, g4, g5, r0'⟩ := s1.own i l hi
    rw [e1] at g1
    cases g1
    split at q1
    · rename_i j
      cases (show v = .int j from r1)
      obtain ⟨⟨j0, j1, j2⟩, q⟩ := q1
      have hl := r0'.len
      have hlt : j.toNat < xs'.length := by omega
      exact ⟨a, xs', j, j.toNat, xs'[j.toNat], rfl, rfl, g2, by omega, by omega, by rw [hl]; exact seq_ix j0 j1, List.getElem?_eq_getElem hlt, t.nx c1 _ _ F3 _ (s1.put hi e1 (r0'.erase _)) q⟩
    · exact q1.elim
  · exact h.elim
/-- x.append(y.pop(i)) -/
@[simp ↓] def sAppPop (i j : Nat) (fe : FE) : FS := fun E ρ c => match ρ[i]?, ρ[j]? with
  | some (.own l), some (.own m) => fe (ρ.map vB) c fun d c => match d with
    | .int k => (0 ≤ k ∧ k < m.length ∧ k < 2 ^ 62 ∧ l.length < 16777216) ∧ ∀ x, m[k.toNat]? = some x → E.nx ((ρ.set j (.own (m.eraseIdx k.toNat))).set i (.own (l ++ [x]))) c
    | _ => False
  | _, _ => False
abbrev sAppPopB := sAppPop
theorem sx_appPop (i j : Nat) (h : PE X e (tBM X.K "list" rAppend (tVar i) (tCons (tBM X.K "list" rPopAt (tVar j) (tCons (tE X.K fa) tNil)) tNil))) (hij : i ≠ j := by decide) (hsw : swapsWith e none pos.line X.env = pure false := by rfl) : SX X (.Expr e pos) (sAppPop i j fa) :=
  PS.imp (ps_expr h hsw) fun D σ H ⟨p, c, ρ, F, F0, H0, E, s, h, t⟩ => by
  unfold sAppPop at h
  split at h
  · rename_i l m hi hj
    obtain ⟨a, xs, e1, e2, e3, e4, e5, r0⟩ := s.own i l hi
    obtain ⟨b, ys, f1, f2, f3, f4, f5, r00⟩ := s.own j m hj
    obtain ⟨F2, es, w2, k⟩ := s.lend
    refine ⟨_, e1, .inl ⟨rfl, _, .inl (.inl e2)⟩, _, f1, .inl ⟨rfl, _, .inl (.inl f2)⟩, p, c, _, F2, _, es, h, fun d c1 v F1 H1 w1 ok1 r1 q1 => ?_⟩
    obtain ⟨F3, s1, w3, k1, k2, _⟩ := k c1 F1 H1 w1 ok1
    obtain ⟨b', ys', g1, g2, g3, g4, g5, r0'⟩ := s1.own j m hj
    rw [f1] at g1
    cases g1
    split at q1
    · rename_i kk
      cases (show v = .int kk from r1)
      obtain ⟨⟨j0, j1, j2, j3⟩, q⟩ := q1
      have hl := r0'.len
      have hlt : kk.toNat < ys'.length := by omega
      obtain ⟨x, m1, m2⟩ := r0'.back (List.getElem?_eq_getElem hlt)
      have s2 := s1.put hj f1 (r0'.erase kk.toNat)
      have hi2 : (ρ.set j (SV.own (m.eraseIdx kk.toNat)))[i]? = some (SV.own l) := by rw [List.getElem?_set_ne (Ne.symm hij)]; exact hi
      obtain ⟨a2, xs2, z1, z2, z3, z4, z5, z6⟩ := s2.own i l hi2
      rw [e1] at z1
      cases z1
      refine ⟨b, ys', kk, kk.toNat, ys'[kk.toNat], rfl, rfl, g2, by omega, by omega, by rw [hl]; exact seq_ix j0 j1, List.getElem?_eq_getElem hlt, ?_⟩
      exact ⟨a, xs2, _, rfl, rfl, z2, by rw [line16, z6.len]; exact j3, t.nx c1 _ _ F3 _ (s2.put hi2 e1 (z6.app (RepL.single m2))) (q x m1)⟩
    · exact q1.elim
  · exact h.elim
/-- x.insert(i, e) -/
@[simp ↓] def sIns (i : Nat) (fi fe : FE) : FS := fun E ρ c => match ρ[i]? with
  | some (.own l) => fi (ρ.map vB) c fun d c => fe (ρ.map vB) c fun y c => match d with
    | .int k => (0 ≤ k ∧ k < 2 ^ 62 ∧ l.length < 16777216) ∧ noLst y = true ∧ E.nx (ρ.set i (.own (l.take k.toNat ++ [y] ++ l.drop k.toNat))) c
    | _ => False
  | _ => False
abbrev rInsert : V → List V → Hp → VK → Prop := fun x vs H Q => ∃ (l : Addr) (xs : List V) (i : Int) (y : V), x = .ref l ∧ vs = [.int i, y] ∧ H l = some (.lst xs) ∧ xs.length < sizeLine ∧ 0 ≤ i ∧ i < 2 ^ 63 ∧ Q .non (upd H l (.lst (xs.take i.toNat ++ [y] ++ xs.drop i.toNat)))
theorem sx_ins (i : Nat) (h : PE X e (tBM X.K "list" rInsert (tVar i) (tCons (tE X.K fa) (tCons (tE X.K fb) tNil)))) (hsw : swapsWith e none pos.line X.env = pure false := by rfl) : SX X (.Expr e pos) (sIns i fa fb) :=
  PS.imp (ps_expr h hsw) fun D σ H ⟨p, c, ρ, F, F0, H0, E, s, h, t⟩ => by
  unfold sIns at h
  split at h
  · rename_i l hi
    obtain ⟨a, xs, e1, e2, e3, e4, e5, r0⟩ := s.own i l hi
    obtain ⟨F2, es, w2, k⟩ := s.lend
    refine ⟨_, e1, .inl ⟨rfl, _, .inl (.inl e2)⟩, p, c, _, F2, _, es, h, fun d c1 v F1 H1 w1 ok1 r1 q1 => ⟨p, c1, _, F1, _, es.fwd w1 ok1, q1, fun y c4 u F4 H4 w4 ok4 r4 q4 => ?_⟩⟩
    obtain ⟨F3, s1, w3, k1, k2, _⟩ := k c4 F4 H4 (w1.trans w4) ok4
    obtain ⟨a', xs', g1, g2, g3, g4, g5, r0'⟩ := s1.own i l hi
    rw [e1] at g1
    cases g1
    split at q4
    · rename_i j
      cases (show v = .int j from r1)
      obtain ⟨⟨j0, j1, j2⟩, nl, q⟩ := q4
      exact ⟨a, xs', j, u, rfl, rfl, g2, by rw [line16, r0'.len]; exact j2, j0, by omega, t.nx c4 _ _ F3 _ (s1.put hi e1 (((r0'.take _).app (RepL.single (k1 _ _ nl r4))).app (r0'.drop _))) q⟩
    · exact q4.elim
  · exact h.elim
/-- x[i] = e -/
@[simp ↓] def sSet (i : Nat) (fe fi : FE) : FS := fun E ρ c => match ρ[i]? with
  | some (.own l) => fe (ρ.map vB) c fun y c => fi (ρ.map vB) c fun d c => match d with
    | .int k => (0 ≤ k ∧ k < l.length) ∧ noLst y = true ∧ E.nx (ρ.set i (.own (l.set k.toNat y))) c
    | _ => False
  | _ => False
abbrev sSetB := sSet
theorem RepL.set {p : Pn} {F : Hp} {d : D} {v : V} (hd : Rep K p F d v) : ∀ {l : List D} {xs : List V} (n : Nat), RepL K p F l xs → RepL K p F (l.set n d) (xs.set n v)
  | [], _, n, h => by cases h; exact rfl
  | _ :: l, _, 0, h => by
    obtain ⟨x, r, rfl, _, h⟩ := h
    exact ⟨v, r, rfl, hd, h⟩
  | _ :: l, _, n + 1, h => by
    obtain ⟨x, r, rfl, h1, h⟩ := h
    exact ⟨x, _, rfl, h1, RepL.set hd n h⟩
theorem sx_setB {st : Stmt} (i : Nat) (h : PS X st (tAsg (tE X.K fa) (gSub (tVar i) (tE X.K fb) rSetL))) : SX X st (sSet i fa fb) := PS.imp h fun D σ H ⟨p, c, ρ, F, F0, H0, E, s, h, t⟩ => by
  unfold sSet at h
  split at h
  · rename_i l hi
    obtain ⟨a, xs, e1, e2, e3, e4, e5, r0⟩ := s.own i l hi
    obtain ⟨F2, es, w2, k⟩ := s.lend
    refine ⟨p, c, _, F2, _, es, h, fun y c1 v F1 H1 w1 ok1 r1 q1 => ⟨_, e1, p, c1, _, F1, _, es.fwd w1 ok1, q1, fun d c4 u F4 H4 w4 ok4 r4 q4 => ?_⟩⟩
    obtain ⟨F3, s1, w3, k1, k2, _⟩ := k c4 F4 H4 (w1.trans w4) ok4
    obtain ⟨a', xs', g1, g2, g3, g4, g5, r0'⟩ := s1.own i l hi
    rw [e1] at g1
    cases g1
    split at q4
    · rename_i j
      cases (show u = .int j from r4)
      obtain ⟨⟨j0, j1⟩, nl, q⟩ := q4
      exact ⟨a, xs', j, j.toNat, rfl, rfl, g2, by rw [r0'.len]; unfold ixN; rw [if_pos j0, if_pos j1], t.nx c4 _ _ F3 _ (s1.put hi e1 (RepL.set (k1 _ _ nl (r1.mono w4.frz)) _ r0')) q⟩
    · exact q4.elim
  · exact h.elim
theorem sx_set {st : Stmt} (i : Nat) (h : PS X st (tAsg (tE X.K fa) (gSub (tVar i) (tE X.K fb) rSetL))) : SX X st (sSet i fa fb) := sx_setB i h
/-- x[i], x[j] = e -/
@[simp ↓] def sSwap (i : Nat) (fe fi fj : FE) : FS := fun E ρ c => match ρ[i]? with
  | some (.own l) => fe (ρ.map vB) c fun y c => match y with
    | .tup [y, z] => fi (ρ.map vB) c fun d c => match d with
      | .int k => (0 ≤ k ∧ k < l.length) ∧ noLst y = true ∧ noLst z = true ∧ fj ((ρ.set i (.own (l.set k.toNat y))).map vB) c fun d c => match d with
        | .int m => (0 ≤ m ∧ m < l.length) ∧ E.nx (ρ.set i (.own ((l.set k.toNat y).set m.toNat z))) c
        | _ => False
      | _ => False
    | _ => False
  | _ => False
theorem sx_swap {st : Stmt} {fj : FE} (i : Nat) (h : PS X st (tAsg (tE X.K fa) (gTup X.K 2 (gCons (gSub (tVar i) (tE X.K fb) rSetL) (gCons (gSub (tVar i) (tE X.K fj) rSetL) gNil))))) : SX X st (sSwap i fa fb fj) := PS.imp h fun D σ H ⟨p, c, ρ, F, F0, H0, E, s, h, t⟩ => by
  unfold sSwap at h
  split at h
  · rename_i l hi
    obtain ⟨a, xs, e1, e2, e3, e4, e5, r0⟩ := s.own i l hi
    obtain ⟨F2, es, w2, k⟩ := s.lend
    refine ⟨p, c, _, F2, _, es, h, fun y c1 v F1 H1 w1 ok1 r1 q1 => ?_⟩
    split at q1
    · rename_i y z
      obtain ⟨tp, tys, rfl, ht, rt⟩ := r1
      obtain ⟨v1, v2, rfl, ry, rz⟩ := rt.two
      refine ⟨tp, [v1, v2], rfl, ok1.sqT ht, rfl, v1, [v2], rfl, _, e1, p, c1, _, F1, _, es.fwd w1 ok1, q1, fun d c4 u F4 H4 w4 ok4 r4 q4 => ?_⟩
      obtain ⟨F3, s1, w3, k1, k2, _⟩ := k c4 F4 H4 (w1.trans w4) ok4
      obtain ⟨a', xs', g1, g2, g3, g4, g5, r0'⟩ := s1.own i l hi
      rw [e1] at g1
      cases g1
      split at q4
      · rename_i j
        cases (show u = .int j from r4)
        obtain ⟨⟨j0, j1⟩, ny, nz, q⟩ := q4
        have hil : i < ρ.length := (List.getElem?_eq_some_iff.mp hi).1
        have s5 := s1.put hi e1 (RepL.set (k1 _ _ ny (ry.mono w4.frz)) j.toNat r0')
        have rz5 := k1 _ _ nz (rz.mono w4.frz)
        refine ⟨a, xs', j, j.toNat, rfl, rfl, g2, by rw [r0'.len]; unfold ixN; rw [if_pos j0, if_pos j1], v2, [], rfl, _, e1, ?_⟩
        obtain ⟨F6, es6, w6, k6⟩ := s5.lend
        refine ⟨p, c4, _, F6, _, es6, q, fun d c7 u F7 H7 w7 ok7 r7 q7 => ?_⟩
        obtain ⟨F8, s8, w8, k8, _⟩ := k6 c7 F7 H7 w7 ok7
        have hi8 : (ρ.set i (SV.own (l.set j.toNat y)))[i]? = some (SV.own (l.set j.toNat y)) := List.getElem?_set_self hil
        obtain ⟨a8, xs8, z1, z2, z3, z4, z5, z6⟩ := s8.own i _ hi8
        rw [e1] at z1
        cases z1
        split at q7
        · rename_i m
          cases (show u = .int m from r7)
          obtain ⟨⟨m0, m1⟩, q⟩ := q7
          have hl8 := z6.len
          rw [List.length_set] at hl8
          refine ⟨a, xs8, m, m.toNat, rfl, rfl, z2, by rw [hl8]; unfold ixN; rw [if_pos m0, if_pos m1], rfl, ?_⟩
          have s9 := s8.put hi8 e1 (RepL.set (rz5.mono w8.frz) m.toNat z6)
          rw [List.set_set] at s9
          exact t.nx c7 _ _ F8 _ s9 q
        · exact q7.elim
      · exact q4.elim
    · exact q1.elim
  · exact h.elim
end
end L3

/-! L3, more built-ins. -/
namespace L3
open PySem PySem.Spec PyProof.Rows L2
section
variable {K : PySem.W.Frag} {X : Cx} {e a b tg : Expr} {es : List Expr} {fa fb : FE} {fr : FA} {pos : Pos} {f f2 : FL}
/-! in, not in: data at any depth -/
@[simp ↓] def inD : D → D → Nat → KD → Prop
  | x, .lst l, c, Q => (pyD 64 x = true ∧ pyDL 63 l = true) ∧ Q (.bl (l.any fun z => eqvD z x)) c
  | x, .tup l, c, Q => (pyD 64 x = true ∧ pyDL 63 l = true) ∧ Q (.bl (l.any fun z => eqvD z x)) c
  | _, _, _, _ => False
@[simp ↓] def ninD : D → D → Nat → KD → Prop
  | x, .lst l, c, Q => (pyD 64 x = true ∧ pyDL 63 l = true) ∧ Q (.bl (!l.any fun z => eqvD z x)) c
  | x, .tup l, c, Q => (pyD 64 x = true ∧ pyDL 63 l = true) ∧ Q (.bl (!l.any fun z => eqvD z x)) c
  | _, _, _, _ => False
theorem any_toPy : ∀ {l : List D} {ds : List PyData} {x : D} {d : PyData}, toPyL l = some ds → toPy x = some d → (ds.any fun z => PyData.eqv z d) = l.any fun z => eqvD z x
  | [], _, _, _, h, _ => by
    simp [toPyL] at h
    subst h
    rfl
  | y :: l, _, x, _, h, hx => by
    unfold toPyL at h
    split at h
    · rename_i e r e1 e2
      cases h
      rw [List.any_cons, List.any_cons, eqv_toPy y x e1 hx, any_toPy e2 hx]
    · cases h
theorem shapedL_of {ds : List PyData} (h1 : PyData.canLayAll0 ds = true) (h2 : PyData.depthAll ds ≤ 63) : SeqAt.shaped (.list ds) = true := shaped_of (by unfold PyData.canLay0; exact h1) (by unfold PyData.depth; omega)
theorem shapedT_of {ds : List PyData} (h1 : PyData.canLayAll0 ds = true) (h2 : PyData.depthAll ds ≤ 63) : SeqAt.shaped (.tuple ds) = true := shaped_of (by unfold PyData.canLay0; exact h1) (by unfold PyData.depth; omega)
def rIn3 (K : PySem.W.Frag) : R2 := fun x y H Q => ∃ d ds, Dp K H x d ∧ (Dp K H y (.list ds) ∧ SeqAt.shaped (.list ds) = true ∨ Dp K H y (.tuple ds) ∧ SeqAt.shaped (.tuple ds) = true) ∧ SeqAt.shaped d = true ∧ Q (.bl (ds.any fun z => PyData.eqv z d)) H
def rNin3 (K : PySem.W.Frag) : R2 := fun x y H Q => ∃ d ds, Dp K H x d ∧ (Dp K H y (.list ds) ∧ SeqAt.shaped (.list ds) = true ∨ Dp K H y (.tuple ds) ∧ SeqAt.shaped (.tuple ds) = true) ∧ SeqAt.shaped d = true ∧ Q (.bl (!ds.any fun z => PyData.eqv z d)) H
theorem room_in_t {d : PyData} {ds : List PyData} {u : Nat} (sd : SeqAt.shaped d = true) (hu : u + 65 < cLine) : u + 1 + min (PyData.depthAll ds) d.depth < cLine := by
  have h : d.depth ≤ 64 := by
    unfold SeqAt.shaped at sd
    rw [Bool.and_eq_true] at sd
    exact of_decide_eq_true sd.2
  have := Nat.min_le_right (PyData.depthAll ds) d.depth
  omega
theorem op_in3 (hu : X.A.units + 65 < cLine) : OpR X (compareOp .In) (rIn3 X.K) := by
  intro pins s σ H x y v u Q I rx ry h
  obtain ⟨d, ds, hd, he, sd, q⟩ := h
  obtain ⟨as, r1⟩ := Dp.reads I d x v hd rx
  rcases he with ⟨he, se⟩ | ⟨he, se⟩
  · obtain ⟨bs, r2⟩ := Dp.reads I (.list ds) y u he ry
    exact SeqAt.in_list_reads r2 r1 (SeqAt.canLay_of_shaped se) (SeqAt.canLay_of_shaped sd) (room_in_t sd hu) ⟨.bl _, H, I, rfl, q⟩
  · obtain ⟨bs, r2⟩ := Dp.reads I (.tuple ds) y u he ry
    exact SeqAt.in_tuple_reads r2 r1 (SeqAt.canLay_of_shaped se) (SeqAt.canLay_of_shaped sd) (room_in_t sd hu) ⟨.bl _, H, I, rfl, q⟩
theorem op_nin3 (hu : X.A.units + 65 < cLine) : OpR X (compareOp .NotIn) (rNin3 X.K) := by
  intro pins s σ H x y v u Q I rx ry h
  obtain ⟨d, ds, hd, he, sd, q⟩ := h
  obtain ⟨as, r1⟩ := Dp.reads I d x v hd rx
  rcases he with ⟨he, se⟩ | ⟨he, se⟩
  · obtain ⟨bs, r2⟩ := Dp.reads I (.list ds) y u he ry
    exact SeqAt.notIn_list_reads r2 r1 (SeqAt.canLay_of_shaped se) (SeqAt.canLay_of_shaped sd) (room_in_t sd hu) ⟨.bl _, H, I, rfl, q⟩
  · obtain ⟨bs, r2⟩ := Dp.reads I (.tuple ds) y u he ry
    exact SeqAt.notIn_tuple_reads r2 r1 (SeqAt.canLay_of_shaped se) (SeqAt.canLay_of_shaped sd) (room_in_t sd hu) ⟨.bl _, H, I, rfl, q⟩
theorem inS : OpS K (rIn3 K) inD := by
  intro p c F H x y v u Q' Q ok rx ry h t
  unfold inD at h
  split at h
  · obtain ⟨⟨p1, p2⟩, h⟩ := h
    obtain ⟨d, h1, a1, a2⟩ := toPy_of p1
    obtain ⟨ds, h2, b1, b2⟩ := toPyL_of p2
    rw [← any_toPy h2 h1] at h
    exact ⟨d, ds, rx.dp ok.sub h1, .inl ⟨ry.dp ok.sub (show toPy (.lst _) = some (.list ds) by unfold toPy; rw [h2]; rfl), shapedL_of b1 b2⟩, shaped_of a1 a2, tellBl ok t h⟩
  · obtain ⟨⟨p1, p2⟩, h⟩ := h
    obtain ⟨d, h1, a1, a2⟩ := toPy_of p1
    obtain ⟨ds, h2, b1, b2⟩ := toPyL_of p2
    rw [← any_toPy h2 h1] at h
    exact ⟨d, ds, rx.dp ok.sub h1, .inr ⟨ry.dp ok.sub (show toPy (.tup _) = some (.tuple ds) by unfold toPy; rw [h2]; rfl), shapedT_of b1 b2⟩, shaped_of a1 a2, tellBl ok t h⟩
  · exact h.elim
theorem ninS : OpS K (rNin3 K) ninD := by
  intro p c F H x y v u Q' Q ok rx ry h t
  unfold ninD at h
  split at h
  · obtain ⟨⟨p1, p2⟩, h⟩ := h
    obtain ⟨d, h1, a1, a2⟩ := toPy_of p1
    obtain ⟨ds, h2, b1, b2⟩ := toPyL_of p2
    rw [← any_toPy h2 h1] at h
    exact ⟨d, ds, rx.dp ok.sub h1, .inl ⟨ry.dp ok.sub (show toPy (.lst _) = some (.list ds) by unfold toPy; rw [h2]; rfl), shapedL_of b1 b2⟩, shaped_of a1 a2, tellBl ok t h⟩
  · obtain ⟨⟨p1, p2⟩, h⟩ := h
    obtain ⟨d, h1, a1, a2⟩ := toPy_of p1
    obtain ⟨ds, h2, b1, b2⟩ := toPyL_of p2
    rw [← any_toPy h2 h1] at h
    exact ⟨d, ds, rx.dp ok.sub h1, .inr ⟨ry.dp ok.sub (show toPy (.tup _) = some (.tuple ds) by unfold toPy; rw [h2]; rfl), shapedT_of b1 b2⟩, shaped_of a1 a2, tellBl ok t h⟩
  · exact h.elim
/-! is True, is False -/
@[simp ↓] def isBD : D → D → Nat → KD → Prop
  | .bl x, .bl y, c, Q => Q (.bl (decide (x = y))) c
  | _, _, _, _ => False
@[simp ↓] def isNotBD : D → D → Nat → KD → Prop
  | .bl x, .bl y, c, Q => Q (.bl (!decide (x = y))) c
  | _, _, _, _ => False
theorem isBS : OpS K rIsB isBD := by
  intro p c F H x y v u Q' Q ok rx ry h t
  unfold isBD at h
  split at h
  · rename_i i j
    cases (show v = .bl i from rx)
    cases (show u = .bl j from ry)
    exact ⟨i, j, rfl, rfl, tellBl ok t h⟩
  · exact h.elim
theorem isNotBS : OpS K rNotB isNotBD := by
  intro p c F H x y v u Q' Q ok rx ry h t
  unfold isNotBD at h
  split at h
  · rename_i i j
    cases (show v = .bl i from rx)
    cases (show u = .bl j from ry)
    exact ⟨i, j, rfl, rfl, tellBl ok t h⟩
  · exact h.elim
/-! three targets -/
@[simp ↓] def sPar3 (i j k : Nat) (fr : FA) : FS := fun E ρ c => fr (ρ.map vA) c fun l c => match l with | [x, y, z] => E.nx (((ρ.set i (.val x)).set j (.val y)).set k (.val z)) c | _ => False
theorem sx_par3 {i j k : Nat} {c : Expr} {x y z : Str} {px py pz pt : Pos} {kt k2 pt2} (hc : X.calm = true) (hN : X.N.Nodup) (ha : AX X [a, b, c] fr) (hij : i ≠ j := by decide) (hil : i ≠ k := by decide) (hjl : j ≠ k := by decide) (hi : X.N[i]? = some x := by rfl) (hj : X.N[j]? = some y := by rfl) (hl : X.N[k]? = some z := by rfl)
    (hx : X.env.scope.names.lookup x = some .local := by rfl) (hy : X.env.scope.names.lookup y = some .local := by rfl) (hz : X.env.scope.names.lookup z = some .local := by rfl)
    (hw : swappedStores [.Tuple [.Name x px, .Name y py, .Name z pz] kt pt] (.Tuple [a, b, c] k2 pt2) X.env = pure (some [x, y, z]) := by rfl)
    (hs : swapsWithSole [.Tuple [.Name x px, .Name y py, .Name z pz] kt pt] (.Tuple [a, b, c] k2 pt2) pos.line X.env = pure false := by rfl) :
    SX X (.Assign [.Tuple [.Name x px, .Name y py, .Name z pz] kt pt] (.Tuple [a, b, c] k2 pt2) pos) (sPar3 i j k fr) := by
  refine PS.imp (ps_par3 hc hN hi hj hl hij hil hjl hx hy hz ha hw hs) fun D σ H ⟨p, c, ρ, F, F0, H0, E, s, h, t⟩ => ⟨p, c, _, F, _, s.e, h, fun l c1 vs F1 H1 w1 ok1 r1 q1 => ?_⟩
  split at q1
  · obtain ⟨v, r, rfl, r1, r2⟩ := r1
    obtain ⟨u, w, rfl, r2, r3⟩ := r2.two
    exact ⟨v, u, w, rfl, t.nx c1 _ _ F1 H1 ((((s.fwd w1 ok1).set i r1).set j r2).set k r3) q1⟩
  · exact q1.elim
/-! a list taken apart -/
theorem pg_lst {es : List Expr} {k : Nat} {t : TGs} {n : Nat} (hc : X.calm = true) (h : PGs X es t) (hn : (assignEach es X.env).length = n := by rfl) (hst : (assignEach es X.env).findIdx? (·.1) = none := by rfl) : PG X (.Tuple es k pos) (gUnl X.K n t) := pg_unl hc h hn hst
theorem kg_lst {is : List Nat} {gs : FGs} {gls : TGs} {n : Nat} (h1 : KGs K is gs gls) : KG K is (gLs n gs) (gUnl K n gls) := ⟨fun p c ρ σ F H F0 H0 d v k kk s r h q => by
  unfold gLs at h
  split at h
  · obtain ⟨a, xs, rfl, e1, r1⟩ := r
    exact ⟨a, xs, rfl, .of (s.ok.sub _ _ e1), by rw [r1.len]; exact h.1, h1.k p c ρ σ F H F0 H0 _ _ _ _ s r1 h.2 q⟩
  · exact h.elim⟩
/-! ranges -/
def rangeC (lo c : Int) (n : Nat) : List D := (List.range n).map fun k => .int (lo + (k : Nat) * c)
theorem rangeC_get (lo c : Int) (n i : Nat) (h : i < n) : (rangeC lo c n)[i]? = some (.int (lo + (i : Nat) * c)) := by
  unfold rangeC
  rw [List.getElem?_map, List.getElem?_range h]
  rfl
theorem rangeC_len (lo c : Int) (n : Nat) : (rangeC lo c n).length = n := by
  unfold rangeC
  rw [List.length_map, List.length_range]
/-- range(i, j, k) -/
def rszL (i j k : Int) : Nat := (Builtin.Range.rangeSize i j k).toNat
theorem rsz_le {i j k : Int} (hi : i.natAbs ≤ 8000000) (hj : j.natAbs ≤ 8000000) : rszL i j k ≤ 16777216 := by
  have := PyProof.Rows.rangeSize_toNat_le i j k
  unfold rszL
  omega
theorem rgc_of {i j k : Int} (k0 : k ≠ 0) (k1 : k.natAbs < 1073741824) (hi : i.natAbs ≤ 8000000) (hj : j.natAbs ≤ 8000000) : RgC i j k (rszL i j k) := by
  have hn := PyProof.Rows.rangeSize_toNat i j k
  have hl := PyProof.Rows.rangeSize_toNat_le i j k
  refine ⟨k0, k1, ?_, hn⟩
  unfold Builtin.Range.small
  generalize Builtin.Range.rangeSize i j k = z at hn hl
  by_cases kp : k > 0
  · simp only [Builtin.Range.rangeFitsLong, Bool.and_eq_true, Bool.or_eq_true, decide_eq_true_eq, beq_iff_eq, if_pos kp]
    omega
  · simp only [Builtin.Range.rangeFitsLong, Bool.and_eq_true, Bool.or_eq_true, decide_eq_true_eq, beq_iff_eq, if_neg kp]
    omega
@[simp ↓] def iR3 (fa : FA) : FI := fun ρ c Q => fa ρ c fun l c => match l with
  | [.int i, .int j, .int k] => (k ≠ 0 ∧ k.natAbs < 1073741824 ∧ i.natAbs ≤ 8000000 ∧ j.natAbs ≤ 8000000) ∧ Q (rangeC i k (rszL i j k)) c
  | _ => False
theorem ix_range3 {a b c : Expr} {p' pos : Pos} (hm : X.mg "range" = none) (ha : AX X [a, b, c] fr) (hg : Gl X "range" := by rfl) (hs : starEach [a, b, c] X.env = (false, eval a X.env) :: starEach [b, c] X.env := by rfl) (hpl : (backTo pos (starEach [b, c] X.env)).any (·.1) = false := by rfl) : IX X tg (.Call (.Name "range" p') [a, b, c] [] pos) (iR3 fr) :=
  ⟨_, pi_range3 hg hm ha hs hpl, fun σ H p c ρ F Q' R es h k => ⟨p, c, ρ, F, _, es, h, fun l c1 vs F1 H1 w1 ok1 r1 q1 => by
  split at q1
  · rename_i i j kk
    obtain ⟨⟨b1, b2, b3, b4⟩, q⟩ := q1
    obtain ⟨v, r, rfl, e1, r2⟩ := r1
    obtain ⟨v2, v3, rfl, e2, e3⟩ := r2.two
    cases (show v = .int i from e1)
    cases (show v2 = .int j from e2)
    cases (show v3 = .int kk from e3)
    refine ⟨i, j, kk, rszL i j kk, rfl, rgc_of b1 b2 b3 b4, k _ c1 F1 H1 _ w1 ok1 ⟨by rw [rangeC_len]; exact rsz_le b3 b4, fun n F H c up ok => ?_⟩ q⟩
    rw [rangeC_len]
    refine ⟨fun hi => ⟨hi, fun x H' y => ?_⟩, fun hi => Nat.le_of_eq hi.symm⟩
    obtain ⟨rfl, rfl⟩ := y
    exact ⟨F, _, rangeC_get i kk _ n hi, .refl .., ok, rfl⟩
  · exact q1.elim⟩⟩
@[simp ↓] def fRange1 (fa : FA) : FL := fun ρ c Q => fa ρ c fun l c => match l with
  | [.int j] => (0 ≤ j ∧ j ≤ 16777216) ∧ Q (rangeL 0 j.toNat) c
  | _ => False
@[simp ↓] def fRange2 (fa : FA) : FL := fun ρ c Q => fa ρ c fun l c => match l with
  | [.int i, .int j] => (0 ≤ i ∧ i ≤ 16777216 ∧ 0 ≤ j ∧ j ≤ 16777216) ∧ Q (rangeL i (j - i).toNat) c
  | _ => False
theorem rep_rg {p : Pn} {F : Hp} (a : Int) : ∀ (l : List Nat), RepL K p F (l.map fun k => D.int (a + (k : Nat))) (l.map fun k => V.int (a + (k : Nat)))
  | [] => rfl
  | k :: l => ⟨_, _, rfl, rfl, rep_rg a l⟩
theorem fx_range1 {x : Expr} {p p2 p3 : Pos} (hm : X.mg "list" = none) (hm2 : X.mg "range" = none) (hx : EX X x fa) (hc : X.calm = true := by rfl) (hg : Gl X "list" := by rfl) (hg2 : Gl X "range" := by rfl)
    (na : starEach [x] X.env = (false, eval x X.env) :: starEach [] X.env := by rfl) (na2 : starEach [.Call (.Name "range" p) [x] [] p2] X.env = (false, eval (.Call (.Name "range" p) [x] [] p2) X.env) :: starEach [] X.env := by rfl) :
    FX X (.Call (.Name "list" p3) [.Call (.Name "range" p) [x] [] p2] [] pos) (fRange1 (aCons fa aNil)) := PE.imp (pe_listRg hc hg hm (prg_1 hg2 hm2 hx na) na2) fun σ H Q ⟨p, c, ρ, F, Q', es, h, t⟩ =>
  ⟨p, c, ρ, F, _, es, h, fun d c1 v F1 H1 w1 ok1 r1 q1 => by
    have q1 : (match [d] with | [.int j] => (0 ≤ j ∧ j ≤ 16777216) ∧ Q' (rangeL 0 j.toNat) c1 | _ => False) := q1
    split at q1
    · rename_i j e
      cases e
      cases (show v = .int j from r1)
      refine ⟨j, rfl, ⟨by decide, by decide, by omega, by omega, by omega⟩, fun q nq => ?_⟩
      obtain ⟨w, ok, n1, n2, n3⟩ := layL w1 ok1 nq (rgV 0 j)
      refine t (rangeL 0 j.toNat) c1 q (rgV 0 j) F1 _ w ok n1 n2 n3 upd_same ?_ q1.2
      unfold rgV rangeL
      rw [show j - 0 = j by omega]
      exact rep_rg 0 _
    · exact q1.elim⟩
/-! zip -/
def zipL : List D → List D → List D
  | x :: l, y :: m => .tup [x, y] :: zipL l m
  | _, _ => []
theorem zipL_len : ∀ l m : List D, (zipL l m).length = min l.length m.length
  | [], _ => by simp [zipL]
  | _ :: _, [] => by simp [zipL]
  | x :: l, y :: m => by
    show (zipL l m).length + 1 = min (l.length + 1) (m.length + 1)
    rw [zipL_len, Nat.add_min_add_right]
theorem zipL_get : ∀ (l m : List D) (i : Nat) (x y : D), l[i]? = some x → m[i]? = some y → (zipL l m)[i]? = some (.tup [x, y])
  | [], _, _, _, _, h, _ => by simp at h
  | _ :: _, [], _, _, _, _, h => by simp at h
  | x :: l, y :: m, 0, _, _, h, h' => by
    cases (show some x = some _ from h)
    cases (show some y = some _ from h')
    rfl
  | x :: l, y :: m, i + 1, _, _, h, h' => zipL_get l m i _ _ h h'
@[simp ↓] def iZip3 (fa fb : FE) : FI := fun ρ c Q => fa ρ c fun x c => fb ρ c fun y c => match x, y with
  | .lst l, .lst m => (l.length ≤ 16777216 ∧ m.length ≤ 16777216) ∧ Q (zipL l m) c
  | .tup l, .tup m => (l.length ≤ 16777216 ∧ m.length ≤ 16777216) ∧ Q (zipL l m) c
  | _, _ => False
theorem ix_zip {p' tpos : Pos} {elts : List Expr} {kk : Nat} (hm : X.mg "zip" = none) (ha : EX X a fa) (hb : EX X b fb) (hg : Gl X "zip" := by rfl) (hs1 : starEach [b] X.env = (false, eval b X.env) :: starEach [] X.env := by rfl) (hs : starEach [a, b] X.env = (false, eval a X.env) :: starEach [b] X.env := by rfl) (hpl : (backTo pos (starEach [b] X.env)).any (·.1) = false := by rfl) :
    IX X (.Tuple elts kk tpos) (.Call (.Name "zip" p') [a, b] [] pos) (iZip3 fa fb) :=
  ⟨_, RZ.pi_zipA hg hm (pa_cons ha (pa_cons hb pa_nil hs1) hs) hs hpl, fun σ H p c ρ F Q' R es h k => ⟨p, c, ρ, F, _, es, h, fun x c1 v F1 H1 w1 ok1 r1 q1 => ⟨p, c1, ρ, F1, _, es.fwd w1 ok1, q1, fun y c2 u F2 H2 w2 ok2 r2 q2 => by
  split at q2
  · rename_i l m
    obtain ⟨a1, xs, rfl, h1, rl⟩ := r1.mono w2.frz
    obtain ⟨a2, ys, rfl, h2, rm⟩ := r2
    refine ⟨a1, a2, xs, ys, rfl, .inl ⟨.of (ok2.sub _ _ h1), .of (ok2.sub _ _ h2), k _ c2 F2 H2 _ (w1.trans w2) ok2 ⟨by rw [zipL_len]; omega, fun i F H c up ok => ?_⟩ q2.2⟩⟩
    have hH1 : SqL X.K H a1 xs := .of (ok.sub _ _ (up _ _ h1))
    have hH2 : SqL X.K H a2 ys := .of (ok.sub _ _ (up _ _ h2))
    rw [zipL_len]
    refine ⟨fun hi => ⟨⟨xs, ys, xs[i]'(by rw [rl.len]; omega), ys[i]'(by rw [rm.len]; omega), hH1, hH2, List.getElem?_eq_getElem _, List.getElem?_eq_getElem _⟩, fun z H' hy => ?_⟩, fun hi => ⟨xs, ys, hH1, hH2, by rw [rl.len, rm.len]; omega⟩⟩
    obtain ⟨T, x1, y1, rfl, nT, rfl, g1, g2⟩ := hy
    obtain ⟨d, e1, e2⟩ := rl.back (g1 xs hH1)
    obtain ⟨d', e3, e4⟩ := rm.back (g2 ys hH2)
    obtain ⟨F', w', ok', r'⟩ := pair_new ok nT (e2.mono up) (e4.mono up)
    exact ⟨F', _, zipL_get l m i d d' e1 e3, w', ok', r'⟩
  · rename_i l m
    obtain ⟨a1, xs, rfl, h1, rl⟩ := r1.mono w2.frz
    obtain ⟨a2, ys, rfl, h2, rm⟩ := r2
    refine ⟨a1, a2, xs, ys, rfl, .inr ⟨ok2.sqT h1, ok2.sqT h2, k _ c2 F2 H2 _ (w1.trans w2) ok2 ⟨by rw [zipL_len]; omega, fun i F H c up ok => ?_⟩ q2.2⟩⟩
    have hH1 : SqT X.K H a1 xs := ok.sqT (Sub.sqT up h1)
    have hH2 : SqT X.K H a2 ys := ok.sqT (Sub.sqT up h2)
    rw [zipL_len]
    refine ⟨fun hi => ⟨⟨xs, ys, xs[i]'(by rw [rl.len]; omega), ys[i]'(by rw [rm.len]; omega), hH1, hH2, List.getElem?_eq_getElem _, List.getElem?_eq_getElem _⟩, fun z H' hy => ?_⟩, fun hi => ⟨xs, ys, hH1, hH2, by rw [rl.len, rm.len]; omega⟩⟩
    obtain ⟨T, x1, y1, rfl, nT, rfl, g1, g2⟩ := hy
    obtain ⟨d, e1, e2⟩ := rl.back (g1 xs hH1)
    obtain ⟨d', e3, e4⟩ := rm.back (g2 ys hH2)
    obtain ⟨F', w', ok', r'⟩ := pair_new ok nT (e2.mono up) (e4.mono up)
    exact ⟨F', _, zipL_get l m i d d' e1 e3, w', ok', r'⟩
  · exact q2.elim⟩⟩⟩
end
end L3

/-! L3, sorted, index, reversed tuples, sets counted, two own lists. -/
namespace HT
open PySem PySem.Spec PyProof.Rows
section
variable {prog : Program} {w : World} {A : Around} {E : Value → Shared → Prop} {s : Shared}
theorem sliceApplied_rev {sl : Addr} {vs : Value} {n : Nat} {Q : Int × Int × Nat → Shared → Prop} (hs : s.heap.IsSliceOf sl .none .none vs) (ps : IsPart vs (some (-1)))
    (h : Q ((n : Int) - 1, -1, n) s) : wpAny (model prog w) A (Builtin.Slice.sliceApplied (.ref sl) (pure (n : Int))) Q E s := by
  obtain ⟨os, hos, hcs, hds⟩ := id hs
  unfold Builtin.Slice.sliceApplied Builtin.Slice.sliceFields
  refine wpAny_bind (wpAny_bind (wpAny_field hos hds (x := .none) rfl (wpAny_bind (wpAny_field hos hds (x := .none) rfl (wpAny_bind (wpAny_field hos hds (x := vs) rfl (wpAny_pure ?_)))))))
  refine wpAny_bind (slicePart_ ps ?_)
  show wpAny _ _ (if ((-1 : Int) == 0) = true then _ else _) _ _ s
  rw [if_neg (by decide)]
  refine wpAny_bind (slicePart_none (wpAny_bind (slicePart_none (wpAny_bind (wpAny_pure ?_)))))
  show wpAny _ _ (pure ((n : Int) - 1, (-1 : Int), Builtin.Slice.slicePlaces ((n : Int) - 1) (-1) (-1))) _ _ s
  have e : Builtin.Slice.slicePlaces ((n : Int) - 1) (-1) (-1) = n := by
    unfold Builtin.Slice.slicePlaces
    have h1 : ¬ ((-1 : Int) > 0) := by omega
    simp only [h1, if_false]
    split
    · have : (-(-1) : Int) = 1 := rfl
      rw [this, Int.ediv_one]
      omega
    · omega
  rw [e]
  exact wpAny_pure h
theorem fm_map {α β : Type} (f : α → Option β) (g : α → β) : ∀ l : List α, (∀ m ∈ l, f m = some (g m)) → l.filterMap f = l.map g
  | [], _ => rfl
  | a :: l, h => by
    rw [List.filterMap_cons, h a (List.mem_cons_self ..), List.map_cons, fm_map f g l fun m hm => h m (List.mem_cons_of_mem _ hm)]
theorem pick_rev (l : List Value) : (List.range l.length).filterMap (fun (m : Nat) => l.toArray[(((l.length : Int) - 1) + (m : Int) * (-1)).toNat]?) = l.reverse := by
  rw [fm_map _ (fun m => (l.reverse)[m]?.getD .none) _ fun m hm => by
    have hm := List.mem_range.mp hm
    have : (((l.length : Int) - 1) + (m : Int) * (-1)).toNat = l.length - 1 - m := by omega
    rw [this, List.getElem?_reverse hm, List.getElem?_toArray, List.getElem?_eq_getElem (by omega)]
    rfl]
  refine List.ext_getElem (by rw [List.length_map, List.length_range, List.length_reverse]) fun i h1 h2 => ?_
  rw [List.getElem_map, List.getElem_range, List.getElem?_eq_getElem h2]
  rfl
theorem getItem_tuple_rev {t sl : Addr} {its : List Value} {vs : Value} {Q : Value → Shared → Prop} (ht : IsTup s.heap t its.toArray) (hs : s.heap.IsSliceOf sl .none .none vs) (ps : IsPart vs (some (-1)))
    (h : Q (.ref s.heap.objs.size) { s with heap := s.heap.push { cls := .type "tuple", data := .seq its.reverse.toArray } })
    (hsz : its.length ≤ sizeLine) : wpAny (model prog w) A (getItem (.ref t) (.ref sl)) Q E s := by
  have htake : sizeOk (.seq its.reverse.toArray) := by
    show its.reverse.toArray.size ≤ sizeLine
    rw [List.size_toArray, List.length_reverse]
    exact hsz
  obtain ⟨os, hos, hcs, hds⟩ := id hs
  have hTs : s.TypeIs (.ref sl) "slice" := ⟨os, hos, hcs⟩
  unfold getItem
  try with_reducible refine wpAny_holding ?_
  first | refine wpAny_bind (wpAny_pure ?_) | skip
  refine wpAny_bind (wpAny_sequenceKey ht.typeIs (by decide) ?_)
  refine wpAny_bind (wpAny_callSpecial?_slot (name := Str.ofString "__getitem__") ht.typeIs PyProof.Rows.slot_tuple_getitem
    (wpAny_call_entry PyProof.Rows.slot_tuple_getitem ht.typeIs entry_tuple_getitem ?_ (args_tuple_getitem _ _)))
  show wpAny _ _ (Builtin.Tuple.tupleItemsOf (.ref t) >>= _) _ _ s
  refine wpAny_bind (tupleItemsOf_ ht ?_)
  refine wpAny_bind (wpAny_typeOf hTs ?_)
  rw [if_pos (by decide)]
  refine wpAny_bind (sliceApplied_rev hs ps ?_)
  have hno : ¬ ((((its.toArray.size : Nat) : Int) - 1 == 0 && (-1 : Int) == 1 && its.toArray.size == its.toArray.size) = true) := by
    intro q
    rw [Bool.and_eq_true, Bool.and_eq_true] at q
    exact absurd q.1.2 (by decide)
  show wpAny _ _ (if ((((its.toArray.size : Nat) : Int) - 1 == 0 && (-1 : Int) == 1 && its.toArray.size == its.toArray.size) = true) then _ else _) _ _ s
  rw [if_neg hno]
  have e : ((List.range its.toArray.size).filterMap fun (m : Nat) => its.toArray[(((its.toArray.size : Nat) : Int) - 1 + (m : Int) * (-1)).toNat]?).toArray = its.reverse.toArray := congrArg List.toArray (pick_rev its)
  rw [e]
  first
    | exact wpAny_bind (m := Builtin.Tuple.tupleExact _) (wpAny_newObj_type (wpAny_pure ⟨_, rfl, wpAny_pure h⟩) htake)
    | exact wpAny_bind (m := Builtin.Tuple.tupleExact _) (wpAny_newObj_type (wpAny_bind (wpAny_pure (wpAny_pure ⟨_, rfl, wpAny_pure h⟩))) htake)
    | exact wpAny_bind (wpAny_bind (m := Builtin.Tuple.tupleExact _) (wpAny_newObj_type (wpAny_pure (wpAny_pure ⟨_, rfl, wpAny_pure h⟩)) htake))
    | exact wpAny_bind (wpAny_bind (m := Builtin.Tuple.tupleExact _) (wpAny_newObj_type (wpAny_pure ⟨_, rfl, wpAny_pure h⟩) htake))
end
end HT
namespace L2
open PySem PySem.Spec PyProof.Rows
section
variable {X : Cx}
def tRevT (K : PySem.W.Frag) (te : TE) : TE := fun σ H Q => te σ H fun x H1 => ∃ a xs, x = .ref a ∧ SqT K H1 a xs ∧ ∀ p, H1 p = none → Q (.ref p) (upd H1 p (.tup xs.reverse))
theorem pe_revT {e : Expr} {te : TE} {k : Nat} {p1 p2 p3 pos : Pos} (he : PE X e te) : PE X (.Subscript e (.Slice none none (some (.UnaryOp .USub (.Constant (.int 1) k p1) p2)) p3) pos) (tRevT X.K te) := by
  refine ⟨fun pins s σ H Q I h => ?_⟩
  refine Subscript_ (thn (he.run pins s σ H _ I h) fun v s1 ⟨x, H1, I1, r1, q1⟩ => ?_)
  obtain ⟨a, xs, ex, hx, q⟩ := q1
  subst ex
  cases r1
  have hst : PO X (some (.UnaryOp .USub (.Constant (.int 1) k p1) p2)) (tPart (tUn (rU fun i => .int (-i)) (tC (.int 1)))) := po_some (pe_un un_neg pe_int)
  refine wpAny_Slice (thn (po_none.run pins s1 σ H1 (fun o H2 => o = none ∧ H2 = H1) I1 ⟨rfl, rfl⟩) fun vl s2 ⟨l, H2, I2, pl, el, e2⟩ => ?_)
  subst el e2
  refine thn (po_none.run pins s2 σ H2 (fun o H3 => o = none ∧ H3 = H2) I2 ⟨rfl, rfl⟩) fun vu s3 ⟨u, H3, I3, pu, eu, e3⟩ => ?_
  subst eu e3
  refine thn (hst.run pins s3 σ H3 (fun o H4 => o = some (-1) ∧ H4 = H3) I3 ⟨1, rfl, -1, rfl, rfl, rfl⟩) fun vs s4 ⟨o, H4, I4, ps, eo, e4⟩ => ?_
  subst eo e4
  cases pl
  cases pu
  have I5 : Inv X pins σ H4 { s4 with heap := s4.heap.push { cls := .type "slice", data := .fields #[.none, .none, vs] } } := I4.kept (t' := s4.toks) fun b ob q => Heap.get?_push_of_some _ q
  obtain ⟨its, r, ht, hz⟩ := I5.tuple hx
  have hlen := r.length
  show wpAny (model X.prog X.w) X.A (subscriptTail e (.Slice none none (some (.UnaryOp .USub (.Constant (.int 1) k p1) p2)) p3) (.ref a) (.ref s4.heap.objs.size)) (EP X pins σ Q) X.xe { s4 with heap := s4.heap.push { cls := .type "slice", data := .fields #[.none, .none, vs] } }
  refine tail_any (ops := [.ref a, .ref s4.heap.objs.size]) ht.typeIs PyProof.Rows.slot_tuple_getitem.lookup ?_ (by with_unfolding_all rfl)
  refine HT.getItem_tuple_rev ht (Heap.IsSliceOf.new _ .none .none vs) ps ?_ (by rw [← hlen]; exact hz)
  refine ⟨.ref _, _, I5.laid (t' := s4.toks) (o := .tup xs.reverse) (fun b ob q => Heap.get?_push_of_some _ q) (Nat.le_refl _) ?_, rfl, q _ (I5.hok.fresh (Nat.le_refl _))⟩
  exact ⟨by rw [List.length_reverse]; exact hz, _, r.reverse, IsTup.new _ _⟩
end
end L2

set_option maxHeartbeats 2000000
/-! L3, a lambda of one parameter handed to a def. -/
namespace L3
open PySem PySem.Spec PyProof.Rows L2
/-- a lambda's names: the one parameter h, captured ones, globals -/
structure LamS1 (sc scope : Scope) (h : Str) : Prop where
  kind : scope.kind = .function
  co : scope.isCoroutine = false
  gen : scope.isGenerator = false
  par : scope.names.lookup h = some .local
  own : ∀ y ∈ scope.names, y.2 ≠ .cell ∧ (y.2 = .local → y.1 = h)
  free : ∀ y ∈ scope.names, y.2 = .free → sc.names.lookup y.1 = some .cell ∨ sc.names.lookup y.1 = some .free
def lamS1B (sc scope : Scope) (h : Str) : Bool :=
  decide (scope.kind = .function) && !scope.isCoroutine && !scope.isGenerator && decide (scope.names.lookup h = some .local) && scope.names.all fun y => !decide (y.2 = .cell) && (!decide (y.2 = .local) || decide (y.1 = h)) && (!decide (y.2 = .free) || decide (sc.names.lookup y.1 = some .cell) || decide (sc.names.lookup y.1 = some .free))
theorem lamS1_of {sc scope : Scope} {h : Str} (q : lamS1B sc scope h = true) : LamS1 sc scope h := by
  unfold lamS1B at q
  simp only [Bool.and_eq_true, Bool.or_eq_true, Bool.not_eq_true', decide_eq_true_eq, decide_eq_false_iff_not, List.all_eq_true] at q
  obtain ⟨⟨⟨⟨h1, h2⟩, h3⟩, h5⟩, h4⟩ := q
  refine ⟨h1, h2, h3, h5, fun y hy => ⟨(h4 y hy).1.1, fun e => ?_⟩, fun y hy e => ?_⟩
  · rcases (h4 y hy).1.2 with z | z
    · exact absurd e z
    · exact z
  · rcases (h4 y hy).2 with (z | z) | z
    · exact absurd e z
    · exact .inl z
    · exact .inr z
/-- the maker's names as the lambda sees them: N2 (its own parameter h not among them), then h -/
def maskB (sc : Scope) (h : Str) : List Str → List Str → Bool
  | [], [] => true
  | a :: l, b :: m => ((decide (b = a) && !decide (b = h)) || decide (sc.names.lookup b = none)) && maskB sc h l m
  | _, _ => false
structure Mask (sc : Scope) (h : Str) (N N2 : List Str) : Prop where
  len : N2.length = N.length
  at_ : ∀ (i : Nat) (y : Str), N2[i]? = some y → Vis sc y → N[i]? = some y ∧ y ≠ h
theorem mask_of {sc : Scope} {h : Str} : ∀ {N N2 : List Str}, maskB sc h N N2 = true → Mask sc h N N2
  | [], [], _ => ⟨rfl, fun i y e => by simp at e⟩
  | a :: l, b :: m, q => by
    unfold maskB at q
    rw [Bool.and_eq_true] at q
    have r := mask_of q.2
    refine ⟨by rw [List.length_cons, List.length_cons, r.len], fun i y e v => ?_⟩
    cases i with
    | zero =>
      cases (show some b = some y from e)
      rcases Bool.or_eq_true_iff.mp q.1 with z | z
      · rw [Bool.and_eq_true] at z
        refine ⟨by rw [of_decide_eq_true z.1]; rfl, fun w => ?_⟩
        have := z.2
        rw [w] at this
        simp at this
      · have z := of_decide_eq_true z
        rcases v with v | v | v <;> rw [z] at v <;> cases v
    | succ i => exact r.at_ i y e v
  | [], b :: m, q => by cases q
  | a :: l, [], q => by cases q
/-- the body's context -/
def lamCx1 (X : Cx) (A : Around) (outer : List Env) (s : Shared) (H : Hp) (E : XK) (scope : Scope) (f c' : Addr) (N2 : List Str) (h : Str) : Cx := { LamX.lamCx X A outer s H E scope f c' with N := N2 ++ [h], xe := fun _ _ => False }
section
variable {X : Cx} {pins : List (Addr × Obj)} {σ : L2.St} {H HZ : Hp} {s s1 : Shared}
theorem lam_begin {A : Around} {outer : List Env} {E : XK} {scope : Scope} {f c' : Addr} {h₁ : Heap} {tk : Nat} {h : Str} {N2 : List Str} {v : V} {u : Value} (I : Inv X pins σ H s) (L : LamS1 X.env.scope scope h) (hnew : Mask scope h X.N N2) (e0 : Env0 X.prog X.w X.K X.mg X.base A outer s1 HZ) (hd : A.handled = none)
    (un : Un (frs X.stack) [] H HZ s.heap s1.heap) (hns : h₁.Ns s1.heap.objs.size fun y => ([(h, u)] : List (Str × Value)).reverse.lookup y) (kp : ∀ b o, s1.heap.get? b = some o → h₁.get? b = some o) (rv : RelV v u) :
    Inv (lamCx1 X A outer s1 HZ E scope f c' N2 h) [] (σ ++ [some v]) HZ { s1 with heap := h₁, toks := tk } := by
  have hasC : ∀ y ∈ scope.names, y.2 = .free → ∃ c, X.env.cells.lookup y.1 = some c := fun y hy e => (L.free y hy e).elim (fun k => I.ok.has _ (.inl k)) (fun k => I.ok.has _ (.inr k))
  have toX : ∀ {y c}, (cloFrom X.env.cells scope.names []).lookup y = some c → X.env.cells.lookup y = some c := fun {y c} e => by
    rcases cloFrom_mem (PySem.mem_of_lookup e) with hm | ⟨h1, h2⟩
    · cases hm
    · obtain ⟨c1, hc⟩ := hasC _ h1 rfl
      simp only at hc h2
      rw [hc] at h2
      rw [h2]
      exact hc
  have ofX : ∀ {y}, scope.names.lookup y = some .free → ∃ c, (cloFrom X.env.cells scope.names []).lookup y = some c := fun {y} hl => mem_lookup (cloFrom_has (cells := X.env.cells) (acc := []) (PySem.mem_of_lookup hl))
  have stays : ∀ {c : Addr} {v : Option Value}, H c = none → s.heap.IsCell c v → h₁.IsCell c v := fun {c v} n ⟨o, ho, hd⟩ => by
    obtain ⟨sl, q⟩ := un.any ho n (by simp)
    exact ⟨_, kp _ _ q, hd⟩
  have none_ : ∀ b : Addr, b ∉ (lamCx1 X A outer s1 HZ E scope f c' N2 h).ex := fun b z => absurd (show b ∈ ([] : List Addr) from z) (by simp)
  refine ⟨⟨e0.mod, L.kind, rfl, rfl, Nat.le_refl _, fun y z c e1 e2 => I.ok.inj y z c (toX e1) (toX e2), fun y hy => ?_, fun y c z _ => ?_, fun _ => hd, Around.frames_deeper e0.frames, .inr ⟨rfl, rfl⟩, fun b z => absurd z (none_ b), e0.bs, e0.bsz, fun b _ _ => none_ b,
      fun b z => absurd z (none_ b), e0.funs, e0.frf⟩,
    rfl, e0.bare, Un.kept kp, ⟨_, hns, fun i y v' e1 e2 e3 => ?_⟩, fun y c e => ?_, e0.hok.fresh (Nat.le_refl _), fun y c e => ?_, fun q hq => absurd (show q ∈ ([] : List (Addr × Obj)) ++ [] from hq) (by simp), e0.hok.kept kp, ?_⟩
  · have hy : scope.names.lookup y = some .cell ∨ scope.names.lookup y = some .free := hy
    rcases hy with hy | hy
    · exact absurd rfl (L.own _ (PySem.mem_of_lookup hy)).1
    · exact ofX hy
  · have z : false = true := z
    cases z
  · have e1 : (N2 ++ [h])[i]? = some y := e1
    have e3 : Vis scope y := e3
    by_cases hi : i < N2.length
    · rw [List.getElem?_append_left hi] at e1
      rw [List.getElem?_append_left (by rw [I.len, ← hnew.len]; exact hi)] at e2
      obtain ⟨e1, hyh⟩ := hnew.at_ i y e1 e3
      rcases e3 with k | k | k
      · have : y = h := (L.own _ (PySem.mem_of_lookup k)).2 rfl
        exact absurd this hyh
      · exact absurd rfl (L.own _ (PySem.mem_of_lookup k)).1
      · obtain ⟨m, hn, hl⟩ := I.loc
        have hvis : Vis X.env.scope y := (L.free _ (PySem.mem_of_lookup k) rfl).elim (fun k => .inr (.inl k)) (fun k => .inr (.inr k))
        obtain ⟨w', r, q⟩ := hl i y v' e1 e2 hvis
        obtain ⟨c2, h2⟩ := ofX k
        refine ⟨w', r, .inr ⟨.inr k, c2, h2, ?_⟩⟩
        have c1 := toX h2
        rcases q with ⟨k', _⟩ | ⟨_, c3, e', z⟩
        · have k' : X.env.scope.names.lookup y = some .local := k'
          rcases L.free _ (PySem.mem_of_lookup k) rfl with k2 | k2 <;> rw [show X.env.scope.names.lookup y = _ from k2] at k' <;> cases k'
        · rw [c1] at e'
          cases e'
          exact stays (I.freeC y _ c1) z
    · have hi2 : i = N2.length := by
        have := (List.getElem?_eq_some_iff.mp e1).1
        rw [List.length_append, List.length_singleton] at this
        omega
      subst hi2
      rw [List.getElem?_append_right (Nat.le_refl _), Nat.sub_self] at e1
      cases e1
      rw [hnew.len, ← I.len, List.getElem?_append_right (Nat.le_refl _), Nat.sub_self] at e2
      cases e2
      refine ⟨u, rv, .inl ⟨L.par, ?_⟩⟩
      show ([(h, u)] : List (Str × Value)).reverse.lookup h = some u
      simp
  · obtain ⟨w', z⟩ := I.cell y c (toX e)
    exact ⟨w', stays (I.freeC y c (toX e)) z⟩
  · obtain ⟨v, o, ho, hd⟩ := I.cell y c (toX e)
    exact un.free c o ho (I.freeC y c (toX e)) (by simp)
  · show (σ ++ [some v]).length = (N2 ++ [h]).length
    rw [List.length_append, List.length_append, I.len, hnew.len]
    rfl
abbrev lamO (X : Cx) (params : Arguments) (body : Expr) (scope : Scope) (pm ctv : Value) (c' : Addr) : Obj := PySem.W.kla_obj "<lambda>" (X.env.qual ++ "<lambda>") params body scope (cloFrom X.env.cells scope.names []) pm c' ctv
theorem pin_new {a : Addr} {o : Obj} (I : Inv X pins σ H s) (n : s.heap.objs.size ≤ a) {h' : Heap} {t' : Nat} (k : ∀ b u, s.heap.get? b = some u → h'.get? b = some u) (e : h'.get? a = some o) (d : ∀ v, o.data ≠ .cell v) : Inv X ((a, o) :: pins) σ H { s with heap := h', toks := t' } := by
  have J : Inv X pins σ H { s with heap := h', toks := t' } := I.kept k
  refine ⟨J.ok, J.os, J.bare, J.base, J.loc, J.cell, J.free, J.freeC, fun q hq => ?_, J.hok, J.len⟩
  rcases List.mem_append.mp hq with z | z
  · exact J.pin q (List.mem_append_left _ z)
  · rcases List.mem_cons.mp z with z | z
    · subst z
      exact ⟨e, I.hok.fresh n, fun z => absurd I.lt (by rw [← z]; exact Nat.not_lt.mpr n), fun z => I.nofs n z, d⟩
    · exact J.pin q (List.mem_append_right _ z)
theorem pin_off {q : Addr × Obj} (I : Inv X (q :: pins) σ H s) : Inv X pins σ H s := ⟨I.ok, I.os, I.bare, I.base, I.loc, I.cell, I.free, I.freeC, fun r hr => I.pin r (by
  rcases List.mem_append.mp hr with z | z
  · exact List.mem_append_left _ z
  · exact List.mem_append_right _ (List.mem_cons_of_mem _ z)), I.hok, I.len⟩
/-- a lambda is made: what is new in the heap is told whole -/
theorem lam_made {T : List (Addr × Str)} {c P : Addr} {params : Arguments} {body : Expr} {scope : Scope} {pos : Pos} {E : Value → Shared → Prop} {Q : Value → Shared → Prop} (I : Inv X pins σ H s) (TB : LamX.TabB X.base X.mg c P) (hcode : X.env.code = .ref c)
    (hm : (P, X.env.qual ++ "<lambda>") ∈ T) (hu : ∀ p ∈ T, p.1 = P → p.2 = X.env.qual ++ "<lambda>") (hT : LamX.Tabs T H) (hdef : defaultsOf params X.env = ([], [])) (hfree : ∀ y ∈ scope.names, y.2 = .free → ∃ c, X.env.cells.lookup y.1 = some c)
    (h : ∀ (f c' : Addr) (pm ctv : Value) (H1 : Hp) (s' : Shared), Inv X ((f, lamO X params body scope pm ctv c') :: pins) σ H1 s' → LamX.ExtN H H1 → (∀ b, H1 b = none → H b = none) → LamX.Tabs T H1 → H1 c' = some (LamX.CodeO c' (X.env.qual ++ "<lambda>")) → Q (.ref f) s') :
    wpAny (model X.prog X.w) X.A (eval (.Lambda params body scope pos) X.env) Q E s := by
  obtain ⟨ps, hP, ht, ha⟩ := hT _ hm
  have bP : s.heap.BuiltinsAt X.mg P := TB.bm.keeps I.bk
  have hP' : s.heap.get? P = some { cls := .none, data := .fields ps } := I.hok P _ hP
  refine PySem.W.kla_eval hdef ?_
  cases hc : codeAmong pos ps.toList with
  | some cv =>
    obtain ⟨c', e, hco⟩ := ha pos cv hc
    subst e
    refine PySem.W.kla_makeFunctionHit (mg := X.mg) (c := c) (P := P) (ps := ps) (closure_ok hfree) I.ok.glob (I.mod.glob.keeps I.bk) hcode (TB.code.keeps I.bk) hP' ht hc bP fun ctv h' tk hx hsz => ?_
    exact h h'.objs.size c' _ ctv H _ (pin_new I hsz (fun b o e => Heap.get?_push_of_some _ (hx b o e)) (Heap.get?_push_size _ rfl) (fun v z => nomatch z)) (LamX.ExtN.refl H) (fun _ z => z) hT hco
  | none =>
    refine PySem.W.kla_makeFunction (mg := X.mg) (c := c) (P := P) (ps := ps) (closure_ok hfree) I.ok.glob (I.mod.glob.keeps I.bk) hcode (TB.code.keeps I.bk) hP' ht hc TB.gP bP fun c' ctv h' tk hx hge hlt hrec htb => ?_
    obtain ⟨c2, oc, vs, t, e2, hoc, hd, hv⟩ := hrec
    cases e2
    have nC : H c' = none := I.hok.fresh hge
    have nPc : P ≠ c' := ne_of_none hP nC
    have J := LamX.inv_table (q := X.env.qual ++ "<lambda>") (t' := tk) (more := #[rawInt pos.line, rawInt pos.col, .ref c']) (h' := h') I hP hx htb hge ⟨oc, vs, t, hoc, hd, hv⟩
    have hE : LamX.ExtN H (upd (upd H P (.tbl (ps ++ #[rawInt pos.line, rawInt pos.col, .ref c']))) c' (LamX.CodeO c' (X.env.qual ++ "<lambda>"))) := fun b o e n => by
      rw [upd_ne (ne_of_none e nC), upd_ne (fun z => n ps (Option.some.inj (e.symm.trans (by rw [z]; exact hP))))]
      exact e
    refine h h'.objs.size c' _ ctv _ _ (pin_new J (Nat.le_refl _) (fun b o e => Heap.get?_push_of_some _ e) (Heap.get?_push_size _ rfl) (fun v z => nomatch z)) hE (fun b z => ?_) (fun p hp => ?_) upd_same
    · by_cases h1 : b = c'
      · rw [h1]; exact nC
      · rw [upd_ne h1] at z
        by_cases h2 : b = P
        · rw [h2, upd_same] at z; cases z
        · rw [upd_ne h2] at z; exact z
    · by_cases hb : p.1 = P
      · rw [hu p hp hb, hb]
        have eL : (ps ++ #[rawInt pos.line, rawInt pos.col, .ref c']).toList = ps.toList ++ [rawInt pos.line, rawInt pos.col, .ref c'] := by simp
        refine ⟨_, by rw [upd_ne nPc, upd_same], by rw [eL]; exact PySem.TriplesOk_snoc _ _ _ _ ht, fun p' cv hcv => ?_⟩
        rw [eL] at hcv
        rcases LamX.among_app _ ht hcv with z | z
        · obtain ⟨c0, e1, e2⟩ := ha p' cv z
          exact ⟨c0, e1, hE _ _ e2 LamX.codeO_ne⟩
        · exact ⟨c', z, upd_same⟩
      · obtain ⟨ps', a1, a2, a3⟩ := hT p hp
        refine ⟨ps', by rw [upd_ne (ne_of_none a1 nC), upd_ne hb]; exact a1, a2, fun p' cv hcv => ?_⟩
        obtain ⟨c0, e1, e2⟩ := a3 p' cv hcv
        exact ⟨c0, e1, hE _ _ e2 LamX.codeO_ne⟩
/-- the lambda called by the def that got it -/
theorem lam_act {Ng : List Str} {qg : Str} {sg : Scope} {g f c' : Addr} {cdg pm ctv : Value} {params : Arguments} {body : Expr} {scope : Scope} {k i : Nat} {a h : Str} {N2 : List Str} {e : Expr} {te tb : TE} {p1 p2 : Pos} {Eg : XK}
    (I : Inv X ((f, lamO X params body scope pm ctv c') :: pins) σ H s) (L : LamS1 X.env.scope scope h) (hnew : Mask scope h X.N N2)
    (hbind : ∀ u : Value, bindArgs (PySem.W.kla_fn "<lambda>" (X.env.qual ++ "<lambda>") params body scope (cloFrom X.env.cells scope.names []) pm (.ref c') ctv) ⟨[u], []⟩ = pure [(h, u)])
    (hr : Room (k + 1) (X.A.deeper (envOfC qg sg s.heap.objs.size g cdg)))
    (hbody : ∀ (A : Around) (outer : List Env) (s : Shared) (H : Hp), Room k (A.deeper (LamX.lamEnv X scope s.heap.objs.size f c')) → PE (lamCx1 X A outer s H C8.E0 scope f c' N2 h) body tb)
    (hN : Ng[i]? = some a) (hv : Vis sg a) (he : PE (cxOf C8.CX0 X.prog X.w X.K X.mg X.base Ng qg sg g cdg X.A X.stack s H Eg).nox e te)
    (hst : starEach [e] (envOfC qg sg s.heap.objs.size g cdg) = (false, eval e (envOfC qg sg s.heap.objs.size g cdg)) :: starEach [] (envOfC qg sg s.heap.objs.size g cdg))
    (hd : (a == ("__debug__" : Str)) = false := by decide) (hcd : (a == ("__classdict__" : Str)) = false := by decide) :
    PE (cxOf C8.CX0 X.prog X.w X.K X.mg X.base Ng qg sg g cdg X.A X.stack s H Eg).nox (.Call (.Name a p1) [e] [] p2)
      (fun σZ HZ Q => σZ[i]? = some (some (.ref f)) ∧ te σZ HZ fun v H1 => H1 c' = some (LamX.CodeO c' (X.env.qual ++ "<lambda>")) ∧ tb (σ ++ [some v]) H1 Q) := by
  refine ⟨fun pinsZ sZ σZ HZ Q IZ ⟨hs, ht⟩ => ?_⟩
  have kf : ∀ {σ' : L2.St} {H' : Hp} {s' : Shared} {pz : List (Addr × Obj)}, Inv (cxOf C8.CX0 X.prog X.w X.K X.mg X.base Ng qg sg g cdg X.A X.stack s H Eg).nox pz σ' H' s' → s'.heap.get? f = some (lamO X params body scope pm ctv c') := fun {σ' H' s' pz} J => by
    obtain ⟨q1, q2, q3, q4, q5⟩ := I.pin (f, lamO X params body scope pm ctv c') (List.mem_append_right _ List.mem_cons_self)
    refine J.base.keep f _ q1 q2 (fun z => ?_) (fun z => nomatch (show f ∈ ([] : List Addr) from z))
    rcases List.mem_cons.mp (I.stkSub f z) with z | z
    · exact q3 z
    · exact q4 z
  refine wpAny_Call_Name_kw (thn ((pe_var (pos := p1) (i := i) hN hv hd hcd).run pinsZ sZ σZ HZ (fun v H1 => v = .ref f ∧ H1 = HZ) IZ ⟨.ref f, hs, rfl, rfl⟩) fun u s1 ⟨v, H1, I1, r1, ev, eH⟩ => ?_)
  subst ev eH
  obtain rfl : u = Value.ref f := r1
  refine PySem.W.callWith_F ⟨_, _, _, _, kf I1⟩ ?_ hst rfl
  show wpAny _ _ (spliced (backTo p2 (starEach [e] (envOfC qg sg s.heap.objs.size g cdg)))) _ _ s1
  rw [hst]
  refine Calls.spliced_cons (thn (he.run pinsZ s1 σZ H1 _ I1 ht) fun u s2 ⟨v, H2, I2, rv, q2⟩ => ?_)
  refine Calls.spliced_nil ⟨⟨_, _, _, _, kf I2⟩, ?_⟩
  obtain ⟨hc, htb⟩ := q2
  obtain ⟨⟨oc, vs, t, hoc, hdc, hvc⟩, _, _⟩ := I2.hok c' _ hc
  have rc : codeAny (model X.prog X.w) (X.A.deeper (envOfC qg sg s.heap.objs.size g cdg)) (.call (.ref f) ⟨[u], []⟩) (CR C8.CX0 (envOfC qg sg s.heap.objs.size g cdg :: X.stack) X.prog X.w H2 s2 Q C8.E0) s2 := by
    refine PySem.W.kla_callFunE hr.depth (kf I2) rfl L.co L.gen rfl ⟨c', oc, vs, t, rfl, hoc, hdc, hvc⟩ ?_
    rw [hbind]
    refine wpAny_pure (wpAny_newFunctionEnv (fun y hy => (L.own y hy).1) (fun y hy => ?_) (fun h₁ hns hsb => ⟨I2.nolimit.fresh _ hsb, ?_⟩) L.kind)
    · rcases List.mem_cons.mp hy with z | z
      · rw [z]; exact L.par
      · exact absurd z (by simp)
    show codeAny _ _ (.expr body (LamX.lamEnv X scope s2.heap.objs.size f c')) _ _
    have kp : ∀ b o, s2.heap.get? b = some o → h₁.get? b = some o := fun b o e => hsb.extBut b o (Nat.ne_of_lt (Heap.lt_size e)) (Heap.get?_push_of_some _ e)
    have un : Un (frs X.stack) [] H H2 s.heap s2.heap := I2.base
    have J := lam_begin (f := f) (c' := c') (A := X.A.deeper (envOfC qg sg s.heap.objs.size g cdg)) (outer := envOfC qg sg s.heap.objs.size g cdg :: X.stack) (E := C8.E0) (tk := s2.toks + ([(h, u)] : List (Str × Value)).length) (pin_off I) L hnew I2.env0 hr.hd un hns kp rv
    refine PySem.W.kla_codeExpr (wpAny_mono ((hbody _ _ s2 H2 (hr.deeper _)).run [] _ _ H2 Q J htb) (fun v s' hq => ?_) fun e s' hq => ?_)
    · obtain ⟨w', H', J', rv, q⟩ := hq
      exact ⟨w', H', J'.os, J'.bare, J'.base, J'.hok, rv, q⟩
    · exact hq.elim
  refine wpAny_call (codeAny_mono rc fun r s' hq => ?_)
  cases r with
  | error e => exact (show False from hq).elim
  | ok fl =>
    cases fl with
    | ret u => exact I2.after hq
    | next => exact False.elim hq
    | brk => exact False.elim hq
    | cont => exact False.elim hq
end
/-! ### over data -/
mutual
theorem Rep.pn {K : PySem.W.Frag} {p p' : Pn} {F : Hp} (e : p'.pot = p.pot) (hc : ∀ x ∈ p.cod, x ∈ p'.cod) : ∀ {d : D} {v : V}, Rep K p F d v → Rep K p' F d v
  | .non, _, h => h
  | .bl _, _, h => h
  | .int _, _, h => h
  | .str _, _, h => h
  | .ty _, _, h => h
  | .rf _, _, h => h
  | .lam .., _, h => ⟨h.1, h.2.1, e.trans h.2.2.1, fun x hx => hc x (h.2.2.2 x hx)⟩
  | .exc .., _, h => by
    obtain ⟨a, dd, w, rfl, h1, h2, h3⟩ := h
    exact ⟨a, dd, w, rfl, h1, h2, Rep.pn e hc h3⟩
  | .clo .., _, h => h
  | .dic _, _, h => h
  | .pot, _, h => by
    obtain ⟨a, h1, rfl⟩ := h
    exact ⟨a, e.trans h1, rfl⟩
  | .scr _, _, h => h
  | .tup l, _, h => by
    obtain ⟨a, xs, rfl, h1, h2⟩ := h
    exact ⟨a, xs, rfl, h1, RepL.pn e hc h2⟩
  | .lst l, _, h => by
    obtain ⟨a, xs, rfl, h1, h2⟩ := h
    exact ⟨a, xs, rfl, h1, RepL.pn e hc h2⟩
  | .dct ks l, _, h => by
    obtain ⟨a, o, xs, rfl, h1, h2, h3⟩ := h
    exact ⟨a, o, xs, rfl, h1, h2, RepL.pn e hc h3⟩
theorem RepL.pn {K : PySem.W.Frag} {p p' : Pn} {F : Hp} (e : p'.pot = p.pot) (hc : ∀ x ∈ p.cod, x ∈ p'.cod) : ∀ {l : List D} {xs : List V}, RepL K p F l xs → RepL K p' F l xs
  | [], _, h => h
  | d :: l, _, h => by
    obtain ⟨x, r, rfl, h1, h2⟩ := h
    exact ⟨x, r, rfl, Rep.pn e hc h1, RepL.pn e hc h2⟩
end
mutual
theorem Rep.pnL {K : PySem.W.Frag} {p p' : Pn} {F : Hp} : ∀ {d : D} {v : V}, noLst d = true → Rep K p F d v → Rep K p' F d v
  | .non, _, _, h => h
  | .bl _, _, _, h => h
  | .int _, _, _, h => h
  | .str _, _, _, h => h
  | .ty _, _, _, h => h
  | .rf _, _, _, h => h
  | .lam .., _, n, h => by simp [noLst] at n
  | .exc .., _, n, h => by
    obtain ⟨a, dd, w, rfl, h1, h2, h3⟩ := h
    exact ⟨a, dd, w, rfl, h1, h2, Rep.pnL (by simpa [noLst] using n) h3⟩
  | .clo .., _, _, h => h
  | .dic _, _, _, h => h
  | .pot, _, n, h => by simp [noLst] at n
  | .scr _, _, n, h => by simp [noLst] at n
  | .tup l, _, n, h => by
    obtain ⟨a, xs, rfl, h1, h2⟩ := h
    exact ⟨a, xs, rfl, h1, RepL.pnL (by simpa [noLst] using n) h2⟩
  | .lst l, _, n, h => by simp [noLst] at n
  | .dct _ _, _, n, h => by simp [noLst] at n
theorem RepL.pnL {K : PySem.W.Frag} {p p' : Pn} {F : Hp} : ∀ {l : List D} {xs : List V}, noLstL l = true → RepL K p F l xs → RepL K p' F l xs
  | [], _, _, h => h
  | d :: l, _, n, h => by
    obtain ⟨x, r, rfl, h1, h2⟩ := h
    have n' : noLst d = true ∧ noLstL l = true := by simpa [noLstL] using n
    exact ⟨x, r, rfl, Rep.pnL n'.1 h1, RepL.pnL n'.2 h2⟩
end
theorem Fwd.pn {p p' : Pn} {F H F' H' : Hp} (e : p'.pot = p.pot) (w : Fwd p F H F' H') : Fwd p' F H F' H' := ⟨w.frz, fun b o h n t => w.keep b o h (by rw [← e]; exact n) t, w.new, w.there⟩
theorem get3_snoc {ρ : Rho} {d : D} : ∀ {i : Nat} {x : D}, get3 (ρ ++ [some d]) i = some x → get3 ρ i = some x ∨ (i = ρ.length ∧ x = d) := by
  induction ρ with
  | nil =>
    intro i x h
    cases i with
    | zero => exact .inr ⟨rfl, (Option.some.inj h).symm⟩
    | succ i => cases i <;> cases h
  | cons r ρ ih =>
    intro i x h
    cases i with
    | zero => exact .inl h
    | succ i =>
      rcases ih (i := i) h with z | ⟨z1, z2⟩
      · exact .inl z
      · exact .inr ⟨by rw [List.length_cons, z1], z2⟩
/-- the lambda dl called on a value: tl tells what it answers -/
@[simp ↓] def eLm (dl : D) (tl : D → Nat → KD → Prop) (fa : FE) : FE := fun ρ c Q => get3 ρ 0 = some dl ∧ fa ρ c fun x c => tl x c Q
/-- x(lambda h: body, es): m tells what x answers where its first argument answers as tl says -/
@[simp ↓] def eLam (m : (D → Nat → KD → Prop) → FM) (fr : FA) (fb : FE) : FE := fun ρ c Q => fr ρ c fun l c => m (fun d c Q => fb (ρ ++ [some d]) c Q) l c fun d c => noLst d = true ∧ Q d c
section
variable {X : Cx} {es : List Expr} {fr : FA} {fb : FE}
theorem ex_lam {x qual a h : Str} {N2 : List Str} {st : Stmt} {g c P : Addr} {fd : FuncData} {k : Nat} {Ng ps : List Str} {params : Arguments} {body : Expr} {scope : Scope} {p1 lpos pos : Pos} {m : (D → Nat → KD → Prop) → FM} {gg : D → (D → Nat → KD → Prop) → FS}
    (G : Fun X.K x qual st g fd) (S : FnScope Ng (a :: ps) (defScope st)) (hb : Binds X.K fd (a :: ps) []) (hm : X.mg x = some (.ref g)) (TB : LamX.TabB X.base X.mg c P) (hcode : X.env.code = .ref c)
    (hmT : (P, X.env.qual ++ "<lambda>") ∈ tabs0) (hu : ∀ p ∈ tabs0, p.1 = P → p.2 = X.env.qual ++ "<lambda>") (hr : Room (k + 2) X.A) (L : LamS1 X.env.scope scope h) (hnew : Mask scope h X.N N2) (hdef : defaultsOf params X.env = ([], []))
    (hbind : ∀ (cl : List (Str × Addr)) (pm cv ctv u : Value), bindArgs (PySem.W.kla_fn "<lambda>" (X.env.qual ++ "<lambda>") params body scope cl pm cv ctv) ⟨[u], []⟩ = pure [(h, u)])
    (hbody : ∀ (A : Around) (outer : List Env) (s : Shared) (H : Hp) (f c' : Addr), Room k (A.deeper (LamX.lamEnv X scope s.heap.objs.size f c')) → EX (lamCx1 X A outer s H C8.E0 scope f c' N2 h) body fb)
    (ha : AX X es fr)
    (hg : ∀ (cdv : Value) (A : Around) (outer : List Env) (s : Shared) (H : Hp) (E : XK) (dl : D) (tl : D → Nat → KD → Prop), Room (k + 1) (A.deeper (envOfC qual (defScope st) s.heap.objs.size g cdv)) →
      (∀ (e : Expr) (fe : FE) (p1 p2 : Pos), starEach [e] (envOfC qual (defScope st) s.heap.objs.size g cdv) = (false, eval e (envOfC qual (defScope st) s.heap.objs.size g cdv)) :: starEach [] (envOfC qual (defScope st) s.heap.objs.size g cdv) →
        EX (cxOf CX0 X.prog X.w X.K X.mg X.base Ng qual (defScope st) g cdv A outer s H E).nox e fe → EX (cxOf CX0 X.prog X.w X.K X.mg X.base Ng qual (defScope st) g cdv A outer s H E).nox (.Call (.Name a p1) [e] [] p2) (eLm dl tl fe)) →
      BX (cxOf CX0 X.prog X.w X.K X.mg X.base Ng qual (defScope st) g cdv A outer s H E).nox (defBody st) (gg dl tl))
    (hp : ∀ dl tl ds c Q, m tl ds c Q → ds.length = ps.length ∧ runM Ng.length (gg dl tl) (dl :: ds) c Q)
    (hgl : Gl X x := by rfl) (hN : Ng[0]? = some a := by rfl) (hva : Vis (defScope st) a := by first | exact Or.inl rfl | exact Or.inr (Or.inl rfl)) (hdb : (x == ("__debug__" : Str)) = false := by decide) (hd : (a == ("__debug__" : Str)) = false := by decide) (hcd : (a == ("__classdict__" : Str)) = false := by decide)
    (hpl : (backTo pos (starEach es X.env)).any (·.1) = false := by rfl) :
    EX X (.Call (.Name x p1) (.Lambda params body scope lpos :: es) [] pos) (eLam m fr fb) := by
  obtain ⟨oc, od, kV, doc, pmg, an, cdv, ct, osl, efd, lk, hcg⟩ := G.ex
  refine ⟨fun pins s σ H Q I ⟨p, c0, ρ, F, Q', est, hq, t⟩ => ?_⟩
  refine wpAny_Call_Name_kw (ld_glob I hgl hm ?_ hdb)
  refine PySem.W.callWith_K (h₀ := X.base) I.ok.mod.kin G.kp ?_ (by rfl) hpl
  show wpAny _ _ (spliced ((false, eval (.Lambda params body scope lpos) X.env) :: backTo pos (starEach es X.env))) _ _ s
  have hasC : ∀ y ∈ scope.names, y.2 = .free → ∃ c, X.env.cells.lookup y.1 = some c := fun y hy e => (L.free y hy e).elim (fun k => I.ok.has _ (.inl k)) (fun k => I.ok.has _ (.inr k))
  refine Calls.spliced_cons (lam_made I TB hcode hmT hu est.ok.tab.tabs hdef hasC fun f c' pm' ctv H1 s' I1 eN th T1 hco => ?_)
  have w1 : Fwd p F H F H1 := ⟨fun _ _ z => z, fun b o z _ t => eN b o z t, fun _ _ z => .inl z, th⟩
  have ok1 : Ok3 p c0 F H1 := ⟨fun b o z => eN b o (est.ok.sub b o z) (fun ps e => est.ok.nt.t b ps (e ▸ z)), fun b z => by
      obtain ⟨⟨x, y, z, q, r⟩, nn⟩ := est.ok.pot b z
      exact ⟨⟨x, y, z, eN _ _ q (fun _ z => nomatch z), r⟩, nn⟩, ⟨T1, fun q hq => eN _ _ (est.ok.tab.cod q hq) LamX.codeO_ne⟩, est.ok.nt⟩
  refine thn (ha.run pos _ s' σ H1 (fun vs H2 => ∃ l c1 F2, Fwd p F H1 F2 H2 ∧ Ok3 p c1 F2 H2 ∧ RepL X.K p F2 l vs ∧ m (fun d c Q => fb (ρ ++ [some d]) c Q) l c1 fun d c => noLst d = true ∧ Q' d c) I1 ⟨p, c0, ρ, F, _, est.fwd w1 ok1, hq, fun l c1 vs F2 H2 w2 ok2 r2 q2 => ⟨l, c1, F2, w2, ok2, r2, q2⟩⟩) fun us s2 ⟨vs, H2, I2, rv, l, c1, F2, w2, ok2, r2, q2⟩ => ?_
  refine ⟨I2.kIn, ?_⟩
  have w12 := w1.trans w2
  have hco2 : H2 c' = some (LamX.CodeO c' (X.env.qual ++ "<lambda>")) := w2.keep _ _ hco (fun e => by
    obtain ⟨⟨x, y, z, q, r⟩, nn⟩ := ok1.pot c' e
    rw [hco] at q
    exact absurd (Option.some.inj q) (by unfold LamX.CodeO; exact fun z => nomatch z)) LamX.codeO_ne
  have est2 := est.fwd w12 ok2
  let p' : Pn := ⟨p.pot, (c', X.env.qual ++ "<lambda>") :: p.cod, p.flo⟩
  have ok2' : Ok3 p' c1 F2 H2 := ⟨ok2.sub, ok2.pot, ⟨ok2.tab.tabs, fun q hq => by
    rcases List.mem_cons.mp hq with z | z
    · rw [z]; exact hco2
    · exact ok2.tab.cod q z⟩, ⟨ok2.nt.t, ok2.nt.f⟩⟩
  let tl : D → Nat → KD → Prop := fun d c Q => fb (ρ ++ [some d]) c Q
  obtain ⟨hlen, hrun⟩ := hp (.lam f F2 p') tl l c1 _ q2
  have rc : codeAny (model X.prog X.w) X.A (.call (.ref g) ⟨.ref f :: us, []⟩) (CR CX0 X.stack X.prog X.w H2 s2 Q E0) s2 := by
    refine LamX.run_ofS (N := Ng) (ps := a :: ps) (us := .ref f :: us) (vs := .ref f :: vs) (efd ▸ lk) hcg S hr.r2 I2.env0 (efd ▸ by
      have z := hb s2 (.ref f :: us) I2.kIn (by rw [List.length_append, List.length_nil, List.length_cons, List.length_cons, ← rv.length, r2.len, hlen])
      rw [List.append_nil] at z
      exact z) (.cons rfl rv) (by rw [List.length_cons, List.length_cons, r2.len, hlen]) fun _ => ?_
    have hr' : Room (k + 1) (X.A.deeper (envOfC qual (defScope st) s2.heap.objs.size g cdv)) := hr.deeper _
    have act : ∀ (e : Expr) (fe : FE) (p1 p2 : Pos), starEach [e] (envOfC qual (defScope st) s2.heap.objs.size g cdv) = (false, eval e (envOfC qual (defScope st) s2.heap.objs.size g cdv)) :: starEach [] (envOfC qual (defScope st) s2.heap.objs.size g cdv) →
        EX (cxOf CX0 X.prog X.w X.K X.mg X.base Ng qual (defScope st) g cdv X.A X.stack s2 H2 E0).nox e fe → EX (cxOf CX0 X.prog X.w X.K X.mg X.base Ng qual (defScope st) g cdv X.A X.stack s2 H2 E0).nox (.Call (.Name a p1) [e] [] p2) (eLm (.lam f F2 p') tl fe) := fun e fe p1 p2 hst he => by
      refine PE.imp (lam_act (i := 0) (tb := tE X.K fb) (p1 := p1) (p2 := p2) I2 L hnew (fun u => hbind _ _ _ _ u) hr' (fun A outer s H hr2 => hbody A outer s H f c' hr2) hN hva he hst hd hcd) fun σZ HZ QZ ⟨pz, cz, ρz, Fz, Qz', ez, ⟨g1, hz⟩, tz⟩ => ?_
      obtain ⟨v0, e1, e2⟩ := ez.slot 0 _ g1
      obtain ⟨rfl, kF, kp, kc⟩ := e2
      refine ⟨e1, pz, cz, ρz, Fz, _, ez, hz, fun d c3 v F3 H3 w3 ok3 r3 q3 => ⟨ok3.tab.cod (c', X.env.qual ++ "<lambda>") (kc _ List.mem_cons_self), ?_⟩⟩
      refine ⟨pz, c3, ρ ++ [some d], F3, _, ⟨ok3, fun i d' hi => ?_, by rw [List.length_append, List.length_append, est2.len]; rfl⟩, q3, tz.fwd w3⟩
      rcases get3_snoc hi with z | ⟨z1, z2⟩
      · obtain ⟨v', y1, y2⟩ := est2.slot i d' z
        refine ⟨v', ?_, ((Rep.pn (p := p) (p' := pz) kp (fun x hx => kc x (List.mem_cons_of_mem _ hx)) y2).mono kF).mono w3.frz⟩
        have : i < σ.length := (List.getElem?_eq_some_iff.mp y1).1
        rw [List.getElem?_append_left this]
        exact y1
      · subst z2
        refine ⟨v, ?_, r3⟩
        rw [z1, est2.len, List.getElem?_append_right (Nat.le_refl _), Nat.sub_self]
        rfl
    have B := hg cdv X.A X.stack s2 H2 E0 (.lam f F2 p') tl hr' act
    have r2' : RepL X.K p' F2 (.lam f F2 p' :: l) (.ref f :: vs) := ⟨_, _, rfl, ⟨rfl, fun _ _ z => z, rfl, fun _ z => z⟩, RepL.pn (p := p) (p' := p') rfl (fun x hx => List.mem_cons_of_mem _ hx) r2⟩
    have back : ∀ (d : D) (c3 : Nat) (v : V) (F3 H3 : Hp), Fwd p' F2 H2 F3 H3 → Ok3 p' c3 F3 H3 → Rep X.K p' F3 d v → noLst d = true ∧ Q' d c3 → Q v H3 := fun d c3 v F3 H3 w3 ok3 r3 q3 =>
      t d c3 v F3 H3 (w12.trans (Fwd.pn (p := p') (p' := p) rfl w3)) ⟨ok3.sub, ok3.pot, ⟨ok3.tab.tabs, fun q hq => ok3.tab.cod q (List.mem_cons_of_mem _ hq)⟩, ⟨ok3.nt.t, ok3.nt.f⟩⟩ (Rep.pnL q3.1 r3) q3.2
    refine ⟨_, PSs.nox B, p', c1, start3 Ng.length (.lam f F2 p' :: l), F2, F2, H2, _, start_ok ok2' r2', hrun, fun c ρ σ F' H' s q => ?_, fun _ _ _ _ _ _ q => q.elim, fun _ _ _ _ _ _ q => q.elim, back⟩
    exact back .non c .non F' H' s.ent s.ok rfl q
  refine wpAny_call (codeAny_mono rc fun r s3 hq => ?_)
  cases r with
  | error e => exact (show False from hq).elim
  | ok fl =>
    cases fl with
    | ret u => 
      obtain ⟨v, H', J, r, q⟩ := I2.after hq
      exact ⟨v, H', pin_off J, r, q⟩
    | next => exact False.elim hq
    | brk => exact False.elim hq
    | cont => exact False.elim hq
end
end L3

/-! L3, sorted, max and min of one sequence, names of built-ins. -/
namespace L3
open PySem PySem.Spec PyProof.Rows L2
section
variable {K : PySem.W.Frag} {X : Cx} {e a b : Expr} {es : List Expr} {fa fb : FE} {fr : FA} {pos : Pos}
/-! sorted -/
def sortedM (l : List D) (Q : List D → Prop) : Prop :=
  (∃ ns, intsOf l = some ns ∧ ns.length < 64 ∧ ∀ ns' : List Int, ns'.Perm ns → ns'.Pairwise (· ≤ ·) → Q (ns'.map .int)) ∨
  (∃ ds, toPyL l = some ds ∧ PySem.W.AllAlike ds ∧ PySem.W.Sortable ds ∧ ds.length ≤ 16777216 ∧ (∀ d ∈ ds, d.depth ≤ 64) ∧ ∀ l' : List D, l'.Perm l → Q l')
/-- three rows beside one another -/
def zip3 : List D → List V → List PyData → List (D × V × PyData)
  | d :: l, v :: vs, x :: xs => (d, v, x) :: zip3 l vs xs
  | _, _, _ => []
theorem zip3_at : ∀ (l : List D) (vs : List V) (xs : List PyData), vs.length = l.length → xs.length = l.length → (zip3 l vs xs).map (·.1) = l ∧ (zip3 l vs xs).map (·.2.1) = vs ∧ (zip3 l vs xs).map (·.2.2) = xs
  | [], [], [], _, _ => ⟨rfl, rfl, rfl⟩
  | d :: l, v :: vs, x :: xs, h1, h2 => by
    obtain ⟨a, b, c⟩ := zip3_at l vs xs (Nat.succ.inj h1) (Nat.succ.inj h2)
    exact ⟨congrArg (d :: ·) a, congrArg (v :: ·) b, congrArg (x :: ·) c⟩
  | [], v :: vs, _, h1, _ => by cases h1
  | [], [], x :: xs, _, h2 => by cases h2
  | d :: l, [], _, h1, _ => by cases h1
  | d :: l, v :: vs, [], _, h2 => by cases h2
theorem zip3_mem {P : D → V → Prop} {R : D → PyData → Prop} : ∀ (l : List D) (vs : List V) (xs : List PyData), (∀ (i : Nat) d v, l[i]? = some d → vs[i]? = some v → P d v) → (∀ (i : Nat) d x, l[i]? = some d → xs[i]? = some x → R d x) → ∀ b ∈ zip3 l vs xs, P b.1 b.2.1 ∧ R b.1 b.2.2
  | d :: l, v :: vs, x :: xs, h1, h2, b, hb => by
    rcases List.mem_cons.mp hb with z | z
    · subst z; exact ⟨h1 0 d v rfl rfl, h2 0 d x rfl rfl⟩
    · exact zip3_mem l vs xs (fun i d v a b => h1 (i + 1) d v a b) (fun i d v a b => h2 (i + 1) d v a b) b z
  | [], _, _, _, _, b, hb => by cases hb
  | _ :: _, [], _, _, _, b, hb => by cases hb
  | _ :: _, _ :: _, [], _, _, b, hb => by cases hb
theorem toPyL_len : ∀ {l : List D} {xs : List PyData}, toPyL l = some xs → xs.length = l.length
  | [], _, h => by unfold toPyL at h; cases h; rfl
  | d :: l, _, h => by
    unfold toPyL at h
    split at h
    · cases h
      rename_i e1 e2
      rw [List.length_cons, List.length_cons, toPyL_len e2]
    · cases h
theorem toPyL_get : ∀ {l : List D} {xs : List PyData} (i : Nat) (d : D) (x : PyData), toPyL l = some xs → l[i]? = some d → xs[i]? = some x → toPy d = some x
  | [], _, i, d, x, _, h, _ => by simp at h
  | e :: l, _, i, d, x, h, h1, h2 => by
    unfold toPyL at h
    split at h
    · cases h
      rename_i e1 e2
      cases i with
      | zero =>
        cases (show some e = some d from h1)
        cases (show some _ = some x from h2)
        exact e1
      | succ i => exact toPyL_get i d x e2 (show l[i]? = some d from h1) h2
    · cases h
/-- data sorted: in some sequence -/
def rSortP (K : PySem.W.Frag) : List V → Hp → VK → Prop := fun vs H Q => ∃ (a : Addr) (bs : List (D × V × PyData)), vs = [V.ref a] ∧ SqL K H a (bs.map (·.2.1)) ∧ (∀ b ∈ bs, Dp K H b.2.1 b.2.2) ∧ PySem.W.AllAlike (bs.map (·.2.2)) ∧ PySem.W.Sortable (bs.map (·.2.2)) ∧
  bs.length ≤ sizeLine ∧ (∀ b ∈ bs, b.2.2.depth ≤ 64) ∧ ∀ (bs' : List (D × V × PyData)) (p : Addr), bs'.Perm bs → H p = none → Q (.ref p) (upd H p (.lst (bs'.map (·.2.1))))
theorem each_of : ∀ {bs : List (D × V × PyData)} {us : List Value}, Vals (bs.map (·.2.1)) us → PySem.W.EachIs (fun v (b : D × V × PyData) => RelV b.2.1 v) us bs
  | [], _, .nil => .nil
  | b :: bs, _, .cons r t => .cons r (each_of t)
theorem vals_each : ∀ {bs : List (D × V × PyData)} {us : List Value}, PySem.W.EachIs (fun v (b : D × V × PyData) => RelV b.2.1 v) us bs → Vals (bs.map (·.2.1)) us
  | [], _, .nil => .nil
  | b :: bs, _, .cons r t => .cons r (vals_each t)
theorem cr_sortP (hu : X.A.units + 66 < cLine) : CallR X (.builtin "sorted") (rSortP X.K) := by
  intro pins s σ H vs us Q I r h
  obtain ⟨a, bs, rfl, hs, hd, hal, hk, hlen, hdep, q⟩ := h
  obtain ⟨its, rv, hl, _⟩ := I.list hs
  rw [Vals.ref1 r]
  have e := each_of rv
  have er : PySem.W.EachIs (fun v (b : D × V × PyData) => ∃ as, Reads s.heap v b.2.2 as) its bs := PySem.W.EachIs.of_zip e.length fun p hp => by
    have h2 := e.zip p hp
    exact Dp.reads I _ _ _ (hd p.2 (List.of_mem_zip hp).2) h2
  refine PySem.W.sorted_data (enc := fun b => b.2.2) hl.isList e er hal hk hlen (fun b hb => by have := hdep b hb; omega) fun out ho eo => ?_
  obtain ⟨ep, he'⟩ := PyProof.Rows.sortedAll_at s.heap its out.toArray
  have hp := List.mergeSort_perm bs (PySem.W.dataLe false fun b => b.2.2)
  refine ⟨.ref _, upd H (s.heap.objs.size + 1) (.lst ((bs.mergeSort (PySem.W.dataLe false fun b => b.2.2)).map (·.2.1))), I.laid (t' := s.toks) (fun _ _ => PyProof.Rows.sortedAll_old) (Nat.le_succ _) ⟨by rw [List.length_map, hp.length_eq]; exact hlen, out, ep, vals_each eo, he'⟩, rfl, q _ _ hp (I.hok.fresh (Nat.le_succ _))⟩
@[simp ↓] def fSorted (fa : FE) : FL := fun ρ c Q => fa ρ c fun x c => match x with
  | .lst l => sortedM l fun l' => Q l' c
  | _ => False
theorem RepL.ofMap {p : Pn} {F : Hp} : ∀ (bs : List (D × V × PyData)), (∀ b ∈ bs, Rep K p F b.1 b.2.1) → RepL K p F (bs.map (·.1)) (bs.map (·.2.1))
  | [], _ => rfl
  | b :: bs, h => ⟨_, _, rfl, h b List.mem_cons_self, RepL.ofMap bs fun x hx => h x (List.mem_cons_of_mem _ hx)⟩
theorem fx_sorted (hu : X.A.units + 66 < cLine) (hm : X.mg "sorted" = none) (ha : EX X e fa) (hg : Gl X "sorted" := by rfl) (hs : starEach [e] X.env = (false, eval e X.env) :: starEach [] X.env := by rfl) {p : Pos} :
    FX X (.Call (.Name "sorted" p) [e] [] pos) (fSorted fa) := PE.imp (pe_callB (CallR.or cr_sorted (cr_sortP hu)) hg hm (by decide +kernel) (pa_cons ha pa_nil hs) (by decide) (by decide) hs rfl) fun σ H Q ⟨p, c, ρ, F, Q', es, h, t⟩ =>
  ⟨p, c, ρ, F, _, es, h, fun d c1 v F1 H1 w1 ok1 r1 q1 => by
    split at q1
    · obtain ⟨a, xs, rfl, h1, rl⟩ := r1
      rcases q1 with ⟨ns, e1, e2, e3⟩ | ⟨ds, e1, e2, e3, e4, e5, e6⟩
      · refine .inl ⟨a, ns, rfl, by rw [← RepL.ints rl e1]; exact .of (ok1.sub _ _ h1), e2, fun ns' q hp hs nq => ?_⟩
        obtain ⟨w, ok, n1, n2, n3⟩ := layL w1 ok1 nq (ns'.map V.int)
        exact t _ c1 q _ F1 _ w ok n1 n2 n3 upd_same (rep_ints ns') (e3 ns' hp hs)
      · rename_i l
        obtain ⟨z1, z2, z3⟩ := zip3_at l xs ds rl.len (toPyL_len e1)
        have hm := zip3_mem (P := fun d v => Rep X.K p F1 d v) (R := fun d x => toPy d = some x) l xs ds (fun i d v g1 g2 => by
          obtain ⟨v', y1, y2⟩ := rl.get g1
          rw [g2] at y1
          cases y1
          exact y2) (fun i d x g1 g2 => toPyL_get i d x e1 g1 g2)
        refine .inr ⟨a, zip3 l xs ds, rfl, by rw [z2]; exact .of (ok1.sub _ _ h1), fun b hb => (hm b hb).1.dp ok1.sub (hm b hb).2, by rw [z3]; exact e2, by rw [z3]; exact e3, ?_, fun b hb => e5 _ (by rw [← z3]; exact List.mem_map.mpr ⟨b, hb, rfl⟩), fun bs' q hp nq => ?_⟩
        · have := congrArg List.length z3
          rw [List.length_map] at this
          rw [this, line16]; exact e4
        · obtain ⟨w, ok, n1, n2, n3⟩ := layL w1 ok1 nq (bs'.map (·.2.1))
          refine t (bs'.map (·.1)) c1 q _ F1 _ w ok n1 n2 n3 upd_same (RepL.ofMap bs' fun b hb => (hm b (hp.mem_iff.mp hb)).1) (e6 _ ?_)
          have := hp.map (·.1)
          rw [z1] at this
          exact this
    · exact q1.elim⟩
/-! max, min of one sequence of ints -/
@[simp ↓] def maxM : FM := fun l c Q => match l with
  | [.tup m] => (match intsOf m with | some (n :: ns) => Q (.int (ns.foldl max n)) c | _ => False)
  | [.lst m] => (match intsOf m with | some (n :: ns) => Q (.int (ns.foldl max n)) c | _ => False)
  | _ => False
@[simp ↓] def minM : FM := fun l c Q => match l with
  | [.tup m] => (match intsOf m with | some (n :: ns) => Q (.int (ns.foldl min n)) c | _ => False)
  | [.lst m] => (match intsOf m with | some (n :: ns) => Q (.int (ns.foldl min n)) c | _ => False)
  | _ => False
def rOne (K : PySem.W.Frag) (f : Int → List Int → Int) : List V → Hp → VK → Prop := fun vs H Q => ∃ (a : Addr) (n : Int) (ns : List Int), vs = [V.ref a] ∧ (SqL K H a ((n :: ns).map V.int) ∨ SqT K H a ((n :: ns).map V.int)) ∧ Q (.int (f n ns)) H
theorem reads_ints {h : Heap} : ∀ {ns : List Int} {us : List Value}, Vals (ns.map V.int) us → ReadsAll h us (ns.map .int) []
  | [], _, .nil => .nil
  | n :: ns, _, .cons r t => by
    obtain ⟨k, rfl⟩ := r
    exact .cons (.int n k) (reads_ints t)
theorem depth_ints : ∀ ns : List Int, PyData.depthAll (ns.map .int) = 0
  | [] => rfl
  | n :: ns => by
    show max (PyData.depth (.int n)) (PyData.depthAll (ns.map .int)) = 0
    rw [depth_ints ns]
    rfl
theorem alike_all (n : Int) (ns : List Int) : PySem.W.AlikeAll (PyData.int n :: ns.map .int) := by
  have h : ∀ x ∈ (n :: ns).map PyData.int, ∃ i, x = .int i := fun x hx => by
    obtain ⟨i, _, rfl⟩ := List.mem_map.mp hx
    exact ⟨i, rfl⟩
  refine ⟨fun x hx y hy => ?_, fun x hx => ?_⟩
  · obtain ⟨i, rfl⟩ := h x hx
    obtain ⟨j, rfl⟩ := h y hy
    rfl
  · obtain ⟨i, rfl⟩ := h x hx
    exact fun z => nomatch z
theorem maxR (hc : X.calm = true) (hu : X.A.units + 2 < cLine) : CallR X (.builtin "max") (rOne X.K fun n ns => ns.foldl max n) := by
  intro pins s σ H vs us Q I r h
  obtain ⟨a, n, ns, rfl, hs, q⟩ := h
  rw [Vals.ref1 r]
  have fin : ∀ (its : List Value), Vals ((n :: ns).map V.int) its → ∀ (i : Nat) (v : Value) (h' : Heap) (tk : Nat) (bs : List Addr), its.toArray[i]? = some v → Reads h' v (PySem.W.maxD (.int n) (ns.map .int)) bs → (∀ b o, s.heap.get? b = some o → h'.get? b = some o) → EP X pins σ Q v { s with heap := h', toks := tk } := fun its rv i v h' tk bs e rd k => by
    rw [PySem.W.maxD_ints] at rd
    cases rd
    exact ⟨.int (ns.foldl max n), H, I.kept k, ⟨_, rfl⟩, q⟩
  have hdep : X.A.units + 1 + PyData.depthAll (PyData.int n :: ns.map .int) < cLine := by
    have := depth_ints (n :: ns)
    rw [show PyData.int n :: ns.map .int = (n :: ns).map .int from rfl, this]
    omega
  rcases hs with hs | hs
  · obtain ⟨its, rv, hl, _⟩ := I.list hs
    exact PySem.W.max_list_data (I.ok.hd hc) hl.isList (by simpa using reads_ints rv) (alike_all n ns) hdep (fin its rv)
  · obtain ⟨its, rv, hl, _⟩ := I.tuple hs
    exact PySem.W.max_tuple_data (I.ok.hd hc) hl (by simpa using reads_ints rv) (alike_all n ns) hdep (fin its rv)
theorem minR (hc : X.calm = true) (hu : X.A.units + 2 < cLine) : CallR X (.builtin "min") (rOne X.K fun n ns => ns.foldl min n) := by
  intro pins s σ H vs us Q I r h
  obtain ⟨a, n, ns, rfl, hs, q⟩ := h
  rw [Vals.ref1 r]
  have fin : ∀ (its : List Value), Vals ((n :: ns).map V.int) its → ∀ (i : Nat) (v : Value) (h' : Heap) (tk : Nat) (bs : List Addr), its.toArray[i]? = some v → Reads h' v (PySem.W.minD (.int n) (ns.map .int)) bs → (∀ b o, s.heap.get? b = some o → h'.get? b = some o) → EP X pins σ Q v { s with heap := h', toks := tk } := fun its rv i v h' tk bs e rd k => by
    rw [PySem.W.minD_ints] at rd
    cases rd
    exact ⟨.int (ns.foldl min n), H, I.kept k, ⟨_, rfl⟩, q⟩
  have hdep : X.A.units + 1 + PyData.depthAll (PyData.int n :: ns.map .int) < cLine := by
    have := depth_ints (n :: ns)
    rw [show PyData.int n :: ns.map .int = (n :: ns).map .int from rfl, this]
    omega
  rcases hs with hs | hs
  · obtain ⟨its, rv, hl, _⟩ := I.list hs
    exact PySem.W.min_list_data (I.ok.hd hc) hl.isList (by simpa using reads_ints rv) (alike_all n ns) hdep (fin its rv)
  · obtain ⟨its, rv, hl, _⟩ := I.tuple hs
    exact PySem.W.min_tuple_data (I.ok.hd hc) hl (by simpa using reads_ints rv) (alike_all n ns) hdep (fin its rv)

theorem maxS : CallS K (rOne K fun n ns => ns.foldl max n) maxM := by
  intro p c F H l vs Q' Q ok r h t
  unfold maxM at h
  split at h
  · obtain ⟨v, rfl, r1⟩ := r.one
    obtain ⟨a, xs, rfl, h1, rl⟩ := r1
    split at h
    · rename_i n ns e
      exact ⟨a, n, ns, rfl, .inr (by rw [← RepL.ints rl e]; exact ok.sqT h1), tellI ok t h⟩
    · exact h.elim
  · obtain ⟨v, rfl, r1⟩ := r.one
    obtain ⟨a, xs, rfl, h1, rl⟩ := r1
    split at h
    · rename_i n ns e
      exact ⟨a, n, ns, rfl, .inl (by rw [← RepL.ints rl e]; exact .of (ok.sub _ _ h1)), tellI ok t h⟩
    · exact h.elim
  · exact h.elim
theorem minS : CallS K (rOne K fun n ns => ns.foldl min n) minM := by
  intro p c F H l vs Q' Q ok r h t
  unfold minM at h
  split at h
  · obtain ⟨v, rfl, r1⟩ := r.one
    obtain ⟨a, xs, rfl, h1, rl⟩ := r1
    split at h
    · rename_i n ns e
      exact ⟨a, n, ns, rfl, .inr (by rw [← RepL.ints rl e]; exact ok.sqT h1), tellI ok t h⟩
    · exact h.elim
  · obtain ⟨v, rfl, r1⟩ := r.one
    obtain ⟨a, xs, rfl, h1, rl⟩ := r1
    split at h
    · rename_i n ns e
      exact ⟨a, n, ns, rfl, .inl (by rw [← RepL.ints rl e]; exact .of (ok.sub _ _ h1)), tellI ok t h⟩
    · exact h.elim
  · exact h.elim
end
/-! names of built-ins -/
theorem boot_len3 : bootBuiltins "len" = some (.builtin "len") := by decide +kernel
theorem boot_abs3 : bootBuiltins "abs" = some (.builtin "abs") := by decide +kernel
theorem boot_all3 : bootBuiltins "all" = some (.builtin "all") := by decide +kernel
theorem boot_any3 : bootBuiltins "any" = some (.builtin "any") := by decide +kernel
theorem boot_sum3 : bootBuiltins "sum" = some (.builtin "sum") := by decide +kernel
theorem boot_max3 : bootBuiltins "max" = some (.builtin "max") := by decide +kernel
theorem boot_min3 : bootBuiltins "min" = some (.builtin "min") := by decide +kernel
theorem boot_isinstance3 : bootBuiltins "isinstance" = some (.builtin "isinstance") := by decide +kernel
theorem boot_int3 : bootBuiltins "int" = some (.type "int") := by decide +kernel
theorem boot_bool3 : bootBuiltins "bool" = some (.type "bool") := by decide +kernel
theorem boot_str3 : bootBuiltins "str" = some (.type "str") := by decide +kernel
theorem boot_tuple3 : bootBuiltins "tuple" = some (.type "tuple") := by decide +kernel
theorem boot_list3 : bootBuiltins "list" = some (.type "list") := by decide +kernel
end L3

/-! L3, the pot: a list of three ints that a law draws from. -/
namespace L3
open PySem PySem.Spec PyProof.Rows L2
theorem u66 {k : Nat} {A : Around} (r : Room k A) {n : Nat} (h : n ≤ 200 := by decide) : A.units + n < cLine := by
  have := r.un
  omega
section
variable {K : PySem.W.Frag} {X : Cx} {e a b : Expr} {es : List Expr} {fa fb fe : FE} {fr : FA} {pos p2 : Pos}
/-- pot[k] -/
@[simp ↓] def ePot (i : Nat) (k : Int) : FE := fun ρ c Q => get3 ρ i = some .pot ∧ ((k = 0 ∧ ∀ x : Int, 0 ≤ x → Q (.int x) c) ∨ (k = 1 ∧ ∀ y : Int, 0 ≤ y → y < 2 ^ 61 → Q (.int y) c) ∨ (k = 2 ∧ ∀ z : Int, 0 ≤ z → z ≤ c → Q (.int z) c))
theorem ex_pot (i : Nat) {x : Str} {px pk : Pos} {k : Int} {j : Nat} (hN : X.N[i]? = some x := by rfl) (hv : Vis X.env.scope x := by first | exact Or.inl rfl | exact Or.inr (Or.inl rfl) | exact Or.inr (Or.inr rfl)) (hd : (x == ("__debug__" : Str)) = false := by decide)
    (hcd : (x == ("__classdict__" : Str)) = false := by decide) : EX X (.Subscript (.Name x px) (.Constant (.int k) j pk) pos) (ePot i k) := PE.imp (pe_ix L2.ix_seq (pe_var (i := i) hN hv hd hcd) pe_int (fun _ _ => rfl)) fun σ H Q ⟨p, c, ρ, F, Q', es, ⟨g, h⟩, t⟩ => by
  obtain ⟨v, e1, r⟩ := es.slot i _ g
  obtain ⟨a, e2, rfl⟩ := r
  obtain ⟨⟨x, y, z, hH, x0, y0, y1, z0, z1⟩, nF⟩ := es.ok.pot a e2
  refine ⟨_, e1, ?_⟩
  have hL : SqL X.K H a [.int x, .int y, .int z] := .of hH
  rcases h with ⟨rfl, h⟩ | ⟨rfl, h⟩ | ⟨rfl, h⟩
  · exact .inl ⟨a, _, 0, .int x, rfl, rfl, hL, rfl, tellI es.ok t (h x x0)⟩
  · exact .inl ⟨a, _, 1, .int y, rfl, rfl, hL, rfl, tellI es.ok t (h y y0 y1)⟩
  · exact .inl ⟨a, _, 2, .int z, rfl, rfl, hL, rfl, tellI es.ok t (h z z0 z1)⟩
/-- pot[k] = e -/
@[simp ↓] def sPot (i : Nat) (k : Int) (fe : FE) : FS := fun E ρ c => fe (ρ.map vA) c fun d c => match d with
  | .int v => ρ[i]? = some (.val .pot) ∧ ((k = 0 ∧ 0 ≤ v ∧ E.nx ρ (c + 1)) ∨ (k = 2 ∧ 0 ≤ v ∧ v ≤ (c : Int) + 1 ∧ E.nx ρ (c + 1)))
  | _ => False
theorem sx_pot {i : Nat} {k : Int} {st : Stmt} (h : PS X st (tAsg (tE X.K fa) (gSub (tVar i) (tC (.int k)) rSetL))) : SX X st (sPot i k fa) := PS.imp h fun D σ H ⟨p, c, ρ, F, F0, H0, E, s, h, t⟩ => by
  refine ⟨p, c, _, F, _, s.e, h, fun d c1 v F1 H1 w1 ok1 r1 q1 => ?_⟩
  split at q1
  · rename_i n
    cases (show v = .int n from r1)
    obtain ⟨g, q⟩ := q1
    have s1 := s.fwd w1 ok1
    obtain ⟨u, e1, r⟩ := s1.val i _ g
    obtain ⟨a, e2, rfl⟩ := r
    obtain ⟨⟨x, y, z, hH, x0, y0, y1, z0, z1⟩, nF⟩ := ok1.pot a e2
    have put : ∀ x' z' : Int, 0 ≤ x' → 0 ≤ z' → z' ≤ (c1 : Int) + 1 → SSt X.K p (c1 + 1) ρ σ F1 (upd H1 a (.lst [.int x', .int y, .int z'])) F0 H0 := fun x' z' h1 h2 h3 => by
      refine s1.fwd ⟨fun _ _ z => z, fun b o hb n _ => ?_, fun _ _ z => .inl z, fun b hb => ?_⟩ ⟨fun b o hb => ?_, fun b hb => ?_, tabs_put ok1.tab hH, ok1.nt⟩
      · rw [upd_ne (fun z => n (by rw [z]; exact e2))]; exact hb
      · by_cases z : b = a
        · rw [z, upd_same] at hb; cases hb
        · rw [upd_ne z] at hb; exact hb
      · rw [upd_ne (ne_of_none hb nF)]; exact ok1.sub b o hb
      · rw [e2] at hb
        cases hb
        exact ⟨⟨x', y, z', upd_same, h1, y0, y1, h2, by omega⟩, nF⟩
    refine ⟨_, e1, ?_⟩
    rcases q with ⟨rfl, q1, q2⟩ | ⟨rfl, q1, q2, q3⟩
    · exact ⟨a, _, 0, 0, rfl, rfl, hH, rfl, t.nx _ ρ σ F1 _ (put n z q1 z0 (by omega)) q2⟩
    · exact ⟨a, _, 2, 2, rfl, rfl, hH, rfl, t.nx _ ρ σ F1 _ (put x n x0 q1 q2) q3⟩
  · exact q1.elim
/-! a def that hands out a list of its own -/
abbrev FSF := (List D → Nat → Prop) → Env3 → Nat → Prop
def TellF (K : PySem.W.Frag) (p : Pn) (F0 H0 : Hp) (Q' : List D → Nat → Prop) (Q : VK) : Prop := ∀ l c' a xs F' H', Fwd p F0 H0 F' H' → Ok3 p c' F' H' → H0 a = none → F' a = none → p.pot ≠ some a → H' a = some (.lst xs) → RepL K p F' l xs → Q' l c' → Q (.ref a) H'
def tSF (K : PySem.W.Frag) (s : FSF) : TS := fun D σ H => ∃ p c ρ F F0 H0 Q', SSt K p c ρ σ F H F0 H0 ∧ s Q' ρ c ∧ TellF K p F0 H0 Q' D.rt
@[simp ↓] def sRetF (f : FL) : FSF := fun Q ρ c => f (ρ.map vA) c Q
@[simp ↓] def sThenF (g : FS) (h : FSF) : FSF := fun Q ρ c => g { nx := fun ρ c => h Q ρ c, rt := fun _ _ => False } ρ c
theorem bf_ret {f : FL} (h : FX X e f) : PSs X [.Return (some e) pos] (tSF X.K (sRetF f)) := PSs.imp (pss_one (ps_ret h)) fun D σ H ⟨p, c, ρ, F, F0, H0, Q', s, h, t⟩ =>
  ⟨p, c, _, F, Q', s.e, h, fun l c' a xs F' H' w ok n1 n2 n3 h1 r q => t l c' a xs F' H' (s.ent.trans w) ok (s.ent.there a n1) n2 n3 h1 r q⟩
theorem bf_cons {st : Stmt} {rest : List Stmt} {g : FS} {f : FSF} (h1 : SX X st g) (h2 : PSs X rest (tSF X.K f)) : PSs X (st :: rest) (tSF X.K (sThenF g f)) := PSs.imp (pss_cons h1 h2) fun D σ H ⟨p, c, ρ, F, F0, H0, Q', s, h, t⟩ =>
  ⟨p, c, ρ, F, F0, H0, _, s, h, fun c1 ρ1 σ1 F1 H1 s1 q => ⟨p, c1, ρ1, F1, F0, H0, Q', s1, q, t⟩, fun _ _ _ _ _ _ q => q.elim, fun _ _ _ _ _ _ q => q.elim, fun _ _ _ _ _ _ _ _ q => q.elim⟩
abbrev FMF := List D → Nat → (List D → Nat → Prop) → Prop
def spF (K : PySem.W.Frag) (n : Nat) (m : FMF) : Sp := fun vs H Q _ => vs.length = n ∧ ∃ p c F ds Q', Ok3 p c F H ∧ RepL K p F ds vs ∧ m ds c Q' ∧ TellF K p F H Q' Q
theorem fn3F {P : Program} {w : World} {mg : Str → Option Value} {base : Heap} {x qual : Str} {st : Stmt} {f : Addr} {fd : FuncData} {N ps : List Str} {k n : Nat} {m : FMF} {g : FSF}
    (F : Fun K x qual st f fd) (S : FnScope N ps (defScope st)) (hn : ps.length = n) (hp : ∀ ds c Q, m ds c Q → g Q (start3 N.length ds) c)
    (hbody : ∀ (cdv : Value) (A : Around) (outer : List Env) (s : Shared) (H : Hp) (E : XK), Room k (A.deeper (envOfC qual (defScope st) s.heap.objs.size f cdv)) →
      PSs (cxOf CX0 P w K mg base N qual (defScope st) f cdv A outer s H E).nox (defBody st) (tSF K g)) : FnOk P w K mg base CX0 (k + 1) f fd ps (spF K n m) := by
  refine Fun.ok3 F S (fun vs H Q E h => h.1.trans hn.symm) fun cdv A outer s H vs Q E _ hr ⟨hl, p, c, F1, ds, Q', ok, r, h, t⟩ => ?_
  exact ⟨_, (hbody cdv A outer s H E hr).nox, p, c, start3 N.length ds, F1, F1, H, _, start_ok ok r, hp ds c Q' h, t⟩
/-- right(pot(es)): a new pot, drawn from by right -/
@[simp ↓] def ePotCall (mp : FMF) (mr : FM) (fr : FA) : FE := fun ρ c Q => fr ρ c fun l c => mp l c fun l' c => ∃ x y : Int, l' = [.int x, .int y, .int 0] ∧ 0 ≤ x ∧ 0 ≤ y ∧ y < 2 ^ 61 ∧ mr [.pot] 0 fun d _ => noLst d = true ∧ Q d c
theorem ex_potcall {k k2 n : Nat} {f f2 : Addr} {fd fd2 : FuncData} {ps ps2 : List Str} {mp : FMF} {mr : FM} {x y : Str} {p1 p2 : Pos} (G : FnOk X.prog X.w X.K X.mg X.base CX0 k f fd ps (spF X.K n mp)) (G2 : FnOk X.prog X.w X.K X.mg X.base CX0 k2 f2 fd2 ps2 (spM X.K 1 mr)) (hr : Room k X.A) (hr2 : Room k2 X.A)
    (hm : X.mg x = some (.ref f)) (hk : PySem.W.keepIn X.K (.ref f) = true) (hb : Binds X.K fd ps []) (hm2 : X.mg y = some (.ref f2)) (hk2 : PySem.W.keepIn X.K (.ref f2) = true) (hb2 : Binds X.K fd2 ps2 []) (ha : AX X (a :: es) fr) (hl : ∀ l c Q, mp l c Q → l.length = n)
    (hg : Gl X x := by rfl) (hg2 : Gl X y := by rfl) (hdb : (x == ("__debug__" : Str)) = false := by decide) (hdb2 : (y == ("__debug__" : Str)) = false := by decide) (he : starEach (a :: es) X.env = (false, eval a X.env) :: starEach es X.env := by rfl) (hpl : (backTo p2 (starEach es X.env)).any (·.1) = false := by rfl)
    (he2 : starEach [.Call (.Name x p1) (a :: es) [] p2] X.env = (false, eval (.Call (.Name x p1) (a :: es) [] p2) X.env) :: starEach [] X.env := by rfl) {p3 : Pos} :
    EX X (.Call (.Name y p3) [.Call (.Name x p1) (a :: es) [] p2] [] pos) (ePotCall mp mr fr) := PE.imp (pe_call (dvs := []) (E := E0) G2 hr2 hg2 hm2 hk2 hb2 .nil pass0 (pa_cons (pe_call (dvs := []) (E := E0) G hr hg hm hk hb .nil pass0 ha hdb he hpl) pa_nil he2) hdb2 he2 rfl) fun σ H Q ⟨p, c, ρ, F, Q', es, h, t⟩ =>
  ⟨p, c, ρ, F, _, es, h, fun l c1 vs F1 H1 w1 ok1 r1 q1 => ⟨by rw [List.append_nil, r1.len]; exact hl _ _ _ q1, p, c1, F1, l, _, ok1, by rw [List.append_nil]; exact r1, q1, fun l' c2 a xs F2 H2 w2 ok2 n1 n2 n3 h1 r2 q2 => by
    obtain ⟨x, y, rfl, x0, y0, y1, q2⟩ := q2
    obtain ⟨v1, vs1, rfl, e1, r3⟩ := r2
    obtain ⟨v2, v3, rfl, e2, e3⟩ := r3.two
    cases (show v1 = .int x from e1)
    cases (show v2 = .int y from e2)
    cases (show v3 = .int 0 from e3)
    have w12 := w1.trans w2
    have nH : H a = none := w1.there a n1
    refine ⟨rfl, ⟨some a, p.cod, p.flo⟩, 0, F2, [.pot], _, ⟨ok2.sub, fun b hb => ?_, ⟨ok2.tab.tabs, ok2.tab.cod⟩, ⟨ok2.nt.t, ok2.nt.f⟩⟩, ⟨_, _, rfl, ⟨a, rfl, rfl⟩, rfl⟩, q2, fun d c3 v F3 H3 w3 ok3 r3 q3 => ?_⟩
    · cases hb
      exact ⟨⟨x, y, 0, h1, x0, y0, y1, Int.le_refl _, Int.le_refl _⟩, n2⟩
    · have kp : ∀ b o, H2 b = some o → b ≠ a → (∀ ps, o ≠ HO.tbl ps) → H3 b = some o := fun b o h n t => w3.keep b o h (fun z => n (Option.some.inj z).symm) t
      refine t d c2 v F3 H3 ⟨fun b o z => w3.frz b o (w12.frz b o z), fun b o hb n t => ?_, fun b o hb => ?_, fun b hb => w12.there b (w3.there b hb)⟩ ⟨ok3.sub, fun b hb => ?_, ⟨ok3.tab.tabs, ok3.tab.cod⟩, ⟨ok3.nt.t, ok3.nt.f⟩⟩ (Rep.pnL q3.1 r3) q3.2
      · exact kp b o (w12.keep b o hb n t) (ne_of_none hb nH) t
      · rcases w3.new b o hb with z | z
        · exact w12.new b o z
        · rcases z with z | z
          · exact .inr (.inl (w12.there b z))
          · exact .inr (.inr z)
      · obtain ⟨⟨x', y', z', g1, g2⟩, g3⟩ := ok2.pot b hb
        refine ⟨⟨x', y', z', kp b _ g1 (fun z => n3 (z ▸ hb)) (fun _ z => nomatch z), g2⟩, ?_⟩
        cases z : F3 b with
        | none => rfl
        | some o =>
          rcases w3.new b o z with q | q | ⟨q', q⟩
          · rw [g3] at q; cases q
          · rw [g1] at q; cases q
          · have y2 := ok3.sub b o z
            rw [kp b _ g1 (fun z => n3 (z ▸ hb)) (fun _ z => nomatch z)] at y2
            exact absurd (q.symm.trans (Option.some.inj y2.symm)) codeO_lst⟩⟩
end
/-- a def that makes a lambda: its code object is told -/
theorem fn3L {P : Program} {w : World} {K : PySem.W.Frag} {mg : Str → Option Value} {base : Heap} {x qual : Str} {st : Stmt} {f : Addr} {fd : FuncData} {N ps : List Str} {k n : Nat} {m : FM} {g : FS}
    (F : Fun K x qual st f fd) (S : FnScope N ps (defScope st)) (hn : ps.length = n) (hp : ∀ ds c Q, m ds c Q → runM N.length g ds c Q)
    (hbody : ∀ (cdv : Value) (A : Around) (outer : List Env) (s : Shared) (H : Hp) (E : XK), fd.code = cdv → Room k (A.deeper (envOfC qual (defScope st) s.heap.objs.size f cdv)) →
      BX (cxOf CX0 P w K mg base N qual (defScope st) f cdv A outer s H E).nox (defBody st) g) : FnOk P w K mg base CX0 (k + 1) f fd ps (spM K n m) := by
  refine Fun.ok3 F S (fun vs H Q E h => h.1.trans hn.symm) fun cdv A outer s H vs Q E hcd hr ⟨hl, p, c, F1, ds, Q', ok, r, h, t⟩ => ?_
  refine ⟨_, (hbody cdv A outer s H E hcd hr).nox, p, c, start3 N.length ds, F1, F1, H, _, start_ok ok r, hp ds c Q' h, fun c ρ σ F' H' s q => ?_, fun _ _ _ _ _ _ q => q.elim, fun _ _ _ _ _ _ q => q.elim, t⟩
  exact t .non c .non F' H' s.ent s.ok rfl q
end L3

/-! L3, plain rules: loops and comprehensions as invariants. -/
namespace L3
open PySem PySem.Spec PyProof.Rows L2
theorem while_n {t : FT} {b : FS} {E : End3} (I : Env3 → Nat → Nat → Prop)
    (step : ∀ μ ρ c, I ρ c μ → ∀ N : Env3 → Nat → Prop, (∀ ρ' c' μ', μ' < μ → I ρ' c' μ' → N ρ' c') → t (ρ.map vB) c fun k c' => if k = true then b { E with nx := N, ct := N, bk := E.nx } ρ c' else E.nx ρ c') :
    ∀ n μ ρ c, μ < n → I ρ c μ → whileN t b E n ρ c
  | 0, _, _, _, h, _ => absurd h (Nat.not_lt_zero _)
  | n + 1, μ, ρ, c, h, i => step μ ρ c i (whileN t b E n) fun ρ' c' μ' h' i' => while_n I step n μ' ρ' c' (Nat.lt_of_lt_of_le h' (Nat.le_of_lt_succ h)) i'
theorem while_rule {t : FT} {b : FS} {E : End3} (I : Env3 → Nat → Nat → Prop) {ρ : Env3} {c μ : Nat} (i : I ρ c μ)
    (step : ∀ μ ρ c, I ρ c μ → ∀ N : Env3 → Nat → Prop, (∀ ρ' c' μ', μ' < μ → I ρ' c' μ' → N ρ' c') → t (ρ.map vB) c fun k c' => if k = true then b { E with nx := N, ct := N, bk := E.nx } ρ c' else E.nx ρ c') : sWhile t b E ρ c :=
  ⟨μ + 1, while_n I step (μ + 1) μ ρ c (Nat.lt_succ_self _) i⟩
theorem for_rule {g : FG} {b : FS} {E : End3} (I : List D → Env3 → Nat → Prop)
    (step : ∀ d l ρ c, I (d :: l) ρ c → ∀ N : Env3 → Nat → Prop, (∀ ρ' c', I l ρ' c' → N ρ' c') → g d ρ fun ρ => b { E with nx := N, ct := N, bk := E.nx } ρ c)
    (fin : ∀ ρ c, I [] ρ c → E.nx ρ c) : ∀ (l : List D) (ρ : Env3) (c : Nat), I l ρ c → forL g b E l ρ c
  | [], ρ, c, i => fin ρ c i
  | d :: l, ρ, c, i => step d l ρ c i (fun ρ c => forL g b E l ρ c) fun ρ' c' i' => for_rule I step fin l ρ' c' i'
theorem comp_rule {g : FG} {fe : FE} {ρ : Rho} (P : D → Prop) (k C : Nat) : ∀ (l : List D) (c : Nat) (Q : List D → Nat → Prop),
    (∀ d ∈ l, ∀ c (K : KD), c + k ≤ C → (∀ y, P y → K y (c + k)) → g d (ρ.map upS) fun ρ' => fe (ρ'.map vA) c K) → c + k * l.length ≤ C → (∀ ys, ys.length = l.length → (∀ y ∈ ys, P y) → Q ys (c + k * l.length)) → compL g tYes3 fe ρ l c Q
  | [], c, Q, _, _, q => q [] rfl (fun _ h => absurd h List.not_mem_nil)
  | d :: l, c, Q, step, hc, q => by
    have e : c + k * (d :: l).length = c + k + k * l.length := by
      rw [List.length_cons, Nat.mul_succ]
      omega
    rw [e] at hc q
    show g d (ρ.map upS) fun ρ' => fe (ρ'.map vA) c fun y c => compL g tYes3 fe ρ l c fun ys c => Q (y :: ys) c
    refine step d List.mem_cons_self c _ (by omega) fun y py => comp_rule P k C l (c + k) _ (fun d hd => step d (List.mem_cons_of_mem _ hd)) hc fun ys h1 h2 => q (y :: ys) (by rw [List.length_cons, List.length_cons, h1]) fun z hz => ?_
    rcases List.mem_cons.mp hz with e | e
    · rw [e]; exact py
    · exact h2 z e
/-- each by its own: no draws -/
theorem comp_map {g : FG} {fe : FE} {ρ : Rho} (f : D → D) {c : Nat} : ∀ (l : List D) (Q : List D → Nat → Prop),
    (∀ d ∈ l, ∀ (K : KD), K (f d) c → g d (ρ.map upS) fun ρ' => fe (ρ'.map vA) c K) → Q (l.map f) c → compL g tYes3 fe ρ l c Q
  | [], Q, _, q => q
  | d :: l, Q, step, q => by
    show g d (ρ.map upS) fun ρ' => fe (ρ'.map vA) c fun y c => compL g tYes3 fe ρ l c fun ys c => Q (y :: ys) c
    exact step d List.mem_cons_self _ (comp_map f l _ (fun d hd => step d (List.mem_cons_of_mem _ hd)) q)
theorem bls_true (l : List D) : blsOf (l.map fun _ => .bl true) = some (l.map fun _ => true) := by
  induction l with
  | nil => rfl
  | cons d l ih =>
    show (blsOf (l.map fun _ => .bl true)).map (true :: ·) = _
    rw [ih]
    rfl
theorem all_true {α : Type} (l : List α) : (l.map fun _ => true).all id = true := by
  induction l with
  | nil => rfl
  | cons d l ih => exact ih
theorem ints_of (ns : List Int) : intsOf (ns.map .int) = some ns := by
  induction ns with
  | nil => rfl
  | cons n ns ih =>
    show (intsOf (ns.map .int)).map (n :: ·) = _
    rw [ih]
    rfl
/-- drawn ints -/
theorem ints_drawn {m : Int} : ∀ {ys : List D}, (∀ y ∈ ys, ∃ d, y = .int d ∧ 0 ≤ d ∧ d < m) → ∃ ds : List Int, ys = ds.map .int ∧ ∀ d ∈ ds, 0 ≤ d ∧ d < m
  | [], _ => ⟨[], rfl, fun _ h => absurd h List.not_mem_nil⟩
  | y :: ys, h => by
    obtain ⟨d, rfl, h1, h2⟩ := h y List.mem_cons_self
    obtain ⟨ds, rfl, h3⟩ := ints_drawn fun z hz => h z (List.mem_cons_of_mem _ hz)
    refine ⟨d :: ds, rfl, fun z hz => ?_⟩
    rcases List.mem_cons.mp hz with e | e
    · rw [e]; exact ⟨h1, h2⟩
    · exact h3 z e
/-- with a test -/
theorem comp_filter {g : FG} {t : FT} {fe : FE} {ρ : Rho} (P : D → Bool) (f : D → D) {c : Nat} : ∀ (l : List D) (Q : List D → Nat → Prop),
    (∀ d ∈ l, ∀ (A : KD) (B : Nat → Prop), (P d = true → A (f d) c) → (P d = false → B c) → g d (ρ.map upS) fun ρ' => t (ρ'.map vA) c fun b c => if b = true then fe (ρ'.map vA) c A else B c) → Q ((l.filter P).map f) c → compL g t fe ρ l c Q
  | [], Q, _, q => q
  | d :: l, Q, step, q => by
    show g d (ρ.map upS) fun ρ' => t (ρ'.map vA) c fun b c => if b = true then fe (ρ'.map vA) c (fun y c => compL g t fe ρ l c fun ys c => Q (y :: ys) c) else compL g t fe ρ l c Q
    have st : ∀ e ∈ l, _ := fun e he => step e (List.mem_cons_of_mem _ he)
    refine step d List.mem_cons_self _ _ (fun h => ?_) fun h => ?_
    · refine comp_filter P f l _ st ?_
      rw [List.filter_cons_of_pos h] at q
      exact q
    · refine comp_filter P f l _ st ?_
      rw [List.filter_cons_of_neg (by rw [h]; decide)] at q
      exact q
theorem rangeL0 (n : Nat) : rangeL 0 n = (List.range n).map fun k => D.int (k : Nat) := by
  unfold rangeL
  refine List.map_congr_left fun k _ => ?_
  rw [Int.zero_add]
end L3

/-! L3C: plain helpers that all laws share. -/
namespace L3
open PySem PySem.Spec PyProof.Rows L2
theorem five_at (z : Int) (hz : 0 ≤ z) {a b c d e : Int} (h : 0 < a ∧ 0 < b ∧ 0 < c ∧ 0 < d ∧ 0 < e) (h' : a < 4294967296 ∧ b < 4294967296 ∧ c < 4294967296 ∧ d < 4294967296 ∧ e < 4294967296) : ∃ p, atI [D.int a, D.int b, D.int c, D.int d, D.int e] (z % 5) = some (.int p) ∧ 0 < p ∧ p < 4294967296 := by
  have : z % 5 = 0 ∨ z % 5 = 1 ∨ z % 5 = 2 ∨ z % 5 = 3 ∨ z % 5 = 4 := by omega
  rcases this with q | q | q | q | q <;> rw [q]
  · exact ⟨a, rfl, h.1, h'.1⟩
  · exact ⟨b, rfl, h.2.1, h'.2.1⟩
  · exact ⟨c, rfl, h.2.2.1, h'.2.2.1⟩
  · exact ⟨d, rfl, h.2.2.2.1, h'.2.2.2.1⟩
  · exact ⟨e, rfl, h.2.2.2.2, h'.2.2.2.2⟩
def isIntB (lo hi : Int) : D → Bool
  | .int v => decide (lo ≤ v ∧ v ≤ hi)
  | _ => false
def areIntsB (lo hi : Int) : D → Bool
  | .tup l => l.all fun d => isIntB lo hi d
  | _ => false
/-- a value that isinstance may ask, its items too if it is a tuple -/
def tyAll : D → Bool
  | .tup l => l.all fun d => (tyName d).isSome
  | d => (tyName d).isSome
theorem tyAll_ints (vs : List Int) : tyAll (.tup (vs.map .int)) = true := List.all_eq_true.mpr fun d hd => by
  obtain ⟨v, _, rfl⟩ := List.mem_map.mp hd
  rfl
theorem areInts_ok {vs : List Int} {lo hi : Int} (h : ∀ v ∈ vs, lo ≤ v ∧ v ≤ hi) : areIntsB lo hi (.tup (vs.map .int)) = true := List.all_eq_true.mpr fun d hd => by
  obtain ⟨v, hv, rfl⟩ := List.mem_map.mp hd
  exact decide_eq_true (h v hv)
theorem bls_map {α : Type} (f : α → Bool) : ∀ l : List α, blsOf (l.map fun d => .bl (f d)) = some (l.map f)
  | [] => rfl
  | d :: l => by
    show (blsOf (l.map fun d => .bl (f d))).map (f d :: ·) = _
    rw [bls_map f l]
    rfl
theorem map_all {α : Type} (f : α → Bool) (l : List α) : (l.map f).all id = l.all f := by
  rw [List.all_map]
  rfl
theorem bls_yes : ∀ {ys : List D}, (∀ y ∈ ys, y = .bl true) → blsOf ys = some (ys.map fun _ => true)
  | [], _ => rfl
  | y :: ys, h => by
    rw [h y List.mem_cons_self]
    show (blsOf ys).map (true :: ·) = _
    rw [bls_yes fun z hz => h z (List.mem_cons_of_mem _ hz)]
    rfl
theorem cut_one (ns : List Int) : cutD (ns.map .int) none (some 1) = (ns.take 1).map D.int := by
  cases ns with
  | nil => rfl
  | cons x r => simp [cutD, HT.sIx]
theorem erase_permD {α : Type} {m r : List α} {f : List α} {k : Nat} {x : α} (h : m[k]? = some x) (p : (f ++ m).Perm r) : (f ++ [x] ++ m.eraseIdx k).Perm r := by
  obtain ⟨hk, hx⟩ := List.getElem?_eq_some_iff.mp h
  have e : (x :: m.eraseIdx k).Perm m := by
    rw [List.eraseIdx_eq_take_drop_succ]
    refine List.perm_middle.symm.trans (List.Perm.of_eq ?_)
    rw [← hx, ← List.drop_eq_getElem_cons hk, List.take_append_drop]
  rw [List.append_assoc]
  exact ((List.Perm.append_left f e).trans p)
theorem get3_set_eq {x : Option D} : ∀ {ρ : Rho} {i : Nat}, i < ρ.length → get3 (ρ.set i x) i = x
  | [], _, h => absurd h (Nat.not_lt_zero _)
  | _ :: _, 0, _ => rfl
  | _ :: ρ, i + 1, h => get3_set_eq (ρ := ρ) (Nat.lt_of_succ_lt_succ h)
theorem get3_set_ne {x : Option D} : ∀ {i j : Nat} (ρ : Rho), i ≠ j → get3 (ρ.set i x) j = get3 ρ j
  | _, _, [], _ => rfl
  | 0, 0, _ :: _, h => absurd rfl h
  | 0, j + 1, _ :: _, _ => rfl
  | i + 1, 0, _ :: _, _ => rfl
  | i + 1, j + 1, _ :: ρ, h => get3_set_ne (i := i) (j := j) ρ (fun e => h (by rw [e]))
theorem vA_upS (ρ : Rho) : ρ.map (vA ∘ upS) = ρ := by
  refine (List.map_congr_left fun x _ => ?_).trans (List.map_id _)
  cases x <;> rfl
theorem comp_le {g : FG} {fe : FE} {ρ : Rho} (P : D → Prop) (k C : Nat) : ∀ (l : List D) (c : Nat) (Q : List D → Nat → Prop),
    (∀ d ∈ l, ∀ c (K : KD), c + k ≤ C → (∀ y c', P y → c' ≤ c + k → K y c') → g d (ρ.map upS) fun ρ' => fe (ρ'.map vA) c K) → c + k * l.length ≤ C → (∀ ys c', ys.length = l.length → (∀ y ∈ ys, P y) → c' ≤ c + k * l.length → Q ys c') → compL g tYes3 fe ρ l c Q
  | [], c, Q, _, _, q => q [] c rfl (fun _ h => absurd h List.not_mem_nil) (Nat.le_add_right _ _)
  | d :: l, c, Q, step, hc, q => by
    have e : c + k * (d :: l).length = c + k + k * l.length := by
      rw [List.length_cons, Nat.mul_succ]
      omega
    rw [e] at hc q
    show g d (ρ.map upS) fun ρ' => fe (ρ'.map vA) c fun y c => compL g tYes3 fe ρ l c fun ys c => Q (y :: ys) c
    refine step d List.mem_cons_self c _ (by omega) fun y c1 py hc1 => comp_le P k C l c1 _ (fun d hd => step d (List.mem_cons_of_mem _ hd)) (by omega) fun ys c2 h1 h2 h3 => q (y :: ys) c2 (by rw [List.length_cons, List.length_cons, h1]) (fun z hz => ?_) (by omega)
    rcases List.mem_cons.mp hz with e | e
    · rw [e]; exact py
    · exact h2 z e
theorem cutD_from {l : List D} (k : Nat) : cutD l (some (k : Int)) none = l.drop k := by
  unfold cutD
  rw [HT.sIx_none, HT.sIx_nat]
  by_cases h : k ≤ l.length
  · rw [Nat.min_eq_left h, List.take_of_length_le (by rw [List.length_drop]; omega)]
  · rw [Nat.min_eq_right (by omega), List.drop_eq_nil_of_le (by omega : l.length ≤ k), List.drop_eq_nil_of_le (Nat.le_refl _)]
    exact List.take_nil
theorem cutD_to {l : List D} (k : Nat) : cutD l none (some (k : Int)) = l.take k := by
  unfold cutD
  rw [HT.sIx_none, HT.sIx_nat, List.drop_zero, Nat.sub_zero]
  by_cases h : k ≤ l.length
  · rw [Nat.min_eq_left h]
  · rw [Nat.min_eq_right (by omega), List.take_of_length_le (Nat.le_refl _), List.take_of_length_le (by omega)]
theorem cutD_both {l : List D} (j k : Nat) (h : j ≤ k) : cutD l (some (j : Int)) (some (k : Int)) = (l.drop j).take (k - j) := by
  unfold cutD
  rw [HT.sIx_nat, HT.sIx_nat]
  by_cases h1 : j ≤ l.length
  · rw [Nat.min_eq_left h1]
    by_cases h2 : k ≤ l.length
    · rw [Nat.min_eq_left h2]
    · rw [Nat.min_eq_right (by omega), List.take_of_length_le (by rw [List.length_drop]; omega), List.take_of_length_le (by rw [List.length_drop]; omega)]
  · rw [Nat.min_eq_right (show l.length ≤ j by omega), Nat.min_eq_right (by omega), List.drop_eq_nil_of_le (show l.length ≤ j by omega), List.drop_eq_nil_of_le (Nat.le_refl _)]
    simp
theorem cutD_but1 {l : List D} : cutD l none (some (-1)) = l.take (l.length - 1) := by
  unfold cutD
  rw [HT.sIx_none, List.drop_zero, Nat.sub_zero]
  have e : HT.sIx l.length l.length (some (-1)) = l.length - 1 := by
    show (if (-1 : Int) < 0 then ((-1 : Int) + (l.length : Int)).toNat else min (-1 : Int).toNat l.length) = _
    rw [if_pos (by decide)]
    omega
  rw [e]
theorem atI_last {α : Type} {l : List α} {x : α} (h : l[l.length - 1]? = some x) : atI l (-1) = some x := by
  have hl : 0 < l.length := by
    have := (List.getElem?_eq_some_iff.mp h).1
    omega
  unfold atI
  rw [← h]
  have e : ixN l.length (-1) = some (l.length - 1) := by
    unfold ixN
    rw [if_neg (by decide), if_pos (by omega)]
    congr 1
    omega
  rw [e]
  rfl
theorem zipL_mem : ∀ {l m : List D} {d : D}, d ∈ zipL l m → ∃ (i : Nat) (x y : D), l[i]? = some x ∧ m[i]? = some y ∧ d = .tup [x, y]
  | [], _, _, h => by simp [zipL] at h
  | _ :: _, [], _, h => by simp [zipL] at h
  | x :: l, y :: m, d, h => by
    rcases List.mem_cons.mp (show d ∈ .tup [x, y] :: zipL l m from h) with e | e
    · exact ⟨0, x, y, rfl, rfl, e⟩
    · obtain ⟨i, a, b, h1, h2, h3⟩ := zipL_mem e
      exact ⟨i + 1, a, b, h1, h2, h3⟩
theorem rangeL_succ (lo : Int) (n : Nat) : rangeL lo (n + 1) = .int lo :: rangeL (lo + 1) n := by
  unfold rangeL
  rw [List.range_succ_eq_map, List.map_cons, List.map_map]
  congr 1
  · simp
  · refine List.map_congr_left fun k _ => ?_
    show D.int (lo + ((k + 1 : Nat) : Int)) = D.int (lo + 1 + (k : Int))
    congr 1
    omega
/-! numbers as data; == -/
abbrev nD (n : Nat) : D := .int (n : Nat)
theorem map_nD (S : List Nat) : S.map nD = (S.map fun n : Nat => (n : Int)).map D.int := by rw [List.map_map]; rfl
theorem at_map {α : Type} {f : α → D} {S : List α} {i : Nat} (h : i < S.length) : atI (S.map f) (i : Int) = some (f S[i]) := by
  refine atI_nat ?_
  rw [List.getElem?_map, List.getElem?_eq_getElem h]
  rfl
theorem intsOf_nD (o : List Nat) : intsOf (o.map nD) = some (o.map fun n : Nat => (n : Int)) := by
  have := ints_of (o.map fun n : Nat => (n : Int))
  rw [List.map_map] at this
  exact this
theorem sum_nD (o : List Nat) : (o.map fun n : Nat => (n : Int)).sum = ((o.sum : Nat) : Int) := by
  induction o with
  | nil => rfl
  | cons n o ih => rw [List.map_cons, List.sum_cons, List.sum_cons, ih]; omega
theorem noLstL_map {α : Type} {f : α → D} : ∀ {l : List α}, (∀ x ∈ l, noLst (f x) = true) → noLstL (l.map f) = true
  | [], _ => rfl
  | x :: l, h => by
    show (noLst (f x) && noLstL (l.map f)) = true
    rw [h x List.mem_cons_self, noLstL_map fun y hy => h y (List.mem_cons_of_mem _ hy)]
    rfl
theorem pyDL_map {α : Type} {f : α → D} {n : Nat} : ∀ {l : List α}, (∀ x ∈ l, pyD n (f x) = true) → pyDL n (l.map f) = true
  | [], _ => by unfold pyDL; rfl
  | x :: l, h => by
    rw [List.map_cons]
    unfold pyDL
    rw [h x List.mem_cons_self, pyDL_map fun y hy => h y (List.mem_cons_of_mem _ hy)]
    rfl
theorem pyDL_of {n : Nat} : ∀ {l : List D}, (∀ x ∈ l, pyD n x = true) → pyDL n l = true
  | [], _ => by unfold pyDL; rfl
  | x :: l, h => by
    unfold pyDL
    rw [h x List.mem_cons_self, pyDL_of fun y hy => h y (List.mem_cons_of_mem _ hy)]
    rfl
theorem pyD_int {n : Nat} {i : Int} : pyD n (.int i) = true := by unfold pyD; rfl
theorem pyD_non {n : Nat} : pyD n .non = true := by unfold pyD; rfl
theorem pyD_bl {n : Nat} {b : Bool} : pyD n (.bl b) = true := by unfold pyD; rfl
theorem eqvDL_nil (l : List D) : eqvDL l [] = l.isEmpty := by
  cases l <;> rfl
mutual
theorem eqvD_refl : ∀ {n : Nat} {d : D}, pyD n d = true → eqvD d d = true
  | _, .non, _ => rfl
  | _, .int i, _ => by simp [eqvD]
  | _, .bl i, _ => by simp [eqvD]
  | _, .str x, h => by simp [eqvD]
  | n + 1, .tup l, h => by
    unfold pyD at h
    unfold eqvD
    exact eqvDL_refl h
  | n + 1, .lst l, h => by
    unfold pyD at h
    unfold eqvD
    exact eqvDL_refl h
  | 0, .tup l, h => by simp [pyD] at h
  | 0, .lst l, h => by simp [pyD] at h
  | _, .ty _, h => by simp [pyD] at h
  | _, .rf _, h => by simp [pyD] at h
  | _, .pot, h => by simp [pyD] at h
  | _, .scr _, h => by simp [pyD] at h
  | _, .lam .., h => by simp [pyD] at h
  | _, .exc .., h => by simp [pyD] at h
  | _, .clo .., h => by simp [pyD] at h
  | _, .dic _, h => by simp [pyD] at h
theorem eqvDL_refl : ∀ {n : Nat} {l : List D}, pyDL n l = true → eqvDL l l = true
  | _, [], _ => rfl
  | n, d :: l, h => by
    unfold pyDL at h
    obtain ⟨h1, h2⟩ := Bool.and_eq_true_iff.mp h
    unfold eqvDL
    rw [eqvD_refl h1, eqvDL_refl h2]
    rfl
end
mutual
/-- no bools within -/
def nbD : D → Bool
  | .non => true
  | .int _ => true
  | .str _ => true
  | .tup l => nbDL l
  | .lst l => nbDL l
  | _ => false
def nbDL : List D → Bool
  | [] => true
  | d :: l => nbD d && nbDL l
end
mutual
theorem eqvD_iff : ∀ {x y : D}, nbD x = true → nbD y = true → (eqvD x y = true ↔ x = y)
  | .non, y, _, hy => by cases y <;> simp [nbD, eqvD] at hy ⊢
  | .int i, y, _, hy => by cases y <;> simp [nbD, eqvD] at hy ⊢
  | .str i, y, _, hy => by cases y <;> simp [nbD, eqvD] at hy ⊢
  | .tup l, y, hx, hy => by
    cases y with
    | tup m =>
      unfold nbD at hx hy
      unfold eqvD
      rw [eqvDL_iff hx hy, D.tup.injEq]
    | _ => simp [nbD, eqvD] at hy ⊢
  | .lst l, y, hx, hy => by
    cases y with
    | lst m =>
      unfold nbD at hx hy
      unfold eqvD
      rw [eqvDL_iff hx hy, D.lst.injEq]
    | _ => simp [nbD, eqvD] at hy ⊢
  | .bl _, _, h, _ => by simp [nbD] at h
  | .ty _, _, h, _ => by simp [nbD] at h
  | .rf _, _, h, _ => by simp [nbD] at h
  | .pot, _, h, _ => by simp [nbD] at h
  | .scr _, _, h, _ => by simp [nbD] at h
  | .lam .., _, h, _ => by simp [nbD] at h
  | .exc .., _, h, _ => by simp [nbD] at h
  | .clo .., _, h, _ => by simp [nbD] at h
  | .dic _, _, h, _ => by simp [nbD] at h
  | .dct _ _, _, h, _ => by simp [nbD] at h
theorem eqvDL_iff : ∀ {l m : List D}, nbDL l = true → nbDL m = true → (eqvDL l m = true ↔ l = m)
  | [], [], _, _ => by simp [eqvDL]
  | [], _ :: _, _, _ => by simp [eqvDL]
  | _ :: _, [], _, _ => by simp [eqvDL]
  | x :: l, y :: m, hx, hy => by
    unfold nbDL at hx hy
    obtain ⟨h1, h2⟩ := Bool.and_eq_true_iff.mp hx
    obtain ⟨g1, g2⟩ := Bool.and_eq_true_iff.mp hy
    unfold eqvDL
    rw [Bool.and_eq_true, eqvD_iff h1 g1, eqvDL_iff h2 g2, List.cons.injEq]
end
theorem nbDL_map {α : Type} {f : α → D} : ∀ {l : List α}, (∀ x ∈ l, nbD (f x) = true) → nbDL (l.map f) = true
  | [], _ => by unfold nbDL; rfl
  | x :: l, h => by
    rw [List.map_cons]
    unfold nbDL
    rw [h x List.mem_cons_self, nbDL_map fun y hy => h y (List.mem_cons_of_mem _ hy)]
    rfl
open Classical in
theorem eqvD_dec {x y : D} (hx : nbD x = true) (hy : nbD y = true) : eqvD x y = decide (x = y) := by
  by_cases h : x = y
  · rw [decide_eq_true h]; exact (eqvD_iff hx hy).mpr h
  · rw [decide_eq_false h]
    cases e : eqvD x y with
    | false => rfl
    | true => exact absurd ((eqvD_iff hx hy).mp e) h
theorem rangeL_app (lo : Int) : ∀ (a b : Nat), rangeL lo (a + b) = rangeL lo a ++ rangeL (lo + a) b
  | 0, b => by rw [Nat.zero_add]; show _ = rangeL (lo + ((0 : Nat) : Int)) b; rw [show lo + ((0 : Nat) : Int) = lo by omega]
  | a + 1, b => by
    rw [show a + 1 + b = (a + b) + 1 by omega, rangeL_succ, rangeL_succ, rangeL_app (lo + 1) a b, show lo + 1 + (a : Int) = lo + ((a + 1 : Nat) : Int) by omega]
    rfl
theorem mem_rangeL {lo : Int} {n : Nat} {d : D} (h : d ∈ rangeL lo n) : ∃ k : Nat, k < n ∧ d = .int (lo + k) := by
  obtain ⟨k, hk, rfl⟩ := List.mem_map.mp h
  exact ⟨k, List.mem_range.mp hk, rfl⟩
theorem atI_lastD {l : List D} (h : l ≠ []) : ∃ x ∈ l, atI l (-1) = some x := by
  have hl := List.length_pos_iff.mpr h
  exact ⟨l[l.length - 1], List.getElem_mem _, atI_last (List.getElem?_eq_getElem (by omega))⟩
theorem mem_enumL : ∀ {n : Nat} {l : List D} {d : D}, d ∈ enumL n l → ∃ (i : Nat) (x : D), l[i]? = some x ∧ d = .tup [.int ((n + i : Nat) : Int), x]
  | _, [], _, h => by cases h
  | n, x :: l, d, h => by
    rcases List.mem_cons.mp (show d ∈ .tup [.int n, x] :: enumL (n + 1) l from h) with e | e
    · exact ⟨0, x, rfl, e⟩
    · obtain ⟨i, y, h1, h2⟩ := mem_enumL e
      exact ⟨i + 1, y, h1, by rw [h2, show n + 1 + i = n + (i + 1) by omega]⟩
@[simp] theorem atI_0 {α : Type} (x : α) (l : List α) : atI (x :: l) 0 = some x := atI_nat (j := 0) rfl
@[simp] theorem atI_1 {α : Type} (x y : α) (l : List α) : atI (x :: y :: l) 1 = some y := atI_nat (j := 1) rfl
@[simp] theorem atI_2 {α : Type} (x y z : α) (l : List α) : atI (x :: y :: z :: l) 2 = some z := atI_nat (j := 2) rfl
@[simp] theorem atI_3 {α : Type} (x y z u : α) (l : List α) : atI (x :: y :: z :: u :: l) 3 = some u := atI_nat (j := 3) rfl
end L3

set_option maxHeartbeats 2000000
/-! L3, sorted by a lambda's keys. -/
namespace L3
open PySem PySem.Spec PyProof.Rows L2
/-! ### reading data off a heap -/
mutual
theorem reads_nil {h : Heap} : ∀ (d : D) {p : PyData} {u : Value} {as : List Addr}, noLst d = true → toPy d = some p → Reads h u p as → as = []
  | .non, _, _, _, _, e, r => by cases e; cases r; rfl
  | .bl _, _, _, _, _, e, r => by cases e; cases r; rfl
  | .int _, _, _, _, _, e, r => by cases e; cases r; rfl
  | .str _, _, _, _, _, e, r => by cases e; cases r; rfl
  | .ty _, _, _, _, _, e, _ => by cases e
  | .rf _, _, _, _, _, e, _ => by cases e
  | .lam .., _, _, _, _, e, _ => by cases e
  | .exc .., _, _, _, _, e, _ => by cases e
  | .clo .., _, _, _, _, e, _ => by cases e
  | .dic _, _, _, _, _, e, _ => by cases e
  | .dct _ _, _, _, _, _, e, _ => by cases e
  | .pot, _, _, _, _, e, _ => by cases e
  | .scr _, _, _, _, _, e, _ => by cases e
  | .lst _, _, _, _, n, _, _ => by simp [noLst] at n
  | .tup l, _, _, _, n, e, r => by
    unfold toPy at e
    cases q : toPyL l with
    | none => rw [q] at e; cases e
    | some ps =>
      rw [q] at e
      cases e
      cases r with
      | tuple _ _ _ ra => exact readsL_nil l (by simpa [noLst] using n) q ra
theorem readsL_nil {h : Heap} : ∀ (l : List D) {ps : List PyData} {us : List Value} {as : List Addr}, noLstL l = true → toPyL l = some ps → ReadsAll h us ps as → as = []
  | [], _, _, _, _, e, r => by unfold toPyL at e; cases e; cases r; rfl
  | d :: l, _, _, _, n, e, r => by
    unfold toPyL at e
    have n' : noLst d = true ∧ noLstL l = true := by simpa [noLstL] using n
    split at e
    · rename_i e1 e2
      cases e
      cases r with
      | cons r1 r2 =>
        rw [reads_nil d n'.1 e1 r1, readsL_nil l n'.2 e2 r2]
        rfl
    · cases e
end
/-! ### expressions that only read: from any heap that has h0 in it -/
section
variable {prog : Program} {w : World} {A : Around} {env : Env} {h0 : Heap}
def Up (h h' : Heap) : Prop := ∀ b o, h.get? b = some o → h'.get? b = some o
def PV (prog : Program) (w : World) (A : Around) (env : Env) (h0 : Heap) (e : Expr) (d : PyData) : Prop := ∀ (s : Shared), Up h0 s.heap → ∀ (Q E : Value → Shared → Prop),
  (∀ v h' tk, Up s.heap h' → Reads h' v d [] → Q v { s with heap := h', toks := tk }) → wpAny (model prog w) A (eval e env) Q E s
theorem pv_local {x : Str} {pos : Pos} {m : Str → Option Value} {u : Value} {d : PyData} (hk : env.scope.kind = .function) (hl : env.kindOf x = some .local) (hn : h0.Ns env.locals m) (hv : m x = some u) (hr : Reads h0 u d []) (hd : (x == ("__debug__" : Str)) = false := by decide) : PV prog w A env h0 (.Name x pos) d :=
  fun s k Q E q => wpAny_Name (wpAny_loadName_local hk hl (hn.keeps k) hv (q u s.heap s.toks (fun _ _ e => e) (PyProof.Rows.Reads.keeps k hr))) hd
theorem pv_free {x : Str} {pos : Pos} {c : Addr} {u : Value} {d : PyData} (hk : env.scope.kind = .function) (hl : env.kindOf x = some .free) (hc : env.cells.lookup x = some c) (hv : h0.IsCell c (some u)) (hr : Reads h0 u d []) (hd : (x == ("__debug__" : Str)) = false := by decide) (hcd : (x == ("__classdict__" : Str)) = false := by decide) : PV prog w A env h0 (.Name x pos) d :=
  fun s k Q E q => wpAny_Name (wpAny_loadName_free hk hl hc (let ⟨o, ho, hd⟩ := hv; ⟨o, k _ _ ho, hd⟩) (q u s.heap s.toks (fun _ _ e => e) (PyProof.Rows.Reads.keeps k hr)) hcd) hd
theorem pv_int {i : Int} {j : Nat} {pos : Pos} : PV prog w A env h0 (.Constant (.int i) j pos) (.int i) := fun s k Q E q => wpAny_Constant_int (q _ s.heap _ (fun _ _ e => e) (.int i _))
theorem pv_neg {e : Expr} {pos : Pos} {i : Int} (h : PV prog w A env h0 e (.int i)) : PV prog w A env h0 (.UnaryOp .USub e pos) (.int (-i)) := fun s k Q E q =>
  UnaryOp_ (h s k _ _ fun v h' tk k' r => by
    cases r
    exact PyProof.Rows.neg_int (q _ h' _ k' (.int _ _)))
theorem rd_len3 {h : Heap} : ∀ {us : List Value} {ps : List PyData} {as : List Addr}, ReadsAll h us ps as → us.length = ps.length
  | _, _, _, .nil => rfl
  | _, _, _, .cons _ r => by rw [List.length_cons, List.length_cons, rd_len3 r]
theorem rd_at3 {h : Heap} : ∀ {us : List Value} {ps : List PyData} {as : List Addr} {n : Nat} {d : PyData}, ReadsAll h us ps as → as = [] → ps[n]? = some d → ∃ u, us[n]? = some u ∧ Reads h u d []
  | _, _, _, n, d, .nil, _, e => by simp at e
  | u :: us, p :: ps, _, n, d, .cons r1 r2, z, e => by
    obtain ⟨z1, z2⟩ := List.append_eq_nil_iff.mp z
    cases n with
    | zero =>
      cases (show some p = some d from e)
      exact ⟨u, rfl, z1 ▸ r1⟩
    | succ n =>
      obtain ⟨u', h2, h3⟩ := rd_at3 r2 z2 (n := n) (d := d) (show ps[n]? = some d from e)
      exact ⟨u', h2, h3⟩
theorem rd_ix3 {h : Heap} {us : List Value} {ps : List PyData} {n : Nat} {d : PyData} (r : ReadsAll h us ps []) (e : ps[n]? = some d) : us.length = ps.length ∧ ∃ u, us[n]? = some u ∧ Reads h u d [] := ⟨rd_len3 r, rd_at3 r rfl e⟩
theorem pv_ix {a b : Expr} {pos : Pos} {ds : List PyData} {i : Int} {d : PyData} (ha : PV prog w A env h0 a (.tuple ds)) (hb : PV prog w A env h0 b (.int i)) (hl : ds.length < 2 ^ 63) (hi : atI ds i = some d)
    (hs : ∀ t u, subscripted b false (.ref t) (.int i u) = operate [.ref t, .int i u] (getItem (.ref t) (.int i u)) := by intro _ _; with_unfolding_all rfl) : PV prog w A env h0 (.Subscript a b pos) d := fun s k Q E q => by
  refine Subscript_ (ha s k _ _ fun v h1 t1 k1 r1 => ?_)
  refine hb { s with heap := h1, toks := t1 } (fun b o e => k1 b o (k b o e)) _ _ fun u h2 t2 k2 r2 => ?_
  cases r2
  have r3 := PyProof.Rows.Reads.keeps k2 r1
  cases r3 with
  | tuple ho hc hd ra =>
    rename_i o vs n
    obtain ⟨j, h3, h4, h5, h6, h7⟩ := atI_get hi
    obtain ⟨hlen, x, hx, rx⟩ := rd_ix3 ra h4
    have ht : IsTup h2 _ vs := ⟨_, ho, hc, _, hd⟩
    exact tail_any (s := { s with heap := h2, toks := t2 }) (ops := [.ref _, .int i _]) ht.typeIs PyProof.Rows.slot_tuple_getitem.lookup (PyProof.Rows.getItem_tuple ht (by omega) (by omega) (by rw [← Array.length_toList, hlen]; exact h3) (by rw [← Array.getElem?_toList]; exact hx) (q x h2 t2 (fun b o e => k2 b o (k1 b o e)) rx)) (hs _ _)
theorem pv_pair {a b : Expr} {k : Nat} {pos : Pos} {c d : PyData} (ha : PV prog w A env h0 a c) (hb : PV prog w A env h0 b d) (hs : starEach [a, b] env = (false, eval a env) :: starEach [b] env := by rfl) (hs2 : starEach [b] env = (false, eval b env) :: starEach [] env := by rfl) : PV prog w A env h0 (.Tuple [a, b] k pos) (.tuple [c, d]) := fun s kk Q E q => by
  refine wpAny_Tuple_spliced ?_
  rw [hs, hs2]
  refine Calls.spliced_cons (ha s kk _ _ fun v h1 t1 k1 r1 => ?_)
  refine Calls.spliced_cons (hb { s with heap := h1, toks := t1 } (fun b o e => k1 b o (kk b o e)) _ _ fun u h2 t2 k2 r2 => ?_)
  refine Calls.spliced_nil ⟨by show 2 ≤ sizeLine; decide, ?_⟩
  have k3 : Up h2 (h2.push { cls := .type "tuple", data := .seq [v, u].toArray }) := fun b o e => Heap.get?_push_of_some _ e
  refine q _ _ t2 (fun b o e => k3 b o (k2 b o (k1 b o e))) ?_
  have ra : ReadsAll (h2.push { cls := .type "tuple", data := .seq [v, u].toArray }) [v, u] [c, d] ([] ++ ([] ++ [])) := .cons (PyProof.Rows.Reads.keeps (fun b o e => k3 b o (k2 b o e)) r1) (.cons (PyProof.Rows.Reads.keeps k3 r2) .nil)
  exact .tuple (Heap.get?_push_size _ rfl) rfl rfl ra
end
/-! ### keys over data -/
abbrev FK := Rho → Option PyData
def pyOf (d : D) : Option PyData := if noLst d = true then toPy d else none
def kVar (i : Nat) : FK := fun ρ => (get3 ρ i).bind pyOf
def kInt (i : Int) : FK := fun _ => some (.int i)
def kNeg (k : FK) : FK := fun ρ => match k ρ with | some (.int i) => some (.int (-i)) | _ => none
def kIx (a b : FK) : FK := fun ρ => match a ρ, b ρ with | some (.tuple ds), some (.int i) => (if ds.length ≤ 16777216 then atI ds i else none) | _, _ => none
def kPair (a b : FK) : FK := fun ρ => match a ρ, b ρ with | some c, some d => some (.tuple [c, d]) | _, _ => none
/-- what the names are worth at h0 -/
def NR (N : List Str) (scope : Scope) (cl : List (Str × Addr)) (L : Addr) (h0 : Heap) (ρ : Rho) : Prop := ∀ i y d p, N[i]? = some y → get3 ρ i = some d → pyOf d = some p →
  (scope.names.lookup y = some .local → ∃ m u, h0.Ns L m ∧ m y = some u ∧ Reads h0 u p []) ∧ (scope.names.lookup y = some .free → ∃ c u, cl.lookup y = some c ∧ h0.IsCell c (some u) ∧ Reads h0 u p [])
def KX (X : Cx) (N2 : List Str) (scope : Scope) (h : Str) (e : Expr) (k : FK) : Prop := ∀ (A : Around) (L f c' : Addr) (h0 : Heap) (ρ : Rho) (d : PyData), scope.kind = .function → NR (N2 ++ [h]) scope (cloFrom X.env.cells scope.names []) L h0 ρ → k ρ = some d → PV X.prog X.w A (LamX.lamEnv X scope L f c') h0 e d
section
variable {X : Cx} {N2 : List Str} {scope : Scope} {h : Str} {a b : Expr} {ka kb : FK} {pos : Pos}
theorem kx_var (i : Nat) {x : Str} (hN : (N2 ++ [h])[i]? = some x := by rfl) (hv : scope.names.lookup x = some .local ∨ scope.names.lookup x = some .free := by first | exact .inl rfl | exact .inr rfl) (hd : (x == ("__debug__" : Str)) = false := by decide) (hcd : (x == ("__classdict__" : Str)) = false := by decide) : KX X N2 scope h (.Name x pos) (kVar i) := by
  intro A L f c' h0 ρ d hk nr hkd
  unfold kVar at hkd
  obtain ⟨d0, e1, e2⟩ := Option.bind_eq_some_iff.mp hkd
  obtain ⟨n1, n2⟩ := nr i x d0 d hN e1 e2
  rcases hv with hv | hv
  · obtain ⟨m, u, g1, g2, g3⟩ := n1 hv
    exact pv_local hk hv g1 g2 g3 hd
  · obtain ⟨c, u, g1, g2, g3⟩ := n2 hv
    exact pv_free hk hv g1 g2 g3 hd hcd
theorem kx_int {i : Int} {j : Nat} : KX X N2 scope h (.Constant (.int i) j pos) (kInt i) := by
  intro A L f c' h0 ρ d hk nr hkd
  cases hkd
  exact pv_int
theorem kx_neg (ha : KX X N2 scope h a ka) : KX X N2 scope h (.UnaryOp .USub a pos) (kNeg ka) := by
  intro A L f c' h0 ρ d hk nr hkd
  unfold kNeg at hkd
  split at hkd
  · rename_i i e
    cases hkd
    exact pv_neg (ha A L f c' h0 ρ _ hk nr e)
  · cases hkd
theorem kx_ix (ha : KX X N2 scope h a ka) (hb : KX X N2 scope h b kb) (hs : ∀ t i u, subscripted b false (.ref t) (.int i u) = operate [.ref t, .int i u] (getItem (.ref t) (.int i u)) := by intro _ _ _; with_unfolding_all rfl) :
    KX X N2 scope h (.Subscript a b pos) (kIx ka kb) := by
  intro A L f c' h0 ρ d hk nr hkd
  unfold kIx at hkd
  split at hkd
  · rename_i ds i e1 e2
    split at hkd
    · exact pv_ix (ha A L f c' h0 ρ _ hk nr e1) (hb A L f c' h0 ρ _ hk nr e2) (by omega) hkd (fun t u => hs t i u)
    · cases hkd
  · cases hkd
theorem kx_pair {n : Nat} (ha : KX X N2 scope h a ka) (hb : KX X N2 scope h b kb) (hs : ∀ env, starEach [a, b] env = (false, eval a env) :: starEach [b] env := by intro _; rfl) (hs2 : ∀ env, starEach [b] env = (false, eval b env) :: starEach [] env := by intro _; rfl) : KX X N2 scope h (.Tuple [a, b] n pos) (kPair ka kb) := by
  intro A L f c' h0 ρ d hk nr hkd
  unfold kPair at hkd
  split at hkd
  · rename_i c d' e1 e2
    cases hkd
    exact pv_pair (ha A L f c' h0 ρ _ hk nr e1) (hb A L f c' h0 ρ _ hk nr e2) (hs _) (hs2 _)
  · cases hkd
/-- the lambda called on one item: the heap grows, the key is read -/
theorem key_run {pins : List (Addr × Obj)} {σ : L2.St} {H : Hp} {s : Shared} {f c' : Addr} {pm ctv : Value} {params : Arguments} {body : Expr} {k : FK} {p : Pn} {c : Nat} {ρ : Rho} {F : Hp} {A : Around} {d : D} {v : V} {u : Value} {q : PyData}
    (I : Inv X ((f, lamO X params body scope pm ctv c') :: pins) σ H s) (L : LamS1 X.env.scope scope h) (hnew : Mask scope h X.N N2) (est : ESt X.K p c ρ σ F H) (hco : H c' = some (LamX.CodeO c' (X.env.qual ++ "<lambda>")))
    (hbind : ∀ u : Value, bindArgs (PySem.W.kla_fn "<lambda>" (X.env.qual ++ "<lambda>") params body scope (cloFrom X.env.cells scope.names []) pm (.ref c') ctv) ⟨[u], []⟩ = pure [(h, u)])
    (hroom : A.depth < recursionLimit) (kx : KX X N2 scope h body k) (rd : Rep X.K p F d v) (rv : RelV v u) (nl : noLst d = true) (hkd : k (ρ ++ [some d]) = some q) {pd : PyData} (hpd : toPy d = some pd) (g : Heap) (tk : Nat) (up : Up s.heap g) :
    wpAny (model X.prog X.w) A (call (.ref f) [u]) (PySem.W.KeyPure q { s with heap := g, toks := tk }) (fun _ _ => False) { s with heap := g, toks := tk } := by
  obtain ⟨q1, q2, q3, q4, q5⟩ := I.pin (f, lamO X params body scope pm ctv c') (List.mem_append_right _ List.mem_cons_self)
  obtain ⟨⟨oc, vs, t, hoc, hdc, hvc⟩, _, _⟩ := I.hok c' _ hco
  have hasC : ∀ y ∈ scope.names, y.2 = .free → ∃ c, X.env.cells.lookup y.1 = some c := fun y hy e => (L.free y hy e).elim (fun k => I.ok.has _ (.inl k)) (fun k => I.ok.has _ (.inr k))
  have rc : codeAny (model X.prog X.w) A (.call (.ref f) ⟨[u], []⟩) (fun r s'' => match r with | .ok (.ret v) => PySem.W.KeyPure q { s with heap := g, toks := tk } v s'' | _ => False) { s with heap := g, toks := tk } := by
    refine PySem.W.kla_callFunE hroom (up _ _ q1) rfl L.co L.gen rfl ⟨c', oc, vs, t, rfl, up _ _ hoc, hdc, hvc⟩ ?_
    rw [hbind]
    refine wpAny_pure (wpAny_newFunctionEnv (fun y hy => (L.own y hy).1) (fun y hy => ?_) (fun h₁ hns hsb => ⟨(I.nolimit.keeps up).fresh _ hsb, ?_⟩) L.kind)
    · rcases List.mem_cons.mp hy with z | z
      · rw [z]; exact L.par
      · exact absurd z (by simp)
    show codeAny _ _ (.expr body (LamX.lamEnv X scope g.objs.size f c')) _ _
    have kp : Up g h₁ := fun b o e => hsb.extBut b o (Nat.ne_of_lt (Heap.lt_size e)) (Heap.get?_push_of_some _ e)
    have kp0 : Up s.heap h₁ := fun b o e => kp b o (up b o e)
    have nr : NR (N2 ++ [h]) scope (cloFrom X.env.cells scope.names []) g.objs.size h₁ (ρ ++ [some d]) := by
      intro i y d' p' hN hg hp
      have hp' : noLst d' = true ∧ toPy d' = some p' := by
        unfold pyOf at hp
        split at hp
        · exact ⟨by assumption, hp⟩
        · cases hp
      by_cases hi : i < N2.length
      · rw [List.getElem?_append_left hi] at hN
        have hl : ρ.length = N2.length := (est.len.trans I.len).trans hnew.len.symm
        have hg' : get3 ρ i = some d' := by
          rcases get3_snoc hg with z | ⟨z, _⟩
          · exact z
          · omega
        obtain ⟨v', e1, r'⟩ := est.slot i d' hg'
        refine ⟨fun hl => absurd ((L.own _ (PySem.mem_of_lookup hl)).2 rfl) (hnew.at_ i y hN (.inl hl)).2, fun hf => ?_⟩
        have hN := (hnew.at_ i y hN (.inr (.inr hf))).1
        obtain ⟨m, hn, hlk⟩ := I.loc
        have hvis : Vis X.env.scope y := (L.free _ (PySem.mem_of_lookup hf) rfl).elim (fun k => .inr (.inl k)) (fun k => .inr (.inr k))
        obtain ⟨w', rw', lk⟩ := hlk i y v' hN e1 hvis
        obtain ⟨as, ra⟩ := Dp.reads I _ _ _ (r'.dp est.ok.sub hp'.2) rw'
        have z := reads_nil d' hp'.1 hp'.2 ra
        subst z
        have hcl : ∃ c2, (cloFrom X.env.cells scope.names []).lookup y = some c2 ∧ X.env.cells.lookup y = some c2 := by
          obtain ⟨c2, h2⟩ := mem_lookup (cloFrom_has (cells := X.env.cells) (acc := []) (PySem.mem_of_lookup hf))
          refine ⟨c2, h2, ?_⟩
          rcases cloFrom_mem (PySem.mem_of_lookup h2) with hm | ⟨x1, x2⟩
          · cases hm
          · obtain ⟨c1, hc⟩ := hasC _ x1 rfl
            simp only at hc x2
            rw [hc] at x2
            rw [x2]
            exact hc
        obtain ⟨c2, h2, h3⟩ := hcl
        rcases lk with ⟨k', _⟩ | ⟨_, c3, e', ⟨o, ho, hd⟩⟩
        · have k' : X.env.scope.names.lookup y = some .local := k'
          rcases L.free _ (PySem.mem_of_lookup hf) rfl with k2 | k2 <;> rw [show X.env.scope.names.lookup y = _ from k2] at k' <;> cases k'
        · rw [h3] at e'
          cases e'
          exact ⟨c2, w', h2, ⟨o, kp0 _ _ ho, hd⟩, PyProof.Rows.Reads.keeps kp0 ra⟩
      · have hi2 : i = N2.length := by
          have := (List.getElem?_eq_some_iff.mp hN).1
          rw [List.length_append, List.length_singleton] at this
          omega
        subst hi2
        rw [List.getElem?_append_right (Nat.le_refl _), Nat.sub_self] at hN
        cases hN
        have hl : ρ.length = N2.length := (est.len.trans I.len).trans hnew.len.symm
        have hg' : d' = d := by
          rcases get3_snoc hg with z | ⟨_, z⟩
          · obtain ⟨v', e1, _⟩ := est.slot _ _ z
            have := (List.getElem?_eq_some_iff.mp e1).1
            rw [← est.len] at this
            omega
          · exact z
        subst hg'
        obtain ⟨as, ra⟩ := Dp.reads I _ _ _ (rd.dp est.ok.sub hp'.2) rv
        have z := reads_nil d' hp'.1 hp'.2 ra
        subst z
        refine ⟨fun _ => ⟨_, u, hns, ?_, PyProof.Rows.Reads.keeps kp0 ra⟩, fun hf => ?_⟩
        · show ([(h, u)] : List (Str × Value)).reverse.lookup h = some u
          simp
        · rw [L.par] at hf
          cases hf
    have pv := kx (A.deeper (LamX.lamEnv X scope g.objs.size f c')) g.objs.size f c' h₁ _ q L.kind nr hkd
    refine PySem.W.kla_codeExpr (pv { s with heap := h₁, toks := tk + ([(h, u)] : List (Str × Value)).length } (fun _ _ e => e) _ _ fun v h' tk' k' r => ?_)
    exact ⟨h', tk', rfl, fun b o e => k' b o (kp b o e), r⟩
  refine wpAny_call (codeAny_mono rc fun r s' hq => ?_)
  cases r with
  | error e => exact hq.elim
  | ok fl =>
    cases fl with
    | ret u => exact hq
    | next => exact hq.elim
    | brk => exact hq.elim
    | cont => exact hq.elim
end
/-- sorted(e, key=lambda h: ..) -/
def fSortK (fa : FE) (k : FK) : FL := fun ρ c Q => fa ρ c fun x c => match x with
  | .lst l => ∃ key : D → PyData, (∀ d ∈ l, noLst d = true ∧ (toPy d).isSome = true ∧ k (ρ ++ [some d]) = some (key d) ∧ (key d).depth ≤ 64) ∧ PySem.W.AllAlike (l.map key) ∧ PySem.W.Sortable (l.map key) ∧ l.length ≤ 16777216 ∧ Q (l.mergeSort (PySem.W.dataLe false key)) c
  | _ => False
def zipV : List D → List V → List (D × V)
  | d :: l, v :: vs => (d, v) :: zipV l vs
  | _, _ => []
theorem zipV_of {K : PySem.W.Frag} {p : Pn} {F : Hp} : ∀ {l : List D} {vs : List V}, RepL K p F l vs → (zipV l vs).map (·.1) = l ∧ (zipV l vs).map (·.2) = vs ∧ ∀ b ∈ zipV l vs, Rep K p F b.1 b.2
  | [], _, r => by
    cases r
    exact ⟨rfl, rfl, fun b h => by cases h⟩
  | d :: l, _, r => by
    obtain ⟨x, r', rfl, h1, h2⟩ := r
    obtain ⟨e1, e2, e3⟩ := zipV_of h2
    refine ⟨congrArg (d :: ·) e1, congrArg (x :: ·) e2, fun b h => ?_⟩
    rcases List.mem_cons.mp h with z | z
    · rw [z]; exact h1
    · exact e3 b z
theorem eachV : ∀ {bs : List (D × V)} {us : List Value}, Vals (bs.map (·.2)) us → PySem.W.EachIs (fun v (b : D × V) => RelV b.2 v) us bs
  | [], _, .nil => .nil
  | b :: bs, _, .cons r t => .cons r (eachV t)
theorem valsV : ∀ {bs : List (D × V)} {us : List Value}, PySem.W.EachIs (fun v (b : D × V) => RelV b.2 v) us bs → Vals (bs.map (·.2)) us
  | [], _, .nil => .nil
  | b :: bs, _, .cons r t => .cons r (valsV t)
theorem repV {K : PySem.W.Frag} {p : Pn} {F : Hp} : ∀ (bs : List (D × V)), (∀ b ∈ bs, Rep K p F b.1 b.2) → RepL K p F (bs.map (·.1)) (bs.map (·.2))
  | [], _ => rfl
  | b :: bs, h => ⟨_, _, rfl, h b List.mem_cons_self, repV bs fun x hx => h x (List.mem_cons_of_mem _ hx)⟩
section
variable {X : Cx} {e : Expr} {fa : FE} {k : FK} {h : Str} {N2 : List Str}
theorem boot_sorted3 : bootBuiltins "sorted" = some (.builtin "sorted") := by decide +kernel
theorem fx_sortK {c0 P : Addr} {params : Arguments} {body : Expr} {scope : Scope} {p1 lpos kpos pos : Pos} (hm : X.mg "sorted" = none) (ha : EX X e fa) (TB : LamX.TabB X.base X.mg c0 P) (hcode : X.env.code = .ref c0)
    (hmT : (P, X.env.qual ++ "<lambda>") ∈ tabs0) (hu : ∀ p ∈ tabs0, p.1 = P → p.2 = X.env.qual ++ "<lambda>") (hroom : X.A.depth < recursionLimit) (hun : X.A.units + 66 < cLine) (L : LamS1 X.env.scope scope h) (hnew : Mask scope h X.N N2) (hdef : defaultsOf params X.env = ([], []))
    (hbind : ∀ (cl : List (Str × Addr)) (pm cv ctv u : Value), bindArgs (PySem.W.kla_fn "<lambda>" (X.env.qual ++ "<lambda>") params body scope cl pm cv ctv) ⟨[u], []⟩ = pure [(h, u)])
    (kx : KX X N2 scope h body k) (hg : Gl X "sorted" := by rfl) (hs : starEach [e] X.env = (false, eval e X.env) :: starEach [] X.env := by rfl)
    (he : backTo pos (starEach [e] X.env) = (false, eval e X.env) :: backTo pos (starEach [] X.env) := by rfl) (hpl : (backTo pos (starEach [e] X.env)).any (·.1) = false := by rfl)
    (hkw : backToKw pos (keywordEach [⟨some "key", .Lambda params body scope lpos, kpos⟩] X.env) = [(some (Str.ofString "key"), do let v ← eval (.Lambda params body scope lpos) X.env; standAt pos; pure v)] := by rfl) :
    FX X (.Call (.Name "sorted" p1) [e] [⟨some "key", .Lambda params body scope lpos, kpos⟩] pos) (fSortK fa k) := by
  refine ⟨fun pins s σ H Q I ⟨p, c, ρ, F, Q', est, hq, t⟩ => ?_⟩
  refine wpAny_Call_Name_kw (ld_blt I hg hm boot_sorted3 ?_)
  refine PyProof.Rows.callWith_kw (thn ((pa_cons ha pa_nil hs).run pos pins s σ H (fun vs H1 => ∃ d c1 F1 v, vs = [v] ∧ Fwd p F H F1 H1 ∧ Ok3 p c1 F1 H1 ∧ Rep X.K p F1 d v ∧ (match d with
      | .lst l => ∃ key : D → PyData, (∀ d ∈ l, noLst d = true ∧ (toPy d).isSome = true ∧ k (ρ ++ [some d]) = some (key d) ∧ (key d).depth ≤ 64) ∧ PySem.W.AllAlike (l.map key) ∧ PySem.W.Sortable (l.map key) ∧ l.length ≤ 16777216 ∧ Q' (l.mergeSort (PySem.W.dataLe false key)) c1
      | _ => False)) I ⟨p, c, ρ, F, _, est, hq, fun d c1 v F1 H1 w1 ok1 r1 q1 => ⟨d, c1, F1, v, rfl, w1, ok1, r1, q1⟩⟩) fun us s1 ⟨vs, H1, I1, rv, d, c1, F1, v, ev, w1, ok1, r1, q1⟩ => ?_) he hpl (by rw [hkw]; rfl) (by rw [hkw]; rfl)
  subst ev
  rw [hkw]
  have hasC : ∀ y ∈ scope.names, y.2 = .free → ∃ c, X.env.cells.lookup y.1 = some c := fun y hy e => (L.free y hy e).elim (fun k => I.ok.has _ (.inl k)) (fun k => I.ok.has _ (.inr k))
  show wpAny _ _ (evalAll [do let v ← eval (.Lambda params body scope lpos) X.env; standAt pos; pure v]) _ _ s1
  refine wpAny_evalAll_cons (wpAny_bind (lam_made I1 TB hcode hmT hu ok1.tab.tabs hdef hasC fun f c' pm ctv H2 s2 I2 eN th T1 hco => wpAny_bind (wpAny_standAt (wpAny_pure (wpAny_evalAll_nil ?_)))))
  have w2 : Fwd p F1 H1 F1 H2 := ⟨fun _ _ z => z, fun b o z _ t => eN b o z t, fun _ _ z => .inl z, th⟩
  have ok2 : Ok3 p c1 F1 H2 := ⟨fun b o z => eN b o (ok1.sub b o z) (fun ps e => ok1.nt.t b ps (e ▸ z)), fun b z => by
      obtain ⟨⟨x, y, z, q, r⟩, nn⟩ := ok1.pot b z
      exact ⟨⟨x, y, z, eN _ _ q (fun _ z => nomatch z), r⟩, nn⟩, ⟨T1, fun q hq => eN _ _ (ok1.tab.cod q hq) LamX.codeO_ne⟩, ok1.nt⟩
  split at q1
  · rename_i l
    obtain ⟨key, hk, hal, hso, hlen, q1⟩ := q1
    obtain ⟨a, xs, rfl, h1, rl⟩ := r1
    obtain ⟨z1, z2, z3⟩ := zipV_of rl
    have est2 := est.fwd (w1.trans w2) ok2
    rw [Vals.ref1 rv]
    obtain ⟨its, rits, hl, hz⟩ := I2.list (.of (ok2.sub _ _ h1) : SqL X.K H2 a xs)
    have rits' : Vals ((zipV l xs).map (·.2)) its := by rw [z2]; exact rits
    have e := eachV rits'
    have ek : (zipV l xs).map (fun b => key b.1) = l.map key := by
      rw [← z1, List.map_map, z1]
      rfl
    show wpAny _ _ (call (.builtin "sorted") [.ref a] [(Str.ofString "key", .ref f)]) _ _ s2
    refine PySem.W.sorted_key_data (b := false) (fun b : D × V => key b.1) hl.isList e (by rw [ek]; exact hal) (by rw [ek]; exact hso) ?_ (fun b hb => ?_) (PyProof.Rows.ksk_s1 _ _) (fun _ => PyProof.Rows.ksk_l1 _ _) (fun _ => PyProof.Rows.ksk_t1 _ _) (fun u b ru hb g tk up => ?_) fun out cc h' tk up hfr hD hlo eo => ?_
    · have := congrArg List.length z1
      rw [List.length_map] at this
      rw [this, line16]
      exact hlen
    · have hb' : b.1 ∈ l := by rw [← z1]; exact List.mem_map.mpr ⟨b, hb, rfl⟩
      have := (hk _ hb').2.2.2
      omega
    · have hb' : b.1 ∈ l := by rw [← z1]; exact List.mem_map.mpr ⟨b, hb, rfl⟩
      obtain ⟨k1, k2, k3, _⟩ := hk _ hb'
      obtain ⟨pd, hpd⟩ := Option.isSome_iff_exists.mp k2
      exact key_run (A := X.A.in1.in1) I2 L hnew est2 hco (fun u => hbind _ _ _ _ u) hroom kx (z3 b hb) ru k1 k3 hpd g tk up
    · have ds : ((zipV l xs).mergeSort (PySem.W.dataLe false fun b => key b.1)).map (·.1) = l.mergeSort (PySem.W.dataLe false key) := by
        have q := List.map_mergeSort (f := fun b : D × V => b.1) (r := PySem.W.dataLe false fun b : D × V => key b.1) (s := PySem.W.dataLe false key) (l := zipV l xs) (fun _ _ _ _ => rfl)
        rw [z1] at q
        exact q
      have nH : H2 (s2.heap.objs.size + 1) = none := I2.hok.fresh (Nat.le_succ _)
      obtain ⟨w3, ok3, n1, n2, n3⟩ := layL (w1.trans w2) ok2 nH (((zipV l xs).mergeSort (PySem.W.dataLe false fun b => key b.1)).map (·.2))
      have J := I2.laid (t' := tk) (o := .lst (((zipV l xs).mergeSort (PySem.W.dataLe false fun b => key b.1)).map (·.2))) up (Nat.le_succ _) ⟨by
        rw [List.length_map, (List.mergeSort_perm _ _).length_eq]
        have := congrArg List.length z1
        rw [List.length_map] at this
        rw [this, line16]
        exact hlen, out, cc, valsV eo, hD⟩
      refine ⟨.ref _, _, pin_off J, rfl, ?_⟩
      refine t (l.mergeSort (PySem.W.dataLe false key)) c1 _ _ F1 _ w3 ok3 n1 n2 n3 upd_same ?_ q1
      rw [← ds]
      exact repV _ fun b hb => z3 b ((List.mergeSort_perm _ _).mem_iff.mp hb)
  · exact q1.elim
end
end L3

set_option maxHeartbeats 2000000
/-! L3, reversed tuples, sets counted, two new lists at once, += of ints. -/
namespace L3
open PySem PySem.Spec PyProof.Rows L2
section
variable {K : PySem.W.Frag} {X : Cx} {e a b : Expr} {es : List Expr} {fa fb : FE} {fr : FA} {f f2 : FL} {pos : Pos}
@[simp ↓] def revD : D → Nat → KD → Prop
  | .tup l, c, Q => Q (.tup l.reverse) c
  | _, _, _ => False
theorem RepL.rev {p : Pn} {F : Hp} : ∀ {l : List D} {xs : List V}, RepL K p F l xs → RepL K p F l.reverse xs.reverse
  | [], _, h => by cases h; exact rfl
  | d :: l, _, h => by
    obtain ⟨x, r, rfl, h1, h2⟩ := h
    rw [List.reverse_cons, List.reverse_cons]
    exact RepL.app (RepL.rev h2) ⟨x, [], rfl, h1, rfl⟩
theorem ex_rev {k : Nat} {p1 p2 p3 : Pos} (ha : EX X a fa) : EX X (.Subscript a (.Slice none none (some (.UnaryOp .USub (.Constant (.int 1) k p1) p2)) p3) pos) (eUn revD fa) := PE.imp (pe_revT ha) fun σ H Q ⟨p, c, ρ, F, Q', es, h, t⟩ =>
  ⟨p, c, ρ, F, _, es, h, fun d c1 v F1 H1 w1 ok1 r1 q1 => by
    unfold revD at q1
    split at q1
    · obtain ⟨b, xs, rfl, h1, rl⟩ := r1
      exact ⟨b, xs, rfl, ok1.sqT h1, tellNewT ok1 (t.fwd w1) rl.rev q1⟩
    · exact q1.elim⟩
/-! len(set(t)), t a tuple of ints -/
@[simp ↓] def lenSetD : D → Nat → KD → Prop
  | .tup l, c, Q => ∃ ns, intsOf l = some ns ∧ ns.length ≤ 4000 ∧ ∀ m : List Int, m.Nodup → (∀ k, k ∈ m ↔ k ∈ ns) → Q (.int m.length) c
  | _, _, _ => False
def tLenSetT (K : PySem.W.Frag) (ta : TE) : TE := fun σ H Q => ta σ H fun x H1 => ∃ (l : Addr) (ns : List Int), x = .ref l ∧ SqT K H1 l (ns.map V.int) ∧ ns.length ≤ 4000 ∧ ∀ m : List Int, m.Nodup → (∀ k, k ∈ m ↔ k ∈ ns) → Q (.int m.length) H1
theorem pe_lenSetT {ta : TE} {p p2 q : Pos} (hg : Gl X "len") (hm : X.mg "len" = none) (hg2 : Gl X "set") (hm2 : X.mg "set" = none) (ha : PE X a ta) (hc : X.calm = true := by rfl)
    (na : starEach [a] X.env = (false, eval a X.env) :: starEach [] X.env := by rfl) : PE X (.Call (.Name "len" p) [.Call (.Name "set" p2) [a] [] q] [] pos) (tLenSetT X.K ta) := by
  refine ⟨fun pins s σ H Q I h => ?_⟩
  refine Call_ (ld_blt I hg hm boot_len3 ?_)
  refine PyProof.Rows.callWith_builtin1 (PyProof.Rows.args_cons ?_ rfl) rfl rfl
  refine Call_ (ld_blt I hg2 hm2 (by decide +kernel : bootBuiltins "set" = some (.type "set")) ?_)
  refine PyProof.Rows.callWith_type1 (PyProof.Rows.args_cons (thn (ha.run pins s σ H _ I h) fun v s1 ⟨x, H1, I1, r1, q1⟩ => PyProof.Rows.args_nil ?_) na) na rfl
  obtain ⟨l, ns, rfl, hq, hl, q1⟩ := q1
  cases r1
  obtain ⟨its, r, pl, hz⟩ := I1.tuple hq
  have hi : IntsAre its.toArray.toList ns := by simpa using RZ.intsAre_vals r
  refine call_set_tupI ns (I1.ok.hd hc) (show s1.heap.IsTuple l its.toArray from pl) hi (by unfold scanBound; omega) fun h' tk c R1 hcn k => ?_
  refine PyProof.Rows.args_nil ?_
  obtain ⟨o, es, ep, t, ho, hex, hdt, g, nd, hm3, hb, hf, hn, hr, hl2⟩ := R1
  have I2 : Inv X pins σ H1 { s1 with heap := h', toks := tk } := I1.kept fun b o e => k b o e
  refine call_len_set ho hex hdt hf (by unfold scanBound at hb; omega) ⟨.int es.size, H1, I2.tok _, ⟨_, rfl⟩, ?_⟩
  have := q1 (es.toList.map keyOf) nd fun z => (hm3 z).symm.trans (decide_eq_true_iff)
  rw [List.length_map, Array.length_toList] at this
  exact this
theorem ex_lenSet {p p2 q : Pos} (hm : X.mg "len" = none) (hm2 : X.mg "set" = none) (ha : EX X a fa) (hg : Gl X "len" := by rfl) (hg2 : Gl X "set" := by rfl) (hc : X.calm = true := by rfl) (na : starEach [a] X.env = (false, eval a X.env) :: starEach [] X.env := by rfl) :
    EX X (.Call (.Name "len" p) [.Call (.Name "set" p2) [a] [] q] [] pos) (eUn lenSetD fa) := PE.imp (pe_lenSetT hg hm hg2 hm2 ha hc na) fun σ H Q ⟨p, c, ρ, F, Q', es, h, t⟩ =>
  ⟨p, c, ρ, F, _, es, h, fun d c1 v F1 H1 w1 ok1 r1 q1 => by
    unfold lenSetD at q1
    split at q1
    · obtain ⟨b, xs, rfl, h1, rl⟩ := r1
      obtain ⟨ns, e, hl, q⟩ := q1
      exact ⟨b, ns, rfl, by rw [← RepL.ints rl e]; exact ok1.sqT h1, hl, fun m h1 h2 => tellI ok1 (t.fwd w1) (q m h1 h2)⟩
    · exact q1.elim⟩
/-! += of ints -/
@[simp ↓] def addI : D → D → Nat → KD → Prop
  | .int i, .int j, c, Q => Q (.int (i + j)) c
  | _, _, _, _ => False
theorem iaddS : OpS K (rI0 fun i j => .int (i + j)) addI := by
  intro p c F H x y v u Q' Q ok rx ry h t
  unfold addI at h
  split at h
  · rename_i i j
    cases (show v = .int i from rx)
    cases (show u = .int j from ry)
    exact ⟨i, j, rfl, rfl, tellI ok t h⟩
  · exact h.elim
/-! two names at once, of new lists -/
@[simp ↓] def sParOO (i j : Nat) (f f2 : FL) : FS := fun E ρ c => f (ρ.map vA) c fun l c => f2 (ρ.map vA) c fun m c => E.nx ((ρ.set i (.own l)).set j (.own m)) c
theorem sx_parOO {i j : Nat} {x y : Str} {px py pt : Pos} {kt k2 pt2} (hc : X.calm = true) (hN : X.N.Nodup) (ha : FX X a f) (hb : FX X b f2) (hij : i ≠ j := by decide) (hi : X.N[i]? = some x := by rfl) (hj : X.N[j]? = some y := by rfl)
    (hx : X.env.scope.names.lookup x = some .local := by rfl) (hy : X.env.scope.names.lookup y = some .local := by rfl) (hw : swappedStores [.Tuple [.Name x px, .Name y py] kt pt] (.Tuple [a, b] k2 pt2) X.env = pure (some [x, y]) := by rfl)
    (hs : swapsWithSole [.Tuple [.Name x px, .Name y py] kt pt] (.Tuple [a, b] k2 pt2) pos.line X.env = pure false := by rfl) (hs1 : starEach [b] X.env = (false, eval b X.env) :: starEach [] X.env := by rfl) (hs2 : starEach [a, b] X.env = (false, eval a X.env) :: starEach [b] X.env := by rfl) :
    SX X (.Assign [.Tuple [.Name x px, .Name y py] kt pt] (.Tuple [a, b] k2 pt2) pos) (sParOO i j f f2) := by
  refine PS.imp (ps_par hc hN hi hj hij hx hy (pa_cons ha (pa_cons hb pa_nil hs1) hs2) hw hs) fun En σ H ⟨p, c, ρ, F, F0, H0, E, s, h, t⟩ => ?_
  refine ⟨p, c, _, F, _, s.e, h, fun l c1 q1 xs F1 H1 w1 ok1 n1 n2 n3 h1 r1 g1 => ?_⟩
  refine ⟨p, c1, _, F1, _, s.e.fwd w1 ok1, g1, fun m c2 q2 ys F2 H2 w2 ok2 m1 m2 m3 h2 r2 g2 => ?_⟩
  refine ⟨.ref q1, .ref q2, rfl, ?_⟩
  have k1 : H2 q1 = some (.lst xs) := w2.keep _ _ h1 n3 (fun _ z => nomatch z)
  have f1 : F2 q1 = none := by
    cases z : F2 q1 with
    | none => rfl
    | some o =>
      rcases w2.new q1 o z with y | y | ⟨q', y⟩
      · rw [n2] at y; cases y
      · rw [h1] at y; cases y
      · have y2 := ok2.sub q1 o z
        rw [k1] at y2
        exact absurd (y.symm.trans (Option.some.inj y2.symm)) codeO_lst
  have ne : q1 ≠ q2 := fun z => by rw [z, m1] at h1; cases h1
  have e1 : H0 q1 = none := s.ent.there q1 n1
  have e2 : H0 q2 = none := s.ent.there q2 (w1.there q2 m1)
  have own : ∀ (k : Nat) (z : List D), ρ[k]? = some (SV.own z) → ∃ b, σ[k]? = some (some (V.ref b)) ∧ ∃ u, H b = some (.lst u) := fun k z hk => by
    obtain ⟨b, u, g1, g2, _⟩ := s.own k z hk
    exact ⟨b, g1, u, g2⟩
  have s2 := (s.fwd (w1.trans w2) ok2).setOwn i k1 f1 e1 n3 (r1.mono w2.frz) fun k z hk hb => by
    obtain ⟨b, g1, u, g2⟩ := own k z hk
    rw [hb] at g1
    cases g1
    rw [n1] at g2
    cases g2
  refine t.nx c2 _ _ F2 H2 (s2.setOwn j h2 m2 e2 m3 r2 fun k z hk hb => ?_) g2
  rcases set_get hk with ⟨rfl, hl, q⟩ | ⟨n, q⟩
  · have hl2 : k < σ.length := by rw [← s.len]; exact hl
    rw [List.getElem?_set_self hl2] at hb
    cases hb
    exact ne rfl
  · rw [List.getElem?_set_ne (Ne.symm n)] at hb
    obtain ⟨b, g1, u, g3⟩ := own k z q
    rw [hb] at g1
    cases g1
    rw [w1.there q2 m1] at g3
    cases g3
end
end L3

/-! L3: x[e] += v on an own list of ints. -/
namespace L3
open PySem PySem.Spec PyProof.Rows L2
section
variable {X : Cx} {fa fb : FE}
def rGetN (K : PySem.W.Frag) : V → V → Hp → VK → Prop := fun x y H Q => ∃ p xs i v, x = .ref p ∧ y = .int i ∧ SqL K H p xs ∧ 0 ≤ i ∧ xs[i.toNat]? = some v ∧ Q v H
theorem get_listN : PGet X (rGetN X.K) := by
  intro pins s σ H x y v u Q I rx ry h
  obtain ⟨p, xs, i, z, rfl, rfl, hq, i0, he, q⟩ := h
  cases rx
  obtain ⟨t, rfl⟩ := ry
  obtain ⟨its, r, pl, hz⟩ := I.list hq
  obtain ⟨w, ew, rw'⟩ := r.get he
  have hl := r.length
  have hn := line63
  have lt : i.toNat < its.length := (List.getElem?_eq_some_iff.mp ew).1
  exact PyProof.Rows.getItem_listL (l := its) pl.isList i0 (by omega) ew ⟨z, H, I, rw', q⟩
/-- x[e] += v -/
@[simp ↓] def sAugS (i : Nat) (fi fe : FE) : FS := fun E ρ c => match ρ[i]? with
  | some (.own l) => fi (ρ.map vB) c fun d c => match d with
    | .int k => (0 ≤ k ∧ k < l.length) ∧ match l[k.toNat]? with
      | some (.int x) => fe (ρ.map vB) c fun y c => match y with
        | .int y => E.nx (ρ.set i (.own (l.set k.toNat (.int (x + y))))) c
        | _ => False
      | _ => False
    | _ => False
  | _ => False
theorem RepL.at' {K : PySem.W.Frag} {p : Pn} {F : Hp} : ∀ {l : List D} {xs : List V} {n : Nat} {d : D}, RepL K p F l xs → l[n]? = some d → ∃ v, xs[n]? = some v ∧ Rep K p F d v
  | [], _, _, _, _, e => by simp at e
  | _ :: l, _, 0, d, h, e => by
    obtain ⟨x, r, rfl, h1, h2⟩ := h
    simp at e
    subst e
    exact ⟨x, rfl, h1⟩
  | _ :: l, _, n + 1, d, h, e => by
    obtain ⟨x, r, rfl, h1, h2⟩ := h
    exact RepL.at' (n := n) h2 (by simpa using e)
theorem sx_augS {st : Stmt} (i : Nat) (h : PS X st (tAugS (tVar i) (tE X.K fa) (tE X.K fb) (rGetN X.K) (ipI fun i j => i + j) rSetL)) : SX X st (sAugS i fa fb) := PS.imp h fun D σ H ⟨p, c, ρ, F, F0, H0, E, s, h, t⟩ => by
  unfold sAugS at h
  split at h
  · rename_i l hi
    obtain ⟨a, xs, e1, e2, e3, e4, e5, r0⟩ := s.own i l hi
    obtain ⟨F2, es, w2, k⟩ := s.lend
    refine ⟨_, e1, p, c, _, F2, _, es, h, fun d c1 v F1 H1 w1 ok1 r1 q1 => ?_⟩
    obtain ⟨F3, s1, w3, k1, k2, _⟩ := k c1 F1 H1 w1 ok1
    obtain ⟨a', xs', g1, g2, g3, g4, g5, r0'⟩ := s1.own i l hi
    rw [e1] at g1
    cases g1
    split at q1
    · rename_i j
      cases (show v = .int j from r1)
      obtain ⟨⟨j0, j1⟩, q⟩ := q1
      split at q
      · rename_i z hz
        obtain ⟨v, hv, rv⟩ := RepL.at' r0' hz
        cases (show v = .int z from rv)
        refine ⟨a, xs', j, .int z, rfl, rfl, .inl (.inl g2), j0, hv, p, c1, _, F1, _, es.fwd w1 ok1, q, fun y c4 u F4 H4 w4 ok4 r4 q4 => ?_⟩
        obtain ⟨F5, s2, w5, k3, k4, _⟩ := k c4 F4 H4 (w1.trans w4) ok4
        obtain ⟨a2, xs2, y1, y2, y3, y4, y5, r2⟩ := s2.own i l hi
        rw [e1] at y1
        cases y1
        split at q4
        · rename_i m
          cases (show u = .int m from r4)
          refine ⟨z, m, rfl, rfl, a, xs2, j, j.toNat, rfl, rfl, y2, by rw [r2.len]; unfold ixN; rw [if_pos j0, if_pos j1], t.nx c4 _ _ F5 _ (s2.put hi e1 (RepL.set (show Rep X.K p F5 (.int (z + m)) (.int (z + m)) from rfl) _ r2)) q4⟩
        · exact q4.elim
      · exact q.elim
    · exact q1.elim
  · exact h.elim
/-! sorted(set(t)), t a tuple of few ints -/
@[simp ↓] def fSortSet (fa : FE) : FL := fun ρ c Q => fa ρ c fun x c => match x with
  | .tup l => ∃ ns, intsOf l = some ns ∧ ns.length < 64 ∧ ∀ m : List Int, m.Pairwise (· < ·) → (∀ k, k ∈ m ↔ k ∈ ns) → Q (m.map .int) c
  | _ => False
def tSortSet (K : PySem.W.Frag) (ta : TE) : TE := fun σ H Q => ta σ H fun x H1 => ∃ (l : Addr) (ns : List Int), x = .ref l ∧ SqT K H1 l (ns.map V.int) ∧ ns.length < 64 ∧ ∀ (m : List Int) (q : Addr), m.Pairwise (· < ·) → (∀ k, k ∈ m ↔ k ∈ ns) → H1 q = none → Q (.ref q) (upd H1 q (.lst (m.map V.int)))
theorem pe_sortSet {a : Expr} {ta : TE} {p p2 q pos : Pos} (hg : Gl X "sorted") (hm : X.mg "sorted" = none) (hg2 : Gl X "set") (hm2 : X.mg "set" = none) (ha : PE X a ta) (hc : X.calm = true := by rfl)
    (na : starEach [a] X.env = (false, eval a X.env) :: starEach [] X.env := by rfl) : PE X (.Call (.Name "sorted" p) [.Call (.Name "set" p2) [a] [] q] [] pos) (tSortSet X.K ta) := by
  refine ⟨fun pins s σ H Q I h => ?_⟩
  refine Call_ (ld_blt I hg hm (by decide +kernel : bootBuiltins "sorted" = some (.builtin "sorted")) ?_)
  refine PyProof.Rows.callWith_builtin1 (PyProof.Rows.args_cons ?_ rfl) rfl rfl
  refine Call_ (ld_blt I hg2 hm2 (by decide +kernel : bootBuiltins "set" = some (.type "set")) ?_)
  refine PyProof.Rows.callWith_type1 (PyProof.Rows.args_cons (thn (ha.run pins s σ H _ I h) fun v s1 ⟨x, H1, I1, r1, q1⟩ => PyProof.Rows.args_nil ?_) na) na rfl
  obtain ⟨l, ns, rfl, hq, hl, q1⟩ := q1
  cases r1
  obtain ⟨its, r, pl, hz⟩ := I1.tuple hq
  have hi : IntsAre its.toArray.toList ns := by simpa using RZ.intsAre_vals r
  refine call_set_tupI ns (I1.ok.hd hc) (show s1.heap.IsTuple l its.toArray from pl) hi (by unfold scanBound; omega) fun h' tk c R1 hcn k => ?_
  refine PyProof.Rows.args_nil ?_
  have I2 : Inv X pins σ H1 { s1 with heap := h', toks := tk } := I1.kept fun b o e => k b o e
  refine sorted_set (s := { s1 with heap := h', toks := tk }) R1 (I1.ok.hd hc) (by omega) fun s' p' out c' ms k2 g o hp hgo hI hs hmm hl2 => ?_
  have hlen : (ms.map V.int).length ≤ sizeLine := by rw [List.length_map, hl2, sizeLine_eq]; omega
  have hn : H1 p' = none := I2.hok.fresh hp
  have J : Inv X pins σ (upd H1 p' (.lst (ms.map V.int))) { s1 with heap := s'.heap, gens := s'.gens, drawn := s'.drawn, toks := s'.toks } :=
    L2.Inv.call (s := { s1 with heap := h', toks := tk }) I2 (ch := []) (Un.laid k2 hp hn) (I2.hok.laid k2 hp ⟨hlen, out.toList, c', vals_of_ints hI, hgo⟩) (by rw [g]; exact I2.bare) (fun _ z => nomatch z)
  have e : s' = { s1 with heap := s'.heap, gens := s'.gens, drawn := s'.drawn, toks := s'.toks } := by
    cases s'
    cases s1
    cases o
    rfl
  rw [e]
  exact ⟨.ref p', _, J, rfl, q1 ms p' hs (fun z => (hmm z).trans decide_eq_true_iff) hn⟩
theorem fx_sortSet {e : Expr} {p p2 q pos : Pos} (hm : X.mg "sorted" = none) (hm2 : X.mg "set" = none) (ha : EX X e fa) (hg : Gl X "sorted" := by rfl) (hg2 : Gl X "set" := by rfl) (hc : X.calm = true := by rfl) (na : starEach [e] X.env = (false, eval e X.env) :: starEach [] X.env := by rfl) :
    FX X (.Call (.Name "sorted" p) [.Call (.Name "set" p2) [e] [] q] [] pos) (fSortSet fa) := PE.imp (pe_sortSet hg hm hg2 hm2 ha hc na) fun σ H Q ⟨p, c, ρ, F, Q', es, h, t⟩ =>
  ⟨p, c, ρ, F, _, es, h, fun d c1 v F1 H1 w1 ok1 r1 q1 => by
    split at q1
    · obtain ⟨b, xs, rfl, h1, rl⟩ := r1
      obtain ⟨ns, e1, hl, q⟩ := q1
      refine ⟨b, ns, rfl, by rw [← RepL.ints rl e1]; exact ok1.sqT h1, hl, fun m a hp hs nq => ?_⟩
      obtain ⟨w, ok, n1, n2, n3⟩ := layL w1 ok1 nq (m.map V.int)
      exact t _ c1 a _ F1 _ w ok n1 n2 n3 upd_same (rep_ints m) (q m hp hs)
    · exact q1.elim⟩
/-! three names, the third of a new list -/
@[simp ↓] def sPar3O (i j k : Nat) (fa fb : FE) (f : FL) : FS := fun E ρ c => fa (ρ.map vA) c fun x c => fb (ρ.map vA) c fun y c => f (ρ.map vA) c fun l c => E.nx (((ρ.set i (.val x)).set j (.val y)).set k (.own l)) c
theorem sx_par3O {i j k : Nat} {a b c : Expr} {f : FL} {x y z : Str} {px py pz pt pos : Pos} {kt k2 pt2} (hc : X.calm = true) (hN : X.N.Nodup) (ha : EX X a fa) (hb : EX X b fb) (hf : FX X c f) (hij : i ≠ j := by decide) (hil : i ≠ k := by decide) (hjl : j ≠ k := by decide) (hi : X.N[i]? = some x := by rfl) (hj : X.N[j]? = some y := by rfl) (hl : X.N[k]? = some z := by rfl)
    (hx : X.env.scope.names.lookup x = some .local := by rfl) (hy : X.env.scope.names.lookup y = some .local := by rfl) (hz : X.env.scope.names.lookup z = some .local := by rfl)
    (hw : swappedStores [.Tuple [.Name x px, .Name y py, .Name z pz] kt pt] (.Tuple [a, b, c] k2 pt2) X.env = pure (some [x, y, z]) := by rfl)
    (hs : swapsWithSole [.Tuple [.Name x px, .Name y py, .Name z pz] kt pt] (.Tuple [a, b, c] k2 pt2) pos.line X.env = pure false := by rfl)
    (hs1 : starEach [c] X.env = (false, eval c X.env) :: starEach [] X.env := by rfl) (hs2 : starEach [b, c] X.env = (false, eval b X.env) :: starEach [c] X.env := by rfl) (hs3 : starEach [a, b, c] X.env = (false, eval a X.env) :: starEach [b, c] X.env := by rfl) :
    SX X (.Assign [.Tuple [.Name x px, .Name y py, .Name z pz] kt pt] (.Tuple [a, b, c] k2 pt2) pos) (sPar3O i j k fa fb f) := by
  refine PS.imp (ps_par3 hc hN hi hj hl hij hil hjl hx hy hz (pa_cons ha (pa_cons hb (pa_cons hf pa_nil hs1) hs2) hs3) hw hs) fun En σ H ⟨p, c, ρ, F, F0, H0, E, s, h, t⟩ => ?_
  refine ⟨p, c, _, F, _, s.e, h, fun d1 c1 v1 F1 H1 w1 ok1 r1 g1 => ?_⟩
  refine ⟨p, c1, _, F1, _, s.e.fwd w1 ok1, g1, fun d2 c2 v2 F2 H2 w2 ok2 r2 g2 => ?_⟩
  refine ⟨p, c2, _, F2, _, s.e.fwd (w1.trans w2) ok2, g2, fun m c3 q3 ys F3 H3 w3 ok3 m1 m2 m3 h3 r3 g3 => ?_⟩
  refine ⟨v1, v2, .ref q3, rfl, ?_⟩
  have w12 := w1.trans w2
  have e2 : H0 q3 = none := s.ent.there q3 (w12.there q3 m1)
  have s3 := ((s.fwd (w12.trans w3) ok3).set i (r1.mono (w2.trans w3).frz)).set j (r2.mono w3.frz)
  refine t.nx c3 _ _ F3 H3 (s3.setOwn k h3 m2 e2 m3 r3 fun n l hk hb => ?_) g3
  rcases set_get hk with ⟨_, _, q⟩ | ⟨n1, q⟩
  · cases q
  rcases set_get q with ⟨_, _, q'⟩ | ⟨n2, q'⟩
  · cases q'
  rw [List.getElem?_set_ne (Ne.symm n1), List.getElem?_set_ne (Ne.symm n2)] at hb
  obtain ⟨b', u, g4, g5, _⟩ := s.own n l q'
  rw [hb] at g4
  cases g4
  rw [w12.there q3 m1] at g5
  cases g5
/-! a list times an int -/
@[simp ↓] def fRep (fa fb : FE) : FL := fun ρ c Q => fa ρ c fun x c => fb ρ c fun y c => match x, y with
  | .lst l, .int k => ((-(2 ^ 63) ≤ k ∧ k < 2 ^ 63) ∧ l.length * k.toNat ≤ 16777216) ∧ Q (List.replicate k.toNat l).flatten c
  | _, _ => False
theorem RepL.repL {K : PySem.W.Frag} {p : Pn} {F : Hp} {l : List D} {xs : List V} (h : RepL K p F l xs) : ∀ n : Nat, RepL K p F (List.replicate n l).flatten (List.replicate n xs).flatten
  | 0 => rfl
  | n + 1 => by
    rw [List.replicate_succ, List.replicate_succ, List.flatten_cons, List.flatten_cons]
    exact h.app (RepL.repL h n)
theorem fx_rep {a b : Expr} {pos : Pos} (ha : EX X a fa) (hb : EX X b fb) : FX X (.BinOp a .Mult b pos) (fRep fa fb) := PE.imp (pe_op op_rep ha hb) fun σ H Q ⟨p, c, ρ, F, Q', es, h, t⟩ =>
  ⟨p, c, ρ, F, _, es, h, fun x c1 v F1 H1 w1 ok1 r1 q1 => ⟨p, c1, ρ, F1, _, es.fwd w1 ok1, q1, fun y c2 u F2 H2 w2 ok2 r2 q2 => by
    split at q2
    · rename_i k
      obtain ⟨b, xs, rfl, h1, rl⟩ := r1.mono w2.frz
      cases (show u = .int k from r2)
      exact ⟨b, k, xs, rfl, rfl, ok2.sub _ _ h1, q2.1.1.1, q2.1.1.2, by rw [line16, rl.len]; exact q2.1.2, fun q nq => by
        obtain ⟨w, ok, n1, n2, n3⟩ := layL (w1.trans w2) ok2 nq (List.replicate k.toNat xs).flatten
        exact t _ c2 q _ F2 _ w ok n1 n2 n3 upd_same (RepL.repL rl _) q2.2⟩
    · exact q2.elim⟩⟩
end
end L3

/-! L3D: several names at once, values and new lists in any mix. -/
namespace L3
open PySem PySem.Spec PyProof.Rows L2
inductive AK where
  | e (f : FE)
  | f (f : FL)
@[simp ↓] def parRun : List AK → Rho → Nat → (List SV → Nat → Prop) → Prop
  | [], _, c, Q => Q [] c
  | .e f :: r, ρ, c, Q => f ρ c fun d c => parRun r ρ c fun m c => Q (.val d :: m) c
  | .f f :: r, ρ, c, Q => f ρ c fun l c => parRun r ρ c fun m c => Q (.own l :: m) c
@[simp ↓] def setAll : List Nat → List SV → Env3 → Env3
  | i :: is, v :: vs, ρ => setAll is vs (ρ.set i v)
  | _, _, ρ => ρ
def setAllV : List Nat → List V → L2.St → L2.St
  | i :: is, v :: vs, σ => setAllV is vs (σ.set i (some v))
  | _, _, σ => σ
@[simp ↓] def putAll : List Nat → List SV → Env3 → (Env3 → Prop) → Prop
  | [], [], ρ, k => k ρ
  | i :: is, v :: vs, ρ, k => putAll is vs (ρ.set i v) k
  | _, _, _, _ => False
theorem putAll_is : ∀ {is : List Nat} {svs : List SV} {ρ : Env3} {k : Env3 → Prop}, putAll is svs ρ k → svs.length = is.length ∧ k (setAll is svs ρ)
  | [], [], _, _, h => ⟨rfl, h⟩
  | i :: is, v :: vs, _, _, h => by
    obtain ⟨h1, h2⟩ := putAll_is (is := is) (svs := vs) h
    exact ⟨by rw [List.length_cons, List.length_cons, h1], h2⟩
  | [], _ :: _, _, _, h => h.elim
  | _ :: _, [], _, _, h => h.elim
@[simp ↓] def sParN (is : List Nat) (ks : List AK) : FS := fun E ρ c => parRun ks (ρ.map vA) c fun vs c => putAll is vs ρ fun ρ => E.nx ρ c
@[simp ↓] def okSV : List SV → Bool
  | [] => true
  | .val d :: r => noLst d && okSV r
  | .own l :: r => noLstL l && okSV r
  | .no :: r => okSV r
  | .dic _ _ :: r => okSV r
@[simp ↓] def sParNB (is : List Nat) (ks : List AK) : FS := fun E ρ c => parRun ks (ρ.map vB) c fun vs c => okSV vs = true ∧ putAll is vs ρ fun ρ => E.nx ρ c
def RepSV (K : PySem.W.Frag) (p : Pn) (F H : Hp) : Hp → List SV → List V → Prop
  | _, [], vs => vs = []
  | Hs, .val d :: r, vs => ∃ v w, vs = v :: w ∧ Rep K p F d v ∧ RepSV K p F H Hs r w
  | Hs, .own l :: r, vs => ∃ a w xs H1, vs = .ref a :: w ∧ H a = some (.lst xs) ∧ F a = none ∧ Hs a = none ∧ p.pot ≠ some a ∧ RepL K p F l xs ∧ H1 a ≠ none ∧ (∀ b, H1 b = none → Hs b = none) ∧ RepSV K p F H H1 r w
  | _, .no :: _, _ => False
  | _, .dic _ _ :: _, _ => False
section
variable {K : PySem.W.Frag} {p : Pn} {F H : Hp}
theorem RepSV.mono : ∀ {svs : List SV} {vs : List V} {Hs Hs' : Hp}, (∀ b, Hs' b = none → Hs b = none) → RepSV K p F H Hs' svs vs → RepSV K p F H Hs svs vs
  | [], _, _, _, _, h => h
  | .val d :: r, _, _, _, e, h => by
    obtain ⟨v, w, rfl, h1, h2⟩ := h
    exact ⟨v, w, rfl, h1, RepSV.mono e h2⟩
  | .own l :: r, _, _, _, e, h => by
    obtain ⟨a, w, xs, H1, rfl, h1, h2, h3, h4, h5, h6, h7, h8⟩ := h
    exact ⟨a, w, xs, H1, rfl, h1, h2, e a h3, h4, h5, h6, fun b hb => e b (h7 b hb), h8⟩
  | .no :: _, _, _, _, _, h => h
  | .dic _ _ :: _, _, _, _, _, h => h
theorem RepSV.move {F' H' : Hp} (e : ∀ b u, F b = some u → F' b = some u) (eo : ∀ a xs, H a = some (.lst xs) → F a = none → p.pot ≠ some a → H' a = some (.lst xs) ∧ F' a = none) : ∀ {svs : List SV} {vs : List V} {Hs : Hp}, RepSV K p F H Hs svs vs → RepSV K p F' H' Hs svs vs
  | [], _, _, h => h
  | .val d :: r, _, _, h => by
    obtain ⟨v, w, rfl, h1, h2⟩ := h
    exact ⟨v, w, rfl, h1.mono e, RepSV.move e eo h2⟩
  | .own l :: r, _, _, h => by
    obtain ⟨a, w, xs, H1, rfl, h1, h2, h3, h4, h5, h6, h7, h8⟩ := h
    obtain ⟨g1, g2⟩ := eo a xs h1 h2 h4
    exact ⟨a, w, xs, H1, rfl, g1, g2, h3, h4, h5.mono e, h6, h7, RepSV.move e eo h8⟩
  | .no :: _, _, _, h => h
  | .dic _ _ :: _, _, _, h => h
theorem RepSV.lent {F3 : Hp} (k1 : ∀ d v, noLst d = true → Rep K p F d v → Rep K p F3 d v) (k2 : ∀ l xs, noLstL l = true → RepL K p F l xs → RepL K p F3 l xs) (k3 : ∀ b, F b = none → F3 b = none) : ∀ {svs : List SV} {vs : List V} {Hs : Hp}, okSV svs = true → RepSV K p F H Hs svs vs → RepSV K p F3 H Hs svs vs
  | [], _, _, _, h => h
  | .val d :: r, _, _, n, h => by
    obtain ⟨v, w, rfl, h1, h2⟩ := h
    have n' : noLst d = true ∧ okSV r = true := by simpa [okSV] using n
    exact ⟨v, w, rfl, k1 _ _ n'.1 h1, RepSV.lent k1 k2 k3 n'.2 h2⟩
  | .own l :: r, _, _, n, h => by
    obtain ⟨a, w, xs, H1, rfl, h1, h2, h3, h4, h5, h6, h7, h8⟩ := h
    have n' : noLstL l = true ∧ okSV r = true := by simpa [okSV] using n
    exact ⟨a, w, xs, H1, rfl, h1, k3 a h2, h3, h4, k2 _ _ n'.1 h5, h6, h7, RepSV.lent k1 k2 k3 n'.2 h8⟩
  | .no :: _, _, _, _, h => h
  | .dic _ _ :: _, _, _, _, h => h
theorem RepSV.len : ∀ {svs : List SV} {vs : List V} {Hs : Hp}, RepSV K p F H Hs svs vs → vs.length = svs.length
  | [], _, _, h => by cases h; rfl
  | .val d :: r, _, _, h => by
    obtain ⟨v, w, rfl, h1, h2⟩ := h
    rw [List.length_cons, List.length_cons, RepSV.len h2]
  | .own l :: r, _, _, h => by
    obtain ⟨a, w, xs, H1, rfl, h1, h2, h3, h4, h5, h6, h7, h8⟩ := h
    rw [List.length_cons, List.length_cons, RepSV.len h8]
  | .no :: _, _, _, h => h.elim
  | .dic _ _ :: _, _, _, h => h.elim
/-- all are stored -/
theorem SSt.setAll {c : Nat} {F0 H0 : Hp} : ∀ {is : List Nat} {svs : List SV} {vs : List V} {Hs : Hp} {ρ : Env3} {σ : L2.St}, SSt K p c ρ σ F H F0 H0 → RepSV K p F H Hs svs vs → (∀ b, Hs b = none → H0 b = none) →
    (∀ (j : Nat) (m : List D) (b : Addr), ρ[j]? = some (SV.own m) → σ[j]? = some (some (V.ref b)) → Hs b ≠ none) → SSt K p c (L3.setAll is svs ρ) (setAllV is vs σ) F H F0 H0
  | [], svs, vs, _, _, _, s, h, _, _ => by
    cases svs <;> cases vs <;> exact s
  | i :: is, [], vs, _, _, _, s, h, _, _ => by
    cases h
    exact s
  | i :: is, .val d :: r, _, Hs, _, _, s, h, e0, eo => by
    obtain ⟨v, w, rfl, h1, h2⟩ := h
    refine SSt.setAll (is := is) (svs := r) (vs := w) (s.set i h1) h2 e0 fun j m b g1 g2 => ?_
    rcases set_get g1 with ⟨rfl, hl, q⟩ | ⟨n, q⟩
    · cases q
    · rw [List.getElem?_set_ne (Ne.symm n)] at g2
      exact eo j m b q g2
  | i :: is, .own l :: r, _, Hs, ρ, σ, s, h, e0, eo => by
    obtain ⟨a, w, xs, H1, rfl, h1, h2, h3, h4, h5, h6, h7, h8⟩ := h
    refine SSt.setAll (is := is) (svs := r) (vs := w) (s.setOwn i h1 h2 (e0 a h3) h4 h5 fun j m g1 g2 => eo j m a g1 g2 h3) h8 (fun b hb => e0 b (h7 b hb)) fun j m b g1 g2 => ?_
    rcases set_get g1 with ⟨rfl, hl, q⟩ | ⟨n, q⟩
    · rw [List.getElem?_set_self (by rw [← s.len]; exact hl)] at g2
      cases g2
      exact h6
    · rw [List.getElem?_set_ne (Ne.symm n)] at g2
      exact fun z => eo j m b q g2 (h7 b z)
  | _ :: _, .no :: _, _, _, _, _, _, h, _, _ => h.elim
  | _ :: _, .dic _ _ :: _, _, _, _, _, _, h, _, _ => h.elim
end
section
variable {X : Cx} {e a b d : Expr} {es : List Expr} {f : FL} {fe : FE} {ks : List AK} {pos : Pos}
def tPk (K : PySem.W.Frag) (ks : List AK) : TA := fun σ H Q => ∃ p c ρ F Q', ESt K p c ρ σ F H ∧ parRun ks ρ c Q' ∧ ∀ svs c' vs F' H', Fwd p F H F' H' → Ok3 p c' F' H' → RepSV K p F' H' H svs vs → Q' svs c' → Q vs H'
abbrev JX (X : Cx) (es : List Expr) (ks : List AK) : Prop := PA X es (tPk X.K ks)
theorem jx_nil : JX X [] [] := PA.imp pa_nil fun σ H Q ⟨p, c, ρ, F, Q', es, h, t⟩ => t [] c [] F H (.refl ..) es.ok rfl h
theorem jx_e (he : EX X e fe) (hr : JX X es ks) (hs : starEach (e :: es) X.env = (false, eval e X.env) :: starEach es X.env := by rfl) : JX X (e :: es) (.e fe :: ks) := PA.imp (pa_cons he hr hs) fun σ H Q ⟨p, c, ρ, F, Q', es, h, t⟩ =>
  ⟨p, c, ρ, F, _, es, h, fun d c1 v F1 H1 w1 ok1 r1 q1 => ⟨p, c1, ρ, F1, _, es.fwd w1 ok1, q1, fun svs c2 vs F2 H2 w2 ok2 r2 q2 =>
    t (.val d :: svs) c2 (v :: vs) F2 H2 (w1.trans w2) ok2 ⟨v, vs, rfl, r1.mono w2.frz, r2.mono w1.there⟩ q2⟩⟩
theorem jx_f (he : FX X e f) (hr : JX X es ks) (hs : starEach (e :: es) X.env = (false, eval e X.env) :: starEach es X.env := by rfl) : JX X (e :: es) (.f f :: ks) := PA.imp (pa_cons he hr hs) fun σ H Q ⟨p, c, ρ, F, Q', es, h, t⟩ =>
  ⟨p, c, ρ, F, _, es, h, fun l c1 a xs F1 H1 w1 ok1 n1 n2 n3 h1 r1 q1 => ⟨p, c1, ρ, F1, _, es.fwd w1 ok1, q1, fun svs c2 vs F2 H2 w2 ok2 r2 q2 => by
    have k1 : H2 a = some (.lst xs) := w2.keep _ _ h1 n3 (fun _ z => nomatch z)
    have f1 : F2 a = none := by
      cases z : F2 a with
      | none => rfl
      | some o =>
        rcases w2.new a o z with y | y | ⟨q', y⟩
        · rw [n2] at y; cases y
        · rw [h1] at y; cases y
        · have y2 := ok2.sub a o z
          rw [k1] at y2
          exact absurd (y.symm.trans (Option.some.inj y2.symm)) codeO_lst
    exact t (.own l :: svs) c2 (.ref a :: vs) F2 H2 (w1.trans w2) ok2 ⟨a, vs, xs, H1, rfl, k1, f1, n1, n3, r1.mono w2.frz, by rw [h1]; exact nofun, w1.there, r2⟩ q2⟩⟩
theorem SSt.ownThere {K : PySem.W.Frag} {p : Pn} {c : Nat} {ρ : Env3} {σ : L2.St} {F H F0 H0 : Hp} (s : SSt K p c ρ σ F H F0 H0) : ∀ (j : Nat) (m : List D) (b : Addr), ρ[j]? = some (SV.own m) → σ[j]? = some (some (V.ref b)) → H b ≠ none := fun j m b g1 g2 z => by
  obtain ⟨b', u, e1, e2, _⟩ := s.own j m g1
  rw [g2] at e1
  cases e1
  rw [z] at e2
  cases e2
theorem parW {is : List Nat} {σ : L2.St} {H : Hp} {D : Ends} {R : List V → Hp → Prop} (hR : ∀ vs H', vs.length = is.length → D.nx (setAllV is vs σ) H' → R vs H') (h : tS X.K (sParN is ks) D σ H) : tPk X.K ks σ H R := by
  obtain ⟨p, c, ρ, F, F0, H0, E, s, h, t⟩ := h
  refine ⟨p, c, _, F, _, s.e, h, fun svs c1 vs F1 H1 w1 ok1 r1 q1 => ?_⟩
  obtain ⟨hl, q⟩ := putAll_is q1
  exact hR _ _ (r1.len.trans hl) (t.nx c1 _ _ F1 H1 (SSt.setAll (s.fwd w1 ok1) r1 s.ent.there s.ownThere) q)
theorem parWB {is : List Nat} {σ : L2.St} {H : Hp} {D : Ends} {R : List V → Hp → Prop} (hR : ∀ vs H', vs.length = is.length → D.nx (setAllV is vs σ) H' → R vs H') (h : tS X.K (sParNB is ks) D σ H) : tPk X.K ks σ H R := by
  obtain ⟨p, c, ρ, F, F0, H0, E, s, h, t⟩ := h
  obtain ⟨F2, es, w2, k⟩ := s.lend
  refine ⟨p, c, _, F2, _, es, h, fun svs c1 vs F1 H1 w1 ok1 r1 q1 => ?_⟩
  obtain ⟨F3, s3, w3, k1, k2, k3⟩ := k c1 F1 H1 w1 ok1
  obtain ⟨hl, q⟩ := putAll_is q1.2
  exact hR _ _ (r1.len.trans hl) (t.nx c1 _ _ F3 H1 (SSt.setAll s3 (r1.lent k1 k2 k3 q1.1) s.ent.there s.ownThere) q)
theorem two_of {vs : List V} (h : vs.length = 2) : ∃ v w, vs = [v, w] := by
  match vs, h with
  | [v, w], _ => exact ⟨v, w, rfl⟩
theorem three_of {vs : List V} (h : vs.length = 3) : ∃ u v w, vs = [u, v, w] := by
  match vs, h with
  | [u, v, w], _ => exact ⟨u, v, w, rfl⟩
section
variable {i j k : Nat} {x y z : Str} {px py pz pt : Pos} {kt k2 pt2}
theorem sx_parN2 (hc : X.calm = true) (hN : X.N.Nodup) (ha : JX X [a, b] ks) (hij : i ≠ j := by decide) (hi : X.N[i]? = some x := by rfl) (hj : X.N[j]? = some y := by rfl)
    (hx : X.env.scope.names.lookup x = some .local := by rfl) (hy : X.env.scope.names.lookup y = some .local := by rfl) (hw : swappedStores [.Tuple [.Name x px, .Name y py] kt pt] (.Tuple [a, b] k2 pt2) X.env = pure (some [x, y]) := by rfl)
    (hs : swapsWithSole [.Tuple [.Name x px, .Name y py] kt pt] (.Tuple [a, b] k2 pt2) pos.line X.env = pure false := by rfl) :
    SX X (.Assign [.Tuple [.Name x px, .Name y py] kt pt] (.Tuple [a, b] k2 pt2) pos) (sParN [i, j] ks) := PS.imp (ps_par hc hN hi hj hij hx hy ha hw hs) fun D σ H h => parW (is := [i, j]) (fun vs H' hl q => by
    obtain ⟨v, w, rfl⟩ := two_of hl
    exact ⟨v, w, rfl, q⟩) h
theorem sx_parN2B (hc : X.calm = true) (hN : X.N.Nodup) (ha : JX X [a, b] ks) (hij : i ≠ j := by decide) (hi : X.N[i]? = some x := by rfl) (hj : X.N[j]? = some y := by rfl)
    (hx : X.env.scope.names.lookup x = some .local := by rfl) (hy : X.env.scope.names.lookup y = some .local := by rfl) (hw : swappedStores [.Tuple [.Name x px, .Name y py] kt pt] (.Tuple [a, b] k2 pt2) X.env = pure (some [x, y]) := by rfl)
    (hs : swapsWithSole [.Tuple [.Name x px, .Name y py] kt pt] (.Tuple [a, b] k2 pt2) pos.line X.env = pure false := by rfl) :
    SX X (.Assign [.Tuple [.Name x px, .Name y py] kt pt] (.Tuple [a, b] k2 pt2) pos) (sParNB [i, j] ks) := PS.imp (ps_par hc hN hi hj hij hx hy ha hw hs) fun D σ H h => parWB (is := [i, j]) (fun vs H' hl q => by
    obtain ⟨v, w, rfl⟩ := two_of hl
    exact ⟨v, w, rfl, q⟩) h
theorem sx_parN3 (hc : X.calm = true) (hN : X.N.Nodup) (ha : JX X [a, b, d] ks) (hij : i ≠ j := by decide) (hil : i ≠ k := by decide) (hjl : j ≠ k := by decide) (hi : X.N[i]? = some x := by rfl) (hj : X.N[j]? = some y := by rfl) (hl : X.N[k]? = some z := by rfl)
    (hx : X.env.scope.names.lookup x = some .local := by rfl) (hy : X.env.scope.names.lookup y = some .local := by rfl) (hz : X.env.scope.names.lookup z = some .local := by rfl)
    (hw : swappedStores [.Tuple [.Name x px, .Name y py, .Name z pz] kt pt] (.Tuple [a, b, d] k2 pt2) X.env = pure (some [x, y, z]) := by rfl)
    (hs : swapsWithSole [.Tuple [.Name x px, .Name y py, .Name z pz] kt pt] (.Tuple [a, b, d] k2 pt2) pos.line X.env = pure false := by rfl) :
    SX X (.Assign [.Tuple [.Name x px, .Name y py, .Name z pz] kt pt] (.Tuple [a, b, d] k2 pt2) pos) (sParN [i, j, k] ks) := PS.imp (ps_par3 hc hN hi hj hl hij hil hjl hx hy hz ha hw hs) fun D σ H h => parW (is := [i, j, k]) (fun vs H' hl q => by
    obtain ⟨u, v, w, rfl⟩ := three_of hl
    exact ⟨u, v, w, rfl, q⟩) h
theorem sx_parN3B (hc : X.calm = true) (hN : X.N.Nodup) (ha : JX X [a, b, d] ks) (hij : i ≠ j := by decide) (hil : i ≠ k := by decide) (hjl : j ≠ k := by decide) (hi : X.N[i]? = some x := by rfl) (hj : X.N[j]? = some y := by rfl) (hl : X.N[k]? = some z := by rfl)
    (hx : X.env.scope.names.lookup x = some .local := by rfl) (hy : X.env.scope.names.lookup y = some .local := by rfl) (hz : X.env.scope.names.lookup z = some .local := by rfl)
    (hw : swappedStores [.Tuple [.Name x px, .Name y py, .Name z pz] kt pt] (.Tuple [a, b, d] k2 pt2) X.env = pure (some [x, y, z]) := by rfl)
    (hs : swapsWithSole [.Tuple [.Name x px, .Name y py, .Name z pz] kt pt] (.Tuple [a, b, d] k2 pt2) pos.line X.env = pure false := by rfl) :
    SX X (.Assign [.Tuple [.Name x px, .Name y py, .Name z pz] kt pt] (.Tuple [a, b, d] k2 pt2) pos) (sParNB [i, j, k] ks) := PS.imp (ps_par3 hc hN hi hj hl hij hil hjl hx hy hz ha hw hs) fun D σ H h => parWB (is := [i, j, k]) (fun vs H' hl q => by
    obtain ⟨u, v, w, rfl⟩ := three_of hl
    exact ⟨u, v, w, rfl, q⟩) h
end
/-! by a tuple, taken apart -/
def gAll : List Nat → TGs
  | [] => gNil
  | i :: is => gCons (gName i) (gAll is)
theorem gAll_k : ∀ {is : List Nat} {vs : List V} {σ : L2.St} {H : Hp} {kk : L2.St → Hp → Prop}, vs.length = is.length → kk (setAllV is vs σ) H → gAll is vs σ H kk
  | [], [], _, _, _, _, h => ⟨rfl, h⟩
  | i :: is, v :: vs, _, _, _, hl, h => ⟨v, vs, rfl, gAll_k (is := is) (by simpa using hl) h⟩
theorem Fwd.upH {p : Pn} {F H F1 H1 : Hp} (w : Fwd p F H F1 H1) {q : Addr} (nq : H1 q = none) (o : HO) : Fwd p F H F1 (upd H1 q o) := ⟨w.frz, fun b u h n t => by
    have := w.keep b u h n t
    rw [upd_ne (ne_of_none this nq)]; exact this, w.new, fun b h => by
    by_cases e : b = q
    · subst e; exact w.there _ nq
    · rw [upd_ne e] at h; exact w.there b h⟩
theorem Ok3.upH {p : Pn} {c : Nat} {F H : Hp} (ok : Ok3 p c F H) {q : Addr} (nq : H q = none) (o : HO) : Ok3 p c F (upd H q o) := ⟨fun b u h => by
    rw [upd_ne (ne_of_none (ok.sub b u h) nq)]; exact ok.sub b u h, fun b e => by
    obtain ⟨⟨x, y, z, h, r⟩, n⟩ := ok.pot b e
    exact ⟨⟨x, y, z, by rw [upd_ne (ne_of_none h nq)]; exact h, r⟩, n⟩, ok.tab.ext fun b u h => by rw [upd_ne (ne_of_none h nq)]; exact h, ok.nt⟩
theorem sx_parT {tgs es : List Expr} {is : List Nat} {kt pt k2 pt2} (ha : JX X es ks) (hg : PGs X tgs (gAll is)) (hl16 : is.length ≤ 16777216 := by decide) {n : Nat} (hn : is.length = n := by rfl) (hpg : ∀ g, PGs X tgs g → PG X (.Tuple tgs kt pt) (gTup X.K n g))
    (hs : swapsWithSole [.Tuple tgs kt pt] (.Tuple es k2 pt2) pos.line X.env = pure false := by rfl) (hw : swappedStores [.Tuple tgs kt pt] (.Tuple es k2 pt2) X.env = pure none := by rfl) (h1 : (assignEach [.Tuple tgs kt pt] X.env).map (·.2) = [assign (.Tuple tgs kt pt) X.env] := by rfl) :
    SX X (.Assign [.Tuple tgs kt pt] (.Tuple es k2 pt2) pos) (sParN is ks) := PS.imp (ps_asg (pe_tup ha) (hpg _ hg) hs hw h1) fun D σ H h => by
  obtain ⟨p, c, ρ, F, F0, H0, E, s, h, t⟩ := h
  refine ⟨p, c, _, F, _, s.e, h, fun svs c1 vs F1 H1 w1 ok1 r1 q1 => ?_⟩
  obtain ⟨hl, q⟩ := putAll_is q1
  have hv := r1.len.trans hl
  refine ⟨by rw [hv, line16]; exact hl16, fun a na => ⟨a, vs, rfl, .of upd_same, hv.trans hn, ?_⟩⟩
  refine gAll_k hv (t.nx c1 _ _ F1 _ (SSt.setAll (s.fwd (w1.upH na _) (ok1.upH na _)) (r1.move (fun _ _ h => h) fun b xs h1 h2 h3 => ⟨by rw [upd_ne (ne_of_none h1 na)]; exact h1, h2⟩) s.ent.there s.ownThere) q)
theorem sx_parTB {tgs es : List Expr} {is : List Nat} {kt pt k2 pt2} (ha : JX X es ks) (hg : PGs X tgs (gAll is)) (hl16 : is.length ≤ 16777216 := by decide) {n : Nat} (hn : is.length = n := by rfl) (hpg : ∀ g, PGs X tgs g → PG X (.Tuple tgs kt pt) (gTup X.K n g))
    (hs : swapsWithSole [.Tuple tgs kt pt] (.Tuple es k2 pt2) pos.line X.env = pure false := by rfl) (hw : swappedStores [.Tuple tgs kt pt] (.Tuple es k2 pt2) X.env = pure none := by rfl) (h1 : (assignEach [.Tuple tgs kt pt] X.env).map (·.2) = [assign (.Tuple tgs kt pt) X.env] := by rfl) :
    SX X (.Assign [.Tuple tgs kt pt] (.Tuple es k2 pt2) pos) (sParNB is ks) := PS.imp (ps_asg (pe_tup ha) (hpg _ hg) hs hw h1) fun D σ H h => by
  obtain ⟨p, c, ρ, F, F0, H0, E, s, h, t⟩ := h
  obtain ⟨F2, es, w2, k⟩ := s.lend
  refine ⟨p, c, _, F2, _, es, h, fun svs c1 vs F1 H1 w1 ok1 r1 q1 => ?_⟩
  obtain ⟨hl, q⟩ := putAll_is q1.2
  have hv := r1.len.trans hl
  refine ⟨by rw [hv, line16]; exact hl16, fun a na => ⟨a, vs, rfl, .of upd_same, hv.trans hn, ?_⟩⟩
  obtain ⟨F3, s3, w3, k1, k2, k3⟩ := k c1 F1 _ (w1.upH na (.tup vs)) (ok1.upH na (.tup vs))
  refine gAll_k hv (t.nx c1 _ _ F3 _ (SSt.setAll s3 ((r1.lent k1 k2 k3 q1.1).move (fun _ _ h => h) fun b xs h1 h2 h3 => ⟨by rw [upd_ne (ne_of_none h1 na)]; exact h1, h2⟩) s.ent.there s.ownThere) q)
end
section comp
variable {X : Cx} {tg elt iter : Expr} {ifs : List Expr} {scope : Scope} {own : List (Str × Nat)} {fi : FI} {gg : FG} {is : List Nat} {fe : FE} {ft : FT} {y : Str} {py spos pos : Pos}
/-- x = [..], own lists read within -/
@[simp ↓] def sValFB (i : Nat) (f : FL) : FS := fun E ρ c => f (ρ.map vB) c fun l c => noLstL l = true ∧ E.nx (ρ.set i (.val (.lst l))) c
theorem sx_valBL (i : Nat) (hN0 : X.N.Nodup) (hc : X.calm = true) (hN : X.N.Nodup) (hi : IX X tg iter fi) (ok : BlkOk X.N X.env.scope scope own) {gl : TG}
    (hg : ∀ (s : Shared) (H : Hp) (C : Addr) (cl : List (Str × Addr)) (fp : List Addr), PG (X.blk s H scope (compEnvC scope cl C X.env) fp) tg gl) (kg : KG X.K is gg gl)
    {t : TT} (ht : ∀ (s : Shared) (H : Hp) (C : Addr) (cl : List (Str × Addr)) (fp : List Addr), PTs (X.blk s H scope (compEnvC scope cl C X.env) fp) ifs t) (kt : KT3 X.K ft t)
    (he : ∀ (s : Shared) (H : Hp) (C : Addr) (cl : List (Str × Addr)) (fp : List Addr), EX (X.blk s H scope (compEnvC scope cl C X.env) fp) elt fe)
    (his : ∀ j ∈ is, j ∈ own.map (·.2)) (hs : ∀ x, foldedSetIterable iter X.env x = pure x := by intro _; rfl) (hy : X.N[i]? = some y := by rfl) (hyl : X.env.scope.names.lookup y = some .local := by rfl)
    (hsw : swapsWith (.ListComp elt [⟨tg, iter, ifs, 0⟩] scope pos) (some (.Name y py)) spos.line X.env = pure true := by exact sw_true rfl rfl rfl (by decide +kernel)) :
    SX X (.Assign [.Name y py] (.ListComp elt [⟨tg, iter, ifs, 0⟩] scope pos) spos) (sValFB i (fComp fi gg ft fe (own.map (·.2)))) :=
  PS.imp (ps_setC i hN0 hc hN hi ok hg kg ht kt he his hs hy hyl hsw) fun D σ H ⟨p, c, ρ, F, F0, H0, E, s, h, t⟩ => by
    obtain ⟨F2, es, w2, k⟩ := s.lend
    refine ⟨p, c, _, F2, _, es, h, fun l c1 a xs F1 H1 w1 ok1 n1 n2 n3 h1 r1 q1 => ?_⟩
    obtain ⟨F3, s3, w3, _, k2, k3⟩ := k c1 F1 H1 w1 ok1
    obtain ⟨F', w', ok', r'⟩ := own_frz w3 s3.ok n1 (k3 a n2) n3 h1 (k2 l xs q1.1 r1)
    exact t.nx c1 _ _ F' H1 ((s.fwd w' ok').set i r') q1.2
end comp
end L3

set_option maxHeartbeats 4000000
/-! L3G: sorted(set(l)) of a list of ints of any length; x[e] -= v. -/
namespace L2
open PySem PySem.Spec PyProof.Rows PySem.Calls PySem.W
section
variable {P : Program} {w : World} {A : Around} {E : Value → Shared → Prop} {s : Shared} {a : Addr}
theorem set_of_list {l : Addr} {items : Array Value} (ns : List Int) {Q : Value → Shared → Prop} (hh : A.handled = none) (hl : s.heap.IsList l items) (hit : IntsAre items.toList ns) (hb : ns.length + 1 < scanBound)
    (h : ∀ (h' : Heap) (tk c : Nat), SetR w h' s.heap.objs.size (fun j => decide (j ∈ ns)) c → c ≤ ns.length → (∀ b o, s.heap.get? b = some o → h'.get? b = some o) → Q (.ref s.heap.objs.size) { s with heap := h', toks := tk }) :
    wpAny (model P w) A (call (.type "set") [.ref l]) Q E s := by
  have hisz : items.size = ns.length := by
    have q := IntsAre.length hit
    rw [Array.length_toList] at q
    exact q
  obtain ⟨c, tl, hmro⟩ := F.called_set.mro
  have hmade := F.called_set.made
  have hsub := F.called_set.sub
  refine wpAny_call (codeAny_of_tree ?_)
  show wpAny _ _ (callAny (.type "set") _) _ _ _
  refine wpAny_pure ⟨Code.quiet_builtin _ (by decide +kernel), codeAny_builtin F.entry_type_call ?_⟩
  rw [Around.under_plain (weight_type_call_type "set" [.ref l] []) rfl]
  have h1 := F.called_set.notType
  have h2 := F.called_set.canCreate
  have hct := F.typeCall_set_1 (.ref l)
  repeat (any_goals (first | assumption | wp_step))

  refine codeAny_mono (code_set_led1 (.ref l) (E := E) (Q₁ := fun obj s₁ => obj = .ref s.heap.objs.size ∧ s₁ = { s with heap := s.heap.push { cls := .type "set", dict := none, data := .set #[] 0 (.fresh 0 0 (!w.params.followText "set-order")) } }) ⟨rfl, rfl⟩) fun r s₁ hr => ?_
  cases r with
  | error e => exact hr
  | ok fl =>
    cases fl with
    | ret obj =>
      obtain ⟨rfl, rfl⟩ := hr
      have hS : (s.heap.push { cls := .type "set", dict := none, data := .set #[] 0 (.fresh 0 0 (!w.params.followText "set-order")) }).get? s.heap.objs.size = some { cls := .type "set", dict := none, data := .set #[] 0 (.fresh 0 0 (!w.params.followText "set-order")) } := Heap.get?_push_size _ rfl
      have hT : Shared.TypeIs { s with heap := s.heap.push { cls := .type "set", dict := none, data := .set #[] 0 (.fresh 0 0 (!w.params.followText "set-order")) } } (.ref s.heap.objs.size) "set" := ⟨_, hS, rfl⟩
      have hli := F.called_set.init.lookup
      have hbi := F.called_set.init.bind (.ref s.heap.objs.size)
      repeat (any_goals (first | assumption | wp_step))

      refine codeAny_mono (codeAny_call_builtin (R := wants (fun r s₂ => r = .none ∧ ∃ h' tk c, s₂ = { s with heap := h', toks := tk } ∧ SetR w h' s.heap.objs.size (fun j => decide (j ∈ ns)) c ∧ c ≤ ns.length ∧
          (∀ b o, s.heap.get? b = some o → h'.get? b = some o)) E) F.called_set.init.plain F.entry_set_init (check_set_init_1 hT ?_)) fun r₂ s₂ hr₂ => ?_
      · obtain ⟨ol, hol, hcl, nl, hdl⟩ := hl
        obtain ⟨ocls, odict, odata, oslots⟩ := ol
        simp only at hcl hdl
        subst hcl; subst hdl
        have hol' : (s.heap.push { cls := .type "set", dict := none, data := .set #[] 0 (.fresh 0 0 (!w.params.followText "set-order")) }).get? l = some { cls := .type "list", dict := odict, data := .seq items nl, slots := oslots } := Heap.get?_push_of_some _ hol
        have hsls := F.sub_list_set
        have hslf := F.sub_list_frozenset
        have hne : (Value.type "list" == Value.type "dict") = false := by decide
        have hl1 : (s.heap.push { cls := .type "set", dict := none, data := .set #[] 0 (.fresh 0 0 (!w.params.followText "set-order")) }).IsList l items := ⟨_, hol', rfl, nl, rfl⟩
        unfold Builtin.«set.__init__» noKeywords Builtin.Frozenset.updateFrom
        generalize hPI : pyIter = PI
        wp_walk
        subst hPI

        refine wpAny_pyIter_list hl1 ?_
        refine wpAny_bind (wpAny_runValue ?_)
        have hlS : l < s.heap.objs.size := Heap.lt_size hol
        have hh3 : A.in1.in1.in1.handled = none := by simp [hh]
        have hz1 : (s.heap.push { cls := .type "set", dict := none, data := .set #[] 0 (.fresh 0 0 (!w.params.followText "set-order")) }).objs.size = s.heap.objs.size + 1 := Heap.size_push ..
        have hneI : l ≠ (s.heap.push { cls := .type "set", dict := none, data := .set #[] 0 (.fresh 0 0 (!w.params.followText "set-order")) }).objs.size := by
          rw [Heap.size_push]; exact Nat.ne_of_lt (Nat.lt_succ_of_lt hlS)
        have hSf : s.heap.objs.size ∉ [(s.heap.push { cls := .type "set", dict := none, data := .set #[] 0 (.fresh 0 0 (!w.params.followText "set-order")) }).objs.size, l] := by
          rw [Heap.size_push]; simp only [List.mem_cons, List.mem_singleton, List.not_mem_nil, or_false, not_or]
          exact ⟨Nat.ne_of_lt (Nat.lt_succ_self _), Nat.ne_of_gt hlS⟩
        have hval : ∀ (i : Nat) (v : Value), items[i]? = some v → ∃ k t, ns[i]? = some k ∧ v = .int k t := fun i v hv => by
          have hi : i < ns.length := by rw [← hisz]; exact (Array.getElem?_eq_some_iff.mp hv).1
          obtain ⟨t, e⟩ := PyProof.Rows.IntsAre.int_at hit i v (by rw [Array.getElem?_toList]; exact hv)
          refine ⟨ns[i], t, List.getElem?_eq_getElem hi, ?_⟩
          rw [e, List.getD_eq_getElem?_getD, List.getElem?_eq_getElem hi] <;> rfl
        refine set_update_ints ((Walks.list hh3 _ l hneI items).toS) s.heap.objs.size
          hSf ns hisz hb hval (items.size - 0) 0 _ (by omega) (Nat.zero_le _)
          ⟨⟨_, Heap.get?_push_size _ rfl, rfl, rfl⟩, (hl1.push _)⟩ ?hS0 ?hR
        case hS0 =>
          have hget : ((s.heap.push { cls := .type "set", dict := none, data := .set #[] 0 (.fresh 0 0 (!w.params.followText "set-order")) }).push { cls := .type "list_iterator", data := .fields #[.ref l, .int 0 0] }).get? s.heap.objs.size
              = some { cls := .type "set", dict := none, data := .set #[] 0 (.fresh 0 0 (!w.params.followText "set-order")) } := Heap.get?_push_of_some _ hS
          exact ⟨0, Nat.le_refl 0, setR_new_at hget⟩
        case hR =>
          intro s' c' hm hc' hS'
          obtain ⟨h', g2, d', tk', os'⟩ := s'
          have eg : g2 = s.gens := hm.gens
          have ed : d' = s.drawn := hm.drawn
          have eo : os' = s.os := hm.os
          subst eg; subst ed; subst eo
          show wpAny _ _ _ _ _ _
          refine wpAny_pure ?_
          show wpAny _ _ (ret Value.none) _ _ _
          rw [hisz] at hc'
          refine wpAny_pure ⟨rfl, h', tk', c', rfl, hS', hc', fun b o e => ?_⟩
          have hb0 : b < s.heap.objs.size := Heap.lt_size e
          have hb1 : b ≠ s.heap.objs.size := Nat.ne_of_lt hb0
          have hb2 : b ≠ (s.heap.push { cls := .type "set", dict := none, data := .set #[] 0 (.fresh 0 0 (!w.params.followText "set-order")) }).objs.size := by
            rw [Heap.size_push]; exact Nat.ne_of_lt (Nat.lt_succ_of_lt hb0)
          exact hm.heap b o (by simp only [List.mem_cons, List.mem_singleton, List.not_mem_nil, or_false, not_or]; exact ⟨hb1, hb2⟩) (Heap.get?_push_of_some _ (Heap.get?_push_of_some _ e))

      · cases r₂ with
        | error e => exact hr₂
        | ok fl₂ =>
          cases fl₂ with
          | ret r =>
            obtain ⟨rfl, h', tk, c', rfl, hS', hc', hk'⟩ := hr₂
            repeat (any_goals (first | assumption | wp_step))
            exact h _ _ _ hS' hc' hk'
          | _ => exact hr₂.elim
    | _ => exact hr.elim

theorem sorted_of_set {S : Int → Bool} {n : Nat} {Q : Value → Shared → Prop} (R : SetR w s.heap a S n) (hh : A.handled = none) (h64 : n < scanBound)
    (hQ : ∀ s' p (out : Array Value) (c : Nat) (ns : List Int), (∀ b o, s.heap.get? b = some o → s'.heap.get? b = some o) → s'.gens = s.gens → s'.os = s.os → s.heap.objs.size ≤ p →
      s'.heap.get? p = some (seqObj "list" out c) → IntsAre out.toList ns → ns.Pairwise (· < ·) → (∀ k, k ∈ ns ↔ S k = true) → ns.length = n → Q (.ref p) s') :
    wpAny (model P w) A (call (.builtin "sorted") [.ref a]) Q E s := by
  obtain ⟨o, es, ep, t, ho, hex, hd, g, nd, hm, hb, hf, hn, hr, hl⟩ := R
  refine Calls.call_function_entry kind_sorted plain_sorted entry_sorted (args_sorted1 _) ?_
  unfold Builtin.«sorted»
  refine wpAny_bind (m := checkCount "sorted" 1 1 _) (wpAny_pure ?_)
  refine wpAny_bind (collect_set (A := A.in1) hh ⟨o, ho, hex.1, hd⟩ hf hb hr hl fun s1 vs k1 hz g1 o1 pm => ?_)
  have hvl : vs.length = n := by rw [pm.length_eq, List.length_map, Array.length_toList]; exact hn
  have hI : IntsAre vs (vs.map Builtin.Re.reRawOf) := ints_of vs fun v hv => by
    obtain ⟨e, he, q⟩ := List.mem_map.mp (pm.mem_iff.mp hv)
    obtain ⟨k, tk, h1, _⟩ := g e he
    exact ⟨k, tk, by rw [← q]; exact h1⟩
  have pk : (vs.map Builtin.Re.reRawOf).Perm (es.toList.map keyOf) := by
    have q := pm.map Builtin.Re.reRawOf
    rw [List.map_map] at q
    exact q
  refine wpAny_bind (wpAny_newList ?_ (by rw [hvl, sizeLine_eq]; unfold scanBound at h64; omega))
  have hoL : (s1.heap.push (seqObj "list" vs.toArray 0)).get? s1.heap.objs.size = some (seqObj "list" vs.toArray 0) := Heap.get?_push_size _ rfl
  refine wpAny_bind (wpAny_holding (wpAny_call_entry slot_list_sort ⟨_, hoL, rfl⟩ entry_list_sort (SrtO.list_sort_ord SrtO.swo_int hoL (by rw [hvl, sizeLine_eq]; unfold scanBound at h64; omega) (fun h2 => SrtO.ints_sortable hI h2) fun out h1 h2 => ⟨_, rfl, ?_⟩) (args_list_sort _)))
  obtain ⟨a1, a2, a3⟩ := SrtO.ints_out hI h1 h2
  obtain ⟨c, hc⟩ := sortedHeap_at (vs := vs) (out := out.toArray) hoL
  have pn : (out.map SrtO.iv).Perm (es.toList.map keyOf) := a2.trans pk
  refine wpAny_pure ⟨_, rfl, hQ _ s1.heap.objs.size out.toArray c (out.map SrtO.iv) (fun b u e => ?_) g1 o1 hz hc a1 (lt_of_le_nodup _ a3 (pn.nodup_iff.mpr nd)) (fun k => by rw [pn.mem_iff, ← hm k]) ?_⟩
  · have q := k1 b u e
    have hlt := Heap.lt_size q
    show (sortedHeap (s1.heap.push (seqObj "list" vs.toArray 0)) s1.heap.objs.size vs out.toArray).get? b = some u
    rw [sortedHeap_old (Nat.ne_of_lt hlt) (by rw [size_push']; exact Nat.lt_succ_of_lt hlt)]
    exact Heap.get?_push_of_some _ q
  · rw [pn.length_eq, List.length_map, Array.length_toList]; exact hn
end
end L2

set_option maxHeartbeats 2000000
/-! L3O: sorted(set(l)), x[e] -= v as readings. -/
namespace L3
open PySem PySem.Spec PyProof.Rows L2
section
variable {K : PySem.W.Frag} {X : Cx} {e a b : Expr} {es : List Expr} {fa fb : FE} {fr : FA} {f f2 : FL} {pos : Pos}
/-- x[e] -= v -/
@[simp ↓] def sAugM (i : Nat) (fi fe : FE) : FS := fun E ρ c => match ρ[i]? with
  | some (.own l) => fi (ρ.map vB) c fun d c => match d with
    | .int k => (0 ≤ k ∧ k < l.length) ∧ match l[k.toNat]? with
      | some (.int x) => fe (ρ.map vB) c fun y c => match y with
        | .int y => E.nx (ρ.set i (.own (l.set k.toNat (.int (x - y))))) c
        | _ => False
      | _ => False
    | _ => False
  | _ => False
theorem sx_augM {st : Stmt} (i : Nat) (h : PS X st (tAugS (tVar i) (tE X.K fa) (tE X.K fb) (rGetN X.K) (ipI fun i j => i - j) rSetL)) : SX X st (sAugM i fa fb) := PS.imp h fun D σ H ⟨p, c, ρ, F, F0, H0, E, s, h, t⟩ => by
  unfold sAugM at h
  split at h
  · rename_i l hi
    obtain ⟨a, xs, e1, e2, e3, e4, e5, r0⟩ := s.own i l hi
    obtain ⟨F2, es, w2, k⟩ := s.lend
    refine ⟨_, e1, p, c, _, F2, _, es, h, fun d c1 v F1 H1 w1 ok1 r1 q1 => ?_⟩
    obtain ⟨F3, s1, w3, k1, k2, _⟩ := k c1 F1 H1 w1 ok1
    obtain ⟨a', xs', g1, g2, g3, g4, g5, r0'⟩ := s1.own i l hi
    rw [e1] at g1
    cases g1
    split at q1
    · rename_i j
      cases (show v = .int j from r1)
      obtain ⟨⟨j0, j1⟩, q⟩ := q1
      split at q
      · rename_i z hz
        obtain ⟨v, hv, rv⟩ := RepL.at' r0' hz
        cases (show v = .int z from rv)
        refine ⟨a, xs', j, .int z, rfl, rfl, .inl (.inl g2), j0, hv, p, c1, _, F1, _, es.fwd w1 ok1, q, fun y c4 u F4 H4 w4 ok4 r4 q4 => ?_⟩
        obtain ⟨F5, s2, w5, k3, k4, _⟩ := k c4 F4 H4 (w1.trans w4) ok4
        obtain ⟨a2, xs2, y1, y2, y3, y4, y5, r2⟩ := s2.own i l hi
        rw [e1] at y1
        cases y1
        split at q4
        · rename_i m
          cases (show u = .int m from r4)
          refine ⟨z, m, rfl, rfl, a, xs2, j, j.toNat, rfl, rfl, y2, by rw [r2.len]; unfold ixN; rw [if_pos j0, if_pos j1], t.nx c4 _ _ F5 _ (s2.put hi e1 (RepL.set (show Rep X.K p F5 (.int (z - m)) (.int (z - m)) from rfl) _ r2)) q4⟩
        · exact q4.elim
      · exact q.elim
    · exact q1.elim
  · exact h.elim
/-- sorted(set(l)), l a list of ints -/
@[simp ↓] def fSortSetL (fa : FE) : FL := fun ρ c Q => fa ρ c fun x c => match x with
  | .lst l => ∃ ns, intsOf l = some ns ∧ ns.length ≤ 4000 ∧ ∀ m : List Int, m.Pairwise (· < ·) → (∀ k, k ∈ m ↔ k ∈ ns) → Q (m.map .int) c
  | _ => False
def tSortSetL (K : PySem.W.Frag) (ta : TE) : TE := fun σ H Q => ta σ H fun x H1 => ∃ (l : Addr) (ns : List Int), x = .ref l ∧ SqL K H1 l (ns.map V.int) ∧ ns.length ≤ 4000 ∧ ∀ (m : List Int) (q : Addr), m.Pairwise (· < ·) → (∀ k, k ∈ m ↔ k ∈ ns) → H1 q = none → Q (.ref q) (upd H1 q (.lst (m.map V.int)))
theorem pe_sortSetL {a : Expr} {ta : TE} {p p2 q pos : Pos} (hg : Gl X "sorted") (hm : X.mg "sorted" = none) (hg2 : Gl X "set") (hm2 : X.mg "set" = none) (ha : PE X a ta) (hc : X.calm = true := by rfl)
    (na : starEach [a] X.env = (false, eval a X.env) :: starEach [] X.env := by rfl) : PE X (.Call (.Name "sorted" p) [.Call (.Name "set" p2) [a] [] q] [] pos) (tSortSetL X.K ta) := by
  refine ⟨fun pins s σ H Q I h => ?_⟩
  refine Call_ (ld_blt I hg hm (by decide +kernel : bootBuiltins "sorted" = some (.builtin "sorted")) ?_)
  refine PyProof.Rows.callWith_builtin1 (PyProof.Rows.args_cons ?_ rfl) rfl rfl
  refine Call_ (ld_blt I hg2 hm2 (by decide +kernel : bootBuiltins "set" = some (.type "set")) ?_)
  refine PyProof.Rows.callWith_type1 (PyProof.Rows.args_cons (thn (ha.run pins s σ H _ I h) fun v s1 ⟨x, H1, I1, r1, q1⟩ => PyProof.Rows.args_nil ?_) na) na rfl
  obtain ⟨l, ns, rfl, hq, hl, q1⟩ := q1
  cases r1
  obtain ⟨its, r, pl, hz⟩ := I1.list hq
  have hi : IntsAre its.toArray.toList ns := by simpa using RZ.intsAre_vals r
  refine set_of_list ns (I1.ok.hd hc) pl.isList hi (by unfold scanBound; omega) fun h' tk c R1 hcn k => ?_
  refine PyProof.Rows.args_nil ?_
  have I2 : Inv X pins σ H1 { s1 with heap := h', toks := tk } := I1.kept fun b o e => k b o e
  refine sorted_of_set (s := { s1 with heap := h', toks := tk }) R1 (I1.ok.hd hc) (by unfold scanBound; omega) fun s' p' out c' ms k2 g o hp hgo hI hs hmm hl2 => ?_
  have hlen : (ms.map V.int).length ≤ sizeLine := by rw [List.length_map, hl2, sizeLine_eq]; omega
  have hn : H1 p' = none := I2.hok.fresh hp
  have J : Inv X pins σ (upd H1 p' (.lst (ms.map V.int))) { s1 with heap := s'.heap, gens := s'.gens, drawn := s'.drawn, toks := s'.toks } :=
    L2.Inv.call (s := { s1 with heap := h', toks := tk }) I2 (ch := []) (Un.laid k2 hp hn) (I2.hok.laid k2 hp ⟨hlen, out.toList, c', vals_of_ints hI, hgo⟩) (by rw [g]; exact I2.bare) (fun _ z => nomatch z)
  have e : s' = { s1 with heap := s'.heap, gens := s'.gens, drawn := s'.drawn, toks := s'.toks } := by
    cases s'
    cases s1
    cases o
    rfl
  rw [e]
  exact ⟨.ref p', _, J, rfl, q1 ms p' hs (fun z => (hmm z).trans decide_eq_true_iff) hn⟩
theorem fx_sortSetL {e : Expr} {p p2 q pos : Pos} (hm : X.mg "sorted" = none) (hm2 : X.mg "set" = none) (ha : EX X e fa) (hg : Gl X "sorted" := by rfl) (hg2 : Gl X "set" := by rfl) (hc : X.calm = true := by rfl) (na : starEach [e] X.env = (false, eval e X.env) :: starEach [] X.env := by rfl) :
    FX X (.Call (.Name "sorted" p) [.Call (.Name "set" p2) [e] [] q] [] pos) (fSortSetL fa) := PE.imp (pe_sortSetL hg hm hg2 hm2 ha hc na) fun σ H Q ⟨p, c, ρ, F, Q', es, h, t⟩ =>
  ⟨p, c, ρ, F, _, es, h, fun d c1 v F1 H1 w1 ok1 r1 q1 => by
    split at q1
    · obtain ⟨b, xs, rfl, h1, rl⟩ := r1
      obtain ⟨ns, e1, hl, q⟩ := q1
      refine ⟨b, ns, rfl, by rw [← RepL.ints rl e1]; exact .of (ok1.sub _ _ h1), hl, fun m a hp hs nq => ?_⟩
      obtain ⟨w, ok, n1, n2, n3⟩ := layL w1 ok1 nq (m.map V.int)
      exact t _ c1 a _ F1 _ w ok n1 n2 n3 upd_same (rep_ints m) (q m hp hs)
    · exact q1.elim⟩
/-- sum(t), t a list or a tuple of ints -/
def rSumT (K : PySem.W.Frag) : List V → Hp → VK → Prop := fun vs H Q => ∃ (a : Addr) (ns : List Int), vs = [V.ref a] ∧ SqT K H a (ns.map V.int) ∧ Q (.int ns.sum) H
theorem cr_sumT (hc : X.calm = true) : CallR X (.builtin "sum") (rSumT X.K) := by
  intro pins s σ H vs us Q I r h
  obtain ⟨a, ns, rfl, hs, q⟩ := h
  obtain ⟨its, rv, hl, _⟩ := I.tuple hs
  rw [Vals.ref1 r]
  have hi := rv.ints
  obtain ⟨xs, e⟩ := hi.allInts.items
  have hn : numsOf (intItems xs).toList = ns := by rw [← e]; exact hi.numsOf
  rw [nums_intItems] at hn
  have hl : s.heap.IsTuple a its.toArray := hl
  rw [e] at hl
  refine PySem.W.ktm_sumG (I.ok.hd hc) hl fun h' tk t' hk => ?_
  rw [preSum_eq, List.take_of_length_le (by simp), hn]
  exact ⟨.int _, H, I.kept hk, ⟨_, rfl⟩, q⟩
theorem cr_sum2 (hc : X.calm = true) : CallR X (.builtin "sum") fun vs H Q => rSum X.K vs H Q ∨ rSumT X.K vs H Q := CallR.or (cr_sum hc) (cr_sumT hc)
@[simp ↓] def sum2M : FM := fun l c Q => match l with
  | [.lst m] => (match intsOf m with | some ns => Q (.int ns.sum) c | none => False)
  | [.tup m] => (match intsOf m with | some ns => Q (.int ns.sum) c | none => False)
  | _ => False
theorem sum2S : CallS K (fun vs H Q => rSum K vs H Q ∨ rSumT K vs H Q) sum2M := by
  intro p c F H l vs Q' Q ok r h t
  unfold sum2M at h
  split at h
  · split at h
    · rename_i bs e
      obtain ⟨v, rfl, a, xs, rfl, h1, r1⟩ := r.one
      exact .inl ⟨a, bs, rfl, by rw [← r1.ints e]; exact ok_lst ok h1, tellI ok t h⟩
    · exact h.elim
  · split at h
    · rename_i bs e
      obtain ⟨v, rfl, a, xs, rfl, h1, r1⟩ := r.one
      exact .inr ⟨a, bs, rfl, by rw [← r1.ints e]; exact ok.sqT h1, tellI ok t h⟩
    · exact h.elim
  · exact h.elim
/-- x[i] = e, i also from the end -/
@[simp ↓] def sSetN (i : Nat) (fe fi : FE) : FS := fun E ρ c => match ρ[i]? with
  | some (.own l) => fe (ρ.map vB) c fun y c => fi (ρ.map vB) c fun d c => match d with
    | .int k => (match ixN l.length k with
      | some j => noLst y = true ∧ E.nx (ρ.set i (.own (l.set j y))) c
      | none => False)
    | _ => False
  | _ => False
theorem sx_setN {st : Stmt} (i : Nat) (h : PS X st (tAsg (tE X.K fa) (gSub (tVar i) (tE X.K fb) rSetL))) : SX X st (sSetN i fa fb) := PS.imp h fun D σ H ⟨p, c, ρ, F, F0, H0, E, s, h, t⟩ => by
  unfold sSetN at h
  split at h
  · rename_i l hi
    obtain ⟨a, xs, e1, e2, e3, e4, e5, r0⟩ := s.own i l hi
    obtain ⟨F2, es, w2, k⟩ := s.lend
    refine ⟨p, c, _, F2, _, es, h, fun y c1 v F1 H1 w1 ok1 r1 q1 => ⟨_, e1, p, c1, _, F1, _, es.fwd w1 ok1, q1, fun d c4 u F4 H4 w4 ok4 r4 q4 => ?_⟩⟩
    obtain ⟨F3, s1, w3, k1, k2, _⟩ := k c4 F4 H4 (w1.trans w4) ok4
    obtain ⟨a', xs', g1, g2, g3, g4, g5, r0'⟩ := s1.own i l hi
    rw [e1] at g1
    cases g1
    split at q4
    · rename_i j
      cases (show u = .int j from r4)
      split at q4
      · rename_i k hk
        obtain ⟨nl, q⟩ := q4
        exact ⟨a, xs', j, k, rfl, rfl, g2, by rw [r0'.len]; exact hk, t.nx c4 _ _ F3 _ (s1.put hi e1 (RepL.set (k1 _ _ nl (r1.mono w4.frz)) _ r0')) q⟩
      · exact q4.elim
    · exact q4.elim
  · exact h.elim
end
end L3

set_option maxHeartbeats 2000000
/-! L3A: dicts of a def's own, their keys ints or texts. -/
namespace L3
open PySem PySem.Spec PyProof.Rows L2
def keyD : D → Option Key
  | .int i => some (.inl i)
  | .str x => some (.inr x)
  | _ => none
def keysD : List D → Option (List Key)
  | [] => some []
  | d :: l => match keyD d, keysD l with
    | some k, some ks => some (k :: ks)
    | _, _ => none
section
variable {κ : Type} [DecidableEq κ]
def hasK (ks : List κ) (k : κ) : Bool := ks.any fun a => decide (a = k)
def putKs (ks : List κ) (k : κ) : List κ := if hasK ks k = true then ks else ks ++ [k]
def putDs (ks : List κ) (l : List D) (k : κ) (d : D) : List D := if hasK ks k = true then List.zipWith (fun a x => if a = k then d else x) ks l else l ++ [d]
def getDs : List κ → List D → κ → Option D
  | a :: r, x :: l, k => if a = k then some x else getDs r l k
  | _, _, _ => none
variable {K : PySem.W.Frag} {p : Pn} {F : Hp}
theorem rep_getD : ∀ {kvs : List (κ × V)} {l : List D} {k : κ} {d : D}, RepL K p F l (kvs.map (·.2)) → getDs (kvs.map (·.1)) l k = some d → ∃ v, valV kvs k = some v ∧ Rep K p F d v
  | [], l, k, d, _, e => by cases l <;> cases e
  | kv :: kvs, [], k, d, r, e => by cases e
  | kv :: kvs, x :: l, k, d, r, e => by
    obtain ⟨v, w, e1, r1, r2⟩ := r
    cases e1
    by_cases h : kv.1 = k
    · have e : (if kv.1 = k then some x else getDs (kvs.map (·.1)) l k) = some d := e
      rw [if_pos h] at e
      cases e
      exact ⟨kv.2, valV_pos h, r1⟩
    · have e : (if kv.1 = k then some x else getDs (kvs.map (·.1)) l k) = some d := e
      rw [if_neg h] at e
      obtain ⟨v, g1, g2⟩ := rep_getD r2 e
      exact ⟨v, (valV_neg h).trans g1, g2⟩
theorem any_mem (k : κ) : ∀ kvs : List (κ × V), (kvs.any fun kv => decide (kv.1 = k)) = hasK (kvs.map (·.1)) k
  | [] => rfl
  | kv :: kvs => by
    show (decide (kv.1 = k) || kvs.any fun kv => decide (kv.1 = k)) = (decide (kv.1 = k) || hasK (kvs.map (·.1)) k)
    rw [any_mem k kvs]
theorem rep_putD {kvs : List (κ × V)} {l : List D} {k : κ} {d : D} {v : V} (r : RepL K p F l (kvs.map (·.2))) (rd : Rep K p F d v) : (putK kvs k v).map (·.1) = putKs (kvs.map (·.1)) k ∧ RepL K p F (putDs (kvs.map (·.1)) l k d) ((putK kvs k v).map (·.2)) := by
  unfold putK putKs putDs
  rw [any_mem]
  by_cases h : hasK (kvs.map (·.1)) k = true
  · rw [if_pos h, if_pos h, if_pos h]
    clear h
    constructor
    · rw [List.map_map]
      refine List.map_congr_left fun kv _ => ?_
      show (if kv.1 = k then (kv.1, v) else kv).1 = kv.1
      split <;> rfl
    · induction kvs generalizing l with
      | nil => cases l with
        | nil => exact rfl
        | cons x l => obtain ⟨_, _, e, _⟩ := r; cases e
      | cons kv kvs ih =>
        cases l with
        | nil => cases (show _ = _ from r)
        | cons x l =>
          obtain ⟨y, w, e, r1, r2⟩ := r
          cases e
          refine ⟨_, _, rfl, ?_, ih r2⟩
          show Rep K p F (if kv.1 = k then d else x) (if kv.1 = k then (kv.1, v) else kv).2
          split
          · exact rd
          · exact r1
  · rw [if_neg h, if_neg h, if_neg h, List.map_append, List.map_append]
    exact ⟨rfl, r.app ⟨v, [], rfl, rd, rfl⟩⟩
end
section
variable {K : PySem.W.Frag} {p : Pn} {F : Hp}
theorem Rep.key {d : D} {v : V} {k : Key} (r : Rep K p F d v) (e : keyD d = some k) : v = kV k := by
  cases d <;> cases e
  · exact r
  · exact r
theorem RepL.keys : ∀ {l : List D} {vs : List V} {ks : List Key}, RepL K p F l vs → keysD l = some ks → vs = ks.map kV
  | [], vs, ks, r, e => by cases e; exact r
  | d :: l, vs, ks, r, e => by
    obtain ⟨v, w, rfl, r1, r2⟩ := r
    unfold keysD at e
    split at e
    · rename_i k ks' e1 e2
      cases e
      rw [r1.key e1, RepL.keys r2 e2]
      rfl
    · cases e
end
/-- what a dict holds at a key -/
def getKs (ks : Ks) (l : List D) (x : D) : Option D := match ks with
  | .k ks => (keyD x).bind fun k => getDs ks l k
  | .t ks => match x with
    | .tup xs => (keysD xs).bind fun k => getDs ks l k
    | _ => none
/-- a dict with one more entry, or another one -/
def puKs (ks : Ks) (l : List D) (x d : D) : Option (Ks × List D) := match ks with
  | .k ks => (keyD x).map fun k => (.k (putKs ks k), putDs ks l k d)
  | .t ks => match x with
    | .tup xs => (keysD xs).map fun k => (.t (putKs ks k), putDs ks l k d)
    | _ => none
section
variable {K : PySem.W.Frag} {p : Pn} {c c' : Nat} {ρ : Env3} {σ : L2.St} {F H F0 H0 F' H' : Hp}
/-- a new dict of its own -/
theorem SSt.setDic (s : SSt K p c ρ σ F H F0 H0) (i : Nat) {ks : Ks} {l : List D} {a : Addr} {o : HO} {vs : List V} (h1 : H a = some o) (h2 : F a = none) (h3 : H0 a = none) (h4 : p.pot ≠ some a) (hk : DicO ks vs o) (r : RepL K p F l vs)
    (h5 : ∀ (j : Nat) (ks : Ks) (m : List D), j ≠ i → ρ[j]? = some (SV.dic ks m) → σ[j]? ≠ some (some (V.ref a))) : SSt K p c (ρ.set i (SV.dic ks l)) (σ.set i (some (.ref a))) F H F0 H0 where
  ok := s.ok
  ent := s.ent
  len := by rw [List.length_set, List.length_set, s.len]
  val := fun j d' e => by
    rcases set_get e with ⟨rfl, hl, q⟩ | ⟨n, q⟩
    · cases q
    · rw [List.getElem?_set_ne (Ne.symm n)]
      exact s.val j d' q
  own := fun j l e => by
    rcases set_get e with ⟨rfl, hl, q⟩ | ⟨n, q⟩
    · cases q
    · rw [List.getElem?_set_ne (Ne.symm n)]
      exact s.own j l q
  sep := fun j k l m a e1 e2 e3 e4 => by
    rcases set_get e1 with ⟨rfl, hl, q⟩ | ⟨n, q⟩
    · cases q
    rcases set_get e2 with ⟨rfl, hl, q2⟩ | ⟨n2, q2⟩
    · cases q2
    rw [List.getElem?_set_ne (Ne.symm n)] at e3
    rw [List.getElem?_set_ne (Ne.symm n2)] at e4
    exact s.sep j k l m a q q2 e3 e4
  dic := fun j ks' l' e => by
    rcases set_get e with ⟨rfl, hl, q⟩ | ⟨n, q⟩
    · cases q
      exact ⟨a, o, vs, List.getElem?_set_self (by rw [← s.len]; exact hl), h1, h2, h3, h4, hk, r⟩
    · rw [List.getElem?_set_ne (Ne.symm n)]
      exact s.dic j ks' l' q
  sepd := fun j k ks1 ks2 l m b e1 e2 e3 e4 => by
    rcases set_get e1 with ⟨rfl, hl, q⟩ | ⟨n, q⟩
    · rcases set_get e2 with ⟨rfl, hl, q2⟩ | ⟨n2, q2⟩
      · rfl
      · rw [List.getElem?_set_self (by rw [← s.len]; exact hl)] at e3
        rw [List.getElem?_set_ne (Ne.symm n2)] at e4
        cases e3
        exact absurd e4 (h5 k ks2 m n2 q2)
    · rw [List.getElem?_set_ne (Ne.symm n)] at e3
      rcases set_get e2 with ⟨rfl, hl, q2⟩ | ⟨n2, q2⟩
      · rw [List.getElem?_set_self (by rw [← s.len]; exact hl)] at e4
        cases e4
        exact absurd e3 (h5 j ks1 l n q)
      · rw [List.getElem?_set_ne (Ne.symm n2)] at e4
        exact s.sepd j k ks1 ks2 l m b q q2 e3 e4
theorem tabs_putD {p : Pn} {H : Hp} {a : Addr} {ks : Ks} {vs : List V} {o o2 : HO} (t : Tab3 p H) (h : H a = some o) (hd : DicO ks vs o) : Tab3 p (upd H a o2) := ⟨fun q hq => by
  obtain ⟨ps, h1, h2, h3⟩ := t.tabs q hq
  refine ⟨ps, by rw [upd_ne (ne_of h1 h (fun z => hd.no (fun _ q => nomatch z.trans q) (fun _ q => nomatch z.trans q)))]; exact h1, h2, fun pos cv hc => ?_⟩
  obtain ⟨c, e1, e2⟩ := h3 pos cv hc
  exact ⟨c, e1, by rw [upd_ne (ne_of e2 h (fun z => hd.no (fun _ q => nomatch z.trans q) (fun _ q => nomatch z.trans q)))]; exact e2⟩, fun q hq => by
  have e2 := t.cod q hq
  rw [upd_ne (ne_of e2 h (fun z => hd.no (fun _ q => nomatch z.trans q) (fun _ q => nomatch z.trans q)))]; exact e2⟩
/-- an own dict is changed -/
theorem SSt.putDic (s : SSt K p c ρ σ F H F0 H0) {i : Nat} {ks ks' : Ks} {l l' : List D} {a : Addr} {o' : HO} {vs' : List V} (hi : ρ[i]? = some (SV.dic ks l)) (ha : σ[i]? = some (some (V.ref a))) (hk : DicO ks' vs' o') (r : RepL K p F l' vs') :
    SSt K p c (ρ.set i (SV.dic ks' l')) σ F (upd H a o') F0 H0 := by
  obtain ⟨a', oo, xs, e1, e2, e3, e4, e5, e6, r0⟩ := s.dic i ks l hi
  rw [ha] at e1
  cases e1
  have neF : ∀ b o, F b = some o → b ≠ a := fun b o h => ne_of_none h e3
  refine ⟨⟨fun b o h => by rw [upd_ne (neF b o h)]; exact s.ok.sub b o h, fun b hb => ?_, tabs_putD s.ok.tab e2 e6, s.ok.nt⟩, ⟨s.ent.frz, fun b o h n t => by rw [upd_ne (ne_of_none h e4)]; exact s.ent.keep b o h n t, s.ent.new, fun b h => ?_⟩, by rw [List.length_set, s.len], fun j d e => ?_, fun j m e => ?_, fun j k m m' b f1 f2 f3 f4 => ?_, fun j ks1 m e => ?_, fun j k ks1 ks2 m m' b f1 f2 f3 f4 => ?_⟩
  · obtain ⟨⟨x, y, z, q, w⟩, n⟩ := s.ok.pot b hb
    have ne : b ≠ a := fun e => e5 (e ▸ hb)
    exact ⟨⟨x, y, z, by rw [upd_ne ne]; exact q, w⟩, n⟩
  · by_cases e : b = a
    · subst e; exact e4
    · rw [upd_ne e] at h; exact s.ent.there b h
  · rcases set_get e with ⟨rfl, hl, q⟩ | ⟨n, q⟩
    · cases q
    · exact s.val j d q
  · rcases set_get e with ⟨rfl, hl, q⟩ | ⟨n, q⟩
    · cases q
    · obtain ⟨b, ys, g1, g2, g3, g4, g5, g6⟩ := s.own j m q
      have ne : b ≠ a := fun e => by rw [e, e2] at g2; cases g2; exact e6.no (fun _ q => nomatch q) (fun _ q => nomatch q)
      exact ⟨b, ys, g1, by rw [upd_ne ne]; exact g2, g3, g4, g5, g6⟩
  · rcases set_get f1 with ⟨rfl, hl, q⟩ | ⟨n, q⟩
    · cases q
    rcases set_get f2 with ⟨rfl, hl, q2⟩ | ⟨n2, q2⟩
    · cases q2
    exact s.sep j k m m' b q q2 f3 f4
  · rcases set_get e with ⟨rfl, hl, q⟩ | ⟨n, q⟩
    · cases q
      exact ⟨a, o', vs', ha, upd_same, e3, e4, e5, hk, r⟩
    · obtain ⟨b, ob, ys, g1, g2, g3, g4, g5, g6, g7⟩ := s.dic j ks1 m q
      have ne : b ≠ a := fun e => n (s.sepd j i ks1 ks m l a q hi (e ▸ g1) ha)
      exact ⟨b, ob, ys, g1, by rw [upd_ne ne]; exact g2, g3, g4, g5, g6, g7⟩
  · have get : ∀ {j : Nat} {ks1 : Ks} {m : List D}, (ρ.set i (SV.dic ks' l'))[j]? = some (SV.dic ks1 m) → ∃ ks2 m', ρ[j]? = some (SV.dic ks2 m') := fun {j ks1 m} e => by
      rcases set_get e with ⟨rfl, hl, q⟩ | ⟨n, q⟩
      · exact ⟨ks, l, hi⟩
      · exact ⟨ks1, m, q⟩
    obtain ⟨_, _, q1⟩ := get f1
    obtain ⟨_, _, q2⟩ := get f2
    exact s.sepd j k _ _ _ _ b q1 q2 f3 f4
/-- nothing is known of a slot any more -/
theorem SSt.drop (s : SSt K p c ρ σ F H F0 H0) (i : Nat) : SSt K p c (ρ.set i SV.no) σ F H F0 H0 :=
  ⟨s.ok, s.ent, by rw [List.length_set, s.len], fun j d e => (set_get e).elim (fun ⟨_, _, q⟩ => nomatch q) fun ⟨_, q⟩ => s.val j d q, fun j d e => (set_get e).elim (fun ⟨_, _, q⟩ => nomatch q) fun ⟨_, q⟩ => s.own j d q,
    fun j k l m a e1 e2 e3 e4 => (set_get e1).elim (fun ⟨_, _, q⟩ => nomatch q) fun ⟨_, q⟩ => (set_get e2).elim (fun ⟨_, _, q⟩ => nomatch q) fun ⟨_, q2⟩ => s.sep j k l m a q q2 e3 e4,
    fun j ks d e => (set_get e).elim (fun ⟨_, _, q⟩ => nomatch q) fun ⟨_, q⟩ => s.dic j ks d q,
    fun j k ks ks' l m a e1 e2 e3 e4 => (set_get e1).elim (fun ⟨_, _, q⟩ => nomatch q) fun ⟨_, q⟩ => (set_get e2).elim (fun ⟨_, _, q⟩ => nomatch q) fun ⟨_, q2⟩ => s.sepd j k ks ks' l m a q q2 e3 e4⟩
end
abbrev FD := Rho → Nat → (Ks → List D → Nat → Prop) → Prop
/-- an expression whose value is a new dict -/
def tD (K : PySem.W.Frag) (f : FD) : TE := fun σ H Q => ∃ p c ρ F Q', ESt K p c ρ σ F H ∧ f ρ c Q' ∧
  ∀ ks l c' a o vs F' H', Fwd p F H F' H' → Ok3 p c' F' H' → H a = none → F' a = none → p.pot ≠ some a → H' a = some o → DicO ks vs o → RepL K p F' l vs → Q' ks l c' → Q (.ref a) H'
abbrev DX (X : Cx) (e : Expr) (f : FD) : Prop := PE X e (tD X.K f)
section
variable {K : PySem.W.Frag} {X : Cx} {e a b o i v : Expr} {f : FD} {fa fb fo fi fe : FE} {pos pos' : Pos}
theorem layD {p : Pn} {c : Nat} {F H F1 H1 : Hp} (w : Fwd p F H F1 H1) (ok : Ok3 p c F1 H1) {q : Addr} (nq : H1 q = none) (o : HO) :
    Fwd p F H F1 (upd H1 q o) ∧ Ok3 p c F1 (upd H1 q o) ∧ H q = none ∧ F1 q = none ∧ p.pot ≠ some q := by
  have nF : F1 q = none := by
    cases e : F1 q with
    | none => rfl
    | some u => rw [ok.sub q u e] at nq; cases nq
  have np : p.pot ≠ some q := fun e => by
    obtain ⟨⟨x, y, z, h, _⟩, _⟩ := ok.pot q e
    rw [nq] at h; cases h
  refine ⟨⟨w.frz, fun b u h n t => ?_, w.new, fun b h => ?_⟩, ⟨fun b u h => ?_, fun b e => ?_, ok.tab.ext fun b u h => by rw [upd_ne (ne_of_none h nq)]; exact h, ok.nt⟩, w.there q nq, nF, np⟩
  · have := w.keep b u h n t
    rw [upd_ne (ne_of_none this nq)]; exact this
  · by_cases e : b = q
    · subst e; exact w.there _ nq
    · rw [upd_ne e] at h; exact w.there b h
  · rw [upd_ne (ne_of_none h nF)]; exact ok.sub b u h
  · obtain ⟨⟨x, y, z, h, r⟩, n⟩ := ok.pot b e
    exact ⟨⟨x, y, z, by rw [upd_ne (ne_of_none h nq)]; exact h, r⟩, n⟩
@[simp ↓] def dNew : FD := fun _ c Q => Q (.k []) [] c
theorem dx_new : DX X (.Dict [] [] pos) dNew := PE.imp pe_dnewK fun σ H Q ⟨p, c, ρ, F, Q', es, h, t⟩ q nq => by
  obtain ⟨w, ok, n1, n2, n3⟩ := layD (Fwd.refl p F H) es.ok nq (.dK [])
  exact t (.k []) [] c q _ [] F _ w ok n1 n2 n3 upd_same ⟨[], rfl, rfl, rfl⟩ rfl h
/-- .. whose keys will be tuples -/
@[simp ↓] def dNewT : FD := fun _ c Q => Q (.t []) [] c
theorem dx_newT : DX X (.Dict [] [] pos) dNewT := PE.imp pe_dnewT fun σ H Q ⟨p, c, ρ, F, Q', es, h, t⟩ q nq => by
  obtain ⟨w, ok, n1, n2, n3⟩ := layD (Fwd.refl p F H) es.ok nq (.dT [])
  exact t (.t []) [] c q _ [] F _ w ok n1 n2 n3 upd_same ⟨[], rfl, rfl, rfl⟩ rfl h
/-- x = a new dict -/
@[simp ↓] def sDic (n : Nat) (f : FD) : FS := fun E ρ c => f (ρ.map vB) c fun ks l c => noLstL l = true ∧ E.nx (ρ.set n (.dic ks l)) c
theorem sx_dic (n : Nat) {x : Str} {px : Pos} (h : DX X e f) (hN : X.N.Nodup) (hi : X.N[n]? = some x := by rfl) (hx : Loc X.env.scope x := by first | exact Or.inl rfl | exact Or.inr rfl) (hs : swapsWith e (some (.Name x px)) pos.line X.env = pure false := by rfl)
    (hf : X.fn x = true ∨ X.env.scope.names.lookup x = some .local := by first | exact .inl rfl | exact .inr rfl) : SX X (.Assign [.Name x px] e pos) (sDic n f) := PS.imp (ps_set hN hi hx h hs hf) fun D σ H ⟨p, c, ρ, F, F0, H0, E, s, h, t⟩ => by
  obtain ⟨F2, es, w2, k⟩ := s.lend
  refine ⟨p, c, _, F2, _, es, h, fun ks l c1 a o vs F1 H1 w1 ok1 n1 n2 n3 h1 hk r1 q1 => ?_⟩
  obtain ⟨F3, s3, w3, _, k2, k3⟩ := k c1 F1 H1 w1 ok1
  have n4 : F3 a = none := k3 a n2
  refine t.nx c1 _ _ F3 H1 (s3.setDic n h1 n4 (s.ent.there a n1) n3 hk (k2 l _ q1.1 r1) fun j ks m _ e1 e2 => ?_) q1.2
  obtain ⟨b, ob, ys, g1, g2, _⟩ := s.dic j ks m e1
  rw [e2] at g1
  cases g1
  rw [n1] at g2
  cases g2
/-- o[i], o a dict -/
@[simp ↓] def dgD : D → D → Nat → KD → Prop
  | .dct ks l, x, c, Q => (match getKs ks l x with
    | some d => Q d c
    | none => False)
  | _, _, _, _ => False
theorem DicO.get {K : PySem.W.Frag} {p : Pn} {F : Hp} {ks : Ks} {l : List D} {vs : List V} {o : HO} {x d : D} {v : V} (h : DicO ks vs o) (rl : RepL K p F l vs) (rx : Rep K p F x v) (e : getKs ks l x = some d) :
    ∃ w, Rep K p F d w ∧ ((∃ kvs k, o = .dK kvs ∧ v = kV k ∧ valV kvs k = some w) ∨ ∃ kvs k b, o = .dT kvs ∧ v = .ref b ∧ SqT K F b (k.map kV) ∧ valV kvs k = some w) := by
  cases ks with
  | k ks =>
    obtain ⟨kvs, h1, h2, h3⟩ := h
    obtain ⟨k, ek, e⟩ := Option.bind_eq_some_iff.mp e
    subst h2 h3
    obtain ⟨w, g1, g2⟩ := rep_getD rl e
    exact ⟨w, g2, .inl ⟨kvs, k, h1, rx.key ek, g1⟩⟩
  | t ks =>
    obtain ⟨kvs, h1, h2, h3⟩ := h
    cases x with
    | tup xs =>
      obtain ⟨k, ek, e⟩ := Option.bind_eq_some_iff.mp e
      subst h2 h3
      obtain ⟨w, g1, g2⟩ := rep_getD rl e
      obtain ⟨b, ys, r1, r2, r3⟩ := rx
      rw [r3.keys ek] at r2
      exact ⟨w, g2, .inr ⟨kvs, k, b, h1, r1, r2, g1⟩⟩
    | _ => cases e
/-- .. and the hand layer's reading of it, the key any tuple -/
def DGetS (K : PySem.W.Frag) (H : Hp) (a : Addr) (y : V) (r : Option V) : Prop :=
  (∃ kvs k, H a = some (.dK kvs) ∧ y = kV k ∧ r = valV kvs k) ∨ ∃ kvs k b, H a = some (.dT kvs) ∧ y = .ref b ∧ SqT K H b (k.map kV) ∧ r = valV kvs k
def tDGetS (K : PySem.W.Frag) (td ty : TE) : TE := fun σ H Q => td σ H fun x H1 => ty σ H1 fun y H2 => ∃ a v, x = .ref a ∧ DGetS K H2 a y (some v) ∧ Q v H2
theorem key_ofS {pins : List (Addr × Obj)} {σ : L2.St} {H : Hp} {s : Shared} {a : Addr} {ks : List Key} (I : Inv X pins σ H s) (e : SqT X.K H a (ks.map kV)) : (tupleKind (mixKind X.prog X.w)).is s.heap ks a := by
  obtain ⟨its, r, ⟨o, h1, h2, n, h3⟩, _⟩ := I.tuple e
  exact ⟨o, its.toArray, n, h1, h2, h3, by simpa using items_are r⟩
theorem pe_dgetS {td ty : TE} (hu : X.A.units + 1 < cLine) (ho : PE X o td) (hi : PE X i ty) (hs : NoSl i) : PE X (.Subscript o i pos) (tDGetS X.K td ty) := by
  refine ⟨fun pins s σ H Q I h => ?_⟩
  refine subD_of PySem.F.slot_dict_getitem.lookup hs (thn (ho.run pins s σ H _ I h) fun u s1 ⟨x, H1, I1, rx, q1⟩ => thn (hi.run pins s1 σ H1 _ I1 q1) fun iv s2 ⟨y, H2, I2, ry, a, v, ex, g, q2⟩ => ?_)
  subst ex
  obtain rfl : u = Value.ref a := rx
  rcases g with ⟨kvs, k, e, ey, l⟩ | ⟨kvs, k, b, e, ey, eb, l⟩
  · have g : DGet H2 a y (some v) := by rw [ey, l]; exact DGet.k e
    exact ⟨dict_typeIs I2 g, d_getItem hu I2 g ry fun w' s3 I3 rw' => ⟨v, H2, I3, rw', q2⟩⟩
  · subst ey
    cases (show iv = Value.ref b from ry)
    obtain ⟨z, hd, xs, rel, dd⟩ := dt_rd I2.hok (.inl e)
    refine ⟨let ⟨o, _, _, hq, hc, _⟩ := dd; ⟨o, hq, hc.1⟩, ?_⟩
    obtain ⟨w', hw, rw'⟩ := RelO.some_of (v := v) (o := (atKey xs k).map (·.2)) (by rw [l]; exact rel.val k)
    obtain ⟨p, hp, hp2⟩ := Option.map_eq_some_iff.mp hw
    refine wpAny_getItem_heap (tupleKind_room_in1 hu) (key_ofS I2 eb) dd hp ?_
    rw [hp2]
    exact ⟨v, H2, I2.tok _, rw', q2⟩
theorem ex_dget (hu : X.A.units + 1 < cLine) (ho : EX X o fo) (hi : EX X i fi) (hs : NoSl i) : EX X (.Subscript o i pos) (eOp dgD fo fi) := PE.imp (pe_dgetS hu ho hi hs) fun σ H Q ⟨p, c, ρ, F, Q', es, h, t⟩ => by
  refine ⟨p, c, ρ, F, _, es, h, fun x c1 u F1 H1 w1 ok1 r1 q1 => ⟨p, c1, ρ, F1, _, es.fwd w1 ok1, q1, fun y c2 v F2 H2 w2 ok2 r2 q2 => ?_⟩⟩
  have r1' := r1.mono w2.frz
  unfold dgD at q2
  split at q2
  · obtain ⟨a, o, vs, rfl, h1, hk, rl⟩ := r1'
    split at q2
    · rename_i d ed
      obtain ⟨w, g2, g⟩ := hk.get rl r2 ed
      refine ⟨a, w, rfl, ?_, (t.fwd w1).fwd w2 _ _ _ _ _ (Fwd.refl ..) ok2 g2 q2⟩
      have h2 := ok2.sub _ _ h1
      rcases g with ⟨kvs, k, rfl, e1, e2⟩ | ⟨kvs, k, b, rfl, e1, e2, e3⟩
      · exact .inl ⟨kvs, k, h2, e1, e2.symm⟩
      · exact .inr ⟨kvs, k, b, h2, e1, Sub.sqT ok2.sub e2, e3.symm⟩
    · exact q2.elim
  · exact q2.elim
/-- x[i] = e, x an own dict, its keys no tuples -/
@[simp ↓] def sDput (n : Nat) (fe fi : FE) : FS := fun E ρ c => match ρ[n]? with
  | some (.dic (.k ks) l) => fe (ρ.map vB) c fun d c => fi (ρ.map vB) c fun x c => (match keyD x with
    | some k => (noLst d = true ∧ l.length < 16777216) ∧ E.nx (ρ.set n (.dic (.k (putKs ks k)) (putDs ks l k d))) c
    | none => False)
  | _ => False
theorem sx_dput (n : Nat) {value : Expr} {p1 : Pos} {x : Str} (hu : X.A.units + 1 < cLine) (hv : EX X value fe) (hi : EX X i fi) (pv : PE X (.Name x p1) (tVar n)) (hs : swapsWith value (some (.Subscript (.Name x p1) i pos')) pos.line X.env = pure false := by rfl) :
    SX X (.Assign [.Subscript (.Name x p1) i pos'] value pos) (sDput n fe fi) := PS.imp (ps_dput hu pv hi hv hs) fun D σ H ⟨p, c, ρ, F, F0, H0, E, s, h, t⟩ => by
  unfold sDput at h
  split at h
  · rename_i ks l hn
    obtain ⟨a, o, vs, e1, e2, e3, e4, e5, e6, r0⟩ := s.dic n (.k ks) l hn
    obtain ⟨F2, es, w2, k⟩ := s.lend
    refine ⟨p, c, _, F2, _, es, h, fun y c1 v F1 H1 w1 ok1 r1 q1 => ⟨_, e1, p, c1, _, F1, _, es.fwd w1 ok1, q1, fun d c4 u F4 H4 w4 ok4 r4 q4 => ?_⟩⟩
    obtain ⟨F3, s1, w3, k1, k2, _⟩ := k c4 F4 H4 (w1.trans w4) ok4
    obtain ⟨a', o', vs', g1, g2, g3, g4, g5, g6, r0'⟩ := s1.dic n (.k ks) l hn
    rw [e1] at g1
    cases g1
    obtain ⟨kvs, rfl, g6, g7⟩ := g6
    split at q4
    · rename_i kk ek
      obtain ⟨⟨nl, hl⟩, q⟩ := q4
      rw [← g7] at r0'
      obtain ⟨z1, z2⟩ := rep_putD (k := kk) r0' (k1 _ _ nl (r1.mono w4.frz))
      rw [g6] at z1 z2
      refine ⟨a, _, rfl, ?_, t.nx c4 _ _ F3 _ (s1.putDic (ks' := .k _) (o' := .dK (putK kvs kk v)) hn e1 ⟨_, rfl, z1, rfl⟩ z2) q⟩
      rw [r4.key ek]
      refine DPut.k g2 ?_
      have := r0'.len
      rw [List.length_map] at this
      rw [line16, this]
      exact hl
    · exact q4.elim
  · exact h.elim
/-- x[i, j] = e, x an own dict, its keys tuples, the key told there -/
@[simp ↓] def sDputT (n : Nat) (fe : FE) (fr : FA) : FS := fun E ρ c => match ρ[n]? with
  | some (.dic (.t ks) l) => fe (ρ.map vB) c fun d c => fr (ρ.map vB) c fun x c => (match keysD x with
    | some k => ((noLst d = true ∧ x.length ≤ 16777216) ∧ l.length < 16777216) ∧ E.nx (ρ.set n (.dic (.t (putKs ks k)) (putDs ks l k d))) c
    | none => False)
  | _ => False
theorem sx_dputT (n : Nat) {value : Expr} {p1 : Pos} {x : Str} {es : List Expr} {x1} {tpos : Pos} {fr : FA} (hu : X.A.units + 1 < cLine) (hv : EX X value fe) (hi : AX X es fr) (pv : PE X (.Name x p1) (tVar n)) (hs : swapsWith value (some (.Subscript (.Name x p1) (.Tuple es x1 tpos) pos')) pos.line X.env = pure false := by rfl) :
    SX X (.Assign [.Subscript (.Name x p1) (.Tuple es x1 tpos) pos'] value pos) (sDputT n fe fr) := PS.imp (ps_dput hu pv (pe_tup hi) hv hs) fun D σ H ⟨p, c, ρ, F, F0, H0, E, s, h, t⟩ => by
  unfold sDputT at h
  split at h
  · rename_i ks l hn
    obtain ⟨a, o, vs, e1, e2, e3, e4, e5, e6, r0⟩ := s.dic n (.t ks) l hn
    obtain ⟨F2, es, w2, k⟩ := s.lend
    refine ⟨p, c, _, F2, _, es, h, fun y c1 v F1 H1 w1 ok1 r1 q1 => ⟨_, e1, p, c1, _, F1, _, es.fwd w1 ok1, q1, fun d c4 u F4 H4 w4 ok4 r4 q4 => ?_⟩⟩
    split at q4
    · rename_i kk ek
      obtain ⟨⟨⟨nl, hx⟩, hl⟩, q⟩ := q4
      refine ⟨by rw [line16, r4.len]; exact hx, fun b nb => ?_⟩
      obtain ⟨w5, ok5⟩ := Fwd.laid ok4 nb (.tup u)
      obtain ⟨F3, s1, w3, k1, k2, _⟩ := k c4 _ _ ((w1.trans w4).trans w5) ok5
      obtain ⟨a', o', vs', g1, g2, g3, g4, g5, g6, r0'⟩ := s1.dic n (.t ks) l hn
      rw [e1] at g1
      cases g1
      obtain ⟨kvs, rfl, g6, g7⟩ := g6
      rw [← g7] at r0'
      obtain ⟨z1, z2⟩ := rep_putD (k := kk) r0' (k1 _ _ nl ((r1.mono w4.frz).mono w5.frz))
      rw [g6] at z1 z2
      refine ⟨a, _, rfl, ?_, t.nx c4 _ _ F3 _ (s1.putDic (ks' := .t _) (o' := .dT (putK kvs kk v)) hn e1 ⟨_, rfl, z1, rfl⟩ z2) q⟩
      refine DPut.t (b := b) g2 ?_ ?_
      · rw [upd_same, r4.keys ek]
      · have := r0'.len
        rw [List.length_map] at this
        rw [line16, this]
        exact hl
    · exact q4.elim
  · exact h.elim
/-- x = y, y an own dict: it is x's from now on -/
@[simp ↓] def sMove (n m : Nat) : FS := fun E ρ c => match ρ[m]? with
  | some (.dic ks l) => E.nx ((ρ.set m .no).set n (.dic ks l)) c
  | _ => False
theorem sx_move (n m : Nat) {x y : Str} {px py : Pos} (pv : PE X (.Name y py) (tVar m)) (hN : X.N.Nodup) (hi : X.N[n]? = some x := by rfl) (hx : Loc X.env.scope x := by first | exact Or.inl rfl | exact Or.inr rfl) (hs : swapsWith (.Name y py) (some (.Name x px)) pos.line X.env = pure false := by rfl)
    (hf : X.fn x = true ∨ X.env.scope.names.lookup x = some .local := by first | exact .inl rfl | exact .inr rfl) : SX X (.Assign [.Name x px] (.Name y py) pos) (sMove n m) := PS.imp (ps_set hN hi hx pv hs hf) fun D σ H ⟨p, c, ρ, F, F0, H0, E, s, h, t⟩ => by
  unfold sMove at h
  split at h
  · rename_i ks l hn
    obtain ⟨a, o, vs, e1, e2, e3, e4, e5, e6, r0⟩ := s.dic m ks l hn
    refine ⟨_, e1, t.nx c _ _ F H ((s.drop m).setDic n e2 e3 e4 e5 e6 r0 fun j ks' l' nj g1 g2 => ?_) h⟩
    rcases set_get g1 with ⟨_, _, q⟩ | ⟨nm, q⟩
    · cases q
    · exact nm (s.sepd j m ks' ks l' l a q hn g2 e1)
  · exact h.elim
/-- a comprehension of a dict -/
@[simp ↓] def compD (g : FG) (t : FT) (fk fe : FE) (ρ : Rho) : List D → Nat → List Key → List D → (List Key → List D → Nat → Prop) → Prop
  | [], c, ks, vs, Q => Q ks vs c
  | d :: l, c, ks, vs, Q => g d (ρ.map upS) fun ρ' => t (ρ'.map vA) c fun b c =>
      if b = true then fk (ρ'.map vA) c fun x c => fe (ρ'.map vA) c fun y c => (match keyD x with
        | some k => vs.length < 16777216 ∧ compD g t fk fe ρ l c (putKs ks k) (putDs ks vs k y) Q
        | none => False)
      else compD g t fk fe ρ l c ks vs Q
@[simp ↓] def dComp (fi : FI) (g : FG) (t : FT) (fk fe : FE) (vs : List Nat) : FD := fun ρ c Q => fi ρ c fun l c => compD g t fk fe (wipeD ρ vs) l c [] [] fun ks l c => Q (.k ks) l c
end
section
variable {X : Cx} {tg iter kx vx : Expr} {ifs : List Expr} {scope : Scope} {own : List (Str × Nat)} {pos : Pos} {is : List Nat} {fi : FI} {gg : FG} {ft : FT} {fk fe : FE}
theorem dcomp_w {t : TT} {gl : TG} {wi : TI} {vs : List Nat} (his : ∀ j ∈ is, j ∈ vs)
    (ki : ∀ σ H p c ρ F Q' R, ESt X.K p c ρ σ F H → fi ρ c Q' → (∀ items c' F' H' J, Fwd p F H F' H' → Ok3 p c' F' H' → Walks3 X.K p J items F' → Q' items c' → R J H') → wi σ H R)
    (kg : ∀ p c ρ σ F H F0 H0 d v k kk, SSt X.K p c ρ σ F H F0 H0 → Rep X.K p F d v → gg d ρ k → (∀ ρ' σ', SSt X.K p c ρ' σ' F H F0 H0 → σ'.length = σ.length → (∀ j, j ∉ is → σ'[j]? = σ[j]?) → k ρ' → kk σ' H) → gl v σ H kk)
    (kt : ∀ σ H p c ρ F Q' Q, ESt X.K p c ρ σ F H → ft ρ c Q' → TellB p F H Q' Q → t σ H Q) {σ : L2.St} {H : Hp} {Q : VK} (h : tD X.K (dComp fi gg ft fk fe vs) σ H Q) : tDc wi gl t (tE X.K fk) (tE X.K fe) vs σ H Q := by
  obtain ⟨p, c, ρ, F, Q', es, h, tl⟩ := h
  refine ki σ H p c ρ F _ _ es h fun items c1 F1 H1 J w1 ok1 wk q1 => fun D hD => ?_
  obtain ⟨w0, ok0, n1, n2, n3⟩ := layD (Fwd.refl p F1 H1) ok1 hD (.dK [])
  refine ⟨fun i m H' => m = items.length - i ∧ i ≤ items.length ∧ ∃ c F acc ks ds, Fwd p F1 H1 F H' ∧ Ok3 p c F H' ∧ H' D = some (.dK acc) ∧ F D = none ∧ acc.map (·.1) = ks ∧ RepL X.K p F ds (acc.map (·.2)) ∧ compD gg ft fk fe (wipeD ρ vs) (items.drop i) c ks ds (fun ks l c => Q' (.k ks) l c),
    ⟨items.length, rfl, Nat.zero_le _, c1, F1, [], [], [], w0, ok0, upd_same, n2, rfl, rfl, q1⟩, fun i m H2 ⟨em, hi, c, F2, acc, ks, ds, w, ok, hDl, nF, hk, r, hc⟩ => ?_⟩
  obtain ⟨go, stop⟩ := wk.2 i F2 H2 c w.frz ok
  by_cases hlt : i < items.length
  · obtain ⟨hgo, hy⟩ := go hlt
    refine .inr ⟨hgo, fun H' => ∃ c F acc ks ds, Fwd p F1 H1 F H' ∧ Ok3 p c F H' ∧ H' D = some (.dK acc) ∧ F D = none ∧ acc.map (·.1) = ks ∧ RepL X.K p F ds (acc.map (·.2)) ∧ compD gg ft fk fe (wipeD ρ vs) (items.drop (i + 1)) c ks ds (fun ks l c => Q' (.k ks) l c),
      fun H' z => ⟨items.length - (i + 1), by omega, rfl, hlt, z⟩, fun x H' y => ?_⟩
    obtain ⟨F', d, e1, w', ok', r'⟩ := hy x H' y
    have ed : items.drop i = d :: items.drop (i + 1) := by
      rw [List.drop_eq_getElem_cons hlt]
      rw [List.getElem?_eq_getElem hlt] at e1
      rw [Option.some.inj e1]
    rw [ed] at hc
    have wF := w1.trans (w.trans w')
    have ss : SSt X.K p c ((wipeD ρ vs).map upS) (wipe σ vs) F' H' F' H' := by
      refine ⟨ok', .refl .., by rw [List.length_map, wipeD_len, wipe_length, es.len], fun j dj ej => ?_, fun j lj ej => ?_, fun j k l m a e1 _ _ _ => ?_, fun j ks lj ej => ?_, fun j k ks ks' l m a e1 _ _ _ => ?_⟩
      · rw [List.getElem?_map] at ej
        obtain ⟨z, ez, eu⟩ := Option.map_eq_some_iff.mp ej
        cases z with
        | none => cases eu
        | some z =>
          cases eu
          obtain ⟨nj, e2⟩ := wipeD_some ρ vs j dj ez
          obtain ⟨v, g1, g2⟩ := es.slot j dj ((get3_eq ρ j dj).mpr e2)
          exact ⟨v, by rw [wipe_get σ vs j nj]; exact g1, g2.mono wF.frz⟩
      · rw [List.getElem?_map] at ej
        obtain ⟨z, ez, eu⟩ := Option.map_eq_some_iff.mp ej
        cases z <;> cases eu
      · rw [List.getElem?_map] at e1
        obtain ⟨z, ez, eu⟩ := Option.map_eq_some_iff.mp e1
        cases z <;> cases eu
      · rw [List.getElem?_map] at ej
        obtain ⟨z, ez, eu⟩ := Option.map_eq_some_iff.mp ej
        cases z <;> cases eu
      · rw [List.getElem?_map] at e1
        obtain ⟨z, ez, eu⟩ := Option.map_eq_some_iff.mp e1
        cases z <;> cases eu
    refine kg p c _ (wipe σ vs) F' H' F' H' d x _ _ ss r' hc fun ρ2 σ2 s2 l2 e2 h2 => ⟨?_, ?_⟩
    · refine wipe_eq (by rw [l2, wipe_length]) fun j hj => ?_
      rw [e2 j fun z => hj (his j z), wipe_get σ vs j hj]
    · refine kt σ2 H' p c _ F' _ _ s2.e h2 fun b c3 F3 H3 w3 ok3 q3 => ?_
      have w23 := w'.trans w3
      have keepD : ∀ {F4 H4 : Hp} {c4 : Nat}, Fwd p F2 H2 F4 H4 → Ok3 p c4 F4 H4 → H4 D = some (.dK acc) ∧ F4 D = none := fun {F4 H4 c4} w4 ok4 => by
        refine ⟨w4.keep D _ hDl n3 (fun _ z => nomatch z), ?_⟩
        cases q : F4 D with
        | none => rfl
        | some u =>
          rcases w4.new D u q with z | z | ⟨q', z⟩
          · rw [nF] at z; cases z
          · rw [hDl] at z; cases z
          · have y := ok4.sub D u q
            rw [w4.keep D _ hDl n3 (fun _ z => nomatch z)] at y
            have y2 := z.symm.trans (Option.some.inj y.symm)
            unfold LamX.CodeO at y2
            cases y2
      cases b with
      | true =>
        refine ⟨p, c3, _, F3, _, s2.e.fwd w3 ok3, q3, fun xd c4 u F4 H4 w4 ok4 r4 q4 => ⟨p, c4, _, F4, _, (s2.e.fwd w3 ok3).fwd w4 ok4, q4, fun yd c5 v F5 H5 w5 ok5 r5 q5 => ?_⟩⟩
        split at q5
        · rename_i kk ek
          have w24 := (w23.trans w4).trans w5
          obtain ⟨d1, d2⟩ := keepD w24 (by assumption)
          have w14 := w.trans w24
          obtain ⟨z1, z2⟩ := rep_putD (k := kk) (r.mono w24.frz) r5
          rw [hk] at z1 z2
          have rl := r.len
          rw [List.length_map] at rl
          refine ⟨acc, kk, r4.key ek, d1, by rw [line16, rl]; exact q5.1, c5, F5, putK acc kk v, _, _, ⟨w14.frz, fun b u hb n tt => ?_, w14.new, fun b hb => ?_⟩, ⟨fun b u hb => ?_, fun b hb => ?_, tabs_putD (ks := .k _) (vs := acc.map (·.2)) ok5.tab d1 ⟨acc, rfl, rfl, rfl⟩, ok5.nt⟩, upd_same, d2, z1, z2, q5.2⟩
          · rw [upd_ne (ne_of_none hb n1)]
            exact w14.keep b u hb n tt
          · by_cases e : b = D
            · subst e; exact n1
            · rw [upd_ne e] at hb; exact w14.there b hb
          · rw [upd_ne (ne_of_none hb d2)]
            exact ok5.sub b u hb
          · obtain ⟨⟨x, y, z, h, rr⟩, n⟩ := ok5.pot b hb
            have ne : b ≠ D := fun e => n3 (e ▸ hb)
            exact ⟨⟨x, y, z, by rw [upd_ne ne]; exact h, rr⟩, n⟩
        · exact q5.elim
      | false =>
        obtain ⟨d1, d2⟩ := keepD w23 (by assumption)
        exact ⟨c3, F3, acc, ks, ds, w.trans w23, ok3, d1, d2, hk, r.mono w23.frz, q3⟩
  · have ei : items.drop i = [] := List.drop_eq_nil_of_le (by omega)
    rw [ei] at hc
    exact .inl ⟨stop (by omega), tl (.k ks) ds c D _ (acc.map (·.2)) F2 H2 (w1.trans w) ok (w1.there D n1) nF n3 hDl ⟨acc, rfl, hk, rfl⟩ r hc⟩
theorem dx_comp (hc : X.calm = true) (hN : X.N.Nodup) (hi : IX X tg iter fi) (ok : BlkOk X.N X.env.scope scope own) {gl : TG}
    (hg : ∀ (s : Shared) (H : Hp) (C : Addr) (cl : List (Str × Addr)) (fp : List Addr), PG (X.blk s H scope (compEnvC scope cl C X.env) fp) tg gl)
    (kg : KG X.K is gg gl)
    {t : TT} (ht : ∀ (s : Shared) (H : Hp) (C : Addr) (cl : List (Str × Addr)) (fp : List Addr), PTs (X.blk s H scope (compEnvC scope cl C X.env) fp) ifs t)
    (kt : KT3 X.K ft t)
    (hk : ∀ (s : Shared) (H : Hp) (C : Addr) (cl : List (Str × Addr)) (fp : List Addr), EX (X.blk s H scope (compEnvC scope cl C X.env) fp) kx fk)
    (he : ∀ (s : Shared) (H : Hp) (C : Addr) (cl : List (Str × Addr)) (fp : List Addr), EX (X.blk s H scope (compEnvC scope cl C X.env) fp) vx fe)
    (his : ∀ j ∈ is, j ∈ own.map (·.2)) (hs : ∀ x, foldedSetIterable iter X.env x = pure x := by intro _; rfl) : DX X (.DictComp kx vx [⟨tg, iter, ifs, 0⟩] scope pos) (dComp fi gg ft fk fe (own.map (·.2))) := by
  obtain ⟨wi, pi, ki⟩ := hi.ex
  exact PE.imp (pe_dc hc hN pi ok hg ht hk he hs) fun σ H Q h => dcomp_w his ki kg.k kt.k h
end
end L3

set_option maxHeartbeats 2000000
/-! L3B: min of a list of data. -/
namespace L3
open PySem PySem.Spec PyProof.Rows L2
def rMinP (K : PySem.W.Frag) : List V → Hp → VK → Prop := fun vs H Q => ∃ (a : Addr) (ws : List V) (x : PyData) (xs : List PyData), vs = [V.ref a] ∧ SqL K H a ws ∧ DpAll K H ws (x :: xs) ∧ PySem.W.AlikeAll (x :: xs) ∧ PyData.depthAll (x :: xs) ≤ 64 ∧
  ∀ (i : Nat) (w : V), ws[i]? = some w → (x :: xs)[i]? = some (PySem.W.minD x xs) → Q w H
theorem readsAll_get {h : Heap} : ∀ {us : List Value} {ds : List PyData} {as : List Addr} {i : Nat} {u : Value}, ReadsAll h us ds as → us[i]? = some u → ∃ d bs, ds[i]? = some d ∧ Reads h u d bs
  | _, _, _, i, u, .nil, e => by simp at e
  | _, _, _, 0, u, .cons r t, e => by
    simp at e
    subst e
    exact ⟨_, _, rfl, r⟩
  | _, _, _, i + 1, u, .cons r t, e => by
    obtain ⟨d, bs, h1, h2⟩ := readsAll_get (i := i) t (by simpa using e)
    exact ⟨d, bs, by simpa using h1, h2⟩
section
variable {K : PySem.W.Frag} {X : Cx}
theorem minPR (hc : X.calm = true) (hu : X.A.units + 66 < cLine) : CallR X (.builtin "min") (rMinP X.K) := by
  intro pins s σ H vs us Q I r h
  obtain ⟨a, ws, x, xs, rfl, hs, hd, al, dep, q⟩ := h
  rw [Vals.ref1 r]
  obtain ⟨its, rv, hl, _⟩ := I.list hs
  obtain ⟨as, ra⟩ := Dp.readsAll I _ _ _ hd rv
  refine PySem.W.min_list_data (I.ok.hd hc) hl.isList (by simpa using ra) al (by omega) fun i v h' tk bs e rd k => ?_
  have e' : its[i]? = some v := by simpa using e
  obtain ⟨d, cs, g1, g2⟩ := readsAll_get ra e'
  have hlen := rv.length
  have hi := (List.getElem?_eq_some_iff.mp e').1
  have hw : ws[i]? = some ws[i] := List.getElem?_eq_getElem (by omega)
  obtain ⟨u, eu, ru⟩ := rv.get hw
  rw [e'] at eu
  cases eu
  have same : d = PySem.W.minD x xs := (Reads.unique (PySem.W.reads_keeps k g2) _ _ rd).1
  subst same
  exact ⟨ws[i], H, I.kept k, ru, q i _ hw g1⟩
def minPs (m : List D) (Q : D → Prop) : Prop := ∃ x xs, toPyL m = some (x :: xs) ∧ PySem.W.AlikeAll (x :: xs) ∧ PyData.depthAll (x :: xs) ≤ 64 ∧ ∀ d ∈ m, toPy d = some (PySem.W.minD x xs) → Q d
@[simp ↓] def minPM : FM := fun l c Q => match l with
  | [.lst m] => minPs m fun d => Q d c
  | _ => False
theorem minPS : CallS K (rMinP K) minPM := by
  intro p c F H l vs Q' Q ok r h t
  unfold minPM at h
  split at h
  · rename_i m
    obtain ⟨v, rfl, a, ws, rfl, h1, rl⟩ := r.one
    obtain ⟨x, xs, e, al, dep, q⟩ := h
    refine ⟨a, ws, x, xs, rfl, .of (ok.sub _ _ h1), RepL.dp ok.sub rl e, al, dep, fun i w e1 e2 => ?_⟩
    have hi := (List.getElem?_eq_some_iff.mp e1).1
    have hi2 : i < m.length := by rw [← rl.len]; exact hi
    have hm : m[i]? = some m[i] := List.getElem?_eq_getElem hi2
    obtain ⟨w', y1, y2⟩ := rl.get hm
    rw [e1] at y1
    cases y1
    exact t _ c _ F H (Fwd.refl ..) ok y2 (q _ (List.mem_of_getElem? hm) (toPyL_get i _ _ e hm e2))
  · exact h.elim
end
abbrev ppD (p : Int × Int) : D := .tup [.int p.1, .int p.2]
theorem pairs_toPy : ∀ ps : List (Int × Int), toPyL (ps.map ppD) = some (ps.map fun p => PyData.tuple [.int p.1, .int p.2])
  | [] => rfl
  | p :: ps => by
    rw [List.map_cons, List.map_cons]
    simp only [toPyL, pairs_toPy ps]
    rfl
theorem minD_pairs : ∀ (ps : List (Int × Int)) (p : Int × Int), ∃ r ∈ p :: ps, PySem.W.minD (.tuple [.int p.1, .int p.2]) (ps.map fun p => PyData.tuple [.int p.1, .int p.2]) = .tuple [.int r.1, .int r.2] ∧ ∀ q ∈ p :: ps, r.1 < q.1 ∨ (r.1 = q.1 ∧ r.2 ≤ q.2)
  | [], p => ⟨p, List.mem_cons_self .., rfl, fun q hq => by simp at hq; subst hq; exact .inr ⟨rfl, Int.le_refl _⟩⟩
  | b :: ps, p => by
    have step : PySem.W.minD (.tuple [.int p.1, .int p.2]) ((b :: ps).map fun p => PyData.tuple [.int p.1, .int p.2]) = PySem.W.minD (if PySem.W.dataLt (.tuple [.int b.1, .int b.2]) (.tuple [.int p.1, .int p.2]) then .tuple [.int b.1, .int b.2] else .tuple [.int p.1, .int p.2]) (ps.map fun p => PyData.tuple [.int p.1, .int p.2]) := rfl
    rw [step, PySem.W.dataLt_ii]
    by_cases h : b.1 < p.1 ∨ (b.1 = p.1 ∧ b.2 < p.2)
    · rw [if_pos (decide_eq_true h)]
      obtain ⟨r, h1, h2, h3⟩ := minD_pairs ps b
      refine ⟨r, List.mem_cons_of_mem _ h1, h2, fun q hq => ?_⟩
      rcases List.mem_cons.mp hq with rfl | hq
      · have := h3 b (List.mem_cons_self ..)
        omega
      · exact h3 q hq
    · rw [if_neg (by simpa using h)]
      obtain ⟨r, h1, h2, h3⟩ := minD_pairs ps p
      refine ⟨r, (List.mem_cons.mp h1).elim (fun e => e ▸ List.mem_cons_self ..) fun z => List.mem_cons_of_mem _ (List.mem_cons_of_mem _ z), h2, fun q hq => ?_⟩
      rcases List.mem_cons.mp hq with rfl | hq
      · exact h3 q (List.mem_cons_self ..)
      · rcases List.mem_cons.mp hq with rfl | hq
        · have := h3 p (List.mem_cons_self ..)
          omega
        · exact h3 q (List.mem_cons_of_mem _ hq)
theorem minPs_pairs {p : Int × Int} {ps : List (Int × Int)} {Q : D → Prop} (q : ∀ r ∈ p :: ps, (∀ q ∈ p :: ps, r.1 < q.1 ∨ (r.1 = q.1 ∧ r.2 ≤ q.2)) → Q (ppD r)) : minPs ((p :: ps).map ppD) Q := by
  refine ⟨_, _, pairs_toPy (p :: ps), ?_, ?_, fun d hd e => ?_⟩
  · have h : ∀ x ∈ (p :: ps).map (fun p => PyData.tuple [.int p.1, .int p.2]), ∃ a b : Int, x = .tuple [.int a, .int b] := fun x hx => by
      obtain ⟨i, _, rfl⟩ := List.mem_map.mp hx
      exact ⟨_, _, rfl⟩
    refine ⟨fun x hx y hy => ?_, fun x hx => ?_⟩
    · obtain ⟨_, _, rfl⟩ := h x hx
      obtain ⟨_, _, rfl⟩ := h y hy
      rfl
    · obtain ⟨_, _, rfl⟩ := h x hx
      exact fun z => nomatch z
  · have : ∀ l : List (Int × Int), PyData.depthAll (l.map fun p => PyData.tuple [.int p.1, .int p.2]) ≤ 1 := by
      intro l
      induction l with
      | nil => exact Nat.zero_le _
      | cons a l ih =>
        show max (PyData.depth (.tuple [.int a.1, .int a.2])) (PyData.depthAll (l.map _)) ≤ 1
        have : PyData.depth (.tuple [.int a.1, .int a.2]) = 1 := by simp [PyData.depth, PyData.depthAll]
        omega
    exact Nat.le_trans (this (p :: ps)) (by decide)
  · obtain ⟨r, h1, h2, h3⟩ := minD_pairs ps p
    obtain ⟨b, hb, rfl⟩ := List.mem_map.mp hd
    have e : some (PyData.tuple [.int b.1, .int b.2]) = some (PySem.W.minD _ (ps.map _)) := e
    rw [h2] at e
    obtain ⟨b1, b2⟩ := b
    obtain ⟨r1, r2⟩ := r
    cases e
    exact q _ h1 h3
theorem u1_of {n : Nat} (h : n + 66 < cLine) : n + 1 < cLine := by omega
end L3

set_option maxHeartbeats 2000000
/-! L3F: min and max of three ints; sorted(ints, reverse=True). -/
namespace L3
open PySem PySem.Spec PyProof.Rows L2
@[simp ↓] def min3M : FM := fun l c Q => match l with
  | [.int i, .int j, .int k] => Q (.int (if k < (if j < i then j else i) then k else (if j < i then j else i))) c
  | _ => False
@[simp ↓] def max3M : FM := fun l c Q => match l with
  | [.int i, .int j, .int k] => Q (.int (if (if i < j then j else i) < k then k else (if i < j then j else i))) c
  | _ => False
section
variable {K : PySem.W.Frag} {X : Cx} {e : Expr} {fa : FE} {pos : Pos}
theorem RepL.int3 {p : Pn} {F : Hp} {i j k : Int} {vs : List V} (h : RepL K p F [.int i, .int j, .int k] vs) : vs = [.int i, .int j, .int k] := by
  obtain ⟨v, r, rfl, h1, h⟩ := h
  have := h.int2
  subst this
  cases (show v = .int i from h1)
  rfl
theorem min3S : CallS K (rNuC3 nuMin3) min3M := by
  intro p c F H l vs Q' Q ok r h t
  unfold min3M at h
  split at h
  · rename_i i j k
    refine ⟨_, _, _, V.int (if k < (if j < i then j else i) then k else (if j < i then j else i)), r.int3, ?_, tellI ok t h⟩
    show ((some (decide (j < i))).map fun c => if c = true then V.int j else V.int i).bind (fun m => nuMin2 m (.int k)) = _
    by_cases h1 : j < i
    · rw [decide_eq_true h1, if_pos h1]
      show (some (decide (k < j))).map (fun c => if c = true then V.int k else V.int j) = _
      by_cases h2 : k < j
      · rw [decide_eq_true h2, if_pos h2]; rfl
      · rw [decide_eq_false h2, if_neg h2]; rfl
    · rw [decide_eq_false h1, if_neg h1]
      show (some (decide (k < i))).map (fun c => if c = true then V.int k else V.int i) = _
      by_cases h2 : k < i
      · rw [decide_eq_true h2, if_pos h2]; rfl
      · rw [decide_eq_false h2, if_neg h2]; rfl
  · exact h.elim
theorem max3S : CallS K (rNuC3 nuMax3) max3M := by
  intro p c F H l vs Q' Q ok r h t
  unfold max3M at h
  split at h
  · rename_i i j k
    refine ⟨_, _, _, V.int (if (if i < j then j else i) < k then k else (if i < j then j else i)), r.int3, ?_, tellI ok t h⟩
    show ((some (decide (i < j))).map fun c => if c = true then V.int j else V.int i).bind (fun m => nuMax2 m (.int k)) = _
    by_cases h1 : i < j
    · rw [decide_eq_true h1, if_pos h1]
      show (some (decide (j < k))).map (fun c => if c = true then V.int k else V.int j) = _
      by_cases h2 : j < k
      · rw [decide_eq_true h2, if_pos h2]; rfl
      · rw [decide_eq_false h2, if_neg h2]; rfl
    · rw [decide_eq_false h1, if_neg h1]
      show (some (decide (i < k))).map (fun c => if c = true then V.int k else V.int i) = _
      by_cases h2 : i < k
      · rw [decide_eq_true h2, if_pos h2]; rfl
      · rw [decide_eq_false h2, if_neg h2]; rfl
  · exact h.elim
@[simp ↓] def fSortR (fa : FE) : FL := fun ρ c Q => fa ρ c fun x c => match x with
  | .lst l => ∃ ns, intsOf l = some ns ∧ ∀ ns' : List Int, ns'.Perm ns → ns'.Pairwise (· ≥ ·) → Q (ns'.map D.int) c
  | _ => False
theorem fx_sortR (hm : X.mg "sorted" = none) (ha : EX X e fa) {bp kp : Pos} {kk : Nat} (hg : Gl X "sorted" := by rfl) (hs : starEach [e] X.env = (false, eval e X.env) :: starEach [] X.env := by rfl)
    (he : backTo pos (starEach [e] X.env) = (false, eval e X.env) :: backTo pos (starEach [] X.env) := by rfl) (hpl : (backTo pos (starEach [e] X.env)).any (·.1) = false := by rfl)
    (hall : (backToKw pos (keywordEach [⟨some "reverse", .Constant (.bool true) kk bp, kp⟩] X.env)).all (·.1.isSome) = true := by rfl) (hnone : (backToKw pos (keywordEach [⟨some "reverse", .Constant (.bool true) kk bp, kp⟩] X.env)).any (·.1.isNone) = false := by rfl) (hks : (backToKw pos (keywordEach [⟨some "reverse", .Constant (.bool true) kk bp, kp⟩] X.env)).filterMap (·.1) = [Str.ofString "reverse"] := by rfl) {p : Pos} :
    FX X (.Call (.Name "sorted" p) [e] [⟨some "reverse", .Constant (.bool true) kk bp, kp⟩] pos) (fSortR fa) := PE.imp (pe_callBK cr_sortedRev hg hm (by decide +kernel) (pa_cons ha pa_nil hs) (pk_cons pe_bl pk_nil) (by decide) (by decide) he hpl hall hnone hks) fun σ H Q ⟨p, c, ρ, F, Q', es, h, t⟩ =>
  ⟨p, c, ρ, F, _, es, h, fun d c1 v F1 H1 w1 ok1 r1 q1 => by
    split at q1
    · obtain ⟨a, xs, rfl, h1, rl⟩ := r1
      obtain ⟨ns, e1, e3⟩ := q1
      refine ⟨a, ns, rfl, rfl, by rw [← RepL.ints rl e1]; exact .of (ok1.sub _ _ h1), fun ns' q hp hs nq => ?_⟩
      obtain ⟨w, ok, n1, n2, n3⟩ := layL w1 ok1 nq (ns'.map V.int)
      exact t _ c1 q _ F1 _ w ok n1 n2 n3 upd_same (rep_ints ns') (e3 ns' hp hs)
    · exact q1.elim⟩
end
end L3

set_option maxHeartbeats 2000000
/-! L4A: sorted of a tuple: ints, data, by a key. -/
namespace L4
open PySem PySem.W PySem.Calls PyProof.Rows
section
variable {prog : Program} {w : World} {A : Around} {E : Value → Shared → Prop} {s : Shared}
theorem collect_tup {t : Addr} {its : List Value} {Q : List Value → Shared → Prop} (ht : IsTup s.heap t its.toArray) (hz : its.length ≤ sizeLine)
    (h : Q its { s with heap := (s.heap.push (seqObj "list" #[] 0)).update s.heap.objs.size (Obj.mapSeq (· ++ its.toArray)) }) : wpAny (model prog w) A (collect (.ref t)) Q E s := by
  obtain ⟨ob, g1, g2, m, g3⟩ := id ht
  have g1' : (s.heap.push (seqObj "list" #[] 0)).get? t = some ob := Heap.get?_push_of_some _ g1
  have new : (s.heap.push (seqObj "list" #[] 0)).get? s.heap.objs.size = some (seqObj "list" #[] 0) := Heap.get?_push_size _ rfl
  unfold collect
  refine wpAny_bind (wpAny_runValue (codeAny_builtin entry_proto_collect' ?_))
  change wpAny _ _ (do again (.builtin "list.__iadd__" ⟨[← newList [], .ref t], []⟩)) _ _ s
  refine wpAny_bind (wpAny_newList (wpAny_pure ⟨Code.quiet_builtin _ (by decide +kernel), codeAny_builtin entry_list_iadd' ?_⟩))
  change wpAny _ _ (Builtin.List.listExtendWith (.ref s.heap.objs.size) (.ref t) (.ref s.heap.objs.size)) _ _ { s with heap := s.heap.push (seqObj "list" #[] 0) }
  unfold Builtin.List.listExtendWith
  refine wpAny_bind (wpAny_typeOf (T := "tuple") ⟨ob, g1', g2⟩ ?_)
  rw [if_pos (by rw [show (Value.type "tuple" == Value.type "tuple") = true by rfl]; simp)]
  refine wpAny_bind (listItems_at g1' g3 (wpAny_bind (listItems_at (xs := #[]) (n := 0) new rfl ?_)))
  rw [if_neg (by simp)]
  refine wpAny_bind (listUpdate_at (xs := #[]) (n := 0) new rfl ?_ (Nat.zero_le _) (by change (#[] ++ its.toArray).size ≤ sizeLine + 1; simp only [Array.size_append, List.size_toArray, List.length_nil]; omega))
  refine wpAny_pure ?_
  change wpAny (model prog w) A (do let o ← load s.heap.objs.size; match o.data with | .seq xs _ => pure xs.toList | _ => unsupported "internal:collect") Q E { s with heap := (s.heap.push (seqObj "list" #[] 0)).update s.heap.objs.size (Obj.mapSeq (· ++ its.toArray)) }
  refine wpAny_bind (wpAny_load (get?_update_seq new _) ?_)
  change wpAny _ _ (pure ((#[] : Array Value) ++ its.toArray).toList) Q E _
  rw [show ((#[] : Array Value) ++ its.toArray).toList = its by simp]
  exact wpAny_pure h
theorem sorted_tup {t : Addr} {its : List Value} {kw : List (Str × Value)} {Q : Value → Shared → Prop} (ht : IsTup s.heap t its.toArray) (hz : its.length ≤ sizeLine) (ha1 : argsOk "sorted" ⟨[.ref t], kw⟩) (ha2 : ∀ x, argsOk "list.sort" ⟨[.ref x], kw⟩)
    (body : ∀ E' : Value → Shared → Prop, wpAny (model prog w) A.in1.in1 (Builtin.«list.sort» ⟨[.ref (s.heap.objs.size + 1)], kw⟩) (fun f s' => f = .done (.ret .none) ∧ Q (.ref (s.heap.objs.size + 1)) s') E' { s with heap := copyHeap s.heap its }) :
    wpAny (model prog w) A (call (.builtin "sorted") [.ref t] kw) Q E s := by
  refine call_function_entry_kw kind_sorted plain_sorted entry_sorted ha1 ?_
  unfold Builtin.«sorted»
  refine wpAny_bind (m := checkCount "sorted" 1 1 _) (wpAny_pure (wpAny_bind (collect_tup ht hz (wpAny_bind (wpAny_newList ?_ hz)))))
  have z : ((s.heap.push (seqObj "list" #[] 0)).update s.heap.objs.size (Obj.mapSeq (· ++ its.toArray))).objs.size = s.heap.objs.size + 1 := by rw [Heap.size_update, size_push']
  change wpAny _ _ _ _ _ { s with heap := copyHeap s.heap its }
  rw [z]
  refine wpAny_bind (wpAny_holding (wpAny_call_entry_kw slot_list_sort ⟨_, copyHeap_at s.heap its, rfl⟩ entry_list_sort (wpAny_mono (body _) (fun f s' hf => ?_) fun _ _ e => e) (ha2 _)))
  obtain ⟨e, q⟩ := hf
  subst e
  exact ⟨_, rfl, wpAny_pure ⟨_, rfl, q⟩⟩
end
section
variable {prog : Program} {w : World} {A : Around} {E : Value → Shared → Prop} {s : Shared} {β : Type} {vs : List Value} {bs : List β} {R : Value → β → Prop}
/-- sorted(t, key=f), t a tuple -/
theorem sorted_key_tup {t : Addr} {f : Value} {kw : List (Str × Value)} {b : Bool} {Q : Value → Shared → Prop} (k : β → PyData) (ht : IsTup s.heap t vs.toArray) (e : EachIs R vs bs) (hal : AllAlike (bs.map k)) (hk : Sortable (bs.map k)) (hL : bs.length ≤ sizeLine)
    (hu : ∀ x, x ∈ bs → A.units + 2 + (k x).depth < cLine) (ha1 : argsOk "sorted" ⟨[.ref t], kw⟩) (ha2 : ∀ x, argsOk "list.sort" ⟨[.ref x], kw⟩) (hs : ∀ x, Builtin.«list.sort» ⟨[.ref x], kw⟩ = ksk_tree x f b)
    (turn : ∀ (v : Value) (x : β), R v x → x ∈ bs → ∀ (h : Heap) (tk : Nat), (∀ b o, s.heap.get? b = some o → h.get? b = some o) → wpAny (model prog w) A.in1.in1 (call f [v]) (KeyPure (k x) { s with heap := h, toks := tk }) (fun _ _ => False) { s with heap := h, toks := tk })
    (h : ∀ out c h' tk, (∀ b o, s.heap.get? b = some o → h'.get? b = some o) → s.heap.get? (s.heap.objs.size + 1) = none → h'.get? (s.heap.objs.size + 1) = some (seqObj "list" (List.toArray out) c) → out.length = bs.length → EachIs R out (bs.mergeSort (dataLe b k)) → Q (.ref (s.heap.objs.size + 1)) { s with heap := h', toks := tk }) :
    wpAny (model prog w) A (call (.builtin "sorted") [.ref t] kw) Q E s := by
  have new : s.heap.get? (s.heap.objs.size + 1) = none := Heap.get?_none_of_le (Nat.le_succ _)
  have up : ∀ {g : Heap}, KeepsBut (s.heap.objs.size + 1) (copyHeap s.heap vs) g → ∀ b o, s.heap.get? b = some o → g.get? b = some o := fun {g} kp b o q => kp b o (Nat.ne_of_lt (Nat.lt_succ_of_lt (Heap.lt_size q))) (copyHeap_old q)
  have el := e.length
  have el2 : (bs.map k).length = vs.length := by rw [List.length_map, el]
  refine sorted_tup ht (by rw [el]; exact hL) ha1 ha2 fun E' => (hs _ ▸ ?_)
  refine keyH_tree (kz := bs.map k) (s := { s with heap := copyHeap s.heap vs }) (copyHeap_at s.heap vs) el2 (by rw [el]; exact hL) hal hk (bound_map (A := A.in1.in1) hu) (keyH_turns (s := { s with heap := copyHeap s.heap vs }) e fun v x hR hx h tk kp => turn v x hR hx h tk (up kp)) fun h' tk out c kp hD ko => ⟨rfl, ?_⟩
  exact h out c h' tk (up kp) new hD ((ko.length el2).trans el) (keyedOut_each k ko e)
/-- sorted(t), t a tuple -/
theorem sorted_data_tup {t : Addr} {enc : β → PyData} {Q : Value → Shared → Prop} (ht : IsTup s.heap t vs.toArray) (e : EachIs R vs bs) (er : EachIs (fun v b => ∃ as, Reads s.heap v (enc b) as) vs bs) (hal : AllAlike (bs.map enc)) (hk : Sortable (bs.map enc)) (hL : bs.length ≤ sizeLine)
    (hu : ∀ b, b ∈ bs → A.units + 2 + (enc b).depth < cLine) (h : ∀ out, out.length = bs.length → EachIs R out (bs.mergeSort (dataLe false enc)) → Q (.ref (s.heap.objs.size + 1)) { s with heap := sortedAll s.heap vs (List.toArray out) }) : wpAny (model prog w) A (call (.builtin "sorted") [.ref t]) Q E s := by
  have er' : EachIs (fun v b => ∃ as, Reads (sortingHeap (copyHeap s.heap vs) (s.heap.objs.size + 1) vs) v (enc b) as) vs bs := er.mono fun _ _ ⟨as, r⟩ => ⟨as, PyProof.Rows.Reads.keeps (fun _ _ => sorting_copy_old) r⟩
  have S := SortsAt.data (prog := prog) (w := w) (A := A.in1.in1) (s := { s with heap := sortingHeap (copyHeap s.heap vs) (s.heap.objs.size + 1) vs }) (each_map (R := fun v d => ∃ as, Reads (sortingHeap (copyHeap s.heap vs) (s.heap.objs.size + 1) vs) v d as) enc er') hal hk (bound_map hu)
  have hz : vs.length ≤ sizeLine := by rw [e.length]; exact hL
  have hq := h _ (by rw [sortVals_length false rfl]; exact e.length) (sortVals_data false e er' hal)
  exact sorted_tup ht hz (args_sorted1 _) (fun _ => args_list_sort _) fun _ => list_sort_vals (s := { s with heap := copyHeap s.heap vs }) (copyHeap_at s.heap vs) S hz ⟨rfl, hq⟩
end
end L4
namespace L3
open PySem PySem.Spec PyProof.Rows L2
def fSortKT (fa : FE) (k : FK) : FL := fun ρ c Q => fa ρ c fun x c => match x with
  | .tup l => ∃ key : D → PyData, (∀ d ∈ l, noLst d = true ∧ (toPy d).isSome = true ∧ k (ρ ++ [some d]) = some (key d) ∧ (key d).depth ≤ 64) ∧ PySem.W.AllAlike (l.map key) ∧ PySem.W.Sortable (l.map key) ∧ l.length ≤ 16777216 ∧ Q (l.mergeSort (PySem.W.dataLe false key)) c
  | _ => False
section
variable {X : Cx} {e : Expr} {fa : FE} {k : FK} {h : Str} {N2 : List Str}
theorem fx_sortKT {c0 P : Addr} {params : Arguments} {body : Expr} {scope : Scope} {p1 lpos kpos pos : Pos} (hm : X.mg "sorted" = none) (ha : EX X e fa) (TB : LamX.TabB X.base X.mg c0 P) (hcode : X.env.code = .ref c0)
    (hmT : (P, X.env.qual ++ "<lambda>") ∈ tabs0) (hu : ∀ p ∈ tabs0, p.1 = P → p.2 = X.env.qual ++ "<lambda>") (hroom : X.A.depth < recursionLimit) (hun : X.A.units + 66 < cLine) (L : LamS1 X.env.scope scope h) (hnew : Mask scope h X.N N2) (hdef : defaultsOf params X.env = ([], []))
    (hbind : ∀ (cl : List (Str × Addr)) (pm cv ctv u : Value), bindArgs (PySem.W.kla_fn "<lambda>" (X.env.qual ++ "<lambda>") params body scope cl pm cv ctv) ⟨[u], []⟩ = pure [(h, u)])
    (kx : KX X N2 scope h body k) (hg : Gl X "sorted" := by rfl) (hs : starEach [e] X.env = (false, eval e X.env) :: starEach [] X.env := by rfl)
    (he : backTo pos (starEach [e] X.env) = (false, eval e X.env) :: backTo pos (starEach [] X.env) := by rfl) (hpl : (backTo pos (starEach [e] X.env)).any (·.1) = false := by rfl)
    (hkw : backToKw pos (keywordEach [⟨some "key", .Lambda params body scope lpos, kpos⟩] X.env) = [(some (Str.ofString "key"), do let v ← eval (.Lambda params body scope lpos) X.env; standAt pos; pure v)] := by rfl) :
    FX X (.Call (.Name "sorted" p1) [e] [⟨some "key", .Lambda params body scope lpos, kpos⟩] pos) (fSortKT fa k) := by
  refine ⟨fun pins s σ H Q I ⟨p, c, ρ, F, Q', est, hq, t⟩ => ?_⟩
  refine wpAny_Call_Name_kw (ld_blt I hg hm boot_sorted3 ?_)
  refine PyProof.Rows.callWith_kw (thn ((pa_cons ha pa_nil hs).run pos pins s σ H (fun vs H1 => ∃ d c1 F1 v, vs = [v] ∧ Fwd p F H F1 H1 ∧ Ok3 p c1 F1 H1 ∧ Rep X.K p F1 d v ∧ (match d with
      | .tup l => ∃ key : D → PyData, (∀ d ∈ l, noLst d = true ∧ (toPy d).isSome = true ∧ k (ρ ++ [some d]) = some (key d) ∧ (key d).depth ≤ 64) ∧ PySem.W.AllAlike (l.map key) ∧ PySem.W.Sortable (l.map key) ∧ l.length ≤ 16777216 ∧ Q' (l.mergeSort (PySem.W.dataLe false key)) c1
      | _ => False)) I ⟨p, c, ρ, F, _, est, hq, fun d c1 v F1 H1 w1 ok1 r1 q1 => ⟨d, c1, F1, v, rfl, w1, ok1, r1, q1⟩⟩) fun us s1 ⟨vs, H1, I1, rv, d, c1, F1, v, ev, w1, ok1, r1, q1⟩ => ?_) he hpl (by rw [hkw]; rfl) (by rw [hkw]; rfl)
  subst ev
  rw [hkw]
  have hasC : ∀ y ∈ scope.names, y.2 = .free → ∃ c, X.env.cells.lookup y.1 = some c := fun y hy e => (L.free y hy e).elim (fun k => I.ok.has _ (.inl k)) (fun k => I.ok.has _ (.inr k))
  show wpAny _ _ (evalAll [do let v ← eval (.Lambda params body scope lpos) X.env; standAt pos; pure v]) _ _ s1
  refine wpAny_evalAll_cons (wpAny_bind (lam_made I1 TB hcode hmT hu ok1.tab.tabs hdef hasC fun f c' pm ctv H2 s2 I2 eN th T1 hco => wpAny_bind (wpAny_standAt (wpAny_pure (wpAny_evalAll_nil ?_)))))
  have w2 : Fwd p F1 H1 F1 H2 := ⟨fun _ _ z => z, fun b o z _ t => eN b o z t, fun _ _ z => .inl z, th⟩
  have ok2 : Ok3 p c1 F1 H2 := ⟨fun b o z => eN b o (ok1.sub b o z) (fun ps e => ok1.nt.t b ps (e ▸ z)), fun b z => by
      obtain ⟨⟨x, y, z, q, r⟩, nn⟩ := ok1.pot b z
      exact ⟨⟨x, y, z, eN _ _ q (fun _ z => nomatch z), r⟩, nn⟩, ⟨T1, fun q hq => eN _ _ (ok1.tab.cod q hq) LamX.codeO_ne⟩, ok1.nt⟩
  split at q1
  · rename_i l
    obtain ⟨key, hk, hal, hso, hlen, q1⟩ := q1
    obtain ⟨a, xs, rfl, h1, rl⟩ := r1
    obtain ⟨z1, z2, z3⟩ := zipV_of rl
    have est2 := est.fwd (w1.trans w2) ok2
    rw [Vals.ref1 rv]
    obtain ⟨its, rits, hl, hz⟩ := I2.tuple (ok2.sqT h1)
    have rits' : Vals ((zipV l xs).map (·.2)) its := by rw [z2]; exact rits
    have e := eachV rits'
    have ek : (zipV l xs).map (fun b => key b.1) = l.map key := by
      rw [← z1, List.map_map, z1]
      rfl
    show wpAny _ _ (call (.builtin "sorted") [.ref a] [(Str.ofString "key", .ref f)]) _ _ s2
    refine L4.sorted_key_tup (b := false) (fun b : D × V => key b.1) hl e (by rw [ek]; exact hal) (by rw [ek]; exact hso) ?_ (fun b hb => ?_) (PyProof.Rows.ksk_s1 _ _) (fun _ => PyProof.Rows.ksk_l1 _ _) (fun _ => PyProof.Rows.ksk_t1 _ _) (fun u b ru hb g tk up => ?_) fun out cc h' tk up hfr hD hlo eo => ?_
    · have := congrArg List.length z1
      rw [List.length_map] at this
      rw [this, line16]
      exact hlen
    · have hb' : b.1 ∈ l := by rw [← z1]; exact List.mem_map.mpr ⟨b, hb, rfl⟩
      have := (hk _ hb').2.2.2
      omega
    · have hb' : b.1 ∈ l := by rw [← z1]; exact List.mem_map.mpr ⟨b, hb, rfl⟩
      obtain ⟨k1, k2, k3, _⟩ := hk _ hb'
      obtain ⟨pd, hpd⟩ := Option.isSome_iff_exists.mp k2
      exact key_run (A := X.A.in1.in1) I2 L hnew est2 hco (fun u => hbind _ _ _ _ u) hroom kx (z3 b hb) ru k1 k3 hpd g tk up
    · have ds : ((zipV l xs).mergeSort (PySem.W.dataLe false fun b => key b.1)).map (·.1) = l.mergeSort (PySem.W.dataLe false key) := by
        have q := List.map_mergeSort (f := fun b : D × V => b.1) (r := PySem.W.dataLe false fun b : D × V => key b.1) (s := PySem.W.dataLe false key) (l := zipV l xs) (fun _ _ _ _ => rfl)
        rw [z1] at q
        exact q
      have nH : H2 (s2.heap.objs.size + 1) = none := I2.hok.fresh (Nat.le_succ _)
      obtain ⟨w3, ok3, n1, n2, n3⟩ := layL (w1.trans w2) ok2 nH (((zipV l xs).mergeSort (PySem.W.dataLe false fun b => key b.1)).map (·.2))
      have J := I2.laid (t' := tk) (o := .lst (((zipV l xs).mergeSort (PySem.W.dataLe false fun b => key b.1)).map (·.2))) up (Nat.le_succ _) ⟨by
        rw [List.length_map, (List.mergeSort_perm _ _).length_eq]
        have := congrArg List.length z1
        rw [List.length_map] at this
        rw [this, line16]
        exact hlen, out, cc, valsV eo, hD⟩
      refine ⟨.ref _, _, pin_off J, rfl, ?_⟩
      refine t (l.mergeSort (PySem.W.dataLe false key)) c1 _ _ F1 _ w3 ok3 n1 n2 n3 upd_same ?_ q1
      rw [← ds]
      exact repV _ fun b hb => z3 b ((List.mergeSort_perm _ _).mem_iff.mp hb)
  · exact q1.elim
/-- tuple(range(n)) -/
@[simp ↓] def eTupR (fa : FA) : FE := fun ρ c Q => fa ρ c fun l c => match l with
  | [.int j] => (0 ≤ j ∧ j ≤ 16777216) ∧ Q (.tup (rangeL 0 j.toNat)) c
  | _ => False
theorem ex_tupR {x : Expr} {p p2 p3 pos : Pos} (hm : X.mg "tuple" = none) (hm2 : X.mg "range" = none) (hx : EX X x fa) (hc : X.calm = true := by rfl) (hg : Gl X "tuple" := by rfl) (hg2 : Gl X "range" := by rfl)
    (na : starEach [x] X.env = (false, eval x X.env) :: starEach [] X.env := by rfl) (na2 : starEach [.Call (.Name "range" p) [x] [] p2] X.env = (false, eval (.Call (.Name "range" p) [x] [] p2) X.env) :: starEach [] X.env := by rfl) :
    EX X (.Call (.Name "tuple" p3) [.Call (.Name "range" p) [x] [] p2] [] pos) (eTupR (aCons fa aNil)) := PE.imp (pe_tupRg hc hg hm (prg_1 hg2 hm2 hx na) na2) fun σ H Q ⟨p, c, ρ, F, Q', es, h, t⟩ =>
  ⟨p, c, ρ, F, _, es, h, fun d c1 v F1 H1 w1 ok1 r1 q1 => by
    have q1 : (match [d] with | [.int j] => (0 ≤ j ∧ j ≤ 16777216) ∧ Q' (.tup (rangeL 0 j.toNat)) c1 | _ => False) := q1
    split at q1
    · rename_i j e
      cases e
      cases (show v = .int j from r1)
      refine ⟨j, rfl, ⟨by decide, by decide, by omega, by omega, by omega⟩, ?_⟩
      refine tellNewT ok1 (t.fwd w1) ?_ q1.2
      unfold rgV rangeL
      rw [show j - 0 = j by omega]
      exact rep_rg 0 _
    · exact q1.elim⟩
end
end L3

set_option maxHeartbeats 2000000
/-! L4B: min of two data. -/
namespace L4
open PySem PySem.W
section
variable {prog : Program} {w : World} {A : Around} {E : Value → Shared → Prop} {s : Shared}
theorem call_min_twoH {a b : Value} {Q : Value → Shared → Prop}
    (h : wpAny (model prog w) A.in1 (pyIter (.ref s.heap.objs.size)) (fun it s₂ => ∃ I fp wr G n P St H bt, it = .ref I ∧ WalksS prog w A.in1 I fp wr G n P St ∧ St 0 s₂ ∧ (∀ b ∈ fp, b < s₂.heap.objs.size) ∧ 0 < n ∧
      (∀ b o, H.get? b = some o → b ∉ wr) ∧ (∀ b o, H.get? b = some o → s₂.heap.get? b = some o) ∧ CmpIn prog w A.in1 .Lt H P bt ∧ ∀ v s', P (argBest bt (n - 1)) v → Moved wr G s₂ s' → Q v s') E { s with heap := s.heap.push { cls := .type "tuple", data := .seq #[a, b] } }) :
    wpAny (model prog w) A (call (.builtin "min") [a, b]) Q E s := by
  have hname : (toString "min" ++ toString ".loop" : String) = "min.loop" := by decide
  refine call_function_tree F.kind_min F.plain_min F.entry_min (F.args_min2 _ _) ?_
  show wpAny _ A.in1 (Builtin.Builtins.bindParams "min" ["key", "default"] 0 ⟨[], []⟩ >>= _) _ _ s
  refine wpAny_bind (wpAny_of_eq (show Builtin.Builtins.bindParams "min" ["key", "default"] 0 ⟨[], []⟩ = pure [none, none] from rfl) ?_)
  show wpAny _ A.in1 (newTuple [a, b] >>= _) _ _ s
  refine wpAny_bind (wpAny_newObj_type ?_)
  refine wpAny_bind (wpAny_mono h (fun it s₂ h₂ => ?_) fun _ _ e => e)
  obtain ⟨I, fp, wr, G, n, P, St, H, bt, rfl, W, hst, hfp, hn, hw, hkeep, hcmp, hQ⟩ := h₂
  refine wpAny_bind (wpAny_newObj_type ?_)
  have hSf : s₂.heap.objs.size ∉ fp := fun hm => Nat.lt_irrefl _ (hfp _ hm)
  rw [hname]
  refine wpAny_pure ⟨plainId_quiet F.plain_min_loop _, codeAny_min_loop_firstH W H hw bt hcmp s₂.heap.objs.size hSf (fresh_in hkeep) _ hn (fun b o e => Heap.get?_push_of_some _ (hkeep b o e)) (W.frame 0 s₂ _ s₂.toks hst (Nat.le_refl _) fun b _ o e => Heap.get?_push_of_some _ e) (Heap.get?_push_size _ rfl) fun v s' hP hm => ?_⟩
  exact hQ v s' hP (Moved.drop_new (tk := s₂.toks) hm (Nat.le_refl _))
theorem min_two_data {a b : Value} {x y : PyData} {as : List Addr} {Q : Value → Shared → Prop} (hh : A.handled = none) (hr : ReadsAll s.heap [a, b] [x, y] as) (ha : AlikeAll [x, y]) (hu : A.units + 1 + PyData.depthAll [x, y] < cLine)
    (h : ∀ h' tk, (∀ b o, s.heap.get? b = some o → h'.get? b = some o) → Q (if dataLt y x then b else a) { s with heap := h', toks := tk }) :
    wpAny (model prog w) A (call (.builtin "min") [a, b]) Q E s := by
  have hk0 : ∀ c o, s.heap.get? c = some o → (s.heap.push { cls := .type "tuple", data := .seq #[a, b] }).get? c = some o := fun c o e => Heap.get?_push_of_some _ e
  have hT : (s.heap.push { cls := .type "tuple", data := .seq #[a, b] }).IsTuple s.heap.objs.size #[a, b] := ⟨_, Heap.get?_push_size _ rfl, rfl, 0, rfl⟩
  refine call_min_twoH (iter_tupleW (A := A.in1) (s := { s with heap := s.heap.push { cls := .type "tuple", data := .seq #[a, b] } }) hh hT fun s₂ e W st hfp hw hk => ?_)
  have hr' : ReadsAll (s.heap.push { cls := .type "tuple", data := .seq #[a, b] }) #[a, b].toList [x, y] as := PyProof.Rows.ReadsAll.keeps hk0 hr
  refine ⟨_, _, _, _, _, _, _, _, _, rfl, W, st, hfp, (by show 0 < 2; decide), hw, hk, cmpIn_lt (A := A.in1) hr' ha (by show A.units + 1 + _ < _; exact hu), fun v s' hP m => ?_⟩
  obtain ⟨h', tk, rfl, hk'⟩ := moved_old e rfl m
  have hv : v = if dataLt y x then b else a := by
    have hP' : #[a, b][argBest (fun i j => dataLt ([x, y].getD i .none) ([x, y].getD j .none)) 1]? = some v := hP
    by_cases hb : dataLt y x = true
    · have e1 : argBest (fun i j => dataLt ([x, y].getD i .none) ([x, y].getD j .none)) 1 = 1 := by simp [argBest, hb]
      rw [e1] at hP'
      rw [if_pos hb]
      exact (by simpa using hP'.symm)
    · have e1 : argBest (fun i j => dataLt ([x, y].getD i .none) ([x, y].getD j .none)) 1 = 0 := by simp [argBest, hb]
      rw [e1] at hP'
      rw [if_neg hb]
      exact (by simpa using hP'.symm)
  rw [hv]
  exact h h' tk fun c o e => hk' c o (hk0 c o e)
end
end L4
namespace L3
open PySem PySem.Spec PyProof.Rows L2
def rMin2D (K : PySem.W.Frag) : List V → Hp → VK → Prop := fun vs H Q => ∃ (a b : V) (x y : PyData), vs = [a, b] ∧ DpAll K H [a, b] [x, y] ∧ PySem.W.AlikeAll [x, y] ∧ PyData.depthAll [x, y] ≤ 64 ∧ Q (if PySem.W.dataLt y x then b else a) H
section
variable {K : PySem.W.Frag} {X : Cx}
theorem min2DR (hc : X.calm = true) (hu : X.A.units + 66 < cLine) : CallR X (.builtin "min") (rMin2D X.K) := by
  intro pins s σ H vs us Q I r h
  obtain ⟨a, b, x, y, rfl, hd, al, dep, q⟩ := h
  obtain ⟨u, w', rfl, ru, rw'⟩ := vals2 r
  obtain ⟨as, ra⟩ := Dp.readsAll I _ _ _ hd r
  refine L4.min_two_data (I.ok.hd hc) ra al (by omega) fun h' tk k => ⟨_, H, I.kept k, ?_, q⟩
  by_cases hb : PySem.W.dataLt y x = true
  · rw [if_pos hb, if_pos hb]; exact rw'
  · rw [if_neg hb, if_neg hb]; exact ru
@[simp ↓] def min2DM : FM := fun l c Q => match l with
  | [x, y] => ∃ p q, toPy x = some p ∧ toPy y = some q ∧ PySem.W.AlikeAll [p, q] ∧ PyData.depthAll [p, q] ≤ 64 ∧ Q (if PySem.W.dataLt q p then y else x) c
  | _ => False
theorem min2DS : CallS K (rMin2D K) min2DM := by
  intro p c F H l vs Q' Q ok r h t
  unfold min2DM at h
  split at h
  · rename_i x y
    obtain ⟨p', q', e1, e2, al, dep, q⟩ := h
    obtain ⟨va, vb, rfl, ra, rb⟩ := r.two
    refine ⟨va, vb, p', q', rfl, RepL.dp ok.sub r (by unfold toPyL; rw [e1]; unfold toPyL; rw [e2]; rfl), al, dep, ?_⟩
    by_cases hb : PySem.W.dataLt q' p' = true
    · rw [if_pos hb] at q ⊢
      exact t _ c _ F H (Fwd.refl ..) ok rb q
    · rw [if_neg hb] at q ⊢
      exact t _ c _ F H (Fwd.refl ..) ok ra q
  · exact h.elim
end
end L3
namespace L3
open PySem PySem.Spec PyProof.Rows L2
/-! l.index(x): data at any depth -/
section
variable {K : PySem.W.Frag} {X : Cx} {o e : Expr} {fa fb : FE} {pos apos : Pos}
def indexAt (l : List D) (x : D) (c : Nat) (Q : KD) : Prop := (pyD 64 x = true ∧ pyDL 63 l = true) ∧ ∃ j : Nat, (∃ z, l[j]? = some z ∧ eqvD z x = true) ∧ (∀ (m : Nat) (z : D), m < j → l[m]? = some z → eqvD z x = false) ∧ Q (.int (j : Nat)) c
@[simp ↓] def eIndex (fa fb : FE) : FE := fun ρ c Q => fa ρ c fun x c => match x with
  | .lst l => fb ρ c fun y c => indexAt l y c Q
  | _ => False
theorem toPyL_at : ∀ {l : List D} {ds : List PyData} {j : Nat} {z : PyData}, toPyL l = some ds → ds[j]? = some z → ∃ d, l[j]? = some d ∧ toPy d = some z
  | [], _, j, z, h, e => by
    simp [toPyL] at h
    subst h
    simp at e
  | y :: l, _, j, z, h, e => by
    unfold toPyL at h
    split at h
    · rename_i e1 r a1 a2
      cases h
      cases j with
      | zero =>
        have : e1 = z := by simpa using e
        subst this
        exact ⟨y, rfl, a1⟩
      | succ j => exact toPyL_at (l := l) (j := j) a2 (by simpa using e)
    · cases h
theorem toPyL_fwd : ∀ {l : List D} {ds : List PyData} {j : Nat} {d : D}, toPyL l = some ds → l[j]? = some d → ∃ z, ds[j]? = some z ∧ toPy d = some z
  | [], _, j, z, h, e => by simp at e
  | y :: l, _, j, z, h, e => by
    unfold toPyL at h
    split at h
    · rename_i e1 r a1 a2
      cases h
      cases j with
      | zero =>
        have : y = z := by simpa using e
        subst this
        exact ⟨e1, rfl, a1⟩
      | succ j => exact toPyL_fwd (l := l) (j := j) a2 (by simpa using e)
    · cases h
theorem ex_index (hu : X.A.units + 65 < cLine) (ho : EX X o fa) (ha : EX X e fb)
    (hbase : attributeBase o "index" X.env (eval o X.env) = eval o X.env := by rfl)
    (hfew : ((backTo pos (starEach [e] X.env)).all (fun x => !x.1) && (backToKw pos (keywordEach [] X.env)).all (fun x => x.1.isSome)
      && decide (([e] : List Expr).length + ([] : List Keyword).length + (if ([] : List Keyword).isEmpty then 0 else 1) < 30)) = true := by rfl)
    (hline : (apos.endLine == pos.line) = true := by rfl) (hs : starEach [e] X.env = (false, eval e X.env) :: starEach [] X.env := by rfl) :
    EX X (.Call (.Attribute o "index" apos) [e] [] pos) (eIndex fa fb) :=
  PE.imp (pe_bm PySem.F.plainAttrs_list PySem.F.slot_list_index PySem.F.type_list_index (mt_indexD hu) ho (pa_cons ha pa_nil (hs := hs)) hbase hfew hline hs) fun σ H Q ⟨p, c, ρ, F, Q', es, h, t⟩ =>
  ⟨p, c, ρ, F, _, es, h, fun x c1 v F1 H1 w1 ok1 r1 q1 => by
    split at q1
    · rename_i l
      obtain ⟨a, xs, rfl, e1, rl⟩ := r1
      refine ⟨.inl ⟨rfl, xs, ok_lst ok1 e1⟩, p, c1, ρ, F1, _, es.fwd w1 ok1, q1, fun y c2 u F2 H2 w2 ok2 r2 q2 => ?_⟩
      obtain ⟨⟨p1, p2⟩, j, ⟨z, hz, hzx⟩, hno, q⟩ := q2
      obtain ⟨d, g1, a1, a2⟩ := toPy_of p1
      obtain ⟨ds, g2, b1, b2⟩ := toPyL_of p2
      have rl2 : Rep X.K p F2 (.lst l) (.ref a) := Rep.mono w2.frz (show Rep X.K p F1 (.lst l) (.ref a) from ⟨a, xs, rfl, e1, rl⟩)
      obtain ⟨z', k1, k2⟩ := toPyL_fwd g2 hz
      refine ⟨a, u, d, ds, j, z', rfl, rfl, rl2.dp ok2.sub (show toPy (.lst _) = some (.list ds) by unfold toPy; rw [g2]; rfl), r2.dp ok2.sub g1, shapedL_of b1 b2, shaped_of a1 a2, k1, ?_, fun m w hm hw => ?_, tellI ok2 (t.fwd (w1.trans w2)) q⟩
      · rw [eqv_toPy z y k2 g1]
        exact hzx
      · obtain ⟨d', m1, m2⟩ := toPyL_at g2 hw
        rw [eqv_toPy d' y m2 g1]
        exact hno m d' hm m1
    · exact q1.elim⟩
end
end L3

set_option maxHeartbeats 4000000
/-! L4C: sorted(set(t)) of a tuple of ints of any length. -/
namespace L2
open PySem PySem.Spec PyProof.Rows PySem.Calls PySem.W
section
variable {P : Program} {w : World} {A : Around} {E : Value → Shared → Prop} {s : Shared} {a : Addr}
theorem set_of_tuple {l : Addr} {items : Array Value} (ns : List Int) {Q : Value → Shared → Prop} (hh : A.handled = none) (hl : s.heap.IsTuple l items) (hit : IntsAre items.toList ns) (hb : ns.length + 1 < scanBound)
    (h : ∀ (h' : Heap) (tk c : Nat), SetR w h' s.heap.objs.size (fun j => decide (j ∈ ns)) c → c ≤ ns.length → (∀ b o, s.heap.get? b = some o → h'.get? b = some o) → Q (.ref s.heap.objs.size) { s with heap := h', toks := tk }) :
    wpAny (model P w) A (call (.type "set") [.ref l]) Q E s := by
  have hisz : items.size = ns.length := by
    have q := IntsAre.length hit
    rw [Array.length_toList] at q
    exact q
  obtain ⟨c, tl, hmro⟩ := F.called_set.mro
  have hmade := F.called_set.made
  have hsub := F.called_set.sub
  refine wpAny_call (codeAny_of_tree ?_)
  show wpAny _ _ (callAny (.type "set") _) _ _ _
  refine wpAny_pure ⟨Code.quiet_builtin _ (by decide +kernel), codeAny_builtin F.entry_type_call ?_⟩
  rw [Around.under_plain (weight_type_call_type "set" [.ref l] []) rfl]
  have h1 := F.called_set.notType
  have h2 := F.called_set.canCreate
  have hct := F.typeCall_set_1 (.ref l)
  repeat (any_goals (first | assumption | wp_step))

  refine codeAny_mono (code_set_led1 (.ref l) (E := E) (Q₁ := fun obj s₁ => obj = .ref s.heap.objs.size ∧ s₁ = { s with heap := s.heap.push { cls := .type "set", dict := none, data := .set #[] 0 (.fresh 0 0 (!w.params.followText "set-order")) } }) ⟨rfl, rfl⟩) fun r s₁ hr => ?_
  cases r with
  | error e => exact hr
  | ok fl =>
    cases fl with
    | ret obj =>
      obtain ⟨rfl, rfl⟩ := hr
      have hS : (s.heap.push { cls := .type "set", dict := none, data := .set #[] 0 (.fresh 0 0 (!w.params.followText "set-order")) }).get? s.heap.objs.size = some { cls := .type "set", dict := none, data := .set #[] 0 (.fresh 0 0 (!w.params.followText "set-order")) } := Heap.get?_push_size _ rfl
      have hT : Shared.TypeIs { s with heap := s.heap.push { cls := .type "set", dict := none, data := .set #[] 0 (.fresh 0 0 (!w.params.followText "set-order")) } } (.ref s.heap.objs.size) "set" := ⟨_, hS, rfl⟩
      have hli := F.called_set.init.lookup
      have hbi := F.called_set.init.bind (.ref s.heap.objs.size)
      repeat (any_goals (first | assumption | wp_step))

      refine codeAny_mono (codeAny_call_builtin (R := wants (fun r s₂ => r = .none ∧ ∃ h' tk c, s₂ = { s with heap := h', toks := tk } ∧ SetR w h' s.heap.objs.size (fun j => decide (j ∈ ns)) c ∧ c ≤ ns.length ∧
          (∀ b o, s.heap.get? b = some o → h'.get? b = some o)) E) F.called_set.init.plain F.entry_set_init (check_set_init_1 hT ?_)) fun r₂ s₂ hr₂ => ?_
      · obtain ⟨ol, hol, hcl, nl, hdl⟩ := hl
        obtain ⟨ocls, odict, odata, oslots⟩ := ol
        simp only at hcl hdl
        subst hcl; subst hdl
        have hol' : (s.heap.push { cls := .type "set", dict := none, data := .set #[] 0 (.fresh 0 0 (!w.params.followText "set-order")) }).get? l = some { cls := .type "tuple", dict := odict, data := .seq items nl, slots := oslots } := Heap.get?_push_of_some _ hol
        have hsls := F.sub_tuple_set
        have hslf := F.sub_tuple_frozenset
        have hne : (Value.type "tuple" == Value.type "dict") = false := by decide
        have hl1 : (s.heap.push { cls := .type "set", dict := none, data := .set #[] 0 (.fresh 0 0 (!w.params.followText "set-order")) }).IsTuple l items := ⟨_, hol', rfl, nl, rfl⟩
        unfold Builtin.«set.__init__» noKeywords Builtin.Frozenset.updateFrom
        generalize hPI : pyIter = PI
        wp_walk
        subst hPI

        refine wpAny_pyIter_tuple hl1 ?_
        refine wpAny_bind (wpAny_runValue ?_)
        have hlS : l < s.heap.objs.size := Heap.lt_size hol
        have hh3 : A.in1.in1.in1.handled = none := by simp [hh]
        have hz1 : (s.heap.push { cls := .type "set", dict := none, data := .set #[] 0 (.fresh 0 0 (!w.params.followText "set-order")) }).objs.size = s.heap.objs.size + 1 := Heap.size_push ..
        have hneI : l ≠ (s.heap.push { cls := .type "set", dict := none, data := .set #[] 0 (.fresh 0 0 (!w.params.followText "set-order")) }).objs.size := by
          rw [Heap.size_push]; exact Nat.ne_of_lt (Nat.lt_succ_of_lt hlS)
        have hSf : s.heap.objs.size ∉ [(s.heap.push { cls := .type "set", dict := none, data := .set #[] 0 (.fresh 0 0 (!w.params.followText "set-order")) }).objs.size, l] := by
          rw [Heap.size_push]; simp only [List.mem_cons, List.mem_singleton, List.not_mem_nil, or_false, not_or]
          exact ⟨Nat.ne_of_lt (Nat.lt_succ_self _), Nat.ne_of_gt hlS⟩
        have hval : ∀ (i : Nat) (v : Value), items[i]? = some v → ∃ k t, ns[i]? = some k ∧ v = .int k t := fun i v hv => by
          have hi : i < ns.length := by rw [← hisz]; exact (Array.getElem?_eq_some_iff.mp hv).1
          obtain ⟨t, e⟩ := PyProof.Rows.IntsAre.int_at hit i v (by rw [Array.getElem?_toList]; exact hv)
          refine ⟨ns[i], t, List.getElem?_eq_getElem hi, ?_⟩
          rw [e, List.getD_eq_getElem?_getD, List.getElem?_eq_getElem hi] <;> rfl
        refine set_update_ints ((Walks.tuple hh3 _ l hneI items).toS) s.heap.objs.size
          hSf ns hisz hb hval (items.size - 0) 0 _ (by omega) (Nat.zero_le _)
          ⟨⟨_, Heap.get?_push_size _ rfl, rfl, rfl⟩, (hl1.push _)⟩ ?hS0 ?hR
        case hS0 =>
          have hget : ((s.heap.push { cls := .type "set", dict := none, data := .set #[] 0 (.fresh 0 0 (!w.params.followText "set-order")) }).push { cls := .type "tuple_iterator", data := .fields #[.ref l, .int 0 0] }).get? s.heap.objs.size
              = some { cls := .type "set", dict := none, data := .set #[] 0 (.fresh 0 0 (!w.params.followText "set-order")) } := Heap.get?_push_of_some _ hS
          exact ⟨0, Nat.le_refl 0, setR_new_at hget⟩
        case hR =>
          intro s' c' hm hc' hS'
          obtain ⟨h', g2, d', tk', os'⟩ := s'
          have eg : g2 = s.gens := hm.gens
          have ed : d' = s.drawn := hm.drawn
          have eo : os' = s.os := hm.os
          subst eg; subst ed; subst eo
          show wpAny _ _ _ _ _ _
          refine wpAny_pure ?_
          show wpAny _ _ (ret Value.none) _ _ _
          rw [hisz] at hc'
          refine wpAny_pure ⟨rfl, h', tk', c', rfl, hS', hc', fun b o e => ?_⟩
          have hb0 : b < s.heap.objs.size := Heap.lt_size e
          have hb1 : b ≠ s.heap.objs.size := Nat.ne_of_lt hb0
          have hb2 : b ≠ (s.heap.push { cls := .type "set", dict := none, data := .set #[] 0 (.fresh 0 0 (!w.params.followText "set-order")) }).objs.size := by
            rw [Heap.size_push]; exact Nat.ne_of_lt (Nat.lt_succ_of_lt hb0)
          exact hm.heap b o (by simp only [List.mem_cons, List.mem_singleton, List.not_mem_nil, or_false, not_or]; exact ⟨hb1, hb2⟩) (Heap.get?_push_of_some _ (Heap.get?_push_of_some _ e))

      · cases r₂ with
        | error e => exact hr₂
        | ok fl₂ =>
          cases fl₂ with
          | ret r =>
            obtain ⟨rfl, h', tk, c', rfl, hS', hc', hk'⟩ := hr₂
            repeat (any_goals (first | assumption | wp_step))
            exact h _ _ _ hS' hc' hk'
          | _ => exact hr₂.elim
    | _ => exact hr.elim

end
end L2
namespace L3
open PySem PySem.Spec PyProof.Rows L2
section
variable {K : PySem.W.Frag} {X : Cx} {fa : FE}
@[simp ↓] def fSortSetT (fa : FE) : FL := fun ρ c Q => fa ρ c fun x c => match x with
  | .tup l => ∃ ns, intsOf l = some ns ∧ ns.length ≤ 4000 ∧ ∀ m : List Int, m.Pairwise (· < ·) → (∀ k, k ∈ m ↔ k ∈ ns) → Q (m.map .int) c
  | _ => False
def tSortSetT (K : PySem.W.Frag) (ta : TE) : TE := fun σ H Q => ta σ H fun x H1 => ∃ (l : Addr) (ns : List Int), x = .ref l ∧ SqT K H1 l (ns.map V.int) ∧ ns.length ≤ 4000 ∧ ∀ (m : List Int) (q : Addr), m.Pairwise (· < ·) → (∀ k, k ∈ m ↔ k ∈ ns) → H1 q = none → Q (.ref q) (upd H1 q (.lst (m.map V.int)))
theorem pe_sortSetT {a : Expr} {ta : TE} {p p2 q pos : Pos} (hg : Gl X "sorted") (hm : X.mg "sorted" = none) (hg2 : Gl X "set") (hm2 : X.mg "set" = none) (ha : PE X a ta) (hc : X.calm = true := by rfl)
    (na : starEach [a] X.env = (false, eval a X.env) :: starEach [] X.env := by rfl) : PE X (.Call (.Name "sorted" p) [.Call (.Name "set" p2) [a] [] q] [] pos) (tSortSetT X.K ta) := by
  refine ⟨fun pins s σ H Q I h => ?_⟩
  refine Call_ (ld_blt I hg hm (by decide +kernel : bootBuiltins "sorted" = some (.builtin "sorted")) ?_)
  refine PyProof.Rows.callWith_builtin1 (PyProof.Rows.args_cons ?_ rfl) rfl rfl
  refine Call_ (ld_blt I hg2 hm2 (by decide +kernel : bootBuiltins "set" = some (.type "set")) ?_)
  refine PyProof.Rows.callWith_type1 (PyProof.Rows.args_cons (thn (ha.run pins s σ H _ I h) fun v s1 ⟨x, H1, I1, r1, q1⟩ => PyProof.Rows.args_nil ?_) na) na rfl
  obtain ⟨l, ns, rfl, hq, hl, q1⟩ := q1
  cases r1
  obtain ⟨its, r, pl, hz⟩ := I1.tuple hq
  have hi : IntsAre its.toArray.toList ns := by simpa using RZ.intsAre_vals r
  refine set_of_tuple ns (I1.ok.hd hc) pl hi (by unfold scanBound; omega) fun h' tk c R1 hcn k => ?_
  refine PyProof.Rows.args_nil ?_
  have I2 : Inv X pins σ H1 { s1 with heap := h', toks := tk } := I1.kept fun b o e => k b o e
  refine sorted_of_set (s := { s1 with heap := h', toks := tk }) R1 (I1.ok.hd hc) (by unfold scanBound; omega) fun s' p' out c' ms k2 g o hp hgo hI hs hmm hl2 => ?_
  have hlen : (ms.map V.int).length ≤ sizeLine := by rw [List.length_map, hl2, sizeLine_eq]; omega
  have hn : H1 p' = none := I2.hok.fresh hp
  have J : Inv X pins σ (upd H1 p' (.lst (ms.map V.int))) { s1 with heap := s'.heap, gens := s'.gens, drawn := s'.drawn, toks := s'.toks } :=
    L2.Inv.call (s := { s1 with heap := h', toks := tk }) I2 (ch := []) (Un.laid k2 hp hn) (I2.hok.laid k2 hp ⟨hlen, out.toList, c', vals_of_ints hI, hgo⟩) (by rw [g]; exact I2.bare) (fun _ z => nomatch z)
  have e : s' = { s1 with heap := s'.heap, gens := s'.gens, drawn := s'.drawn, toks := s'.toks } := by
    cases s'
    cases s1
    cases o
    rfl
  rw [e]
  exact ⟨.ref p', _, J, rfl, q1 ms p' hs (fun z => (hmm z).trans decide_eq_true_iff) hn⟩
theorem fx_sortSetT {e : Expr} {p p2 q pos : Pos} (hm : X.mg "sorted" = none) (hm2 : X.mg "set" = none) (ha : EX X e fa) (hg : Gl X "sorted" := by rfl) (hg2 : Gl X "set" := by rfl) (hc : X.calm = true := by rfl) (na : starEach [e] X.env = (false, eval e X.env) :: starEach [] X.env := by rfl) :
    FX X (.Call (.Name "sorted" p) [.Call (.Name "set" p2) [e] [] q] [] pos) (fSortSetT fa) := PE.imp (pe_sortSetT hg hm hg2 hm2 ha hc na) fun σ H Q ⟨p, c, ρ, F, Q', es, h, t⟩ =>
  ⟨p, c, ρ, F, _, es, h, fun d c1 v F1 H1 w1 ok1 r1 q1 => by
    split at q1
    · obtain ⟨b, xs, rfl, h1, rl⟩ := r1
      obtain ⟨ns, e1, hl, q⟩ := q1
      refine ⟨b, ns, rfl, by rw [← RepL.ints rl e1]; exact ok1.sqT h1, hl, fun m a hp hs nq => ?_⟩
      obtain ⟨w, ok, n1, n2, n3⟩ := layL w1 ok1 nq (m.map V.int)
      exact t _ c1 a _ F1 _ w ok n1 n2 n3 upd_same (rep_ints m) (q m hp hs)
    · exact q1.elim⟩
end
end L3

/-! L3E: errors that leave a def. -/
namespace L3
open PySem PySem.Spec PyProof.Rows L2
abbrev KXD := Str → D → Nat → Prop
abbrev FMX := List D → Nat → KD → KXD → Prop
abbrev FEX := Rho → Nat → KD → KXD → Prop
/-- what is told of an error: its class, its value -/
def TellX (K : PySem.W.Frag) (p : Pn) (F H : Hp) (QX : KXD) (W : XK) : Prop := ∀ n d c' v dd F' H', Fwd p F H F' H' → Ok3 p c' F' H' → F' dd = some (.xd [("value", v)]) → Rep K p F' d v → QX n d c' → W (.ref (He.ga K n)) (some dd) H'
theorem TellX.fwd {K : PySem.W.Frag} {p : Pn} {F H F1 H1 : Hp} {QX : KXD} {W : XK} (t : TellX K p F H QX W) (w : Fwd p F H F1 H1) : TellX K p F1 H1 QX W := fun n d c' v dd F' H' fw ok e r q => t n d c' v dd F' H' (w.trans fw) ok e r q
def tSX (K : PySem.W.Frag) (W : XK) (g : FS) : TS := fun D σ H => ∃ p c ρ F F0 H0 E, SSt K p c ρ σ F H F0 H0 ∧ g E ρ c ∧ TellS K p F0 H0 E D ∧ TellX K p F0 H0 E.xx W
abbrev SY (X : Cx) (W : XK) (st : Stmt) (g : FS) : Prop := PS X st (tSX X.K W g)
abbrev BY (X : Cx) (W : XK) (sts : List Stmt) (g : FS) : Prop := PSs X sts (tSX X.K W g)
def tEX (K : PySem.W.Frag) (W : XK) (f : FEX) : TE := fun σ H Q => ∃ p c ρ F Q' QX, ESt K p c ρ σ F H ∧ f ρ c Q' QX ∧ Tell K p F H Q' Q ∧ TellX K p F H QX W
abbrev EY (X : Cx) (W : XK) (e : Expr) (f : FEX) : Prop := PE X e (tEX X.K W f)
/-- a def's promise, with the errors that it may let out -/
def spX (K : PySem.W.Frag) (n : Nat) (m : FMX) : Sp := fun vs H Q E => vs.length = n ∧ ∃ p c F ds Q' QX, Ok3 p c F H ∧ RepL K p F ds vs ∧ m ds c Q' QX ∧ Tell K p F H Q' Q ∧ TellX K p F H QX E
/-- what it says where no error is let out -/
def m0 (m : FMX) : FM := fun ds c Q => m ds c Q fun _ _ _ => False
theorem fnX0 {P : Program} {w : World} {K : PySem.W.Frag} {mg : Str → Option Value} {base : Heap} {k n : Nat} {f : Addr} {fd : FuncData} {ps : List Str} {m : FMX} (F : FnOk P w K mg base (L2.CX P w) k f fd ps (spX K n m)) (hn : ps.length = n) :
    FnOk P w K mg base CX0 k f fd ps (spM K n (m0 m)) := ⟨fun vs H Q E h => h.1.trans hn.symm, fun A outer s H args us vs Q E hr he hb hv ⟨hl, p, c, F1, ds, Q', ok, r, h, t⟩ =>
  codeAny_mono (F.run A outer s H args us vs Q (fun _ _ _ => False) hr he hb hv ⟨hl, p, c, F1, ds, Q', _, ok, r, h, t, fun _ _ _ _ _ _ _ _ _ _ _ z => z.elim⟩) fun r s' hq => by
    cases r with
    | error e =>
      obtain ⟨_, _, _, _, _, _, _, _, _, _, _, _, z⟩ := hq
      exact z.elim
    | ok fl => cases fl <;> exact hq⟩
section
variable {X : Cx} {W : XK} {st : Stmt} {rest : List Stmt} {e a : Expr} {es : List Expr} {fe : FE} {fx : FEX} {fr : FA} {g b : FS} {pos : Pos}
theorem sy_of (h : SX X st g) : SY X W st g := PS.imp h fun D σ H ⟨p, c, ρ, F, F0, H0, E, s, h, t, _⟩ => ⟨p, c, ρ, F, F0, H0, E, s, h, t⟩
theorem by_of {sts : List Stmt} (h : BX X sts g) : BY X W sts g := PSs.imp h fun D σ H ⟨p, c, ρ, F, F0, H0, E, s, h, t, _⟩ => ⟨p, c, ρ, F, F0, H0, E, s, h, t⟩
theorem by_nil : BY X W [] sNil := by_of bx_nil
theorem by_cons (h1 : SY X W st g) (h2 : BY X W rest b) : BY X W (st :: rest) (sSeq g b) := PSs.imp (pss_cons h1 h2) fun D σ H ⟨p, c, ρ, F, F0, H0, E, s, h, t, tx⟩ =>
  ⟨p, c, ρ, F, F0, H0, _, s, h, ⟨fun c1 ρ1 σ1 F1 H1 s1 q => ⟨p, c1, ρ1, F1, F0, H0, E, s1, q, t, tx⟩, t.bk, t.ct, t.rt⟩, tx⟩
theorem by_one (h1 : SY X W st g) : BY X W [st] g := pss_one h1
theorem sy_frz (i : Nat) (h : SY X W st g) : SY X W st (sFrz i g) := PS.imp h fun D σ H ⟨p, c, ρ, F, F0, H0, E, s, h, t, tx⟩ =>
  let ⟨F', s'⟩ := s.frz i
  ⟨p, c, _, F', F0, H0, E, s', h, t, tx⟩
theorem sy_if {cd : Expr} {sa sb : List Stmt} {f : FT} (hc : TX X cd f) (ha : BY X W sa g) (hb : BY X W sb b) : SY X W (.If cd sa sb pos) (sIf f g b) := PS.imp (ps_if hc ha hb) fun D σ H ⟨p, c, ρ, F, F0, H0, E, s, h, t, tx⟩ => by
  obtain ⟨F2, es, w2, k⟩ := s.lend
  refine ⟨p, c, _, F2, _, es, h, fun d c1 F1 H1 w1 ok1 q1 => ?_⟩
  obtain ⟨F3, s3, _⟩ := k c1 F1 H1 w1 ok1
  cases d with
  | true => exact ⟨p, c1, ρ, F3, F0, H0, E, s3, q1, t, tx⟩
  | false => exact ⟨p, c1, ρ, F3, F0, H0, E, s3, q1, t, tx⟩
theorem TellX.unfloor {K : PySem.W.Frag} {p : Pn} {F0 H0 F1 H1 : Hp} {QX : KXD} (t : TellX K p F0 H0 QX W) (w : Fwd p F0 H0 F1 H1) : TellX K p F1 H0 QX W := fun n d c' v dd F' H' fw ok e r q => t n d c' v dd F' H' (fw.unfloor w) ok e r q
theorem sy_for {iter tg : Expr} {body : List Stmt} {fi : FI} {gg : FG} {is : List Nat} (hp : PassesOwn (model X.prog X.w) X.A X.env X.xe) (hc : X.calm = true) (hi : IX X tg iter fi) (hg : GX X tg is gg) (hb : BY X W body g) (hs : ∀ x, foldedSetIterable iter X.env x = pure x := by intro _; rfl) :
    SY X W (.For tg iter body [] pos) (sFor fi gg g) := by
  obtain ⟨wi, pi, ki⟩ := hi.ex
  obtain ⟨gl, pg, kg⟩ := hg.ex
  refine PS.imp (ps_for hp hc pi pg hb hs) fun D σ H ⟨p, c, ρ, F, F0, H0, E, s, h, t, tx⟩ => ki σ H p c _ F _ _ s.e h fun items c1 F1 H1 J w1 ok1 wk q1 => ?_
  have wf := s.ent.trans w1
  refine ⟨fun i m σ H => m = items.length - i ∧ i ≤ items.length ∧ ∃ c ρ F, SSt X.K p c ρ σ F H F1 H0 ∧ forL gg g E (items.drop i) ρ c, ⟨items.length, rfl, Nat.zero_le _, c1, ρ, F1, (s.fwd w1 ok1).floor wf (fun _ _ h => h), q1⟩, fun i m σ H ⟨em, hi, c, ρ, F, s, h⟩ => ?_⟩
  obtain ⟨go, stop⟩ := wk.2 i F H c s.ent.frz s.ok
  by_cases hlt : i < items.length
  · obtain ⟨hgo, hy⟩ := go hlt
    refine .inr ⟨hgo, fun σ' H' => ∃ c ρ F, SSt X.K p c ρ σ' F H' F1 H0 ∧ forL gg g E (items.drop (i + 1)) ρ c, fun σ' H' ⟨c', ρ', F', s', h'⟩ => ⟨items.length - (i + 1), by omega, rfl, hlt, c', ρ', F', s', h'⟩, fun x H' y => ?_⟩
    obtain ⟨F', d, e1, w', ok', r'⟩ := hy x H' y
    have ed : items.drop i = d :: items.drop (i + 1) := by
      rw [List.drop_eq_getElem_cons hlt]
      rw [List.getElem?_eq_getElem hlt] at e1
      rw [Option.some.inj e1]
    rw [ed] at h
    refine kg p c ρ σ F' H' F1 H0 d x _ _ (s.fwd w' ok') r' h fun ρ2 σ2 s2 _ _ h2 => ?_
    exact ⟨p, c, ρ2, F', F1, H0, _, s2, h2, ⟨fun c ρ σ F H s q => ⟨c, ρ, F, s, q⟩, fun c ρ σ F H s q => t.nx c ρ σ F H (s.unfloor wf) q, fun c ρ σ F H s q => ⟨c, ρ, F, s, q⟩,
      fun d c' v F' H' w ok r q => t.rt d c' v F' H' (w.unfloor wf) ok r q⟩, tx.unfloor wf⟩
  · have ei : items.drop i = [] := List.drop_eq_nil_of_le (by omega)
    rw [ei] at h
    exact .inl ⟨stop (by omega), t.nx c ρ σ F H (s.unfloor wf) h⟩
theorem sy_while {cd : Expr} {body : List Stmt} {f : FT} (hp : PassesOwn (model X.prog X.w) X.A X.env X.xe) (hc : TX X cd f) (hb : BY X W body g) : SY X W (.While cd body [] pos) (sWhile f g) := by
  refine PS.imp (ps_while hp hc hb) fun D σ H ⟨p, c, ρ, F, F0, H0, E, s, ⟨n, h⟩, t, tx⟩ => ?_
  refine ⟨fun m σ H => ∃ c ρ F, SSt X.K p c ρ σ F H F0 H0 ∧ whileN f g E m ρ c, ⟨n, c, ρ, F, s, h⟩, fun m σ H ⟨c, ρ, F, s, h⟩ => ?_⟩
  cases m with
  | zero => exact h.elim
  | succ m =>
    obtain ⟨F2, es, w2, k⟩ := s.lend
    refine ⟨p, c, _, F2, _, es, h, fun b c1 F1 H1 w1 ok1 q1 => ?_⟩
    obtain ⟨F3, s3, _⟩ := k c1 F1 H1 w1 ok1
    cases b with
    | true => exact ⟨fun σ' H' => ∃ c ρ F, SSt X.K p c ρ σ' F H' F0 H0 ∧ whileN f g E m ρ c, fun σ' H' ⟨c, ρ, F, s, h⟩ => ⟨m, Nat.lt_succ_self m, c, ρ, F, s, h⟩,
        p, c1, ρ, F3, F0, H0, _, s3, q1, ⟨fun c ρ σ F H s q => ⟨c, ρ, F, s, q⟩, fun c ρ σ F H s q => t.nx c ρ σ F H s q, fun c ρ σ F H s q => ⟨c, ρ, F, s, q⟩, t.rt⟩, tx⟩
    | false => exact t.nx c1 ρ σ F3 H1 s3 q1
/-! expressions that may raise: calls -/
@[simp ↓] def yCall (m : FMX) (fa : FA) : FEX := fun ρ c Q QX => fa ρ c fun l c => m l c Q QX
theorem ey_of (h : EX X e fe) : EY X W e (fun ρ c Q _ => fe ρ c Q) := PE.imp h fun σ H Q ⟨p, c, ρ, F, Q', _, es, h, t, _⟩ => ⟨p, c, ρ, F, Q', es, h, t⟩
theorem ey_call {k n : Nat} {f : Addr} {fd : FuncData} {ps : List Str} {m : FMX} {x : Str} {p : Pos} (G : FnOk X.prog X.w X.K X.mg X.base (L2.CX X.prog X.w) k f fd ps (spX X.K n m)) (hr : Room k X.A) (hm : X.mg x = some (.ref f)) (hk : PySem.W.keepIn X.K (.ref f) = true) (hb : Binds X.K fd ps []) (tk : Takes X (fun cls d _ H => W cls d H))
    (ha : AX X (a :: es) fr) (hl : ∀ l c Q QX, m l c Q QX → l.length = n) (hg : Gl X x := by rfl) (hdb : (x == ("__debug__" : Str)) = false := by decide) (he : starEach (a :: es) X.env = (false, eval a X.env) :: starEach es X.env := by rfl) (hpl : (backTo pos (starEach es X.env)).any (·.1) = false := by rfl) :
    EY X W (.Call (.Name x p) (a :: es) [] pos) (yCall m fr) := PE.imp (pe_call (dvs := []) (E := W) G hr hg hm hk hb .nil (passes_call tk fun _ _ _ _ h => h) ha hdb he hpl) fun σ H Q ⟨p, c, ρ, F, Q', QX, es, h, t, tx⟩ =>
  ⟨p, c, ρ, F, _, es, h, fun l c1 vs F1 H1 w1 ok1 r1 q1 => ⟨by rw [List.append_nil, r1.len]; exact hl _ _ _ _ q1, p, c1, F1, l, Q', QX, ok1, by rw [List.append_nil]; exact r1, q1, t.fwd w1, tx.fwd w1⟩⟩
/-! statements over them -/
@[simp ↓] def yExpr (fx : FEX) : FS := fun E ρ c => fx (ρ.map vB) c (fun _ c => E.nx ρ c) E.xx
@[simp ↓] def yRet (fx : FEX) : FS := fun E ρ c => fx (ρ.map vB) c E.rt E.xx
@[simp ↓] def yAsg (g : FG) (fx : FEX) : FS := fun E ρ c => fx (ρ.map vA) c (fun d c => g d ρ fun ρ => E.nx ρ c) E.xx
theorem sy_expr (he : EY X W e fx) (hs : swapsWith e none pos.line X.env = pure false := by rfl) : SY X W (.Expr e pos) (yExpr fx) := PS.imp (ps_expr he hs) fun D σ H ⟨p, c, ρ, F, F0, H0, E, s, h, t, tx⟩ => by
  obtain ⟨F2, es, w2, k⟩ := s.lend
  refine ⟨p, c, _, F2, _, _, es, h, fun d c1 v F1 H1 w1 ok1 r1 q1 => ?_, tx.fwd w2⟩
  obtain ⟨F3, s3, _⟩ := k c1 F1 H1 w1 ok1
  exact t.nx c1 ρ σ F3 H1 s3 q1
theorem sy_ret (he : EY X W e fx) : SY X W (.Return (some e) pos) (yRet fx) := PS.imp (ps_ret he) fun D σ H ⟨p, c, ρ, F, F0, H0, E, s, h, t, tx⟩ => by
  obtain ⟨F2, es, w2, k⟩ := s.lend
  exact ⟨p, c, _, F2, _, _, es, h, t.rt.fwd w2, tx.fwd w2⟩
theorem sy_asg {tg : Expr} {is : List Nat} {gg : FG} (he : EY X W e fx) (hg : GX X tg is gg) (hs : swapsWithSole [tg] e pos.line X.env = pure false := by rfl) (hw : swappedStores [tg] e X.env = pure none := by rfl)
    (h1 : (assignEach [tg] X.env).map (·.2) = [assign tg X.env] := by rfl) : SY X W (.Assign [tg] e pos) (yAsg gg fx) := by
  obtain ⟨gl, pg, kg⟩ := hg.ex
  refine PS.imp (ps_asg he pg hs hw h1) fun D σ H ⟨p, c, ρ, F, F0, H0, E, s, h, t, tx⟩ => ⟨p, c, _, F, _, _, s.e, h, fun d c1 v F1 H1 w1 ok1 r1 q1 => ?_, tx.fwd s.ent⟩
  exact kg p c1 ρ σ F1 H1 F0 H0 d v _ _ (s.fwd w1 ok1) r1 q1 fun ρ' σ' s' _ _ h' => t.nx c1 ρ' σ' F1 H1 s' h'
end
/-! raise X(e) -/
/-- super() of BindError's __init__ finds ValueError's -/
structure SupC (K : PySem.W.Frag) (C : Addr) : Prop where
  mro : PySem.W.mroIn K C (.ref (He.ga K "BindError")) = some true
  sup : PySem.W.ks_superIn K C (He.ga K "BindError") "__init__" = some (some (.builtin "ValueError.__init__"))
  sub : PySem.W.subIn K (.ref C) (.type "ValueError") = some true
/-- what BindError's __init__ keeps: the value is stored -/
def spInit (K : PySem.W.Frag) : Sp := fun vs H Q _ => ∃ (a C : Addr) (v : V), vs = [.ref a, v] ∧ OexC K C ∧ H a = some (exo a C none) ∧ PySem.W.findIn K (.ref C) "value" = some none ∧ SupC K C ∧
  ∀ dx, H dx = none → dx ≠ a → Q .non (upd (upd H dx (exd dx [("value", v)])) a (exo a C (some dx)))
/-- what the head says of an error class -/
structure ErrC (K : PySem.W.Frag) (mg : Str → Option Value) (n : Str) (fI : Addr) : Prop where
  g : mg n = some (.ref (He.ga K n))
  oex : OexC K (He.ga K n)
  ini : PySem.W.findIn K (.ref (He.ga K n)) "__init__" = some (some (.ref fI))
  no : PySem.W.findIn K (.ref (He.ga K n)) "value" = some none
  sup : SupC K (He.ga K n)
section
variable {X : Cx} {W : XK} {e : Expr} {fe : FE} {pos p1 p2 : Pos} {n : Str} {fI : Addr} {fdI : FuncData} {k : Nat}
@[simp ↓] def sRaise (n : Str) (fe : FE) : FS := fun E ρ c => fe (ρ.map vB) c fun d c => E.xx n d c
theorem raise_heap {H1 : Hp} {a dx C : Addr} {v : V} (na : H1 a = none) (nd : dx ≠ a) : upd (L2.del (upd (upd (upd H1 a (exo a C none)) dx (exd dx [("value", v)])) a (exo a C (some dx))) a) dx (.xd [("value", v)]) = upd H1 dx (.xd [("value", v)]) := by
  funext b
  by_cases e : b = dx
  · rw [e, upd_same, upd_same]
  · rw [upd_ne e, upd_ne e]
    by_cases e2 : b = a
    · rw [e2, del_same, na]
    · rw [del_ne e2, upd_ne e2, upd_ne e, upd_ne e2]
theorem sy_raise (T : ErrC X.K X.mg n fI) (tI : PySem.W.typeIn X.K (.ref fI) = some (.type "function")) (F1 : L2.FnOk X.prog X.w X.K X.mg X.base (L2.CX X.prog X.w) k fI fdI ["self", "value"] (spInit X.K)) (hb : Binds X.K fdI ["self", "value"] []) (hr : Room (k + 1) X.A) (tk : Takes X (fun cls d _ H => W cls d H)) (he : EX X e fe)
    (hc : X.calm = true := by rfl) (hg : Gl X n := by rfl) (hdb : (n == ("__debug__" : Str)) = false := by decide) (hs : starEach [e] X.env = (false, eval e X.env) :: starEach [] X.env := by rfl) : SY X W (.Raise (some (.Call (.Name n p1) [e] [] p2)) none pos) (sRaise n fe) := by
  refine PS.imp (ps_raise hc tk (pmk_oex (dvs := []) T.oex T.ini tI F1 hr.r2 hb .nil passL hg T.g (pa_cons he pa_nil hs) hdb hs rfl)) fun D σ H ⟨p, c, ρ, F, F0, H0, E, s, h, t, tx⟩ => ?_
  obtain ⟨F2, es, w2, k⟩ := s.lend
  refine ⟨p, c, _, F2, _, es, h, fun d c1 v F3 H1 w1 ok1 r1 q1 => ⟨by show 1 ≤ 1000; decide, fun a na => ?_⟩⟩
  refine ⟨a, _, v, rfl, T.oex, upd_same, T.no, T.sup, fun dx nx nd => ⟨rfl, dx, [("value", v)], upd_same, ?_, ?_, ?_⟩⟩
  · rw [upd_ne nd, upd_same]
  · rw [upd_ne nd] at nx; exact nx
  · rw [upd_ne nd] at nx
    rw [raise_heap na nd]
    obtain ⟨w, ok⟩ := Fwd.laid ok1 nx (.xd [("value", v)])
    exact tx n d c1 v dx _ _ (w2.trans (w1.trans w)) ok upd_same (r1.mono w.frz) q1
end
/-! a def that may raise -/
theorem fn3X {P : Program} {w : World} {K : PySem.W.Frag} {mg : Str → Option Value} {base : Heap} {x qual : Str} {st : Stmt} {f : Addr} {fd : FuncData} {N ps : List Str} {k n : Nat} {m : FMX} {g : FS}
    (F : Fun K x qual st f fd) (S : FnScope N ps (defScope st)) (hn : ps.length = n) (hp : ∀ ds c Q QX, m ds c Q QX → g { nx := fun _ c => Q .non c, rt := Q, xx := QX } (start3 N.length ds) c)
    (hbody : ∀ (cdv : Value) (A : Around) (outer : List Env) (s : Shared) (H : Hp) (E : XK), Room k (A.deeper (envOfC qual (defScope st) s.heap.objs.size f cdv)) → Takes (cxOf (L2.CX P w) P w K mg base N qual (defScope st) f cdv A outer s H E) (fun cls d _ H => E cls d H) →
      PassesOwn (model P w) (A.deeper (envOfC qual (defScope st) s.heap.objs.size f cdv)) (envOfC qual (defScope st) s.heap.objs.size f cdv) (cxOf (L2.CX P w) P w K mg base N qual (defScope st) f cdv A outer s H E).xe → BY (cxOf (L2.CX P w) P w K mg base N qual (defScope st) f cdv A outer s H E) E (defBody st) g) : FnOk P w K mg base (L2.CX P w) (k + 1) f fd ps (spX K n m) := by
  refine Fun.ok3 F S (fun vs H Q E h => h.1.trans hn.symm) fun cdv A outer s H vs Q E _ hr ⟨hl, p, c, F1, ds, Q', QX, ok, r, h, t, tx⟩ => ?_
  refine ⟨_, hbody cdv A outer s H E hr (takes_of rfl rfl rfl rfl) (passes_of rfl), p, c, start3 N.length ds, F1, F1, H, _, start_ok ok r, hp ds c Q' QX h, ⟨fun c ρ σ F' H' s q => ?_, fun _ _ _ _ _ _ q => q.elim, fun _ _ _ _ _ _ q => q.elim, t⟩, tx⟩
  exact t .non c .non F' H' s.ent s.ok rfl q
end L3

/-! L3I: an error class whose __init__ says super().__init__(value); self.value = value. -/
namespace L3
open PySem PySem.Spec PyProof.Rows L2
section
open PySem.W PySem.Calls
variable {prog : Program} {w : World} {M : Model} {A : Around} {E : Value → Shared → Prop} {h : Heap} {g : Array GenState} {d : Drawn} {t : Nat} {os : OsState}
variable {nm q : Str} {C N : Addr} {bs bm : List Value} {hdct : Bool} {sn : List Str} {sub : List Value} {ab : Bool} {col : Option Bool} {dd : Option Addr} {k0 k1 k2 k3 k5 : Option Value}
theorem call_mw {u e t0 : Addr} {rest : List Value} {Q : Value → Shared → Prop}
    (hC : h.get? C = some (excClassObj nm q C N bs bm hdct sn sub ab col dd k0 k1 k2 k3 k5 "ValueError.__new__")) (he : h.get? e = some (HandSPX.excO C t0)) (hu : h.get? u = some (kxs_mw "ValueError.__init__" e)) (hrest : rest.length ≤ sizeLine)
    (hq : ∀ h' t1, (∀ b o, b ≠ e → h.get? b = some o → h'.get? b = some o) → h'.get? e = some (HandSPX.excO C t1) → Q .none ⟨h', g, d, t, os⟩) :
    wpAny (model prog w) A (call (.ref u) rest) Q E ⟨h, g, d, t, os⟩ := by
  refine wpAny_call (codeAny_of_tree ?_)
  show wpAny _ A.in1 (callAny (.ref u) ⟨rest, []⟩) _ _ _
  simp only [callAny]
  refine wpAny_bind (wpAny_load hu ?_)
  simp only [kxs_mw, show (Value.type "method-wrapper" == Value.type "method" || Value.type "method-wrapper" == Value.type "builtin_function_or_method" || Value.type "method-wrapper" == Value.type "method-wrapper") = true by decide, if_true]
  refine W.KFB.if_so (by decide) ?_
  refine wpAny_bind (ESX.check_bound F.excBase_ValueError hC he rfl ?_)
  refine wpAny_bind (wpAny_pure (wpAny_pure ?_))
  refine ⟨Code.quiet_builtin _ (by decide +kernel), codeAny_builtin F.excBase_ValueError.initEntry ?_⟩
  rw [Around.under_plainId F.excBase_ValueError.init.plain _]
  wp_walk
  refine hq _ h.objs.size (fun b o hb ho => ?_) ?_
  · rw [Heap.get?_update_other _ _ (Ne.symm hb)]
    exact Heap.get?_push_of_some _ ho
  · rw [Heap.get?_update_self _ (Heap.get?_push_of_some _ he) rfl]
    rfl
end
theorem mc_eval {p0 p1 p2 p3 p4 : Pos} {env : Env} (hl : (p2.endLine == p4.line) = true) : eval ((((Expr.Name (Str.ofString "super") p0).Call [] [] p1).Attribute (Str.ofString "__init__") p2).Call
        [Expr.Name (Str.ofString "value") p3] [] p4) env = (do
        let ov ← attributeBase (((Expr.Name (Str.ofString "super") p0).Call [] [] p1)) "__init__" env (eval ((Expr.Name (Str.ofString "super") p0).Call [] [] p1) env)
        standAt p2.atName
        let (f, first) ← holding [ov] (getMethod ov "__init__" (do return (← importBound (((Expr.Name (Str.ofString "super") p0).Call [] [] p1)) env).getD true))
        callWith p4 f first (backTo p4 (starEach [Expr.Name (Str.ofString "value") p3] env)) []) := by
  rw [show eval ((((Expr.Name (Str.ofString "super") p0).Call [] [] p1).Attribute (Str.ofString "__init__") p2).Call
        [Expr.Name (Str.ofString "value") p3] [] p4) env = (do
        let ov ← attributeBase (((Expr.Name (Str.ofString "super") p0).Call [] [] p1)) "__init__" env (eval ((Expr.Name (Str.ofString "super") p0).Call [] [] p1) env)
        standAt p2.atName
        methodCall (((Expr.Name (Str.ofString "super") p0).Call [] [] p1)) "__init__" p2 p4 env ov 1 (backTo p4 (starEach [Expr.Name (Str.ofString "value") p3] env)) (backToKw p4 (keywordEach [] env))) from rfl]
  unfold methodCall methodCallPos
  rw [show methodCallForm 1 (backTo p4 (starEach [Expr.Name (Str.ofString "value") p3] env)) (backToKw p4 (keywordEach [] env)) = true from rfl]
  simp only [Bool.not_true, Bool.false_or, hl, if_true]
  rfl
/-- what the head says of BindError's __init__ -/
structure InitH (P : Program) (K : PySem.W.Frag) (mg : Str → Option Value) (fI : Addr) where
  oc : Value
  od : Option Addr
  osl : Array (Option Value)
  params : Arguments
  scope : Scope
  dV : Value
  kV : Value
  doc : Value
  pm : Value
  an : Option Addr
  cda : Addr
  ct : Value
  cc : Addr
  p0 : Pos
  p1 : Pos
  p2 : Pos
  p3 : Pos
  p4 : Pos
  p5 : Pos
  p6 : Pos
  p7 : Pos
  p8 : Pos
  p9 : Pos
  hln : (p2.endLine == p4.line) = true
  lk : K.lookup fI = some ⟨oc, od, .func (PySem.W.ksFn "__init__" "BindError.__init__" params [.Expr (.Call (.Attribute (.Call (.Name "super" p0) [] [] p1) "__init__" p2) [.Name "value" p3] [] p4) p5, .Assign [.Attribute (.Name "self" p6) "value" p7] (.Name "value" p8) p9] scope dV kV doc pm an (.ref cda) ct cc), osl⟩
  hcd : PySem.W.codeIn K (.ref cda) "BindError.__init__" = true
  ccl : Value
  cdd : Option Addr
  vs : Array Value
  ccs : Array (Option Value)
  file : Str
  tf : Tok
  lkc : K.lookup cda = some ⟨ccl, cdd, .fields vs, ccs⟩
  hvs : vs[2]? = some (.str file tf)
  hfile : ((P.main.file : Str) == file) = true
  cl : Value
  cld : Option Addr
  csl : Array (Option Value)
  lkk : K.lookup cc = some ⟨cl, cld, .cell (some (.ref (He.ga K "BindError"))), csl⟩
  cdD : ClassData
  hD : PySem.W.clsIn K (He.ga K "BindError") = some cdD
  hsup : mg "super" = none
  K2 : PySem.W.Frag
  hop : PySem.W.nsIn K2 cStatics "thirdparty.any" = some none
  htop : (P.main.scope.names.lookup ("super" : Str)).isSome = false
  ar : Arg
  hpar : (params.posonlyargs ++ params.args).head? = some ar
  har : ar.arg = ("self" : Str)
  kind : scope.kind = .function
  co : scope.isCoroutine = false
  gen : scope.isGenerator = false
  cell : ∀ x ∈ scope.names, x.2 ≠ .cell
  nself : scope.names.lookup ("self" : Str) = some .local
  nval : scope.names.lookup ("value" : Str) = some .local
  nsup : scope.names.lookup ("super" : Str) = some .globalImplicit
  ncls : scope.names.lookup ("__class__" : Str) = some .free
  nfree : ∀ y, scope.names.lookup y = some .free → y = ("__class__" : Str)
def InitH.fn {P : Program} {K : PySem.W.Frag} {mg : Str → Option Value} {fI : Addr} (T : InitH P K mg fI) : FuncData := PySem.W.ksFn "__init__" "BindError.__init__" T.params [.Expr (.Call (.Attribute (.Call (.Name "super" T.p0) [] [] T.p1) "__init__" T.p2) [.Name "value" T.p3] [] T.p4) T.p5, .Assign [.Attribute (.Name "self" T.p6) "value" T.p7] (.Name "value" T.p8) T.p9] T.scope T.dV T.kV T.doc T.pm T.an (.ref T.cda) T.ct T.cc
section
variable {P : Program} {w : World} {K : PySem.W.Frag} {mg : Str → Option Value} {base : Heap} {fI : Addr}
/-- the context of its body -/
def iniCx (P : Program) (w : World) (K : PySem.W.Frag) (mg : Str → Option Value) (base : Heap) (scope : Scope) (fI cda cc : Addr) (A : Around) (outer : List Env) (s : Shared) (H : Hp) (E : XK) : Cx where
  prog := P
  w := w
  K := K
  mg := mg
  base := base
  A := A.deeper (PySem.W.ksEnv "BindError.__init__" scope s.heap.objs.size fI (.ref cda) cc)
  N := ["self", "value"]
  s_0 := s
  H_0 := H
  env := PySem.W.ksEnv "BindError.__init__" scope s.heap.objs.size fI (.ref cda) cc
  outer := outer
  stack := PySem.W.ksEnv "BindError.__init__" scope s.heap.objs.size fI (.ref cda) cc :: outer
  ex := []
  fn := fun _ => false
  calm := true
  pn := []
  xe := fun e s' => wpAny (model P w) (A.deeper (PySem.W.ksEnv "BindError.__init__" scope s.heap.objs.size fI (.ref cda) cc)) (leaving (PySem.W.ksEnv "BindError.__init__" scope s.heap.objs.size fI (.ref cda) cc) e) (fun _ s'' => L2.CX P w outer H s E e s'') (fun e' s'' => L2.CX P w outer H s E e' s'') s'
theorem ini_start (T : InitH P K mg fI) {A : Around} {outer : List Env} {s : Shared} {H : Hp} {E : XK} {x : V} {v : V} {ux u : Value} (hd : A.handled = none) (e0 : Env0 P w K mg base A outer s H) (rx : RelV x ux) (rv : RelV v u) {h₁ : Heap} {tk : Nat}
    (hns : h₁.Ns s.heap.objs.size fun y => ([("self", ux), ("value", u)] : List (Str × Value)).reverse.lookup y) (kp : ∀ b o, s.heap.get? b = some o → h₁.get? b = some o) :
    Inv (iniCx P w K mg base T.scope fI T.cda T.cc A outer s H E) [] [some x, some v] H { s with heap := h₁, toks := tk } := by
  have KX : K.In s.heap := e0.mod.kin.keeps fun b o e => (e0.bs b o e).1
  have noA : ∀ b : Addr, b ∉ (iniCx P w K mg base T.scope fI T.cda T.cc A outer s H E).ex := fun b z => absurd (show b ∈ ([] : List Addr) from z) (by simp)
  have look : ∀ {y c}, (iniCx P w K mg base T.scope fI T.cda T.cc A outer s H E).env.cells.lookup y = some c → y = "__class__" ∧ c = T.cc := fun {y c} e => by
    have e : ([("__class__", T.cc)] : List (Str × Addr)).lookup y = some c := e
    simp only [List.lookup] at e
    split at e
    · rename_i q
      cases e
      exact ⟨by simpa using q, rfl⟩
    · cases e
  have nc : H T.cc = none := (e0.bs T.cc _ (e0.mod.kin _ _ T.lkk)).2
  have hc : h₁.IsCell T.cc (some (.ref (He.ga K "BindError"))) := ⟨_, kp _ _ (KX _ _ T.lkk), rfl⟩
  refine ⟨⟨e0.mod, T.kind, rfl, rfl, Nat.le_refl _, fun y z c e1 e2 => (look e1).1.trans (look e2).1.symm, fun y hy => ?_, fun y c z _ => ?_, fun _ => hd, Around.frames_deeper e0.frames, .inr ⟨rfl, rfl⟩, fun b z => absurd z (noA b), e0.bs, e0.bsz, fun b _ _ => noA b,
      fun b z => absurd z (noA b), e0.funs, e0.frf⟩,
    rfl, e0.bare, Un.kept kp, ⟨_, hns, fun i y v' e1 e2 e3 => ?_⟩, fun y c e => ?_, e0.hok.fresh (Nat.le_refl _), fun y c e => ?_, fun q hq => absurd (show q ∈ ([] : List (Addr × Obj)) ++ [] from hq) (by simp), e0.hok.kept kp, rfl⟩
  · have hy : T.scope.names.lookup y = some .cell ∨ T.scope.names.lookup y = some .free := hy
    rcases hy with hy | hy
    · exact absurd rfl (T.cell _ (PySem.mem_of_lookup hy))
    · rw [T.nfree y hy]
      exact ⟨T.cc, rfl⟩
  · have z : false = true := z
    cases z
  · match i, e1, e2 with
    | 0, e1, e2 =>
      cases e1
      cases e2
      exact ⟨ux, rx, .inl ⟨T.nself, rfl⟩⟩
    | 1, e1, e2 =>
      cases e1
      cases e2
      exact ⟨u, rv, .inl ⟨T.nval, rfl⟩⟩
    | i + 2, e1, e2 => cases e2
  · rw [(look e).2]
    exact ⟨_, hc⟩
  · rw [(look e).2]
    exact nc
/-- BindError's __init__ keeps its promise -/
theorem init_ok (T : InitH P K mg fI) (hk2 : T.K2.In base) : L2.FnOk P w K mg base (L2.CX P w) 1 fI T.fn ["self", "value"] (spInit K) := by
  refine ⟨fun vs H Q E h => ?_, fun A outer s H args us vs Q E hr e0 hb rv ⟨a, C, v, ev, oex, ha, hno, hsup, hq⟩ => ?_⟩
  · obtain ⟨a, C, v, rfl, _⟩ := h
    rfl
  subst ev
  obtain ⟨u, rfl, ru⟩ : ∃ u, us = [.ref a, u] ∧ RelV v u := by
    cases rv with
    | cons r1 r2 =>
      cases r2 with
      | cons r3 r4 =>
        cases r4
        cases (show _ = Value.ref a from r1)
        exact ⟨_, rfl, r3⟩
  have KX : K.In s.heap := e0.mod.kin.keeps fun b o e => (e0.bs b o e).1
  have lim : s.heap.NoLimit := e0.mod.nolimit.keeps fun b o e => (e0.bs b o e).1
  have hloc : ∀ y ∈ (["self", "value"] : List Str).zip [Value.ref a, u], T.scope.names.lookup y.1 = some .local := fun y hy => by
    rcases List.mem_cons.mp hy with rfl | hy
    · exact T.nself
    · rcases List.mem_cons.mp hy with rfl | hy
      · exact T.nval
      · cases hy
  refine ks_codeAny_call_defAt (binds := (["self", "value"] : List Str).zip [Value.ref a, u]) hr.depth (KX _ _ T.lk) rfl lim (PySem.W.codeRec_of KX T.hcd) rfl hb T.cell hloc (fun h₁ hns kp => ?_) T.co T.gen T.kind
  have J0 : Inv (iniCx P w K mg base T.scope fI T.cda T.cc A outer s H E) [] [some (.ref a), some v] H { s with heap := h₁, toks := s.toks + ((["self", "value"] : List Str).zip [Value.ref a, u]).length } := ini_start (x := .ref a) T hr.hd e0 rfl ru hns kp
  obtain ⟨oD, hD1, hD2⟩ : ∃ oD, h₁.get? (He.ga K "BindError") = some oD ∧ oD.data = .cls T.cdD := by
    have hD := T.hD
    unfold PySem.W.clsIn at hD
    split at hD
    · rename_i c d cd' sl ho
      cases hD
      exact ⟨_, J0.kIn _ _ ho, rfl⟩
    · cases hD
  obtain ⟨mb, b1, b2⟩ := J0.mod.blt
  obtain ⟨t1, hoa⟩ := exo_at J0.hok ha
  refine PySem.ks_wpAt_execs_cons (PySem.ks_wpAt_Expr_any (PySem.ks_wpAt_MethodCall (PySem.ks_wpAt_super_base T.nsup T.ncls (by decide) rfl (J0.kIn _ _ T.lk) rfl T.hpar rfl (J0.kIn _ _ T.lkc) rfl T.hvs T.hfile T.htop ?_) (mc_eval T.hln)) J0.quiet)
  refine PySem.W.ks_loadName_global T.kind T.nsup (PySem.Calls.loadGlobal_builtin (J0.mod.glob.keeps J0.bk) T.hsup (b1.keeps J0.bk) ((b2 _ (by decide)).trans PyProof.Rows.Boot.«super») ⟨rfl, ?_⟩)
  refine wpAny_loadName_free T.kind T.ncls rfl ⟨_, J0.kIn _ _ T.lkk, rfl⟩ ?_
  refine wpAny_loadName_local T.kind (by rw [T.har]; exact T.nself) hns (v := .ref a) (by rw [T.har]; rfl) ?_
  refine PySem.ks_wpAny_isType_cls hD1 hD2 ⟨rfl, ?_⟩
  refine PySem.ks_wpAny_call_super hD1 hD2 hoa rfl (fun c e => by cases e) (PySem.W.looks_mroIn J0.kIn hsup.mro) (fun h2 hso k2 => ?_)
  have J2 := J0.kept (t' := s.toks + ((["self", "value"] : List Str).zip [Value.ref a, u]).length) k2
  obtain ⟨t2, hoa2⟩ := exo_at J2.hok ha
  have hs := hsup.sup
  cases hc : PySem.W.clsIn K C with
  | none => unfold PySem.W.ks_superIn at hs; rw [hc] at hs; cases hs
  | some cd =>
    unfold PySem.W.ks_superIn at hs
    rw [hc] at hs
    have hac : a ≠ C := fun z => by
      unfold PySem.W.clsIn at hc
      split at hc
      · rename_i c d cd' sl ho
        have y := J2.kIn _ _ ho
        rw [← z, hoa2] at y
        cases y
      · cases hc
    have hI : PySem.W.Looks (model P w) h2 (typeOf (.ref a)) (.ref C) := (PySem.W.Looks.ld hoa2).andThen .now
    refine PySem.W.kxs_getMethod PySem.W.kxs_ValueError hso (PySem.W.looks_opaque (hk2.keeps J2.bk) T.hop) (l₀ := cd.mro) (fun A Q E s k q => wpAny_bind ((PySem.W.looks_clsIn J2.kIn hc) A _ E s k (wpAny_pure q))) rfl J2.kIn hs (hI.andThen (PySem.W.looks_subIn J2.kIn hsup.sub)) hac (by decide) ?_
    have k3 : ∀ b o, h2.get? b = some o → (h2.push (PySem.W.kxs_mw "ValueError.__init__" a)).get? b = some o := fun b o e => Heap.get?_push_of_some _ e
    have J3 := J2.kept (t' := s.toks + ((["self", "value"] : List Str).zip [Value.ref a, u]).length + 1) k3
    have hn : H h2.objs.size = none := J2.hok.fresh (Nat.le_refl _)
    have J4 := J3.pins_of (pins' := [(h2.objs.size, PySem.W.kxs_mw "ValueError.__init__" a)]) fun p hp => by
      rcases List.mem_cons.mp hp with rfl | hp
      · exact ⟨Heap.get?_push_at rfl rfl, hn, Nat.ne_of_gt J2.lt, J2.nofs (Nat.le_refl _), fun v z => by cases z⟩
      · cases hp
    have vv : Vis (iniCx P w K mg base T.scope fI T.cda T.cc A outer s H E).env.scope "value" := .inl T.nval
    have pv : PA (iniCx P w K mg base T.scope fI T.cda T.cc A outer s H E) [.Name "value" T.p3] (tCons (tVar 1) tNil) := pa_cons (pe_var rfl vv) pa_nil
    refine PySem.W.kxs_callWith (i := "ValueError.__init__") (x := a) rfl (PySem.Calls.evalArgs_plain (thn (pv.run T.p4 _ _ [some (.ref a), some v] H (fun vs H1 => vs = [v] ∧ H1 = H) J4 ?_) fun us s1 ⟨vs, H1, J5, r1, ev, eH⟩ => ?_))
    · exact ⟨v, rfl, rfl, rfl⟩
    · subst ev
      rw [eH] at J5
      cases r1 with
      | cons rv5 r0 =>
        cases r0
        obtain ⟨nm, q, N, bs, bm, sn, sub, ab, col, dd, k0, k1, k2', k3', k5, hC, hbm⟩ := oex.cls
        obtain ⟨t5, hoa5⟩ := exo_at J5.hok ha
        have hu := (J5.pin _ (List.mem_append_right _ (List.mem_cons_self ..))).1
        refine ⟨hu, ?_⟩
        obtain ⟨hp5, g5, d5, tk5, os5⟩ := s1
        refine call_mw (J5.kIn _ _ hC) hoa5 hu (by show 1 ≤ sizeLine; rw [sizeLine_eq]; decide) (fun h6 t6 k6 hx => ?_)
        have J6 := J5.write (t' := tk5) (x := a) (e := a) (o := exo a C none) (by rw [ha]; exact True.intro) (.inl rfl) k6 ⟨_, hx⟩ (exo_ok hx)
        have eu : upd H a (exo a C none) = H := by
          funext b
          by_cases hb : b = a
          · rw [hb, upd_same, ha]
          · rw [upd_ne hb]
        rw [eu] at J6
        have vs : Vis (iniCx P w K mg base T.scope fI T.cda T.cc A outer s H E).env.scope "self" := .inl T.nself
        have st2 := (pss_one (ps_ost (f := "value") (p' := T.p7) (pos := T.p9) (pe_var (i := 0) (pos := T.p6) rfl vs) (pe_var (i := 1) (pos := T.p8) rfl vv) rfl)).run _ _ _ _ { nx := fun σ H => Q .non H, rt := Q } J6 ⟨v, rfl, .ref a, rfl, a, C, rfl, oex, hno, .inl ⟨ha, fun dx nx nd => hq dx nx nd⟩⟩
        refine wpAt_of_wpAny (wpAny_mono st2 (fun f s7 h7 => ?_) fun e s7 h7 => h7)
        cases f with
        | next =>
          obtain ⟨σ', H', J, q⟩ := h7
          exact ⟨.non, H', J.os, J.bare, J.base, J.hok, rfl, q⟩
        | brk => obtain ⟨_, _, _, z⟩ := h7; exact z.elim
        | cont => obtain ⟨_, _, _, z⟩ := h7; exact z.elim
        | ret u' =>
          obtain ⟨v', σ', H', J, r, q⟩ := h7
          exact ⟨v', H', J.os, J.bare, J.base, J.hok, r, q⟩
end
end L3

set_option maxHeartbeats 2000000
/-! L4E: closures as data. A lambda's object is frozen; what calling it answers is told over a base that holds its cells. -/
namespace L3
open PySem PySem.Spec PyProof.Rows L2
/-- what closures answer: which data are such, what a call tells -/
structure TLs where
  dom : D → Prop
  tl : D → List D → Nat → KD → KXD → Prop
def FnData (o : Obj) : Prop := ∃ cls dict fd sl, o = ⟨cls, dict, .func fd, sl⟩
def ActsB (P : Program) (w : World) (K : PySem.W.Frag) (mg : Str → Option Value) (base : Heap) (k : Nat) (T : TLs) : Prop :=
  ∀ d, T.dom d → ∃ f F0 p0 o, d = .lam f F0 p0 ∧ F0 f = some (FunO f o) ∧ FnData o ∧
    ∀ (A : Around) (outer : List Env) (s : Shared) (H : Hp), Room k A → Env0 P w K mg base A outer s H → ∀ (ds : List D) (us : List Value) (vs : List V) (p : Pn) (c : Nat) (F : Hp) (Q : VK) (Q' : KD) (QX : KXD) (W : XK),
      Ok3 p c F H → Rep K p F d (.ref f) → RepL K p F ds vs → Vals vs us → T.tl d ds c Q' QX → Tell K p F H Q' Q → TellX K p F H QX W →
      codeAny (model P w) A (.call (.ref f) ⟨us, []⟩) (CR (L2.CX P w) outer P w H s Q W) s
/-! ### a lambda's names -/
structure LamN (sc scope : Scope) (ps : List Str) : Prop where
  kind : scope.kind = .function
  co : scope.isCoroutine = false
  gen : scope.isGenerator = false
  par : ∀ h ∈ ps, scope.names.lookup h = some .local
  own : ∀ y ∈ scope.names, y.2 ≠ .cell ∧ (y.2 = .local → y.1 ∈ ps)
  free : ∀ y ∈ scope.names, y.2 = .free → sc.names.lookup y.1 = some .cell ∨ sc.names.lookup y.1 = some .free
def lamNB (sc scope : Scope) (ps : List Str) : Bool :=
  decide (scope.kind = .function) && !scope.isCoroutine && !scope.isGenerator && (ps.all fun h => decide (scope.names.lookup h = some .local)) &&
    scope.names.all fun y => !decide (y.2 = .cell) && (!decide (y.2 = .local) || decide (y.1 ∈ ps)) && (!decide (y.2 = .free) || decide (sc.names.lookup y.1 = some .cell) || decide (sc.names.lookup y.1 = some .free))
theorem lamN_of {sc scope : Scope} {ps : List Str} (q : lamNB sc scope ps = true) : LamN sc scope ps := by
  unfold lamNB at q
  simp only [Bool.and_eq_true, Bool.or_eq_true, Bool.not_eq_true', decide_eq_true_eq, decide_eq_false_iff_not, List.all_eq_true] at q
  obtain ⟨⟨⟨⟨h1, h2⟩, h3⟩, h5⟩, h4⟩ := q
  refine ⟨h1, h2, h3, h5, fun y hy => ⟨(h4 y hy).1.1, fun e => ?_⟩, fun y hy e => ?_⟩
  · rcases (h4 y hy).1.2 with z | z
    · exact absurd e z
    · exact z
  · rcases (h4 y hy).2 with (z | z) | z
    · exact absurd e z
    · exact .inl z
    · exact .inr z
def maskNB (sc : Scope) (ps : List Str) : List Str → List Str → Bool
  | [], [] => true
  | a :: l, b :: m => ((decide (b = a) && !decide (b ∈ ps)) || decide (sc.names.lookup b = none)) && maskNB sc ps l m
  | _, _ => false
structure MaskN (sc : Scope) (ps N N2 : List Str) : Prop where
  len : N2.length = N.length
  at_ : ∀ (i : Nat) (y : Str), N2[i]? = some y → Vis sc y → N[i]? = some y ∧ y ∉ ps
theorem maskN_of {sc : Scope} {ps : List Str} : ∀ {N N2 : List Str}, maskNB sc ps N N2 = true → MaskN sc ps N N2
  | [], [], _ => ⟨rfl, fun i y e => by simp at e⟩
  | a :: l, b :: m, q => by
    unfold maskNB at q
    rw [Bool.and_eq_true] at q
    have r := maskN_of q.2
    refine ⟨by rw [List.length_cons, List.length_cons, r.len], fun i y e v => ?_⟩
    cases i with
    | zero =>
      cases (show some b = some y from e)
      rcases Bool.or_eq_true_iff.mp q.1 with z | z
      · rw [Bool.and_eq_true] at z
        refine ⟨by rw [of_decide_eq_true z.1]; rfl, fun w => ?_⟩
        have := z.2
        rw [decide_eq_true w] at this
        cases this
      · have z := of_decide_eq_true z
        rcases v with v | v | v <;> rw [z] at v <;> cases v
    | succ i => exact r.at_ i y e v
  | [], b :: m, q => by cases q
  | a :: l, [], q => by cases q
abbrev lamCxN (X : Cx) (A : Around) (outer : List Env) (s : Shared) (H : Hp) (E : XK) (scope : Scope) (f c' : Addr) (N2 ps : List Str) : Cx := { LamX.lamCx X A outer s H E scope f c' with N := N2 ++ ps }
theorem zip_one {ps : List Str} {us : List Value} {y : Str} {u u' : Value} (nd : ps.Nodup) (h1 : (y, u) ∈ ps.zip us) (h2 : (y, u') ∈ ps.zip us) : u = u' := by
  induction ps generalizing us with
  | nil => simp at h1
  | cons a ps ih =>
    cases us with
    | nil => simp at h1
    | cons b us =>
      rw [List.nodup_cons] at nd
      rw [List.zip_cons_cons, List.mem_cons] at h1 h2
      rcases h1 with h1 | h1 <;> rcases h2 with h2 | h2
      · cases h1; cases h2; rfl
      · cases h1; exact absurd (List.of_mem_zip h2).1 nd.1
      · cases h2; exact absurd (List.of_mem_zip h1).1 nd.1
      · exact ih nd.2 h1 h2
theorem zip_look {ps : List Str} {us : List Value} {y : Str} {u : Value} {j : Nat} (nd : ps.Nodup) (h1 : ps[j]? = some y) (h2 : us[j]? = some u) : (ps.zip us).reverse.lookup y = some u := by
  have hm : (y, u) ∈ ps.zip us := List.mem_of_getElem? (i := j) (by rw [List.getElem?_zip_eq_some]; exact ⟨h1, h2⟩)
  obtain ⟨u', e⟩ := mem_lookup (List.mem_reverse.mpr hm)
  rw [e, zip_one nd hm (List.mem_reverse.mp (PySem.mem_of_lookup e))]
theorem vals_at {vs : List V} {us : List Value} (r : Vals vs us) : ∀ {j : Nat} {v : V}, vs[j]? = some v → ∃ u, us[j]? = some u ∧ RelV v u := by
  induction r with
  | nil => intro j v h; simp at h
  | cons r t ih =>
    intro j v h
    cases j with
    | zero => cases h; exact ⟨_, rfl, r⟩
    | succ j => exact ih (by simpa using h)
section
variable {X : Cx} {pins : List (Addr × Obj)} {σ : L2.St} {H HZ : Hp} {s s1 : Shared}
theorem lamN_begin {A : Around} {outer : List Env} {E : XK} {scope : Scope} {f c' : Addr} {h₁ : Heap} {tk : Nat} {ps N2 : List Str} {vs : List V} {us : List Value} (I : Inv X pins σ H s) (L : LamN X.env.scope scope ps) (hnew : MaskN scope ps X.N N2)
    (e0 : Env0 X.prog X.w X.K X.mg X.base A outer s1 HZ) (hd : A.handled = none) (hcell : ∀ y c, X.env.cells.lookup y = some c → ∀ o, s.heap.get? c = some o → s1.heap.get? c = some o ∧ HZ c = none)
    (hns : h₁.Ns s1.heap.objs.size fun y => (ps.zip us).reverse.lookup y) (kp : ∀ b o, s1.heap.get? b = some o → h₁.get? b = some o) (rv : Vals vs us) (hl : vs.length = ps.length) (nd : ps.Nodup) :
    Inv (lamCxN X A outer s1 HZ E scope f c' N2 ps) [] (σ ++ vs.map some) HZ { s1 with heap := h₁, toks := tk } := by
  have hasC : ∀ y ∈ scope.names, y.2 = .free → ∃ c, X.env.cells.lookup y.1 = some c := fun y hy e => (L.free y hy e).elim (fun k => I.ok.has _ (.inl k)) (fun k => I.ok.has _ (.inr k))
  have toX : ∀ {y c}, (cloFrom X.env.cells scope.names []).lookup y = some c → X.env.cells.lookup y = some c := fun {y c} e => by
    rcases cloFrom_mem (PySem.mem_of_lookup e) with hm | ⟨h1, h2⟩
    · cases hm
    · obtain ⟨c1, hc⟩ := hasC _ h1 rfl
      simp only at hc h2
      rw [hc] at h2
      rw [h2]
      exact hc
  have ofX : ∀ {y}, scope.names.lookup y = some .free → ∃ c, (cloFrom X.env.cells scope.names []).lookup y = some c := fun {y} hl => mem_lookup (cloFrom_has (cells := X.env.cells) (acc := []) (PySem.mem_of_lookup hl))
  have stays : ∀ {y : Str} {c : Addr} {v : Option Value}, X.env.cells.lookup y = some c → s.heap.IsCell c v → h₁.IsCell c v := fun {y c v} n ⟨o, ho, hd⟩ => ⟨_, kp _ _ (hcell y c n o ho).1, hd⟩
  have none_ : ∀ b : Addr, b ∉ (lamCxN X A outer s1 HZ E scope f c' N2 ps).ex := fun b z => absurd (show b ∈ ([] : List Addr) from z) (by simp)
  refine ⟨⟨e0.mod, L.kind, rfl, rfl, Nat.le_refl _, fun y z c e1 e2 => I.ok.inj y z c (toX e1) (toX e2), fun y hy => ?_, fun y c z _ => ?_, fun _ => hd, Around.frames_deeper e0.frames, .inr ⟨rfl, rfl⟩, fun b z => absurd z (none_ b), e0.bs, e0.bsz, fun b _ _ => none_ b,
      fun b z => absurd z (none_ b), e0.funs, e0.frf⟩,
    rfl, e0.bare, Un.kept kp, ⟨_, hns, fun i y v' e1 e2 e3 => ?_⟩, fun y c e => ?_, e0.hok.fresh (Nat.le_refl _), fun y c e => ?_, fun q hq => absurd (show q ∈ ([] : List (Addr × Obj)) ++ [] from hq) (by simp), e0.hok.kept kp, ?_⟩
  · have hy : scope.names.lookup y = some .cell ∨ scope.names.lookup y = some .free := hy
    rcases hy with hy | hy
    · exact absurd rfl (L.own _ (PySem.mem_of_lookup hy)).1
    · exact ofX hy
  · have z : false = true := z
    cases z
  · have e1 : (N2 ++ ps)[i]? = some y := e1
    have e3 : Vis scope y := e3
    by_cases hi : i < N2.length
    · rw [List.getElem?_append_left hi] at e1
      rw [List.getElem?_append_left (by rw [I.len, ← hnew.len]; exact hi)] at e2
      obtain ⟨e1, hyh⟩ := hnew.at_ i y e1 e3
      rcases e3 with k | k | k
      · exact absurd ((L.own _ (PySem.mem_of_lookup k)).2 rfl) hyh
      · exact absurd rfl (L.own _ (PySem.mem_of_lookup k)).1
      · obtain ⟨m, hn, hl⟩ := I.loc
        have hvis : Vis X.env.scope y := (L.free _ (PySem.mem_of_lookup k) rfl).elim (fun k => .inr (.inl k)) (fun k => .inr (.inr k))
        obtain ⟨w', r, q⟩ := hl i y v' e1 e2 hvis
        obtain ⟨c2, h2⟩ := ofX k
        refine ⟨w', r, .inr ⟨.inr k, c2, h2, ?_⟩⟩
        have c1 := toX h2
        rcases q with ⟨k', _⟩ | ⟨_, c3, e', z⟩
        · have k' : X.env.scope.names.lookup y = some .local := k'
          rcases L.free _ (PySem.mem_of_lookup k) rfl with k2 | k2 <;> rw [show X.env.scope.names.lookup y = _ from k2] at k' <;> cases k'
        · rw [c1] at e'
          cases e'
          exact stays c1 z
    · rw [List.getElem?_append_right (Nat.le_of_not_lt hi)] at e1
      have hs : σ.length = N2.length := by rw [I.len, hnew.len]
      rw [List.getElem?_append_right (by rw [hs]; exact Nat.le_of_not_lt hi), hs, List.getElem?_map] at e2
      cases e4 : vs[i - N2.length]? with
      | none => rw [e4] at e2; cases e2
      | some v0 =>
        rw [e4] at e2
        cases e2
        obtain ⟨u, g1, g2⟩ := vals_at rv e4
        exact ⟨u, g2, .inl ⟨L.par y (List.mem_of_getElem? e1), zip_look nd e1 g1⟩⟩
  · obtain ⟨w', z⟩ := I.cell y c (toX e)
    exact ⟨w', stays (toX e) z⟩
  · obtain ⟨v, o, ho, hd⟩ := I.cell y c (toX e)
    exact (hcell y c (toX e) o ho).2
  · show (σ ++ vs.map some).length = (N2 ++ ps).length
    rw [List.length_append, List.length_append, I.len, hnew.len, List.length_map, hl]
/-- the base grown by the cells of a def's own frame -/
theorem grow (I : Inv X pins σ H s) (hfn : ∀ y, X.fn y = true) (hst : X.stack = X.env :: X.outer) (hfr : X.env.frame = some X.env.locals) : ∃ B : Heap, X.base.objs.size ≤ B.objs.size ∧ (∀ b o, X.base.get? b = some o → B.get? b = some o) ∧ (∀ y c, X.env.cells.lookup y = some c → ∀ o, s.heap.get? c = some o → B.get? c = some o) ∧ Env0 X.prog X.w X.K X.mg B X.A X.stack s H := by
  have e0 := I.env0
  let pb : Addr → Bool := fun b => (X.base.get? b).isSome || X.env.cells.any fun q => decide (X.env.cells.lookup q.1 = some b)
  let l := (List.range s.heap.objs.size).filter fun b => !pb b
  have inl : ∀ b, b < s.heap.objs.size → pb b = false → b ∈ l := fun b h1 h2 => List.mem_filter.mpr ⟨List.mem_range.mpr h1, by simp [h2]⟩
  have nil : ∀ b, pb b = true → b ∉ l := fun b h hm => by
    have := (List.mem_filter.mp hm).2
    rw [h] at this
    cases this
  have pc : ∀ y c, X.env.cells.lookup y = some c → pb c = true := fun y c e => by
    show ((X.base.get? c).isSome || X.env.cells.any fun q => decide (X.env.cells.lookup q.1 = some c)) = true
    rw [Bool.or_eq_true]
    exact .inr (List.any_eq_true.mpr ⟨(y, c), PySem.mem_of_lookup e, decide_eq_true e⟩)
  have up : ∀ b o, X.base.get? b = some o → (PySem.W.hideAll s.heap l).get? b = some o := fun b o e => PySem.W.hideAll_get l (e0.bs b o e).1 (nil b (by
    show ((X.base.get? b).isSome || X.env.cells.any fun q => decide (X.env.cells.lookup q.1 = some b)) = true
    rw [e]; rfl))
  have yes : ∀ b o, (PySem.W.hideAll s.heap l).get? b = some o → pb b = true ∧ s.heap.get? b = some o := fun b o e => by
    have z := PySem.W.of_hideAll l e
    refine ⟨?_, z⟩
    cases q : pb b with
    | true => rfl
    | false => rw [PySem.W.hideAll_none l (inl b (Heap.lt_size z) q)] at e; cases e
  have src : ∀ b, pb b = true → (∃ o, X.base.get? b = some o) ∨ ∃ y, X.env.cells.lookup y = some b := fun b h => by
    have h : ((X.base.get? b).isSome || X.env.cells.any fun q => decide (X.env.cells.lookup q.1 = some b)) = true := h
    rw [Bool.or_eq_true] at h
    rcases h with h | h
    · exact .inl (Option.isSome_iff_exists.mp h)
    · obtain ⟨q, _, e⟩ := List.any_eq_true.mp h
      exact .inr ⟨q.1, of_decide_eq_true e⟩
  refine ⟨PySem.W.hideAll s.heap l, by rw [PySem.W.hideAll_size]; exact e0.bsz, up, fun y c e o ho => PySem.W.hideAll_get l ho (nil c (pc y c e)), e0.frames, ⟨e0.mod.kin.keeps up, e0.mod.glob.keeps up, ?_, e0.mod.nolimit.keeps up⟩, fun b o e => ?_, ?_, ?_, e0.frf, e0.hok, e0.bare⟩
  · obtain ⟨mb, b1, b2⟩ := e0.mod.blt
    exact ⟨mb, b1.keeps up, b2⟩
  · obtain ⟨h1, h2⟩ := yes b o e
    refine ⟨h2, ?_⟩
    rcases src b h1 with ⟨o', z⟩ | ⟨y, z⟩
    · exact (e0.bs b o' z).2
    · exact I.freeC y b z
  · rw [PySem.W.hideAll_size]
    exact Nat.le_refl _
  · refine funFrames_none e0.funs fun L hL => ?_
    cases e : (PySem.W.hideAll s.heap l).get? L with
    | none => rfl
    | some o =>
      obtain ⟨h1, h2⟩ := yes L o e
      rcases src L h1 with ⟨o', z⟩ | ⟨y, z⟩
      · have := (e0.funs.mem hL).1
        rw [z] at this
        cases this
      · exfalso
        have ge : X.s_0.heap.objs.size ≤ L := I.ok.cab y L (hfn y) z
        rw [hst] at hL
        obtain ⟨env, he, q⟩ := List.mem_filterMap.mp hL
        rcases List.mem_cons.mp he with rfl | he
        · rw [hfr] at q
          exact I.cne y L z (Option.some.inj q).symm
        · obtain ⟨_, o', e', _⟩ := I.ok.funs.mem (List.mem_filterMap.mpr ⟨env, he, q⟩)
          exact absurd (Heap.lt_size e') (Nat.not_lt.mpr ge)
end
end L3

set_option maxHeartbeats 2000000
/-! L4F: a lambda made, its call, a def that gets it. -/
namespace L3
open PySem PySem.Spec PyProof.Rows L2
/-- a lambda of this frame: n parameters, its reading -/
def LamOk (X : Cx) (k : Nat) (o : Obj) (n : Nat) (fx : FEX) : Prop := ∃ (params : Arguments) (body : Expr) (scope : Scope) (pm ctv : Value) (c' : Addr) (ps N2 : List Str), o = lamO X params body scope pm ctv c' ∧ ps.length = n ∧ ps.Nodup ∧ LamN X.env.scope scope ps ∧ MaskN scope ps X.N N2 ∧
  (∀ (pm cv ctv : Value) (us : List Value), us.length = ps.length → bindArgs (PySem.W.kla_fn "<lambda>" (X.env.qual ++ "<lambda>") params body scope (cloFrom X.env.cells scope.names []) pm cv ctv) ⟨us, []⟩ = pure (ps.zip us)) ∧
  ∀ (A : Around) (outer : List Env) (s : Shared) (H : Hp) (E : XK) (f c' : Addr), Room k (A.deeper (LamX.lamEnv X scope s.heap.objs.size f c')) → EY (lamCxN X A outer s H E scope f c' N2 ps) E body fx
@[simp ↓] def eMk (is : Nat → Obj → Prop) (j : Nat) : FE := fun _ c Q => ∀ f o, is j o → Q (.clo f o) c
theorem lamO_code {X : Cx} {params : Arguments} {body : Expr} {scope : Scope} {pm ctv : Value} {c' : Addr} : codeOf (lamO X params body scope pm ctv c') = some (c', X.env.qual ++ "<lambda>") := rfl
section
variable {X : Cx} {pins : List (Addr × Obj)} {σ : L2.St} {H HZ : Hp} {s s1 : Shared}
theorem funO_ok {h : Heap} {f : Addr} {o : Obj} {P : Program} {w : World} {H : Hp} (e : h.get? f = some o) : ObjOk P w H h f (FunO f o) := ⟨e, ⟨_, e⟩, fun _ _ p k => k _ p⟩
/-- a lambda is made: its object is known from now on -/
theorem lam_madeT {T : List (Addr × Str)} {c P : Addr} {params : Arguments} {body : Expr} {scope : Scope} {pos : Pos} {E : Value → Shared → Prop} {Q : Value → Shared → Prop} (I : Inv X pins σ H s) (TB : LamX.TabB X.base X.mg c P) (hcode : X.env.code = .ref c)
    (hm : (P, X.env.qual ++ "<lambda>") ∈ T) (hu : ∀ p ∈ T, p.1 = P → p.2 = X.env.qual ++ "<lambda>") (hT : LamX.Tabs T H) (hdef : defaultsOf params X.env = ([], [])) (hfree : ∀ y ∈ scope.names, y.2 = .free → ∃ c, X.env.cells.lookup y.1 = some c)
    (h : ∀ (f c' : Addr) (pm ctv : Value) (H1 : Hp) (s' : Shared), Inv X pins σ (upd H1 f (FunO f (lamO X params body scope pm ctv c'))) s' → H1 f = none → LamX.ExtN H H1 → (∀ b, H1 b = none → H b = none) → LamX.Tabs T H1 → H1 c' = some (LamX.CodeO c' (X.env.qual ++ "<lambda>")) → Q (.ref f) s') :
    wpAny (model X.prog X.w) X.A (eval (.Lambda params body scope pos) X.env) Q E s := by
  obtain ⟨ps, hP, ht, ha⟩ := hT _ hm
  have bP : s.heap.BuiltinsAt X.mg P := TB.bm.keeps I.bk
  have hP' : s.heap.get? P = some { cls := .none, data := .fields ps } := I.hok P _ hP
  refine PySem.W.kla_eval hdef ?_
  cases hc : codeAmong pos ps.toList with
  | some cv =>
    obtain ⟨c', e, hco⟩ := ha pos cv hc
    subst e
    refine PySem.W.kla_makeFunctionHit (mg := X.mg) (c := c) (P := P) (ps := ps) (closure_ok hfree) I.ok.glob (I.mod.glob.keeps I.bk) hcode (TB.code.keeps I.bk) hP' ht hc bP fun ctv h' tk hx hsz => ?_
    have J := I.laid (t' := tk) (h' := h'.push (lamO X params body scope ((X.mg "__name__").getD .none) ctv c')) (a := h'.objs.size) (o := FunO h'.objs.size (lamO X params body scope ((X.mg "__name__").getD .none) ctv c')) (fun b o e => Heap.get?_push_of_some _ (hx b o e)) hsz (funO_ok (Heap.get?_push_size _ rfl))
    exact h h'.objs.size c' _ ctv H _ J (I.hok.fresh hsz) (LamX.ExtN.refl H) (fun _ z => z) hT hco
  | none =>
    refine PySem.W.kla_makeFunction (mg := X.mg) (c := c) (P := P) (ps := ps) (closure_ok hfree) I.ok.glob (I.mod.glob.keeps I.bk) hcode (TB.code.keeps I.bk) hP' ht hc TB.gP bP fun c' ctv h' tk hx hge hlt hrec htb => ?_
    obtain ⟨c2, oc, vs, t, e2, hoc, hd, hv⟩ := hrec
    cases e2
    have nC : H c' = none := I.hok.fresh hge
    have nPc : P ≠ c' := ne_of_none hP nC
    have J := LamX.inv_table (q := X.env.qual ++ "<lambda>") (t' := tk) (more := #[rawInt pos.line, rawInt pos.col, .ref c']) (h' := h') I hP hx htb hge ⟨oc, vs, t, hoc, hd, hv⟩
    have hE : LamX.ExtN H (upd (upd H P (.tbl (ps ++ #[rawInt pos.line, rawInt pos.col, .ref c']))) c' (LamX.CodeO c' (X.env.qual ++ "<lambda>"))) := fun b o e n => by
      rw [upd_ne (ne_of_none e nC), upd_ne (fun z => n ps (Option.some.inj (e.symm.trans (by rw [z]; exact hP))))]
      exact e
    have J2 := J.laid (t' := tk) (h' := h'.push (lamO X params body scope ((X.mg "__name__").getD .none) ctv c')) (a := h'.objs.size) (o := FunO h'.objs.size (lamO X params body scope ((X.mg "__name__").getD .none) ctv c')) (fun b o e => Heap.get?_push_of_some _ e) (Nat.le_refl _) (funO_ok (Heap.get?_push_size _ rfl))
    refine h h'.objs.size c' _ ctv _ _ J2 (J.hok.fresh (Nat.le_refl _)) hE (fun b z => ?_) (fun p hp => ?_) upd_same
    · by_cases h1 : b = c'
      · rw [h1]; exact nC
      · rw [upd_ne h1] at z
        by_cases h2 : b = P
        · rw [h2, upd_same] at z; cases z
        · rw [upd_ne h2] at z; exact z
    · by_cases hb : p.1 = P
      · rw [hu p hp hb, hb]
        have eL : (ps ++ #[rawInt pos.line, rawInt pos.col, .ref c']).toList = ps.toList ++ [rawInt pos.line, rawInt pos.col, .ref c'] := by simp
        refine ⟨_, by rw [upd_ne nPc, upd_same], by rw [eL]; exact PySem.TriplesOk_snoc _ _ _ _ ht, fun p' cv hcv => ?_⟩
        rw [eL] at hcv
        rcases LamX.among_app _ ht hcv with z | z
        · obtain ⟨c0, e1, e2⟩ := ha p' cv z
          exact ⟨c0, e1, hE _ _ e2 LamX.codeO_ne⟩
        · exact ⟨c', z, upd_same⟩
      · obtain ⟨ps', a1, a2, a3⟩ := hT p hp
        refine ⟨ps', by rw [upd_ne (ne_of_none a1 nC), upd_ne hb]; exact a1, a2, fun p' cv hcv => ?_⟩
        obtain ⟨c0, e1, e2⟩ := a3 p' cv hcv
        exact ⟨c0, e1, hE _ _ e2 LamX.codeO_ne⟩
end
section
variable {X : Cx}
/-- lambda ps: body, as a value -/
theorem ex_mk {is : Nat → Obj → Prop} {j n kk : Nat} {fx : FEX} {c P : Addr} {params : Arguments} {body : Expr} {scope : Scope} {pos : Pos} {ps N2 : List Str} (hj : ∀ o, LamOk X kk o n fx → is j o)
    (TB : LamX.TabB X.base X.mg c P) (hcode : X.env.code = .ref c) (hmT : (P, X.env.qual ++ "<lambda>") ∈ tabs0) (hu : ∀ p ∈ tabs0, p.1 = P → p.2 = X.env.qual ++ "<lambda>") (hdef : defaultsOf params X.env = ([], []))
    (hn : ps.length = n) (nd : ps.Nodup) (L : LamN X.env.scope scope ps) (hnew : MaskN scope ps X.N N2)
    (hbind : ∀ (pm cv ctv : Value) (us : List Value), us.length = ps.length → bindArgs (PySem.W.kla_fn "<lambda>" (X.env.qual ++ "<lambda>") params body scope (cloFrom X.env.cells scope.names []) pm cv ctv) ⟨us, []⟩ = pure (ps.zip us))
    (hbody : ∀ (A : Around) (outer : List Env) (s : Shared) (H : Hp) (E : XK) (f c' : Addr), Room kk (A.deeper (LamX.lamEnv X scope s.heap.objs.size f c')) → EY (lamCxN X A outer s H E scope f c' N2 ps) E body fx) :
    EX X (.Lambda params body scope pos) (eMk is j) := by
  refine ⟨fun pins s σ H Q I ⟨p, c0, ρ, F, Q', est, hq, t⟩ => ?_⟩
  have hasC : ∀ y ∈ scope.names, y.2 = .free → ∃ c, X.env.cells.lookup y.1 = some c := fun y hy e => (L.free y hy e).elim (fun k => I.ok.has _ (.inl k)) (fun k => I.ok.has _ (.inr k))
  refine lam_madeT I TB hcode hmT hu est.ok.tab.tabs hdef hasC fun f c' pm ctv H1 s' J nf eN th T1 hco => ?_
  generalize ho : lamO X params body scope pm ctv c' = o at J
  have hcd : codeOf o = some (c', X.env.qual ++ "<lambda>") := by rw [← ho]; rfl
  have nfH : H f = none := th f nf
  have nfc : f ≠ c' := fun z => by rw [z, hco] at nf; cases nf
  have hF1 : ∀ b u, F b = some u → H1 b = some u := fun b u e => eN b u (est.ok.sub b u e) (fun ps z => est.ok.nt.t b ps (z ▸ e))
  have hF : ∀ b u, F b = some u → upd (upd F c' (LamX.CodeO c' (X.env.qual ++ "<lambda>"))) f (FunO f o) b = some u := fun b u e => by
    have h1 := hF1 b u e
    rw [upd_ne (ne_of_none h1 nf)]
    by_cases e2 : b = c'
    · subst e2
      rw [upd_same]
      exact hco.symm.trans h1
    · rw [upd_ne e2]; exact e
  have w : Fwd p F H (upd (upd F c' (LamX.CodeO c' (X.env.qual ++ "<lambda>"))) f (FunO f o)) (upd H1 f (FunO f o)) := by
    refine ⟨hF, fun b u e _ tb => ?_, fun b u e => ?_, fun b e => ?_⟩
    · have h1 := eN b u e tb
      rw [upd_ne (ne_of_none h1 nf)]
      exact h1
    · by_cases e1 : b = f
      · subst e1; exact .inr (.inl nfH)
      · rw [upd_ne e1] at e
        by_cases e2 : b = c'
        · subst e2
          rw [upd_same] at e
          cases e
          exact .inr (.inr ⟨_, rfl⟩)
        · rw [upd_ne e2] at e; exact .inl e
    · by_cases e1 : b = f
      · subst e1; exact nfH
      · rw [upd_ne e1] at e; exact th b e
  have ok : Ok3 p c0 (upd (upd F c' (LamX.CodeO c' (X.env.qual ++ "<lambda>"))) f (FunO f o)) (upd H1 f (FunO f o)) := by
    refine ⟨fun b u e => ?_, fun a e => ?_, ⟨?_, fun q hq => ?_⟩, ⟨fun b ps e => ?_, fun b u e => hF b u (est.ok.nt.f b u e)⟩⟩
    · by_cases e1 : b = f
      · subst e1; rw [upd_same] at e ⊢; exact e
      · rw [upd_ne e1] at e ⊢
        by_cases e2 : b = c'
        · subst e2; rw [upd_same] at e; cases e; exact hco
        · rw [upd_ne e2] at e; exact hF1 b u e
    · obtain ⟨⟨x, y, z, q, r⟩, nn⟩ := est.ok.pot a e
      have q1 := eN a _ q (fun _ z => nomatch z)
      have n1 : a ≠ f := ne_of_none q1 nf
      have n2 : a ≠ c' := fun z => by rw [z, hco] at q1; exact absurd (Option.some.inj q1) codeO_lst
      exact ⟨⟨x, y, z, by rw [upd_ne n1]; exact q1, r⟩, by rw [upd_ne n1, upd_ne n2]; exact nn⟩
    · exact T1.ext fun b u e => by rw [upd_ne (ne_of_none e nf)]; exact e
    · have h1 := eN _ _ (est.ok.tab.cod q hq) LamX.codeO_ne
      rw [upd_ne (ne_of_none h1 nf)]; exact h1
    · by_cases e1 : b = f
      · subst e1; rw [upd_same] at e; unfold FunO at e; cases e
      · rw [upd_ne e1] at e
        by_cases e2 : b = c'
        · subst e2; rw [upd_same] at e; unfold LamX.CodeO at e; cases e
        · rw [upd_ne e2] at e; exact est.ok.nt.t b ps e
  refine ⟨.ref f, _, J, rfl, t (.clo f o) c0 (.ref f) _ _ w ok ⟨rfl, upd_same, c', _, hcd, by rw [upd_ne (Ne.symm nfc), upd_same]⟩ (hq f o (hj o ⟨params, body, scope, pm, ctv, c', ps, N2, ho.symm, hn, nd, L, hnew, hbind, hbody⟩))⟩
end
end L3

set_option maxHeartbeats 2000000
/-! L4G: closures called; defs that get closures. -/
namespace L3
open PySem PySem.Spec PyProof.Rows L2
/-- closures of a frame as its callees see them -/
def tlsG (is : Nat → Obj → Prop) (here : Addr → Obj → Prop) (cv : Addr → Obj → D) (tab : Nat → Nat × FEX) (ρ : Rho) : TLs :=
  ⟨fun d => ∃ j f o, is j o ∧ here f o ∧ d = cv f o, fun d ds c Q QX => ∃ j f o, is j o ∧ here f o ∧ d = cv f o ∧ (tab j).1 = ds.length ∧ (tab j).2 (ρ ++ ds.map some) c Q QX⟩
def cvE (cv : Addr → Obj → D) : D → D
  | .clo f o => cv f o
  | d => d
def cvD (cv : Addr → Obj → D) : D → D
  | .clo f o => cv f o
  | .lst l => .lst (l.map (cvE cv))
  | d => d
def OccL (l : List D) (f : Addr) (o : Obj) : Prop := .clo f o ∈ l ∨ ∃ m, .lst m ∈ l ∧ .clo f o ∈ m
@[simp ↓] def eCallG (is : Nat → Obj → Prop) (tab : Nat → Nat × FEX) (m : TLs → FM) (fr : FA) : FE := fun ρ c Q => fr ρ c fun l c => ∀ (here : Addr → Obj → Prop) (cv : Addr → Obj → D), (∀ f o, OccL l f o → here f o) → m (tlsG is here cv tab ρ) (l.map (cvD cv)) c Q
theorem get3_app {ρ : Rho} {ds : List D} : ∀ {i : Nat} {d : D}, get3 (ρ ++ ds.map some) i = some d → get3 ρ i = some d ∨ ∃ j, i = ρ.length + j ∧ ds[j]? = some d := by
  induction ρ with
  | nil =>
    intro i d h
    rw [List.nil_append] at h
    refine .inr ⟨i, (Nat.zero_add i).symm, ?_⟩
    induction ds generalizing i with
    | nil => cases h
    | cons x ds ih =>
      cases i with
      | zero => exact h
      | succ i => simpa using ih h
  | cons r ρ ih =>
    intro i d h
    cases i with
    | zero => exact .inl h
    | succ i =>
      rcases ih (i := i) h with z | ⟨j, z1, z2⟩
      · exact .inl z
      · exact .inr ⟨j, by rw [List.length_cons, z1, Nat.add_right_comm], z2⟩
section
variable {K : PySem.W.Frag} {p : Pn} {F : Hp}
def HereF (F : Hp) (f : Addr) (o : Obj) : Prop := F f = some (FunO f o) ∧ ∃ c q, codeOf o = some (c, q) ∧ F c = some (LamX.CodeO c q)
theorem cvE_rep : ∀ {d : D} {v : V}, Rep K p F d v → Rep K p F (cvE (fun f _ => .lam f F p) d) v
  | .clo f o, _, h => ⟨h.1, fun _ _ z => z, rfl, fun _ z => z⟩
  | .non, _, h => h | .bl _, _, h => h | .int _, _, h => h | .str _, _, h => h | .ty _, _, h => h | .rf _, _, h => h | .lam .., _, h => h | .exc .., _, h => h | .dic _, _, h => h
  | .pot, _, h => h | .scr _, _, h => h | .tup _, _, h => h | .lst _, _, h => h | .dct .., _, h => h
theorem cvE_repL : ∀ {l : List D} {xs : List V}, RepL K p F l xs → RepL K p F (l.map (cvE fun f _ => .lam f F p)) xs
  | [], _, h => h
  | d :: l, _, h => by
    obtain ⟨x, r, rfl, h1, h2⟩ := h
    exact ⟨x, r, rfl, cvE_rep h1, cvE_repL h2⟩
theorem cvD_rep : ∀ {d : D} {v : V}, Rep K p F d v → Rep K p F (cvD (fun f _ => .lam f F p) d) v
  | .clo f o, _, h => ⟨h.1, fun _ _ z => z, rfl, fun _ z => z⟩
  | .lst l, _, h => by
    obtain ⟨a, xs, rfl, h1, h2⟩ := h
    exact ⟨a, xs, rfl, h1, cvE_repL h2⟩
  | .non, _, h => h | .bl _, _, h => h | .int _, _, h => h | .str _, _, h => h | .ty _, _, h => h | .rf _, _, h => h | .lam .., _, h => h | .exc .., _, h => h | .dic _, _, h => h
  | .pot, _, h => h | .scr _, _, h => h | .tup _, _, h => h | .dct .., _, h => h
theorem cvD_repL : ∀ {l : List D} {xs : List V}, RepL K p F l xs → RepL K p F (l.map (cvD fun f _ => .lam f F p)) xs
  | [], _, h => h
  | d :: l, _, h => by
    obtain ⟨x, r, rfl, h1, h2⟩ := h
    exact ⟨x, r, rfl, cvD_rep h1, cvD_repL h2⟩
theorem rep_here {f : Addr} {o : Obj} {v : V} (h : Rep K p F (.clo f o) v) : HereF F f o := ⟨h.2.1, h.2.2⟩
theorem repL_mem : ∀ {l : List D} {xs : List V} {d : D}, RepL K p F l xs → d ∈ l → ∃ v, Rep K p F d v
  | [], _, d, h, hm => by cases hm
  | e :: l, _, d, h, hm => by
    obtain ⟨x, r, rfl, h1, h2⟩ := h
    rcases List.mem_cons.mp hm with z | z
    · subst z; exact ⟨x, h1⟩
    · exact repL_mem h2 z
theorem occ_here {l : List D} {xs : List V} {f : Addr} {o : Obj} (h : RepL K p F l xs) (hm : OccL l f o) : HereF F f o := by
  rcases hm with z | ⟨m, z1, z2⟩
  · obtain ⟨v, r⟩ := repL_mem h z
    exact rep_here r
  · obtain ⟨v, r⟩ := repL_mem h z1
    obtain ⟨a, xs, rfl, h1, h2⟩ := r
    obtain ⟨v, r⟩ := repL_mem h2 z2
    exact rep_here r
end
section
variable {X : Cx} {pins : List (Addr × Obj)} {σ : L2.St} {H : Hp} {s : Shared}
theorem acts_of {kk : Nat} {B : Heap} {p : Pn} {c1 : Nat} {ρ : Rho} {F : Hp} {is : Nat → Obj → Prop} {tab : Nat → Nat × FEX} (I : Inv X pins σ H s) (hsz : X.base.objs.size ≤ B.objs.size) (hB : ∀ b o, X.base.get? b = some o → B.get? b = some o)
    (hcell : ∀ y c, X.env.cells.lookup y = some c → ∀ o, s.heap.get? c = some o → B.get? c = some o) (est : ESt X.K p c1 ρ σ F H) (his : ∀ j o, is j o → LamOk X kk o (tab j).1 (tab j).2) :
    ActsB X.prog X.w X.K X.mg B (kk + 1) (tlsG is (HereF F) (fun f _ => .lam f F p) tab ρ) := by
  intro d ⟨j, f, o, hj, hh, hd⟩
  subst hd
  refine ⟨f, F, p, o, rfl, hh.1, ?_, fun A outer s3 H3 hr e3 ds us vs p3 c3 F3 Q Q' QX W ok3 rd rds rv htl tell tellx => ?_⟩
  · obtain ⟨params, body, scope, pm, ctv, c', ps, N2, ho, _⟩ := his j o hj
    exact ⟨_, _, _, _, ho⟩
  obtain ⟨j', f', o', hj', hh', hd', hlen, hfx⟩ := htl
  cases hd'
  obtain ⟨params, body, scope, pm, ctv, c', ps, N2, ho, hn, nd, L, hnew, hbind, hbody⟩ := his j' o' hj'
  obtain ⟨_, kF, kp, kc⟩ := rd
  obtain ⟨hf, c2, q2, hc1, hc2⟩ := hh'
  rw [ho, lamO_code] at hc1
  cases hc1
  have of3 : s3.heap.get? f = some (lamO X params body scope pm ctv c') := by
    have := (e3.hok f _ (ok3.sub _ _ (kF _ _ hf))).1
    rw [ho] at this
    exact this
  obtain ⟨⟨oc, vs0, t, hoc, hdc, hvc⟩, _, _⟩ := e3.hok c' _ (ok3.sub _ _ (kF _ _ hc2))
  have hus : us.length = ps.length := by rw [← rv.length, rds.len, hn, hlen]
  refine PySem.W.kla_callFunE hr.depth of3 rfl L.co L.gen rfl ⟨c', oc, vs0, t, rfl, hoc, hdc, hvc⟩ ?_
  rw [hbind _ _ _ us hus]
  refine wpAny_pure (wpAny_newFunctionEnv (fun y hy => (L.own y hy).1) (fun y hy => L.par y.1 (List.of_mem_zip hy).1) (fun h₁ hns hsb => ⟨(e3.mod.nolimit.keeps fun b o e => (e3.bs b o e).1).fresh _ hsb, ?_⟩) L.kind)
  show codeAny _ _ (.expr body (LamX.lamEnv X scope s3.heap.objs.size f c')) _ _
  have kp1 : ∀ b o, s3.heap.get? b = some o → h₁.get? b = some o := fun b o e => hsb.extBut b o (Nat.ne_of_lt (Heap.lt_size e)) (Heap.get?_push_of_some _ e)
  have e4 : Env0 X.prog X.w X.K X.mg X.base A outer s3 H3 := ⟨e3.frames, I.ok.mod, fun b o e => e3.bs b o (hB b o e), ?_, funFrames_none e3.funs fun L hL => ?_, e3.frf, e3.hok, e3.bare⟩
  · have J := lamN_begin (f := f) (c' := c') (A := A) (outer := outer) (E := W) (tk := s3.toks + (ps.zip us).length) I L hnew e4 hr.hd (fun y c e o ho => e3.bs c o (hcell y c e o ho)) hns kp1 rv (by rw [rv.length, hus]) nd
    refine PySem.W.kla_codeExpr (wpAny_mono ((hbody A outer s3 H3 W f c' (hr.deeper _)).run [] _ _ H3 Q J ⟨p3, c3, ρ ++ ds.map some, F3, Q', QX, ⟨ok3, fun i d' hi => ?_, ?_⟩, hfx, tell, tellx⟩) (fun v s' hq => ?_) fun e s' hq => hq)
    · rcases get3_app hi with z | ⟨i2, z1, z2⟩
      · obtain ⟨v', y1, y2⟩ := est.slot i d' z
        refine ⟨v', ?_, (Rep.pn (p := p) (p' := p3) kp kc y2).mono kF⟩
        rw [List.getElem?_append_left (List.getElem?_eq_some_iff.mp y1).1]
        exact y1
      · obtain ⟨v', y1, y2⟩ := rds.get z2
        refine ⟨v', ?_, y2⟩
        rw [z1, est.len, List.getElem?_append_right (Nat.le_add_right _ _), Nat.add_sub_cancel_left, List.getElem?_map, y1]
        rfl
    · rw [List.length_append, List.length_append, est.len, List.length_map, List.length_map, rds.len]
    · obtain ⟨w', H', J', rv', q⟩ := hq
      exact ⟨w', H', J'.os, J'.bare, J'.base, J'.hok, rv', q⟩
  · exact Nat.le_trans hsz e3.bsz
  · cases e : X.base.get? L with
    | none => rfl
    | some o =>
      have := (e3.funs.mem hL).1
      rw [hB L o e] at this
      cases this

/-- x(es), x a def that gets closures of this frame -/
theorem ex_callG {k kk n : Nat} {f : Addr} {fd : FuncData} {ps : List Str} {m : TLs → FM} {x : Str} {q1 pos : Pos} {e : Expr} {es : List Expr} {fr : FA} {is : Nat → Obj → Prop} {tab : Nat → Nat × FEX}
    (G : ∀ B : Heap, (∀ b o, X.base.get? b = some o → B.get? b = some o) → ∀ T, ActsB X.prog X.w X.K X.mg B (kk + 1) T → FnOk X.prog X.w X.K X.mg B CX0 k f fd ps (spM X.K n (m T)))
    (his : ∀ j o, is j o → LamOk X kk o (tab j).1 (tab j).2) (hr : Room k X.A) (hm : X.mg x = some (.ref f)) (hk : PySem.W.keepIn X.K (.ref f) = true) (hb : Binds X.K fd ps []) (hn : ps.length = n)
    (hfn : ∀ y, X.fn y = true) (hst : X.stack = X.env :: X.outer) (hfr : X.env.frame = some X.env.locals)
    (ha : AX X (e :: es) fr) (hg : Gl X x := by rfl) (hdb : (x == ("__debug__" : Str)) = false := by decide) (he : starEach (e :: es) X.env = (false, eval e X.env) :: starEach es X.env := by rfl) (hpl : (backTo pos (starEach es X.env)).any (·.1) = false := by rfl)
    (hl : ∀ T l c Q, m T l c Q → l.length = n) : EX X (.Call (.Name x q1) (e :: es) [] pos) (eCallG is tab m fr) := by
  refine ⟨fun pins s σ H Q I ⟨p, c0, ρ, F, Q', est, hq, t⟩ => ?_⟩
  refine wpAny_Call_Name_kw (ld_glob I hg hm ?_ hdb)
  refine PySem.W.callWith_K (h₀ := X.base) I.ok.mod.kin hk (thn (ha.run pos pins s σ H (fun vs H1 => ∃ l c1 F1, Fwd p F H F1 H1 ∧ Ok3 p c1 F1 H1 ∧ RepL X.K p F1 l vs ∧ ∀ (here : Addr → Obj → Prop) (cv : Addr → Obj → D), (∀ f o, OccL l f o → here f o) → m (tlsG is here cv tab ρ) (l.map (cvD cv)) c1 Q') I
    ⟨p, c0, ρ, F, _, est, hq, fun l c1 vs F1 H1 w1 ok1 r1 q1 => ⟨l, c1, F1, w1, ok1, r1, q1⟩⟩) fun us s1 ⟨vs, H1, I1, rv, l, c1, F1, w1, ok1, rl, q2⟩ => ⟨I1.kIn, ?_⟩) he hpl
  obtain ⟨B, hsz, hB, hcell, e0⟩ := grow I1 hfn hst hfr
  have q3 := q2 (HereF F1) (fun f _ => .lam f F1 p) fun f o hm => occ_here rl hm
  have hlen : vs.length = n := by rw [rl.len]; have := hl _ _ _ _ q3; rwa [List.length_map] at this
  have hb1 : BindsTo s1 fd ⟨us, []⟩ (ps.zip us) := by
    have z := hb s1 us I1.kIn (by rw [List.append_nil, ← rv.length, hlen, hn])
    rw [List.append_nil] at z
    exact z
  have rc := (G B hB _ (acts_of I1 hsz hB hcell (est.fwd w1 ok1) his)).run X.A X.stack s1 H1 ⟨us, []⟩ us vs Q E0 hr e0 hb1 rv ⟨hlen, p, c1, F1, l.map (cvD fun f _ => .lam f F1 p), Q', ok1, cvD_repL rl, q3, t.fwd w1⟩
  refine wpAny_call (codeAny_mono rc fun r s3 hq => ?_)
  cases r with
  | error e => exact (show False from hq).elim
  | ok fl =>
    cases fl with
    | ret u => exact I1.after hq
    | next => exact False.elim hq
    | brk => exact False.elim hq
    | cont => exact False.elim hq
/-! ### in a def that got them -/
@[simp ↓] def yAct (T : TLs) (fe : FE) (fr : FA) : FEX := fun ρ c Q QX => fe ρ c fun d c => T.dom d ∧ fr ρ c fun ds c => T.tl d ds c Q QX
@[simp ↓] def eAct (T : TLs) (fe : FE) (fr : FA) : FE := fun ρ c Q => yAct T fe fr ρ c Q fun _ _ _ => False
theorem rel_ref {a : Addr} {u : Value} (r : RelV (V.ref a) u) : u = .ref a := r
theorem fnAt_of {K : PySem.W.Frag} {P : Program} {w : World} {p : Pn} {c : Nat} {F H : Hp} {s : Shared} {f : Addr} {F0 : Hp} {p0 : Pn} {o : Obj} {v : V} (hok : HOk P w H s.heap) (ok : Ok3 p c F H) (hf : F0 f = some (FunO f o)) (fo : FnData o) (r : Rep K p F (.lam f F0 p0) v) : PySem.W.FnAt f s.heap := by
  obtain ⟨cls, dict, fd, sl, rfl⟩ := fo
  exact ⟨cls, dict, fd, sl, (hok f _ (ok.sub _ _ (r.2.1 _ _ hf))).1⟩
/-- an expression that may raise, the slots told -/
def tEs (K : PySem.W.Frag) (W : WX) (f : FEX) : TE := fun σ H Q => ∃ p c ρ F Q' QX, ESt K p c ρ σ F H ∧ f ρ c Q' QX ∧ Tell K p F H Q' Q ∧ TellX K p F H QX (fun cls d H' => W cls d σ H')
abbrev ES (X : Cx) (W : WX) (e : Expr) (f : FEX) : Prop := PE X e (tEs X.K W f)
theorem es_act0 {k i : Nat} {T : TLs} {W : WX} {a : Str} {p1 p2 : Pos} (ha : ActsB X.prog X.w X.K X.mg X.base k T) (hr : Room k X.A) (tk : Takes X W) (hN : X.N[i]? = some a := by rfl) (hv : Vis X.env.scope a := by first | exact Or.inl rfl | exact Or.inr (Or.inl rfl) | exact Or.inr (Or.inr rfl))
    (hd : (a == ("__debug__" : Str)) = false := by decide) (hcd : (a == ("__classdict__" : Str)) = false := by decide) : ES X W (.Call (.Name a p1) [] [] p2) (yAct T (eVar i) aNil) := by
  refine ⟨fun pins s σ H Q I ⟨p, c0, ρ, F, Q', QX, est, hq, t, tx⟩ => ?_⟩
  have hq : ∃ d, get3 ρ i = some d ∧ T.dom d ∧ T.tl d [] c0 Q' QX := by
    unfold yAct eVar aNil at hq
    split at hq
    · rename_i d e; exact ⟨d, e, hq.1, hq.2⟩
    · exact hq.elim
  obtain ⟨d, e1, hdom, htl⟩ := hq
  obtain ⟨v, e2, rd⟩ := est.slot i d e1
  obtain ⟨f, F0, p0, o, rfl, hf, hfo, run⟩ := ha d hdom
  have ev : v = .ref f := rd.1
  subst ev
  refine wpAny_Call_Name_kw (thn ((pe_var (pos := p1) (i := i) hN hv hd hcd).run pins s σ H (fun v H1 => v = .ref f ∧ H1 = H) I ⟨.ref f, e2, rfl, rfl⟩) fun u s1 ⟨v, H1, I1, r1, ev, eH⟩ => ?_)
  subst ev eH
  obtain rfl := rel_ref r1
  refine PySem.W.callWith_F0 (fnAt_of I1.hok est.ok hf hfo rd) ?_
  refine wpAny_call (codeAny_mono (run X.A X.stack s1 H1 hr I1.env0 [] [] [] p c0 F Q Q' QX (fun cls d H' => W cls d σ H') est.ok rd rfl .nil htl t tx) fun r s' hq => ?_)
  cases r with
  | error e => exact tk e s' (XE.of_call I1 (fun _ _ _ h => h) hq)
  | ok fl =>
    cases fl with
    | ret u => exact I1.after hq
    | next => exact False.elim hq
    | brk => exact False.elim hq
    | cont => exact False.elim hq
theorem es_act1 {k i : Nat} {T : TLs} {W : WX} {a : Str} {p1 p2 : Pos} {e : Expr} {fe : FE} (ha : ActsB X.prog X.w X.K X.mg X.base k T) (hr : Room k X.A) (tk : Takes X W) (he : EX X e fe) (hst : starEach [e] X.env = (false, eval e X.env) :: starEach [] X.env := by rfl) (hN : X.N[i]? = some a := by rfl) (hv : Vis X.env.scope a := by first | exact Or.inl rfl | exact Or.inr (Or.inl rfl) | exact Or.inr (Or.inr rfl))
    (hd : (a == ("__debug__" : Str)) = false := by decide) (hcd : (a == ("__classdict__" : Str)) = false := by decide) : ES X W (.Call (.Name a p1) [e] [] p2) (yAct T (eVar i) (aCons fe aNil)) := by
  refine ⟨fun pins s σ H Q I ⟨p, c0, ρ, F, Q', QX, est, hq, t, tx⟩ => ?_⟩
  have hq : ∃ d, get3 ρ i = some d ∧ T.dom d ∧ fe ρ c0 fun x c => T.tl d [x] c Q' QX := by
    unfold yAct eVar at hq
    split at hq
    · rename_i d e; exact ⟨d, e, hq.1, hq.2⟩
    · exact hq.elim
  obtain ⟨d, e1, hdom, htl⟩ := hq
  obtain ⟨v, e2, rd⟩ := est.slot i d e1
  obtain ⟨f, F0, p0, o, rfl, hf, hfo, run⟩ := ha d hdom
  have ev : v = .ref f := rd.1
  subst ev
  refine wpAny_Call_Name_kw (thn ((pe_var (pos := p1) (i := i) hN hv hd hcd).run pins s σ H (fun v H1 => v = .ref f ∧ H1 = H) I ⟨.ref f, e2, rfl, rfl⟩) fun u s1 ⟨v, H1, I1, r1, ev, eH⟩ => ?_)
  subst ev eH
  obtain rfl := rel_ref r1
  refine PySem.W.callWith_F (fnAt_of I1.hok est.ok hf hfo rd) ?_ hst rfl
  show wpAny _ _ (spliced (backTo p2 (starEach [e] X.env))) _ _ s1
  rw [hst]
  refine Calls.spliced_cons (thn (he.run pins s1 σ H1 (fun y H2 => ∃ x c1 F1, Fwd p F H1 F1 H2 ∧ Ok3 p c1 F1 H2 ∧ Rep X.K p F1 x y ∧ T.tl (.lam f F0 p0) [x] c1 Q' QX) I1 ⟨p, c0, ρ, F, _, est, htl, fun x c1 y F1 H2 w1 ok1 r1 q1 => ⟨x, c1, F1, w1, ok1, r1, q1⟩⟩) fun u2 s2 ⟨y, H2, I2, r2, x, c1, F1, w1, ok1, rx, q2⟩ => ?_)
  have rd2 := rd.mono w1.frz
  refine Calls.spliced_nil ⟨fnAt_of I2.hok ok1 hf hfo rd2, ?_⟩
  refine wpAny_call (codeAny_mono (run X.A X.stack s2 H2 hr I2.env0 [x] [u2] [y] p c1 F1 Q Q' QX (fun cls d H' => W cls d σ H') ok1 rd2 ⟨_, _, rfl, rx, rfl⟩ (.cons r2 .nil) q2 (t.fwd w1) (tx.fwd w1)) fun r s' hq => ?_)
  cases r with
  | error e => exact tk e s' (XE.of_call I2 (fun _ _ _ h => h) hq)
  | ok fl =>
    cases fl with
    | ret u => exact I2.after hq
    | next => exact False.elim hq
    | brk => exact False.elim hq
    | cont => exact False.elim hq
/-- where no error is let out -/
theorem ex_of_ey {e : Expr} {fx : FEX} (h : ∀ W : XK, Takes X (fun cls d _ H => W cls d H) → EY X W e fx) : EX X e (fun ρ c Q => fx ρ c Q fun _ _ _ => False) :=
  PE.imp (h (fun _ _ _ => False) fun _ _ x => by
    obtain ⟨_, _, _, _, _, _, _, _, _, _, _, _, _, _, _, _, z⟩ := x
    exact z.elim) fun σ H Q ⟨p, c, ρ, F, Q', es, h, t⟩ => ⟨p, c, ρ, F, Q', _, es, h, t, fun _ _ _ _ _ _ _ _ _ _ _ z => z.elim⟩
end
end L3

set_option maxHeartbeats 2000000
/-! L4H: try: .. except C as n: .., the error caught is known afterwards. -/
namespace L3
open PySem PySem.Spec PyProof.Rows L2
section
variable {X : Cx} {pins : List (Addr × Obj)} {σ : L2.St} {H : Hp} {s : Shared}
/-- an object that stands there becomes known -/
theorem inv_track {a : Addr} {oa : Obj} {o : HO} (I : Inv X pins σ H s) (ha : s.heap.get? a = some oa) (hn : H a = none) (h0 : X.s_0.heap.get? a = none) (hl : a ≠ X.env.locals) (hd : ∀ v, oa.data ≠ .cell v) (hp : ∀ q ∈ X.pn ++ pins, q.1 ≠ a)
    (ok : ObjOk X.prog X.w (upd H a o) s.heap a o) : Inv X pins σ (upd H a o) s := by
  have nb : ∀ b u, X.s_0.heap.get? b = some u → b ≠ a := fun b u e z => by rw [z, h0] at e; cases e
  refine ⟨I.ok, I.os, I.bare, ⟨I.base.keep, I.base.slot, fun b u e n hx => by rw [upd_ne (nb b u e)]; exact I.base.free b u e n hx, I.base.there, fun b xs e => ?_, fun b u v e => ?_, fun b qs e => ?_⟩, I.loc, I.cell, by rw [upd_ne (Ne.symm hl)]; exact I.free, fun y c e => ?_, fun q hq => ?_, fun b u e => ?_, I.len⟩
  · have z := I.base.tups b xs e
    rw [upd_ne (ne_of_none z hn)]; exact z
  · have z := I.base.frzs b u v e
    rw [upd_ne (ne_of_none z hn)]; exact z
  · obtain ⟨more, z⟩ := I.base.tbls b qs e
    exact ⟨more, by rw [upd_ne (ne_of_none z hn)]; exact z⟩
  · have : c ≠ a := fun z => by
      obtain ⟨v, oc, e1, e2⟩ := I.cell y c e
      rw [z, ha] at e1
      cases e1
      exact hd _ e2
    rw [upd_ne this]
    exact I.freeC y c e
  · obtain ⟨h1, h2, h3⟩ := I.pin q hq
    exact ⟨h1, by rw [upd_ne (hp q hq)]; exact h2, h3⟩
  · by_cases z : b = a
    · subst z
      rw [upd_same] at e
      cases e
      exact ok
    · rw [upd_ne z] at e
      exact (I.hok b u e).stay (fun _ _ _ q => q) (fun c q => by rw [upd_ne (ne_of_none q hn)]; exact q) fun c xs q => by rw [upd_ne (ne_of_none q hn)]; exact q
end
/-- what is wished of an error that the clause catches: its class C, its dict dd -/
def wAsE (K : PySem.W.Frag) (c : Value) (i : Nat) (ts : Addr → Value → Option Addr → TS) (D : Ends) : WX := fun cls d σ H =>
  ∃ C dd, cls = .ref C ∧ d = some dd ∧ PySem.W.exmOne K cls c = some true ∧ ∀ a, H a = none →
    ts a cls d { nx := fun σ' H' => H' a = none ∧ D.nx (σ'.set i none) (upd H' a (ExcO a C dd)), rt := fun _ _ => False, bk := fun _ _ => False, ct := fun _ _ => False } (σ.set i (some (.ref a))) H
section
variable {X : Cx} {x n : Str} {c : Value} {i : Nat} {body suite : List Stmt} {b0 : Stmt} {np pos pos' : Pos} {tb : WX → TS} {ts : Addr → Value → Option Addr → TS}
theorem ps_tryE (est : X.stack = X.env :: X.outer) (efr : X.env.frame = some X.env.locals) (nd : X.N.Nodup) (ix : X.N[i]? = some n) (kn : X.env.kindOf n = some .local) (hex : X.ex = []) (nm : Names X x c)
    (bodyOk : ∀ (W : WX) (pn : List (Addr × Obj)) (xe : Value → Shared → Prop), Takes (X.tr pn xe) W → PassesOwn (model X.prog X.w) X.A X.env xe → PSs (X.tr pn xe) body (tb W))
    (suiteOk : ∀ (a : Addr) (oe : Obj) (cls : Value) (d : Option Addr) (pn : List (Addr × Obj)), Zc cls d oe → (∃ vs, oe.data = .fields vs) → PSs (X.suite a ((a, oe) :: pn)) (b0 :: suite) (ts a cls d)) :
    PS X (.Try body [.ExceptHandler (some (.Name x np)) (some n) (b0 :: suite) pos'] [] [] pos) (fun D σ H => tb (wAsE X.K c i ts D) D σ H) := by
  refine ⟨fun pins s σ H D J0 wish => ?_⟩
  have okX := J0.ok
  have frA : X.A.frames = some (X.env :: X.outer) := by rw [okX.frames, est]
  refine wpAny_Try_except ?_
  let xe' : Value → Shared → Prop := fun er t1 => wpAny (model X.prog X.w) X.A (noteFrame er X.env) (fun _ t2 => wpAny (model X.prog X.w) X.A (setFlight er none) (fun _ t3 =>
      wpAny (model X.prog X.w) X.A (handleBy er X.env [.ExceptHandler (some (.Name x np)) (some n) (b0 :: suite) pos']) (SP X pins D) X.xe t3) X.xe t2) X.xe t1
  have takes : Takes (X.tr (X.pn ++ pins) xe') (wAsE X.K c i ts D) := by
    intro u t ⟨a, G, tI, pz, τ, Hz, cls, d, eu, Jz, toG, slots, sky, free_a, eos, gens, C, dd, eC, ed, em, go⟩
    subst eu
    have Jx : Inv X pins τ Hz tI := Jz.ofTry okX
    have sky2 : Sky G (X.env :: X.outer) a (Zc cls d) X.env.locals t.heap := by rw [← est]; exact sky
    show wpAny (model X.prog X.w) X.A (noteFrame (.ref a) X.env) _ _ _
    refine Sky.land Zc.steady frA efr sky2 fun k3 fly3 ups3 => ?_
    have J3 : Inv X pins τ Hz { t with heap := k3 } := Jx.landed toG fly3.1 (slots.trans ups3) eos gens
    obtain ⟨ob3, vs3, at3, z3, dat3⟩ := fly3.there
    have apart : ∀ {h : Heap} {u : Obj} {vs : Array Value}, h.FunFrames G (X.env :: X.outer) → h.get? a = some u → u.data = .fields vs → a ∉ frs (X.env :: X.outer) := fun {h u vs} ff e1 e2 mem => by
      obtain ⟨_, u', e3, nf⟩ := ff.mem mem
      rw [e1] at e3
      cases e3
      exact nf _ e2
    have aFr := apart fly3.2.2.1 at3 dat3
    have aL : a ≠ X.env.locals := fun z => aFr (List.mem_filterMap.mpr ⟨X.env, List.mem_cons_self, by rw [efr, z]⟩)
    have aF : a ∉ X.fs := fun mem => by
      obtain ⟨en, m1, m2⟩ := List.mem_filterMap.mp mem
      exact aFr (List.mem_filterMap.mpr ⟨en, List.mem_cons_of_mem _ m1, m2⟩)
    have aI : tI.heap.get? a = none := by
      cases e : tI.heap.get? a with
      | none => rfl
      | some u =>
        have := toG a u e (by rw [est]; exact aFr)
        rw [fly3.2.1] at this
        cases this
    have a0 : X.s_0.heap.get? a = none := by
      cases e : X.s_0.heap.get? a with
      | none => rfl
      | some u =>
        obtain ⟨u', e'⟩ := Jx.base.there a u e (by rw [hex]; simp)
        rw [aI] at e'
        cases e'
    have aP : ∀ q ∈ X.pn ++ pins, q.1 ≠ a := fun q hq z => by
      have := (Jx.pin q hq).1
      rw [z, aI] at this
      cases this
    have S3 := J3.suite at3 dat3 free_a aL aF
    refine wpAny_handleBy_cons (codeAny_handlers_test ?_) (by intro q; cases q)
    have tyA : PySem.W.Looks (model X.prog X.w) k3 (typeOf (.ref a)) cls := fun A' Q' E' s' k' q' => wpAny_typeOf_ref (k' _ _ at3) (by rw [z3.1]; exact q')
    have mat := PySem.W.exm_one (M := model X.prog X.w) J3.kIn tyA em
    have named : ∀ {Q' : Value → Shared → Prop} {E' : Value → Shared → Prop}, Q' c { t with heap := k3 } → wpAny (model X.prog X.w) (X.A.mark (some (.ref a))) (eval (.Name x np) X.env) Q' E' { t with heap := k3 } := fun {Q' E'} q' => by
      obtain ⟨g1, g2, g3 | ⟨g3, g4, g5⟩⟩ := nm
      · exact ld_glob (X := X.suite a ((a, ob3) :: (X.pn ++ pins))) S3 g1 g3 q' g2
      · exact ld_blt (X := X.suite a ((a, ob3) :: (X.pn ++ pins))) S3 g1 g3 g4 q' g5 g2
    refine named (mat.here ?_)
    refine codeAny_handlers_suite_as ?_
    refine HandSPX.lands_againZ fly3 fun k4 fly4 ups4 => ?_
    have J4 : Inv X pins τ Hz { t with heap := k4 } := Jx.landed toG fly4.1 ((slots.trans ups3).trans ups4) eos gens
    obtain ⟨ob4, vs4, at4, z4, dat4⟩ := fly4.there
    have S4 := J4.suite at4 dat4 free_a aL aF
    refine store_ok (X := X.suite a ((a, ob4) :: (X.pn ++ pins))) (v := .ref a) S4 nd ix (.inl kn) rfl (fun t5 S5 => ?_) (.inr kn)
    refine wpAny_mono ((suiteOk a ob4 cls d (X.pn ++ pins) z4 ⟨_, dat4⟩).run [] t5 _ Hz _ S5 (go a free_a)) (fun fl t6 left => ?_) (fun _ _ z => False.elim z)
    cases fl with
    | next =>
      obtain ⟨τ6, H6, S6, h6, q6⟩ := left
      have L6 : Inv X ((a, ob4) :: pins) τ6 H6 t6 := ⟨okX, S6.os, S6.bare, S6.base, S6.loc, S6.cell, S6.free, S6.freeC, fun q hq => S6.pin q (by
        show q ∈ ((a, ob4) :: (X.pn ++ pins)) ++ []
        rw [List.append_nil]
        rcases List.mem_append.mp hq with z | z
        · exact List.mem_cons_of_mem _ (List.mem_append_left _ z)
        · rcases List.mem_cons.mp z with z | z
          · rw [z]; exact List.mem_cons_self
          · exact List.mem_cons_of_mem _ (List.mem_append_right _ z)), S6.hok, S6.len⟩
      refine gone_ok L6 nd ix kn fun t7 L7 => ?_
      have at7 := (L7.pin (a, ob4) (List.mem_append_right _ List.mem_cons_self)).1
      refine ⟨_, _, inv_track (pin_off L7) at7 h6 a0 aL (fun v z => by rw [dat4] at z; cases z) aP ?_, q6⟩
      subst eC ed
      exact ⟨⟨ob4, vs4, at7, z4.1, z4.2, dat4⟩, ⟨_, at7⟩, fun h1 h2 ⟨oe, vs, e1, e2⟩ k => ⟨oe, vs, k _ e1, e2⟩⟩
    | brk => obtain ⟨_, _, _, z⟩ := left; exact z.elim
    | cont => obtain ⟨_, _, _, z⟩ := left; exact z.elim
    | ret u => obtain ⟨_, _, _, _, _, z⟩ := left; exact z.elim
  refine wpAny_mono ((bodyOk (wAsE X.K c i ts D) (X.pn ++ pins) xe' takes PassesOwn.looking).run [] s σ H D (J0.toTry _) wish) (fun fl t1 left => ?_) (fun e1 t1 bad => bad)
  cases fl with
  | next =>
    obtain ⟨τ, Hz, Jz, q⟩ := left
    exact wpAny_execs_nil ⟨τ, Hz, Jz.ofTry okX, q⟩
  | brk =>
    obtain ⟨τ, Hz, Jz, q⟩ := left
    exact ⟨τ, Hz, Jz.ofTry okX, q⟩
  | cont =>
    obtain ⟨τ, Hz, Jz, q⟩ := left
    exact ⟨τ, Hz, Jz.ofTry okX, q⟩
  | ret u =>
    obtain ⟨v, τ, Hz, Jz, r, q⟩ := left
    exact ⟨v, τ, Hz, Jz.ofTry okX, r, q⟩
end
end L3

set_option maxHeartbeats 2000000
/-! L4I: try: g = call() / except C as n: cn = n. -/
namespace L3
open PySem PySem.Spec PyProof.Rows L2
theorem SSt.setNo {K : PySem.W.Frag} {p : Pn} {c : Nat} {ρ : Env3} {σ : L2.St} {F H F0 H0 : Hp} (s : SSt K p c ρ σ F H F0 H0) (i : Nat) : SSt K p c (ρ.set i .no) (σ.set i none) F H F0 H0 := by
  have back : ∀ {j : Nat} {x : SV}, (ρ.set i .no)[j]? = some x → x ≠ .no → j ≠ i ∧ ρ[j]? = some x := fun {j x} e n => by
    rcases set_get e with ⟨_, _, z⟩ | z
    · exact absurd z n
    · exact z
  have fw : ∀ {j : Nat}, j ≠ i → (σ.set i none)[j]? = σ[j]? := fun {j} n => List.getElem?_set_ne (Ne.symm n)
  refine ⟨s.ok, s.ent, by rw [List.length_set, List.length_set, s.len], fun j d e => ?_, fun j l e => ?_, fun j k l m a e1 e2 e3 e4 => ?_, fun j ks l e => ?_, fun j k ks ks' l m a e1 e2 e3 e4 => ?_⟩
  · obtain ⟨n, e⟩ := back e nofun
    rw [fw n]; exact s.val j d e
  · obtain ⟨n, e⟩ := back e nofun
    rw [fw n]; exact s.own j l e
  · obtain ⟨n1, e1⟩ := back e1 nofun
    obtain ⟨n2, e2⟩ := back e2 nofun
    rw [fw n1] at e3
    rw [fw n2] at e4
    exact s.sep j k l m a e1 e2 e3 e4
  · obtain ⟨n, e⟩ := back e nofun
    rw [fw n]; exact s.dic j ks l e
  · obtain ⟨n1, e1⟩ := back e1 nofun
    obtain ⟨n2, e2⟩ := back e2 nofun
    rw [fw n1] at e3
    rw [fw n2] at e4
    exact s.sepd j k ks ks' l m a e1 e2 e3 e4
@[simp ↓] def sTryC (errs : List Str) (ie ic : Nat) (gg : FG) (fx : FEX) : FS := fun E ρ c => ie < ρ.length ∧ fx (ρ.map vA) c (fun d c => gg d ρ fun ρ => E.nx ρ c) (fun n d c => errs.contains n = true ∧ E.nx ((ρ.set ic (.val (.exc n d))).set ie .no) c)
section
variable {X : Cx} {x n cn : Str} {c : Value} {ie ic : Nat} {is : List Nat} {gg : FG} {fx : FEX} {call tg : Expr} {errs : List Str} {np p3 p4 p5 apos pos pos' : Pos}
theorem sx_tryC (hx : ∀ m, errs.contains m = true → PySem.W.exmOne X.K (.ref (He.ga X.K m)) c = some true) (nm : Names X x c) (he : ∀ (W : WX) (pn : List (Addr × Obj)) (xe : Value → Shared → Prop), Takes (X.tr pn xe) W → ES (X.tr pn xe) W call fx) (hg : ∀ (pn : List (Addr × Obj)) (xe : Value → Shared → Prop), GX (X.tr pn xe) tg is gg)
    (nd : X.N.Nodup) (hst : X.stack = X.env :: X.outer := by rfl) (hfr : X.env.frame = some X.env.locals := by rfl) (hie : X.N[ie]? = some n := by rfl) (hic : X.N[ic]? = some cn := by rfl) (hne : ie ≠ ic := by decide) (kn : X.env.scope.names.lookup n = some .local := by rfl) (kc : X.env.scope.names.lookup cn = some .local := by rfl) (hex : X.ex = [] := by rfl)
    (hd : (n == ("__debug__" : Str)) = false := by decide) (hcd : (n == ("__classdict__" : Str)) = false := by decide)
    (hs : swapsWithSole [tg] call apos.line X.env = pure false := by rfl) (hw : swappedStores [tg] call X.env = pure none := by rfl) (h1 : (assignEach [tg] X.env).map (·.2) = [assign tg X.env] := by rfl)
    (hs2 : swapsWithSole [.Name cn p3] (.Name n p4) p5.line X.env = pure false := by rfl) (hw2 : swappedStores [.Name cn p3] (.Name n p4) X.env = pure none := by rfl) (h2 : (assignEach [.Name cn p3] X.env).map (·.2) = [assign (.Name cn p3) X.env] := by rfl) :
    SX X (.Try [.Assign [tg] call apos] [.ExceptHandler (some (.Name x np)) (some n) [.Assign [.Name cn p3] (.Name n p4) p5] pos'] [] [] pos) (sTryC errs ie ic gg fx) := by
  refine PS.imp (ps_tryE (tb := fun W D σ H => ∃ p c ρ F F0 H0 E QX, SSt X.K p c ρ σ F H F0 H0 ∧ fx (ρ.map vA) c (fun d c => gg d ρ fun ρ => End3.nx E ρ c) QX ∧ TellS X.K p F0 H0 E D ∧ TellX X.K p F H QX (fun cls d H' => W cls d σ H')) (ts := fun _ _ _ => tAsg (tVar ie) (gName ic))
    hst hfr nd hie kn hex nm (fun W pn xe tk _ => pss_one ?_) (fun a oe cls d pn _ _ => pss_one (ps_asg (pe_var hie (.inl kn) hd hcd) (pg_name nd hic (.inl kc) (.inr kc)) hs2 hw2 h2))) fun D σ H ⟨p, c, ρ, F, F0, H0, E, s, ⟨hlt, h⟩, t⟩ => ?_
  · obtain ⟨gl, pg, kg⟩ := (hg pn xe).ex
    exact PS.imp (ps_asg (he W pn xe tk) pg hs hw h1) fun D σ H ⟨p, c, ρ, F, F0, H0, E, QX, s, h, t, tx⟩ => ⟨p, c, _, F, _, _, s.e, h, fun d c1 v F1 H1 w1 ok1 r1 q1 =>
      kg p c1 ρ σ F1 H1 F0 H0 d v _ _ (s.fwd w1 ok1) r1 q1 fun ρ' σ' s' _ _ h' => t.nx c1 ρ' σ' F1 H1 s' h', tx⟩
  · refine ⟨p, c, ρ, F, F0, H0, E, _, s, h, t, fun m d c' v dd F' H' fw ok e r ⟨hm, q⟩ => ?_⟩
    refine ⟨He.ga X.K m, dd, rfl, rfl, hx m hm, fun a na => ⟨.ref a, ?_, na, ?_⟩⟩
    · rw [List.getElem?_set_self (by rw [← s.len]; exact hlt)]
    · obtain ⟨w2, ok2⟩ := Fwd.laid ok na (ExcO a (He.ga X.K m) dd) (fun ps z => by unfold ExcO at z; cases z)
      have rx : Rep X.K p (upd F' a (ExcO a (He.ga X.K m) dd)) (.exc m d) (.ref a) := ⟨a, dd, v, rfl, upd_same, w2.frz _ _ e, r.mono w2.frz⟩
      have s2 := (((s.fwd fw ok).fwd w2 ok2).set ic rx).setNo ie
      have eσ : ((σ.set ie (some (V.ref a))).set ic (some (V.ref a))).set ie none = (σ.set ic (some (V.ref a))).set ie none := by
        rw [List.set_comm _ _ hne, List.set_set]
      show D.nx (((σ.set ie (some (V.ref a))).set ic (some (V.ref a))).set ie none) _
      rw [eσ]
      exact t.nx c' _ _ _ _ s2 q
end
end L3

set_option maxHeartbeats 2000000
/-! L4J: errors looked at: isinstance, value; repr of data compared. -/
namespace L4J
open PySem PySem.W PySem.Calls PyProof.Rows
section
variable {prog : Program} {w : World} {A : Around} {E : Value → Shared → Prop} {s : Shared} {K : Frag} {x D : Addr} {ox : Obj} {od : Option Obj}
theorem find_cls {C : Addr} {nm : Str} {a g : Value} (h1 : (clsIn K C).isSome = true) (h2 : findIn K (.ref C) nm = some (some a)) (h3 : specialIn K a "__get__" = some (some g)) (h4 : takesIn K a = some true) : findObj K C od nm = some (.bind g a) := by
  obtain ⟨cd, h1⟩ := Option.isSome_iff_exists.mp h1
  unfold findObj
  simp [h1, h2, h3, h4]
/-- e.__class__ of an error, its own dict left aside -/
theorem get_cls {Q : Option Value → Shared → Prop} (T : L2.ExcC K D) (X : K.In s.heap) (I : InstAt s.heap x ox D od) (h : Q (some (.ref D)) { s with toks := s.toks + 1 }) : wpAny (model prog w) A (getAttr? (.ref x) "__class__") Q E s := by
  have fo : findObj K D od "__class__" = some (.bind (.builtin "getset_descriptor.__get__") (.builtin "object.__class__")) := find_cls (by obtain ⟨cd, hc, _⟩ := any_some T.hd; rw [hc]; rfl) T.ha T.hn T.ht
  obtain ⟨hh, gg, dr, tk, os⟩ := s
  have ty := I.type (M := model prog w)
  have ga := looks_findIn (M := model prog w) X T.hg
  have gk := looks_findIn (M := model prog w) X T.hk
  have fd := looks_find (M := model prog w) X I fo
  have be : Looks (model prog w) hh (isInstance (.ref x) (.type "BaseException")) true := ty.andThen (looks_subIn X T.hs)
  have n1 : (Value.builtin "BaseException.__getattribute__" == Value.builtin "object.__getattribute__") = false := by decide +kernel
  have n2 : (onTheHeap (Value.ref D) && Value.builtin "BaseException.__getattribute__" == Value.builtin "object.__getattribute__") = false := by rw [n1]; rfl
  have n3 : (false && onTheHeap (Value.builtin "BaseException.__getattribute__")) = false := rfl
  unfold getAttr? getAttrBy? getAttrBy; refine wpAny_bind (wpAny_mkText (wpAny_bind (wpAny_attempt (wpAny_holding (wpAny_bind (ty.at (wpAny_bind (ga.at ?_))))))))
  show wpAny _ _ (if (onTheHeap (Value.ref D) && Value.builtin "BaseException.__getattribute__" == Value.builtin "object.__getattribute__") = true then _ else _) _ _ _ ; rw [n2, if_neg Bool.false_ne_true]
  unfold getAttrByItsOwn hookBefore; refine wpAny_bind ?_
  rw [if_pos (show onTheHeap (Value.ref D) = true from rfl)]; refine gk.at ?_
  refine wpAny_bind (wpAny_attempt (wpAny_holding ?_))
  unfold callGetattribute; rw [n3, if_neg Bool.false_ne_true]
  unfold boundAndCalled; rw [PySem.F.excAttr_ValueError.ga.bind (.ref x)]
  refine wpAny_bind (wpAny_pure ?_)
  show wpAny _ _ (call (.builtin "BaseException.__getattribute__") [.ref x, .str "__class__" tk]) _ _ _ ; refine wpAny_call (codeAny_call_builtin PySem.F.excAttr_ValueError.ga.plain PySem.F.entry_bexc_ga ?_)
  refine @check_slot (model prog w) _ _ ⟨hh, gg, dr, tk + 1, os⟩ "BaseException.__getattribute__" "BaseException" "__getattribute__" (.ref x) [.str "__class__" tk] [] _ (by decide +kernel) (by decide +kernel) be (PySem.F.args_bexc_ga (.ref x) (.str "__class__" tk)) ?_
  unfold Builtin.«object.__getattribute__»; refine wpAny_bind (wpAny_of_eq (a := ((Value.ref x : Value), [Value.str "__class__" tk])) (by first | rfl | (simp only [slotArgs]; rfl)) ?_)
  refine wpAny_bind (wpAny_pure (wpAny_bind (ty.at (wpAny_bind (fd.at ?_)))))
  show wpAny _ _ (holding [Value.builtin "object.__class__"] (call (.builtin "getset_descriptor.__get__") [.builtin "object.__class__", .ref x, .ref D]) >>= ret) _ _ _ ; refine wpAny_bind (wpAny_holding (wpAny_call (class_get (s := ⟨hh, gg, dr, tk + 1, os⟩) (ox := ox) (od := od) X I T.hm ?_)))
  refine wpAny_pure ?_
  show wpAny _ _ (handedOut (.ref D)) _ _ _ ; rw [handedOut_of (v := .ref D) rfl]
  first
    | exact wpAny_pure (wpAny_pure h)
    | exact wpAny_pure h
    | exact wpAny_pure (wpAny_bind (wpAny_pure (wpAny_pure h)))
theorem kit_err (T : L2.ExcC K D) : KitX K (.ref x) (.ref D) (fun h => InstAt h x ox D od) where
  ty := fun _ _ _ I => I.type
  it := fun _ _ X _ => by
    obtain ⟨cdD, e, _⟩ := any_some T.hd
    unfold clsIn at e
    split at e
    · rename_i c' d' cd' sl' ho
      intro A' Q' E' s' k q; unfold isType loadHead
      exact wpAny_bind (wpAny_loadPart (k _ _ (X _ _ ho)) (wpAny_pure q))
    · cases e
  ne := fun h tp dd its n sl X htp => by
    obtain ⟨cdD, e, _⟩ := any_some T.hd
    refine Bool.eq_false_iff.mpr fun q => ?_
    have e2 : D = tp := Value.ref.inj (beq_iff_eq.mp q)
    subst e2
    unfold clsIn at e
    split at e
    · rename_i c' d' cd' sl' ho
      have z := (X _ _ ho).symm.trans htp
      cases z
    · cases e
  ca := fun X I k => get_cls T X I k
end
end L4J

set_option maxHeartbeats 2000000
/-! L4K: isinstance of errors, their value, repr of data. -/
namespace L3
open PySem PySem.Spec PyProof.Rows L2
/-- what is known of an error class -/
structure ErrF (K : PySem.W.Frag) (n : Str) : Prop where
  ex : L2.ExcC K (He.ga K n)
  xf : XfC K (He.ga K n)
  no : PySem.W.findIn K (.ref (He.ga K n)) "value" = some none
  be : PySem.W.kitOne K (.ref (He.ga K n)) (.ref (He.ga K "BindError")) = some true
  ve : PySem.W.kitOne K (.ref (He.ga K n)) (.type "ValueError") = some true
theorem excO_get {P : Program} {w : World} {H : Hp} {h : Heap} {a C dd : Addr} {fs : List (Str × V)} (hok : HOk P w H h) (h1 : H a = some (ExcO a C dd)) (h2 : H dd = some (.xd fs)) :
    ∃ (oe od : Obj) (mA : Str → Option Value), PySem.W.InstAt h a oe C (some od) ∧ (∀ n, PySem.W.lookIn n od = some (mA n)) ∧ ∀ n, RelO (fs.lookup n) (mA n) := by
  obtain ⟨⟨oe, vs, e1, e2, e3, e4⟩, _⟩ := hok a _ h1
  obtain ⟨mA, hns, hr⟩ := hok dd _ h2
  obtain ⟨od, ho, hl⟩ := lookIn_ns hns
  exact ⟨oe, od, mA, ⟨e1, e2, by unfold PySem.W.notCls; rw [e4], by rw [e3]; exact ho⟩, hl, hr⟩
def rIsX (K : PySem.W.Frag) : List V → Hp → VK → Prop := fun xs H Q => ∃ (a D dd : Addr) (fs : List (Str × V)) (c : V) (u : Value) (b : Bool), xs = [.ref a, c] ∧ ClsV c u ∧ H a = some (ExcO a D dd) ∧ H dd = some (.xd fs) ∧ L2.ExcC K D ∧ PySem.W.kitOne K (.ref D) u = some b ∧ Q (.bl b) H
section
variable {X : Cx} {e : Expr} {fe : FE} {errs : List Str}
theorem call_isX : CallR X (.builtin "isinstance") (rIsX X.K) := by
  intro pins s σ H xs us Q I r h
  obtain ⟨a, D, dd, fs, c, u, b, rfl, hc, h1, h2, T, e, q⟩ := h
  obtain ⟨u1, u2, rfl, r1, r2⟩ := vals2 r
  obtain rfl := rel_ref r1
  have e2 := hc.eq r2
  subst e2
  obtain ⟨oe, od, mA, J, _, _⟩ := excO_get I.hok h1 h2
  exact PySem.W.kia_one (L4J.kit_err T) I.kIn J e (fun z => nomatch z) fun tk => ⟨.bl b, H, I.kept (t' := tk) fun _ _ z => z, rfl, q⟩
/-- isinstance(e, n), e an error, n the class it is of, or the base of all -/
@[simp ↓] def eIsX (errs : List Str) (n : Str) (fe : FE) : FE := fun ρ c Q => fe ρ c fun d c => match d with | .exc m _ => (errs.contains m = true ∧ (m = n ∨ n = "BindError")) ∧ Q (.bl true) c | _ => False
@[simp ↓] def eIsV (errs : List Str) (fe : FE) : FE := fun ρ c Q => fe ρ c fun d c => match d with | .exc m _ => errs.contains m = true ∧ Q (.bl true) c | _ => False
theorem ex_isX {n : Str} {p p2 pos : Pos} (hF : ∀ m, errs.contains m = true → ErrF X.K m) (hm : X.mg "isinstance" = none) (hn : X.mg n = some (.ref (He.ga X.K n))) (he : EX X e fe) (hg : Gl X "isinstance" := by rfl) (hgn : Gl X n := by rfl) (hdb : (n == ("__debug__" : Str)) = false := by decide)
    (hs : starEach [e, .Name n p2] X.env = (false, eval e X.env) :: starEach [.Name n p2] X.env := by rfl) (hs2 : starEach [.Name n p2] X.env = (false, eval (.Name n p2) X.env) :: starEach [] X.env := by rfl) (hpl : (backTo pos (starEach [.Name n p2] X.env)).any (·.1) = false := by rfl) :
    EX X (.Call (.Name "isinstance" p) [e, .Name n p2] [] pos) (eIsX errs n fe) := PE.imp (pe_callB call_isX hg hm (by decide +kernel) (pa_cons he (pa_cons (pe_glob (v := .ref (He.ga X.K n)) hgn hn rfl hdb) pa_nil hs2) hs) (by decide) (by decide) hs hpl) fun σ H Q ⟨p, c, ρ, F, Q', es, h, t⟩ =>
  ⟨p, c, ρ, F, _, es, h, fun d c1 v F1 H1 w1 ok1 r1 q1 => by
    split at q1
    · rename_i m d
      obtain ⟨⟨hm, hmn⟩, q⟩ := q1
      obtain ⟨a, dd, w, rfl, g1, g2, g3⟩ := r1
      have T := hF m hm
      refine ⟨a, _, dd, _, _, _, true, rfl, .own _, ok1.sub _ _ g1, ok1.sub _ _ g2, T.ex, ?_, tell0 ok1 (t.fwd w1) (show Rep X.K p F1 (.bl true) (.bl true) from rfl) q⟩
      rcases hmn with rfl | rfl
      · unfold PySem.W.kitOne
        rw [if_pos (beq_self_eq_true _)]
      · exact T.be
    · exact q1.elim⟩
theorem ex_isV {p p2 pos : Pos} (hF : ∀ m, errs.contains m = true → ErrF X.K m) (hm : X.mg "isinstance" = none) (hn : X.mg "ValueError" = none) (he : EX X e fe) (hg : Gl X "isinstance" := by rfl) (hgn : Gl X "ValueError" := by rfl)
    (hs : starEach [e, .Name "ValueError" p2] X.env = (false, eval e X.env) :: starEach [.Name "ValueError" p2] X.env := by rfl) (hs2 : starEach [.Name "ValueError" p2] X.env = (false, eval (.Name "ValueError" p2) X.env) :: starEach [] X.env := by rfl) (hpl : (backTo pos (starEach [.Name "ValueError" p2] X.env)).any (·.1) = false := by rfl) :
    EX X (.Call (.Name "isinstance" p) [e, .Name "ValueError" p2] [] pos) (eIsV errs fe) := PE.imp (pe_callB call_isX hg hm (by decide +kernel) (pa_cons he (pa_cons (pe_bltn (v := .ty "ValueError") hgn hn (by decide +kernel : bootBuiltins "ValueError" = some (.type "ValueError")) rfl) pa_nil hs2) hs) (by decide) (by decide) hs hpl) fun σ H Q ⟨p, c, ρ, F, Q', es, h, t⟩ =>
  ⟨p, c, ρ, F, _, es, h, fun d c1 v F1 H1 w1 ok1 r1 q1 => by
    split at q1
    · rename_i m d
      obtain ⟨hm, q⟩ := q1
      obtain ⟨a, dd, w, rfl, g1, g2, g3⟩ := r1
      have T := hF m hm
      exact ⟨a, _, dd, _, _, _, true, rfl, .ty _, ok1.sub _ _ g1, ok1.sub _ _ g2, T.ex, T.ve, tell0 ok1 (t.fwd w1) (show Rep X.K p F1 (.bl true) (.bl true) from rfl) q⟩
    · exact q1.elim⟩
/-- e.value, e an error -/
@[simp ↓] def eVal (errs : List Str) (fe : FE) : FE := fun ρ c Q => fe ρ c fun d c => match d with | .exc m d => errs.contains m = true ∧ Q d c | _ => False
theorem ex_val {pos : Pos} (hF : ∀ m, errs.contains m = true → ErrF X.K m) (he : EX X e fe) (hb : attributeBase e "value" X.env (eval e X.env) = eval e X.env := by rfl) : EX X (.Attribute e "value" pos) (eVal errs fe) := by
  refine ⟨fun pins s σ H Q I ⟨p, c, ρ, F, Q', es, h, t⟩ => ?_⟩
  refine attr_of hb (thn (he.run pins s σ H (fun v H1 => ∃ d c1 F1, Fwd p F H F1 H1 ∧ Ok3 p c1 F1 H1 ∧ Rep X.K p F1 d v ∧ match d with | .exc m d => errs.contains m = true ∧ Q' d c1 | _ => False) I ⟨p, c, ρ, F, _, es, h, fun d c1 v F1 H1 w1 ok1 r1 q1 => ⟨d, c1, F1, w1, ok1, r1, q1⟩⟩) fun u s1 ⟨v, H1, I1, r, d, c1, F1, w1, ok1, r1, q1⟩ => ?_)
  split at q1
  · rename_i m d
    obtain ⟨hm, q⟩ := q1
    obtain ⟨a, dd, w, rfl, g1, g2, g3⟩ := r1
    obtain rfl := rel_ref r
    have T := hF m hm
    obtain ⟨oe, od, mA, J, hl, hr⟩ := excO_get I1.hok (ok1.sub _ _ g1) (ok1.sub _ _ g2)
    obtain ⟨u, hu, ru⟩ := RelO.some_of (v := w) (o := mA "value") (hr "value")
    exact HandSPX.exc_get I1.kIn J T.xf.ga T.xf.gg T.xf.exC (PySem.W.findObj_own T.xf.hdC T.no rfl (by rw [hl, hu])) (handed_of ru) ⟨w, H1, I1.tok _, ru, tell0 ok1 (t.fwd w1) g3 q⟩
  · exact q1.elim
/-! repr -/
def ShowP (x : D) (y : PyData) : Prop := toPy x = some y ∧ y.showable = true ∧ y.hasDict = false ∧ y.shown.length ≤ sizeLine ∧ y.depth ≤ 64
@[simp ↓] def reprD : D → Nat → KD → Prop := fun x c Q => ∃ y, ShowP x y ∧ Q (.str y.shown) c
end
end L3

set_option maxHeartbeats 2000000
/-! L4L: repr of data. -/
namespace L3
open PySem PySem.Spec PyProof.Rows L2
def rRepr (K : PySem.W.Frag) : List V → Hp → VK → Prop := fun xs H Q => ∃ (v : V) (y : PyData), xs = [v] ∧ Dp K H v y ∧ y.showable = true ∧ y.hasDict = false ∧ y.shown.length ≤ sizeLine ∧ y.depth ≤ 64 ∧ Q (.str y.shown) H
section
variable {X : Cx} {e : Expr} {fe : FE}
theorem call_reprD (hc : X.A.guards = some []) (hu : X.A.units + 66 < cLine) : CallR X (.builtin "repr") (rRepr X.K) := by
  intro pins s σ H xs us Q I r h
  obtain ⟨v, y, rfl, hd, h1, h2, h3, h4, q⟩ := h
  obtain ⟨u, rfl, ru⟩ := vals1 r
  obtain ⟨as, rd⟩ := Dp.reads I _ _ _ hd ru
  have fin : ∀ (h' : Heap) (tk : Nat) (t : Tok), (∀ b o, s.heap.get? b = some o → h'.get? b = some o) → EP X pins σ Q (.str y.shown t) { s with heap := h', toks := tk } := fun h' tk t k => ⟨.str y.shown, H, I.kept k, ⟨_, rfl⟩, q⟩
  cases rd with
  | none => exact PySem.P.repr_of_none (fin s.heap _ _ fun _ _ z => z)
  | bool b =>
    have e : (PyData.bool b).shown = (if b then "True" else "False" : Str) := PyData.shown_bool b
    rw [e] at fin
    exact PySem.P.repr_of_bool (fin s.heap _ _ fun _ _ z => z)
  | int i t =>
    have e : (PyData.int i).shown = ((toString i : String) : Str) := PyData.shown_int i
    rw [e] at fin
    exact PySem.P.repr_of_int (of_decide_eq_true (by simpa [PyData.showable] using h1)) (fin s.heap _ _ fun _ _ z => z)
  | str x t =>
    have e : (PyData.str x).shown = reprText x := PyData.shown_str x
    rw [e] at fin h3
    exact PySem.P.repr_of_str (fin s.heap _ _ fun _ _ z => z) h3
  | list e1 e2 e3 e4 => exact PySem.repr_of_reads' (h₀ := s.heap) (.list e1 e2 e3 e4) h1 (fun z => by rw [h2] at z; cases z) hc (by omega) (fun _ _ z => z) (fun h' u tk k => fin h' tk u k) h3
  | tuple e1 e2 e3 e4 => exact PySem.repr_of_reads' (h₀ := s.heap) (.tuple e1 e2 e3 e4) h1 (fun z => by rw [h2] at z; cases z) hc (by omega) (fun _ _ z => z) (fun h' u tk k => fin h' tk u k) h3
  | dict => cases h2
theorem ex_repr {p pos : Pos} (hm : X.mg "repr" = none) (hc : X.A.guards = some []) (hu : X.A.units + 66 < cLine) (he : EX X e fe) (hg : Gl X "repr" := by rfl) (hs : starEach [e] X.env = (false, eval e X.env) :: starEach [] X.env := by rfl) (hpl : (backTo pos (starEach [] X.env)).any (·.1) = false := by rfl) :
    EX X (.Call (.Name "repr" p) [e] [] pos) (eUn reprD fe) := PE.imp (pe_callB (call_reprD hc hu) hg hm (by decide +kernel) (pa_cons he pa_nil hs) (by decide) (by decide) hs hpl) fun σ H Q ⟨p, c, ρ, F, Q', es, h, t⟩ =>
  ⟨p, c, ρ, F, _, es, h, fun d c1 v F1 H1 w1 ok1 r1 ⟨y, ⟨g1, g2, g3, g4, g5⟩, q⟩ => ⟨v, y, rfl, r1.dp ok1.sub g1, g2, g3, g4, g5, tell0 ok1 (t.fwd w1) (show Rep X.K p F1 (.str y.shown) (.str y.shown) from rfl) q⟩⟩
end
end L3

/-! L3, the end: facts of the head as what the walk asks. -/
namespace L3
open PySem PySem.Spec PyProof.Rows L2
section
variable {K : PySem.W.Frag}
theorem fun_of {x : Str} {st : Stmt} {f : Addr} {fd : FuncData} (F : FunD K x x (defArgs st) (defBody st) (defScope st) [] [] f fd) : Fun K x x st f fd := by
  obtain ⟨oc, od, dV, kV, doc, pm, an, cdv, ct, osl, e, lk, hcd, hD, _⟩ := F.ex
  rcases hD with ⟨_, rfl⟩ | ⟨z, _⟩
  · exact ⟨⟨oc, od, kV, doc, pm, an, cdv, ct, osl, e, lk, hcd⟩, F.kp⟩
  · exact absurd rfl z
theorem code_of {x q : Str} {pr : Arguments} {b : List Stmt} {sc : Scope} {dvs : List V} {kws : List (Str × V)} {p : Str × Option Str} {fd : FuncData} (F : FunD K x q pr b sc dvs kws (He.fAd K p) fd) : fd.code = .ref (He.cT K p).1 := by
  obtain ⟨oc, od, dV, kV, doc, pm, an, cdv, ct, osl, rfl, lk, hcd, _, _⟩ := F.ex
  obtain ⟨c, rfl⟩ := He.codeIn_ref hcd
  have e : He.codeOf K p = c := He.codeOf_eq lk rfl
  show Value.ref c = .ref (He.codeOf K p)
  rw [e]
theorem law_sp {m : FM} {H : Hp} {a : Addr} {ns : List Int} {E : XK} (ht : LamX.Tabs tabs0 H) (hS : SqL K H a (ns.map V.int)) (h : m [.scr ns] 0 fun d _ => d = .bl true) : spM K 1 m [.ref a] H (fun v _ => v = .bl true) E := by
  have go : ∀ F : Hp, (∀ b o, F b = some o → H b = some o) → (∀ b ps, F b ≠ some (.tbl ps)) → SqL K F a (ns.map V.int) → spM K 1 m [.ref a] H (fun v _ => v = .bl true) E := fun F h1 h2 h3 =>
    ⟨rfl, ⟨none, [], fun _ => none⟩, 0, F, [.scr ns], _, ⟨h1, fun _ z => (nomatch z), ⟨ht, fun _ z => absurd z List.not_mem_nil⟩, ⟨h2, fun _ _ z => nomatch z⟩⟩, ⟨_, _, rfl, ⟨a, rfl, h3⟩, rfl⟩, h, fun d c v F' H' _ _ r q => by
      subst q
      exact r⟩
  have one : ∀ u : HO, H a = some u → (∀ ps, u ≠ .tbl ps) → (∀ F : Hp, F a = some u → SqL K F a (ns.map V.int)) → spM K 1 m [.ref a] H (fun v _ => v = .bl true) E := fun u e n k => by
    refine go (fun b => if b = a then some u else none) (fun b o z => ?_) (fun b ps z => ?_) (k _ (if_pos rfl))
    · by_cases q : b = a
      · rw [q]
        exact e.trans ((if_pos q).symm.trans z)
      · exact nomatch (if_neg q).symm.trans z
    · by_cases q : b = a
      · exact n ps (Option.some.inj ((if_pos q).symm.trans z))
      · exact nomatch (if_neg q).symm.trans z
  rcases hS with (hS | ⟨o, hS⟩) | hS
  · exact one _ hS (fun _ z => nomatch z) fun F e => .inl (.inl e)
  · exact one _ hS (fun _ z => nomatch z) fun F e => .inl (.inr ⟨o, e⟩)
  · exact go (fun _ => none) (fun _ _ z => nomatch z) (fun _ _ z => nomatch z) (.inr hS)
end
end L3

set_option maxHeartbeats 2000000
/-! L4T: the law's own call, by a promise of this layer (no repr under way). -/
namespace L3
open PySem PySem.Spec PyProof.Rows L2 LamX
abbrev tabO : Obj := { cls := .none, data := .fields #[] }
section
variable {P : Program} {w : World} {K : PySem.W.Frag} {mg mb : Str → Option Value} {CX : CXT} {k : Nat} {fa a : Addr} {cs : List (Addr × Addr)} {fd : FuncData} {x : Str} {sp : Sp} {S : Shared} {vs : List Value} {ns : List Int}
/-- what is tracked at the law's call: the tables, and the script where it is not of the written part -/
def topH (K : PySem.W.Frag) (cs : List (Addr × Addr)) (a : Addr) (la : Obj) (ns : List Int) : Hp := fun b => if b ∈ cs.map (·.2) then some (.tbl #[]) else if b = a ∧ K.lookup a = none then some (.frz la (.lst (ns.map V.int))) else none
theorem topH_cases {la : Obj} {b : Addr} {u : HO} (e : topH K cs a la ns b = some u) : (b ∈ cs.map (·.2) ∧ u = .tbl #[]) ∨ (b = a ∧ K.lookup a = none ∧ u = .frz la (.lst (ns.map V.int))) := by
  unfold topH at e
  split at e
  · rename_i h; cases e; exact .inl ⟨h, rfl⟩
  · split at e
    · rename_i h; cases e; exact .inr ⟨h.1, h.2, rfl⟩
    · cases e
theorem law_callG (KX : K.In S.heap) (hns : S.heap.Ns mainGlobals mg) (hbn : S.heap.Ns builtinsNs mb) (hbb : ∀ x : Str, x ≠ "__name__" → mb x = bootBuiltins x) (hlim : S.heap.NoLimit) (hgn : S.gens = #[]) (hT : ∀ p ∈ cs, S.heap.get? p.2 = some tabO) (nT : ∀ p ∈ cs, K.lookup p.2 = none) (C : ∀ p ∈ cs, PySem.W.CodeHd S.heap p.1 p.2)
    (hbm : ∃ (bm : Addr) (ob : Obj), mg "__builtins__" = some (.ref bm) ∧ bm ≠ builtinsNs ∧ S.heap.get? bm = some ob ∧ ob.cls = .type "module" ∧ ob.dict = some builtinsNs ∧ ob.data = .plain) (ha : S.heap.get? a = some { cls := .type "list", data := .seq vs.toArray }) (hi : IntsAre vs ns) (hl : ns.length ≤ sizeLine)
    (hr : Room k callerA) {K2 : PySem.W.Frag} (hK2 : K2.In S.heap) (hd2 : ∀ b o, K2.lookup b = some o → ∃ es ep, o.data = .dict es ep) (F : ∀ base : Heap, K.In base → base.Ns mainGlobals mg → (∀ p ∈ cs, TabB base mg p.1 p.2) → K2.In base → FnOk P w K mg base CX k fa fd [x] sp) (hbind : ∀ (s : Shared) (u : Value), BindsTo s fd ⟨[u], []⟩ [(x, u)])
    (hsp : ∀ H : Hp, (∀ p ∈ cs, H p.2 = some (.tbl #[])) → SqL K H a (ns.map V.int) → sp [.ref a] H (fun v _ => v = .bl true) fun _ _ _ => False) (hCX : ∀ H e s', CX [] H S (fun _ _ _ => False) e s' → False) :
    codeAny (model P w) callerA (.call (.ref fa) ⟨[.ref a], []⟩) (fun r s' => r = .ok (.ret (.bool true)) ∧ OldK S.heap s'.heap ∧ s'.os = S.os ∧ AllBare s'.gens) S := by
  have rv := vals_ints hi
  have tabAt : ∀ b ∈ cs.map (·.2), S.heap.get? b = some tabO := fun b hb => by
    obtain ⟨p, hp, rfl⟩ := List.mem_map.mp hb
    exact hT p hp
  have notTab : a ∉ cs.map (·.2) := fun hm => by
    have z := (tabAt a hm).symm.trans ha
    cases z
  generalize hHe : topH K cs a { cls := .type "list", data := .seq vs.toArray } ns = H
  have what : ∀ {b u}, H b = some u → (b ∈ cs.map (·.2) ∧ u = .tbl #[]) ∨ (b = a ∧ K.lookup a = none ∧ u = .frz { cls := .type "list", data := .seq vs.toArray } (.lst (ns.map V.int))) := fun {b u} e => topH_cases (by rw [hHe]; exact e)
  have atTab : ∀ p ∈ cs, H p.2 = some (.tbl #[]) := fun p hp => by
    rw [← hHe]
    exact if_pos (List.mem_map.mpr ⟨p, hp, rfl⟩)
  have free : ∀ {b : Addr} {o : Obj}, S.heap.get? b = some o → (∀ xs n, o.data ≠ .seq xs n) → o.data ≠ .fields #[] → H b = none := fun {b o} e h1 h2 => by
    cases q : H b with
    | none => rfl
    | some u =>
      rcases what q with ⟨m, _⟩ | ⟨m, _, _⟩
      · rw [tabAt b m] at e; cases e; exact (h2 rfl).elim
      · rw [m, ha] at e; cases e; exact (h1 _ _ rfl).elim
  have freeD : ∀ {b : Addr} {o : Obj} {es : Array DictEntry} {ep : Nat}, S.heap.get? b = some o → o.data = .dict es ep → H b = none := fun {b o es ep} e d => free e (fun xs n z => by rw [d] at z; cases z) fun z => by rw [d] at z; cases z
  have low : ∀ {b : Addr} {o : Obj}, S.heap.get? b = some o → H b = none → (hidT S.heap H).get? b = some o := fun e n => hidT_get e n
  have lowNs : ∀ {b : Addr} {m : Str → Option Value}, S.heap.Ns b m → (hidT S.heap H).Ns b m := fun {b m} ⟨o, es, ep, e, d, r⟩ => ⟨o, es, ep, low e (freeD e d), d, r⟩
  have hS : SqL K H a (ns.map V.int) := by
    cases hk : K.lookup a with
    | some o =>
      have e := KX a o hk
      rw [ha] at e
      cases e
      exact .inr ⟨_, vs.toArray, _, hk, rfl, rfl, rfl, by rw [List.size_toArray, hi.length]; exact hl, by simpa using rv⟩
    | none =>
      refine .inl (.inr ⟨{ cls := .type "list", data := .seq vs.toArray }, ?_⟩)
      rw [← hHe]
      exact (if_neg notTab).trans (if_pos ⟨rfl, hk⟩)
  have hok : HOk P w H S.heap := fun b u e => by
    rcases what e with ⟨m, rfl⟩ | ⟨rfl, _, rfl⟩
    · exact tabAt b m
    · exact ⟨ha, by rw [List.length_map]; exact hl, vs, _, rv, ha⟩
  have kB : K.In (hidT S.heap H) := fun b o e => low (KX b o e) (by
    cases q : H b with
    | none => rfl
    | some u =>
      rcases what q with ⟨m, _⟩ | ⟨m, n, _⟩
      · obtain ⟨p, hp, ep⟩ := List.mem_map.mp m
        rw [← ep, nT p hp] at e; cases e
      · rw [m, n] at e; cases e)
  have kB2 : K2.In (hidT S.heap H) := fun b o e => low (hK2 b o e) (let ⟨_, _, d⟩ := hd2 b o e; freeD (hK2 b o e) d)
  have modB : L2.Mod K mg (hidT S.heap H) := ⟨kB, lowNs hns, ⟨mb, lowNs hbn, hbb⟩, let ⟨mc, h1, h2⟩ := hlim; ⟨mc, lowNs h1, h2⟩⟩
  have tabs : ∀ p ∈ cs, TabB (hidT S.heap H) mg p.1 p.2 := fun p hp => by
    have here := hT p hp
    obtain ⟨oG, eG, pG, atG, dG, rG⟩ := hns
    refine ⟨?_, ?_, fun z => by rw [z, here] at atG; cases atG; cases dG⟩
    · obtain ⟨o, us, file, tf, flags, tg, inF, text, tt, e1, r1, r2, r3, rest⟩ := C p hp
      exact ⟨o, us, file, tf, flags, tg, inF, text, tt, low e1 (free e1 (fun xs n z => by rw [r2] at z; cases z) fun z => by rw [r2] at z; cases z; simp at r3), r1, r2, r3, rest⟩
    · obtain ⟨bm, ob, b1, b2, b3, b4, b5, b6⟩ := hbm
      have n1 : bm ≠ mainGlobals := fun q => by
        have z := b3
        rw [q, atG] at z; cases z
        rw [dG] at b6; cases b6
      have n2 : bm ≠ p.2 := fun q => by
        have z := b3
        rw [q, here] at z; cases z
        cases b6
      exact ⟨bm, ob, b1, b2, n1, n2, low b3 (free b3 (fun xs n z => by rw [b6] at z; cases z) fun z => by rw [b6] at z; cases z), b4, b5, b6⟩
  have env0 : Env0 P w K mg (hidT S.heap H) callerA [] S H := ⟨rfl, modB, fun b o e => of_hidT e, Nat.le_of_eq (hidT_size _ _), trivial, fun b hb => absurd (show b ∈ ([] : List Addr) from hb) (by simp), hok, .of_eq hgn⟩
  refine codeAny_mono ((F _ kB (lowNs hns) tabs kB2).run callerA [] S H ⟨[.ref a], []⟩ [.ref a] [.ref a] _ _ hr env0 (hbind S (.ref a)) (.cons rfl .nil) (hsp H atTab hS)) fun r s' h => ?_
  cases r with
  | error e => exact (hCX H e s' h).elim
  | ok fl =>
    cases fl with
    | ret u =>
      obtain ⟨v, H', eos, gens, un, hok', rel, q⟩ := h
      obtain rfl : v = .bl true := q
      obtain rfl : u = Value.bool true := rel
      have same : ∀ b o, b ∉ cs.map (·.2) → S.heap.get? b = some o → s'.heap.get? b = some o := fun b o nb e => by
        cases q : H b with
        | none => exact un.keep b o e q (fun z => absurd (show b ∈ ([] : List Addr) from z) (by simp)) (by simp)
        | some u =>
          rcases what q with ⟨m, _⟩ | ⟨_, _, rfl⟩
          · exact absurd m nb
          · obtain ⟨e1, _⟩ := hok b _ q
            obtain ⟨e2, _⟩ := hok' b _ (un.frzs b _ _ q)
            rw [e] at e1
            cases e1
            exact e2
      have more : ∀ p ∈ cs, ∃ qs : Array Value, s'.heap.get? p.2 = some { cls := .none, data := .fields qs } := fun p hp => by
        obtain ⟨qs, z⟩ := un.tbls p.2 #[] (atTab p hp)
        exact ⟨_, hok' p.2 _ z⟩
      refine ⟨rfl, ⟨fun b o e => ?_, fun b o e => ?_⟩, eos, gens⟩ <;> by_cases hm : b ∈ cs.map (·.2)
      · obtain ⟨p, hp, rfl⟩ := List.mem_map.mp hm
        obtain ⟨qs, hq⟩ := more p hp
        have e := (hT p hp).symm.trans e
        cases e
        exact .inr (.inl ⟨((C p hp).tab (hT p hp)).isCodeTable, rfl, #[], qs, rfl, by rw [Array.empty_append]; exact hq⟩)
      · exact .inl (same b o hm e)
      · obtain ⟨p, hp, rfl⟩ := List.mem_map.mp hm
        obtain ⟨qs, hq⟩ := more p hp
        exact ⟨_, hq⟩
      · exact ⟨o, same b o hm e⟩
    | next => exact False.elim h
    | brk => exact False.elim h
    | cont => exact False.elim h
end
/-- what is known of the law's promise at the head's heap -/
def LawG (l : PySem.W.OpenLaw) (w : World) (K : PySem.W.Frag) (CX : CXT) (k n : Nat) (x : Str) (mg : Str → Option Value) (fa : Addr) (h : Heap) : Prop :=
  ∃ (fd : FuncData) (cs : List (Addr × Addr)) (sp : Sp), (∀ p ∈ cs, h.get? p.2 = some tabO) ∧ (∀ p ∈ cs, K.lookup p.2 = none) ∧ (∀ p ∈ cs, PySem.W.CodeHd h p.1 p.2) ∧ (∀ (s : Shared) (u : Value), BindsTo s fd ⟨[u], []⟩ [(x, u)]) ∧
    (∀ (H : Hp) (a : Addr) (ns : List Int), ns.length ≤ n → (∀ z ∈ ns, Builtin.Int.intBits z ≤ 1048576) → (∀ p ∈ cs, H p.2 = some (.tbl #[])) → SqL K H a (ns.map V.int) → sp [.ref a] H (fun v _ => v = .bl true) fun _ _ _ => False) ∧
    ∃ K2 : PySem.W.Frag, K2.In h ∧ (∀ b o, K2.lookup b = some o → ∃ es ep, o.data = .dict es ep) ∧ ∀ base : Heap, K.In base → base.Ns mainGlobals mg → (∀ p ∈ cs, TabB base mg p.1 p.2) → K2.In base → FnOk l.prog w K mg base CX k fa fd [x] sp
theorem walk_G {l : PySem.W.OpenLaw} {n k : Nat} {q : Program} {loose : List Str} {XP : (Str → Option Value) → Heap → Prop} {YP : World → Heap → Prop} {d : DefRec} {CX : World → CXT} {x : Str}
    (hn : l.most = some n) (hn2 : n ≤ sizeLine) (hdf : d.params.defaults = []) (hr : L2.Room k callerA)
    (F : ∀ (w : World) (mg : Str → Option Value) (fa : Addr) (h : Heap), YP w h → h.Ns mainGlobals mg → mg d.name = some (.ref fa) → ∃ K : PySem.W.Frag, K.In h ∧ LawG l w K (CX w) k n x mg fa h)
    (hCX : ∀ (w : World) (H : Hp) (s : Shared) (e : Value) (s' : Shared), CX w [] H s (fun _ _ _ => False) e s' → False) : PySem.W.WalkO q loose XP YP l.row.toRowW d [] (fun f vs => PySem.call f vs) := by
  refine Att.attach_callB hn hdf fun w s0 S mg mb fa o pm cd doc a vs ns G Y ho hd hcd hmg hobj hints hlen hbits hg => ?_
  obtain ⟨K, KX, fd, cs, sp, t1, t2, t3, hb, hsp, K2, k1, k2, hF⟩ := F w mg fa _ Y G.T.g hmg
  exact law_callG KX G.T.g G.T.b G.T.builtins G.T.nolimit hg t1 t2 t3 G.T.bmain hobj hints (Nat.le_trans hlen hn2) ⟨hr, rfl⟩ k1 k2 hF hb (fun H hH hS => hsp H a ns hlen hbits hH hS) fun H e s' => hCX w H S e s'
end L3

set_option maxHeartbeats 2000000
/-! L4N: what the head is asked about the error classes. -/
namespace L3
open PySem PySem.Spec PyProof.Rows L2
abbrev atI : Str × Option Str := ("BindError", some "__init__")
def oexB (K : PySem.W.Frag) (C : Addr) : Bool := match K.lookup C with
  | some ⟨.type "type", _, .cls cd, sl⟩ => (match cd.mro, sl.toList with
    | .ref C' :: bm, [_, _, _, _, some (.builtin n), _] => C' == C && (n == "ValueError.__new__" && (!cd.hasDel && (cd.hasDict && PySem.HandSPX.refsVE bm)))
    | _, _ => false)
  | _ => false
theorem oexB_ok {K : PySem.W.Frag} {C : Addr} (q : oexB K C = true) : ∃ nm q N bs bm sn sub ab col dd k0 k1 k2 k3 k5, K.lookup C = some (excClassObj nm q C N bs bm true sn sub ab col dd k0 k1 k2 k3 k5 "ValueError.__new__") ∧ PySem.HandSPX.refsVE bm = true := by
  unfold oexB at q
  split at q
  · rename_i dd cd sl ho
    split at q
    · rename_i C' bm k0 k1 k2 k3 n k5 hm hs
      simp only [Bool.and_eq_true, beq_iff_eq, Bool.not_eq_true'] at q
      obtain ⟨rfl, rfl, hdel, hdc, ht⟩ := q
      obtain ⟨nm, bs, mro, ns, qn, hd, sn, sub, ab, col, del⟩ := cd
      dsimp only at hm hdel hdc
      subst hm hdel hdc
      obtain ⟨l⟩ := sl
      simp only at hs
      subst hs
      exact ⟨nm, qn, ns, bs, bm, sn, sub, ab, col, dd, k0, k1, k2, k3, k5, ho, ht⟩
    · cases q
  · cases q
def errB (K : PySem.W.Frag) (n : Str) : Bool :=
  oexB K (He.ga K n) && (decide (PySem.W.findIn K (.ref (He.ga K n)) "__setattr__" = some (some (.builtin "object.__setattr__"))) && (decide (PySem.W.subIn K (.ref (He.ga K n)) (.type "BaseException") = some true) && (decide (PySem.W.typeIn K (.ref (He.ga K n)) = some (.type "type")) && (PySem.W.keepIn K (.ref (He.ga K n)) &&
  (decide (PySem.W.findIn K (.ref (He.ga K n)) "__init__" = some (some (.ref (He.fAd K atI)))) && (decide (PySem.W.findIn K (.ref (He.ga K n)) "value" = some none) && (decide (PySem.W.mroIn K (He.ga K n) (.ref (He.ga K "BindError")) = some true) &&
  (decide (PySem.W.ks_superIn K (He.ga K n) (He.ga K "BindError") "__init__" = some (some (.builtin "ValueError.__init__"))) && (decide (PySem.W.subIn K (.ref (He.ga K n)) (.type "ValueError") = some true) && (xfB K (He.ga K n) &&
  (decide (PySem.W.findIn K (.ref (He.ga K n)) "__class__" = some (some (.builtin "object.__class__"))) && (decide (PySem.W.specialIn K (.builtin "object.__class__") "__get__" = some (some (.builtin "getset_descriptor.__get__"))) && (decide (PySem.W.takesIn K (.builtin "object.__class__") = some true) &&
  (decide (PySem.W.mroIn K (He.ga K n) (.type "object") = some true) && (decide (PySem.W.kitOne K (.ref (He.ga K n)) (.ref (He.ga K "BindError")) = some true) && (decide (PySem.W.kitOne K (.ref (He.ga K n)) (.type "ValueError") = some true) && decide (PySem.W.exmOne K (.ref (He.ga K n)) (.ref (He.ga K "BindError")) = some true)))))))))))))))))
theorem errB_ok {K : PySem.W.Frag} {mg : Str → Option Value} {n : Str} (q : errB K n = true) (g : mg n = some (.ref (He.ga K n))) : ErrC K mg n (He.fAd K atI) ∧ ErrF K n ∧ PySem.W.exmOne K (.ref (He.ga K n)) (.ref (He.ga K "BindError")) = some true := by
  unfold errB at q
  simp only [Bool.and_eq_true, decide_eq_true_eq] at q
  obtain ⟨h1, h2, h3, h4, h5, h6, h7, h8, h9, h10, h11, h12, h13, h14, h15, h16, h17, h18⟩ := q
  have x := xfB_ok h11
  exact ⟨⟨g, ⟨oexB_ok h1, h2, h3, h4, h5⟩, h6, h7, ⟨h8, h9, h10⟩⟩, ⟨⟨x.ga, x.gg, x.exC, x.hdC, h12, h13, h14, h15⟩, x, h7, h16, h17⟩, h18⟩
/-! BindError's __init__ -/
def dvNone (K : PySem.W.Frag) : Bool := match K.lookup (He.fAd K atI) with
  | some ⟨_, _, .func fd, _⟩ => (match fd.defaults with
    | .none => true
    | _ => false)
  | _ => false
def initB (P : Program) (K : PySem.W.Frag) (CC : Addr) : Bool := (match K.lookup (He.fAd K atI) with
  | some ⟨_, _, .func fd, _⟩ => (match fd.code with
    | .ref cda => PySem.W.codeIn K (.ref cda) "BindError.__init__" && (match K.lookup cda with
      | some ⟨_, _, .fields (vs : Array Value), _⟩ => (match (vs[2]? : Option Value) with
        | some (Value.str file _) => P.main.file == file
        | _ => false)
      | _ => false)
    | _ => false)
  | _ => false) && ((match K.lookup CC with
  | some ⟨_, _, .cell (some (.ref b)), _⟩ => b == He.ga K "BindError"
  | _ => false) && ((PySem.W.clsIn K (He.ga K "BindError")).isSome && (dvNone K && decide (PySem.W.typeIn K (.ref (He.fAd K atI)) = some (.type "function")))))
/-- the value that the head tells of it -/
abbrev initV (params : Arguments) (body : List Stmt) (scope : Scope) (CC : Addr) : He.FnW := some ("__init__", "BindError.__init__", params, .stmts body, scope, mainGlobals, [("__class__", CC)], builtinsNs)
theorem initH_of {P : Program} {K : PySem.W.Frag} {mg : Str → Option Value} {params : Arguments} {body : List Stmt} {scope : Scope} {CC : Addr} {p0 p1 p2 p3 p4 p5 p6 p7 p8 p9 : Pos} (e : He.fnW K atI = initV params body scope CC) (b : initB P K CC = true) (hsup : mg "super" = none) {K2 : PySem.W.Frag} (b4 : PySem.W.nsIn K2 cStatics "thirdparty.any" = some none)
    (hbd : body = [.Expr (.Call (.Attribute (.Call (.Name "super" p0) [] [] p1) "__init__" p2) [.Name "value" p3] [] p4) p5, .Assign [.Attribute (.Name "self" p6) "value" p7] (.Name "value" p8) p9]) (hln : (p2.endLine == p4.line) = true)
    (htop : (P.main.scope.names.lookup ("super" : Str)).isSome = false) {ar : Arg} (hpar : (params.posonlyargs ++ params.args).head? = some ar) (har : ar.arg = ("self" : Str)) (kind : scope.kind = .function) (co : scope.isCoroutine = false) (gen : scope.isGenerator = false) (cell : ∀ x ∈ scope.names, x.2 ≠ .cell)
    (nself : scope.names.lookup ("self" : Str) = some .local) (nval : scope.names.lookup ("value" : Str) = some .local) (nsup : scope.names.lookup ("super" : Str) = some .globalImplicit) (ncls : scope.names.lookup ("__class__" : Str) = some .free) (nfree : ∀ y, scope.names.lookup y = some .free → y = ("__class__" : Str)) :
    ∃ T : InitH P K mg (He.fAd K atI), T.params = params ∧ T.dV = .none ∧ T.K2 = K2 ∧ PySem.W.typeIn K (.ref (He.fAd K atI)) = some (.type "function") := by
  unfold initB at b
  simp only [Bool.and_eq_true, decide_eq_true_eq] at b
  obtain ⟨b1, b2, b3, bd, b5⟩ := b
  unfold dvNone at bd
  unfold He.fnW at e
  cases hl : K.lookup (He.fAd K atI) with
  | none => rw [hl] at e; cases e
  | some o =>
    obtain ⟨oc, od, dt, osl⟩ := o
    rw [hl] at e b1 bd
    cases dt with
    | func fd =>
      obtain ⟨f1, f2, f3, f4, f5, f6, f7, f8, f9, f10, f11, f12, f13, f14, f15⟩ := fd
      simp only [initV, Option.some.injEq, Prod.mk.injEq] at e
      simp only at b1 bd
      have hdv : f8 = Value.none := by
        cases f8 <;> first | rfl | cases bd
      subst hdv
      split at b1
      · rename_i _ cda
        simp only [Bool.and_eq_true] at b1
        obtain ⟨b6, b7⟩ := b1
        obtain ⟨rfl, rfl, rfl, rfl, rfl, rfl, rfl, rfl⟩ := e
        subst hbd
        split at b7
        · rename_i ccl cdd vs ccs hlc
          split at b7
          · rename_i file tf hvs
            split at b2
            · rename_i cl cld bb csl hlk
              have hb := eq_of_beq b2
              subst hb
              obtain ⟨cdD, hD⟩ := Option.isSome_iff_exists.mp b3
              exact ⟨⟨oc, od, osl, _, _, _, _, _, _, _, cda, _, CC, p0, p1, p2, p3, p4, p5, p6, p7, p8, p9, hln, hl, b6, ccl, cdd, vs, ccs, file, tf, hlc, hvs, b7, cl, cld, csl, hlk, cdD, hD, hsup, K2, b4, htop, ar, hpar, har, kind, co, gen, cell, nself, nval, nsup, ncls, nfree⟩, rfl, rfl, rfl, b5⟩
            · cases b2
          · cases b7
        · cases b7
      · cases b1
    | _ => cases e
end L3

set_option maxHeartbeats 2000000
/-! L4M: defs that make closures; calls with keywords; the hook for errors. -/
namespace L3
open PySem PySem.Spec PyProof.Rows L2
abbrev isM (X : Cx) (kk : Nat) (tab : Nat → Nat × FEX) : Nat → Obj → Prop := fun j o => LamOk X kk o (tab j).1 (tab j).2
/-- a def that makes closures -/
theorem fn3M {P : Program} {w : World} {K : PySem.W.Frag} {mg : Str → Option Value} {base : Heap} {x qual : Str} {st : Stmt} {f : Addr} {fd : FuncData} {N ps : List Str} {k n : Nat} {m : FM} {g : (Nat → Obj → Prop) → FS} (kk : Nat) (tab : Nat → Nat × FEX)
    (F : Fun K x qual st f fd) (S : FnScope N ps (defScope st)) (hn : ps.length = n) (hp : ∀ ds c Q, m ds c Q → ∀ is, runM N.length (g is) ds c Q)
    (hbody : ∀ (cdv : Value) (A : Around) (outer : List Env) (s : Shared) (H : Hp) (E : XK), fd.code = cdv → Room k (A.deeper (envOfC qual (defScope st) s.heap.objs.size f cdv)) →
      BX (cxOf CX0 P w K mg base N qual (defScope st) f cdv A outer s H E).nox (defBody st) (g (isM (cxOf CX0 P w K mg base N qual (defScope st) f cdv A outer s H E).nox kk tab))) : FnOk P w K mg base CX0 (k + 1) f fd ps (spM K n m) := by
  refine Fun.ok3 F S (fun vs H Q E h => h.1.trans hn.symm) fun cdv A outer s H vs Q E hcd hr ⟨hl, p, c, F1, ds, Q', ok, r, h, t⟩ => ?_
  refine ⟨_, (hbody cdv A outer s H E hcd hr).nox, p, c, start3 N.length ds, F1, F1, H, _, start_ok ok r, hp ds c Q' h _, fun c ρ σ F' H' s q => ?_, fun _ _ _ _ _ _ q => q.elim, fun _ _ _ _ _ _ q => q.elim, t⟩
  exact t .non c .non F' H' s.ent s.ok rfl q
theorem tabB_up {base B : Heap} {mg : Str → Option Value} {c P : Addr} (T : LamX.TabB base mg c P) (k : ∀ b o, base.get? b = some o → B.get? b = some o) : LamX.TabB B mg c P := ⟨T.code.keeps k, T.bm.keeps k, T.gP⟩
/-! keywords -/
/-- how a call with keywords binds: first those by place, then those by name, in the parameters' sequence -/
def KwOk (K : PySem.W.Frag) (fd : FuncData) (ps ks : List Str) : Prop := ∀ (s : Shared) (us ws : List Value), K.In s.heap → us.length + ws.length = ps.length → ws.length = ks.length → BindsTo s fd ⟨us, ks.zip ws⟩ (ps.zip (us ++ ws))
theorem KwOk.all {K : PySem.W.Frag} {fd : FuncData} {ps ks : List Str} (h : ∀ us ws : List Value, us.length + ws.length = ps.length → ws.length = ks.length → bindArgs fd ⟨us, ks.zip ws⟩ = pure (ps.zip (us ++ ws))) : KwOk K fd ps ks := fun s us ws _ h1 h2 => .of_eq (h us ws h1 h2)
abbrev KWX (X : Cx) (kws : List Keyword) (fr : FA) : Prop := PK X kws (tAr X.K fr)
theorem PK.imp {X : Cx} {kws : List Keyword} {t t' : TA} (h : PK X kws t) (w : ∀ σ H Q, t' σ H Q → t σ H Q) : PK X kws t' := ⟨fun pos pins s σ H Q I q => h.run pos pins s σ H Q I (w σ H Q q)⟩
section
variable {X : Cx} {e : Expr} {es : List Expr} {kws : List Keyword} {fa : FE} {fr fk : FA} {kpos pos : Pos} {nm : Option Str}
theorem kx_nil : KWX X [] aNil := PK.imp pk_nil fun σ H Q ⟨p, c, ρ, F, Q', es, h, t⟩ => t [] c [] F H (.refl ..) es.ok rfl h
theorem kx_cons (ha : EX X e fa) (hr : KWX X kws fr) : KWX X (⟨nm, e, kpos⟩ :: kws) (aCons fa fr) := PK.imp (pk_cons ha hr) fun σ H Q ⟨p, c, ρ, F, Q', es, h, t⟩ =>
  ⟨p, c, ρ, F, _, es, h, fun d c1 v F1 H1 w1 ok1 r1 q1 => ⟨p, c1, ρ, F1, _, es.fwd w1 ok1, q1, fun l c2 vs F2 H2 w2 ok2 r2 q2 => t (d :: l) c2 (v :: vs) F2 H2 (w1.trans w2) ok2 ⟨v, vs, rfl, r1.mono w2.frz, r2⟩ q2⟩⟩
@[simp ↓] def eCallK (kn : Nat) (m : FM) (fr fk : FA) : FE := fun ρ c Q => fr ρ c fun l c => fk ρ c fun l2 c => l2.length = kn ∧ m (l ++ l2) c Q
@[simp ↓] def yCallK (kn : Nat) (m : FMX) (fr fk : FA) : FEX := fun ρ c Q QX => fr ρ c fun l c => fk ρ c fun l2 c => l2.length = kn ∧ m (l ++ l2) c Q QX
variable {CX : CXT} {k n : Nat} {f : Addr} {fd : FuncData} {ps ks : List Str} {x : Str} {p1 : Pos}
theorem RepL.two_ap {K : PySem.W.Frag} {p : Pn} {F : Hp} : ∀ {l : List D} {xs : List V} {l2 : List D} {ys : List V}, RepL K p F l xs → RepL K p F l2 ys → RepL K p F (l ++ l2) (xs ++ ys)
  | [], _, _, _, h, h2 => by cases h; exact h2
  | d :: l, _, _, _, h, h2 => by
    obtain ⟨x, r, rfl, a, b⟩ := h
    exact ⟨x, _, rfl, a, RepL.two_ap b h2⟩
/-- f(e, .., k = v, ..), f raises nothing here -/
theorem ex_callK {m : FM} {E : XK} (G : FnOk X.prog X.w X.K X.mg X.base CX k f fd ps (spM X.K n m)) (hr : Room k X.A) (hm : X.mg x = some (.ref f)) (hk : PySem.W.keepIn X.K (.ref f) = true) (hb : KwOk X.K fd ps ks) (hn : ps.length = n) (ha : AX X (e :: es) fr) (hkw : KWX X kws fk) (hx : Passes CX X E) (hks : (backToKw pos (keywordEach kws X.env)).filterMap (·.1) = ks := by rfl) (hkl : ks.length = kws.length := by rfl)
    (hall : (backToKw pos (keywordEach kws X.env)).all (·.1.isSome) = true := by rfl) (hg : Gl X x := by rfl) (hdb : (x == ("__debug__" : Str)) = false := by decide) (he : starEach (e :: es) X.env = (false, eval e X.env) :: starEach es X.env := by rfl)
    (hpl : ((backTo pos (starEach (e :: es) X.env)).any (·.1) || (backToKw pos (keywordEach kws X.env)).any (·.1.isNone)) = false := by rfl) (hl : ∀ l c Q, m l c Q → l.length = n) : EX X (.Call (.Name x p1) (e :: es) kws pos) (eCallK ks.length m fr fk) := by
  refine ⟨fun pins s σ H Q I ⟨p, c0, ρ, F, Q', est, hq, t⟩ => ?_⟩
  refine wpAny_Call_Name_kw (ld_glob I hg hm ?_ hdb)
  refine PySem.W.callWith_KW (h₀ := X.base) I.ok.mod.kin hk hall (thn (ha.run pos pins s σ H (fun vs H1 => ∃ l c1 F1, Fwd p F H F1 H1 ∧ Ok3 p c1 F1 H1 ∧ RepL X.K p F1 l vs ∧ fk ρ c1 fun l2 c => l2.length = ks.length ∧ m (l ++ l2) c Q') I ⟨p, c0, ρ, F, _, est, hq, fun l c1 vs F1 H1 w1 ok1 r1 q1 => ⟨l, c1, F1, w1, ok1, r1, q1⟩⟩) fun us s1 ⟨vs, H1, I1, rv, l, c1, F1, w1, ok1, rl, q1⟩ => ?_) hpl he
  refine thn (hkw.run pos pins s1 σ H1 (fun zs H2 => ∃ l2 c2 F2, Fwd p F1 H1 F2 H2 ∧ Ok3 p c2 F2 H2 ∧ RepL X.K p F2 l2 zs ∧ l2.length = ks.length ∧ m (l ++ l2) c2 Q') I1 ⟨p, c1, ρ, F1, _, est.fwd w1 ok1, q1, fun l2 c2 zs F2 H2 w2 ok2 r2 q2 => ⟨l2, c2, F2, w2, ok2, r2, q2⟩⟩) fun ws s2 ⟨zs, H2, I2, rz, l2, c2, F2, w2, ok2, rl2, hz, q2⟩ => ⟨I2.kIn, ?_⟩
  rw [hks]
  have hlen := hl _ _ _ q2
  have rall := RepL.two_ap (rl.mono w2.frz) rl2
  have e1 : us.length + ws.length = ps.length := by rw [hn, ← hlen, List.length_append, ← rv.length, ← rz.length, rl.len, rl2.len]
  exact of_ran (args := ⟨us, ks.zip ws⟩) (ran G hr hx I2 (hb s2 us ws I2.kIn e1 (by rw [← rz.length, rl2.len, hz])) (rv.append rz) ⟨by rw [rall.len]; exact hlen, p, c2, F2, l ++ l2, Q', ok2, rall, q2, t.fwd (w1.trans w2)⟩)
/-- f(k = v, ..), f raises nothing here -/
theorem ex_callK0 {m : FM} {E : XK} (G : FnOk X.prog X.w X.K X.mg X.base CX k f fd ps (spM X.K n m)) (hr : Room k X.A) (hm : X.mg x = some (.ref f)) (hk : PySem.W.keepIn X.K (.ref f) = true) (hb : KwOk X.K fd ps ks) (hn : ps.length = n) (hkw : KWX X kws fk) (hx : Passes CX X E) (hks : (backToKw pos (keywordEach kws X.env)).filterMap (·.1) = ks := by rfl) (hkl : ks.length = kws.length := by rfl)
    (hall : (backToKw pos (keywordEach kws X.env)).all (·.1.isSome) = true := by rfl) (hg : Gl X x := by rfl) (hdb : (x == ("__debug__" : Str)) = false := by decide)
    (hpl : ((backTo pos (starEach [] X.env)).any (·.1) || (backToKw pos (keywordEach kws X.env)).any (·.1.isNone)) = false := by rfl) (hl : ∀ l c Q, m l c Q → l.length = n) : EX X (.Call (.Name x p1) [] kws pos) (eCallK ks.length m aNil fk) := by
  refine ⟨fun pins s σ H Q I ⟨p, c0, ρ, F, Q', est, hq, t⟩ => ?_⟩
  refine wpAny_Call_Name_kw (ld_glob I hg hm ?_ hdb)
  refine PySem.W.callWith_KW0 (h₀ := X.base) I.ok.mod.kin hk hall ?_ hpl
  refine thn (hkw.run pos pins s σ H (fun zs H2 => ∃ l2 c2 F2, Fwd p F H F2 H2 ∧ Ok3 p c2 F2 H2 ∧ RepL X.K p F2 l2 zs ∧ l2.length = ks.length ∧ m ([] ++ l2) c2 Q') I ⟨p, c0, ρ, F, _, est, hq, fun l2 c2 zs F2 H2 w2 ok2 r2 q2 => ⟨l2, c2, F2, w2, ok2, r2, q2⟩⟩) fun ws s2 ⟨zs, H2, I2, rz, l2, c2, F2, w2, ok2, rl2, hz, q2⟩ => ⟨I2.kIn, ?_⟩
  rw [hks]
  have hlen := hl _ _ _ q2
  have e1 : ([] : List Value).length + ws.length = ps.length := by rw [hn, ← hlen, List.length_append, ← rz.length, rl2.len]; rfl
  exact of_ran (args := ⟨[], ks.zip ws⟩) (ran G hr hx I2 (hb s2 [] ws I2.kIn e1 (by rw [← rz.length, rl2.len, hz])) rz ⟨by rw [rl2.len]; exact hlen, p, c2, F2, l2, Q', ok2, rl2, q2, t.fwd w2⟩)
end
end L3

set_option maxHeartbeats 2000000
/-! L4O: the hook that tells BindError's __init__, too; errors' facts put together. -/
namespace L3
open PySem PySem.Spec PyProof.Rows L2
def isDic (o : Obj) : Bool := match o.data with
  | .dict _ _ => true
  | _ => false
def opq (g : Addr → Option Obj) : Bool := match g cStatics with
  | some o => isDic o && decide (PySem.W.nsIn [(cStatics, o)] cStatics "thirdparty.any" = some none)
  | none => false
def Opq (h : Heap) : Prop := ∃ K2 : PySem.W.Frag, K2.In h ∧ (∀ b o, K2.lookup b = some o → ∃ es ep, o.data = .dict es ep) ∧ PySem.W.nsIn K2 cStatics "thirdparty.any" = some none
theorem opq_ok {h : Heap} (e : opq h.get? = true) : Opq h := by
  unfold opq at e
  split at e
  · rename_i o ho
    obtain ⟨e1, e2⟩ := Bool.and_eq_true_iff.mp e
    have one : ∀ b u, List.lookup b [(cStatics, o)] = some u → b = cStatics ∧ u = o := fun b u q => by
      unfold List.lookup at q
      split at q
      · rename_i hb
        cases q
        exact ⟨eq_of_beq hb, rfl⟩
      · cases q
    refine ⟨[(cStatics, o)], fun b u q => ?_, fun b u q => ?_, of_decide_eq_true e2⟩
    · obtain ⟨rfl, rfl⟩ := one b u q
      exact ho
    · obtain ⟨rfl, rfl⟩ := one b u q
      unfold isDic at e1
      split at e1
      · rename_i es ep hd
        exact ⟨es, ep, hd⟩
      · cases e1
  · cases e
def hookE (n : Nat) (fa : List He.Fa) (fn : List He.DefD) (tf : List He.Defn) (ex : PySem.W.Frag → Bool) (v : He.FnW) : PySem.W.Hook where
  α := He.AlX × He.FnW × Bool
  obs := fun s => (He.obsX n fa fn [] tf ex s.heap.get?, He.fnW (He.frT s.heap.get? (He.asD s.heap.get? n)) atI, opq s.heap.get?)
  val := fun w => (He.valX fn [] w, v, true)
  says := fun w h => ∃ K : PySem.W.Frag, K.In h ∧ He.SaysX fa fn [] tf ex w h K ∧ He.fnW K atI = v ∧ Opq h
  of := fun _ _ e => ⟨_, He.frT_in, He.saysX_of (congrArg (fun z : He.AlX × He.FnW × Bool => z.1) e), congrArg (fun z : He.AlX × He.FnW × Bool => z.2.1) e, opq_ok (congrArg (fun z : He.AlX × He.FnW × Bool => z.2.2) e)⟩
  keeps := fun _ _ _ ⟨K, hK, c, d, K2, a, a2, b⟩ k => ⟨K, PySem.W.Frag.In.keeps hK k, ⟨c.t, c.more, c.hd, c.out, fun p hp => k _ _ (c.empty p hp)⟩, d, K2, PySem.W.Frag.In.keeps a k, a2, b⟩
abbrev obE (n : Nat) (fa : List He.Fa) (fn : List He.DefD) (tf : List He.Defn) (ex : PySem.W.Frag → Bool) (g : Addr → Option Obj) : He.AlX × He.FnW × Bool := (He.obsX n fa fn [] tf ex g, He.fnW (He.frT g (He.asD g n)) atI, opq g)
theorem obE_eq {n : Nat} {fa : List He.Fa} {fn : List He.DefD} {tf : List He.Defn} {ex : PySem.W.Frag → Bool} {v : He.FnW} {g : Addr → Option Obj} {s : Shared} (h : ∀ a, g a = s.heap.get? a) : obE n fa fn tf ex g = (hookE n fa fn tf ex v).obs s := by
  have e : g = s.heap.get? := funext h
  rw [e] <;> rfl
/-- all that is known of one error class -/
structure Err1 (K : PySem.W.Frag) (mg : Str → Option Value) (n : Str) : Prop where
  c : ErrC K mg n (He.fAd K atI)
  f : ErrF K n
  x : PySem.W.exmOne K (.ref (He.ga K n)) (.ref (He.ga K "BindError")) = some true
theorem err1_ok {K : PySem.W.Frag} {mg : Str → Option Value} {n : Str} (q : errB K n = true) (g : mg n = some (.ref (He.ga K n))) : Err1 K mg n := let ⟨a, b, c⟩ := errB_ok q g; ⟨a, b, c⟩
theorem errs_all {K : PySem.W.Frag} {mg : Str → Option Value} : ∀ {errs : List Str}, (∀ n ∈ errs, Err1 K mg n) → ∀ m, errs.contains m = true → Err1 K mg m := fun h m e => h m (by simpa using e)
theorem Fun.kw {K : PySem.W.Frag} {x qual : Str} {st : Stmt} {f : Addr} {fd : FuncData} {ps ks : List Str} (F : Fun K x qual st f fd)
    (h : ∀ (kV doc pm : Value) (an : Option Addr) (cdv ct : Value) (us ws : List Value), us.length + ws.length = ps.length → ws.length = ks.length → bindArgs (PySem.W.fnOf x qual (defArgs st) (defBody st) (defScope st) .none kV doc pm an cdv ct) ⟨us, ks.zip ws⟩ = pure (ps.zip (us ++ ws))) : KwOk K fd ps ks := by
  obtain ⟨oc, od, kV, doc, pm, an, cdv, ct, osl, rfl, lk, hcd⟩ := F.ex
  exact KwOk.all (h kV doc pm an cdv ct)
end L3

set_option maxHeartbeats 2000000
/-! L4P: dict displays as data, str of an int, slices of texts, upper. -/
namespace L3
open PySem PySem.Spec PyProof.Rows L2
section
variable {X : Cx} {e : Expr} {es : List Expr} {fe : FE} {pos p2 : Pos}
theorem ex_dct0 : EX X (.Dict [] [] pos) (eC (.dct (.k []) [])) := PE.imp pe_dnewK fun σ H Q ⟨p, c, ρ, F, Q', es, h, t⟩ q nq => by
  obtain ⟨w, ok⟩ := Fwd.laid es.ok nq (.dK []) (fun _ z => nomatch z)
  exact t (.dct (.k []) []) c (.ref q) _ _ w ok ⟨q, _, [], rfl, upd_same, ⟨[], rfl, rfl, rfl⟩, rfl⟩ h
/-- {'a': 1} -/
theorem ex_dct1 {x : Str} {i : Int} {j1 j2 : Nat} {pk pv : Pos} : EX X (.Dict [some (.Constant (.str x) j1 pk)] [.Constant (.int i) j2 pv] pos) (eC (.dct (.k [.inr x]) [.int i])) :=
  PE.imp (pe_disp (pps_cons pe_str pe_int pps_nil) rfl rfl (by simp) (by simp)) fun σ H Q ⟨p, c, ρ, F, Q', es, h, t⟩ q nq => by
    obtain ⟨w, ok⟩ := Fwd.laid es.ok nq (.dK [(.inr x, .int i)]) (fun _ z => nomatch z)
    refine ⟨upd_same, [(.inr x, .int i)], rfl, by simp, ?_⟩
    rw [upd_upd]
    exact t (.dct (.k [.inr x]) [.int i]) c (.ref q) _ _ w ok ⟨q, _, [.int i], rfl, upd_same, ⟨[(.inr x, .int i)], rfl, rfl, rfl⟩, ⟨_, _, rfl, rfl, rfl⟩⟩ h
@[simp ↓] def strIM : FM := fun l c Q => match l with
  | [.int i] => i.natAbs.log2 < 1920 ∧ Q (.str (toString i : String)) c
  | _ => False
theorem strIS {K : PySem.W.Frag} : CallS K (fun xs H Q => ∃ i, xs = [V.int i] ∧ i.natAbs.log2 < 1920 ∧ Q (.str (toString i : String)) H) strIM := by
  intro p c F H l vs Q' Q ok r h t
  unfold strIM at h
  split at h
  · rename_i i
    obtain ⟨v, rfl, r1⟩ := r.one
    cases r1
    exact ⟨i, rfl, h.1, t (.str (toString i : String)) c _ F H (Fwd.refl ..) ok rfl h.2⟩
  · exact h.elim
@[simp ↓] def eSlS (fe : FE) (lo hi : FO) : FE := fun ρ c Q => fe ρ c fun x c => lo ρ c fun a c => hi ρ c fun b c => match x with | .str z => z.length ≤ 16777216 ∧ Q (.str (cutS z a b)) c | _ => False
theorem ex_slS {lo hi : Option Expr} {fl fh : FO} (ha : EX X e fe) (hl : OX X lo fl) (hh : OX X hi fh) : EX X (.Subscript e (.Slice lo hi none p2) pos) (eSlS fe fl fh) := by
  obtain ⟨tl, pl, kl⟩ := hl.ex
  obtain ⟨th, ph, kh⟩ := hh.ex
  refine PE.imp (pe_slice sl_str ha pl ph) fun σ H Q ⟨p, c, ρ, F, Q', es, h, t⟩ => ⟨p, c, ρ, F, _, es, h, fun x c1 v F1 H1 w1 ok1 r1 q1 => ?_⟩
  refine kl σ H1 p c1 ρ F1 _ _ (es.fwd w1 ok1) q1 fun i c2 F2 H2 w2 ok2 q2 => ?_
  have w12 := w1.trans w2
  refine kh σ H2 p c2 ρ F2 _ _ (es.fwd w12 ok2) q2 fun j c3 F3 H3 w3 ok3 q3 => ?_
  have w13 := w12.trans w3
  split at q3
  · rename_i z
    cases r1
    exact ⟨z, rfl, by rw [sizeLine_eq]; exact q3.1, t (.str (cutS z i j)) c3 _ F3 H3 w13 ok3 rfl q3.2⟩
  · exact q3.elim
@[simp ↓] def upperD : D → Nat → KD → Prop
  | .str z, c, Q => z.length ≤ 5592405 ∧ Q (.str (Txt.upper z)) c
  | _, _, _ => False
theorem ex_upper {p1 : Pos} (he : EX X e fe) (hbase : attributeBase e "upper" X.env (eval e X.env) = eval e X.env := by rfl) (hline : (p1.endLine == p2.line) = true := by rfl) : EX X (.Call (.Attribute e "upper" p1) [] [] p2) (eUn upperD fe) := by
  refine ⟨fun pins s σ H Q I ⟨p, c, ρ, F, Q', es, h, t⟩ => ?_⟩
  refine J1.ev_upper hbase hline (thn (he.run pins s σ H (fun v H1 => ∃ d c1 F1, Fwd p F H F1 H1 ∧ Ok3 p c1 F1 H1 ∧ Rep X.K p F1 d v ∧ upperD d c1 Q') I ⟨p, c, ρ, F, _, es, h, fun d c1 v F1 H1 w1 ok1 r1 q1 => ⟨d, c1, F1, w1, ok1, r1, q1⟩⟩) fun u s1 ⟨v, H1, I1, r, d, c1, F1, w1, ok1, r1, q1⟩ => ?_)
  unfold upperD at q1
  split at q1
  · rename_i z
    cases r1
    obtain ⟨tz, rfl⟩ := r
    exact ⟨z, tz, rfl, q1.1, fun t' k => ⟨.str _, H1, I1.tok _, ⟨_, rfl⟩, t (.str (Txt.upper z)) c1 _ F1 H1 w1 ok1 rfl q1.2⟩⟩
  · exact q1.elim
end
end L3

set_option maxHeartbeats 2000000
/-! L4Q: a tuple times an int of any size that is not below 0. -/
namespace L3
open PySem PySem.Spec PyProof.Rows L2
theorem tuple_mul0 (l : Addr) (items : Array Value) (n : Nat) (dd : Option Addr) (sl : Array (Option Value)) (x : Int) (u : Tok) (c0 : (decide (x < -(2 ^ 63)) || decide (x ≥ 2 ^ 63)) = false) (c1 : (items.isEmpty || x == 1) = false) (c2 : (decide (x ≤ 0) || items.isEmpty) = true) :
    Meets (Builtin.«tuple.__mul__» ⟨[.ref l, .int x u], []⟩) (fun _ R s => s.heap.get? l = some { cls := .type "tuple", dict := dd, data := .seq items n, slots := sl } ∧
      R (.ok (.ret (Value.ref s.heap.objs.size))) { s with heap := s.heap.push { cls := Value.type "tuple", data := Data.seq #[] }, toks := s.toks }) :=
  .of_wp fun prog w A R s h => by
    obtain ⟨hp, g, d, tk, os⟩ := s
    obtain ⟨hl, h⟩ := h
    have f1 := AutoSeq1.idx_int
    wp_walk using wpAny_loadPart' hl
    repeat (first
      | (refine wpAny_ite_false (decide_eq_false (by rw [c0]; exact Bool.false_ne_true)) ?_; wp_walk using wpAny_loadPart' hl)
      | (refine wpAny_ite_false (decide_eq_false (by rw [c1]; exact Bool.false_ne_true)) ?_; wp_walk using wpAny_loadPart' hl)
      | (refine wpAny_ite_true (decide_eq_true c2) ?_; wp_walk using wpAny_loadPart' hl))
    exact ⟨_, rfl, h⟩
theorem tuple_mul1 (l : Addr) (items : Array Value) (n : Nat) (dd : Option Addr) (sl : Array (Option Value)) (x : Int) (u : Tok) (c0 : (decide (x < -(2 ^ 63)) || decide (x ≥ 2 ^ 63)) = false) (c1 : (items.isEmpty || x == 1) = true) :
    Meets (Builtin.«tuple.__mul__» ⟨[.ref l, .int x u], []⟩) (fun _ R s => s.heap.get? l = some { cls := .type "tuple", dict := dd, data := .seq items n, slots := sl } ∧ R (.ok (.ret (Value.ref l))) s) :=
  .of_wp fun prog w A R s h => by
    obtain ⟨hp, g, d, tk, os⟩ := s
    obtain ⟨hl, h⟩ := h
    have f1 := AutoSeq1.idx_int
    wp_walk using wpAny_loadPart' hl
    repeat (first
      | (refine wpAny_ite_false (decide_eq_false (by rw [c0]; exact Bool.false_ne_true)) ?_; wp_walk using wpAny_loadPart' hl)
      | (refine wpAny_ite_true (decide_eq_true c1) ?_; wp_walk using wpAny_loadPart' hl))
    exact ⟨_, rfl, h⟩
def rMulT (K : PySem.W.Frag) : R2 := fun x y H Q => ∃ l k xs, x = .ref l ∧ y = .int k ∧ SqT K H l xs ∧ xs ≠ [] ∧ 0 ≤ k ∧ k ≤ 1000 ∧ xs.length ≤ 1000 ∧ (k = 1 → Q (.ref l) H) ∧ (k ≠ 1 → ∀ p, H p = none → Q (.ref p) (upd H p (.tup (List.replicate k.toNat xs).flatten)))
section
variable {X : Cx} {a b : Expr} {fa fb : FE} {pos : Pos}
theorem op_mulT : OpR X (binaryOp .Mult) (rMulT X.K) := by
  intro pins s σ H x y v u Q I rx ry h
  obtain ⟨l, k, xs, rfl, rfl, hT, hne, h1, h2, hz, q1, q2⟩ := h
  by_cases k2 : 2 ≤ k
  · exact op_repT pins s σ H _ _ v u Q I rx ry ⟨l, k, xs, rfl, rfl, hT, hne, k2, h2, hz, q2 (by omega)⟩
  · cases rx
    obtain ⟨t, rfl⟩ := ry
    obtain ⟨its, r, ⟨⟨cls, dd, data, sl⟩, ho, hc, n, hd⟩, hs⟩ := I.tuple hT
    simp only at hc hd
    subst hc hd
    have ne : its.toArray.isEmpty = false := by
      cases its with
      | nil => cases r; exact absurd rfl hne
      | cons a b => rfl
    have c0 : (decide (k < -(2 ^ 63)) || decide (k ≥ 2 ^ 63)) = false := by rw [decide_eq_false (by omega), decide_eq_false (by omega)] <;> rfl
    by_cases k1 : k = 1
    · have c1 : (its.toArray.isEmpty || k == 1) = true := by rw [k1]; simp
      refine wpAny_binaryOp_repeat_ref (T := "tuple") (U := "int") (by decide) ⟨_, ho, rfl⟩ (fun s' => typeIs_int s' k t) noFill_tuple_mul F.fills_int_mul F.slot_int_rmul repeat_tuple F.slot_int_index.lookup
        (call_meets F.slot_int_rmul (typeIs_int s k t) F.entry_int_rmul (F.args_int_rmul_2 _ _) (int_rmul_tuple k t l its.toArray n dd sl) ⟨ho, rfl, ⟨_, ho, rfl⟩, call_meets F.slot_tuple_mul ⟨_, ho, rfl⟩ F.entry_tuple_mul (F.args_tuple_mul_2 _ _) (tuple_mul1 l its.toArray n dd sl k t c0 c1) ⟨ho, ?_⟩⟩)
      exact ⟨.ref l, H, I, rfl, q1 k1⟩
    · have c1 : (its.toArray.isEmpty || k == 1) = false := by rw [ne, Bool.false_or]; exact beq_eq_false_iff_ne.mpr k1
      have k0 : k = 0 := by omega
      have c2 : (decide (k ≤ 0) || its.toArray.isEmpty) = true := by rw [decide_eq_true (by omega)]; rfl
      refine wpAny_binaryOp_repeat_ref (T := "tuple") (U := "int") (by decide) ⟨_, ho, rfl⟩ (fun s' => typeIs_int s' k t) noFill_tuple_mul F.fills_int_mul F.slot_int_rmul repeat_tuple F.slot_int_index.lookup
        (call_meets F.slot_int_rmul (typeIs_int s k t) F.entry_int_rmul (F.args_int_rmul_2 _ _) (int_rmul_tuple k t l its.toArray n dd sl) ⟨ho, rfl, ⟨_, ho, rfl⟩, call_meets F.slot_tuple_mul ⟨_, ho, rfl⟩ F.entry_tuple_mul (F.args_tuple_mul_2 _ _) (tuple_mul0 l its.toArray n dd sl k t c0 c1 c2) ⟨ho, ?_⟩⟩)
      have hq := q2 k1 s.heap.objs.size (I.hok.fresh (Nat.le_refl _))
      rw [k0] at hq
      exact ⟨.ref s.heap.objs.size, _, I.laid (t' := s.toks) (o := .tup []) (fun b ob q => Heap.get?_push_of_some _ q) (Nat.le_refl _) ⟨Nat.zero_le _, [], .nil, IsTup.new _ _⟩, rfl, hq⟩
@[simp ↓] def mulTD : D → D → Nat → KD → Prop
  | .tup l, .int k, c, Q => (l ≠ [] ∧ 0 ≤ k ∧ k ≤ 1000 ∧ l.length ≤ 1000) ∧ Q (.tup (List.replicate k.toNat l).flatten) c
  | _, _, _, _ => False
theorem mulTS {K : PySem.W.Frag} : OpS K (rMulT K) mulTD := by
  intro p c F H x y v u Q' Q ok rx ry h t
  unfold mulTD at h
  split at h
  · rename_i l k
    obtain ⟨a, xs, rfl, h1, r1⟩ := rx
    cases (show u = .int k from ry)
    obtain ⟨⟨k0, k1, k2, k3⟩, q⟩ := h
    refine ⟨a, k, xs, rfl, rfl, ok.sqT h1, fun z => k0 (by rw [z] at r1; exact List.eq_nil_of_length_eq_zero r1.len.symm), k1, k2, by rw [r1.len]; exact k3, fun e => ?_, fun _ => tellNewT ok t (r1.rep _) q⟩
    rw [e] at q
    have e1 : (List.replicate (1 : Int).toNat l).flatten = l := by simp
    rw [e1] at q
    exact t (.tup l) c (.ref a) F H (Fwd.refl ..) ok ⟨a, xs, rfl, h1, r1⟩ q
  · exact h.elim
theorem ex_mulT (ha : EX X a fa) (hb : EX X b fb) : EX X (.BinOp a .Mult b pos) (eOp mulTD fa fb) := ex_op op_mulT mulTS ha hb
end
end L3

set_option maxHeartbeats 2000000
/-! L4R: sorted of a tuple of ints; sorted of a list of data, the sequence told. -/
namespace L3
open PySem PySem.Spec PyProof.Rows L2
section
variable {K : PySem.W.Frag} {X : Cx} {e : Expr} {fa : FE} {pos : Pos}
abbrev srtI (ns : List Int) : List Int := ns.mergeSort fun a b => decide (a ≤ b)
def rSortTI (K : PySem.W.Frag) : List V → Hp → VK → Prop := fun vs H Q => ∃ (a : Addr) (ns : List Int), vs = [V.ref a] ∧ SqT K H a (ns.map V.int) ∧ ns.length ≤ 16777216 ∧ ∀ p : Addr, H p = none → Q (.ref p) (upd H p (.lst ((srtI ns).map V.int)))
theorem eachI : ∀ {ns : List Int} {us : List Value}, Vals (ns.map V.int) us → PySem.W.EachIs (fun v (n : Int) => RelV (V.int n) v) us ns
  | [], _, .nil => .nil
  | b :: bs, _, .cons r t => .cons r (eachI t)
theorem valsI : ∀ {ns : List Int} {us : List Value}, PySem.W.EachIs (fun v (n : Int) => RelV (V.int n) v) us ns → Vals (ns.map V.int) us
  | [], _, .nil => .nil
  | b :: bs, _, .cons r t => .cons r (valsI t)
theorem cr_sortTI (hu : X.A.units + 66 < cLine) : CallR X (.builtin "sorted") (rSortTI X.K) := by
  intro pins s σ H vs us Q I r h
  obtain ⟨a, ns, rfl, hs, hlen, q⟩ := h
  obtain ⟨its, rv, hl, _⟩ := I.tuple hs
  rw [Vals.ref1 r]
  have e := eachI rv
  have er : PySem.W.EachIs (fun v (n : Int) => ∃ as, Reads s.heap v (PyData.int n) as) its ns := PySem.W.EachIs.of_zip e.length fun p hp => by
    obtain ⟨k, hk⟩ := e.zip p hp
    rw [hk]
    exact ⟨_, Reads.int _ k⟩
  refine L4.sorted_data_tup (enc := fun n : Int => PyData.int n) hl e er (PySem.W.AllAlike.of fun a b => rfl) (PySem.W.Sortable.others fun b => ⟨nofun, fun _ => nofun⟩) (by rw [line16]; exact hlen) (fun b hb => by show _ + 2 + PyData.depth (PyData.int b) < cLine; rw [show PyData.depth (PyData.int b) = 0 from rfl]; omega) fun out ho eo => ?_
  obtain ⟨ep, he'⟩ := PyProof.Rows.sortedAll_at s.heap its out.toArray
  rw [PySem.W.dataLe_int] at eo
  refine ⟨.ref _, upd H (s.heap.objs.size + 1) (.lst ((srtI ns).map V.int)), I.laid (t' := s.toks) (fun _ _ => PyProof.Rows.sortedAll_old) (Nat.le_succ _) ⟨by rw [List.length_map, (List.mergeSort_perm _ _).length_eq, line16]; exact hlen, out, ep, valsI eo, he'⟩, rfl, q _ (I.hok.fresh (Nat.le_succ _))⟩
@[simp ↓] def fSortedT (fa : FE) : FL := fun ρ c Q => fa ρ c fun x c => match x with
  | .tup l => ∃ ns, intsOf l = some ns ∧ ns.length ≤ 16777216 ∧ Q ((srtI ns).map .int) c
  | _ => False
theorem fx_sortedT (hu : X.A.units + 66 < cLine) (hm : X.mg "sorted" = none) (ha : EX X e fa) (hg : Gl X "sorted" := by rfl) (hs : starEach [e] X.env = (false, eval e X.env) :: starEach [] X.env := by rfl) {p : Pos} :
    FX X (.Call (.Name "sorted" p) [e] [] pos) (fSortedT fa) := PE.imp (pe_callB (cr_sortTI hu) hg hm (by decide +kernel) (pa_cons ha pa_nil hs) (by decide) (by decide) hs rfl) fun σ H Q ⟨p, c, ρ, F, Q', es, h, t⟩ =>
  ⟨p, c, ρ, F, _, es, h, fun d c1 v F1 H1 w1 ok1 r1 q1 => by
    split at q1
    · obtain ⟨a, xs, rfl, h1, rl⟩ := r1
      obtain ⟨ns, e1, e2, q1⟩ := q1
      refine ⟨a, ns, rfl, by rw [← RepL.ints rl e1]; exact ok1.sqT h1, e2, fun q nq => ?_⟩
      obtain ⟨w, ok, n1, n2, n3⟩ := layL w1 ok1 nq ((srtI ns).map V.int)
      exact t _ c1 q _ F1 _ w ok n1 n2 n3 upd_same (rep_ints _) q1
    · exact q1.elim⟩
/-! sorted of a list of data -/
def rSortE (K : PySem.W.Frag) : List V → Hp → VK → Prop := fun vs H Q => ∃ (a : Addr) (bs : List (D × V)) (enc : D → PyData), vs = [V.ref a] ∧ SqL K H a (bs.map (·.2)) ∧ (∀ b ∈ bs, Dp K H b.2 (enc b.1)) ∧ PySem.W.AllAlike (bs.map fun b => enc b.1) ∧ PySem.W.Sortable (bs.map fun b => enc b.1) ∧
  bs.length ≤ sizeLine ∧ (∀ b ∈ bs, (enc b.1).depth ≤ 64) ∧ ∀ p : Addr, H p = none → Q (.ref p) (upd H p (.lst ((bs.mergeSort (PySem.W.dataLe false fun b => enc b.1)).map (·.2))))
theorem cr_sortE (hu : X.A.units + 66 < cLine) : CallR X (.builtin "sorted") (rSortE X.K) := by
  intro pins s σ H vs us Q I r h
  obtain ⟨a, bs, enc, rfl, hs, hd, hal, hk, hlen, hdep, q⟩ := h
  obtain ⟨its, rv, hl, _⟩ := I.list hs
  rw [Vals.ref1 r]
  have e := eachV rv
  have er : PySem.W.EachIs (fun v (b : D × V) => ∃ as, Reads s.heap v (enc b.1) as) its bs := PySem.W.EachIs.of_zip e.length fun p hp => by
    have h2 := e.zip p hp
    exact Dp.reads I _ _ _ (hd p.2 (List.of_mem_zip hp).2) h2
  refine PySem.W.sorted_data (enc := fun b : D × V => enc b.1) hl.isList e er hal hk hlen (fun b hb => by have := hdep b hb; omega) fun out ho eo => ?_
  obtain ⟨ep, he'⟩ := PyProof.Rows.sortedAll_at s.heap its out.toArray
  have hp := List.mergeSort_perm bs (PySem.W.dataLe false fun b => enc b.1)
  refine ⟨.ref _, upd H (s.heap.objs.size + 1) (.lst ((bs.mergeSort (PySem.W.dataLe false fun b => enc b.1)).map (·.2))), I.laid (t' := s.toks) (fun _ _ => PyProof.Rows.sortedAll_old) (Nat.le_succ _) ⟨by rw [List.length_map, hp.length_eq]; exact hlen, out, ep, valsV eo, he'⟩, rfl, q _ (I.hok.fresh (Nat.le_succ _))⟩
@[simp ↓] def fSortE (fa : FE) : FL := fun ρ c Q => fa ρ c fun x c => match x with
  | .lst l => ∃ enc : D → PyData, (∀ d ∈ l, toPy d = some (enc d) ∧ (enc d).depth ≤ 64) ∧ PySem.W.AllAlike (l.map enc) ∧ PySem.W.Sortable (l.map enc) ∧ l.length ≤ 16777216 ∧ Q (l.mergeSort (PySem.W.dataLe false enc)) c
  | _ => False
theorem fx_sortE (hu : X.A.units + 66 < cLine) (hm : X.mg "sorted" = none) (ha : EX X e fa) (hg : Gl X "sorted" := by rfl) (hs : starEach [e] X.env = (false, eval e X.env) :: starEach [] X.env := by rfl) {p : Pos} :
    FX X (.Call (.Name "sorted" p) [e] [] pos) (fSortE fa) := PE.imp (pe_callB (cr_sortE hu) hg hm (by decide +kernel) (pa_cons ha pa_nil hs) (by decide) (by decide) hs rfl) fun σ H Q ⟨p, c, ρ, F, Q', es, h, t⟩ =>
  ⟨p, c, ρ, F, _, es, h, fun d c1 v F1 H1 w1 ok1 r1 q1 => by
    split at q1
    · rename_i l
      obtain ⟨a, xs, rfl, h1, rl⟩ := r1
      obtain ⟨enc, hk, hal, hso, hlen, q1⟩ := q1
      obtain ⟨z1, z2, z3⟩ := zipV_of rl
      have ek : (zipV l xs).map (fun b => enc b.1) = l.map enc := by
        rw [← z1, List.map_map, z1]
        rfl
      have hin : ∀ b ∈ zipV l xs, b.1 ∈ l := fun b hb => by
        rw [← z1]
        exact List.mem_map.mpr ⟨b, hb, rfl⟩
      have hl : (zipV l xs).length = l.length := by
        have := congrArg List.length z1
        rw [List.length_map] at this
        exact this
      refine ⟨a, zipV l xs, enc, rfl, by rw [z2]; exact .of (ok1.sub _ _ h1), fun b hb => (z3 b hb).dp ok1.sub (hk _ (hin b hb)).1, by rw [ek]; exact hal, by rw [ek]; exact hso, by rw [hl, line16]; exact hlen, fun b hb => (hk _ (hin b hb)).2, fun q nq => ?_⟩
      have ds : ((zipV l xs).mergeSort (PySem.W.dataLe false fun b => enc b.1)).map (·.1) = l.mergeSort (PySem.W.dataLe false enc) := by
        have q := List.map_mergeSort (f := fun b : D × V => b.1) (r := PySem.W.dataLe false fun b : D × V => enc b.1) (s := PySem.W.dataLe false enc) (l := zipV l xs) (fun _ _ _ _ => rfl)
        rw [z1] at q
        exact q
      obtain ⟨w, ok, n1, n2, n3⟩ := layL w1 ok1 nq (((zipV l xs).mergeSort (PySem.W.dataLe false fun b => enc b.1)).map (·.2))
      refine t (l.mergeSort (PySem.W.dataLe false enc)) c1 q _ F1 _ w ok n1 n2 n3 upd_same ?_ q1
      rw [← ds]
      exact repV _ fun b hb => z3 b ((List.mergeSort_perm _ _).mem_iff.mp hb)
    · exact q1.elim⟩
end
end L3

set_option maxHeartbeats 2000000
/-! L5C: a new list, one of two. -/
namespace L3
open PySem PySem.Spec PyProof.Rows L2
section
variable {X : Cx} {a b c : Expr} {f g : FL} {ft : FT} {pos : Pos}
@[simp ↓] def fIf3 (t : FT) (f g : FL) : FL := fun ρ c Q => t ρ c fun b c => if b = true then f ρ c Q else g ρ c Q
theorem fx_if (hc : TX X c ft) (ha : FX X a f) (hb : FX X b g) : FX X (.IfExp c a b pos) (fIf3 ft f g) := PE.imp (pe_ifExp hc ha hb) fun σ H Q ⟨p, c, ρ, F, Q', es, h, t⟩ =>
  ⟨p, c, ρ, F, _, es, h, fun k c1 F1 H1 w1 ok1 q1 => by
    have up : ∀ l c' a xs F' H', Fwd p F1 H1 F' H' → Ok3 p c' F' H' → H1 a = none → F' a = none → p.pot ≠ some a → H' a = some (.lst xs) → RepL X.K p F' l xs → Q' l c' → Q (.ref a) H' := fun l c' a xs F' H' w ok n1 n2 n3 h' r q =>
      t l c' a xs F' H' (w1.trans w) ok (w1.there a n1) n2 n3 h' r q
    cases k with
    | true => exact ⟨p, c1, ρ, F1, Q', es.fwd w1 ok1, q1, up⟩
    | false => exact ⟨p, c1, ρ, F1, Q', es.fwd w1 ok1, q1, up⟩⟩
end
end L3

/-! L5D: // by a great positive divisor, * of great ints. -/
namespace L3
open PySem PySem.Spec PyProof.Rows L2
section
variable {K : PySem.W.Frag} {X : Cx} {a b : Expr} {fa fb : FE} {pos : Pos}
@[simp ↓] def fdivWD : D → D → Nat → KD → Prop
  | .int i, .int j, c, Q => (0 < j ∧ j.natAbs.log2 < 9000) ∧ Q (.int (i / j)) c
  | _, _, _, _ => False
theorem fdivWS : OpS K (rI CDivW fun i j => .int (i / j)) fdivWD := intCS fun x y c Q h => by
  unfold fdivWD at h
  split at h
  · exact ⟨_, _, rfl, rfl, h.1, h.2⟩
  · exact h.elim
theorem ex_fdivW (ha : EX X a fa) (hb : EX X b fb) : EX X (.BinOp a .FloorDiv b pos) (eOp fdivWD fa fb) := ex_op op_fdivW fdivWS ha hb
@[simp ↓] def mulWD : D → D → Nat → KD → Prop
  | .int i, .int j, c, Q => (i.natAbs.log2 + j.natAbs.log2 < 1000000) ∧ Q (.int (i * j)) c
  | _, _, _, _ => False
theorem mulWS : OpS K (rI CMulW fun i j => .int (i * j)) mulWD := intCS fun x y c Q h => by
  unfold mulWD at h
  split at h
  · exact ⟨_, _, rfl, rfl, h.1, h.2⟩
  · exact h.elim
theorem ex_mulW (ha : EX X a fa) (hb : EX X b fb) : EX X (.BinOp a .Mult b pos) (eOp mulWD fa fb) := ex_op op_mulW mulWS ha hb
end
end L3

set_option maxHeartbeats 2000000
/-! L5E: a list comprehension whose element is told knowing its maker's frame (closures called within). -/
namespace L3
open PySem PySem.Spec PyProof.Rows L2
section
variable {X : Cx}
/-- what an element of the block may know of the frame that it stands in -/
def Within (X : Cx) (pins : List (Addr × Obj)) (σ : L2.St) (s : Shared) (H : Hp) (fp : List Addr) : Prop := Inv X pins σ H s ∧ ∀ b ∈ fp, FpOk X pins H b
theorem lcH {pins : List (Addr × Obj)} {s : Shared} {σ : L2.St} {H : Hp} {Q : VK} {elt tg iter : Expr} {ifs : List Expr} {scope : Scope} {own : List (Str × Nat)} {pos pos' : Pos} {wi : TI} {g : TG} {tt : TT} {te : TE} {use : Option (Value → Sem Unit)} {Qf : Value → Shared → Prop}
    (hc : X.calm = true) (hN : X.N.Nodup) (I : Inv X pins σ H s) (hi : PI X tg iter wi) (ok : BlkOk X.N X.env.scope scope own)
    (hg : ∀ (s1 : Shared) (H1 : Hp) (C : Addr) (cl : List (Str × Addr)) (fp : List Addr), PG (X.blk s1 H1 scope (compEnvC scope cl C X.env) fp) tg g)
    (ht : ∀ (s1 : Shared) (H1 : Hp) (C : Addr) (cl : List (Str × Addr)) (fp : List Addr), PTs (X.blk s1 H1 scope (compEnvC scope cl C X.env) fp) ifs tt)
    (he : ∀ (s1 : Shared) (H1 : Hp) (C : Addr) (cl : List (Str × Addr)) (fp : List Addr), Within X pins σ s1 H1 fp → PE (X.blk s1 H1 scope (compEnvC scope cl C X.env) fp) elt te)
    (hs : ∀ x, foldedSetIterable iter X.env x = pure x) (h : tLc wi g tt te (own.map (·.2)) σ H Q)
    (back : ∀ D C s2 m H2, Inv X pins σ H2 s2 → Q (.ref D) H2 → s2.heap.Ns C m → FpOk X pins H2 C → compPost (model X.prog X.w) X.A X.xe use Qf (.ref D) C (.ok .next) s2) :
    wpAny (model X.prog X.w) X.A (comprehension (.ListComp elt [⟨tg, iter, ifs, 0⟩] scope pos) scope X.env pos' (newList []) false (eval iter X.env) use) Qf X.xe s := by
  have fre : ∀ z ∈ scope.names, z.2 = .free → ∃ a, X.env.cells.lookup z.1 = some a := fun z hz e =>
    (ok.free z hz e).elim (fun k => I.ok.has _ (.inl k)) (fun k => I.ok.has _ (.inr k))
  refine wpAny_comprehension_free (use := use) rfl hs (closure_ok fre) ok.kind (fun z hz e => by rw [ok.uniq z hz, e]) (thn (hi.run pins s σ H _ I h) fun xv sA hx => thn hx fun itv sB hB => ?_)
  obtain ⟨it, fp, tn, J, HB, rfl, IB, T, stB, fB, q⟩ := hB
  refine wpAny_newObj_type (newEnv_comp ?_) (by show 0 ≤ sizeLine; decide)
  obtain ⟨D, hD⟩ : ∃ D, sB.heap.objs.size = D := ⟨_, rfl⟩
  rw [hD]
  have freeD : HB D = none := IB.hok.fresh (Nat.le_of_eq hD)
  obtain ⟨W, ⟨m0, w0⟩, turn⟩ := q D freeD
  obtain ⟨sC, hsC⟩ : ∃ sC : Shared, sC = { sB with heap := sB.heap.push { cls := .type "list", data := .seq ([] : List Value).toArray } } := ⟨_, rfl⟩
  have hpC : sC.heap = sB.heap.push { cls := .type "list", data := .seq ([] : List Value).toArray } := by rw [hsC]
  have IC : Inv X pins σ (upd HB D (.lst [])) sC := by
    subst hsC
    refine IB.laid (t' := sB.toks) (fun b o e => Heap.get?_push_of_some _ e) (Nat.le_of_eq hD) ⟨Nat.zero_le _, [], 0, .nil, ?_⟩
    rw [← hD]
    exact Heap.get?_push_size _ rfl
  have fC : ∀ b ∈ fp, FpOk X pins (upd HB D (.lst [])) b ∧ b < sC.heap.objs.size := fun b hb => by
    obtain ⟨o, e, _⟩ := T.obj _ _ stB b hb
    have lt := Heap.lt_size e
    refine ⟨⟨?_, (fB b hb).2⟩, by rw [hpC, Heap.size_push]; exact Nat.lt_succ_of_lt lt⟩
    rw [upd_ne (hD ▸ Nat.ne_of_lt lt)]
    exact (fB b hb).1
  obtain ⟨HC, hHC⟩ : ∃ HC, upd HB D (.lst []) = HC := ⟨_, rfl⟩
  rw [hHC] at IC fC w0
  have stC : tn 0 sC.heap := T.keep _ _ _ stB fun b _ o e => by rw [hpC]; exact Heap.get?_push_of_some _ e
  obtain ⟨cl, hcl⟩ : ∃ cl, cellsFrom (sC.heap.objs.size + 1) scope.names (cloFrom X.env.cells scope.names []) = cl := ⟨_, rfl⟩
  have I4 := block_start IC ok hN fC
  rw [hcl] at I4
  have pg := hg sC HC sC.heap.objs.size cl fp
  have pt := ht sC HC sC.heap.objs.size cl fp
  have pe := he sC HC sC.heap.objs.size cl fp ⟨IC, fun b hb => (fC b hb).1⟩
  have start : codeAny (model X.prog X.w) X.A (.compStart (.ListComp elt [⟨tg, iter, ifs, 0⟩] scope pos) 0 (.ref it) (.ref D) (compEnvC scope cl sC.heap.objs.size X.env)) (compPost (model X.prog X.w) X.A X.xe use Qf (.ref D) sC.heap.objs.size) { sC with heap := pushCells (sC.heap.push { cls := .type "dict", data := .dict #[] }) scope.names } := by
    obtain ⟨ce, hce⟩ : ∃ ce, compEnvC scope cl sC.heap.objs.size X.env = ce := ⟨_, rfl⟩
    rw [hce] at I4 pg pt pe ⊢
    have cL : ce.locals = sC.heap.objs.size := by rw [← hce]; rfl
    obtain ⟨sD, hsD⟩ : ∃ sD : Shared, ({ sC with heap := pushCells (sC.heap.push { cls := .type "dict", data := .dict #[] }) scope.names } : Shared) = sD := ⟨_, rfl⟩
    rw [hsD] at I4 ⊢
    have stD : tn 0 sD.heap := T.keep _ _ _ stC fun b _ o e => by rw [← hsD]; exact pushCells_keeps _ _ _ _ (Heap.get?_push_of_some _ e)
    have stat : ∀ {σ2 : L2.St} {H2 : Hp} {s2 : Shared}, Inv (X.blk sC HC scope ce fp) [] σ2 H2 s2 → (∀ b ∈ fp, H2 b = none) → ∀ b ∈ fp, FpOk (X.blk sC HC scope ce fp) [] H2 b := fun {σ2 H2 s2} I2 hn b hb =>
      ⟨hn b hb, (I2.ok.exf b hb).1, I2.ok.exfs b hb, .inl hb, fun x c e => (I2.ok.exf b hb).2 x c e, fun p hp => absurd (show p ∈ ([] : List (Addr × Obj)) ++ [] from hp) (by simp)⟩
    have loop : codeAny (model X.prog X.w) X.A (.compLoop (.ListComp elt [⟨tg, iter, ifs, 0⟩] scope pos) 0 (.ref it) (.ref D) ce) (compPost (model X.prog X.w) X.A X.xe use Qf (.ref D) sC.heap.objs.size) sD := by
      refine compLoop_any (fun n s2 => ∃ i H2, Inv (X.blk sC HC scope ce fp) [] (wipe σ (own.map (·.2))) H2 s2 ∧ tn i s2.heap ∧ (∀ b ∈ fp, H2 b = none) ∧ W i n H2) ?_ m0 ⟨0, HC, I4, stD, fun b hb => (fC b hb).1.1, w0⟩
      rintro n s5 ⟨i, H5, I5, st5, n5, w5⟩
      rcases turn i n H5 w5 with ⟨halt, qq⟩ | ⟨go, Nx, hNx, step⟩
      · refine thnF (T.done (X.blk sC HC scope ce fp) rfl rfl rfl hc i [] s5 _ H5 (fun _ _ => False) I5 (stat I5 n5) st5 halt) fun r s6 ⟨hr, I6⟩ => ?_
        rw [hr]
        have I7 : Inv X pins σ H5 s6 := IC.call' (ch := fp) I6.os I6.base I6.hok I6.bare fun b hb => ⟨(fC b hb).1.2.2.2.1, (fC b hb).1.2.1, (fC b hb).1.2.2.2.2.1, (fC b hb).1.2.2.2.2.2⟩
        have nC : H5 sC.heap.objs.size = none := cL ▸ (show H5 ce.locals = none from I6.free)
        obtain ⟨m, hn, _⟩ := I6.loc
        exact back D sC.heap.objs.size s6 m H5 I7 qq (cL ▸ (show s6.heap.Ns ce.locals m from hn)) (IC.fpOk (Nat.le_refl _) nC)
      · refine thnF (T.item (X.blk sC HC scope ce fp) rfl rfl rfl hc i [] s5 _ H5 (fun _ _ => False) I5 (stat I5 n5) st5 go) fun r s6 ⟨u, hr, h6⟩ => ?_
        rw [hr]
        refine thnF h6 fun _ s7 ⟨x, H7, I7, r7, y7, st7, n7⟩ => ?_
        have pinned := I7.pinned (stat I7 n7) (T.obj _ _ st7)
        refine thnF (pg.run _ s7 _ H7 x u _ pinned r7 (step x H7 y7)) fun _ s8 ⟨σ8, H8, I8, hw8, q8⟩ => thnF (pt.run _ s8 σ8 H8 _ I8 q8) fun b s9 ⟨H9, I9, q9⟩ => ?_
        have turned : ∀ {s2 : Shared} {H2 : Hp}, Inv (X.blk sC HC scope ce fp) ([] ++ pinsAt fp s7.heap) σ8 H2 s2 → Nx H2 → ∃ m, m < n ∧ ∃ i H2, Inv (X.blk sC HC scope ce fp) [] (wipe σ (own.map (·.2))) H2 s2 ∧ tn i s2.heap ∧ (∀ b ∈ fp, H2 b = none) ∧ W i m H2 := fun {s2 H2} J nx => by
          obtain ⟨k, hk, wk⟩ := hNx H2 nx
          have kept : ∀ b ∈ fp, ∀ o, s7.heap.get? b = some o → s2.heap.get? b = some o ∧ H2 b = none := fun b hb o e => by
            have z := J.pin (b, o) (List.mem_append_right _ (List.mem_append_right _ (mem_pinsAt hb e)))
            exact ⟨z.1, z.2.1⟩
          refine ⟨k, hk, i + 1, H2, (J.unpinned (pins := [])).weak (by rw [← hw8, wipe_length]) (fun j v e => ?_), T.keep _ _ _ st7 fun b hb o e => (kept b hb o e).1, fun b hb => ?_, wk⟩
          · rw [← hw8] at e
            exact (wipe_some e).1
          · obtain ⟨o, e, _⟩ := T.obj _ _ st7 b hb
            exact (kept b hb o e).2
        cases b with
        | true =>
          simp only [if_true] at q9 ⊢
          refine thnF (pe.run _ s9 σ8 H9 _ I9 q9) fun z sE ⟨yv, HE, IE, rE, acc, dE, lE, nx⟩ => app_ok (X := X.blk sC HC scope ce fp) IE dE lE rE fun sF IF => turned IF nx
        | false =>
          simp only [Bool.false_eq_true, if_false] at q9 ⊢
          exact turned I9 q9
    exact codeAny_compStart_list loop (T.self X.A 0 _ _ _ stD loop)
  rw [← hcl] at start
  subst hsC
  exact start
end
end L3

set_option maxHeartbeats 2000000
/-! L5F: [f(ask)[0] for ask in asks], f a def that gets closures of this frame. -/
namespace L3
open PySem PySem.Spec PyProof.Rows L2
section
variable {X : Cx} {pos : Pos} {elt tg iter : Expr} {ifs : List Expr} {scope : Scope} {own : List (Str × Nat)} {fi : FI} {gg : FG} {is : List Nat} {fe : FE} {ft : FT}
theorem comp_wH {t : TT} {gl : TG} {wi : TI} {vs : List Nat} (his : ∀ j ∈ is, j ∈ vs) {tE' : TE} {σ : L2.St} (hte : ∀ σ2 H Q, wipe σ2 vs = wipe σ vs → tE X.K fe σ2 H Q → tE' σ2 H Q)
    (ki : ∀ σ H p c ρ F Q' R, ESt X.K p c ρ σ F H → fi ρ c Q' → (∀ items c' F' H' J, Fwd p F H F' H' → Ok3 p c' F' H' → Walks3 X.K p J items F' → Q' items c' → R J H') → wi σ H R)
    (kg : ∀ p c ρ σ F H F0 H0 d v k kk, SSt X.K p c ρ σ F H F0 H0 → Rep X.K p F d v → gg d ρ k → (∀ ρ' σ', SSt X.K p c ρ' σ' F H F0 H0 → σ'.length = σ.length → (∀ j, j ∉ is → σ'[j]? = σ[j]?) → k ρ' → kk σ' H) → gl v σ H kk)
    (kt : ∀ σ H p c ρ F Q' Q, ESt X.K p c ρ σ F H → ft ρ c Q' → TellB p F H Q' Q → t σ H Q) {H : Hp} {Q : VK} (h : tF X.K (fComp fi gg ft fe vs) σ H Q) : tLc wi gl t tE' vs σ H Q := by
  obtain ⟨p, c, ρ, F, Q', es, h, tl⟩ := h
  refine ki σ H p c ρ F _ _ es h fun items c1 F1 H1 J w1 ok1 wk q1 => fun D hD => ?_
  obtain ⟨w0, ok0, n1, n2, n3⟩ := layL (Fwd.refl p F1 H1) ok1 hD []
  refine ⟨fun i m H' => m = items.length - i ∧ i ≤ items.length ∧ ∃ c F acc ds, Fwd p F1 H1 F H' ∧ Ok3 p c F H' ∧ H' D = some (.lst acc) ∧ F D = none ∧ RepL X.K p F ds acc ∧ ds.length ≤ i ∧ compL gg ft fe (wipeD ρ vs) (items.drop i) c (fun ys c => Q' (ds ++ ys) c),
    ⟨items.length, rfl, Nat.zero_le _, c1, F1, [], [], w0, ok0, upd_same, n2, rfl, Nat.zero_le _, q1⟩, fun i m H2 ⟨em, hi, c, F2, acc, ds, w, ok, hDl, nF, r, dl, hc⟩ => ?_⟩
  obtain ⟨go, stop⟩ := wk.2 i F2 H2 c w.frz ok
  by_cases hlt : i < items.length
  · obtain ⟨hgo, hy⟩ := go hlt
    refine .inr ⟨hgo, fun H' => ∃ c F acc ds, Fwd p F1 H1 F H' ∧ Ok3 p c F H' ∧ H' D = some (.lst acc) ∧ F D = none ∧ RepL X.K p F ds acc ∧ ds.length ≤ i + 1 ∧ compL gg ft fe (wipeD ρ vs) (items.drop (i + 1)) c (fun ys c => Q' (ds ++ ys) c),
      fun H' z => ⟨items.length - (i + 1), by omega, rfl, hlt, z⟩, fun x H' y => ?_⟩
    obtain ⟨F', d, e1, w', ok', r'⟩ := hy x H' y
    have ed : items.drop i = d :: items.drop (i + 1) := by
      rw [List.drop_eq_getElem_cons hlt]
      rw [List.getElem?_eq_getElem hlt] at e1
      rw [Option.some.inj e1]
    rw [ed] at hc
    have wF := w1.trans (w.trans w')
    have ss : SSt X.K p c ((wipeD ρ vs).map upS) (wipe σ vs) F' H' F' H' := by
      refine ⟨ok', .refl .., by rw [List.length_map, wipeD_len, wipe_length, es.len], fun j dj ej => ?_, fun j lj ej => ?_, fun j k l m a e1 _ _ _ => ?_, fun j ks lj ej => ?_, fun j k ks ks' l m a e1 _ _ _ => ?_⟩
      · rw [List.getElem?_map] at ej
        obtain ⟨z, ez, eu⟩ := Option.map_eq_some_iff.mp ej
        cases z with
        | none => cases eu
        | some z =>
          cases eu
          obtain ⟨nj, e2⟩ := wipeD_some ρ vs j dj ez
          obtain ⟨v, g1, g2⟩ := es.slot j dj ((get3_eq ρ j dj).mpr e2)
          exact ⟨v, by rw [wipe_get σ vs j nj]; exact g1, g2.mono wF.frz⟩
      · rw [List.getElem?_map] at ej
        obtain ⟨z, ez, eu⟩ := Option.map_eq_some_iff.mp ej
        cases z <;> cases eu
      · rw [List.getElem?_map] at e1
        obtain ⟨z, ez, eu⟩ := Option.map_eq_some_iff.mp e1
        cases z <;> cases eu
      · rw [List.getElem?_map] at ej
        obtain ⟨z, ez, eu⟩ := Option.map_eq_some_iff.mp ej
        cases z <;> cases eu
      · rw [List.getElem?_map] at e1
        obtain ⟨z, ez, eu⟩ := Option.map_eq_some_iff.mp e1
        cases z <;> cases eu
    refine kg p c _ (wipe σ vs) F' H' F' H' d x _ _ ss r' hc fun ρ2 σ2 s2 l2 e2 h2 => ?_
    have hw : wipe σ2 vs = wipe σ vs := by
      refine wipe_eq (by rw [l2, wipe_length]) fun j hj => ?_
      rw [e2 j fun z => hj (his j z), wipe_get σ vs j hj]
    refine ⟨hw, ?_⟩
    · refine kt σ2 H' p c _ F' _ _ s2.e h2 fun b c3 F3 H3 w3 ok3 q3 => ?_
      have w23 := w'.trans w3
      have keepD : ∀ {F4 H4 : Hp} {c4 : Nat}, Fwd p F2 H2 F4 H4 → Ok3 p c4 F4 H4 → H4 D = some (.lst acc) ∧ F4 D = none := fun {F4 H4 c4} w4 ok4 => by
        refine ⟨w4.keep D _ hDl n3 (fun _ z => nomatch z), ?_⟩
        cases q : F4 D with
        | none => rfl
        | some u =>
          rcases w4.new D u q with z | z | ⟨q', z⟩
          · rw [nF] at z; cases z
          · rw [hDl] at z; cases z
          · have y := ok4.sub D u q
            rw [w4.keep D _ hDl n3 (fun _ z => nomatch z)] at y
            exact absurd (z.symm.trans (Option.some.inj y.symm)) codeO_lst
      cases b with
      | true =>
        refine hte _ _ _ hw ⟨p, c3, _, F3, _, s2.e.fwd w3 ok3, q3, fun yd c4 v F4 H4 w4 ok4 r4 q4 => ?_⟩
        have w24 := w23.trans w4
        obtain ⟨d1, d2⟩ := keepD w24 (by assumption)
        have rl := (r.mono w24.frz).app (RepL.single r4)
        have w14 := w.trans w24
        refine ⟨acc, d1, ?_, c4, F4, acc ++ [v], ds ++ [yd], ⟨w14.frz, fun b u hb n tt => ?_, w14.new, fun b hb => ?_⟩, ⟨fun b u hb => ?_, fun b hb => ?_, tabs_put ok4.tab d1, ok4.nt⟩, upd_same, d2, rl, by rw [List.length_append]; exact Nat.succ_le_succ dl, ?_⟩
        · have := r.len
          rw [line16, this]
          have := wk.1
          omega
        · rw [upd_ne (ne_of_none hb n1)]
          exact w14.keep b u hb n tt
        · by_cases e : b = D
          · subst e; exact n1
          · rw [upd_ne e] at hb; exact w14.there b hb
        · rw [upd_ne (ne_of_none hb d2)]
          exact ok4.sub b u hb
        · obtain ⟨⟨x, y, z, h, rr⟩, n⟩ := ok4.pot b hb
          have ne : b ≠ D := fun e => n3 (e ▸ hb)
          exact ⟨⟨x, y, z, by rw [upd_ne ne]; exact h, rr⟩, n⟩
        · have e : (fun ys c => Q' (ds ++ [yd] ++ ys) c) = fun ys c => Q' (ds ++ (yd :: ys)) c := by
            funext ys c
            rw [List.append_assoc]
            rfl
          rw [e]
          exact q4
      | false =>
        obtain ⟨d1, d2⟩ := keepD w23 (by assumption)
        exact ⟨c3, F3, acc, ds, w.trans w23, ok3, d1, d2, r.mono w23.frz, Nat.le_succ_of_le dl, q3⟩
  · have ei : items.drop i = [] := List.drop_eq_nil_of_le (by omega)
    rw [ei] at hc
    have hc' : Q' (ds ++ []) c := hc
    rw [List.append_nil] at hc'
    exact .inl ⟨stop (by omega), tl ds c D acc F2 H2 (w1.trans w) ok (w1.there D n1) nF n3 hDl r hc'⟩
end
section
variable {X : Cx} {pins pins2 : List (Addr × Obj)} {σ σ2 : L2.St} {H1 H2 : Hp} {s1 s2 : Shared} {scope : Scope} {ce : Env} {fp : List Addr}
/-- the base grown by the cells of the maker's frame, seen from within its comprehension -/
theorem grow2 (W : Within X pins σ s1 H1 fp) (I : Inv (X.blk s1 H1 scope ce fp) pins2 σ2 H2 s2) (hfn : ∀ y, X.fn y = true) (hst : X.stack = X.env :: X.outer) (hfr : X.env.frame = some X.env.locals) :
    ∃ B : Heap, X.base.objs.size ≤ B.objs.size ∧ (∀ b o, X.base.get? b = some o → B.get? b = some o) ∧ (∀ y c, X.env.cells.lookup y = some c → ∀ o, s1.heap.get? c = some o → B.get? c = some o) ∧ Env0 X.prog X.w X.K X.mg B X.A X.stack s2 H2 := by
  obtain ⟨IX, hfp⟩ := W
  have e0 : Env0 X.prog X.w X.K X.mg X.base X.A X.stack s2 H2 := I.env0
  have noframe : ∀ y c, X.env.cells.lookup y = some c → c ∉ frs X.stack := fun y c e hL => by
    have ge : X.s_0.heap.objs.size ≤ c := IX.ok.cab y c (hfn y) e
    rw [hst] at hL
    obtain ⟨env, he, q⟩ := List.mem_filterMap.mp hL
    rcases List.mem_cons.mp he with rfl | he
    · rw [hfr] at q
      exact IX.cne y c e (Option.some.inj q).symm
    · obtain ⟨_, o', e', _⟩ := IX.ok.funs.mem (List.mem_filterMap.mpr ⟨env, he, q⟩)
      exact absurd (Heap.lt_size e') (Nat.not_lt.mpr ge)
  have nofp : ∀ y c, X.env.cells.lookup y = some c → c ∉ fp := fun y c e hb => (hfp c hb).2.2.2.2.1 y c e rfl
  have un : Un (frs X.stack) fp H1 H2 s1.heap s2.heap := I.base
  have kept : ∀ y c, X.env.cells.lookup y = some c → ∀ o, s1.heap.get? c = some o → s2.heap.get? c = some o ∧ H2 c = none := fun y c e o ho =>
    ⟨un.keep c o ho (IX.freeC y c e) (noframe y c e) (nofp y c e), un.free c o ho (IX.freeC y c e) (nofp y c e)⟩
  let pb : Addr → Bool := fun b => (X.base.get? b).isSome || X.env.cells.any fun q => decide (X.env.cells.lookup q.1 = some b)
  let l := (List.range s2.heap.objs.size).filter fun b => !pb b
  have inl : ∀ b, b < s2.heap.objs.size → pb b = false → b ∈ l := fun b h1 h2 => List.mem_filter.mpr ⟨List.mem_range.mpr h1, by simp [h2]⟩
  have nil : ∀ b, pb b = true → b ∉ l := fun b h hm => by
    have := (List.mem_filter.mp hm).2
    rw [h] at this
    cases this
  have pc : ∀ y c, X.env.cells.lookup y = some c → pb c = true := fun y c e => by
    show ((X.base.get? c).isSome || X.env.cells.any fun q => decide (X.env.cells.lookup q.1 = some c)) = true
    rw [Bool.or_eq_true]
    exact .inr (List.any_eq_true.mpr ⟨(y, c), PySem.mem_of_lookup e, decide_eq_true e⟩)
  have up : ∀ b o, X.base.get? b = some o → (PySem.W.hideAll s2.heap l).get? b = some o := fun b o e => PySem.W.hideAll_get l (e0.bs b o e).1 (nil b (by
    show ((X.base.get? b).isSome || X.env.cells.any fun q => decide (X.env.cells.lookup q.1 = some b)) = true
    rw [e]; rfl))
  have yes : ∀ b o, (PySem.W.hideAll s2.heap l).get? b = some o → pb b = true ∧ s2.heap.get? b = some o := fun b o e => by
    have z := PySem.W.of_hideAll l e
    refine ⟨?_, z⟩
    cases q : pb b with
    | true => rfl
    | false => rw [PySem.W.hideAll_none l (inl b (Heap.lt_size z) q)] at e; cases e
  have src : ∀ b, pb b = true → (∃ o, X.base.get? b = some o) ∨ ∃ y, X.env.cells.lookup y = some b := fun b h => by
    have h : ((X.base.get? b).isSome || X.env.cells.any fun q => decide (X.env.cells.lookup q.1 = some b)) = true := h
    rw [Bool.or_eq_true] at h
    rcases h with h | h
    · exact .inl (Option.isSome_iff_exists.mp h)
    · obtain ⟨q, _, e⟩ := List.any_eq_true.mp h
      exact .inr ⟨q.1, of_decide_eq_true e⟩
  refine ⟨PySem.W.hideAll s2.heap l, by rw [PySem.W.hideAll_size]; exact e0.bsz, up, fun y c e o ho => PySem.W.hideAll_get l (kept y c e o ho).1 (nil c (pc y c e)), e0.frames, ⟨e0.mod.kin.keeps up, e0.mod.glob.keeps up, ?_, e0.mod.nolimit.keeps up⟩, fun b o e => ?_, ?_, ?_, e0.frf, e0.hok, e0.bare⟩
  · obtain ⟨mb, b1, b2⟩ := e0.mod.blt
    exact ⟨mb, b1.keeps up, b2⟩
  · obtain ⟨h1, h2⟩ := yes b o e
    refine ⟨h2, ?_⟩
    rcases src b h1 with ⟨o', z⟩ | ⟨y, z⟩
    · exact (e0.bs b o' z).2
    · obtain ⟨v, o', ho', _⟩ := IX.cell y b z
      exact (kept y b z _ ho').2
  · rw [PySem.W.hideAll_size]
    exact Nat.le_refl _
  · refine funFrames_none e0.funs fun L hL => ?_
    cases e : (PySem.W.hideAll s2.heap l).get? L with
    | none => rfl
    | some o =>
      obtain ⟨h1, h2⟩ := yes L o e
      rcases src L h1 with ⟨o', z⟩ | ⟨y, z⟩
      · have := (e0.funs.mem hL).1
        rw [z] at this
        cases this
      · exact absurd hL (noframe y L z)
end
section
variable {X : Cx} {pins : List (Addr × Obj)} {σ : L2.St} {H : Hp} {s : Shared}
theorem acts_of2 {kk : Nat} {B : Heap} {p : Pn} {ρ : Rho} {F : Hp} {is : Nat → Obj → Prop} {tab : Nat → Nat × FEX} (I : Inv X pins σ H s) (hsz : X.base.objs.size ≤ B.objs.size) (hB : ∀ b o, X.base.get? b = some o → B.get? b = some o)
    (hcell : ∀ y c, X.env.cells.lookup y = some c → ∀ o, s.heap.get? c = some o → B.get? c = some o) (slot : ∀ (i : Nat) (d : D), get3 ρ i = some d → ∃ v, σ[i]? = some (some v) ∧ Rep X.K p F d v) (slen : ρ.length = σ.length) (his : ∀ j o, is j o → LamOk X kk o (tab j).1 (tab j).2) :
    ActsB X.prog X.w X.K X.mg B (kk + 1) (tlsG is (HereF F) (fun f _ => .lam f F p) tab ρ) := by
  intro d ⟨j, f, o, hj, hh, hd⟩
  subst hd
  refine ⟨f, F, p, o, rfl, hh.1, ?_, fun A outer s3 H3 hr e3 ds us vs p3 c3 F3 Q Q' QX W ok3 rd rds rv htl tell tellx => ?_⟩
  · obtain ⟨params, body, scope, pm, ctv, c', ps, N2, ho, _⟩ := his j o hj
    exact ⟨_, _, _, _, ho⟩
  obtain ⟨j', f', o', hj', hh', hd', hlen, hfx⟩ := htl
  cases hd'
  obtain ⟨params, body, scope, pm, ctv, c', ps, N2, ho, hn, nd, L, hnew, hbind, hbody⟩ := his j' o' hj'
  obtain ⟨_, kF, kp, kc⟩ := rd
  obtain ⟨hf, c2, q2, hc1, hc2⟩ := hh'
  rw [ho, lamO_code] at hc1
  cases hc1
  have of3 : s3.heap.get? f = some (lamO X params body scope pm ctv c') := by
    have := (e3.hok f _ (ok3.sub _ _ (kF _ _ hf))).1
    rw [ho] at this
    exact this
  obtain ⟨⟨oc, vs0, t, hoc, hdc, hvc⟩, _, _⟩ := e3.hok c' _ (ok3.sub _ _ (kF _ _ hc2))
  have hus : us.length = ps.length := by rw [← rv.length, rds.len, hn, hlen]
  refine PySem.W.kla_callFunE hr.depth of3 rfl L.co L.gen rfl ⟨c', oc, vs0, t, rfl, hoc, hdc, hvc⟩ ?_
  rw [hbind _ _ _ us hus]
  refine wpAny_pure (wpAny_newFunctionEnv (fun y hy => (L.own y hy).1) (fun y hy => L.par y.1 (List.of_mem_zip hy).1) (fun h₁ hns hsb => ⟨(e3.mod.nolimit.keeps fun b o e => (e3.bs b o e).1).fresh _ hsb, ?_⟩) L.kind)
  show codeAny _ _ (.expr body (LamX.lamEnv X scope s3.heap.objs.size f c')) _ _
  have kp1 : ∀ b o, s3.heap.get? b = some o → h₁.get? b = some o := fun b o e => hsb.extBut b o (Nat.ne_of_lt (Heap.lt_size e)) (Heap.get?_push_of_some _ e)
  have e4 : Env0 X.prog X.w X.K X.mg X.base A outer s3 H3 := ⟨e3.frames, I.ok.mod, fun b o e => e3.bs b o (hB b o e), ?_, funFrames_none e3.funs fun L hL => ?_, e3.frf, e3.hok, e3.bare⟩
  · have J := lamN_begin (f := f) (c' := c') (A := A) (outer := outer) (E := W) (tk := s3.toks + (ps.zip us).length) I L hnew e4 hr.hd (fun y c e o ho => e3.bs c o (hcell y c e o ho)) hns kp1 rv (by rw [rv.length, hus]) nd
    refine PySem.W.kla_codeExpr (wpAny_mono ((hbody A outer s3 H3 W f c' (hr.deeper _)).run [] _ _ H3 Q J ⟨p3, c3, ρ ++ ds.map some, F3, Q', QX, ⟨ok3, fun i d' hi => ?_, ?_⟩, hfx, tell, tellx⟩) (fun v s' hq => ?_) fun e s' hq => hq)
    · rcases get3_app hi with z | ⟨i2, z1, z2⟩
      · obtain ⟨v', y1, y2⟩ := slot i d' z
        refine ⟨v', ?_, (Rep.pn (p := p) (p' := p3) kp kc y2).mono kF⟩
        rw [List.getElem?_append_left (List.getElem?_eq_some_iff.mp y1).1]
        exact y1
      · obtain ⟨v', y1, y2⟩ := rds.get z2
        refine ⟨v', ?_, y2⟩
        rw [z1, slen, List.getElem?_append_right (Nat.le_add_right _ _), Nat.add_sub_cancel_left, List.getElem?_map, y1]
        rfl
    · rw [List.length_append, List.length_append, slen, List.length_map, List.length_map, rds.len]
    · obtain ⟨w', H', J', rv', q⟩ := hq
      exact ⟨w', H', J'.os, J'.bare, J'.base, J'.hok, rv', q⟩
  · exact Nat.le_trans hsz e3.bsz
  · cases e : X.base.get? L with
    | none => rfl
    | some o =>
      have := (e3.funs.mem hL).1
      rw [hB L o e] at this
      cases this

end
section
variable {X : Cx} {pos : Pos} {tg iter : Expr} {scope : Scope} {own : List (Str × Nat)} {fi : FI} {gg : FG} {is : List Nat}
/-- f(the closure at v) -/
def eHr (isP : Nat → Obj → Prop) (tab : Nat → Nat × FEX) (m : TLs → FM) (v : Nat) (vs : List Nat) : FE := fun ρ c Q => match get3 ρ v with
  | some d => ∀ (here : Addr → Obj → Prop) (cv : Addr → Obj → D), (∀ f o, d = .clo f o → here f o) → m (tlsG isP here cv tab (wipeD ρ vs)) [cvE cv d] c Q
  | none => False
@[simp ↓] def eHear (isP : Nat → Obj → Prop) (tab : Nat → Nat × FEX) (m : TLs → FM) (v : Nat) (vs : List Nat) : FE := fun ρ c Q => match get3 ρ v with
  | some d => ∀ (here : Addr → Obj → Prop) (cv : Addr → Obj → D), (∀ f o, d = .clo f o → here f o) → m (tlsG isP here cv tab (wipeD ρ vs)) [cvE cv d] c fun x c => ixD x (.int 0) c Q
  | none => False
theorem eHear_eq {isP : Nat → Obj → Prop} {tab : Nat → Nat × FEX} {m : TLs → FM} {v : Nat} {vs : List Nat} {ρ : Rho} {c : Nat} {Q : KD} (h : eHear isP tab m v vs ρ c Q) : eHr isP tab m v vs ρ c fun x c => ixD x (.int 0) c Q := by
  unfold eHear at h
  unfold eHr
  exact h
theorem pe_hr {pins : List (Addr × Obj)} {σ : L2.St} {H1 : Hp} {s1 : Shared} {ce : Env} {fp : List Addr} (W : Within X pins σ s1 H1 fp) {k kk n v : Nat} {vs : List Nat} {f : Addr} {fd : FuncData} {ps : List Str} {m : TLs → FM} {x : Str} {q1 pos : Pos} {e : Expr} {isP : Nat → Obj → Prop} {tab : Nat → Nat × FEX}
    (G : ∀ B : Heap, (∀ b o, X.base.get? b = some o → B.get? b = some o) → ∀ T, ActsB X.prog X.w X.K X.mg B (kk + 1) T → FnOk X.prog X.w X.K X.mg B CX0 k f fd ps (spM X.K n (m T)))
    (his : ∀ j o, isP j o → LamOk X kk o (tab j).1 (tab j).2) (hr : Room k X.A) (hm : X.mg x = some (.ref f)) (hk : PySem.W.keepIn X.K (.ref f) = true) (hb : Binds X.K fd ps []) (hn : ps.length = n)
    (hfn : ∀ y, X.fn y = true) (hst : X.stack = X.env :: X.outer) (hfr : X.env.frame = some X.env.locals)
    (ha : EX (X.blk s1 H1 scope ce fp) e (eVar v)) (hg : Gl (X.blk s1 H1 scope ce fp) x) (hdb : (x == ("__debug__" : Str)) = false) (he : starEach [e] ce = (false, eval e ce) :: starEach [] ce) (hpl : (backTo pos (starEach [] ce)).any (·.1) = false)
    (hl : ∀ T l c Q, m T l c Q → l.length = n) : PE (X.blk s1 H1 scope ce fp) (.Call (.Name x q1) [e] [] pos) (fun σ2 H Q => wipe σ2 vs = wipe σ vs ∧ tE X.K (eHr isP tab m v vs) σ2 H Q) := by
  refine ⟨fun pins2 s σ2 H Q I ⟨hw, p, c0, ρ, F, Q', est, hq, t⟩ => ?_⟩
  have hq : ∃ d, get3 ρ v = some d ∧ ∀ (here : Addr → Obj → Prop) (cv : Addr → Obj → D), (∀ f o, d = .clo f o → here f o) → m (tlsG isP here cv tab (wipeD ρ vs)) [cvE cv d] c0 Q' := by
    unfold eHr at hq
    split at hq
    · rename_i d z; exact ⟨d, z, hq⟩
    · exact hq.elim
  obtain ⟨d, e1, hq⟩ := hq
  refine wpAny_Call_Name_kw (ld_glob I hg hm ?_ hdb)
  refine PySem.W.callWith_K (h₀ := X.base) I.ok.mod.kin hk (thn ((ax_cons ha ax_nil he).run pos pins2 s σ2 H (fun vs2 H3 => ∃ c1 F1 v1, vs2 = [v1] ∧ Fwd p F H F1 H3 ∧ Ok3 p c1 F1 H3 ∧ Rep X.K p F1 d v1 ∧ c1 = c0) I
    ⟨p, c0, ρ, F, fun l c => l = [d] ∧ c = c0, est, by show (match get3 ρ v with | some d => _ | none => False); rw [e1]; exact ⟨rfl, rfl⟩, fun l c1 vs2 F1 H3 w1 ok1 r1 q1 => by
      obtain ⟨rfl, rfl⟩ := q1
      obtain ⟨v1, _, rfl, r2, rfl⟩ := r1
      exact ⟨c1, F1, v1, rfl, w1, ok1, r2, rfl⟩⟩) fun us s3 ⟨vs2, H3, I3, rv, c1, F1, v1, evs, w1, ok1, rd, ec⟩ => ⟨I3.kIn, ?_⟩) he hpl
  subst evs ec
  obtain ⟨B, hsz, hB, hcell, e0⟩ := grow2 W I3 hfn hst hfr
  have rl : RepL X.K p F1 [d] [v1] := ⟨v1, [], rfl, rd, rfl⟩
  have q3 := hq (HereF F1) (fun f _ => .lam f F1 p) fun f o ed => by subst ed; exact rep_here rd
  have est1 := est.fwd w1 ok1
  have slot : ∀ (i : Nat) (d : D), get3 (wipeD ρ vs) i = some d → ∃ v, σ[i]? = some (some v) ∧ Rep X.K p F1 d v := fun i d hi => by
    obtain ⟨ni, e2⟩ := wipeD_some ρ vs i d ((get3_eq _ _ _).mp hi)
    obtain ⟨v2, g1, g2⟩ := est1.slot i d ((get3_eq _ _ _).mpr e2)
    refine ⟨v2, ?_, g2⟩
    rw [← wipe_get σ vs i ni, ← hw, wipe_get σ2 vs i ni]
    exact g1
  have slen : (wipeD ρ vs).length = σ.length := by
    have := congrArg List.length hw
    rw [wipe_length, wipe_length] at this
    rw [wipeD_len, ← this, est.len]
  have hlen : [v1].length = n := by have := hl _ _ _ _ q3; exact this
  have hb1 : BindsTo s3 fd ⟨us, []⟩ (ps.zip us) := by
    have z := hb s3 us I3.kIn (by rw [List.append_nil, ← rv.length, hlen, hn])
    rw [List.append_nil] at z
    exact z
  have rc := (G B hB _ (acts_of2 W.1 hsz hB hcell slot slen his)).run X.A X.stack s3 H3 ⟨us, []⟩ us [v1] Q E0 hr e0 hb1 rv ⟨hlen, p, c1, F1, [cvE (fun f _ => .lam f F1 p) d], Q', ok1, cvE_repL rl, q3, t.fwd w1⟩
  refine wpAny_call (codeAny_mono rc fun r s4 hq => ?_)
  cases r with
  | error e => exact (show False from hq).elim
  | ok fl =>
    cases fl with
    | ret u => exact I3.after hq
    | next => exact False.elim hq
    | brk => exact False.elim hq
    | cont => exact False.elim hq
/-- [f(ask)[0] for ask in asks] -/
theorem fx_hear (hc : X.calm = true) (hN : X.N.Nodup) (hi : IX X tg iter fi) (ok : BlkOk X.N X.env.scope scope own) {gl : TG}
    (hg : ∀ (s : Shared) (H : Hp) (C : Addr) (cl : List (Str × Addr)) (fp : List Addr), PG (X.blk s H scope (compEnvC scope cl C X.env) fp) tg gl) (kg : KG X.K is gg gl)
    {k kk n v : Nat} {f : Addr} {fd : FuncData} {ps : List Str} {m : TLs → FM} {x : Str} {q1 p1 p2 p3 : Pos} {k0 : Nat} {e : Expr} {isP : Nat → Obj → Prop} {tab : Nat → Nat × FEX}
    (G : ∀ B : Heap, (∀ b o, X.base.get? b = some o → B.get? b = some o) → ∀ T, ActsB X.prog X.w X.K X.mg B (kk + 1) T → FnOk X.prog X.w X.K X.mg B CX0 k f fd ps (spM X.K n (m T)))
    (hisP : ∀ j o, isP j o → LamOk X kk o (tab j).1 (tab j).2) (hr : Room k X.A) (hm : X.mg x = some (.ref f)) (hk : PySem.W.keepIn X.K (.ref f) = true) (hb : Binds X.K fd ps []) (hn : ps.length = n)
    (hfn : ∀ y, X.fn y = true) (hst : X.stack = X.env :: X.outer) (hfr : X.env.frame = some X.env.locals)
    (ha : ∀ (s : Shared) (H : Hp) (C : Addr) (cl : List (Str × Addr)) (fp : List Addr), EX (X.blk s H scope (compEnvC scope cl C X.env) fp) e (eVar v))
    (hgl : ∀ (s : Shared) (H : Hp) (C : Addr) (cl : List (Str × Addr)) (fp : List Addr), Gl (X.blk s H scope (compEnvC scope cl C X.env) fp) x := by intros; rfl) (hdb : (x == ("__debug__" : Str)) = false := by decide)
    (he : ∀ ce : Env, starEach [e] ce = (false, eval e ce) :: starEach [] ce := by intros; rfl) (hpl : ∀ ce : Env, (backTo p1 (starEach [] ce)).any (·.1) = false := by intros; rfl)
    (hl : ∀ T l c Q, m T l c Q → l.length = n) (his : ∀ j ∈ is, j ∈ own.map (·.2)) (hs : ∀ x, foldedSetIterable iter X.env x = pure x := by intro _; rfl) :
    FX X (.ListComp (.Subscript (.Call (.Name x q1) [e] [] p1) (.Constant (.int 0) k0 p2) p3) [⟨tg, iter, [], 0⟩] scope pos) (fComp fi gg tYes3 (eHear isP tab m v (own.map (·.2))) (own.map (·.2))) := by
  obtain ⟨wi, pi, ki⟩ := hi.ex
  refine ⟨fun pins s σ H Q I h => ?_⟩
  rw [eval_ListComp]
  have hte : ∀ σ2 H Q, wipe σ2 (own.map (·.2)) = wipe σ (own.map (·.2)) → tE X.K (eHear isP tab m v (own.map (·.2))) σ2 H Q → tOp (rIx X.K) (fun σ2 H Q => wipe σ2 (own.map (·.2)) = wipe σ (own.map (·.2)) ∧ tE X.K (eHr isP tab m v (own.map (·.2))) σ2 H Q) (tE X.K (eC (.int 0))) σ2 H Q := fun σ2 H Q hw ⟨p, c, ρ, F, Q', es, h, t⟩ =>
    ⟨hw, p, c, ρ, F, _, es, eHear_eq h, fun x c1 v F1 H1 w1 ok1 r1 q1 => ⟨p, c1, ρ, F1, fun y c => ixD x y c Q', es.fwd w1 ok1, q1, fun y c2 u F2 H2 w2 ok2 r2 q2 =>
      ixS p c2 F2 H2 x y v u Q' Q ok2 (r1.mono w2.frz) r2 q2 (t.fwd (w1.trans w2))⟩⟩
  refine lcH hc hN I pi ok hg (fun _ _ _ _ _ => pts_nil) (fun s1 H1 C cl fp W => pe_ix L2.ix_seq (pe_hr W G hisP hr hm hk hb hn hfn hst hfr (ha s1 H1 C cl fp) (hgl s1 H1 C cl fp) hdb (he _) (hpl _) hl) ex_int (fun _ _ => rfl)) hs (comp_wH his hte ki kg.k kt_nil.k h) fun D C s' m H' I' q hn f => ⟨m, hn, fun h'' sb => ?_⟩
  obtain ⟨f0, f1, f2, f3, f4, f5⟩ := f
  exact ⟨.ref D, H', I'.turned (t' := s'.toks) (fun b o hb e => (sb.2 b hb).trans e) f0 f1 f3 f4 f5, rfl, q⟩
theorem ps_setH (hc : X.calm = true) (hN : X.N.Nodup) (hi : IX X tg iter fi) (ok : BlkOk X.N X.env.scope scope own) {gl : TG}
    (hg : ∀ (s : Shared) (H : Hp) (C : Addr) (cl : List (Str × Addr)) (fp : List Addr), PG (X.blk s H scope (compEnvC scope cl C X.env) fp) tg gl) (kg : KG X.K is gg gl)
    {k kk n v : Nat} {f : Addr} {fd : FuncData} {ps : List Str} {m : TLs → FM} {x : Str} {q1 p1 p2 p3 : Pos} {k0 : Nat} {e : Expr} {isP : Nat → Obj → Prop} {tab : Nat → Nat × FEX}
    (G : ∀ B : Heap, (∀ b o, X.base.get? b = some o → B.get? b = some o) → ∀ T, ActsB X.prog X.w X.K X.mg B (kk + 1) T → FnOk X.prog X.w X.K X.mg B CX0 k f fd ps (spM X.K n (m T)))
    (hisP : ∀ j o, isP j o → LamOk X kk o (tab j).1 (tab j).2) (hr : Room k X.A) (hm : X.mg x = some (.ref f)) (hk : PySem.W.keepIn X.K (.ref f) = true) (hb : Binds X.K fd ps []) (hn : ps.length = n)
    (hfn : ∀ y, X.fn y = true) (hst : X.stack = X.env :: X.outer) (hfr : X.env.frame = some X.env.locals)
    (ha : ∀ (s : Shared) (H : Hp) (C : Addr) (cl : List (Str × Addr)) (fp : List Addr), EX (X.blk s H scope (compEnvC scope cl C X.env) fp) e (eVar v))
    (hgl : ∀ (s : Shared) (H : Hp) (C : Addr) (cl : List (Str × Addr)) (fp : List Addr), Gl (X.blk s H scope (compEnvC scope cl C X.env) fp) x := by intros; rfl) (hdb : (x == ("__debug__" : Str)) = false := by decide)
    (he : ∀ ce : Env, starEach [e] ce = (false, eval e ce) :: starEach [] ce := by intros; rfl) (hpl : ∀ ce : Env, (backTo p1 (starEach [] ce)).any (·.1) = false := by intros; rfl)
    (hl : ∀ T l c Q, m T l c Q → l.length = n) (his : ∀ j ∈ is, j ∈ own.map (·.2)) (hs : ∀ x, foldedSetIterable iter X.env x = pure x) {i : Nat} {y : Str} {py spos : Pos} (hy : X.N[i]? = some y) (hyl : X.env.scope.names.lookup y = some .local)
    (hsw : swapsWith (.ListComp (.Subscript (.Call (.Name x q1) [e] [] p1) (.Constant (.int 0) k0 p2) p3) [⟨tg, iter, [], 0⟩] scope pos) (some (.Name y py)) spos.line X.env = pure true) :
    PS X (.Assign [.Name y py] (.ListComp (.Subscript (.Call (.Name x q1) [e] [] p1) (.Constant (.int 0) k0 p2) p3) [⟨tg, iter, [], 0⟩] scope pos) spos) (tAsg (tF X.K (fComp fi gg tYes3 (eHear isP tab m v (own.map (·.2))) (own.map (·.2)))) (gName i)) := by
  obtain ⟨wi, pi, ki⟩ := hi.ex
  refine ⟨fun pins s σ H D I h => ?_⟩
  rw [exec_Assign_Name_used _ _ _ _ hsw]
  have h : tF X.K (fComp fi gg tYes3 (eHear isP tab m v (own.map (·.2))) (own.map (·.2))) σ H (fun x H1 => gName i x σ H1 D.nx) := h
  have hte : ∀ σ2 H Q, wipe σ2 (own.map (·.2)) = wipe σ (own.map (·.2)) → tE X.K (eHear isP tab m v (own.map (·.2))) σ2 H Q → tOp (rIx X.K) (fun σ2 H Q => wipe σ2 (own.map (·.2)) = wipe σ (own.map (·.2)) ∧ tE X.K (eHr isP tab m v (own.map (·.2))) σ2 H Q) (tE X.K (eC (.int 0))) σ2 H Q := fun σ2 H Q hw ⟨p, c, ρ, F, Q', es, h, t⟩ =>
    ⟨hw, p, c, ρ, F, _, es, eHear_eq h, fun x c1 v F1 H1 w1 ok1 r1 q1 => ⟨p, c1, ρ, F1, fun y c => ixD x y c Q', es.fwd w1 ok1, q1, fun y c2 u F2 H2 w2 ok2 r2 q2 =>
      ixS p c2 F2 H2 x y v u Q' Q ok2 (r1.mono w2.frz) r2 q2 (t.fwd (w1.trans w2))⟩⟩
  refine wpAny_bind (wpAny_standAt (wpAny_bind ?_))
  refine wpAny_bind (thn (lcH (use := some (assign (.Name y py) X.env)) (Qf := fun _ s' => SP X pins D .next s') hc hN I pi ok hg (fun _ _ _ _ _ => pts_nil) (fun s1 H1 C cl fp W => pe_ix L2.ix_seq (pe_hr W G hisP hr hm hk hb hn hfn hst hfr (ha s1 H1 C cl fp) (hgl s1 H1 C cl fp) hdb (he _) (hpl _) hl) ex_int (fun _ _ => rfl)) hs (comp_wH his hte ki kg.k kt_nil.k h) fun L C s2 m2 H2 I2 q hn2 f => ?_) fun _ s2 hq => wpAny_pure (wpAny_pure hq))
  refine wpAny_assign_Name (store_ok2 (v := V.ref L) I2 hN hy (.inl hyl) rfl (fun s3 I3 ⟨a, sb, ha2⟩ => ?_) (.inr hyl))
  obtain ⟨f0, f1, f2, f3, f4, f5⟩ := f
  have nCa : C ≠ a := ha2.elim (fun z => z ▸ f1) fun z e => f4 y a z e.symm
  exact ⟨m2, hn2.sameBut sb nCa, fun h3 sb3 => ⟨_, H2, I3.turned (t' := s3.toks) (fun b o hb e => (sb3.2 b hb).trans e) f0 f1 f3 f4 f5, q⟩⟩
theorem sx_valH (i : Nat) (hc : X.calm = true) (hN : X.N.Nodup) (hi : IX X tg iter fi) (ok : BlkOk X.N X.env.scope scope own) {gl : TG}
    (hg : ∀ (s : Shared) (H : Hp) (C : Addr) (cl : List (Str × Addr)) (fp : List Addr), PG (X.blk s H scope (compEnvC scope cl C X.env) fp) tg gl) (kg : KG X.K is gg gl)
    {k kk n v : Nat} {f : Addr} {fd : FuncData} {ps : List Str} {m : TLs → FM} {x : Str} {q1 p1 p2 p3 : Pos} {k0 : Nat} {e : Expr} {isP : Nat → Obj → Prop} {tab : Nat → Nat × FEX}
    (G : ∀ B : Heap, (∀ b o, X.base.get? b = some o → B.get? b = some o) → ∀ T, ActsB X.prog X.w X.K X.mg B (kk + 1) T → FnOk X.prog X.w X.K X.mg B CX0 k f fd ps (spM X.K n (m T)))
    (hisP : ∀ j o, isP j o → LamOk X kk o (tab j).1 (tab j).2) (hr : Room k X.A) (hm : X.mg x = some (.ref f)) (hk : PySem.W.keepIn X.K (.ref f) = true) (hb : Binds X.K fd ps []) (hn : ps.length = n)
    (hfn : ∀ y, X.fn y = true) (hst : X.stack = X.env :: X.outer) (hfr : X.env.frame = some X.env.locals)
    (ha : ∀ (s : Shared) (H : Hp) (C : Addr) (cl : List (Str × Addr)) (fp : List Addr), EX (X.blk s H scope (compEnvC scope cl C X.env) fp) e (eVar v))
    (hgl : ∀ (s : Shared) (H : Hp) (C : Addr) (cl : List (Str × Addr)) (fp : List Addr), Gl (X.blk s H scope (compEnvC scope cl C X.env) fp) x := by intros; rfl) (hdb : (x == ("__debug__" : Str)) = false := by decide)
    (he : ∀ ce : Env, starEach [e] ce = (false, eval e ce) :: starEach [] ce := by intros; rfl) (hpl : ∀ ce : Env, (backTo p1 (starEach [] ce)).any (·.1) = false := by intros; rfl)
    (hl : ∀ T l c Q, m T l c Q → l.length = n) (his : ∀ j ∈ is, j ∈ own.map (·.2)) (hs : ∀ x, foldedSetIterable iter X.env x = pure x := by intro _; rfl) {y : Str} {py spos : Pos} (hy : X.N[i]? = some y := by rfl) (hyl : X.env.scope.names.lookup y = some .local := by rfl)
    (hsw : swapsWith (.ListComp (.Subscript (.Call (.Name x q1) [e] [] p1) (.Constant (.int 0) k0 p2) p3) [⟨tg, iter, [], 0⟩] scope pos) (some (.Name y py)) spos.line X.env = pure true := by exact sw_true rfl rfl rfl (by decide +kernel)) :
    SX X (.Assign [.Name y py] (.ListComp (.Subscript (.Call (.Name x q1) [e] [] p1) (.Constant (.int 0) k0 p2) p3) [⟨tg, iter, [], 0⟩] scope pos) spos) (sValF i (fComp fi gg tYes3 (eHear isP tab m v (own.map (·.2))) (own.map (·.2)))) :=
  PS.imp (ps_setH hc hN hi ok hg kg G hisP hr hm hk hb hn hfn hst hfr ha hgl hdb he hpl hl his hs hy hyl hsw) fun D σ H ⟨p, c, ρ, F, F0, H0, E, s, h, t⟩ => ⟨p, c, _, F, _, s.e, h, fun l c1 a xs F1 H1 w1 ok1 n1 n2 n3 h1 r1 q1 => by
    obtain ⟨F', w', ok', r'⟩ := own_frz w1 ok1 n1 n2 n3 h1 r1
    exact t.nx c1 _ _ F' H1 ((s.fwd w' ok').set i r') q1⟩
end
end L3

set_option maxHeartbeats 2000000
/-! L5H: x[i], x[j], x[k] = e. -/
namespace L3
open PySem PySem.Spec PyProof.Rows L2
section
variable {X : Cx} {fa fb : FE}
/-- x[i], x[j], x[k] = e -/
@[simp ↓] def sSwap3 (i : Nat) (fe fi fj fk : FE) : FS := fun E ρ c => match ρ[i]? with
  | some (.own l) => fe (ρ.map vB) c fun y c => match y with
    | .tup [y, z, w] => fi (ρ.map vB) c fun d c => match d with
      | .int k => (0 ≤ k ∧ k < l.length) ∧ noLst y = true ∧ noLst z = true ∧ noLst w = true ∧ fj ((ρ.set i (.own (l.set k.toNat y))).map vB) c fun d c => match d with
        | .int m => (0 ≤ m ∧ m < l.length) ∧ fk ((ρ.set i (.own ((l.set k.toNat y).set m.toNat z))).map vB) c fun d c => match d with
          | .int n => (0 ≤ n ∧ n < l.length) ∧ E.nx (ρ.set i (.own (((l.set k.toNat y).set m.toNat z).set n.toNat w))) c
          | _ => False
        | _ => False
      | _ => False
    | _ => False
  | _ => False
theorem sx_swap3 {st : Stmt} {fj fk : FE} (i : Nat) (h : PS X st (tAsg (tE X.K fa) (gTup X.K 3 (gCons (gSub (tVar i) (tE X.K fb) rSetL) (gCons (gSub (tVar i) (tE X.K fj) rSetL) (gCons (gSub (tVar i) (tE X.K fk) rSetL) gNil)))))) : SX X st (sSwap3 i fa fb fj fk) := PS.imp h fun D σ H ⟨p, c, ρ, F, F0, H0, E, s, h, t⟩ => by
  unfold sSwap3 at h
  split at h
  · rename_i l hi
    obtain ⟨a, xs, e1, e2, e3, e4, e5, r0⟩ := s.own i l hi
    obtain ⟨F2, es, w2, k⟩ := s.lend
    refine ⟨p, c, _, F2, _, es, h, fun y c1 v F1 H1 w1 ok1 r1 q1 => ?_⟩
    split at q1
    · rename_i y z w
      obtain ⟨tp, tys, rfl, ht, rt⟩ := r1
      obtain ⟨v1, r1', rfl, ry, rt2⟩ := rt
      obtain ⟨v2, v3, rfl, rz, rw'⟩ := RepL.two rt2
      refine ⟨tp, [v1, v2, v3], rfl, ok1.sqT ht, rfl, v1, [v2, v3], rfl, _, e1, p, c1, _, F1, _, es.fwd w1 ok1, q1, fun d c4 u F4 H4 w4 ok4 r4 q4 => ?_⟩
      obtain ⟨F3, s1, w3, k1, k2, _⟩ := k c4 F4 H4 (w1.trans w4) ok4
      obtain ⟨a', xs', g1, g2, g3, g4, g5, r0'⟩ := s1.own i l hi
      rw [e1] at g1
      cases g1
      split at q4
      · rename_i j
        cases (show u = .int j from r4)
        obtain ⟨⟨j0, j1⟩, ny, nz, nw, q⟩ := q4
        have hil : i < ρ.length := (List.getElem?_eq_some_iff.mp hi).1
        have s5 := s1.put hi e1 (RepL.set (k1 _ _ ny (ry.mono w4.frz)) j.toNat r0')
        have rz5 := k1 _ _ nz (rz.mono w4.frz)
        have rw5 := k1 _ _ nw (rw'.mono w4.frz)
        refine ⟨a, xs', j, j.toNat, rfl, rfl, g2, by rw [r0'.len]; unfold ixN; rw [if_pos j0, if_pos j1], v2, [v3], rfl, _, e1, ?_⟩
        obtain ⟨F6, es6, w6, k6⟩ := s5.lend
        refine ⟨p, c4, _, F6, _, es6, q, fun d c7 u F7 H7 w7 ok7 r7 q7 => ?_⟩
        obtain ⟨F8, s8, w8, k8, _⟩ := k6 c7 F7 H7 w7 ok7
        have hi8 : (ρ.set i (SV.own (l.set j.toNat y)))[i]? = some (SV.own (l.set j.toNat y)) := List.getElem?_set_self hil
        obtain ⟨a8, xs8, z1, z2, z3, z4, z5, z6⟩ := s8.own i _ hi8
        rw [e1] at z1
        cases z1
        split at q7
        · rename_i m
          cases (show u = .int m from r7)
          obtain ⟨⟨m0, m1⟩, q⟩ := q7
          have hl8 := z6.len
          rw [List.length_set] at hl8
          have s9 := s8.put hi8 e1 (RepL.set (rz5.mono w8.frz) m.toNat z6)
          rw [List.set_set] at s9
          have rw9 := rw5.mono w8.frz
          refine ⟨a, xs8, m, m.toNat, rfl, rfl, z2, by rw [hl8]; unfold ixN; rw [if_pos m0, if_pos m1], v3, [], rfl, _, e1, ?_⟩
          obtain ⟨FA, esA, wA, kA⟩ := s9.lend
          refine ⟨p, c7, _, FA, _, esA, q, fun d cB u FB HB wB okB rB qB => ?_⟩
          obtain ⟨FC, sC, wC, kC, _⟩ := kA cB FB HB wB okB
          have hiC : (ρ.set i (SV.own ((l.set j.toNat y).set m.toNat z)))[i]? = some (SV.own ((l.set j.toNat y).set m.toNat z)) := List.getElem?_set_self hil
          obtain ⟨aC, xsC, y1, y2, y3, y4, y5, y6⟩ := sC.own i _ hiC
          rw [e1] at y1
          cases y1
          split at qB
          · rename_i n
            cases (show u = .int n from rB)
            obtain ⟨⟨n0, n1⟩, q⟩ := qB
            have hlC := y6.len
            rw [List.length_set, List.length_set] at hlC
            refine ⟨a, xsC, n, n.toNat, rfl, rfl, y2, by rw [hlC]; unfold ixN; rw [if_pos n0, if_pos n1], rfl, ?_⟩
            have sD := sC.put hiC e1 (RepL.set (rw9.mono wC.frz) n.toNat y6)
            rw [List.set_set] at sD
            exact t.nx cB _ _ FC _ sD q
          · exact qB.elim
        · exact q7.elim
      · exact q4.elim
    · exact q1.elim
  · exact h.elim
end
end L3

set_option maxHeartbeats 2000000
/-! L5J: a def that makes closures and may raise. -/
namespace L3
open PySem PySem.Spec PyProof.Rows L2
theorem fn3XM {P : Program} {w : World} {K : PySem.W.Frag} {mg : Str → Option Value} {base : Heap} {x qual : Str} {st : Stmt} {f : Addr} {fd : FuncData} {N ps : List Str} {k n : Nat} {m : FMX} {g : (Nat → Obj → Prop) → FS} (kk : Nat) (tab : Nat → Nat × FEX)
    (F : Fun K x qual st f fd) (S : FnScope N ps (defScope st)) (hn : ps.length = n) (hp : ∀ ds c Q QX, m ds c Q QX → ∀ is, g is { nx := fun _ c => Q .non c, rt := Q, xx := QX } (start3 N.length ds) c)
    (hbody : ∀ (cdv : Value) (A : Around) (outer : List Env) (s : Shared) (H : Hp) (E : XK), fd.code = cdv → Room k (A.deeper (envOfC qual (defScope st) s.heap.objs.size f cdv)) → Takes (cxOf (L2.CX P w) P w K mg base N qual (defScope st) f cdv A outer s H E) (fun cls d _ H => E cls d H) →
      PassesOwn (model P w) (A.deeper (envOfC qual (defScope st) s.heap.objs.size f cdv)) (envOfC qual (defScope st) s.heap.objs.size f cdv) (cxOf (L2.CX P w) P w K mg base N qual (defScope st) f cdv A outer s H E).xe → BY (cxOf (L2.CX P w) P w K mg base N qual (defScope st) f cdv A outer s H E) E (defBody st) (g (isM (cxOf (L2.CX P w) P w K mg base N qual (defScope st) f cdv A outer s H E) kk tab))) : FnOk P w K mg base (L2.CX P w) (k + 1) f fd ps (spX K n m) := by
  refine Fun.ok3 F S (fun vs H Q E h => h.1.trans hn.symm) fun cdv A outer s H vs Q E hcd hr ⟨hl, p, c, F1, ds, Q', QX, ok, r, h, t, tx⟩ => ?_
  refine ⟨_, hbody cdv A outer s H E hcd hr (takes_of rfl rfl rfl rfl) (passes_of rfl), p, c, start3 N.length ds, F1, F1, H, _, start_ok ok r, hp ds c Q' QX h _, ⟨fun c ρ σ F' H' s q => ?_, fun _ _ _ _ _ _ q => q.elim, fun _ _ _ _ _ _ q => q.elim, t⟩, tx⟩
  exact t .non c .non F' H' s.ent s.ok rfl q
end L3

set_option maxHeartbeats 4000000
namespace Law45
open PySem PySem.Spec PyProof.Rows
open L2 hiding FnOk Room
open L3
def topS (i : Nat) : Stmt := PySem.Challenge.pw_foldedandsewn_k45_whole_covers_that_clos.main.body.getD i (.Pass ⟨0, 0, 0, 0⟩)
/-- _law_take(pot, upto) -/
def m_law_take : FM := fun ds c Q => match ds with | [.pot, .int n] => (0 < n ∧ n < 1073741824 ∧ c < 1000000) ∧ ∀ d, 0 ≤ d → d < n → Q (.int d) (c + 1) | _ => False
theorem l_law_take : ∀ ds c Q, m_law_take ds c Q → ds.length = 2 := fun ds c Q h => by
  unfold m_law_take at h
  split at h
  · rfl
  · exact h.elim
def errs : List Str := ["BadCover", "BadInt"]
@[simp] theorem errs_BadCover : errs.contains ("BadCover" : Str) = true := by decide
@[simp] theorem errs_BadInt : errs.contains ("BadInt" : Str) = true := by decide
abbrev PW : Program := PySem.Challenge.pw_foldedandsewn_k45_whole_covers_that_clos
def initS : Stmt := match topS 1 with
  | .ClassDef (body := body) .. => body.getD 0 (.Pass ⟨0, 0, 0, 0⟩)
  | s => s
abbrev s_is_int : Stmt := topS 5
theorem sc_is_int : FnScope ["value", "low", "high"] ["value", "low", "high"] (defScope s_is_int) := ⟨rfl, rfl, rfl, by decide +kernel, rfl, by decide +kernel, by decide +kernel⟩
def g_is_int : FS :=
  (sRet (eAnd (eB isiM (aCons (eVar 0) (aCons (eC (.ty "int")) aNil))) (eAnd (eNot (eB isiM (aCons (eVar 0) (aCons (eC (.ty "bool")) aNil)))) (eCh leD leD (eVar 1) (eVar 0) (eVar 2)))))
structure m_is_int (ds : List D) (c : Nat) (Q : KD) : Prop where
  len : ds.length = 3
  run : runM 3 g_is_int ds c Q
theorem p_is_int : ∀ ds c Q, m_is_int ds c Q → runM 3 g_is_int ds c Q := fun _ _ _ h => h.2
theorem l_is_int : ∀ ds c Q, m_is_int ds c Q → ds.length = 3 := fun _ _ _ h => h.1
abbrev s_are_ints : Stmt := topS 6
theorem sc_are_ints : FnScope ["value", "low", "high", "one"] ["value", "low", "high"] (defScope s_are_ints) := ⟨rfl, rfl, rfl, by decide +kernel, rfl, by decide +kernel, by decide +kernel⟩
def g_are_ints : FS :=
  (sRet (eAnd (eB isiM (aCons (eVar 0) (aCons (eC (.ty "tuple")) aNil))) (eB allM (aCons (eF (fComp (iSeq (eVar 0)) (gN 3) tYes3 (eCall m_is_int (aCons (eVar 3) (aCons (eVar 1) (aCons (eVar 2) aNil)))) [3])) aNil))))
structure m_are_ints (ds : List D) (c : Nat) (Q : KD) : Prop where
  len : ds.length = 3
  run : runM 4 g_are_ints ds c Q
theorem p_are_ints : ∀ ds c Q, m_are_ints ds c Q → runM 4 g_are_ints ds c Q := fun _ _ _ h => h.2
theorem l_are_ints : ∀ ds c Q, m_are_ints ds c Q → ds.length = 3 := fun _ _ _ h => h.1
abbrev s_is_told : Stmt := topS 7
theorem sc_is_told : FnScope ["value", "sizes"] ["value", "sizes"] (defScope s_is_told) := ⟨rfl, rfl, rfl, by decide +kernel, rfl, by decide +kernel, by decide +kernel⟩
def g_is_told : FS :=
  (sRet (eAnd (eB isiM (aCons (eVar 0) (aCons (eC (.ty "tuple")) aNil))) (eAnd (eOp inD (eB lenM (aCons (eVar 0) aNil)) (eVar 1)) (eB isiM (aCons (eOp ixD (eVar 0) (eC (.int 0))) (aCons (eC (.ty "str")) aNil))))))
structure m_is_told (ds : List D) (c : Nat) (Q : KD) : Prop where
  len : ds.length = 2
  run : runM 2 g_is_told ds c Q
theorem p_is_told : ∀ ds c Q, m_is_told ds c Q → runM 2 g_is_told ds c Q := fun _ _ _ h => h.2
theorem l_is_told : ∀ ds c Q, m_is_told ds c Q → ds.length = 2 := fun _ _ _ h => h.1
abbrev s_is_cover : Stmt := topS 16
theorem sc_is_cover : FnScope ["value"] ["value"] (defScope s_is_cover) := ⟨rfl, rfl, rfl, by decide +kernel, rfl, by decide +kernel, by decide +kernel⟩
def g_is_cover : FS :=
  (sRet (eAnd (eCall m_are_ints (aCons (eVar 0) (aCons (eC (.int 0)) (aCons (eC (.int 1000000)) aNil)))) (eOp eqD (eB lenM (aCons (eVar 0) aNil)) (eC (.int 5)))))
structure m_is_cover (ds : List D) (c : Nat) (Q : KD) : Prop where
  len : ds.length = 1
  run : runM 1 g_is_cover ds c Q
theorem p_is_cover : ∀ ds c Q, m_is_cover ds c Q → runM 1 g_is_cover ds c Q := fun _ _ _ h => h.2
theorem l_is_cover : ∀ ds c Q, m_is_cover ds c Q → ds.length = 1 := fun _ _ _ h => h.1
abbrev s_look_at_cover : Stmt := topS 17
theorem sc_look_at_cover : FnScope ["cover"] ["cover"] (defScope s_look_at_cover) := ⟨rfl, rfl, rfl, by decide +kernel, rfl, by decide +kernel, by decide +kernel⟩
def g_look_at_cover : FS :=
  (sIf (tN3 (tV (eCall m_is_cover (aCons (eVar 0) aNil))))
  (sRaise "BadCover" (eVar 0))
  sNil)
structure m_look_at_cover (ds : List D) (c : Nat) (Q : KD) (QX : KXD) : Prop where
  len : ds.length = 1
  run : g_look_at_cover { nx := fun _ c => Q .non c, rt := Q, xx := QX } (start3 1 ds) c
theorem p_look_at_cover : ∀ ds c Q QX, m_look_at_cover ds c Q QX → g_look_at_cover { nx := fun _ c => Q .non c, rt := Q, xx := QX } (start3 1 ds) c := fun _ _ _ _ h => h.2
theorem l_look_at_cover : ∀ ds c Q QX, m_look_at_cover ds c Q QX → ds.length = 1 := fun _ _ _ _ h => h.1
theorem l0_look_at_cover : ∀ ds c Q, m0 m_look_at_cover ds c Q → ds.length = 1 := fun _ _ _ h => h.1
abbrev s_told_closes : Stmt := topS 18
theorem sc_told_closes : FnScope ["cover", "thick", "board", "spine", "joint", "hinge", "around"] ["cover"] (defScope s_told_closes) := ⟨rfl, rfl, rfl, by decide +kernel, rfl, by decide +kernel, by decide +kernel⟩
def g_told_closes : FS :=
  (sSeq (sAsg (gT 5 (gsCons (gN 1) (gsCons (gN 2) (gsCons (gN 3) (gsCons (gN 4) (gsCons (gN 5) gsNil)))))) (eVar 0))
  (sSeq (sAsg (gN 6) (eOp addD (eVar 1) (eOp mulD (eC (.int 2)) (eVar 2))))
  (sSeq (sIf (tV (eOp ltD (eOp addD (eVar 3) (eOp mulD (eC (.int 2)) (eVar 4))) (eVar 6)))
  (sRet (eTup (aCons (eC (.str "short")) (aCons (eOp subD (eOp subD (eVar 6) (eVar 3)) (eOp mulD (eC (.int 2)) (eVar 4))) aNil))))
  sNil)
  (sSeq (sIf (tV (eOp gtD (eVar 3) (eOp addD (eVar 6) (eOp mulD (eC (.int 2)) (eVar 4)))))
  (sRet (eTup (aCons (eC (.str "long")) (aCons (eOp subD (eOp subD (eVar 3) (eVar 6)) (eOp mulD (eC (.int 2)) (eVar 4))) aNil))))
  sNil)
  (sRet (eTup (aCons (eC (.str "closes")) aNil)))))))
structure m_told_closes (ds : List D) (c : Nat) (Q : KD) : Prop where
  len : ds.length = 1
  run : runM 7 g_told_closes ds c Q
theorem p_told_closes : ∀ ds c Q, m_told_closes ds c Q → runM 7 g_told_closes ds c Q := fun _ _ _ h => h.2
theorem l_told_closes : ∀ ds c Q, m_told_closes ds c Q → ds.length = 1 := fun _ _ _ h => h.1
abbrev s_closes : Stmt := topS 19
theorem sc_closes : FnScope ["cover"] ["cover"] (defScope s_closes) := ⟨rfl, rfl, rfl, by decide +kernel, rfl, by decide +kernel, by decide +kernel⟩
def g_closes : FS :=
  (sSeq (yExpr (yCall m_look_at_cover (aCons (eVar 0) aNil)))
  (sRet (eCall m_told_closes (aCons (eVar 0) aNil))))
structure m_closes (ds : List D) (c : Nat) (Q : KD) (QX : KXD) : Prop where
  len : ds.length = 1
  run : g_closes { nx := fun _ c => Q .non c, rt := Q, xx := QX } (start3 1 ds) c
theorem p_closes : ∀ ds c Q QX, m_closes ds c Q QX → g_closes { nx := fun _ c => Q .non c, rt := Q, xx := QX } (start3 1 ds) c := fun _ _ _ _ h => h.2
theorem l_closes : ∀ ds c Q QX, m_closes ds c Q QX → ds.length = 1 := fun _ _ _ _ h => h.1
theorem l0_closes : ∀ ds c Q, m0 m_closes ds c Q → ds.length = 1 := fun _ _ _ h => h.1
abbrev s_shows_closes : Stmt := topS 20
theorem sc_shows_closes : FnScope ["cover", "value", "told", "number"] ["cover", "value"] (defScope s_shows_closes) := ⟨rfl, rfl, rfl, by decide +kernel, rfl, by decide +kernel, by decide +kernel⟩
def g_shows_closes : FS :=
  (sSeq (yExpr (yCall m_look_at_cover (aCons (eVar 0) aNil)))
  (sSeq (sAsg (gN 2) (eCall m_told_closes (aCons (eVar 0) aNil)))
  (sSeq (sIf (tO3 (tN3 (tV (eCall m_is_told (aCons (eVar 1) (aCons (eTup (aCons (eC (.int 1)) (aCons (eC (.int 2)) aNil))) aNil))))) (tN3 (tV (eB allM (aCons (eF (fComp (iSeq (eSl (eVar 1) (oSome (eC (.int 1))) oNone)) (gN 3) tYes3 (eCall m_is_int (aCons (eVar 3) (aCons (eC (.int 0)) (aCons (eOp mulD (eC (.int 5)) (eC (.int 1000000))) aNil)))) [3])) aNil)))))
  (sRet (eC (.bl false)))
  sNil)
  (sRet (eOp eqD (eVar 1) (eVar 2))))))
structure m_shows_closes (ds : List D) (c : Nat) (Q : KD) (QX : KXD) : Prop where
  len : ds.length = 2
  run : g_shows_closes { nx := fun _ c => Q .non c, rt := Q, xx := QX } (start3 4 ds) c
theorem p_shows_closes : ∀ ds c Q QX, m_shows_closes ds c Q QX → g_shows_closes { nx := fun _ c => Q .non c, rt := Q, xx := QX } (start3 4 ds) c := fun _ _ _ _ h => h.2
theorem l_shows_closes : ∀ ds c Q QX, m_shows_closes ds c Q QX → ds.length = 2 := fun _ _ _ _ h => h.1
theorem l0_shows_closes : ∀ ds c Q, m0 m_shows_closes ds c Q → ds.length = 2 := fun _ _ _ h => h.1
abbrev s_told_gaps : Stmt := topS 21
theorem sc_told_gaps : FnScope ["cover", "thick", "board", "spine", "joint", "hinge", "least", "greatest"] ["cover"] (defScope s_told_gaps) := ⟨rfl, rfl, rfl, by decide +kernel, rfl, by decide +kernel, by decide +kernel⟩
def g_told_gaps : FS :=
  (sSeq (sAsg (gT 5 (gsCons (gN 1) (gsCons (gN 2) (gsCons (gN 3) (gsCons (gN 4) (gsCons (gN 5) gsNil)))))) (eVar 0))
  (sSeq (sPar 6 7 (aCons (eB max2M (aCons (eC (.int 0)) (aCons (eOp subD (eVar 3) (eOp mulD (eC (.int 2)) (eVar 4))) aNil))) (aCons (eB min2M (aCons (eOp mulD (eC (.int 2)) (eVar 5)) (aCons (eOp addD (eVar 3) (eOp mulD (eC (.int 2)) (eVar 4))) aNil))) aNil)))
  (sRet (eIf3 (tV (eOp leD (eVar 6) (eVar 7))) (eTup (aCons (eVar 6) (aCons (eVar 7) aNil))) (eC .non)))))
structure m_told_gaps (ds : List D) (c : Nat) (Q : KD) : Prop where
  len : ds.length = 1
  run : runM 8 g_told_gaps ds c Q
theorem p_told_gaps : ∀ ds c Q, m_told_gaps ds c Q → runM 8 g_told_gaps ds c Q := fun _ _ _ h => h.2
theorem l_told_gaps : ∀ ds c Q, m_told_gaps ds c Q → ds.length = 1 := fun _ _ _ h => h.1
abbrev s_fits_between : Stmt := topS 22
theorem sc_fits_between : FnScope ["cover", "gap", "thick", "board", "spine", "joint", "hinge"] ["cover", "gap"] (defScope s_fits_between) := ⟨rfl, rfl, rfl, by decide +kernel, rfl, by decide +kernel, by decide +kernel⟩
def g_fits_between : FS :=
  (sSeq (sAsg (gT 5 (gsCons (gN 2) (gsCons (gN 3) (gsCons (gN 4) (gsCons (gN 5) (gsCons (gN 6) gsNil)))))) (eVar 0))
  (sRet (eOp leD (eOp mulD (eVar 4) (eVar 4)) (eOp addD (eOp mulD (eVar 1) (eVar 1)) (eOp mulD (eVar 3) (eVar 3))))))
structure m_fits_between (ds : List D) (c : Nat) (Q : KD) : Prop where
  len : ds.length = 2
  run : runM 7 g_fits_between ds c Q
theorem p_fits_between : ∀ ds c Q, m_fits_between ds c Q → runM 7 g_fits_between ds c Q := fun _ _ _ h => h.2
theorem l_fits_between : ∀ ds c Q, m_fits_between ds c Q → ds.length = 2 := fun _ _ _ h => h.1
abbrev s_told_flat : Stmt := topS 23
theorem sc_told_flat : FnScope ["cover", "gaps", "thick", "board", "spine", "joint", "hinge"] ["cover"] (defScope s_told_flat) := ⟨rfl, rfl, rfl, by decide +kernel, rfl, by decide +kernel, by decide +kernel⟩
def g_told_flat : FS :=
  (sSeq (sAsg (gN 1) (eCall m_told_gaps (aCons (eVar 0) aNil)))
  (sSeq (sAsg (gT 5 (gsCons (gN 2) (gsCons (gN 3) (gsCons (gN 4) (gsCons (gN 5) (gsCons (gN 6) gsNil)))))) (eVar 0))
  (sSeq (sIf (tV (eOp isD (eVar 1) (eC .non)))
  (sRet (eTup (aCons (eC (.str "long")) (aCons (eOp subD (eOp subD (eVar 4) (eOp mulD (eC (.int 2)) (eVar 5))) (eOp mulD (eC (.int 2)) (eVar 6))) aNil))))
  sNil)
  (sSeq (sIf (tV (eCall m_fits_between (aCons (eVar 0) (aCons (eOp ixD (eVar 1) (eC (.int 1))) aNil))))
  (sRet (eTup (aCons (eC (.str "flat")) (aCons (eOp ixD (eVar 1) (eC (.int 1))) aNil))))
  sNil)
  (sRet (eTup (aCons (eC (.str "short")) (aCons (eOp ixD (eVar 1) (eC (.int 1))) (aCons (eOp subD (eOp subD (eOp mulD (eVar 4) (eVar 4)) (eOp mulD (eOp ixD (eVar 1) (eC (.int 1))) (eOp ixD (eVar 1) (eC (.int 1))))) (eOp mulD (eVar 3) (eVar 3))) aNil)))))))))
structure m_told_flat (ds : List D) (c : Nat) (Q : KD) : Prop where
  len : ds.length = 1
  run : runM 7 g_told_flat ds c Q
theorem p_told_flat : ∀ ds c Q, m_told_flat ds c Q → runM 7 g_told_flat ds c Q := fun _ _ _ h => h.2
theorem l_told_flat : ∀ ds c Q, m_told_flat ds c Q → ds.length = 1 := fun _ _ _ h => h.1
abbrev s_opens_flat : Stmt := topS 24
theorem sc_opens_flat : FnScope ["cover"] ["cover"] (defScope s_opens_flat) := ⟨rfl, rfl, rfl, by decide +kernel, rfl, by decide +kernel, by decide +kernel⟩
def g_opens_flat : FS :=
  (sSeq (yExpr (yCall m_look_at_cover (aCons (eVar 0) aNil)))
  (sRet (eCall m_told_flat (aCons (eVar 0) aNil))))
structure m_opens_flat (ds : List D) (c : Nat) (Q : KD) (QX : KXD) : Prop where
  len : ds.length = 1
  run : g_opens_flat { nx := fun _ c => Q .non c, rt := Q, xx := QX } (start3 1 ds) c
theorem p_opens_flat : ∀ ds c Q QX, m_opens_flat ds c Q QX → g_opens_flat { nx := fun _ c => Q .non c, rt := Q, xx := QX } (start3 1 ds) c := fun _ _ _ _ h => h.2
theorem l_opens_flat : ∀ ds c Q QX, m_opens_flat ds c Q QX → ds.length = 1 := fun _ _ _ _ h => h.1
theorem l0_opens_flat : ∀ ds c Q, m0 m_opens_flat ds c Q → ds.length = 1 := fun _ _ _ h => h.1
abbrev s_shows_opens_flat : Stmt := topS 25
theorem sc_shows_opens_flat : FnScope ["cover", "value", "number", "gaps"] ["cover", "value"] (defScope s_shows_opens_flat) := ⟨rfl, rfl, rfl, by decide +kernel, rfl, by decide +kernel, by decide +kernel⟩
def g_shows_opens_flat : FS :=
  (sSeq (yExpr (yCall m_look_at_cover (aCons (eVar 0) aNil)))
  (sSeq (sIf (tO3 (tN3 (tV (eCall m_is_told (aCons (eVar 1) (aCons (eTup (aCons (eC (.int 2)) (aCons (eC (.int 3)) aNil))) aNil))))) (tN3 (tV (eB allM (aCons (eF (fComp (iSeq (eSl (eVar 1) (oSome (eC (.int 1))) oNone)) (gN 2) tYes3 (eCall m_is_int (aCons (eVar 2) (aCons (eC (.int 0)) (aCons (eOp powD (eC (.int 1000000)) (eC (.int 2))) aNil)))) [2])) aNil)))))
  (sRet (eC (.bl false)))
  sNil)
  (sSeq (sAsg (gN 3) (eCall m_told_gaps (aCons (eVar 0) aNil)))
  (sSeq (sIf (tA3 (tV (eOp eqD (eOp ixD (eVar 1) (eC (.int 0))) (eC (.str "flat")))) (tV (eOp eqD (eB lenM (aCons (eVar 1) aNil)) (eC (.int 2)))))
  (sRet (eAnd (eOp isNotD (eVar 3) (eC .non)) (eAnd (eCh leD leD (eOp ixD (eVar 3) (eC (.int 0))) (eOp ixD (eVar 1) (eC (.int 1))) (eOp ixD (eVar 3) (eC (.int 1)))) (eCall m_fits_between (aCons (eVar 0) (aCons (eOp ixD (eVar 1) (eC (.int 1))) aNil))))))
  sNil)
  (sRet (eOp eqD (eVar 1) (eCall m_told_flat (aCons (eVar 0) aNil))))))))
structure m_shows_opens_flat (ds : List D) (c : Nat) (Q : KD) (QX : KXD) : Prop where
  len : ds.length = 2
  run : g_shows_opens_flat { nx := fun _ c => Q .non c, rt := Q, xx := QX } (start3 4 ds) c
theorem p_shows_opens_flat : ∀ ds c Q QX, m_shows_opens_flat ds c Q QX → g_shows_opens_flat { nx := fun _ c => Q .non c, rt := Q, xx := QX } (start3 4 ds) c := fun _ _ _ _ h => h.2
theorem l_shows_opens_flat : ∀ ds c Q QX, m_shows_opens_flat ds c Q QX → ds.length = 2 := fun _ _ _ _ h => h.1
theorem l0_shows_opens_flat : ∀ ds c Q, m0 m_shows_opens_flat ds c Q → ds.length = 2 := fun _ _ _ h => h.1
abbrev s_least_number : Stmt := topS 26
theorem sc_least_number : FnScope ["is_enough", "most", "low", "high", "half"] ["is_enough", "most"] (defScope s_least_number) := ⟨rfl, rfl, rfl, by decide +kernel, rfl, by decide +kernel, by decide +kernel⟩
def g_least_number (TT : TLs) : FS :=
  (sSeq (sIf (tN3 (tV (eAct TT (eVar 0) (aCons (eVar 1) aNil))))
  (sRet (eC .non))
  sNil)
  (sSeq (sPar 2 3 (aCons (eUn negD (eC (.int 1))) (aCons (eVar 1) aNil)))
  (sSeq (sWhile (tV (eOp gtD (eOp subD (eVar 3) (eVar 2)) (eC (.int 1))))
  (sSeq (sAsg (gN 4) (eOp fdivD (eOp addD (eVar 2) (eVar 3)) (eC (.int 2))))
  (sAsg (gT 2 (gsCons (gN 2) (gsCons (gN 3) gsNil))) (eIf3 (tV (eAct TT (eVar 0) (aCons (eVar 4) aNil))) (eTup (aCons (eVar 2) (aCons (eVar 4) aNil))) (eTup (aCons (eVar 4) (aCons (eVar 3) aNil)))))))
  (sRet (eVar 3)))))
structure m_least_number (TT : TLs) (ds : List D) (c : Nat) (Q : KD) : Prop where
  len : ds.length = 2
  run : runM 5 (g_least_number TT) ds c Q
theorem p_least_number (TT : TLs) : ∀ ds c Q, m_least_number TT ds c Q → runM 5 (g_least_number TT) ds c Q := fun _ _ _ h => h.2
theorem l_least_number (TT : TLs) : ∀ ds c Q, m_least_number TT ds c Q → ds.length = 2 := fun _ _ _ h => h.1
abbrev s_least_hinge : Stmt := topS 27
theorem sc_least_hinge : FnScope ["cover"] ["cover"] (defScope s_least_hinge) := ⟨rfl, rfl, rfl, by decide +kernel, rfl, by decide +kernel, by decide +kernel⟩
def tab_least_hinge : Nat → Nat × FEX
  | 0 => (1, (fun ρ c Q _ => (eOp eqD (eOp ixD (eCall m_told_flat (aCons (eTup (aStar (eSl (eVar 0) oNone (oSome (eOp subD (eC (.int 5)) (eC (.int 1))))) (aCons (eVar 1) aNil))) aNil)) (eC (.int 0))) (eC (.str "flat"))) ρ c Q))
  | _ => (0, fun _ _ _ _ => False)
def g_least_hinge (is : Nat → Obj → Prop) : FS :=
  (sSeq (yExpr (yCall m_look_at_cover (aCons (eVar 0) aNil)))
  (sRet (eCallG is tab_least_hinge m_least_number (aCons (eMk is 0) (aCons (eC (.int 1000000)) aNil)))))
structure m_least_hinge (ds : List D) (c : Nat) (Q : KD) (QX : KXD) : Prop where
  len : ds.length = 1
  run : ∀ is, g_least_hinge is { nx := fun _ c => Q .non c, rt := Q, xx := QX } (start3 1 ds) c
theorem p_least_hinge : ∀ ds c Q QX, m_least_hinge ds c Q QX → ∀ is, g_least_hinge is { nx := fun _ c => Q .non c, rt := Q, xx := QX } (start3 1 ds) c := fun _ _ _ _ h => h.2
theorem l_least_hinge : ∀ ds c Q QX, m_least_hinge ds c Q QX → ds.length = 1 := fun _ _ _ _ h => h.1
theorem l0_least_hinge : ∀ ds c Q, m0 m_least_hinge ds c Q → ds.length = 1 := fun _ _ _ h => h.1
abbrev s_spines_for : Stmt := topS 28
theorem sc_spines_for : FnScope ["thick", "board", "joint", "hinge", "number", "around", "least", "low", "high", "half"] ["thick", "board", "joint", "hinge"] (defScope s_spines_for) := ⟨rfl, rfl, rfl, by decide +kernel, rfl, by decide +kernel, by decide +kernel⟩
def g_spines_for : FS :=
  (sSeq (sFor (iSeq (eTup (aCons (eVar 0) (aCons (eVar 1) (aCons (eVar 2) (aCons (eVar 3) aNil)))))) (gN 4)
  (sIf (tN3 (tV (eCall m_is_int (aCons (eVar 4) (aCons (eC (.int 0)) (aCons (eC (.int 1000000)) aNil))))))
  (sRaise "BadInt" (eVar 4))
  sNil))
  (sSeq (sAsg (gN 5) (eOp addD (eVar 0) (eOp mulD (eC (.int 2)) (eVar 1))))
  (sSeq (sAsg (gN 6) (eB max2M (aCons (eC (.int 0)) (aCons (eOp subD (eVar 5) (eOp mulD (eC (.int 2)) (eVar 2))) aNil))))
  (sSeq (sIf (tV (eOp neD (eOp ixD (eCall m_told_flat (aCons (eTup (aCons (eVar 0) (aCons (eVar 1) (aCons (eVar 6) (aCons (eVar 2) (aCons (eVar 3) aNil)))))) aNil)) (eC (.int 0))) (eC (.str "flat"))))
  (sRet (eC .non))
  sNil)
  (sSeq (sPar 7 8 (aCons (eVar 6) (aCons (eOp addD (eOp addD (eVar 5) (eOp mulD (eC (.int 2)) (eVar 2))) (eC (.int 1))) aNil)))
  (sSeq (sWhile (tV (eOp gtD (eOp subD (eVar 8) (eVar 7)) (eC (.int 1))))
  (sSeq (sAsg (gN 9) (eOp fdivD (eOp addD (eVar 7) (eVar 8)) (eC (.int 2))))
  (sAsg (gT 2 (gsCons (gN 7) (gsCons (gN 8) gsNil))) (eIf3 (tV (eOp eqD (eOp ixD (eCall m_told_flat (aCons (eTup (aCons (eVar 0) (aCons (eVar 1) (aCons (eVar 9) (aCons (eVar 2) (aCons (eVar 3) aNil)))))) aNil)) (eC (.int 0))) (eC (.str "flat")))) (eTup (aCons (eVar 9) (aCons (eVar 8) aNil))) (eTup (aCons (eVar 7) (aCons (eVar 9) aNil)))))))
  (sRet (eTup (aCons (eVar 6) (aCons (eVar 7) aNil))))))))))
structure m_spines_for (ds : List D) (c : Nat) (Q : KD) (QX : KXD) : Prop where
  len : ds.length = 4
  run : g_spines_for { nx := fun _ c => Q .non c, rt := Q, xx := QX } (start3 10 ds) c
theorem p_spines_for : ∀ ds c Q QX, m_spines_for ds c Q QX → g_spines_for { nx := fun _ c => Q .non c, rt := Q, xx := QX } (start3 10 ds) c := fun _ _ _ _ h => h.2
theorem l_spines_for : ∀ ds c Q QX, m_spines_for ds c Q QX → ds.length = 4 := fun _ _ _ _ h => h.1
theorem l0_spines_for : ∀ ds c Q, m0 m_spines_for ds c Q → ds.length = 4 := fun _ _ _ h => h.1
abbrev s_law_pot : Stmt := topS 30
theorem sc_law_pot : FnScope ["script", "place", "cell", "own", "small"] ["script", "place"] (defScope s_law_pot) := ⟨rfl, rfl, rfl, by decide +kernel, rfl, by decide +kernel, by decide +kernel⟩
def g_law_pot : FSF :=
  (sThenF (sAsg (gN 2) (eIf3 (tV (eOp ltD (eVar 1) (eB lenM (aCons (eVar 0) aNil)))) (eOp ixD (eVar 0) (eVar 1)) (eOp addD (eOp addD (eOp modD (eB intM (aCons (eB sum2M (aCons (eSl (eVar 0) oNone (oSome (eC (.int 1)))) aNil)) aNil)) (eC (.int 1000249))) (eOp mulD (eC (.int 6421)) (eVar 1))) (eC (.int 3907)))))
  (sThenF (sAsg (gN 3) (eOp mulD (eOp modD (eB intM (aCons (eB absM (aCons (eVar 2) aNil)) aNil)) (eOp powD (eOp powD (eC (.int 10)) (eC (.int 60))) (eC (.int 5)))) (eB intM (aCons (eOp geD (eB absM (aCons (eVar 2) aNil)) (eOp powD (eC (.int 10)) (eC (.int 18)))) aNil))))
  (sThenF (sAsg (gN 4) (eOp modD (eB intM (aCons (eVar 2) aNil)) (eC (.int 2305843009213693951))))
  (sRetF (fLst (aCons (eVar 3) (aCons (eOp modD (eB intM (aCons (eOp addD (eOp addD (eOp mulD (eVar 4) (eC (.int 92003))) (eOp mulD (eOp mulD (eC (.int 12899)) (eVar 1)) (eVar 1))) (eC (.int 3407))) aNil)) (eC (.int 2305843009213693921))) (aCons (eC (.int 0)) aNil))))))))
structure m_law_pot (ds : List D) (c : Nat) (Q : List D → Nat → Prop) : Prop where
  len : ds.length = 2
  run : g_law_pot Q (start3 5 ds) c
theorem p_law_pot : ∀ ds c Q, m_law_pot ds c Q → g_law_pot Q (start3 5 ds) c := fun _ _ _ h => h.2
theorem l_law_pot : ∀ ds c Q, m_law_pot ds c Q → ds.length = 2 := fun _ _ _ h => h.1
abbrev s_law_take : Stmt := topS 31
theorem sc_law_take : FnScope ["pot", "upto", "digit", "prime", "blend"] ["pot", "upto"] (defScope s_law_take) := ⟨rfl, rfl, rfl, by decide +kernel, rfl, by decide +kernel, by decide +kernel⟩
def g_law_take : FS :=
  (sSeq (sIf (tV (eOp gtD (ePot 0 0) (eC (.int 0))))
  (sSeq (sAsg (gN 2) (eOp modD (eB intM (aCons (ePot 0 0) aNil)) (eVar 1)))
  (sSeq (sPot 0 0 (eOp fdivD (ePot 0 0) (eVar 1)))
  (sRet (eVar 2))))
  sNil)
  (sSeq (sPot 0 2 (eOp addD (ePot 0 2) (eC (.int 1))))
  (sSeq (sAsg (gN 3) (eOp ixD (eLst (aCons (eC (.int 2147483647)) (aCons (eC (.int 2147483629)) (aCons (eC (.int 2147483587)) (aCons (eC (.int 2147483579)) (aCons (eC (.int 2147483563)) aNil)))))) (eOp modD (eB intM (aCons (ePot 0 2) aNil)) (eC (.int 5)))))
  (sSeq (sAsg (gN 4) (eOp modD (eB intM (aCons (eOp powD (eB intM (aCons (eOp addD (eOp addD (ePot 0 1) (eOp mulD (eOp mulD (eC (.int 102811)) (ePot 0 2)) (ePot 0 2))) (eC (.int 3907))) aNil)) (eC (.int 3))) aNil)) (eVar 3)))
  (sSeq (sAsg (gN 4) (eOp modD (eB intM (aCons (eOp mulD (eVar 4) (eOp addD (eOp modD (eB intM (aCons (eVar 4) aNil)) (eC (.int 13049))) (eOp mulD (eC (.int 421)) (ePot 0 2)))) aNil)) (eC (.int 2305843009213693907))))
  (sRet (eOp modD (eB intM (aCons (eOp fdivD (eVar 4) (eC (.int 263))) aNil)) (eVar 1))))))))
abbrev s_law_of : Stmt := topS 32
theorem sc_law_of : FnScope ["pot", "some"] ["pot", "some"] (defScope s_law_of) := ⟨rfl, rfl, rfl, by decide +kernel, rfl, by decide +kernel, by decide +kernel⟩
def g_law_of : FS :=
  (sRet (eOp ixD (eVar 1) (eCall m_law_take (aCons (eVar 0) (aCons (eB lenM (aCons (eVar 1) aNil)) aNil)))))
structure m_law_of (ds : List D) (c : Nat) (Q : KD) : Prop where
  len : ds.length = 2
  run : runM 2 g_law_of ds c Q
theorem p_law_of : ∀ ds c Q, m_law_of ds c Q → runM 2 g_law_of ds c Q := fun _ _ _ h => h.2
theorem l_law_of : ∀ ds c Q, m_law_of ds c Q → ds.length = 2 := fun _ _ _ h => h.1
abbrev s_law_cells : Stmt := topS 33
theorem sc_law_cells : FnScope ["script", "most"] ["script", "most"] (defScope s_law_cells) := ⟨rfl, rfl, rfl, by decide +kernel, rfl, by decide +kernel, by decide +kernel⟩
def g_law_cells : FS :=
  (sRet (eF (fRange1 (aCons (eB max2M (aCons (eC (.int 1)) (aCons (eB min2M (aCons (eVar 1) (aCons (eB lenM (aCons (eVar 0) aNil)) aNil))) aNil))) aNil))))
structure m_law_cells (ds : List D) (c : Nat) (Q : KD) : Prop where
  len : ds.length = 2
  run : runM 2 g_law_cells ds c Q
theorem p_law_cells : ∀ ds c Q, m_law_cells ds c Q → runM 2 g_law_cells ds c Q := fun _ _ _ h => h.2
theorem l_law_cells : ∀ ds c Q, m_law_cells ds c Q → ds.length = 2 := fun _ _ _ h => h.1
abbrev s_law_heard : Stmt := topS 34
theorem sc_law_heard : FnScope ["call", "caught", "gave", "error"] ["call"] (defScope s_law_heard) := ⟨rfl, rfl, rfl, by decide +kernel, rfl, by decide +kernel, by decide +kernel⟩
def g_law_heard (TT : TLs) : FS :=
  (sSeq (sAsg (gT 2 (gsCons (gN 1) (gsCons (gN 2) gsNil))) (eTup (aCons (eC .non) (aCons (eC .non) aNil))))
  (sSeq (sTryC errs 3 1 (gN 2) (yAct TT (eVar 0) aNil))
  (sRet (eTup (aCons (eVar 1) (aCons (eVar 2) aNil))))))
structure m_law_heard (TT : TLs) (ds : List D) (c : Nat) (Q : KD) : Prop where
  len : ds.length = 1
  run : runM 4 (g_law_heard TT) ds c Q
theorem p_law_heard (TT : TLs) : ∀ ds c Q, m_law_heard TT ds c Q → runM 4 (g_law_heard TT) ds c Q := fun _ _ _ h => h.2
theorem l_law_heard (TT : TLs) : ∀ ds c Q, m_law_heard TT ds c Q → ds.length = 1 := fun _ _ _ h => h.1
abbrev s_law_odd : Stmt := topS 35
theorem sc_law_odd : FnScope ["pot", "some"] ["pot"] (defScope s_law_odd) := ⟨rfl, rfl, rfl, by decide +kernel, rfl, by decide +kernel, by decide +kernel⟩
def g_law_odd : FS :=
  (sSeq (sOwnF 1 (fLst (aCons (eC .non) (aCons (eC (.bl true)) (aCons (eC (.bl false)) (aCons (eC (.int 0)) (aCons (eC (.int 1)) (aCons (eUn negD (eC (.int 1))) (aCons (eC (.int 33)) (aCons (eOp powD (eC (.int 10)) (eC (.int 20))) (aCons (eC (.str "")) (aCons (eC (.str "a")) (aCons (eC (.str "flat")) (aCons (eC (.str "short")) (aCons (eTup aNil) (aCons (eLst aNil) (aCons (eC (.dct (.k []) [])) (aCons (eTup (aCons (eC (.int 0)) aNil)) (aCons (eTup (aCons (eTup aNil) aNil)) (aCons (eLst (aCons (eC (.int 0)) aNil)) (aCons (eTup (aCons (eC (.int 0)) (aCons (eC (.int 1)) aNil))) aNil)))))))))))))))))))))
  (sSeq (sFrz 1 (sOwnF 1 (fCat (eVar 1) (eLst (aCons (eTup (aCons (eC (.int 1)) (aCons (eC (.int 0)) aNil))) (aCons (eTup (aCons (eC .non) aNil)) (aCons (eC (.dct (.k [.inr "a"]) [.int 1])) (aCons (eTup (aCons (eTup (aCons (eC (.int 0)) (aCons (eC (.int 1)) aNil))) (aCons (eTup (aCons (eC (.int 1)) (aCons (eC (.int 2)) aNil))) aNil))) (aCons (eTup (aCons (eC (.str "cuts")) (aCons (eTup aNil) aNil))) (aCons (eTup (aCons (eC (.str "short")) (aCons (eC (.int 18)) (aCons (eC (.int 67)) aNil)))) aNil))))))))))
  (sSeq (sApp 1 (eTup (aCons (eC (.int 3)) (aCons (eC (.int 1)) aNil))))
  (sRet (eCall m_law_of (aCons (eVar 0) (aCons (eVar 1) aNil)))))))
structure m_law_odd (ds : List D) (c : Nat) (Q : KD) : Prop where
  len : ds.length = 1
  run : runM 2 g_law_odd ds c Q
theorem p_law_odd : ∀ ds c Q, m_law_odd ds c Q → runM 2 g_law_odd ds c Q := fun _ _ _ h => h.2
theorem l_law_odd : ∀ ds c Q, m_law_odd ds c Q → ds.length = 1 := fun _ _ _ h => h.1
abbrev s_law_is_int : Stmt := topS 36
theorem sc_law_is_int : FnScope ["value", "low", "high"] ["value", "low", "high"] (defScope s_law_is_int) := ⟨rfl, rfl, rfl, by decide +kernel, rfl, by decide +kernel, by decide +kernel⟩
def g_law_is_int : FS :=
  (sRet (eAnd (eB isiM (aCons (eVar 0) (aCons (eC (.ty "int")) aNil))) (eAnd (eNot (eB isiM (aCons (eVar 0) (aCons (eC (.ty "bool")) aNil)))) (eCh leD leD (eVar 1) (eVar 0) (eVar 2)))))
structure m_law_is_int (ds : List D) (c : Nat) (Q : KD) : Prop where
  len : ds.length = 3
  run : runM 3 g_law_is_int ds c Q
theorem p_law_is_int : ∀ ds c Q, m_law_is_int ds c Q → runM 3 g_law_is_int ds c Q := fun _ _ _ h => h.2
theorem l_law_is_int : ∀ ds c Q, m_law_is_int ds c Q → ds.length = 3 := fun _ _ _ h => h.1
abbrev s_law_bent : Stmt := topS 37
theorem sc_law_bent : FnScope ["pot", "value", "at"] ["pot", "value"] (defScope s_law_bent) := ⟨rfl, rfl, rfl, by decide +kernel, rfl, by decide +kernel, by decide +kernel⟩
def g_law_bent (mr : FM) : FS :=
  (sSeq (sIf (tA3 (tV (eB isiM (aCons (eVar 1) (aCons (eC (.ty "tuple")) aNil)))) (tA3 (tV (eOp neD (eVar 1) (eTup aNil))) (tV (eOp gtD (eCall m_law_take (aCons (eVar 0) (aCons (eC (.int 5)) aNil))) (eC (.int 0))))))
  (sSeq (sAsg (gN 2) (eCall m_law_take (aCons (eVar 0) (aCons (eB lenM (aCons (eVar 1) aNil)) aNil))))
  (sRet (eOp addD (eOp addD (eSl (eVar 1) oNone (oSome (eVar 2))) (eTup (aCons (eCall mr (aCons (eVar 0) (aCons (eOp ixD (eVar 1) (eVar 2)) aNil))) aNil))) (eSl (eVar 1) (oSome (eOp addD (eVar 2) (eC (.int 1)))) oNone))))
  sNil)
  (sSeq (sIf (tV (eB isiM (aCons (eVar 1) (aCons (eC (.ty "tuple")) aNil))))
  (sRet (eCall m_law_of (aCons (eVar 0) (aCons (eLst (aCons (eF (fList (eVar 1))) (aCons (eSl (eVar 1) (oSome (eC (.int 1))) oNone) (aCons (eSl (eVar 1) oNone (oSome (eUn negD (eC (.int 1))))) (aCons (eOp addD (eVar 1) (eSl (eVar 1) (oSome (eUn negD (eC (.int 1)))) oNone)) (aCons (eUn revD (eVar 1)) (aCons (eTup aNil) (aCons (eC .non) aNil)))))))) aNil))))
  sNil)
  (sSeq (sIf (tV (eB isiM (aCons (eVar 1) (aCons (eC (.ty "bool")) aNil))))
  (sRet (eCall m_law_of (aCons (eVar 0) (aCons (eLst (aCons (eNot (eVar 1)) (aCons (eB intM (aCons (eVar 1) aNil)) (aCons (eC .non) aNil)))) aNil))))
  sNil)
  (sSeq (sIf (tV (eB isiM (aCons (eVar 1) (aCons (eC (.ty "int")) aNil))))
  (sRet (eCall m_law_of (aCons (eVar 0) (aCons (eLst (aCons (eOp addD (eVar 1) (eC (.int 1))) (aCons (eOp subD (eVar 1) (eC (.int 1))) (aCons (eOp subD (eUn negD (eVar 1)) (eC (.int 1))) (aCons (eB strIM (aCons (eVar 1) aNil)) (aCons (eOp eqD (eVar 1) (eC (.int 1))) (aCons (eC .non) (aCons (eTup (aCons (eVar 1) aNil)) (aCons (eOp powD (eC (.int 10)) (eC (.int 9))) aNil))))))))) aNil))))
  sNil)
  (sSeq (sIf (tV (eB isiM (aCons (eVar 1) (aCons (eC (.ty "str")) aNil))))
  (sRet (eCall m_law_of (aCons (eVar 0) (aCons (eLst (aCons (eOp addD (eVar 1) (eC (.str "a"))) (aCons (eSlS (eVar 1) (oSome (eC (.int 1))) oNone) (aCons (eUn upperD (eVar 1)) (aCons (eC (.str "")) (aCons (eC .non) (aCons (eC (.int 0)) aNil))))))) aNil))))
  sNil)
  (sRet (eCall m_law_odd (aCons (eVar 0) aNil))))))))
def m_law_bent : Nat → FM
  | 0 => fun _ _ _ => False
  | n + 1 => fun ds c Q => ds.length = 2 ∧ runM 3 (g_law_bent (m_law_bent n)) ds c Q
theorem l_law_bent : ∀ (n : Nat) ds c Q, m_law_bent n ds c Q → ds.length = 2
  | 0, _, _, _, h => h.elim
  | _ + 1, _, _, _, h => h.1
abbrev s_law_is_bool : Stmt := topS 38
theorem sc_law_is_bool : FnScope ["told", "due"] ["told", "due"] (defScope s_law_is_bool) := ⟨rfl, rfl, rfl, by decide +kernel, rfl, by decide +kernel, by decide +kernel⟩
def g_law_is_bool : FS :=
  (sRet (eAnd (eB isiM (aCons (eVar 0) (aCons (eC (.ty "bool")) aNil))) (eOp eqD (eVar 0) (eVar 1))))
structure m_law_is_bool (ds : List D) (c : Nat) (Q : KD) : Prop where
  len : ds.length = 2
  run : runM 2 g_law_is_bool ds c Q
theorem p_law_is_bool : ∀ ds c Q, m_law_is_bool ds c Q → runM 2 g_law_is_bool ds c Q := fun _ _ _ h => h.2
theorem l_law_is_bool : ∀ ds c Q, m_law_is_bool ds c Q → ds.length = 2 := fun _ _ _ h => h.1
abbrev s_law_closes : Stmt := topS 39
theorem sc_law_closes : FnScope ["cover", "thick", "board", "spine", "joint", "hinge", "around"] ["cover"] (defScope s_law_closes) := ⟨rfl, rfl, rfl, by decide +kernel, rfl, by decide +kernel, by decide +kernel⟩
def g_law_closes : FS :=
  (sSeq (sAsg (gT 5 (gsCons (gN 1) (gsCons (gN 2) (gsCons (gN 3) (gsCons (gN 4) (gsCons (gN 5) gsNil)))))) (eVar 0))
  (sSeq (sAsg (gN 6) (eOp addD (eVar 1) (eOp mulD (eC (.int 2)) (eVar 2))))
  (sSeq (sIf (tV (eOp ltD (eOp addD (eVar 3) (eOp mulD (eC (.int 2)) (eVar 4))) (eVar 6)))
  (sRet (eTup (aCons (eC (.str "short")) (aCons (eOp subD (eOp subD (eVar 6) (eVar 3)) (eOp mulD (eC (.int 2)) (eVar 4))) aNil))))
  sNil)
  (sRet (eIf3 (tV (eOp gtD (eVar 3) (eOp addD (eVar 6) (eOp mulD (eC (.int 2)) (eVar 4))))) (eTup (aCons (eC (.str "long")) (aCons (eOp subD (eOp subD (eVar 3) (eVar 6)) (eOp mulD (eC (.int 2)) (eVar 4))) aNil))) (eTup (aCons (eC (.str "closes")) aNil)))))))
structure m_law_closes (ds : List D) (c : Nat) (Q : KD) : Prop where
  len : ds.length = 1
  run : runM 7 g_law_closes ds c Q
theorem p_law_closes : ∀ ds c Q, m_law_closes ds c Q → runM 7 g_law_closes ds c Q := fun _ _ _ h => h.2
theorem l_law_closes : ∀ ds c Q, m_law_closes ds c Q → ds.length = 1 := fun _ _ _ h => h.1
abbrev s_law_can_gap : Stmt := topS 40
theorem sc_law_can_gap : FnScope ["cover", "gap", "thick", "board", "spine", "joint", "hinge"] ["cover", "gap"] (defScope s_law_can_gap) := ⟨rfl, rfl, rfl, by decide +kernel, rfl, by decide +kernel, by decide +kernel⟩
def g_law_can_gap : FS :=
  (sSeq (sAsg (gT 5 (gsCons (gN 2) (gsCons (gN 3) (gsCons (gN 4) (gsCons (gN 5) (gsCons (gN 6) gsNil)))))) (eVar 0))
  (sSeq (sIf (tO3 (tV (eOp ltD (eVar 1) (eC (.int 0)))) (tO3 (tV (eOp gtD (eVar 1) (eOp mulD (eC (.int 2)) (eVar 6)))) (tO3 (tV (eOp gtD (eVar 1) (eOp addD (eVar 4) (eOp mulD (eC (.int 2)) (eVar 5))))) (tV (eOp ltD (eVar 1) (eOp subD (eVar 4) (eOp mulD (eC (.int 2)) (eVar 5))))))))
  (sRet (eC (.bl false)))
  sNil)
  (sRet (eOr (eOp leD (eVar 4) (eVar 1)) (eOp leD (eOp powD (eVar 4) (eC (.int 2))) (eOp addD (eOp powD (eVar 1) (eC (.int 2))) (eOp powD (eVar 3) (eC (.int 2)))))))))
structure m_law_can_gap (ds : List D) (c : Nat) (Q : KD) : Prop where
  len : ds.length = 2
  run : runM 7 g_law_can_gap ds c Q
theorem p_law_can_gap : ∀ ds c Q, m_law_can_gap ds c Q → runM 7 g_law_can_gap ds c Q := fun _ _ _ h => h.2
theorem l_law_can_gap : ∀ ds c Q, m_law_can_gap ds c Q → ds.length = 2 := fun _ _ _ h => h.1
abbrev s_law_greatest : Stmt := topS 41
theorem sc_law_greatest : FnScope ["cover", "thick", "board", "spine", "joint", "hinge", "most"] ["cover"] (defScope s_law_greatest) := ⟨rfl, rfl, rfl, by decide +kernel, rfl, by decide +kernel, by decide +kernel⟩
def g_law_greatest : FS :=
  (sSeq (sAsg (gT 5 (gsCons (gN 1) (gsCons (gN 2) (gsCons (gN 3) (gsCons (gN 4) (gsCons (gN 5) gsNil)))))) (eVar 0))
  (sSeq (sAsg (gN 6) (eB min2M (aCons (eOp mulD (eC (.int 2)) (eVar 5)) (aCons (eOp addD (eVar 3) (eOp mulD (eC (.int 2)) (eVar 4))) aNil))))
  (sRet (eIf3 (tV (eOp geD (eVar 6) (eOp subD (eVar 3) (eOp mulD (eC (.int 2)) (eVar 4))))) (eVar 6) (eC .non)))))
structure m_law_greatest (ds : List D) (c : Nat) (Q : KD) : Prop where
  len : ds.length = 1
  run : runM 7 g_law_greatest ds c Q
theorem p_law_greatest : ∀ ds c Q, m_law_greatest ds c Q → runM 7 g_law_greatest ds c Q := fun _ _ _ h => h.2
theorem l_law_greatest : ∀ ds c Q, m_law_greatest ds c Q → ds.length = 1 := fun _ _ _ h => h.1
abbrev s_law_is_due : Stmt := topS 42
theorem sc_law_is_due : FnScope ["cover", "value", "number", "most", "thick", "board", "spine", "joint", "hinge"] ["cover", "value"] (defScope s_law_is_due) := ⟨rfl, rfl, rfl, by decide +kernel, rfl, by decide +kernel, by decide +kernel⟩
def g_law_is_due_t1 : FS :=
  (sRet (eAnd (eOp eqD (eOp ixD (eVar 1) (eC (.int 1))) (eVar 3)) (eOp eqD (eOp ixD (eVar 1) (eC (.int 2))) (eOp subD (eOp subD (eOp powD (eVar 6) (eC (.int 2))) (eOp powD (eVar 3) (eC (.int 2)))) (eOp powD (eVar 5) (eC (.int 2)))))))
def g_law_is_due_t2 : FS :=
  (sSeq (sIf (tO3 (tV (eOp neD (eOp ixD (eVar 1) (eC (.int 0))) (eC (.str "short")))) (tO3 (tV (eOp neD (eB lenM (aCons (eVar 1) aNil)) (eC (.int 3)))) (tO3 (tV (eOp isD (eVar 3) (eC .non))) (tV (eCall m_law_can_gap (aCons (eVar 0) (aCons (eVar 3) aNil)))))))
  (sRet (eC (.bl false)))
  sNil)
  g_law_is_due_t1)
def g_law_is_due_t3 : FS :=
  (sSeq (sIf (tV (eOp eqD (eOp ixD (eVar 1) (eC (.int 0))) (eC (.str "long"))))
  (sRet (eAnd (eOp eqD (eB lenM (aCons (eVar 1) aNil)) (eC (.int 2))) (eAnd (eOp isD (eVar 3) (eC .non)) (eOp eqD (eOp ixD (eVar 1) (eC (.int 1))) (eOp subD (eOp subD (eVar 6) (eOp mulD (eC (.int 2)) (eVar 7))) (eOp mulD (eC (.int 2)) (eVar 8)))))))
  sNil)
  g_law_is_due_t2)
def g_law_is_due_t4 : FS :=
  (sSeq (sAsg (gT 2 (gsCons (gN 3) (gsCons (gT 5 (gsCons (gN 4) (gsCons (gN 5) (gsCons (gN 6) (gsCons (gN 7) (gsCons (gN 8) gsNil)))))) gsNil))) (eTup (aCons (eCall m_law_greatest (aCons (eVar 0) aNil)) (aCons (eVar 0) aNil))))
  (sSeq (sIf (tV (eOp eqD (eOp ixD (eVar 1) (eC (.int 0))) (eC (.str "flat"))))
  (sRet (eAnd (eOp eqD (eB lenM (aCons (eVar 1) aNil)) (eC (.int 2))) (eCall m_law_can_gap (aCons (eVar 0) (aCons (eOp ixD (eVar 1) (eC (.int 1))) aNil)))))
  sNil)
  g_law_is_due_t3))
def g_law_is_due_t5 : FS :=
  (sSeq (sIf (tN3 (tV (eB allM (aCons (eF (fComp (iSeq (eSl (eVar 1) (oSome (eC (.int 1))) oNone)) (gN 2) tYes3 (eCall m_law_is_int (aCons (eVar 2) (aCons (eC (.int 0)) (aCons (eOp powD (eC (.int 10)) (eC (.int 13))) aNil)))) [2])) aNil))))
  (sRet (eC (.bl false)))
  sNil)
  g_law_is_due_t4)
def g_law_is_due : FS :=
  (sSeq (sIf (tO3 (tN3 (tV (eB isiM (aCons (eVar 1) (aCons (eC (.ty "tuple")) aNil))))) (tO3 (tV (eOp ninD (eB lenM (aCons (eVar 1) aNil)) (eTup (aCons (eC (.int 2)) (aCons (eC (.int 3)) aNil))))) (tN3 (tV (eB isiM (aCons (eOp ixD (eVar 1) (eC (.int 0))) (aCons (eC (.ty "str")) aNil)))))))
  (sRet (eC (.bl false)))
  sNil)
  g_law_is_due_t5)
structure m_law_is_due (ds : List D) (c : Nat) (Q : KD) : Prop where
  len : ds.length = 2
  run : runM 9 g_law_is_due ds c Q
theorem p_law_is_due : ∀ ds c Q, m_law_is_due ds c Q → runM 9 g_law_is_due ds c Q := fun _ _ _ h => h.2
theorem l_law_is_due : ∀ ds c Q, m_law_is_due ds c Q → ds.length = 2 := fun _ _ _ h => h.1
abbrev s_law_cover_drawn : Stmt := topS 43
theorem sc_law_cover_drawn : FnScope ["pot", "upto", "found", "part", "board", "gap", "spine"] ["pot"] (defScope s_law_cover_drawn) := ⟨rfl, rfl, rfl, by decide +kernel, rfl, by decide +kernel, by decide +kernel⟩
def g_law_cover_drawn : FS :=
  (sSeq (sAsg (gN 1) (eCall m_law_of (aCons (eVar 0) (aCons (eLst (aCons (eC (.int 6)) (aCons (eC (.int 30)) (aCons (eOp powD (eC (.int 10)) (eC (.int 6))) aNil)))) aNil))))
  (sSeq (sOwnF 2 (fComp (iR1 (aCons (eC (.int 5)) aNil)) (gN 3) tYes3 (eB intM (aCons (eCall m_law_take (aCons (eVar 0) (aCons (eOp addD (eVar 1) (eC (.int 1))) aNil))) aNil)) [3]))
  (sSeq (sIf (tV (eOp eqD (eCall m_law_take (aCons (eVar 0) (aCons (eC (.int 3)) aNil))) (eC (.int 0))))
  (sSeq (sAsg (gT 3 (gsCons (gN 4) (gsCons (gN 5) (gsCons (gN 6) gsNil)))) (eCall m_law_of (aCons (eVar 0) (aCons (eLst (aCons (eTup (aCons (eC (.int 3)) (aCons (eC (.int 4)) (aCons (eC (.int 5)) aNil)))) (aCons (eTup (aCons (eC (.int 5)) (aCons (eC (.int 12)) (aCons (eC (.int 13)) aNil)))) (aCons (eTup (aCons (eC (.int 8)) (aCons (eC (.int 6)) (aCons (eC (.int 10)) aNil)))) (aCons (eTup (aCons (eC (.int 7)) (aCons (eC (.int 24)) (aCons (eC (.int 25)) aNil)))) (aCons (eTup (aCons (eC (.int 8)) (aCons (eC (.int 15)) (aCons (eC (.int 17)) aNil)))) aNil)))))) aNil))))
  (sSwap3 2 (eTup (aCons (eVar 4) (aCons (eOp subD (eOp addD (eVar 6) (eB intM (aCons (eCall m_law_take (aCons (eVar 0) (aCons (eC (.int 3)) aNil))) aNil))) (eC (.int 1))) (aCons (eOp fdivD (eVar 5) (eC (.int 2))) aNil)))) (eC (.int 1)) (eC (.int 2)) (eC (.int 4))))
  sNil)
  (sRet (eB tupleM (aCons (eVar 2) aNil))))))
structure m_law_cover_drawn (ds : List D) (c : Nat) (Q : KD) : Prop where
  len : ds.length = 1
  run : runM 7 g_law_cover_drawn ds c Q
theorem p_law_cover_drawn : ∀ ds c Q, m_law_cover_drawn ds c Q → runM 7 g_law_cover_drawn ds c Q := fun _ _ _ h => h.2
theorem l_law_cover_drawn : ∀ ds c Q, m_law_cover_drawn ds c Q → ds.length = 1 := fun _ _ _ h => h.1
abbrev s_law_are_refused : Stmt := topS 44
theorem sc_law_are_refused : FnScope ["pot", "cover", "wrong", "bad", "asks", "caught", "ask", "one"] ["pot", "cover"] (defScope s_law_are_refused) := ⟨rfl, rfl, rfl, by decide +kernel, rfl, by decide +kernel, by decide +kernel⟩
def tab_law_are_refused : Nat → Nat × FEX
  | 0 => (0, (yCall m_closes (aCons (eVar 3) aNil)))
  | 1 => (0, (yCall m_shows_closes (aCons (eVar 3) (aCons (eC .non) aNil))))
  | 2 => (0, (yCall m_opens_flat (aCons (eVar 3) aNil)))
  | 3 => (0, (yCall m_shows_opens_flat (aCons (eVar 3) (aCons (eC .non) aNil))))
  | 4 => (0, (yCall m_least_hinge (aCons (eVar 3) aNil)))
  | 5 => (0, (yCall m_spines_for (aCons (eVar 3) (aCons (eC .non) (aCons (eC .non) (aCons (eC .non) aNil))))))
  | 6 => (0, (yCall m_spines_for (aCons (eC (.int 1)) (aCons (eVar 3) (aCons (eC .non) (aCons (eC .non) aNil))))))
  | 7 => (0, (yCall m_spines_for (aCons (eC (.int 1)) (aCons (eC (.int 1)) (aCons (eVar 3) (aCons (eC .non) aNil))))))
  | 8 => (0, (yCall m_spines_for (aCons (eC (.int 1)) (aCons (eC (.int 1)) (aCons (eC (.int 1)) (aCons (eVar 3) aNil))))))
  | _ => (0, fun _ _ _ _ => False)
def g_law_are_refused_t1 (is : Nat → Obj → Prop) : FS :=
  (sSeq (sAsg (gN 3) (eCall m_law_of (aCons (eVar 0) (aCons (eLst (aCons (eC .non) (aCons (eC (.bl true)) (aCons (eUn negD (eC (.int 1))) (aCons (eOp addD (eOp powD (eC (.int 10)) (eC (.int 6))) (eC (.int 1))) (aCons (eC (.str "1")) (aCons (eTup (aCons (eC (.int 1)) aNil)) aNil))))))) aNil))))
  (sSeq (sOwnF 4 (fLst (aCons (eMk is 5) aNil)))
  (sSeq (sApp 4 (eMk is 6))
  (sSeq (sApp 4 (eMk is 7))
  (sSeq (sApp 4 (eMk is 8))
  (sSeq (sFrz 4 (sValF 5 (fComp (iSeq (eVar 4)) (gN 6) tYes3 (eHear is tab_law_are_refused m_law_heard 6 [6]) [6])))
  (sRet (eB allM (aCons (eF (fComp (iSeq (eVar 5)) (gN 7) tYes3 (eAnd (eIsX errs "BadInt" (eVar 7)) (eOp eqD (eUn reprD (eVal errs (eVar 7))) (eUn reprD (eVar 3)))) [7])) aNil)))))))))
def g_law_are_refused (is : Nat → Obj → Prop) : FS :=
  (sSeq (sAsg (gN 2) (eLst (aCons (eC .non) (aCons (eTup aNil) (aCons (eSl (eVar 1) oNone (oSome (eC (.int 4)))) (aCons (eOp addD (eVar 1) (eTup (aCons (eC (.int 0)) aNil))) (aCons (eF (fList (eVar 1))) (aCons (eOp addD (eTup (aCons (eUn negD (eC (.int 1))) aNil)) (eSl (eVar 1) (oSome (eC (.int 1))) oNone)) (aCons (eOp addD (eTup (aCons (eOp addD (eOp powD (eC (.int 10)) (eC (.int 6))) (eC (.int 1))) aNil)) (eSl (eVar 1) (oSome (eC (.int 1))) oNone)) aNil)))))))))
  (sSeq (sAsg (gN 3) (eCall m_law_of (aCons (eVar 0) (aCons (eOp addD (eVar 2) (eLst (aCons (eOp addD (eTup (aCons (eC (.bl true)) aNil)) (eSl (eVar 1) (oSome (eC (.int 1))) oNone)) aNil))) aNil))))
  (sSeq (sOwnF 4 (fLst (aCons (eMk is 0) aNil)))
  (sSeq (sApp 4 (eMk is 1))
  (sSeq (sApp 4 (eMk is 2))
  (sSeq (sApp 4 (eMk is 3))
  (sSeq (sApp 4 (eMk is 4))
  (sSeq (sFrz 4 (sValF 5 (fComp (iSeq (eVar 4)) (gN 6) tYes3 (eHear is tab_law_are_refused m_law_heard 6 [6]) [6])))
  (sSeq (sIf (tN3 (tV (eB allM (aCons (eF (fComp (iSeq (eVar 5)) (gN 7) tYes3 (eAnd (eIsX errs "BadCover" (eVar 7)) (eOp eqD (eUn reprD (eVal errs (eVar 7))) (eUn reprD (eVar 3)))) [7])) aNil))))
  (sRet (eC (.bl false)))
  sNil)
  (g_law_are_refused_t1 is))))))))))
structure m_law_are_refused (ds : List D) (c : Nat) (Q : KD) : Prop where
  len : ds.length = 2
  run : ∀ is, runM 8 (g_law_are_refused is) ds c Q
theorem p_law_are_refused : ∀ ds c Q, m_law_are_refused ds c Q → ∀ is, runM 8 (g_law_are_refused is) ds c Q := fun _ _ _ h => h.2
theorem l_law_are_refused : ∀ ds c Q, m_law_are_refused ds c Q → ds.length = 2 := fun _ _ _ h => h.1
abbrev s_law_is_flat : Stmt := topS 45
theorem sc_law_is_flat : FnScope ["cover", "most"] ["cover"] (defScope s_law_is_flat) := ⟨rfl, rfl, rfl, by decide +kernel, rfl, by decide +kernel, by decide +kernel⟩
def g_law_is_flat : FS :=
  (sSeq (sAsg (gN 1) (eCall m_law_greatest (aCons (eVar 0) aNil)))
  (sRet (eAnd (eOp isNotD (eVar 1) (eC .non)) (eCall m_law_can_gap (aCons (eVar 0) (aCons (eVar 1) aNil))))))
structure m_law_is_flat (ds : List D) (c : Nat) (Q : KD) : Prop where
  len : ds.length = 1
  run : runM 2 g_law_is_flat ds c Q
theorem p_law_is_flat : ∀ ds c Q, m_law_is_flat ds c Q → runM 2 g_law_is_flat ds c Q := fun _ _ _ h => h.2
theorem l_law_is_flat : ∀ ds c Q, m_law_is_flat ds c Q → ds.length = 1 := fun _ _ _ h => h.1
abbrev s_law_are_least_right : Stmt := topS 46
theorem sc_law_are_least_right : FnScope ["cover", "told", "thick", "board", "spine", "joint", "hinge", "around", "one", "made"] ["cover"] (defScope s_law_are_least_right) := ⟨rfl, rfl, rfl, by decide +kernel, rfl, by decide +kernel, by decide +kernel⟩
def g_law_are_least_right_t1 : FS :=
  (sRet (eC (.bl true)))
def g_law_are_least_right_t2 : FS :=
  (sSeq (sFor (iSeq (eTup (aCons (eOp subD (eOp ixD (eVar 1) (eC (.int 0))) (eC (.int 1))) (aCons (eOp addD (eOp ixD (eVar 1) (eC (.int 1))) (eC (.int 1))) aNil)))) (gN 8)
  (sSeq (sAsg (gN 9) (eTup (aCons (eVar 2) (aCons (eVar 3) (aCons (eVar 8) (aCons (eVar 5) (aCons (eVar 6) aNil)))))))
  (sIf (tA3 (tV (eOp geD (eVar 8) (eC (.int 0)))) (tA3 (tV (eOp eqD (eCall m_law_closes (aCons (eVar 9) aNil)) (eTup (aCons (eC (.str "closes")) aNil)))) (tV (eCall m_law_is_flat (aCons (eVar 9) aNil)))))
  (sRet (eC (.bl false)))
  sNil)))
  g_law_are_least_right_t1)
def g_law_are_least_right_t3 : FS :=
  (sRet (eC (.bl true)))
def g_law_are_least_right_t4 : FS :=
  (sSeq (sFor (iR1 (aCons (eOp addD (eOp addD (eVar 7) (eOp mulD (eC (.int 2)) (eB min2M (aCons (eVar 5) (aCons (eC (.int 300)) aNil))))) (eC (.int 1))) aNil)) (gN 8)
  (sSeq (sAsg (gN 9) (eTup (aCons (eVar 2) (aCons (eVar 3) (aCons (eVar 8) (aCons (eVar 5) (aCons (eVar 6) aNil)))))))
  (sIf (tA3 (tV (eOp eqD (eCall m_law_closes (aCons (eVar 9) aNil)) (eTup (aCons (eC (.str "closes")) aNil)))) (tV (eCall m_law_is_flat (aCons (eVar 9) aNil))))
  (sRet (eC (.bl false)))
  sNil)))
  g_law_are_least_right_t3)
def g_law_are_least_right_t5 : FS :=
  (sSeq (sIf (tV (eOp gtD (eVar 7) (eC (.int 300))))
  (sRet (eC (.bl true)))
  sNil)
  g_law_are_least_right_t4)
def g_law_are_least_right_t6 : FS :=
  (sSeq (sAsg (gT 5 (gsCons (gN 2) (gsCons (gN 3) (gsCons (gN 4) (gsCons (gN 5) (gsCons (gN 6) gsNil)))))) (eVar 0))
  (sSeq (sPar 1 7 (aCons (eCall (m0 m_spines_for) (aCons (eVar 2) (aCons (eVar 3) (aCons (eVar 5) (aCons (eVar 6) aNil))))) (aCons (eOp addD (eVar 2) (eOp mulD (eC (.int 2)) (eVar 3))) aNil)))
  (sSeq (sIf (tV (eOp isNotD (eVar 1) (eC .non)))
  (sSeq (sFor (iSeq (eTup (aCons (eOp ixD (eVar 1) (eC (.int 0))) (aCons (eOp ixD (eVar 1) (eC (.int 1))) (aCons (eOp fdivD (eOp addD (eOp ixD (eVar 1) (eC (.int 0))) (eOp ixD (eVar 1) (eC (.int 1)))) (eC (.int 2))) aNil))))) (gN 8)
  (sSeq (sAsg (gN 9) (eTup (aCons (eVar 2) (aCons (eVar 3) (aCons (eVar 8) (aCons (eVar 5) (aCons (eVar 6) aNil)))))))
  (sIf (tO3 (tV (eOp neD (eCall m_law_closes (aCons (eVar 9) aNil)) (eTup (aCons (eC (.str "closes")) aNil)))) (tN3 (tV (eCall m_law_is_flat (aCons (eVar 9) aNil)))))
  (sRet (eC (.bl false)))
  sNil)))
  g_law_are_least_right_t2)
  sNil)
  g_law_are_least_right_t5)))
def g_law_are_least_right : FS :=
  (sSeq (sAsg (gN 1) (eCall (m0 m_least_hinge) (aCons (eVar 0) aNil)))
  (sSeq (sIf (tV (eOp isNotD (eVar 1) (eC .non)))
  (sIf (tO3 (tN3 (tV (eCall m_law_is_flat (aCons (eOp addD (eSl (eVar 0) oNone (oSome (eC (.int 4)))) (eTup (aCons (eVar 1) aNil))) aNil)))) (tA3 (tV (eOp gtD (eVar 1) (eC (.int 0)))) (tV (eCall m_law_is_flat (aCons (eOp addD (eSl (eVar 0) oNone (oSome (eC (.int 4)))) (eTup (aCons (eOp subD (eVar 1) (eC (.int 1))) aNil))) aNil)))))
  (sRet (eC (.bl false)))
  sNil)
  (sIf (tV (eCall m_law_is_flat (aCons (eOp addD (eSl (eVar 0) oNone (oSome (eC (.int 4)))) (eTup (aCons (eOp powD (eC (.int 10)) (eC (.int 6))) aNil))) aNil)))
  (sRet (eC (.bl false)))
  sNil))
  g_law_are_least_right_t6))
structure m_law_are_least_right (ds : List D) (c : Nat) (Q : KD) : Prop where
  len : ds.length = 1
  run : runM 10 g_law_are_least_right ds c Q
theorem p_law_are_least_right : ∀ ds c Q, m_law_are_least_right ds c Q → runM 10 g_law_are_least_right ds c Q := fun _ _ _ h => h.2
theorem l_law_are_least_right : ∀ ds c Q, m_law_are_least_right ds c Q → ds.length = 1 := fun _ _ _ h => h.1
abbrev s_law_right : Stmt := topS 47
theorem sc_law_right : FnScope ["pot", "lap", "cover", "told", "some", "value", "turn", "due", "gap", "near"] ["pot"] (defScope s_law_right) := ⟨rfl, rfl, rfl, by decide +kernel, rfl, by decide +kernel, by decide +kernel⟩
def g_law_right_t1 : FS :=
  (sIf (tO3 (tN3 (tV (eCall m_law_are_least_right (aCons (eVar 2) aNil)))) (tN3 (tV (eCall m_law_are_refused (aCons (eVar 0) (aCons (eVar 2) aNil))))))
  (sRet (eC (.bl false)))
  sNil)
def g_law_right_t2 : FS :=
  (sSeq (sAsg (gN 9) (eIf3 (tV (eOp neD (eOp ixD (eVar 3) (eC (.int 0))) (eC (.str "long")))) (eOp ixD (eVar 3) (eC (.int 1))) (eC (.int 0))))
  (sSeq (sAsg (gN 4) (eLst (aCons (eVar 3) (aCons (eTup (aCons (eC (.str "flat")) (aCons (eVar 9) aNil))) (aCons (eTup (aCons (eC (.str "flat")) (aCons (eB max2M (aCons (eC (.int 0)) (aCons (eOp subD (eVar 9) (eC (.int 1))) aNil))) aNil))) (aCons (eTup (aCons (eC (.str "flat")) (aCons (eOp addD (eVar 9) (eC (.int 1))) aNil))) (aCons (eTup (aCons (eC (.str "long")) (aCons (eC (.int 1)) aNil))) (aCons (eTup (aCons (eC (.str "short")) (aCons (eVar 9) (aCons (eC (.int 1)) aNil)))) aNil))))))))
  (sSeq (sAsg (gN 4) (eOp addD (eVar 4) (eLst (aCons (eSl (eVar 3) oNone (oSome (eC (.int 1)))) (aCons (eC .non) aNil)))))
  (sSeq (sFor (iSeq (eOp addD (eOp addD (eVar 4) (eLst (aCons (eF (fList (eVar 3))) (aCons (eCall m_law_odd (aCons (eVar 0) aNil)) aNil)))) (eF (fComp (iR1 (aCons (eC (.int 6)) aNil)) (gN 6) tYes3 (eCall (m_law_bent 6) (aCons (eVar 0) (aCons (eVar 3) aNil))) [6])))) (gN 5)
  (sIf (tN3 (tV (eCall m_law_is_bool (aCons (eCallK 1 (m0 m_shows_opens_flat) (aCons (eVar 2) aNil) (aCons (eVar 5) aNil)) (aCons (eCall m_law_is_due (aCons (eVar 2) (aCons (eVar 5) aNil))) aNil)))))
  (sRet (eC (.bl false)))
  sNil))
  g_law_right_t1))))
def g_law_right_t3 : FS :=
  (sSeq (sIf (tA3 (tV (eOp ltD (eB maxM (aCons (eVar 2) aNil)) (eC (.int 50)))) (tV (eOp neD (eOp eqD (eOp ixD (eVar 3) (eC (.int 0))) (eC (.str "flat"))) (eB anyM (aCons (eF (fComp (iR1 (aCons (eC (.int 200)) aNil)) (gN 8) tYes3 (eCall m_law_can_gap (aCons (eVar 2) (aCons (eVar 8) aNil))) [8])) aNil)))))
  (sRet (eC (.bl false)))
  sNil)
  g_law_right_t2)
def g_law_right_t4 : FS :=
  (sSeq (sAsg (gN 3) (eCallK 1 (m0 m_opens_flat) aNil (aCons (eVar 2) aNil)))
  (sSeq (sIf (tO3 (tN3 (tV (eCall m_law_is_due (aCons (eVar 2) (aCons (eVar 3) aNil))))) (tV (eOp neD (eOp eqD (eOp ixD (eVar 3) (eC (.int 0))) (eC (.str "flat"))) (eCall m_law_is_flat (aCons (eVar 2) aNil)))))
  (sRet (eC (.bl false)))
  sNil)
  g_law_right_t3))
def g_law_right_t5 : FS :=
  (sSeq (sAsg (gN 4) (eLst (aCons (eVar 3) (aCons (eTup (aCons (eC (.str "closes")) aNil)) (aCons (eTup (aCons (eC (.str "short")) (aCons (eC (.int 0)) aNil))) (aCons (eTup (aCons (eC (.str "long")) (aCons (eC (.int 1)) aNil))) (aCons (eSl (eVar 3) oNone (oSome (eC (.int 1)))) (aCons (eOp addD (eVar 3) (eVar 3)) (aCons (eC .non) (aCons (eF (fList (eVar 3))) (aCons (eCall m_law_odd (aCons (eVar 0) aNil)) aNil)))))))))))
  (sSeq (sFor (iSeq (eOp addD (eVar 4) (eF (fComp (iR1 (aCons (eC (.int 4)) aNil)) (gN 6) tYes3 (eCall (m_law_bent 6) (aCons (eVar 0) (aCons (eVar 3) aNil))) [6])))) (gN 5)
  (sSeq (sAsg (gN 7) (eAnd (eB isiM (aCons (eVar 5) (aCons (eC (.ty "tuple")) aNil))) (eOp eqD (eUn reprD (eVar 5)) (eUn reprD (eCall m_law_closes (aCons (eVar 2) aNil))))))
  (sIf (tN3 (tV (eCall m_law_is_bool (aCons (eCallK 1 (m0 m_shows_closes) (aCons (eVar 2) aNil) (aCons (eVar 5) aNil)) (aCons (eVar 7) aNil)))))
  (sRet (eC (.bl false)))
  sNil)))
  g_law_right_t4))
def g_law_right_t6 : FS :=
  (sRet (eC (.bl true)))
def g_law_right : FS :=
  (sSeq (sFor (iR1 (aCons (eC (.int 10)) aNil)) (gN 1)
  (sSeq (sAsg (gN 2) (eCall m_law_cover_drawn (aCons (eVar 0) aNil)))
  (sSeq (sAsg (gN 3) (eCallK 1 (m0 m_closes) aNil (aCons (eVar 2) aNil)))
  (sSeq (sIf (tV (eOp neD (eUn reprD (eVar 3)) (eUn reprD (eCall m_law_closes (aCons (eVar 2) aNil)))))
  (sRet (eC (.bl false)))
  sNil)
  g_law_right_t5))))
  g_law_right_t6)
structure m_law_right (ds : List D) (c : Nat) (Q : KD) : Prop where
  len : ds.length = 1
  run : runM 10 g_law_right ds c Q
theorem p_law_right : ∀ ds c Q, m_law_right ds c Q → runM 10 g_law_right ds c Q := fun _ _ _ h => h.2
theorem l_law_right : ∀ ds c Q, m_law_right ds c Q → ds.length = 1 := fun _ _ _ h => h.1
abbrev s_law : Stmt := topS 48
theorem sc_law : FnScope ["script", "at"] ["script"] (defScope s_law) := ⟨rfl, rfl, rfl, by decide +kernel, rfl, by decide +kernel, by decide +kernel⟩
def g_law : FS :=
  (sRet (eB allM (aCons (eF (fComp (iSeq (eCall m_law_cells (aCons (eVar 0) (aCons (eC (.int 3)) aNil)))) (gN 1) tYes3 (ePotCall m_law_pot m_law_right (aCons (eVar 0) (aCons (eVar 1) aNil))) [1])) aNil)))
structure m_law (ds : List D) (c : Nat) (Q : KD) : Prop where
  len : ds.length = 1
  run : runM 2 g_law ds c Q
theorem p_law : ∀ ds c Q, m_law ds c Q → runM 2 g_law ds c Q := fun _ _ _ h => h.2
theorem l_law : ∀ ds c Q, m_law ds c Q → ds.length = 1 := fun _ _ _ h => h.1
structure Top (K : PySem.W.Frag) (mg : Str → Option Value) (base : Heap) where
  a_is_int : Addr
  fd_is_int : FuncData
  F_is_int : Fun K "is_int" "is_int" s_is_int a_is_int fd_is_int
  b_is_int : Binds K fd_is_int ["value", "low", "high"] []
  m_is_int : mg "is_int" = some (.ref a_is_int)
  a_are_ints : Addr
  fd_are_ints : FuncData
  F_are_ints : Fun K "are_ints" "are_ints" s_are_ints a_are_ints fd_are_ints
  b_are_ints : Binds K fd_are_ints ["value", "low", "high"] []
  m_are_ints : mg "are_ints" = some (.ref a_are_ints)
  a_is_told : Addr
  fd_is_told : FuncData
  F_is_told : Fun K "is_told" "is_told" s_is_told a_is_told fd_is_told
  b_is_told : Binds K fd_is_told ["value", "sizes"] []
  m_is_told : mg "is_told" = some (.ref a_is_told)
  a_is_cover : Addr
  fd_is_cover : FuncData
  F_is_cover : Fun K "is_cover" "is_cover" s_is_cover a_is_cover fd_is_cover
  b_is_cover : Binds K fd_is_cover ["value"] []
  m_is_cover : mg "is_cover" = some (.ref a_is_cover)
  a_look_at_cover : Addr
  fd_look_at_cover : FuncData
  F_look_at_cover : Fun K "look_at_cover" "look_at_cover" s_look_at_cover a_look_at_cover fd_look_at_cover
  b_look_at_cover : Binds K fd_look_at_cover ["cover"] []
  m_look_at_cover : mg "look_at_cover" = some (.ref a_look_at_cover)
  a_told_closes : Addr
  fd_told_closes : FuncData
  F_told_closes : Fun K "told_closes" "told_closes" s_told_closes a_told_closes fd_told_closes
  b_told_closes : Binds K fd_told_closes ["cover"] []
  m_told_closes : mg "told_closes" = some (.ref a_told_closes)
  a_closes : Addr
  fd_closes : FuncData
  F_closes : Fun K "closes" "closes" s_closes a_closes fd_closes
  b_closes : Binds K fd_closes ["cover"] []
  m_closes : mg "closes" = some (.ref a_closes)
  a_shows_closes : Addr
  fd_shows_closes : FuncData
  F_shows_closes : Fun K "shows_closes" "shows_closes" s_shows_closes a_shows_closes fd_shows_closes
  b_shows_closes : Binds K fd_shows_closes ["cover", "value"] []
  m_shows_closes : mg "shows_closes" = some (.ref a_shows_closes)
  a_told_gaps : Addr
  fd_told_gaps : FuncData
  F_told_gaps : Fun K "told_gaps" "told_gaps" s_told_gaps a_told_gaps fd_told_gaps
  b_told_gaps : Binds K fd_told_gaps ["cover"] []
  m_told_gaps : mg "told_gaps" = some (.ref a_told_gaps)
  a_fits_between : Addr
  fd_fits_between : FuncData
  F_fits_between : Fun K "fits_between" "fits_between" s_fits_between a_fits_between fd_fits_between
  b_fits_between : Binds K fd_fits_between ["cover", "gap"] []
  m_fits_between : mg "fits_between" = some (.ref a_fits_between)
  a_told_flat : Addr
  fd_told_flat : FuncData
  F_told_flat : Fun K "told_flat" "told_flat" s_told_flat a_told_flat fd_told_flat
  b_told_flat : Binds K fd_told_flat ["cover"] []
  m_told_flat : mg "told_flat" = some (.ref a_told_flat)
  a_opens_flat : Addr
  fd_opens_flat : FuncData
  F_opens_flat : Fun K "opens_flat" "opens_flat" s_opens_flat a_opens_flat fd_opens_flat
  b_opens_flat : Binds K fd_opens_flat ["cover"] []
  m_opens_flat : mg "opens_flat" = some (.ref a_opens_flat)
  a_shows_opens_flat : Addr
  fd_shows_opens_flat : FuncData
  F_shows_opens_flat : Fun K "shows_opens_flat" "shows_opens_flat" s_shows_opens_flat a_shows_opens_flat fd_shows_opens_flat
  b_shows_opens_flat : Binds K fd_shows_opens_flat ["cover", "value"] []
  m_shows_opens_flat : mg "shows_opens_flat" = some (.ref a_shows_opens_flat)
  a_least_number : Addr
  fd_least_number : FuncData
  F_least_number : Fun K "least_number" "least_number" s_least_number a_least_number fd_least_number
  b_least_number : Binds K fd_least_number ["is_enough", "most"] []
  m_least_number : mg "least_number" = some (.ref a_least_number)
  a_least_hinge : Addr
  fd_least_hinge : FuncData
  F_least_hinge : Fun K "least_hinge" "least_hinge" s_least_hinge a_least_hinge fd_least_hinge
  b_least_hinge : Binds K fd_least_hinge ["cover"] []
  m_least_hinge : mg "least_hinge" = some (.ref a_least_hinge)
  c_least_hinge : Addr
  P_least_hinge : Addr
  co_least_hinge : fd_least_hinge.code = .ref c_least_hinge
  tb_least_hinge : LamX.TabB base mg c_least_hinge P_least_hinge
  in_least_hinge : (P_least_hinge, ("least_hinge.<locals>.<lambda>" : Str)) ∈ tabs0
  un_least_hinge : ∀ p ∈ tabs0, p.1 = P_least_hinge → p.2 = ("least_hinge.<locals>.<lambda>" : Str)
  a_spines_for : Addr
  fd_spines_for : FuncData
  F_spines_for : Fun K "spines_for" "spines_for" s_spines_for a_spines_for fd_spines_for
  b_spines_for : Binds K fd_spines_for ["thick", "board", "joint", "hinge"] []
  m_spines_for : mg "spines_for" = some (.ref a_spines_for)
  a_law_pot : Addr
  fd_law_pot : FuncData
  F_law_pot : Fun K "_law_pot" "_law_pot" s_law_pot a_law_pot fd_law_pot
  b_law_pot : Binds K fd_law_pot ["script", "place"] []
  m_law_pot : mg "_law_pot" = some (.ref a_law_pot)
  a_law_take : Addr
  fd_law_take : FuncData
  F_law_take : Fun K "_law_take" "_law_take" s_law_take a_law_take fd_law_take
  b_law_take : Binds K fd_law_take ["pot", "upto"] []
  m_law_take : mg "_law_take" = some (.ref a_law_take)
  a_law_of : Addr
  fd_law_of : FuncData
  F_law_of : Fun K "_law_of" "_law_of" s_law_of a_law_of fd_law_of
  b_law_of : Binds K fd_law_of ["pot", "some"] []
  m_law_of : mg "_law_of" = some (.ref a_law_of)
  a_law_cells : Addr
  fd_law_cells : FuncData
  F_law_cells : Fun K "_law_cells" "_law_cells" s_law_cells a_law_cells fd_law_cells
  b_law_cells : Binds K fd_law_cells ["script", "most"] []
  m_law_cells : mg "_law_cells" = some (.ref a_law_cells)
  a_law_heard : Addr
  fd_law_heard : FuncData
  F_law_heard : Fun K "_law_heard" "_law_heard" s_law_heard a_law_heard fd_law_heard
  b_law_heard : Binds K fd_law_heard ["call"] []
  m_law_heard : mg "_law_heard" = some (.ref a_law_heard)
  a_law_odd : Addr
  fd_law_odd : FuncData
  F_law_odd : Fun K "_law_odd" "_law_odd" s_law_odd a_law_odd fd_law_odd
  b_law_odd : Binds K fd_law_odd ["pot"] []
  m_law_odd : mg "_law_odd" = some (.ref a_law_odd)
  a_law_is_int : Addr
  fd_law_is_int : FuncData
  F_law_is_int : Fun K "_law_is_int" "_law_is_int" s_law_is_int a_law_is_int fd_law_is_int
  b_law_is_int : Binds K fd_law_is_int ["value", "low", "high"] []
  m_law_is_int : mg "_law_is_int" = some (.ref a_law_is_int)
  a_law_bent : Addr
  fd_law_bent : FuncData
  F_law_bent : Fun K "_law_bent" "_law_bent" s_law_bent a_law_bent fd_law_bent
  b_law_bent : Binds K fd_law_bent ["pot", "value"] []
  m_law_bent : mg "_law_bent" = some (.ref a_law_bent)
  a_law_is_bool : Addr
  fd_law_is_bool : FuncData
  F_law_is_bool : Fun K "_law_is_bool" "_law_is_bool" s_law_is_bool a_law_is_bool fd_law_is_bool
  b_law_is_bool : Binds K fd_law_is_bool ["told", "due"] []
  m_law_is_bool : mg "_law_is_bool" = some (.ref a_law_is_bool)
  a_law_closes : Addr
  fd_law_closes : FuncData
  F_law_closes : Fun K "_law_closes" "_law_closes" s_law_closes a_law_closes fd_law_closes
  b_law_closes : Binds K fd_law_closes ["cover"] []
  m_law_closes : mg "_law_closes" = some (.ref a_law_closes)
  a_law_can_gap : Addr
  fd_law_can_gap : FuncData
  F_law_can_gap : Fun K "_law_can_gap" "_law_can_gap" s_law_can_gap a_law_can_gap fd_law_can_gap
  b_law_can_gap : Binds K fd_law_can_gap ["cover", "gap"] []
  m_law_can_gap : mg "_law_can_gap" = some (.ref a_law_can_gap)
  a_law_greatest : Addr
  fd_law_greatest : FuncData
  F_law_greatest : Fun K "_law_greatest" "_law_greatest" s_law_greatest a_law_greatest fd_law_greatest
  b_law_greatest : Binds K fd_law_greatest ["cover"] []
  m_law_greatest : mg "_law_greatest" = some (.ref a_law_greatest)
  a_law_is_due : Addr
  fd_law_is_due : FuncData
  F_law_is_due : Fun K "_law_is_due" "_law_is_due" s_law_is_due a_law_is_due fd_law_is_due
  b_law_is_due : Binds K fd_law_is_due ["cover", "value"] []
  m_law_is_due : mg "_law_is_due" = some (.ref a_law_is_due)
  a_law_cover_drawn : Addr
  fd_law_cover_drawn : FuncData
  F_law_cover_drawn : Fun K "_law_cover_drawn" "_law_cover_drawn" s_law_cover_drawn a_law_cover_drawn fd_law_cover_drawn
  b_law_cover_drawn : Binds K fd_law_cover_drawn ["pot"] []
  m_law_cover_drawn : mg "_law_cover_drawn" = some (.ref a_law_cover_drawn)
  a_law_are_refused : Addr
  fd_law_are_refused : FuncData
  F_law_are_refused : Fun K "_law_are_refused" "_law_are_refused" s_law_are_refused a_law_are_refused fd_law_are_refused
  b_law_are_refused : Binds K fd_law_are_refused ["pot", "cover"] []
  m_law_are_refused : mg "_law_are_refused" = some (.ref a_law_are_refused)
  c_law_are_refused : Addr
  P_law_are_refused : Addr
  co_law_are_refused : fd_law_are_refused.code = .ref c_law_are_refused
  tb_law_are_refused : LamX.TabB base mg c_law_are_refused P_law_are_refused
  in_law_are_refused : (P_law_are_refused, ("_law_are_refused.<locals>.<lambda>" : Str)) ∈ tabs0
  un_law_are_refused : ∀ p ∈ tabs0, p.1 = P_law_are_refused → p.2 = ("_law_are_refused.<locals>.<lambda>" : Str)
  a_law_is_flat : Addr
  fd_law_is_flat : FuncData
  F_law_is_flat : Fun K "_law_is_flat" "_law_is_flat" s_law_is_flat a_law_is_flat fd_law_is_flat
  b_law_is_flat : Binds K fd_law_is_flat ["cover"] []
  m_law_is_flat : mg "_law_is_flat" = some (.ref a_law_is_flat)
  a_law_are_least_right : Addr
  fd_law_are_least_right : FuncData
  F_law_are_least_right : Fun K "_law_are_least_right" "_law_are_least_right" s_law_are_least_right a_law_are_least_right fd_law_are_least_right
  b_law_are_least_right : Binds K fd_law_are_least_right ["cover"] []
  m_law_are_least_right : mg "_law_are_least_right" = some (.ref a_law_are_least_right)
  a_law_right : Addr
  fd_law_right : FuncData
  F_law_right : Fun K "_law_right" "_law_right" s_law_right a_law_right fd_law_right
  b_law_right : Binds K fd_law_right ["pot"] []
  m_law_right : mg "_law_right" = some (.ref a_law_right)
  a_law : Addr
  fd_law : FuncData
  F_law : Fun K "law" "law" s_law a_law fd_law
  b_law : Binds K fd_law ["script"] []
  m_law : mg "law" = some (.ref a_law)
  z_abs : mg "abs" = none
  z_all : mg "all" = none
  z_any : mg "any" = none
  z_bool : mg "bool" = none
  z_int : mg "int" = none
  z_isinstance : mg "isinstance" = none
  z_len : mg "len" = none
  z_list : mg "list" = none
  z_max : mg "max" = none
  z_min : mg "min" = none
  z_range : mg "range" = none
  z_repr : mg "repr" = none
  z_str : mg "str" = none
  z_sum : mg "sum" = none
  z_tuple : mg "tuple" = none
  t_CLOSES : Tok
  c_CLOSES : mg "CLOSES" = some (.str "closes" t_CLOSES)
  t_FLAT : Tok
  c_FLAT : mg "FLAT" = some (.str "flat" t_FLAT)
  t_LONG : Tok
  c_LONG : mg "LONG" = some (.str "long" t_LONG)
  t_MOST_SIZE : Tok
  c_MOST_SIZE : mg "MOST_SIZE" = some (.int 1000000 t_MOST_SIZE)
  t_PARTS : Tok
  c_PARTS : mg "PARTS" = some (.int 5 t_PARTS)
  t_SHORT : Tok
  c_SHORT : mg "SHORT" = some (.str "short" t_SHORT)
  t_THREE : Tok
  c_THREE : mg "THREE" = some (.int 3 t_THREE)
  g_BindError : mg "BindError" = some (.ref (He.ga K "BindError"))
  ini : InitH PW K mg (He.fAd K atI)
  k2 : ini.K2.In base
  bI : Binds K ini.fn ["self", "value"] []
  tI : PySem.W.typeIn K (.ref (He.fAd K atI)) = some (.type "function")
  e_BadCover : Err1 K mg "BadCover"
  e_BadInt : Err1 K mg "BadInt"
  k_closes_cover : KwOk K fd_closes ["cover"] ["cover"]
  k_opens_flat_cover : KwOk K fd_opens_flat ["cover"] ["cover"]
  k_shows_closes_value : KwOk K fd_shows_closes ["cover", "value"] ["value"]
  k_shows_opens_flat_value : KwOk K fd_shows_opens_flat ["cover", "value"] ["value"]
def Top.up {K : PySem.W.Frag} {mg : Str → Option Value} {base B : Heap} (T : Top K mg base) (h : ∀ b o, base.get? b = some o → B.get? b = some o) : Top K mg B :=
  { a_is_int := T.a_is_int, fd_is_int := T.fd_is_int, F_is_int := T.F_is_int, b_is_int := T.b_is_int, m_is_int := T.m_is_int, a_are_ints := T.a_are_ints, fd_are_ints := T.fd_are_ints, F_are_ints := T.F_are_ints, b_are_ints := T.b_are_ints, m_are_ints := T.m_are_ints, a_is_told := T.a_is_told, fd_is_told := T.fd_is_told, F_is_told := T.F_is_told, b_is_told := T.b_is_told, m_is_told := T.m_is_told, a_is_cover := T.a_is_cover, fd_is_cover := T.fd_is_cover, F_is_cover := T.F_is_cover, b_is_cover := T.b_is_cover, m_is_cover := T.m_is_cover, a_look_at_cover := T.a_look_at_cover, fd_look_at_cover := T.fd_look_at_cover, F_look_at_cover := T.F_look_at_cover, b_look_at_cover := T.b_look_at_cover, m_look_at_cover := T.m_look_at_cover, a_told_closes := T.a_told_closes, fd_told_closes := T.fd_told_closes, F_told_closes := T.F_told_closes, b_told_closes := T.b_told_closes, m_told_closes := T.m_told_closes, a_closes := T.a_closes, fd_closes := T.fd_closes, F_closes := T.F_closes, b_closes := T.b_closes, m_closes := T.m_closes, a_shows_closes := T.a_shows_closes, fd_shows_closes := T.fd_shows_closes, F_shows_closes := T.F_shows_closes, b_shows_closes := T.b_shows_closes, m_shows_closes := T.m_shows_closes, a_told_gaps := T.a_told_gaps, fd_told_gaps := T.fd_told_gaps, F_told_gaps := T.F_told_gaps, b_told_gaps := T.b_told_gaps, m_told_gaps := T.m_told_gaps, a_fits_between := T.a_fits_between, fd_fits_between := T.fd_fits_between, F_fits_between := T.F_fits_between, b_fits_between := T.b_fits_between, m_fits_between := T.m_fits_between, a_told_flat := T.a_told_flat, fd_told_flat := T.fd_told_flat, F_told_flat := T.F_told_flat, b_told_flat := T.b_told_flat, m_told_flat := T.m_told_flat, a_opens_flat := T.a_opens_flat, fd_opens_flat := T.fd_opens_flat, F_opens_flat := T.F_opens_flat, b_opens_flat := T.b_opens_flat, m_opens_flat := T.m_opens_flat, a_shows_opens_flat := T.a_shows_opens_flat, fd_shows_opens_flat := T.fd_shows_opens_flat, F_shows_opens_flat := T.F_shows_opens_flat, b_shows_opens_flat := T.b_shows_opens_flat, m_shows_opens_flat := T.m_shows_opens_flat, a_least_number := T.a_least_number, fd_least_number := T.fd_least_number, F_least_number := T.F_least_number, b_least_number := T.b_least_number, m_least_number := T.m_least_number, a_least_hinge := T.a_least_hinge, fd_least_hinge := T.fd_least_hinge, F_least_hinge := T.F_least_hinge, b_least_hinge := T.b_least_hinge, m_least_hinge := T.m_least_hinge, c_least_hinge := T.c_least_hinge, P_least_hinge := T.P_least_hinge, co_least_hinge := T.co_least_hinge, tb_least_hinge := tabB_up T.tb_least_hinge h, in_least_hinge := T.in_least_hinge, un_least_hinge := T.un_least_hinge, a_spines_for := T.a_spines_for, fd_spines_for := T.fd_spines_for, F_spines_for := T.F_spines_for, b_spines_for := T.b_spines_for, m_spines_for := T.m_spines_for, a_law_pot := T.a_law_pot, fd_law_pot := T.fd_law_pot, F_law_pot := T.F_law_pot, b_law_pot := T.b_law_pot, m_law_pot := T.m_law_pot, a_law_take := T.a_law_take, fd_law_take := T.fd_law_take, F_law_take := T.F_law_take, b_law_take := T.b_law_take, m_law_take := T.m_law_take, a_law_of := T.a_law_of, fd_law_of := T.fd_law_of, F_law_of := T.F_law_of, b_law_of := T.b_law_of, m_law_of := T.m_law_of, a_law_cells := T.a_law_cells, fd_law_cells := T.fd_law_cells, F_law_cells := T.F_law_cells, b_law_cells := T.b_law_cells, m_law_cells := T.m_law_cells, a_law_heard := T.a_law_heard, fd_law_heard := T.fd_law_heard, F_law_heard := T.F_law_heard, b_law_heard := T.b_law_heard, m_law_heard := T.m_law_heard, a_law_odd := T.a_law_odd, fd_law_odd := T.fd_law_odd, F_law_odd := T.F_law_odd, b_law_odd := T.b_law_odd, m_law_odd := T.m_law_odd, a_law_is_int := T.a_law_is_int, fd_law_is_int := T.fd_law_is_int, F_law_is_int := T.F_law_is_int, b_law_is_int := T.b_law_is_int, m_law_is_int := T.m_law_is_int, a_law_bent := T.a_law_bent, fd_law_bent := T.fd_law_bent, F_law_bent := T.F_law_bent, b_law_bent := T.b_law_bent, m_law_bent := T.m_law_bent, a_law_is_bool := T.a_law_is_bool, fd_law_is_bool := T.fd_law_is_bool, F_law_is_bool := T.F_law_is_bool, b_law_is_bool := T.b_law_is_bool, m_law_is_bool := T.m_law_is_bool, a_law_closes := T.a_law_closes, fd_law_closes := T.fd_law_closes, F_law_closes := T.F_law_closes, b_law_closes := T.b_law_closes, m_law_closes := T.m_law_closes, a_law_can_gap := T.a_law_can_gap, fd_law_can_gap := T.fd_law_can_gap, F_law_can_gap := T.F_law_can_gap, b_law_can_gap := T.b_law_can_gap, m_law_can_gap := T.m_law_can_gap, a_law_greatest := T.a_law_greatest, fd_law_greatest := T.fd_law_greatest, F_law_greatest := T.F_law_greatest, b_law_greatest := T.b_law_greatest, m_law_greatest := T.m_law_greatest, a_law_is_due := T.a_law_is_due, fd_law_is_due := T.fd_law_is_due, F_law_is_due := T.F_law_is_due, b_law_is_due := T.b_law_is_due, m_law_is_due := T.m_law_is_due, a_law_cover_drawn := T.a_law_cover_drawn, fd_law_cover_drawn := T.fd_law_cover_drawn, F_law_cover_drawn := T.F_law_cover_drawn, b_law_cover_drawn := T.b_law_cover_drawn, m_law_cover_drawn := T.m_law_cover_drawn, a_law_are_refused := T.a_law_are_refused, fd_law_are_refused := T.fd_law_are_refused, F_law_are_refused := T.F_law_are_refused, b_law_are_refused := T.b_law_are_refused, m_law_are_refused := T.m_law_are_refused, c_law_are_refused := T.c_law_are_refused, P_law_are_refused := T.P_law_are_refused, co_law_are_refused := T.co_law_are_refused, tb_law_are_refused := tabB_up T.tb_law_are_refused h, in_law_are_refused := T.in_law_are_refused, un_law_are_refused := T.un_law_are_refused, a_law_is_flat := T.a_law_is_flat, fd_law_is_flat := T.fd_law_is_flat, F_law_is_flat := T.F_law_is_flat, b_law_is_flat := T.b_law_is_flat, m_law_is_flat := T.m_law_is_flat, a_law_are_least_right := T.a_law_are_least_right, fd_law_are_least_right := T.fd_law_are_least_right, F_law_are_least_right := T.F_law_are_least_right, b_law_are_least_right := T.b_law_are_least_right, m_law_are_least_right := T.m_law_are_least_right, a_law_right := T.a_law_right, fd_law_right := T.fd_law_right, F_law_right := T.F_law_right, b_law_right := T.b_law_right, m_law_right := T.m_law_right, a_law := T.a_law, fd_law := T.fd_law, F_law := T.F_law, b_law := T.b_law, m_law := T.m_law, z_abs := T.z_abs, z_all := T.z_all, z_any := T.z_any, z_bool := T.z_bool, z_int := T.z_int, z_isinstance := T.z_isinstance, z_len := T.z_len, z_list := T.z_list, z_max := T.z_max, z_min := T.z_min, z_range := T.z_range, z_repr := T.z_repr, z_str := T.z_str, z_sum := T.z_sum, z_tuple := T.z_tuple, t_CLOSES := T.t_CLOSES, c_CLOSES := T.c_CLOSES, t_FLAT := T.t_FLAT, c_FLAT := T.c_FLAT, t_LONG := T.t_LONG, c_LONG := T.c_LONG, t_MOST_SIZE := T.t_MOST_SIZE, c_MOST_SIZE := T.c_MOST_SIZE, t_PARTS := T.t_PARTS, c_PARTS := T.c_PARTS, t_SHORT := T.t_SHORT, c_SHORT := T.c_SHORT, t_THREE := T.t_THREE, c_THREE := T.c_THREE, g_BindError := T.g_BindError, ini := T.ini, k2 := fun b o e => h b o (T.k2 b o e), bI := T.bI, tI := T.tI, e_BadCover := T.e_BadCover, e_BadInt := T.e_BadInt, k_closes_cover := T.k_closes_cover, k_opens_flat_cover := T.k_opens_flat_cover, k_shows_closes_value := T.k_shows_closes_value, k_shows_opens_flat_value := T.k_shows_opens_flat_value }
theorem err1 {K : PySem.W.Frag} {mg : Str → Option Value} {base : Heap} (T : Top K mg base) : ∀ m, errs.contains m = true → Err1 K mg m := errs_all (fun n hn => by
  unfold errs at hn
  simp only [List.mem_cons, List.not_mem_nil, or_false] at hn
  rcases hn with rfl | rfl <;> first | exact T.e_BadCover | exact T.e_BadInt)
theorem errF {K : PySem.W.Frag} {mg : Str → Option Value} {base : Heap} (T : Top K mg base) : ∀ m, errs.contains m = true → ErrF K m := fun m h => (err1 T m h).f
theorem errX {K : PySem.W.Frag} {mg : Str → Option Value} {base : Heap} (T : Top K mg base) : ∀ m, errs.contains m = true → PySem.W.exmOne K (.ref (He.ga K m)) (.ref (He.ga K "BindError")) = some true := fun m h => (err1 T m h).x
end Law45

set_option maxHeartbeats 4000000
namespace Law45
open PySem PySem.Spec PyProof.Rows L2 L3
theorem p_law_take : ∀ ds c Q, m_law_take ds c Q → runM 5 g_law_take ds c Q := by
  intro ds c Q h
  unfold m_law_take at h
  split at h
  · rename_i n
    obtain ⟨⟨h1, h2, h3⟩, h⟩ := h
    have hq : ∀ i : Int, Q (.int (i % n)) (c + 1) := fun i => h _ (Int.emod_nonneg _ (by omega)) (Int.emod_lt_of_pos _ h1)
    simp [runM, g_law_take, start3]
    intro x hx
    split
    · exact fun x' hx' => ⟨h1, fun y hy => ⟨⟨h1, h2⟩, Int.ediv_nonneg hy (by omega), hq _⟩⟩
    · intro z z0 z1
      refine ⟨by omega, z1, fun z2 y0 y1 => ?_⟩
      obtain ⟨p, e, p0, p1⟩ := L3.five_at z2 y0 (a := 2147483647) (b := 2147483629) (c := 2147483587) (d := 2147483579) (e := 2147483563) (by decide) (by decide)
      rw [e]
      simp
      intro y a0 a1 z3 b0 b1
      refine ⟨.inl ⟨by decide, by decide⟩, fun z4 c0 c1 => ?_⟩
      have hz : z3 * z4 ≤ 1000000 * 1000000 := Int.mul_le_mul (by omega) (by omega) c0 (by decide)
      have hz0 : 0 ≤ z3 * z4 := Int.mul_nonneg b0 c0
      have hz1 : 102811 * z3 * z4 = 102811 * (z3 * z4) := Int.mul_assoc _ _ _
      refine ⟨.inr ⟨by omega, by omega⟩, .inl ?_, p0, ?_⟩
      · rw [hz1]
        generalize z3 * z4 = t at hz hz0
        omega
      · generalize (y + 102811 * z3 * z4 + 3907) ^ 3 = v
        have v0 := Int.emod_nonneg v (show p ≠ 0 by omega)
        have v1 := Int.emod_lt_of_pos v p0
        generalize v % p = u at v0 v1
        exact fun z5 d0 d1 => ⟨.inl ⟨by decide, by decide⟩, .inl ⟨by omega, by omega⟩, h1, hq _⟩
  · exact h.elim
theorem S_take {n : Int} {c : Nat} {Q : KD} (h0 : 0 < n) (h1 : n < 1073741824) (hc : c < 1000000) (q : ∀ d, 0 ≤ d → d < n → Q (.int d) (c + 1)) : m_law_take [.pot, .int n] c Q := ⟨⟨h0, h1, hc⟩, q⟩
theorem S_is_int {d : D} {lo hi : Int} {c : Nat} {Q : KD} (h : (L3.tyName d).isSome = true) (q : Q (.bl (L3.isIntB lo hi d)) c) : m_is_int [d, .int lo, .int hi] c Q := by
  refine ⟨rfl, ?_⟩
  cases d with
  | int v =>
    simp [runM, g_is_int, start3]
    refine ⟨rfl, ?_⟩
    have e : L3.isIntB lo hi (.int v) = if lo ≤ v then decide (v ≤ hi) else false := by
      show decide (lo ≤ v ∧ v ≤ hi) = _
      by_cases h : lo ≤ v <;> simp [h]
    rw [e] at q
    split
    · rename_i z
      rw [if_pos z] at q
      exact q
    · rename_i z
      rw [if_neg z] at q
      exact q
  | bl b => simp [runM, g_is_int, start3]; exact ⟨rfl, q⟩
  | non => simp [runM, g_is_int, start3]; exact ⟨rfl, q⟩
  | str s => simp [runM, g_is_int, start3]; exact ⟨rfl, q⟩
  | tup l => simp [runM, g_is_int, start3]; exact ⟨rfl, q⟩
  | lst l => simp [runM, g_is_int, start3]; exact ⟨rfl, q⟩
  | ty n => cases h
  | rf a => cases h
  | pot => cases h
  | exc n d => cases h
  | clo a o => cases h
  | dic l => simp [runM, g_is_int, start3]; exact ⟨rfl, q⟩
  | dct ks l =>
    cases ks with
    | k _ => simp [runM, g_is_int, start3]; exact ⟨rfl, q⟩
    | t _ => cases h
  | scr l => cases h
  | lam a F0 p => cases h
theorem S_int_ok {v lo hi : Int} {c : Nat} {Q : KD} (h1 : lo ≤ v) (h2 : v ≤ hi) (q : Q (.bl true) c) : m_is_int [.int v, .int lo, .int hi] c Q :=
  S_is_int rfl (by rw [show L3.isIntB lo hi (.int v) = true from decide_eq_true ⟨h1, h2⟩]; exact q)
theorem S_are_ints {d : D} {lo hi : Int} {c : Nat} {Q : KD} (h : L3.tyAll d = true) (q : Q (.bl (L3.areIntsB lo hi d)) c) : m_are_ints [d, .int lo, .int hi] c Q := by
  refine ⟨rfl, ?_⟩
  cases d with
  | tup l =>
    simp [runM, g_are_ints, start3, -compL]
    refine ⟨rfl, comp_map (fun d => .bl (L3.isIntB lo hi d)) _ _ (fun d hd K hK => ?_) ?_⟩
    · simp
      exact S_is_int (List.all_eq_true.mp h d hd) hK
    · rw [L3.bls_map]
      simp
      rw [show (l.all fun d => L3.isIntB lo hi d) = L3.areIntsB lo hi (.tup l) from rfl]
      exact q
  | int v => simp [runM, g_are_ints, start3]; exact ⟨rfl, q⟩
  | bl b => simp [runM, g_are_ints, start3]; exact ⟨rfl, q⟩
  | non => simp [runM, g_are_ints, start3]; exact ⟨rfl, q⟩
  | str s => simp [runM, g_are_ints, start3]; exact ⟨rfl, q⟩
  | lst l => simp [runM, g_are_ints, start3]; exact ⟨rfl, q⟩
  | ty n => cases h
  | rf a => cases h
  | pot => cases h
  | exc n d => cases h
  | clo a o => cases h
  | dic l => simp [runM, g_are_ints, start3]; exact ⟨rfl, q⟩
  | dct ks l =>
    cases ks with
    | k _ => simp [runM, g_are_ints, start3]; exact ⟨rfl, q⟩
    | t _ => cases h
  | scr l => cases h
  | lam a F0 p => cases h
theorem S_ints_ok {vs : List Int} {lo hi : Int} {c : Nat} {Q : KD} (h : ∀ v ∈ vs, lo ≤ v ∧ v ≤ hi) (q : Q (.bl true) c) : m_are_ints [.tup (vs.map .int), .int lo, .int hi] c Q :=
  S_are_ints (L3.tyAll_ints vs) (by rw [L3.areInts_ok h]; exact q)
theorem S_ints_nat {vs : List Nat} {lo hi : Int} {c : Nat} {Q : KD} (h : ∀ v ∈ vs, lo ≤ (v : Int) ∧ (v : Int) ≤ hi) (q : Q (.bl true) c) : m_are_ints [.tup (vs.map nD), .int lo, .int hi] c Q := by
  rw [L3.map_nD]
  exact S_ints_ok (fun v hv => by obtain ⟨n, hn, rfl⟩ := List.mem_map.mp hv; exact h n hn) q
theorem S_law_of {l : List D} {c : Nat} {Q : KD} (h0 : 0 < l.length) (h1 : l.length < 1000000) (hc : c < 1000000) (q : ∀ d ∈ l, Q d (c + 1)) : m_law_of [.pot, .lst l] c Q := by
  refine ⟨rfl, ?_⟩
  simp [runM, g_law_of, start3]
  refine S_take (by omega) (by omega) hc fun d d0 d1 => ?_
  simp
  obtain ⟨n, rfl⟩ := Int.eq_ofNat_of_zero_le d0
  have hn : n < l.length := by omega
  rw [atI_nat (List.getElem?_eq_getElem hn)]
  exact q _ (List.getElem_mem hn)
theorem S_law_ofT {l : List D} {c : Nat} {Q : KD} (h0 : 0 < l.length) (h1 : l.length < 1000000) (hc : c < 1000000) (q : ∀ d ∈ l, Q d (c + 1)) : m_law_of [.pot, .tup l] c Q := by
  refine ⟨rfl, ?_⟩
  simp [runM, g_law_of, start3]
  refine S_take (by omega) (by omega) hc fun d d0 d1 => ?_
  simp
  obtain ⟨n, rfl⟩ := Int.eq_ofNat_of_zero_le d0
  have hn : n < l.length := by omega
  rw [atI_nat (List.getElem?_eq_getElem hn)]
  exact q _ (List.getElem_mem hn)
theorem S_cells {ns : List Int} {c : Nat} {k : Int} {Q : KD} (hk : 0 < k) (hk1 : k ≤ 63) (hl : ns.length ≤ 63) (q : ∀ n : Nat, 0 < n → (n : Int) ≤ k → Q (.lst (rangeL 0 n)) c) : m_law_cells [.scr ns, .int k] c Q := by
  refine ⟨rfl, ?_⟩
  simp [runM, g_law_cells, start3]
  generalize hj : (if 1 < if (ns.length : Int) < k then (ns.length : Int) else k then if (ns.length : Int) < k then (ns.length : Int) else k else 1) = j
  have k0 : 0 < j ∧ j ≤ k := by
    subst hj
    split <;> split <;> omega
  exact ⟨⟨by omega, by omega⟩, q _ (by omega) (by omega)⟩
theorem S_pot {ns : List Int} {a : Int} {c : Nat} {Q : List D → Nat → Prop} (a0 : 0 ≤ a) (a1 : a ≤ 63) (q : ∀ x y : Int, 0 ≤ x → 0 ≤ y → y < 2 ^ 61 → Q [.int x, .int y, .int 0] c) : m_law_pot [.scr ns, .int a] c Q := by
  refine ⟨rfl, ?_⟩
  simp [g_law_pot, start3]
  have okS : ∀ {x y : Int}, 0 ≤ x → x ≤ 100000000 → L3.MulOk x y := fun h0 h1 => .inl ⟨by omega, by omega⟩
  have fin : ∀ m v w : Int, 0 < m → (w = 0 ∨ w = 1) → L3.MulOk (v % m) w ∧ 0 ≤ v % m * w := fun m v w hm hw => by
    refine ⟨?_, ?_⟩
    · rcases hw with rfl | rfl
      · exact .inr ⟨by decide, by decide⟩
      · exact .inr ⟨by decide, by decide⟩
    · refine Int.mul_nonneg (Int.emod_nonneg _ (by omega)) ?_
      rcases hw with rfl | rfl <;> decide
  have one : ∀ p : Prop, [Decidable p] → ((if p then 1 else 0 : Int) = 0 ∨ (if p then 1 else 0 : Int) = 1) := fun p _ => by
    by_cases h : p
    · rw [if_pos h]; exact .inr rfl
    · rw [if_neg h]; exact .inl rfl
  by_cases z : a < ns.length
  · rw [if_pos z]
    obtain ⟨n, rfl⟩ := Int.eq_ofNat_of_zero_le a0
    have hn : n < ns.length := by omega
    rw [atI_nat (List.getElem?_eq_getElem hn)]
    exact ⟨(fin _ _ _ (by decide) (one _)).1, .inr ⟨by decide, by decide⟩, okS (by decide) (by decide), .inr ⟨by omega, by omega⟩, q _ _ (fin _ _ _ (by decide) (one _)).2 (Int.emod_nonneg _ (by decide)) (Int.lt_trans (Int.emod_lt_of_pos _ (by decide)) (by decide))⟩
  · rw [if_neg z, L3.cut_one, L3.ints_of]
    exact ⟨okS (by decide) (by decide), (fin _ _ _ (by decide) (one _)).1, .inr ⟨by decide, by decide⟩, okS (by decide) (by decide), .inr ⟨by omega, by omega⟩, q _ _ (fin _ _ _ (by decide) (one _)).2 (Int.emod_nonneg _ (by decide)) (Int.lt_trans (Int.emod_lt_of_pos _ (by decide)) (by decide))⟩
/-- the whole of law's last row, given one pot's -/
theorem S_all {ns : List Int} {k : Int} {c : Nat} {ρ : Rho} {v : Nat} {Q : KD} (right : ∀ Q : KD, (∀ c', Q (.bl true) c') → m_law_right [.pot] 0 Q) (hk : 0 < k) (hk1 : k ≤ 63) (hl : ns.length ≤ 63) (hv : v < ρ.length) (h0 : get3 ρ 0 = some (.scr ns)) (hv0 : v ≠ 0) (q : Q (.bl true) c) :
    eB allM (aCons (eComp (iSeq (eCall m_law_cells (aCons (eVar 0) (aCons (eC (.int k)) aNil)))) (gN v) tYes3 (ePotCall m_law_pot m_law_right (aCons (eVar 0) (aCons (eVar v) aNil))) [v]) aNil) ρ c Q := by
  simp [h0, -compL]
  refine S_cells hk hk1 hl fun n n0 hn => ?_
  simp [-compL]
  refine comp_map (fun _ => .bl true) _ _ (fun d hd K hK => ?_) ?_
  · obtain ⟨j, hj, rfl⟩ := List.mem_map.mp hd
    have hj := List.mem_range.mp hj
    simp
    rw [L3.vA_upS, L3.get3_set_ne _ hv0, h0, L3.get3_set_eq hv]
    simp
    refine S_pot (by omega) (by omega) fun x y x0 y0 y1 => ⟨x, y, rfl, x0, y0, y1, right _ fun _ => ⟨rfl, hK⟩⟩
  · rw [bls_true]
    show Q (.bl ((rangeL 0 n |>.map fun _ => true).all id)) c
    rw [all_true]
    exact q
end Law45

set_option maxHeartbeats 2000000
/-! L5A: small data can be shown (repr). -/
namespace L3
open PySem PySem.Spec PyProof.Rows L2
mutual
/-- ints below 10 ** 30, bools, None, short texts, tuples and lists of such, of a depth -/
def okD : Nat → D → Bool
  | _, .non => true
  | _, .bl _ => true
  | _, .int i => decide (i.natAbs < 10 ^ 30)
  | _, .str x => decide (x.length ≤ 40) && x.cps.all (· < 0x110000)
  | n + 1, .tup l => okL n l
  | n + 1, .lst l => okL n l
  | _, _ => false
def okL : Nat → List D → Bool
  | _, [] => true
  | n, d :: l => okD n d && okL n l
end
mutual
def szD : D → Nat
  | .tup l => 1 + szL l
  | .lst l => 1 + szL l
  | .str _ => 10
  | _ => 1
def szL : List D → Nat
  | [] => 0
  | d :: l => szD d + szL l
end
theorem okL_of {n : Nat} : ∀ {l : List D}, (∀ d ∈ l, okD n d = true) → okL n l = true
  | [], _ => by unfold okL; rfl
  | x :: l, h => by
    unfold okL
    rw [h x List.mem_cons_self, okL_of fun d hd => h d (List.mem_cons_of_mem _ hd)]
    rfl
theorem okD_tup {n : Nat} {l : List D} (h : ∀ d ∈ l, okD n d = true) : okD (n + 1) (.tup l) = true := by
  unfold okD
  exact okL_of h
theorem okD_lst {n : Nat} {l : List D} (h : ∀ d ∈ l, okD n d = true) : okD (n + 1) (.lst l) = true := by
  unfold okD
  exact okL_of h
theorem okD_int {n : Nat} {i : Int} (h : i.natAbs < 10 ^ 30) : okD n (.int i) = true := by
  unfold okD
  exact decide_eq_true h
theorem szL_le {k : Nat} : ∀ {l : List D}, (∀ d ∈ l, szD d ≤ k) → szL l ≤ k * l.length
  | [], _ => by simp [szL]
  | x :: l, h => by
    unfold szL
    have h1 := h x List.mem_cons_self
    have h2 := szL_le fun d hd => h d (List.mem_cons_of_mem _ hd)
    rw [List.length_cons, Nat.mul_succ]
    omega
theorem int_len {i : Int} (h : i.natAbs < 10 ^ 30) : (Str.ofString (toString i)).length ≤ 31 := by
  by_cases z : 0 ≤ i
  · have := PyProof.Rows.toString_length_le z (by decide : 0 < 30) (show i < 10 ^ 30 by omega)
    omega
  · have h1 := PyProof.Rows.len_text_negI (n := i) (by omega)
    have h2 := PyProof.Rows.toString_length_le (v := 0 - i) (by omega) (by decide : 0 < 30) (show 0 - i < 10 ^ 30 by omega)
    omega
theorem int_log {i : Int} (h : i.natAbs < 10 ^ 30) : i.natAbs.log2 < 1920 := by
  by_cases z : i.natAbs = 0
  · rw [z]
    decide
  · refine (Nat.log2_lt z).mpr ?_
    have : (10 : Nat) ^ 30 ≤ 2 ^ 1920 := by decide +kernel
    omega
structure Shw (d : D) (n : Nat) (y : PyData) : Prop where
  py : toPy d = some y
  sh : y.showable = true
  hd : y.hasDict = false
  len : y.shown.length + 4 ≤ 44 * szD d
  dep : y.depth ≤ n
structure ShwL (l : List D) (n : Nat) (ys : List PyData) : Prop where
  py : toPyL l = some ys
  sh : PyData.showableAll ys = true
  hd : PyData.hasDictAll ys = false
  len : piled (PyData.shownAll ys) ≤ 44 * szL l
  dep : PyData.depthAll ys ≤ n
theorem join_pile (ys : List Str) : (Str.join ", " ys).length ≤ piled ys := by
  by_cases e : ys = []
  · rw [e]
    exact Nat.zero_le _
  · have := join_length_add _ e
    omega
theorem ShwL.nil {n : Nat} : ShwL [] n [] := ⟨rfl, rfl, rfl, by simp [PyData.shownAll, piled], Nat.zero_le _⟩
theorem ShwL.cons {d : D} {l : List D} {n : Nat} {y : PyData} {ys : List PyData} (h : Shw d n y) (t : ShwL l n ys) : ShwL (d :: l) n (y :: ys) := by
  refine ⟨?_, ?_, ?_, ?_, ?_⟩
  · unfold toPyL
    rw [h.py, t.py]
  · simp only [PyData.showableAll, h.sh, t.sh, Bool.and_true]
  · simp only [PyData.hasDictAll, h.hd, t.hd, Bool.or_false]
  · rw [PyData.shownAll_cons, piled_cons]
    unfold szL
    have := h.len
    have := t.len
    omega
  · have := h.dep
    have := t.dep
    rw [PyData.depthAll]
    omega
mutual
theorem shw_of : ∀ {n : Nat} {d : D}, okD n d = true → ∃ y, Shw d n y
  | n, .non, _ => ⟨.none, rfl, rfl, rfl, by decide +kernel, Nat.zero_le _⟩
  | n, .bl b, _ => ⟨.bool b, rfl, rfl, rfl, by cases b <;> decide +kernel, Nat.zero_le _⟩
  | n, .int i, h => by
    unfold okD at h
    have h := of_decide_eq_true h
    refine ⟨.int i, rfl, decide_eq_true (int_log h), rfl, ?_, Nat.zero_le _⟩
    rw [PyData.shown_int]
    have := int_len h
    show _ ≤ 44 * 1
    omega
  | n, .str x, h => by
    unfold okD at h
    rw [Bool.and_eq_true] at h
    have h1 := of_decide_eq_true h.1
    refine ⟨.str x, rfl, rfl, rfl, ?_, Nat.zero_le _⟩
    have := StrLaws.reprText_len x fun c hc => by
      have h2 := h.2
      have := of_decide_eq_true (Array.all_eq_true_iff_forall_mem.mp h2 c (Array.mem_toList_iff.mp hc))
      omega
    rw [PyData.shown_str]
    show _ ≤ 44 * 10
    omega
  | n + 1, .tup l, h => by
    unfold okD at h
    obtain ⟨ys, t⟩ := shw_ofL h
    refine ⟨.tuple ys, by unfold toPy; rw [t.py]; rfl, t.sh, t.hd, ?_, ?_⟩
    · rw [PyData.shown_tuple, Str.length_append, Str.length_append]
      have := join_pile (PyData.shownAll ys)
      have := t.len
      have : (Str.ofString (if ys.length == 1 then ",)" else ")" : String)).length ≤ 2 := by split <;> decide
      have : (Str.ofString "(").length = 1 := rfl
      unfold szD
      omega
    · rw [PyData.depth]
      have := t.dep
      omega
  | n + 1, .lst l, h => by
    unfold okD at h
    obtain ⟨ys, t⟩ := shw_ofL h
    refine ⟨.list ys, by unfold toPy; rw [t.py]; rfl, t.sh, t.hd, ?_, ?_⟩
    · rw [PyData.shown_list, Str.length_append, Str.length_append]
      have := join_pile (PyData.shownAll ys)
      have := t.len
      have : (Str.ofString "[").length = 1 := rfl
      have : (Str.ofString "]").length = 1 := rfl
      unfold szD
      omega
    · rw [PyData.depth]
      have := t.dep
      omega
  | 0, .tup l, h => by simp [okD] at h
  | 0, .lst l, h => by simp [okD] at h
  | _, .ty _, h => by simp [okD] at h
  | _, .rf _, h => by simp [okD] at h
  | _, .pot, h => by simp [okD] at h
  | _, .scr _, h => by simp [okD] at h
  | _, .lam .., h => by simp [okD] at h
  | _, .exc .., h => by simp [okD] at h
  | _, .clo .., h => by simp [okD] at h
  | _, .dic _, h => by simp [okD] at h
  | _, .dct _ _, h => by simp [okD] at h
theorem shw_ofL : ∀ {n : Nat} {l : List D}, okL n l = true → ∃ ys, ShwL l n ys
  | n, [], _ => ⟨[], .nil⟩
  | n, d :: l, h => by
    unfold okL at h
    obtain ⟨h1, h2⟩ := Bool.and_eq_true_iff.mp h
    obtain ⟨y, hy⟩ := shw_of h1
    obtain ⟨ys, hys⟩ := shw_ofL h2
    exact ⟨y :: ys, ShwL.cons hy hys⟩
end
/-- small data can be shown -/
theorem show_small {n : Nat} {d : D} (h : okD n d = true) (hn : n ≤ 64) (hz : szD d ≤ 300000) : ∃ y, ShowP d y := by
  obtain ⟨y, t⟩ := shw_of h
  refine ⟨y, t.py, t.sh, t.hd, ?_, by have := t.dep; omega⟩
  rw [sizeLine_eq]
  have := t.len
  omega
end L3

/-! L5B: rules for comprehensions over a mapped list, told by what is mapped. -/
namespace L3
open PySem PySem.Spec PyProof.Rows L2
theorem comp_mapG {α : Type} {g : FG} {fe : FE} {ρ : Rho} (f h : α → D) {c : Nat} : ∀ (l : List α) (Q : List D → Nat → Prop),
    (∀ x ∈ l, ∀ (K : KD), K (h x) c → g (f x) (ρ.map upS) fun ρ' => fe (ρ'.map vA) c K) → Q (l.map h) c → compL g tYes3 fe ρ (l.map f) c Q
  | [], Q, _, q => q
  | d :: l, Q, step, q => by
    show g (f d) (ρ.map upS) fun ρ' => fe (ρ'.map vA) c fun y c => compL g tYes3 fe ρ (l.map f) c fun ys c => Q (y :: ys) c
    exact step d List.mem_cons_self _ (comp_mapG f h l _ (fun d hd => step d (List.mem_cons_of_mem _ hd)) q)
theorem comp_filterG {α : Type} {g : FG} {t : FT} {fe : FE} {ρ : Rho} (P : α → Bool) (f h : α → D) {c : Nat} : ∀ (l : List α) (Q : List D → Nat → Prop),
    (∀ x ∈ l, ∀ (A : KD) (B : Nat → Prop), (P x = true → A (h x) c) → (P x = false → B c) → g (f x) (ρ.map upS) fun ρ' => t (ρ'.map vA) c fun b c => if b = true then fe (ρ'.map vA) c A else B c) → Q ((l.filter P).map h) c → compL g t fe ρ (l.map f) c Q
  | [], Q, _, q => q
  | d :: l, Q, step, q => by
    show g (f d) (ρ.map upS) fun ρ' => t (ρ'.map vA) c fun b c => if b = true then fe (ρ'.map vA) c (fun y c => compL g t fe ρ (l.map f) c fun ys c => Q (y :: ys) c) else compL g t fe ρ (l.map f) c Q
    have st : ∀ e ∈ l, _ := fun e he => step e (List.mem_cons_of_mem _ he)
    refine step d List.mem_cons_self _ _ (fun z => ?_) fun z => ?_
    · refine comp_filterG P f h l _ st ?_
      rw [List.filter_cons_of_pos z] at q
      exact q
    · refine comp_filterG P f h l _ st ?_
      rw [List.filter_cons_of_neg (by rw [z]; decide)] at q
      exact q
/-- drawn ones, told by what they are -/
theorem comp_drawn {α : Type} {g : FG} {fe : FE} {ρ : Rho} (P : α → Prop) (h : α → D) (k C : Nat) : ∀ (l : List D) (c : Nat) (Q : List D → Nat → Prop),
    (∀ d ∈ l, ∀ c (K : KD), c + k ≤ C → (∀ x c', P x → c' ≤ c + k → K (h x) c') → g d (ρ.map upS) fun ρ' => fe (ρ'.map vA) c K) → c + k * l.length ≤ C → (∀ (xs : List α) c', xs.length = l.length → (∀ x ∈ xs, P x) → c' ≤ c + k * l.length → Q (xs.map h) c') → compL g tYes3 fe ρ l c Q
  | [], c, Q, _, _, q => q [] c rfl (fun _ h => absurd h List.not_mem_nil) (Nat.le_add_right _ _)
  | d :: l, c, Q, step, hc, q => by
    have e : c + k * (d :: l).length = c + k + k * l.length := by
      rw [List.length_cons, Nat.mul_succ]
      omega
    rw [e] at hc q
    show g d (ρ.map upS) fun ρ' => fe (ρ'.map vA) c fun y c => compL g tYes3 fe ρ l c fun ys c => Q (y :: ys) c
    refine step d List.mem_cons_self c _ (by omega) fun y c1 py hc1 => comp_drawn P h k C l c1 _ (fun d hd => step d (List.mem_cons_of_mem _ hd)) (by omega) fun ys c2 h1 h2 h3 => q (y :: ys) c2 (by rw [List.length_cons, List.length_cons, h1]) (fun z hz => ?_) (by omega)
    rcases List.mem_cons.mp hz with e | e
    · rw [e]; exact py
    · exact h2 z e
end L3

set_option maxHeartbeats 4000000
namespace Law45
open PySem PySem.Spec PyProof.Rows
open L2 hiding FnOk Room
open L3
abbrev cov (t b s j h : Int) : D := .tup [.int t, .int b, .int s, .int j, .int h]
def InC (m t b s j h : Int) : Prop := (0 ≤ t ∧ t ≤ m) ∧ (0 ≤ b ∧ b ≤ m) ∧ (0 ≤ s ∧ s ≤ m) ∧ (0 ≤ j ∧ j ≤ m) ∧ (0 ≤ h ∧ h ≤ m)
theorem S_look {t b s j h : Int} {c : Nat} {Q : KD} (i : InC 1000000 t b s j h) {QX : KXD} (q : Q .non c) : m_look_at_cover [cov t b s j h] c Q QX := by
  refine ⟨rfl, ?_⟩
  simp [g_look_at_cover, start3]
  refine ⟨rfl, ?_⟩
  simp [runM, g_is_cover, start3]
  refine S_ints_ok (vs := [t, b, s, j, h]) (fun v hv => ?_) ?_
  · obtain ⟨i1, i2, i3, i4, i5⟩ := i
    simp at hv
    rcases hv with rfl | rfl | rfl | rfl | rfl <;> assumption
  · simp
    exact q
def gapM (s j h : Int) : Int := if s + 2 * j < 2 * h then s + 2 * j else 2 * h
def Flat (b s j h : Int) : Prop := s - 2 * j ≤ gapM s j h ∧ s * s ≤ gapM s j h * gapM s j h + b * b
theorem gap_le {s j h : Int} (h0 : 0 ≤ h) (s0 : 0 ≤ s) (j0 : 0 ≤ j) : (if 2 * j < s then s - 2 * j else 0) ≤ gapM s j h ↔ s - 2 * j ≤ gapM s j h := by
  unfold gapM
  split <;> split <;> omega
theorem ok2 {x : Int} : L3.MulOk 2 x := .inl ⟨by decide, by decide⟩
theorem S_gaps {t b s j h : Int} {c : Nat} {Q : KD} (h0 : 0 ≤ h) (s0 : 0 ≤ s) (j0 : 0 ≤ j) (q1 : s - 2 * j ≤ gapM s j h → Q (.tup [.int (if 2 * j < s then s - 2 * j else 0), .int (gapM s j h)]) c) (q2 : ¬ s - 2 * j ≤ gapM s j h → Q .non c) : m_told_gaps [cov t b s j h] c Q := by
  refine ⟨rfl, ?_⟩
  simp [runM, g_told_gaps, start3]
  refine ⟨ok2, ok2, ok2, ?_⟩
  rw [show (if s + 2 * j < 2 * h then s + 2 * j else 2 * h) = gapM s j h from rfl]
  by_cases z : s - 2 * j ≤ gapM s j h
  · rw [if_pos ((gap_le h0 s0 j0).mpr z)]
    exact q1 z
  · rw [if_neg fun y => z ((gap_le h0 s0 j0).mp y)]
    exact q2 z
theorem okS {x y : Int} (h0 : 0 ≤ x) (h1 : x ≤ 100000000) : L3.MulOk x y := .inl ⟨by omega, by omega⟩
theorem S_fits {t b s j h g : Int} {c : Nat} {Q : KD} (s0 : 0 ≤ s ∧ s ≤ 100000000) (b0 : 0 ≤ b ∧ b ≤ 100000000) (g0 : 0 ≤ g ∧ g ≤ 100000000) (q : Q (.bl (decide (s * s ≤ g * g + b * b))) c) : m_fits_between [cov t b s j h, .int g] c Q := by
  refine ⟨rfl, ?_⟩
  simp [runM, g_fits_between, start3]
  exact ⟨okS s0.1 s0.2, okS g0.1 g0.2, okS b0.1 b0.2, q⟩
theorem gap_in {m s j h : Int} (s0 : 0 ≤ s ∧ s ≤ m) (j0 : 0 ≤ j ∧ j ≤ m) (h0 : 0 ≤ h ∧ h ≤ m) : 0 ≤ gapM s j h ∧ gapM s j h ≤ 2 * m := by
  unfold gapM
  split <;> omega
theorem InC.up {m n t b s j h : Int} (i : InC m t b s j h) (l : m ≤ n) : InC n t b s j h := by
  obtain ⟨⟨_, _⟩, ⟨_, _⟩, ⟨_, _⟩, ⟨_, _⟩, ⟨_, _⟩⟩ := i
  refine ⟨⟨?_, ?_⟩, ⟨?_, ?_⟩, ⟨?_, ?_⟩, ⟨?_, ?_⟩, ?_, ?_⟩ <;> omega
theorem cut4 (t b s j h : Int) : L3.cutD [D.int t, D.int b, D.int s, D.int j, D.int h] none (some 4) = [D.int t, D.int b, D.int s, D.int j] := rfl
end Law45

set_option maxHeartbeats 4000000
namespace Law45
open PySem PySem.Spec PyProof.Rows
open L2 hiding FnOk Room
open L3
/-! ### what _law_odd and _law_bent may answer -/
mutual
def niceD : Nat → D → Bool
  | _, .non => true
  | _, .bl _ => true
  | _, .int i => decide (i.natAbs < 10 ^ 40)
  | _, .str x => decide (x.length ≤ 1000)
  | n + 1, .tup l => decide (l.length ≤ 50) && niceL n l
  | n + 1, .lst l => decide (l.length ≤ 50) && niceL n l
  | _, .dct (.k _) _ => true
  | _, _ => false
def niceL : Nat → List D → Bool
  | _, [] => true
  | n, d :: l => niceD n d && niceL n l
end
theorem niceL_mem {n : Nat} : ∀ {l : List D} {d : D}, niceL n l = true → d ∈ l → niceD n d = true
  | [], d, _, h => by cases h
  | x :: l, d, q, h => by
    unfold niceL at q
    rw [Bool.and_eq_true] at q
    rcases List.mem_cons.mp h with rfl | h
    · exact q.1
    · exact niceL_mem q.2 h
theorem nice_ty {n : Nat} {d : D} (h : niceD n d = true) : (tyName d).isSome = true := by
  cases d with
  | dct ks l => cases ks <;> first | rfl | (cases n <;> simp [niceD] at h)
  | non => rfl
  | bl b => rfl
  | int i => rfl
  | str x => rfl
  | tup l => rfl
  | lst l => rfl
  | dic l => cases n <;> simp [niceD] at h
  | ty n' => cases n <;> simp [niceD] at h
  | rf a => cases n <;> simp [niceD] at h
  | pot => cases n <;> simp [niceD] at h
  | exc n' d => cases n <;> simp [niceD] at h
  | clo a o => cases n <;> simp [niceD] at h
  | scr l => cases n <;> simp [niceD] at h
  | lam a F0 p => cases n <;> simp [niceD] at h
theorem S_odd {c : Nat} (hc : c < 1000000) {Q : KD} (q : ∀ d, niceD 4 d = true → Q d (c + 1)) : m_law_odd [.pot] c Q := by
  refine ⟨rfl, ?_⟩
  simp [runM, g_law_odd, start3]
  refine S_law_of (by simp) (by simp) hc fun d hd => q d (niceL_mem (l := _) (by decide) hd)
theorem S_heard {TT : TLs} {d : D} {c : Nat} {Q : KD} (hd : TT.dom d) (h : TT.tl d [] c (fun v c => Q (.tup [.non, v]) c) fun n v c => errs.contains n = true ∧ Q (.tup [.exc n v, .non]) c) : m_law_heard TT [d] c Q := by
  refine ⟨rfl, ?_⟩
  simp [runM, g_law_heard, start3]
  exact ⟨hd, by simpa using h⟩
end Law45

set_option maxHeartbeats 4000000
namespace Law45
open PySem PySem.Spec PyProof.Rows
open L2 hiding FnOk Room
open L3
theorem nice_tup {n : Nat} {l : List D} (h : niceD n (.tup l) = true) : l.length ≤ 50 ∧ ∃ m, n = m + 1 ∧ niceL m l = true := by
  cases n with
  | zero => simp [niceD] at h
  | succ m =>
    unfold niceD at h
    rw [Bool.and_eq_true] at h
    exact ⟨of_decide_eq_true h.1, m, rfl, h.2⟩
theorem nice_all {n : Nat} {l : List D} (h : niceD n (.tup l) = true) : L3.tyAll (.tup l) = true := by
  obtain ⟨_, m, _, h⟩ := nice_tup h
  exact List.all_eq_true.mpr fun d hd => nice_ty (niceL_mem h hd)
theorem nice_any {n : Nat} {d : D} (h : niceD n d = true) : L3.tyAll d = true := by
  cases d with
  | tup l => exact nice_all h
  | dct ks l => cases ks <;> first | rfl | (cases n <;> simp [niceD] at h)
  | non => rfl
  | bl b => rfl
  | int i => rfl
  | str x => rfl
  | lst l => rfl
  | dic l => cases n <;> simp [niceD] at h
  | ty n' => cases n <;> simp [niceD] at h
  | rf a => cases n <;> simp [niceD] at h
  | pot => cases n <;> simp [niceD] at h
  | exc n' d => cases n <;> simp [niceD] at h
  | clo a o => cases n <;> simp [niceD] at h
  | scr l => cases n <;> simp [niceD] at h
  | lam a F0 p => cases n <;> simp [niceD] at h
theorem isInt_inv {lo hi : Int} {d : D} (h : L3.isIntB lo hi d = true) : ∃ v, d = .int v ∧ lo ≤ v ∧ v ≤ hi := by
  cases d with
  | int v => exact ⟨v, rfl, of_decide_eq_true h⟩
  | _ => cases h
theorem ints_inv {hi : Int} : ∀ {l : List D}, (∀ d ∈ l, L3.isIntB 0 hi d = true) → ∃ o : List Nat, l = o.map nD ∧ ∀ n ∈ o, (n : Int) ≤ hi
  | [], _ => ⟨[], rfl, fun _ h => by cases h⟩
  | d :: l, h => by
    obtain ⟨v, rfl, h0, h1⟩ := isInt_inv (h d List.mem_cons_self)
    obtain ⟨o, rfl, ho⟩ := ints_inv fun d hd => h d (List.mem_cons_of_mem _ hd)
    obtain ⟨n, rfl⟩ := Int.eq_ofNat_of_zero_le h0
    exact ⟨n :: o, rfl, fun m hm => by
      rcases List.mem_cons.mp hm with rfl | hm
      · exact h1
      · exact ho m hm⟩
theorem areInts_inv {hi : Int} {d : D} (h : L3.areIntsB 0 hi d = true) : ∃ o : List Nat, d = .tup (o.map nD) ∧ ∀ n ∈ o, (n : Int) ≤ hi := by
  cases d with
  | tup l =>
    obtain ⟨o, rfl, ho⟩ := ints_inv (List.all_eq_true.mp h)
    exact ⟨o, rfl, ho⟩
  | _ => cases h
theorem areInts_nat {o : List Nat} {hi : Int} (h : ∀ n ∈ o, (n : Int) ≤ hi) : L3.areIntsB 0 hi (.tup (o.map nD)) = true := by
  rw [map_nD]
  exact L3.areInts_ok fun v hv => by
    obtain ⟨n, hn, rfl⟩ := List.mem_map.mp hv
    exact ⟨by omega, h n hn⟩
theorem S_law_is_int {d : D} {lo hi : Int} {c : Nat} {Q : KD} (h : (L3.tyName d).isSome = true) (q : Q (.bl (L3.isIntB lo hi d)) c) : m_law_is_int [d, .int lo, .int hi] c Q := by
  obtain ⟨h1, h2⟩ := S_is_int (lo := lo) (hi := hi) (c := c) (Q := Q) h q
  exact ⟨h1, h2⟩
theorem areInts_not {lo hi : Int} {v : List D} : L3.areIntsB lo hi (.tup v) = false ↔ ∃ a, a ∈ v ∧ L3.isIntB lo hi a = false := by
  show (v.all fun d => L3.isIntB lo hi d) = false ↔ _
  rw [List.all_eq_false]
  exact ⟨fun ⟨a, h1, h2⟩ => ⟨a, h1, by simpa using h2⟩, fun ⟨a, h1, h2⟩ => ⟨a, h1, by simpa using h2⟩⟩
end Law45

set_option maxHeartbeats 4000000
namespace Law45
open PySem PySem.Spec PyProof.Rows
open L2 hiding FnOk Room
open L3
/-! ### what is bent -/
mutual
def smD : Nat → D → Bool
  | _, .int i => decide (0 ≤ i ∧ i < 10 ^ 30)
  | _, .str x => decide (x = "order" ∨ x = "crowd")
  | n + 1, .tup l => decide (l.length ≤ 25) && smL n l
  | _, _ => false
def smL : Nat → List D → Bool
  | _, [] => true
  | n, d :: l => smD n d && smL n l
end
theorem smL_mem {n : Nat} : ∀ {l : List D} {d : D}, smL n l = true → d ∈ l → smD n d = true
  | [], d, _, h => by cases h
  | x :: l, d, q, h => by
    unfold smL at q
    rw [Bool.and_eq_true] at q
    rcases List.mem_cons.mp h with rfl | h
    · exact q.1
    · exact smL_mem q.2 h
theorem smL_of {n : Nat} : ∀ {l : List D}, (∀ d ∈ l, smD n d = true) → smL n l = true
  | [], _ => by unfold smL; rfl
  | x :: l, h => by
    unfold smL
    rw [Bool.and_eq_true]
    exact ⟨h x List.mem_cons_self, smL_of fun d hd => h d (List.mem_cons_of_mem _ hd)⟩
theorem niceL_of {n : Nat} : ∀ {l : List D}, (∀ d ∈ l, niceD n d = true) → niceL n l = true
  | [], _ => by unfold niceL; rfl
  | x :: l, h => by
    unfold niceL
    rw [Bool.and_eq_true]
    exact ⟨h x List.mem_cons_self, niceL_of fun d hd => h d (List.mem_cons_of_mem _ hd)⟩
theorem nice_mk {n : Nat} {l : List D} (hl : l.length ≤ 50) (h : ∀ d ∈ l, niceD n d = true) : niceD (n + 1) (.tup l) = true := by
  unfold niceD
  rw [Bool.and_eq_true]
  exact ⟨decide_eq_true hl, niceL_of h⟩
theorem nice_mkL {n : Nat} {l : List D} (hl : l.length ≤ 50) (h : ∀ d ∈ l, niceD n d = true) : niceD (n + 1) (.lst l) = true := by
  unfold niceD
  rw [Bool.and_eq_true]
  exact ⟨decide_eq_true hl, niceL_of h⟩
theorem nice_int {n : Nat} {i : Int} (h : i.natAbs < 10 ^ 40) : niceD n (.int i) = true := by
  unfold niceD
  exact decide_eq_true h
theorem nice_str {n : Nat} {x : Str} (h : x.length ≤ 1000) : niceD n (.str x) = true := by
  unfold niceD
  exact decide_eq_true h
theorem nice_non {n : Nat} : niceD n .non = true := by unfold niceD; rfl
theorem nice_bl {n : Nat} {b : Bool} : niceD n (.bl b) = true := by unfold niceD; rfl
theorem smD_nice : ∀ (k j : Nat) (d : D), k ≤ j → smD k d = true → niceD j d = true := by
  intro k
  induction k with
  | zero =>
    intro j d hj h
    cases d with
    | int i =>
      unfold smD at h
      have h := of_decide_eq_true h
      exact nice_int (by omega)
    | str x =>
      unfold smD at h
      rcases of_decide_eq_true h with rfl | rfl
      · exact nice_str (by decide +kernel)
      · exact nice_str (by decide +kernel)
    | _ => simp [smD] at h
  | succ k ih =>
    intro j d hj h
    cases d with
    | int i =>
      unfold smD at h
      have h := of_decide_eq_true h
      exact nice_int (by omega)
    | str x =>
      unfold smD at h
      rcases of_decide_eq_true h with rfl | rfl
      · exact nice_str (by decide +kernel)
      · exact nice_str (by decide +kernel)
    | tup l =>
      unfold smD at h
      rw [Bool.and_eq_true] at h
      obtain ⟨i, rfl⟩ : ∃ i, j = i + 1 := ⟨j - 1, by omega⟩
      exact nice_mk (by have := of_decide_eq_true h.1; omega) fun d hd => ih i d (by omega) (smL_mem h.2 hd)
    | _ => simp [smD] at h
theorem smD_py : ∀ (k j : Nat) (d : D), k ≤ j → smD k d = true → pyD j d = true := by
  intro k
  induction k with
  | zero =>
    intro j d hj h
    cases d with
    | int i => exact pyD_int
    | str x =>
      unfold smD at h
      rcases of_decide_eq_true h with rfl | rfl
      · unfold pyD; decide +kernel
      · unfold pyD; decide +kernel
    | _ => simp [smD] at h
  | succ k ih =>
    intro j d hj h
    cases d with
    | int i => exact pyD_int
    | str x =>
      unfold smD at h
      rcases of_decide_eq_true h with rfl | rfl
      · unfold pyD; decide +kernel
      · unfold pyD; decide +kernel
    | tup l =>
      unfold smD at h
      rw [Bool.and_eq_true] at h
      obtain ⟨i, rfl⟩ : ∃ i, j = i + 1 := ⟨j - 1, by omega⟩
      unfold pyD
      exact pyDL_of fun d hd => ih i d (by omega) (smL_mem h.2 hd)
    | _ => simp [smD] at h
theorem cutD_le {l : List D} {a b : Option Int} : (L3.cutD l a b).length ≤ l.length := by
  unfold L3.cutD
  exact Nat.le_trans (List.length_take_le' ..) (by rw [List.length_drop]; omega)
theorem cutD_mem {l : List D} {a b : Option Int} {d : D} (h : d ∈ L3.cutD l a b) : d ∈ l := by
  unfold L3.cutD at h
  exact List.mem_of_mem_drop (List.mem_of_mem_take h)
theorem text_len {i : Int} (h : 0 ≤ i ∧ i < 10 ^ 30) : (Str.ofString i.repr).length ≤ 1000 :=
  Nat.le_trans (PyProof.Rows.toString_length_le h.1 (by decide : 0 < 30) h.2) (by decide)
theorem log_small {i : Int} (h : 0 ≤ i ∧ i < 10 ^ 30) : i.natAbs.log2 < 1920 := by
  by_cases z : i.natAbs = 0
  · rw [z]
    decide
  · refine (Nat.log2_lt z).mpr ?_
    have : (10 : Nat) ^ 30 ≤ 2 ^ 1920 := by decide +kernel
    omega
theorem bent_in {l : List D} {k : Nat} (hl : l.length ≤ 25) (h : ∀ d ∈ l, niceD k d = true) {d : D} (hd : d ∈ [D.lst l, D.tup (L3.cutD l (some 1) none), D.tup (L3.cutD l none (some (-1))), D.tup (l ++ L3.cutD l (some (-1)) none), D.tup l.reverse, D.tup [], D.non]) : niceD (k + 1) d = true := by
  have hc : ∀ a b, (L3.cutD l a b).length ≤ 25 := fun a b => Nat.le_trans cutD_le hl
  have hm : ∀ a b d, d ∈ L3.cutD l a b → niceD k d = true := fun a b d hd => h d (cutD_mem hd)
  simp only [List.mem_cons, List.not_mem_nil, or_false] at hd
  rcases hd with rfl | rfl | rfl | rfl | rfl | rfl | rfl
  · exact nice_mkL (by omega) h
  · exact nice_mk (by have := hc (some 1) none; omega) (hm _ _)
  · exact nice_mk (by have := hc none (some (-1)); omega) (hm _ _)
  · refine nice_mk (by rw [List.length_append]; have := hc (some (-1)) none; omega) fun d hd => ?_
    rcases List.mem_append.mp hd with z | z
    · exact h d z
    · exact hm _ _ d z
  · exact nice_mk (by rw [List.length_reverse]; omega) fun d hd => h d (List.mem_reverse.mp hd)
  · exact nice_mk (by decide) fun d hd => absurd hd List.not_mem_nil
  · exact nice_non
end Law45

set_option maxHeartbeats 4000000
namespace Law45
open PySem PySem.Spec PyProof.Rows
open L2 hiding FnOk Room
open L3
theorem S_law_is_bool {a b : Bool} {c : Nat} {Q : KD} (h : a = b) (q : Q (.bl true) c) : m_law_is_bool [.bl a, .bl b] c Q := by
  refine ⟨rfl, ?_⟩
  simp [runM, g_law_is_bool, start3, h]
  exact ⟨rfl, q⟩
end Law45

set_option maxHeartbeats 2000000
/-! L5G: what has the text of a pair of ints is that pair. -/
namespace L3
open PySem PySem.Spec PyProof.Rows L2 PySem.StrLaws PySem.Str
theorem nat_text (n : Nat) : (toString (n : Int) : String).toList = Nat.toDigits 10 n := by
  show (Int.repr (n : Int)).toList = _
  simp [Int.repr, Nat.repr]
theorem digits_inj {a b : Nat} (h : Nat.toDigits 10 a = Nat.toDigits 10 b) : a = b := by
  rw [← Nat.ofDigitChars_toDigits (b := 10) (n := a) (by decide) (by decide), h, Nat.ofDigitChars_toDigits (by decide) (by decide)]
theorem toNat_inj : ∀ {a b : List Char}, a.map Char.toNat = b.map Char.toNat → a = b
  | [], [], _ => rfl
  | [], _ :: _, h => by cases h
  | _ :: _, [], h => by cases h
  | x :: a, y :: b, h => by
    simp only [List.map_cons, List.cons.injEq] at h
    rw [toNat_inj h.2, Char.toNat_inj.mp h.1]
theorem int_shown (i : Int) : (PyData.int i).shown.cps.toList = (toString i : String).toList.map Char.toNat := by
  rw [PyData.shown_int]
  exact signs_ofString _
theorem int_of_nat_text {i : Int} {n : Nat} (h : (PyData.int i).shown.cps.toList = (PyData.int (n : Int)).shown.cps.toList) : i = n := by
  rw [int_shown, int_shown] at h
  have h := toNat_inj h
  rw [nat_text] at h
  cases i with
  | ofNat m =>
    rw [show Int.ofNat m = (m : Int) from rfl, nat_text] at h
    rw [digits_inj h]
    rfl
  | negSucc m =>
    have e : (toString (Int.negSucc m) : String).toList = '-' :: Nat.toDigits 10 (m + 1) := by
      show (Int.repr (Int.negSucc m)).toList = _
      simp [Int.repr, Nat.repr]
    rw [e] at h
    have : '-' ∈ Nat.toDigits 10 n := by rw [← h]; exact List.mem_cons_self
    have := Nat.isDigit_of_mem_toDigits (by decide) (by decide) this
    cases this
theorem quote_mem (x : Str) : reprQuote x ∈ (PyData.str x).shown.cps.toList := by
  rw [PyData.shown_str]
  unfold reprText
  show reprQuote x ∈ ((x.cps.foldl (fun out c => out ++ (PySem.Builtin.Str.reprChar (reprQuote x) c).toArray) #[reprQuote x]).push (reprQuote x)).toList
  rw [Array.toList_push]
  exact List.mem_append_right _ List.mem_cons_self
theorem int_of_shown {y : PyData} {n : Nat} (h : y.shown.cps.toList = (PyData.int (n : Int)).shown.cps.toList) : y = .int n := by
  have no : ∀ k, k ≠ 45 ∧ (k < 48 ∨ 57 < k) → k ∉ y.shown.cps.toList := fun k hk hm => by
    rw [h] at hm
    exact shown_int_free' hk n hm
  cases y with
  | int i => rw [int_of_nat_text h]
  | none => exact absurd ((mem_shown_none 78).mpr (by decide)) (no 78 (by decide))
  | bool b =>
    cases b
    · exact absurd ((mem_shown_bool 70 false).mpr (by decide)) (no 70 (by decide))
    · exact absurd ((mem_shown_bool 84 true).mpr (by decide)) (no 84 (by decide))
  | str x =>
    refine absurd (quote_mem x) (no _ ?_)
    unfold reprQuote
    split <;> decide
  | list l =>
    refine absurd ?_ (no 91 (by decide))
    rw [PyData.shown_list, cps_toList_append, cps_toList_append, signs_lbrack]
    simp
  | tuple l =>
    refine absurd ?_ (no 40 (by decide))
    rw [PyData.shown_tuple, cps_toList_append, cps_toList_append, signs_lparen]
    simp
  | dict l =>
    refine absurd ?_ (no 123 (by decide))
    rw [PyData.shown_dict, cps_toList_append, cps_toList_append, show (("{" : String) : Str).cps.toList = [123] by decide]
    simp
theorem split_one {k : Nat} : ∀ {a b c d : List Nat}, k ∉ c → k ∉ d → a ++ k :: b = c ++ k :: d → a = c ∧ b = d
  | [], b, [], d, _, _, h => ⟨rfl, by simpa using h⟩
  | [], b, x :: c, d, hc, _, h => by
    simp only [List.nil_append, List.cons_append, List.cons.injEq] at h
    exact absurd (by rw [h.1]; exact List.mem_cons_self) hc
  | x :: a, b, [], d, _, hd, h => by
    simp only [List.nil_append, List.cons_append, List.cons.injEq] at h
    exact absurd (by rw [← h.2]; simp) hd
  | x :: a, b, y :: c, d, hc, hd, h => by
    simp only [List.cons_append, List.cons.injEq] at h
    obtain ⟨h1, h2⟩ := split_one (fun z => hc (List.mem_cons_of_mem _ z)) hd h.2
    exact ⟨by rw [h.1, h1], h2⟩
theorem pair_text (a b : PyData) : (PyData.tuple [a, b]).shown.cps.toList = 40 :: (a.shown.cps.toList ++ 44 :: (32 :: (b.shown.cps.toList ++ [41]))) := by
  rw [PyData.shown_tuple, PyData.shownAll_cons, PyData.shownAll_cons, PyData.shownAll_nil, join_cons_cons, join_one, cps_toList_append, cps_toList_append, cps_toList_append, cps_toList_append, signs_lparen, signs_sep]
  rw [show ((if [a, b].length == 1 then ",)" else ")" : String) : Str).cps.toList = [41] by
    show ((if false = true then ",)" else ")" : String) : Str).cps.toList = [41]
    decide]
  simp
/-- the text of a pair of ints is the text of that pair alone -/
theorem pair_shown {a b : PyData} {t u : Nat} (h : (PyData.tuple [a, b]).shown = (PyData.tuple [.int (t : Int), .int (u : Int)]).shown) : a = .int t ∧ b = .int u := by
  have h := congrArg (fun x : Str => x.cps.toList) h
  simp only [pair_text, List.cons.injEq, true_and] at h
  have f : ∀ n : Nat, 44 ∉ (PyData.int (n : Int)).shown.cps.toList := fun n => shown_int_free' (by decide) _
  obtain ⟨h1, h2⟩ := split_one (f t) (fun z => by
    rcases List.mem_cons.mp z with z | z
    · cases z
    · rcases List.mem_append.mp z with z | z
      · exact f u z
      · simp at z) h
  simp only [List.cons.injEq, true_and] at h2
  exact ⟨int_of_shown h1, int_of_shown (List.append_cancel_right h2)⟩
end L3

set_option maxHeartbeats 2000000
/-! L5I: data of plain texts: what shows alike is alike. -/
namespace L3
open PySem PySem.Spec PyProof.Rows L2 PySem.StrLaws PySem.Str
def plainC (c : Nat) : Bool := (decide (48 ≤ c) && decide (c ≤ 57)) || (decide (65 ≤ c) && decide (c ≤ 90)) || (decide (97 ≤ c) && decide (c ≤ 122))
theorem plainC_lt {c : Nat} (h : plainC c = true) : (48 ≤ c ∧ c ≤ 57) ∨ (65 ≤ c ∧ c ≤ 90) ∨ (97 ≤ c ∧ c ≤ 122) := by
  unfold plainC at h
  simp only [Bool.or_eq_true, Bool.and_eq_true, decide_eq_true_eq] at h
  omega
theorem reprChar_plain {c : Nat} (h : plainC c = true) : PySem.Builtin.Str.reprChar 39 c = [c] := by
  have all : ∀ c, c < 128 → plainC c = true → PySem.Builtin.Str.reprChar 39 c = [c] := by decide +kernel
  exact all c (by have := plainC_lt h; omega) h
theorem fold_plain : ∀ (l : List Nat) (a : Array Nat), (∀ c ∈ l, plainC c = true) → (l.foldl (fun out c => out ++ (PySem.Builtin.Str.reprChar 39 c).toArray) a).toList = a.toList ++ l
  | [], a, _ => by simp
  | c :: l, a, h => by
    rw [List.foldl_cons, fold_plain l _ fun d hd => h d (List.mem_cons_of_mem _ hd), reprChar_plain (h c List.mem_cons_self)]
    simp
theorem quote_plain {x : Str} (h : ∀ c ∈ x.cps.toList, plainC c = true) : reprQuote x = 39 := by
  unfold reprQuote
  have : x.cps.contains 39 = false := by
    cases e : x.cps.contains 39 with
    | false => rfl
    | true =>
      have hm := Array.contains_iff_mem.mp e
      have := h 39 (Array.mem_toList_iff.mpr hm)
      cases this
  rw [this]
  rfl
theorem text_plain {x : Str} (h : ∀ c ∈ x.cps.toList, plainC c = true) : (PyData.str x).shown.cps.toList = 39 :: (x.cps.toList ++ [39]) := by
  rw [PyData.shown_str]
  unfold reprText
  show ((x.cps.foldl (fun out c => out ++ (PySem.Builtin.Str.reprChar (reprQuote x) c).toArray) #[reprQuote x]).push (reprQuote x)).toList = _
  rw [quote_plain h, Array.toList_push, ← Array.foldl_toList, fold_plain _ _ h]
  simp
/-! whole numbers, any sign -/
theorem neg_text (m : Nat) : (toString (Int.negSucc m) : String).toList = '-' :: Nat.toDigits 10 (m + 1) := by
  show (Int.repr (Int.negSucc m)).toList = _
  simp [Int.repr, Nat.repr]
theorem no_dash (n : Nat) : '-' ∉ Nat.toDigits 10 n := fun h => by
  have := Nat.isDigit_of_mem_toDigits (by decide) (by decide) h
  cases this
theorem int_text_inj {i j : Int} (h : (toString i : String).toList = (toString j : String).toList) : i = j := by
  cases i with
  | ofNat m =>
    rw [show Int.ofNat m = (m : Int) from rfl, nat_text] at h
    cases j with
    | ofNat n =>
      rw [show Int.ofNat n = (n : Int) from rfl, nat_text] at h
      rw [digits_inj h]
    | negSucc n =>
      rw [neg_text] at h
      exact absurd (by rw [h]; exact List.mem_cons_self) (no_dash m)
  | negSucc m =>
    rw [neg_text] at h
    cases j with
    | ofNat n =>
      rw [show Int.ofNat n = (n : Int) from rfl, nat_text] at h
      exact absurd (by rw [← h]; exact List.mem_cons_self) (no_dash n)
    | negSucc n =>
      rw [neg_text] at h
      have := digits_inj (List.cons.inj h).2
      rw [show m = n by omega]
/-- a sign of a whole number's text -/
def numC (c : Nat) : Bool := decide (c = 45) || (decide (48 ≤ c) && decide (c ≤ 57))
theorem int_signs (i : Int) : ∀ c ∈ (PyData.int i).shown.cps.toList, numC c = true := fun c hc => by
  rw [int_shown] at hc
  obtain ⟨ch, h1, rfl⟩ := List.mem_map.mp hc
  rcases int_sign i ch h1 with h | h
  · have := digit_range h
    unfold numC
    simp only [Bool.or_eq_true, Bool.and_eq_true, decide_eq_true_eq]
    omega
  · subst h
    decide
theorem split_at {P : Nat → Bool} : ∀ {a b r s : List Nat}, (∀ c ∈ a, P c = true) → (∀ c ∈ b, P c = true) → (∀ c t, r = c :: t → P c = false) → (∀ c t, s = c :: t → P c = false) → a ++ r = b ++ s → a = b ∧ r = s
  | [], [], r, s, _, _, _, _, h => ⟨rfl, h⟩
  | [], y :: b, r, s, _, hb, hr, _, h => by
    have := hr y _ h
    rw [hb y List.mem_cons_self] at this
    cases this
  | x :: a, [], r, s, ha, _, _, hs, h => by
    have := hs x _ h.symm
    rw [ha x List.mem_cons_self] at this
    cases this
  | x :: a, y :: b, r, s, ha, hb, hr, hs, h => by
    simp only [List.cons_append, List.cons.injEq] at h
    obtain ⟨e1, e2⟩ := split_at (fun c hc => ha c (List.mem_cons_of_mem _ hc)) (fun c hc => hb c (List.mem_cons_of_mem _ hc)) hr hs h.2
    exact ⟨by rw [h.1, e1], e2⟩
/-! plain data -/
mutual
def plainP : PyData → Bool
  | .none => true
  | .bool _ => true
  | .int _ => true
  | .str x => x.cps.toList.all plainC
  | .list l => plainPL l
  | .tuple l => plainPL l
  | .dict _ => false
def plainPL : List PyData → Bool
  | [] => true
  | y :: l => plainP y && plainPL l
end
/-- what may follow a shown one -/
def Dl (r : List Nat) : Prop := ∀ c t, r = c :: t → c = 44 ∨ c = 41 ∨ c = 93
/-- the first sign of what is shown -/
def hdP : PyData → Nat → Prop
  | .none, c => c = 78
  | .bool true, c => c = 84
  | .bool false, c => c = 70
  | .int _, c => numC c = true
  | .str _, c => c = 39
  | .list _, c => c = 91
  | .tuple _, c => c = 40
  | .dict _, _ => False
theorem hd_of {y : PyData} (h : plainP y = true) : ∃ c t, y.shown.cps.toList = c :: t ∧ hdP y c := by
  cases y with
  | none => exact ⟨78, [111, 110, 101], by rw [PyData.shown_none]; exact signs_None, rfl⟩
  | bool b =>
    cases b
    · exact ⟨70, [97, 108, 115, 101], by rw [PyData.shown_bool]; exact signs_False, rfl⟩
    · exact ⟨84, [114, 117, 101], by rw [PyData.shown_bool]; exact signs_True, rfl⟩
  | int i =>
    cases e : (PyData.int i).shown.cps.toList with
    | nil =>
      rw [int_shown] at e
      have e := List.map_eq_nil_iff.mp e
      cases i with
      | ofNat n =>
        rw [show Int.ofNat n = (n : Int) from rfl, nat_text] at e
        exact absurd e Nat.toDigits_ne_nil
      | negSucc n => rw [neg_text] at e; cases e
    | cons c t => exact ⟨c, t, rfl, int_signs i c (by rw [e]; exact List.mem_cons_self)⟩
  | str x =>
    unfold plainP at h
    exact ⟨39, _, text_plain (List.all_eq_true.mp h), rfl⟩
  | list l => exact ⟨91, (Str.join ", " (PyData.shownAll l)).cps.toList ++ [93], by rw [PyData.shown_list, cps_toList_append, cps_toList_append, signs_lbrack, signs_rbrack]; simp, rfl⟩
  | tuple l => exact ⟨40, _, by rw [PyData.shown_tuple, cps_toList_append, cps_toList_append, signs_lparen, List.append_assoc]; rfl, rfl⟩
  | dict l => unfold plainP at h; cases h
theorem numC_ne {c : Nat} (h : numC c = true) : c = 45 ∨ (48 ≤ c ∧ c ≤ 57) := by
  unfold numC at h
  simp only [Bool.or_eq_true, Bool.and_eq_true, decide_eq_true_eq] at h
  exact h
/-- the same first sign: the same kind -/
theorem kind_of {a b : PyData} {c : Nat} (h1 : hdP a c) (h2 : hdP b c) : (a = .none ∧ b = .none) ∨ (∃ x, a = .bool x ∧ b = .bool x) ∨ (∃ i j, a = .int i ∧ b = .int j) ∨ (∃ x z, a = .str x ∧ b = .str z) ∨ (∃ l m, a = .list l ∧ b = .list m) ∨ (∃ l m, a = .tuple l ∧ b = .tuple m) := by
  cases a with
  | none => cases b with
    | none => exact .inl ⟨rfl, rfl⟩
    | int i => have := numC_ne h2; cases h1; omega
    | bool y => cases y <;> (cases h1; cases h2)
    | dict l => cases h2
    | _ => cases h1; cases h2
  | bool x => cases b with
    | bool y => cases x <;> cases y <;> first | exact .inr (.inl ⟨_, rfl, rfl⟩) | (cases h1; cases h2)
    | int i => have := numC_ne h2; cases x <;> (cases h1; omega)
    | dict l => cases h2
    | _ => cases x <;> (cases h1; cases h2)
  | int i => cases b with
    | int j => exact .inr (.inr (.inl ⟨i, j, rfl, rfl⟩))
    | bool y => have := numC_ne h1; cases y <;> (cases h2; omega)
    | dict l => cases h2
    | _ => have := numC_ne h1; cases h2; omega
  | str x => cases b with
    | str z => exact .inr (.inr (.inr (.inl ⟨x, z, rfl, rfl⟩)))
    | int i => have := numC_ne h2; cases h1; omega
    | bool y => cases y <;> (cases h1; cases h2)
    | dict l => cases h2
    | _ => cases h1; cases h2
  | list x => cases b with
    | list z => exact .inr (.inr (.inr (.inr (.inl ⟨x, z, rfl, rfl⟩))))
    | int i => have := numC_ne h2; cases h1; omega
    | bool y => cases y <;> (cases h1; cases h2)
    | dict l => cases h2
    | _ => cases h1; cases h2
  | tuple x => cases b with
    | tuple z => exact .inr (.inr (.inr (.inr (.inr ⟨x, z, rfl, rfl⟩))))
    | int i => have := numC_ne h2; cases h1; omega
    | bool y => cases y <;> (cases h1; cases h2)
    | dict l => cases h2
    | _ => cases h1; cases h2
  | dict l => cases h1
abbrev sh (y : PyData) : List Nat := y.shown.cps.toList
def jt (l : List PyData) : List Nat := (Str.join ", " (PyData.shownAll l)).cps.toList
theorem jt_one (a : PyData) : jt [a] = sh a := by
  unfold jt
  rw [PyData.shownAll_cons, PyData.shownAll_nil, join_one]
theorem jt_two (a b : PyData) (l : List PyData) : jt (a :: b :: l) = sh a ++ 44 :: 32 :: jt (b :: l) := by
  unfold jt
  rw [PyData.shownAll_cons, PyData.shownAll_cons, join_cons_cons, cps_toList_append, cps_toList_append, signs_sep, List.append_assoc]
  rfl
def cl (t : Bool) (n : Nat) : List Nat := if t = true then (if n = 1 then [44, 41] else [41]) else [93]
theorem cl_dl (t : Bool) (n : Nat) (r : List Nat) : Dl (cl t n ++ r) := fun c u h => by
  unfold cl at h
  split at h
  · split at h
    · simp at h; omega
    · simp at h; omega
  · simp at h; omega
theorem sh_list (l : List PyData) : sh (.list l) = 91 :: (jt l ++ cl false l.length) := by
  show (PyData.list l).shown.cps.toList = _
  rw [PyData.shown_list, cps_toList_append, cps_toList_append, signs_lbrack, signs_rbrack]
  rfl
theorem sh_tup (l : List PyData) : sh (.tuple l) = 40 :: (jt l ++ cl true l.length) := by
  show (PyData.tuple l).shown.cps.toList = _
  rw [PyData.shown_tuple, cps_toList_append, cps_toList_append, signs_lparen]
  unfold cl jt
  by_cases h : l.length = 1
  · rw [if_pos rfl, if_pos h, if_pos (by rw [h]; rfl), show ((",)" : String) : Str).cps.toList = [44, 41] by decide]
    rfl
  · rw [if_pos rfl, if_neg h, if_neg (by simpa using h), show ((")" : String) : Str).cps.toList = [41] by decide]
    rfl
theorem dl_num {r : List Nat} (h : Dl r) : ∀ c t, r = c :: t → numC c = false := fun c t e => by
  rcases h c t e with rfl | rfl | rfl <;> decide
theorem dl_39 {r : List Nat} : ∀ c t, (39 :: r) = c :: t → plainC c = false := fun c t e => by
  cases e
  decide
theorem dl_44 {r : List Nat} : Dl (44 :: r) := fun c u h => by
  cases h
  exact .inl rfl
theorem hd_ne {y : PyData} {c : Nat} (h : hdP y c) : c ≠ 41 ∧ c ≠ 93 := by
  cases y with
  | int i => have := numC_ne h; omega
  | bool b => cases b <;> (cases h; decide)
  | dict l => cases h
  | _ => cases h; decide
theorem no_close {y : PyData} {l : List PyData} {t : Bool} {r s : List Nat} (h : plainPL (y :: l) = true) : jt (y :: l) ++ s ≠ jt [] ++ (cl t (0 + ([] : List PyData).length) ++ r) := fun e => by
  unfold plainPL at h
  rw [Bool.and_eq_true] at h
  obtain ⟨c, u, e1, k1⟩ := hd_of h.1
  have hn := hd_ne k1
  have e2 : ∃ v, jt (y :: l) = c :: v := by
    cases l with
    | nil => exact ⟨u, by rw [jt_one]; exact e1⟩
    | cons z l => exact ⟨_, by rw [jt_two, show sh y = c :: u from e1]; rfl⟩
  obtain ⟨v, e2⟩ := e2
  rw [e2] at e
  have e3 : c :: (v ++ s) = cl t 0 ++ r := e
  unfold cl at e3
  split at e3
  · simp at e3
    omega
  · simp at e3
    omega
theorem cl_step {t : Bool} {n : Nat} {x y : List Nat} (h : cl t n ++ x = 44 :: 32 :: y) : False := by
  unfold cl at h
  split at h
  · split at h
    · simp at h
    · simp at h
  · simp at h
mutual
theorem shown_pre : ∀ (a b : PyData) (r s : List Nat), plainP a = true → plainP b = true → Dl r → Dl s → sh a ++ r = sh b ++ s → a = b ∧ r = s
  | a, b, r, s, ha, hb, hr, hs, h => by
    obtain ⟨c, t, e1, k1⟩ := hd_of ha
    obtain ⟨d, u, e2, k2⟩ := hd_of hb
    have ec : c = d := by
      have h' := h
      rw [show sh a = c :: t from e1, show sh b = d :: u from e2] at h'
      exact (List.cons.inj h').1
    subst ec
    cases a with
    | list l =>
      rcases kind_of k1 k2 with ⟨z, _⟩ | ⟨_, z, _⟩ | ⟨_, _, z, _⟩ | ⟨_, _, z, _⟩ | ⟨l', m, z, rfl⟩ | ⟨_, _, z, _⟩ <;> first | cases z | skip
      rw [sh_list, sh_list] at h
      simp only [List.cons_append, List.cons.injEq, true_and, List.append_assoc] at h
      unfold plainP at ha hb
      obtain ⟨e, f⟩ := items_pre l m false 0 r s (.inl rfl) ha hb (by rw [Nat.zero_add, Nat.zero_add]; exact h)
      exact ⟨by rw [e], f⟩
    | tuple l =>
      rcases kind_of k1 k2 with ⟨z, _⟩ | ⟨_, z, _⟩ | ⟨_, _, z, _⟩ | ⟨_, _, z, _⟩ | ⟨_, _, z, _⟩ | ⟨l', m, z, rfl⟩ <;> first | cases z | skip
      rw [sh_tup, sh_tup] at h
      simp only [List.cons_append, List.cons.injEq, true_and, List.append_assoc] at h
      unfold plainP at ha hb
      obtain ⟨e, f⟩ := items_pre l m true 0 r s (.inl rfl) ha hb (by rw [Nat.zero_add, Nat.zero_add]; exact h)
      exact ⟨by rw [e], f⟩
    | none =>
      rcases kind_of k1 k2 with ⟨_, rfl⟩ | ⟨_, z, _⟩ | ⟨_, _, z, _⟩ | ⟨_, _, z, _⟩ | ⟨_, _, z, _⟩ | ⟨_, _, z, _⟩ <;> first | cases z | skip
      exact ⟨rfl, List.append_cancel_left h⟩
    | bool x =>
      rcases kind_of k1 k2 with ⟨z, _⟩ | ⟨x', z, rfl⟩ | ⟨_, _, z, _⟩ | ⟨_, _, z, _⟩ | ⟨_, _, z, _⟩ | ⟨_, _, z, _⟩ <;> first | cases z | skip
      exact ⟨rfl, List.append_cancel_left h⟩
    | int i =>
      rcases kind_of k1 k2 with ⟨z, _⟩ | ⟨_, z, _⟩ | ⟨_, j, z, rfl⟩ | ⟨_, _, z, _⟩ | ⟨_, _, z, _⟩ | ⟨_, _, z, _⟩ <;> first | cases z | skip
      obtain ⟨f1, f2⟩ := split_at (int_signs i) (int_signs j) (dl_num hr) (dl_num hs) h
      rw [int_shown, int_shown] at f1
      exact ⟨by rw [int_text_inj (toNat_inj f1)], f2⟩
    | str x =>
      rcases kind_of k1 k2 with ⟨z, _⟩ | ⟨_, z, _⟩ | ⟨_, _, z, _⟩ | ⟨_, y, z, rfl⟩ | ⟨_, _, z, _⟩ | ⟨_, _, z, _⟩ <;> first | cases z | skip
      unfold plainP at ha hb
      have ha := List.all_eq_true.mp ha
      have hb := List.all_eq_true.mp hb
      rw [show sh (.str x) = _ from text_plain ha, show sh (.str y) = _ from text_plain hb] at h
      simp only [List.cons_append, List.cons.injEq, true_and, List.append_assoc, List.nil_append] at h
      obtain ⟨f1, f2⟩ := split_at ha hb dl_39 dl_39 h
      refine ⟨?_, (List.cons.inj f2).2⟩
      have : x = y := by
        cases x with | mk x => cases y with | mk y => exact congrArg Str.mk (Array.toList_inj.mp f1)
      rw [this]
    | dict l => unfold plainP at ha; cases ha
theorem items_pre : ∀ (a b : List PyData) (t : Bool) (n : Nat) (r s : List Nat), (n = 0 ∨ (a ≠ [] ∧ b ≠ [])) → plainPL a = true → plainPL b = true → jt a ++ (cl t (n + a.length) ++ r) = jt b ++ (cl t (n + b.length) ++ s) → a = b ∧ r = s
  | [], [], t, n, r, s, _, _, _, h => ⟨rfl, List.append_cancel_left (List.append_cancel_left h)⟩
  | [], b :: l, t, n, r, s, hn, _, hb, h => by
    rcases hn with rfl | ⟨z, _⟩
    · exact absurd h.symm (no_close hb)
    · exact absurd rfl z
  | a :: l, [], t, n, r, s, hn, ha, _, h => by
    rcases hn with rfl | ⟨_, z⟩
    · exact absurd h (no_close ha)
    · exact absurd rfl z
  | [a], [b], t, n, r, s, _, ha, hb, h => by
    unfold plainPL at ha hb
    rw [Bool.and_eq_true] at ha hb
    rw [jt_one, jt_one] at h
    obtain ⟨e, f⟩ := shown_pre a b _ _ ha.1 hb.1 (cl_dl _ _ _) (cl_dl _ _ _) h
    exact ⟨by rw [e], List.append_cancel_left f⟩
  | [a], b :: b' :: m, t, n, r, s, _, ha, hb, h => by
    unfold plainPL at ha hb
    rw [Bool.and_eq_true] at ha hb
    rw [jt_one, jt_two, List.append_assoc] at h
    obtain ⟨e, f⟩ := shown_pre a b _ _ ha.1 hb.1 (cl_dl _ _ _) dl_44 h
    exact absurd f cl_step
  | a :: a' :: l, [b], t, n, r, s, _, ha, hb, h => by
    unfold plainPL at ha hb
    rw [Bool.and_eq_true] at ha hb
    rw [jt_one, jt_two, List.append_assoc] at h
    obtain ⟨e, f⟩ := shown_pre a b _ _ ha.1 hb.1 dl_44 (cl_dl _ _ _) h
    exact absurd f.symm cl_step
  | a :: a' :: l, b :: b' :: m, t, n, r, s, _, ha, hb, h => by
    unfold plainPL at ha hb
    rw [Bool.and_eq_true] at ha hb
    rw [jt_two, jt_two, List.append_assoc, List.append_assoc] at h
    obtain ⟨e, f⟩ := shown_pre a b _ _ ha.1 hb.1 dl_44 dl_44 h
    have f := (List.cons.inj (List.cons.inj f).2).2
    obtain ⟨e2, f2⟩ := items_pre (a' :: l) (b' :: m) t (n + 1) r s (.inr ⟨(List.cons_ne_nil _ _), (List.cons_ne_nil _ _)⟩) ha.2 hb.2 (by
      rw [show n + 1 + (a' :: l).length = n + (a :: a' :: l).length by simp; omega, show n + 1 + (b' :: m).length = n + (b :: b' :: m).length by simp; omega]
      exact f)
    exact ⟨by rw [e, e2], f2⟩
end
/-- plain data that shows alike is alike -/
theorem shown_inj {a b : PyData} (ha : plainP a = true) (hb : plainP b = true) (h : a.shown = b.shown) : a = b :=
  (shown_pre a b [] [] ha hb (fun _ _ z => by cases z) (fun _ _ z => by cases z) (by show sh a ++ [] = sh b ++ []; rw [show sh a = sh b from congrArg (fun x : Str => x.cps.toList) h])).1
end L3

set_option maxHeartbeats 4000000
namespace Law45
open PySem PySem.Spec PyProof.Rows
open L2 hiding FnOk Room
open L3
/-! ### what is bent can be shown -/
mutual
/-- no signs in its texts but letters and digits -/
def plainD : D → Bool
  | .non => true
  | .bl _ => true
  | .int _ => true
  | .str x => x.cps.toList.all plainC
  | .tup l => plainL l
  | .lst l => plainL l
  | _ => false
def plainL : List D → Bool
  | [] => true
  | d :: l => plainD d && plainL l
end
theorem plainL_of : ∀ {l : List D}, (∀ d ∈ l, plainD d = true) → plainL l = true
  | [], _ => by unfold plainL; rfl
  | d :: l, h => by
    unfold plainL
    rw [Bool.and_eq_true]
    exact ⟨h d List.mem_cons_self, plainL_of fun e he => h e (List.mem_cons_of_mem _ he)⟩
theorem plainL_mem : ∀ {l : List D} {d : D}, plainL l = true → d ∈ l → plainD d = true
  | [], d, _, h => by cases h
  | x :: l, d, q, h => by
    unfold plainL at q
    rw [Bool.and_eq_true] at q
    rcases List.mem_cons.mp h with rfl | h
    · exact q.1
    · exact plainL_mem q.2 h
mutual
theorem plain_py : ∀ (d : D) (y : PyData), plainD d = true → toPy d = some y → plainP y = true
  | .non, y, _, h => by unfold toPy at h; cases h; rfl
  | .bl b, y, _, h => by unfold toPy at h; cases h; rfl
  | .int i, y, _, h => by unfold toPy at h; cases h; rfl
  | .str x, y, p, h => by
    unfold toPy at h
    cases h
    unfold plainD at p
    unfold plainP
    exact p
  | .tup l, y, p, h => by
    unfold toPy at h
    obtain ⟨ys, e, rfl⟩ := Option.map_eq_some_iff.mp h
    unfold plainD at p
    unfold plainP
    exact plain_pyL l ys p e
  | .lst l, y, p, h => by
    unfold toPy at h
    obtain ⟨ys, e, rfl⟩ := Option.map_eq_some_iff.mp h
    unfold plainD at p
    unfold plainP
    exact plain_pyL l ys p e
  | .ty _, _, p, _ => by unfold plainD at p; cases p
  | .rf _, _, p, _ => by unfold plainD at p; cases p
  | .pot, _, p, _ => by unfold plainD at p; cases p
  | .scr _, _, p, _ => by unfold plainD at p; cases p
  | .lam .., _, p, _ => by unfold plainD at p; cases p
  | .clo .., _, p, _ => by unfold plainD at p; cases p
  | .exc .., _, p, _ => by unfold plainD at p; cases p
  | .dic _, _, p, _ => by unfold plainD at p; cases p
  | .dct .., _, p, _ => by unfold plainD at p; cases p
theorem plain_pyL : ∀ (l : List D) (ys : List PyData), plainL l = true → toPyL l = some ys → plainPL ys = true
  | [], ys, _, h => by unfold toPyL at h; cases h; rfl
  | d :: l, ys, p, h => by
    unfold plainL at p
    rw [Bool.and_eq_true] at p
    unfold toPyL at h
    cases e1 : toPy d with
    | none => rw [e1] at h; cases h
    | some x =>
      cases e2 : toPyL l with
      | none => rw [e1, e2] at h; cases h
      | some r =>
        rw [e1, e2] at h
        cases h
        unfold plainPL
        rw [Bool.and_eq_true]
        exact ⟨plain_py d x p.1 e1, plain_pyL l r p.2 e2⟩
end
theorem szD_pos (d : D) : 1 ≤ szD d := by cases d <;> simp [szD] <;> omega
theorem szL_app : ∀ (a b : List D), szL (a ++ b) = szL a + szL b
  | [], b => by simp [szL]
  | x :: a, b => by
    rw [List.cons_append, szL, szL, szL_app a b]
    omega
theorem szL_take (l : List D) (n : Nat) : szL (l.take n) + szL (l.drop n) = szL l := by
  rw [← szL_app, List.take_append_drop]
theorem szL_cut (l : List D) (a b : Option Int) : szL (L3.cutD l a b) ≤ szL l := by
  unfold L3.cutD
  have h1 : ∀ (l : List D) (n : Nat), szL (l.take n) ≤ szL l := fun l n => by have := szL_take l n; omega
  have h2 : ∀ (l : List D) (n : Nat), szL (l.drop n) ≤ szL l := fun l n => by have := szL_take l n; omega
  exact Nat.le_trans (h1 _ _) (h2 _ _)
theorem szL_rev : ∀ (l : List D), szL l.reverse = szL l
  | [] => rfl
  | x :: l => by
    rw [List.reverse_cons, szL_app, szL_rev l, szL, szL, szL]
    omega
theorem ok_str {n : Nat} {i : Int} (h : 0 ≤ i ∧ i < 10 ^ 20) : okD n (.str (Str.ofString i.repr)) = true := by
  have h1 := PyProof.Rows.toString_length_le h.1 (by decide : 0 < 20) h.2
  unfold okD
  rw [Bool.and_eq_true]
  refine ⟨decide_eq_true (by have : (Str.ofString i.repr).length ≤ 20 := h1; omega), ?_⟩
  rw [Array.all_eq_true_iff_forall_mem]
  intro c hc
  have hc := Array.mem_toList_iff.mpr hc
  rw [signs_ofString] at hc
  obtain ⟨ch, _, rfl⟩ := List.mem_map.mp hc
  refine decide_eq_true ?_
  have := ch.valid
  rcases this with h | h
  · show ch.val.toNat < _
    omega
  · show ch.val.toNat < _
    omega
theorem plain_num {i : Int} (h : 0 ≤ i) : plainD (.str (Str.ofString i.repr)) = true := by
  obtain ⟨n, rfl⟩ := Int.eq_ofNat_of_zero_le h
  unfold plainD
  refine List.all_eq_true.mpr fun c hc => ?_
  have e : (Str.ofString (toString (n : Int))).cps.toList = (Nat.toDigits 10 n).map Char.toNat := by rw [signs_ofString, nat_text]
  have hc : c ∈ (Str.ofString (toString (n : Int))).cps.toList := hc
  rw [e] at hc
  obtain ⟨ch, h1, rfl⟩ := List.mem_map.mp hc
  have := digit_range (Nat.isDigit_of_mem_toDigits (by decide) (by decide) h1)
  unfold plainC
  simp only [Bool.or_eq_true, Bool.and_eq_true, decide_eq_true_eq]
  omega
theorem ok_mk {n : Nat} {l : List D} (h : ∀ d ∈ l, okD n d = true) : okD (n + 1) (.tup l) = true := okD_tup h
theorem ok_bl {n : Nat} {b : Bool} : okD n (.bl b) = true := by unfold okD; rfl
theorem ok_non {n : Nat} : okD n .non = true := by unfold okD; rfl
/-- whole numbers below 10 ** 20 and tuples of such -/
def tnD : Nat → D → Bool
  | _, .int i => decide (0 ≤ i ∧ i < 10 ^ 20)
  | _, .str x => decide (x = "closes" ∨ x = "short" ∨ x = "long" ∨ x = "flat")
  | n + 1, .tup l => decide (l.length ≤ 25) && l.all (tnD n)
  | _, _ => false
theorem tn_tup {n : Nat} {l : List D} (h : tnD (n + 1) (.tup l) = true) : l.length ≤ 25 ∧ ∀ d ∈ l, tnD n d = true := by
  unfold tnD at h
  rw [Bool.and_eq_true] at h
  exact ⟨of_decide_eq_true h.1, List.all_eq_true.mp h.2⟩
theorem tn_nice : ∀ (k j : Nat) (d : D), k ≤ j → tnD k d = true → niceD j d = true ∧ okD j d = true ∧ pyD j d = true ∧ plainD d = true := by
  intro k
  induction k with
  | zero =>
    intro j d hj h
    cases d with
    | int i =>
      unfold tnD at h
      have h := of_decide_eq_true h
      exact ⟨nice_int (by omega), okD_int (by omega), pyD_int, rfl⟩
    | str x =>
      unfold tnD at h
      have h := of_decide_eq_true h
      rcases h with rfl | rfl | rfl | rfl
      all_goals exact ⟨nice_str (by decide +kernel), by unfold okD; decide +kernel, by unfold pyD; decide +kernel, by unfold plainD; decide +kernel⟩
    | _ => simp [tnD] at h
  | succ k ih =>
    intro j d hj h
    cases d with
    | int i =>
      unfold tnD at h
      have h := of_decide_eq_true h
      exact ⟨nice_int (by omega), okD_int (by omega), pyD_int, rfl⟩
    | str x =>
      unfold tnD at h
      have h := of_decide_eq_true h
      rcases h with rfl | rfl | rfl | rfl
      all_goals exact ⟨nice_str (by decide +kernel), by unfold okD; decide +kernel, by unfold pyD; decide +kernel, by unfold plainD; decide +kernel⟩
    | tup l =>
      obtain ⟨h1, h2⟩ := tn_tup h
      obtain ⟨i, rfl⟩ : ∃ i, j = i + 1 := ⟨j - 1, by omega⟩
      refine ⟨nice_mk (by omega) fun d hd => (ih i d (by omega) (h2 d hd)).1, ok_mk fun d hd => (ih i d (by omega) (h2 d hd)).2.1, ?_, ?_⟩
      · unfold pyD
        exact pyDL_of fun d hd => (ih i d (by omega) (h2 d hd)).2.2.1
      · unfold plainD
        exact plainL_of fun d hd => (ih i d (by omega) (h2 d hd)).2.2.2
    | _ => simp [tnD] at h
/-- data that can be shown and has a type -/
structure Gd (k z : Nat) (d : D) : Prop where
  ni : niceD k d = true
  ok : okD k d = true
  sz : szD d ≤ z
  pl : plainD d = true
theorem gd_in {l : List D} {k z : Nat} (hl : l.length ≤ 25) (h : ∀ d ∈ l, niceD k d = true ∧ okD k d = true ∧ plainD d = true) (hz : szL l ≤ z) {d : D} (hd : d ∈ [D.lst l, D.tup (L3.cutD l (some 1) none), D.tup (L3.cutD l none (some (-1))), D.tup (l ++ L3.cutD l (some (-1)) none), D.tup l.reverse, D.tup [], D.non]) : Gd (k + 1) (1 + 2 * z) d := by
  refine ⟨bent_in hl (fun d hd => (h d hd).1) hd, ?_, ?_, ?_⟩
  · have hm : ∀ a b d, d ∈ L3.cutD l a b → okD k d = true := fun a b d hd => (h d (cutD_mem hd)).2.1
    simp only [List.mem_cons, List.not_mem_nil, or_false] at hd
    rcases hd with rfl | rfl | rfl | rfl | rfl | rfl | rfl
    · exact okD_lst fun d hd => (h d hd).2.1
    · exact ok_mk (hm _ _)
    · exact ok_mk (hm _ _)
    · refine ok_mk fun d hd => ?_
      rcases List.mem_append.mp hd with z | z
      · exact (h d z).2.1
      · exact hm _ _ d z
    · exact ok_mk fun d hd => (h d (List.mem_reverse.mp hd)).2.1
    · exact ok_mk fun d hd => absurd hd List.not_mem_nil
    · exact ok_non
  · have h1 := szL_cut l (some 1) none
    have h2 := szL_cut l none (some (-1))
    have h3 := szL_cut l (some (-1)) none
    have h4 := szL_rev l
    have h5 := szL_app l (L3.cutD l (some (-1)) none)
    simp only [List.mem_cons, List.not_mem_nil, or_false] at hd
    rcases hd with rfl | rfl | rfl | rfl | rfl | rfl | rfl <;> simp only [szD] <;> (try simp only [szL]) <;> omega
  · have hp : plainL l = true := plainL_of fun d hd => (h d hd).2.2
    have hm : ∀ a b, plainL (L3.cutD l a b) = true := fun a b => plainL_of fun d hd => (h d (cutD_mem hd)).2.2
    simp only [List.mem_cons, List.not_mem_nil, or_false] at hd
    rcases hd with rfl | rfl | rfl | rfl | rfl | rfl | rfl
    · unfold plainD; exact hp
    · unfold plainD; exact hm _ _
    · unfold plainD; exact hm _ _
    · unfold plainD
      refine plainL_of fun d hd => ?_
      rcases List.mem_append.mp hd with z | z
      · exact (h d z).2.2
      · exact plainL_mem (hm _ _) z
    · unfold plainD; exact plainL_of fun d hd => (h d (List.mem_reverse.mp hd)).2.2
    · rfl
    · rfl
theorem S_bent2 : ∀ (n k : Nat) (d : D) (c : Nat) (Q : KD), k < n → k ≤ 60 → tnD k d = true → c + 2 * k + 2 < 1000000 → (∀ d' c', Gd (k + 5) (12 * szD d) d' → c' ≤ c + 2 * k + 2 → Q d' c') → m_law_bent n [.pot, d] c Q := by
  intro n
  induction n with
  | zero => intro k d c Q h; exact absurd h (Nat.not_lt_zero _)
  | succ n ih =>
    intro k d c Q hn hk hd hc q
    refine ⟨rfl, ?_⟩
    cases d with
    | int i =>
      have hd : 0 ≤ i ∧ i < 10 ^ 20 := by
        unfold tnD at hd
        exact of_decide_eq_true hd
      simp [runM, g_law_bent, start3]
      refine ⟨rfl, log_small ⟨hd.1, by omega⟩, S_law_of (by simp) (by simp) (by omega) fun d hd' => q d _ ?_ (by omega)⟩
      simp only [List.mem_cons, List.not_mem_nil, or_false] at hd'
      rcases hd' with rfl | rfl | rfl | rfl | rfl | rfl | rfl | rfl
      · exact ⟨nice_int (by omega), okD_int (by omega), by simp [szD], rfl⟩
      · exact ⟨nice_int (by omega), okD_int (by omega), by simp [szD], rfl⟩
      · exact ⟨nice_int (by omega), okD_int (by omega), by simp [szD], rfl⟩
      · exact ⟨nice_str (text_len ⟨hd.1, by omega⟩), ok_str hd, by simp [szD], plain_num hd.1⟩
      · exact ⟨nice_bl, ok_bl, by simp [szD], rfl⟩
      · exact ⟨nice_non, ok_non, by simp [szD], rfl⟩
      · exact ⟨nice_mk (n := k + 4) (by simp) fun d hd' => by rw [List.mem_singleton.mp hd']; exact nice_int (by omega), okD_tup (n := k + 4) fun d hd' => by rw [List.mem_singleton.mp hd']; exact okD_int (by omega), by simp [szD, szL], rfl⟩
      · exact ⟨nice_int (by decide), okD_int (by decide), by simp [szD], rfl⟩
    | str x =>
      have hp : pyD 64 (.str x) = true := (tn_nice k 64 _ (by omega) hd).2.2.1
      have hd : x = "closes" ∨ x = "short" ∨ x = "long" ∨ x = "flat" := by
        unfold tnD at hd
        exact of_decide_eq_true hd
      simp [runM, g_law_bent, start3]
      have hx : x.length ≤ 20 := by rcases hd with rfl | rfl | rfl | rfl <;> decide +kernel
      refine ⟨rfl, ?_, by omega, by omega, S_law_of (by simp) (by simp) (by omega) fun d hd' => q d _ ?_ (by omega)⟩
      · rcases hd with rfl | rfl | rfl | rfl <;> decide +kernel
      simp only [List.mem_cons, List.not_mem_nil, or_false] at hd'
      rcases hd with rfl | rfl | rfl | rfl <;> rcases hd' with rfl | rfl | rfl | rfl | rfl | rfl
      all_goals first
        | exact ⟨nice_non, ok_non, by simp [szD], rfl⟩
        | exact ⟨nice_int (by decide), okD_int (by decide), by simp [szD], rfl⟩
        | exact ⟨nice_str (by decide +kernel), by unfold okD; decide +kernel, by simp [szD], by unfold plainD; decide +kernel⟩
    | tup l =>
      cases k with
      | zero => simp [tnD] at hd
      | succ k =>
        have hp : pyD 64 (.tup l) = true := (tn_nice (k + 1) 64 _ (by omega) hd).2.2.1
        obtain ⟨hl, htn⟩ := tn_tup hd
        have hin : ∀ d ∈ l, niceD (k + 5) d = true ∧ okD (k + 5) d = true ∧ plainD d = true := fun d hd' => ⟨(tn_nice k (k + 5) d (by omega) (htn d hd')).1, (tn_nice k (k + 5) d (by omega) (htn d hd')).2.1, (tn_nice k (k + 5) d (by omega) (htn d hd')).2.2.2⟩
        have hcl : ∀ a b, (L3.cutD l a b).length ≤ 25 := fun a b => Nat.le_trans cutD_le hl
        have hsz : szD (.tup l) = 1 + szL l := by rw [szD]
        rw [hsz] at q
        have oth : ∀ c', c' ≤ c + 1 → m_law_of [D.pot, D.lst [D.lst l, D.tup (L3.cutD l (some 1) none), D.tup (L3.cutD l none (some (-1))), D.tup (l ++ L3.cutD l (some (-1)) none), D.tup l.reverse, D.tup [], D.non]] c' Q := fun c' hc' =>
          S_law_of (by simp) (by simp) (by omega) fun d hd' => q d _ (by
            obtain ⟨g1, g2, g3, g4⟩ := gd_in hl hin (Nat.le_refl _) hd'
            exact ⟨g1, g2, by omega, g4⟩) (by omega)
        simp [runM, g_law_bent, start3]
        refine ⟨rfl, ⟨hp, rfl⟩, ?_⟩
        have hco := hcl (some (-1)) none
        have ee : eqvD (D.tup l) (D.tup []) = l.isEmpty := by rw [show eqvD (D.tup l) (.tup []) = eqvDL l [] by unfold eqvD; rfl, eqvDL_nil]
        rw [ee]
        cases hl0 : l.isEmpty with
        | true =>
          rw [if_pos rfl]
          exact ⟨rfl, by omega, oth c (by omega)⟩
        | false =>
          rw [if_neg (by decide)]
          have hpos : 0 < l.length := by
            cases l with
            | nil => cases hl0
            | cons a r => exact Nat.succ_pos _
          refine S_take (by omega) (by omega) (by omega) fun x x0 x1 => ?_
          simp
          by_cases z : 0 < x
          · rw [if_pos z]
            refine S_take (by omega) (by omega) (by omega) fun y y0 y1 => ?_
            obtain ⟨m, rfl⟩ := Int.eq_ofNat_of_zero_le y0
            have hm : m < l.length := by omega
            simp
            rw [atI_nat (List.getElem?_eq_getElem hm)]
            simp
            refine ih k _ _ _ (by omega) (by omega) (htn _ (List.getElem_mem hm)) (by omega) fun d' c' hd' hc' => ?_
            have h1 := hcl none (some (m : Int))
            have h2 := hcl (some ((m : Int) + 1)) none
            refine ⟨by omega, by omega, q _ _ ?_ (by omega)⟩
            have hall : ∀ d ∈ L3.cutD l none (some (m : Int)) ++ d' :: L3.cutD l (some ((m : Int) + 1)) none, niceD (k + 5) d = true ∧ okD (k + 5) d = true ∧ plainD d = true := fun d hd2 => by
              rcases List.mem_append.mp hd2 with w | w
              · exact hin d (cutD_mem w)
              · rcases List.mem_cons.mp w with rfl | w
                · exact ⟨hd'.ni, hd'.ok, hd'.pl⟩
                · exact hin d (cutD_mem w)
            refine ⟨nice_mk ?_ fun d hd2 => (hall d hd2).1, ok_mk fun d hd2 => (hall d hd2).2.1, ?_, by unfold plainD; exact plainL_of fun d hd2 => (hall d hd2).2.2⟩
            · rw [show ((m : Int) + 1) = ((m + 1 : Nat) : Int) by omega, cutD_to, cutD_from, List.length_append, List.length_cons, List.length_take, List.length_drop]
              omega
            · have e1 := szL_take l m
              have e2 : l.drop m = l[m] :: l.drop (m + 1) := List.drop_eq_getElem_cons hm
              have e3 := hd'.sz
              rw [e2, szL] at e1
              rw [szD, szL_app, szL, show ((m : Int) + 1) = ((m + 1 : Nat) : Int) by omega, cutD_to, cutD_from]
              omega
          · rw [if_neg z]
            exact ⟨rfl, by omega, oth _ (by omega)⟩
    | _ => unfold tnD at hd; cases hd
end Law45

set_option maxHeartbeats 4000000
namespace Law45
open PySem PySem.Spec PyProof.Rows
open L2 hiding FnOk Room
open L3
mutual
theorem toPy_inj : ∀ (d e : D) (y : PyData), toPy d = some y → toPy e = some y → d = e
  | .non, e, y, h, k => by
    unfold toPy at h
    cases h
    cases e with
    | non => rfl
    | tup l => unfold toPy at k; cases z : toPyL l <;> rw [z] at k <;> cases k
    | lst l => unfold toPy at k; cases z : toPyL l <;> rw [z] at k <;> cases k
    | _ => unfold toPy at k; cases k
  | .bl b, e, y, h, k => by
    unfold toPy at h
    cases h
    cases e with
    | bl c => unfold toPy at k; cases k; rfl
    | tup l => unfold toPy at k; cases z : toPyL l <;> rw [z] at k <;> cases k
    | lst l => unfold toPy at k; cases z : toPyL l <;> rw [z] at k <;> cases k
    | _ => unfold toPy at k; cases k
  | .int b, e, y, h, k => by
    unfold toPy at h
    cases h
    cases e with
    | int c => unfold toPy at k; cases k; rfl
    | tup l => unfold toPy at k; cases z : toPyL l <;> rw [z] at k <;> cases k
    | lst l => unfold toPy at k; cases z : toPyL l <;> rw [z] at k <;> cases k
    | _ => unfold toPy at k; cases k
  | .str b, e, y, h, k => by
    unfold toPy at h
    cases h
    cases e with
    | str c => unfold toPy at k; cases k; rfl
    | tup l => unfold toPy at k; cases z : toPyL l <;> rw [z] at k <;> cases k
    | lst l => unfold toPy at k; cases z : toPyL l <;> rw [z] at k <;> cases k
    | _ => unfold toPy at k; cases k
  | .tup l, e, y, h, k => by
    unfold toPy at h
    obtain ⟨ys, z, rfl⟩ := Option.map_eq_some_iff.mp h
    cases e with
    | tup m =>
      unfold toPy at k
      obtain ⟨zs, z2, e2⟩ := Option.map_eq_some_iff.mp k
      cases e2
      rw [toPyL_inj l m ys z z2]
    | lst m => unfold toPy at k; obtain ⟨zs, z2, e2⟩ := Option.map_eq_some_iff.mp k; cases e2
    | _ => unfold toPy at k; cases k
  | .lst l, e, y, h, k => by
    unfold toPy at h
    obtain ⟨ys, z, rfl⟩ := Option.map_eq_some_iff.mp h
    cases e with
    | lst m =>
      unfold toPy at k
      obtain ⟨zs, z2, e2⟩ := Option.map_eq_some_iff.mp k
      cases e2
      rw [toPyL_inj l m ys z z2]
    | tup m => unfold toPy at k; obtain ⟨zs, z2, e2⟩ := Option.map_eq_some_iff.mp k; cases e2
    | _ => unfold toPy at k; cases k
  | .ty _, _, _, h, _ => by unfold toPy at h; cases h
  | .rf _, _, _, h, _ => by unfold toPy at h; cases h
  | .pot, _, _, h, _ => by unfold toPy at h; cases h
  | .scr _, _, _, h, _ => by unfold toPy at h; cases h
  | .lam .., _, _, h, _ => by unfold toPy at h; cases h
  | .clo .., _, _, h, _ => by unfold toPy at h; cases h
  | .exc .., _, _, h, _ => by unfold toPy at h; cases h
  | .dic _, _, _, h, _ => by unfold toPy at h; cases h
  | .dct .., _, _, h, _ => by unfold toPy at h; cases h
theorem toPyL_inj : ∀ (l m : List D) (ys : List PyData), toPyL l = some ys → toPyL m = some ys → l = m
  | [], m, ys, h, k => by
    unfold toPyL at h
    cases h
    cases m with
    | nil => rfl
    | cons e m =>
      unfold toPyL at k
      cases z1 : toPy e <;> cases z2 : toPyL m <;> rw [z1, z2] at k <;> cases k
  | d :: l, m, ys, h, k => by
    unfold toPyL at h
    cases z1 : toPy d with
    | none => rw [z1] at h; cases h
    | some x =>
      cases z2 : toPyL l with
      | none => rw [z1, z2] at h; cases h
      | some r =>
        rw [z1, z2] at h
        cases h
        cases m with
        | nil => unfold toPyL at k; cases k
        | cons e m =>
          unfold toPyL at k
          cases w1 : toPy e with
          | none => rw [w1] at k; cases k
          | some x' =>
            cases w2 : toPyL m with
            | none => rw [w1, w2] at k; cases k
            | some r' =>
              rw [w1, w2] at k
              cases k
              rw [toPy_inj d e _ z1 w1, toPyL_inj l m _ z2 w2]
end
mutual
theorem ok_py : ∀ (n m : Nat) (d : D), n ≤ m → okD n d = true → pyD m d = true
  | n, m, .non, _, _ => by unfold pyD; rfl
  | n, m, .bl b, _, _ => by unfold pyD; rfl
  | n, m, .int i, _, _ => by unfold pyD; rfl
  | n, m, .str x, _, h => by
    unfold okD at h
    rw [Bool.and_eq_true] at h
    unfold pyD
    exact h.2
  | n + 1, m, .tup l, hm, h => by
    unfold okD at h
    obtain ⟨k, rfl⟩ : ∃ k, m = k + 1 := ⟨m - 1, by omega⟩
    unfold pyD
    exact ok_pyL n k l (by omega) h
  | n + 1, m, .lst l, hm, h => by
    unfold okD at h
    obtain ⟨k, rfl⟩ : ∃ k, m = k + 1 := ⟨m - 1, by omega⟩
    unfold pyD
    exact ok_pyL n k l (by omega) h
  | 0, _, .tup l, _, h => by simp [okD] at h
  | 0, _, .lst l, _, h => by simp [okD] at h
  | _, _, .ty _, _, h => by simp [okD] at h
  | _, _, .rf _, _, h => by simp [okD] at h
  | _, _, .pot, _, h => by simp [okD] at h
  | _, _, .scr _, _, h => by simp [okD] at h
  | _, _, .lam .., _, h => by simp [okD] at h
  | _, _, .clo .., _, h => by simp [okD] at h
  | _, _, .exc .., _, h => by simp [okD] at h
  | _, _, .dic _, _, h => by simp [okD] at h
  | _, _, .dct .., _, h => by simp [okD] at h
theorem ok_pyL : ∀ (n m : Nat) (l : List D), n ≤ m → okL n l = true → pyDL m l = true
  | _, _, [], _, _ => by unfold pyDL; rfl
  | n, m, d :: l, hm, h => by
    unfold okL at h
    rw [Bool.and_eq_true] at h
    unfold pyDL
    rw [Bool.and_eq_true]
    exact ⟨ok_py n m d hm h.1, ok_pyL n m l hm h.2⟩
end
/-- a value asked of -/
structure Vk (d : D) : Prop where
  ni : ∃ k, niceD k d = true
  tu : ∀ l, d = .tup l → (∃ k, k ≤ 60 ∧ okD k d = true) ∧ szD d ≤ 10000 ∧ plainD d = true
theorem Vk.py {l : List D} (h : Vk (.tup l)) : pyD 64 (.tup l) = true := by
  obtain ⟨⟨k, k1, k2⟩, _⟩ := h.tu l rfl
  exact ok_py k 64 _ (by omega) k2
theorem Vk.show {l : List D} (h : Vk (.tup l)) : ∃ y, ShowP (.tup l) y := by
  obtain ⟨⟨k, k1, k2⟩, hz, _⟩ := h.tu l rfl
  exact show_small k2 (by omega) (by omega)
/-- tuples that show alike are alike -/
theorem same_shown {l m : List D} {y z : PyData} (h : Vk (.tup l)) (hp : plainD (.tup m) = true) (hy : ShowP (.tup l) y) (hz : ShowP (.tup m) z) (e : y.shown = z.shown) : l = m := by
  have e2 := shown_inj (plain_py _ y (h.tu l rfl).2.2 hy.1) (plain_py _ z hp hz.1) e
  subst e2
  exact D.tup.inj (toPy_inj _ _ y hy.1 hz.1)
end Law45

set_option maxHeartbeats 4000000
namespace Law45
open PySem PySem.Spec PyProof.Rows
open L2 hiding FnOk Room
open L3
/-- a tuple of a length a or b whose first is a text -/
def Told (a b : Nat) (d : D) : Prop := ∃ x r, d = .tup (.str x :: r) ∧ (r.length + 1 = a ∨ r.length + 1 = b)
theorem eqv_len (a : Nat) (n : Nat) : eqvD (D.int (a : Int)) (D.int (n : Int)) = decide (a = n) := by
  show ((a : Int) == (n : Int)) = _
  by_cases h : a = n
  · subst h; simp
  · rw [decide_eq_false h]
    exact beq_false_of_ne fun z => h (by omega)
theorem S_is_told {a b k : Nat} {d : D} {c : Nat} {Q : KD} (h0 : 0 < a ∧ 0 < b) (hd : niceD k d = true) (q1 : Told a b d → Q (.bl true) c) (q2 : ¬ Told a b d → Q (.bl false) c) : m_is_told [d, .tup [.int (a : Int), .int (b : Int)]] c Q := by
  refine ⟨rfl, ?_⟩
  cases d with
  | tup v =>
    simp [runM, g_is_told, start3]
    rw [eqv_len, eqv_len]
    refine ⟨rfl, ⟨pyD_int, rfl⟩, ?_⟩
    by_cases hl : a = v.length ∨ b = v.length
    · rw [if_pos (hl.imp decide_eq_true decide_eq_true)]
      cases v with
      | nil =>
        exfalso
        simp at hl
        omega
      | cons e r =>
        rw [show L2.atI (e :: r) 0 = some e from atI_nat (j := 0) rfl]
        simp only []
        obtain ⟨m, _, hm⟩ := (nice_tup hd).2
        have ne := nice_ty (niceL_mem hm (d := e) (by simp))
        refine ⟨ne, ?_⟩
        by_cases hs : ∃ x, e = .str x
        · obtain ⟨x, rfl⟩ := hs
          refine q1 ⟨x, r, rfl, ?_⟩
          rw [List.length_cons] at hl
          omega
        · have q := q2 fun ⟨x, r', z, _⟩ => hs ⟨x, (List.cons.inj (D.tup.inj z)).1⟩
          cases e with
          | str x => exact absurd ⟨x, rfl⟩ hs
          | _ => exact q
    · rw [if_neg fun z => hl (z.imp of_decide_eq_true of_decide_eq_true)]
      refine q2 fun ⟨x, r, z, hz⟩ => hl ?_
      rw [D.tup.inj z, List.length_cons]
      omega
  | ty n' => exact absurd (nice_ty hd) (by simp [tyName])
  | rf a => exact absurd (nice_ty hd) (by simp [tyName])
  | pot => exact absurd (nice_ty hd) (by simp [tyName])
  | exc n' d => exact absurd (nice_ty hd) (by simp [tyName])
  | clo a o => exact absurd (nice_ty hd) (by simp [tyName])
  | scr l => exact absurd (nice_ty hd) (by simp [tyName])
  | lam a F0 p => exact absurd (nice_ty hd) (by simp [tyName])
  | _ =>
    simp [runM, g_is_told, start3]
    exact ⟨nice_ty hd, q2 fun ⟨x, r, e, _⟩ => by cases e⟩
/-! closing -/
def clsD (t b s j : Int) : D := if s + 2 * j < t + 2 * b then .tup [.str "short", .int (t + 2 * b - s - 2 * j)] else if t + 2 * b + 2 * j < s then .tup [.str "long", .int (s - (t + 2 * b) - 2 * j)] else .tup [.str "closes"]
theorem S_tcloses {t b s j h : Int} {c : Nat} {Q : KD} (q : Q (clsD t b s j) c) : m_told_closes [cov t b s j h] c Q := by
  unfold clsD at q
  refine ⟨rfl, ?_⟩
  simp [runM, g_told_closes, start3]
  refine ⟨ok2, ok2, ?_⟩
  by_cases z : s + 2 * j < t + 2 * b
  · rw [if_pos z] at q ⊢
    exact ⟨ok2, q⟩
  · rw [if_neg z] at q ⊢
    refine ⟨ok2, ?_⟩
    by_cases y : t + 2 * b + 2 * j < s
    · rw [if_pos y] at q ⊢
      exact ⟨ok2, q⟩
    · rw [if_neg y] at q ⊢
      exact q
theorem S_lcloses {t b s j h : Int} {c : Nat} {Q : KD} (q : Q (clsD t b s j) c) : m_law_closes [cov t b s j h] c Q := by
  unfold clsD at q
  refine ⟨rfl, ?_⟩
  simp [runM, g_law_closes, start3]
  refine ⟨ok2, ok2, ?_⟩
  by_cases z : s + 2 * j < t + 2 * b
  · rw [if_pos z] at q ⊢
    exact ⟨ok2, q⟩
  · rw [if_neg z] at q ⊢
    refine ⟨ok2, ?_⟩
    by_cases y : t + 2 * b + 2 * j < s
    · rw [if_pos y] at q ⊢
      exact ⟨ok2, q⟩
    · rw [if_neg y] at q ⊢
      exact q
theorem S_closes {t b s j h : Int} {c : Nat} {Q : KD} {QX : KXD} (i : InC 1000000 t b s j h) (q : Q (clsD t b s j) c) : m_closes [cov t b s j h] c Q QX := by
  refine ⟨rfl, ?_⟩
  simp [g_closes, start3]
  exact S_look i (S_tcloses q)
/-- a told one with whole numbers behind its text -/
theorem ints_behind {x : Str} {r : List D} {hi : Int} (h : ∀ d ∈ r, L3.isIntB 0 hi d = true) : nbD (.tup (.str x :: r)) = true := by
  unfold nbD
  show (nbD (.str x) && nbDL r) = true
  rw [Bool.and_eq_true]
  refine ⟨rfl, ?_⟩
  induction r with
  | nil => rfl
  | cons d r ih =>
    show (nbD d && nbDL r) = true
    rw [Bool.and_eq_true]
    obtain ⟨v, rfl, _⟩ := isInt_inv (h d List.mem_cons_self)
    exact ⟨rfl, ih fun e he => h e (List.mem_cons_of_mem _ he)⟩
theorem cut1 (d : D) (r : List D) : L3.cutD (d :: r) (some 1) none = r := by
  rw [show (1 : Int) = ((1 : Nat) : Int) from rfl, cutD_from]
  rfl
theorem py_two {x : Str} {i : Int} (h : PyData.strOk x = true) : pyD 64 (.tup [.str x, .int i]) = true := by
  show (PyData.strOk x && (true && true)) = true
  rw [h]
  rfl
theorem cls_py {t b s j : Int} : pyD 64 (clsD t b s j) = true := by
  unfold clsD
  split
  · exact py_two (by decide +kernel)
  · split
    · exact py_two (by decide +kernel)
    · unfold pyD; decide +kernel
theorem cls_nb {t b s j : Int} : nbD (clsD t b s j) = true := by
  unfold clsD
  split
  · rfl
  · split <;> rfl
theorem cls_ints {t b s j h : Int} {x : Str} {r : List D} (i : InC 1000000 t b s j h) (e : D.tup (.str x :: r) = clsD t b s j) : ∀ d ∈ r, L3.isIntB 0 5000000 d = true := by
  obtain ⟨i1, i2, i3, i4, i5⟩ := i
  unfold clsD at e
  split at e
  · cases e
    intro d hd
    rw [List.mem_singleton.mp hd]
    exact decide_eq_true (by omega)
  · split at e
    · cases e
      intro d hd
      rw [List.mem_singleton.mp hd]
      exact decide_eq_true (by omega)
    · cases e
      intro d hd
      cases hd
theorem S_shows_closes {t b s j h : Int} {d : D} {c : Nat} {Q : KD} {QX : KXD} (i : InC 1000000 t b s j h) (hd : Vk d) (q1 : d = clsD t b s j → Q (.bl true) c) (q2 : d ≠ clsD t b s j → Q (.bl false) c) : m_shows_closes [cov t b s j h, d] c Q QX := by
  obtain ⟨k, hk⟩ := hd.ni
  refine ⟨rfl, ?_⟩
  simp [g_shows_closes, start3, -compL]
  refine S_look i (S_tcloses ?_)
  refine S_is_told (a := 1) (b := 2) (by decide) hk (fun ht => ?_) fun ht => ?_
  · obtain ⟨x, r, rfl, hl⟩ := ht
    simp [-compL]
    rw [cut1]
    obtain ⟨m, _, hm⟩ := (nice_tup hk).2
    refine L3.comp_map (fun d => .bl (L3.isIntB 0 5000000 d)) _ _ (fun d hd' K hK => ?_) ?_
    · simp
      refine ⟨by unfold L3.MulOk; omega, ?_⟩
      exact S_is_int (nice_ty (niceL_mem hm (List.mem_cons_of_mem _ hd'))) hK
    · rw [L3.bls_map]
      simp only []
      by_cases ha : ∀ d ∈ r, L3.isIntB 0 5000000 d = true
      · rw [if_neg fun z => by
          obtain ⟨d, hd', e⟩ := List.mem_map.mp z
          rw [ha d hd'] at e
          cases e]
        refine ⟨⟨hd.py, cls_py⟩, ?_⟩
        have ei := eqvD_iff (x := .tup (.str x :: r)) (y := clsD t b s j) (ints_behind ha) cls_nb
        cases e : eqvD (.tup (.str x :: r)) (clsD t b s j) with
        | true => exact q1 (ei.mp e)
        | false => exact q2 fun z => by rw [ei.mpr z] at e; cases e
      · rw [if_pos (by
          refine Classical.byContradiction fun z => ha fun d hd' => ?_
          cases e : L3.isIntB 0 5000000 d with
          | true => rfl
          | false => exact absurd (List.mem_map.mpr ⟨d, hd', e⟩) z)]
        refine q2 fun z => ha fun d hd' => ?_
        exact cls_ints i z d hd'
  · simp
    refine q2 fun z => ht ?_
    rw [z]
    unfold clsD
    split
    · exact ⟨_, _, rfl, .inr rfl⟩
    · split
      · exact ⟨_, _, rfl, .inr rfl⟩
      · exact ⟨_, _, rfl, .inl rfl⟩
end Law45

set_option maxHeartbeats 4000000
namespace Law45
open PySem PySem.Spec PyProof.Rows
open L2 hiding FnOk Room
open L3
def flatD (b s j h : Int) : D := if s - 2 * j ≤ gapM s j h then (if s * s ≤ gapM s j h * gapM s j h + b * b then .tup [.str "flat", .int (gapM s j h)] else .tup [.str "short", .int (gapM s j h), .int (s * s - gapM s j h * gapM s j h - b * b)]) else .tup [.str "long", .int (s - 2 * j - 2 * h)]
theorem S_tflat {t b s j h : Int} {c : Nat} {Q : KD} (i : InC 10000000 t b s j h) (q : Q (flatD b s j h) c) : m_told_flat [cov t b s j h] c Q := by
  obtain ⟨i1, i2, i3, i4, i5⟩ := i
  have gi := gap_in i3 i4 i5
  unfold flatD at q
  refine ⟨rfl, ?_⟩
  simp [runM, g_told_flat, start3]
  refine S_gaps i5.1 i3.1 i4.1 (fun z => ?_) fun z => ?_
  · rw [if_pos z] at q
    simp
    refine S_fits ⟨i3.1, by omega⟩ ⟨i2.1, by omega⟩ ⟨gi.1, by omega⟩ ?_
    by_cases y : s * s ≤ gapM s j h * gapM s j h + b * b
    · rw [if_pos y] at q
      rw [decide_eq_true y]
      simp
      exact q
    · rw [if_neg y] at q
      rw [decide_eq_false y]
      simp
      exact ⟨okS i3.1 (by omega), okS gi.1 (by omega), okS i2.1 (by omega), q⟩
  · rw [if_neg z] at q
    simp
    exact ⟨ok2, ok2, q⟩
theorem S_opens {t b s j h : Int} {c : Nat} {Q : KD} {QX : KXD} (i : InC 1000000 t b s j h) (q : Q (flatD b s j h) c) : m_opens_flat [cov t b s j h] c Q QX := by
  refine ⟨rfl, ?_⟩
  simp [g_opens_flat, start3]
  exact S_look i (S_tflat (i.up (by decide)) q)
def CanGap (b s j h g : Int) : Prop := (0 ≤ g ∧ s - 2 * j ≤ g ∧ g ≤ gapM s j h) ∧ s * s ≤ g * g + b * b
theorem can_flat {b s j h g : Int} (h0 : 0 ≤ g) (c : CanGap b s j h g) : Flat b s j h :=
  ⟨by have := c.1; omega, by
    have a := c.1
    have m : g * g ≤ gapM s j h * gapM s j h := Int.mul_le_mul a.2.2 a.2.2 h0 (by omega)
    have := c.2
    omega⟩
theorem flat_can {b s j h : Int} (s0 : 0 ≤ s) (j0 : 0 ≤ j) (h0 : 0 ≤ h) (f : Flat b s j h) : CanGap b s j h (gapM s j h) :=
  ⟨⟨by unfold gapM; split <;> omega, f.1, Int.le_refl _⟩, f.2⟩
theorem S_greatest {t b s j h : Int} {c : Nat} {Q : KD} (i : InC 10000000 t b s j h) (q1 : s - 2 * j ≤ gapM s j h → Q (.int (gapM s j h)) c) (q2 : ¬ s - 2 * j ≤ gapM s j h → Q .non c) : m_law_greatest [cov t b s j h] c Q := by
  refine ⟨rfl, ?_⟩
  simp [runM, g_law_greatest, start3]
  rw [show (if s + 2 * j < 2 * h then s + 2 * j else 2 * h) = gapM s j h from rfl]
  split
  · rename_i z
    exact ⟨ok2, ok2, q1 z⟩
  · rename_i z
    exact ⟨ok2, ok2, q2 z⟩
theorem S_can_gap {t b s j h g : Int} {c : Nat} {Q : KD} (i : InC 10000000 t b s j h) (q1 : CanGap b s j h g → Q (.bl true) c) (q2 : ¬ CanGap b s j h g → Q (.bl false) c) : m_law_can_gap [cov t b s j h, .int g] c Q := by
  obtain ⟨i1, i2, i3, i4, i5⟩ := i
  have gi := gap_in i3 i4 i5
  refine ⟨rfl, ?_⟩
  simp [runM, g_law_can_gap, start3]
  have sq : ∀ x : Int, x ^ 2 = x * x := fun x => by rw [Int.pow_succ, Int.pow_succ, Int.pow_zero, Int.one_mul]
  have gm : gapM s j h ≤ 2 * h ∧ gapM s j h ≤ s + 2 * j ∧ (gapM s j h = 2 * h ∨ gapM s j h = s + 2 * j) := by
    unfold gapM
    split <;> omega
  by_cases a1 : g < 0
  · rw [if_pos a1]
    exact q2 fun z => by have := z.1; omega
  rw [if_neg a1]
  refine ⟨ok2, ?_⟩
  by_cases a2 : 2 * h < g
  · rw [if_pos a2]
    exact q2 fun z => by have := z.1; omega
  rw [if_neg a2]
  refine ⟨ok2, ?_⟩
  by_cases a3 : s + 2 * j < g
  · rw [if_pos a3]
    exact q2 fun z => by have := z.1; omega
  rw [if_neg a3]
  refine ⟨ok2, ?_⟩
  by_cases a4 : g < s - 2 * j
  · rw [if_pos a4]
    exact q2 fun z => by have := z.1; omega
  rw [if_neg a4]
  by_cases a5 : s ≤ g
  · rw [if_pos a5]
    refine q1 ⟨by omega, ?_⟩
    have m : s * s ≤ g * g := Int.mul_le_mul a5 a5 i3.1 (by omega)
    have m2 : 0 ≤ b * b := Int.mul_nonneg i2.1 i2.1
    omega
  · rw [if_neg a5]
    refine ⟨by omega, by omega, by omega, ?_⟩
    simp only [sq]
    by_cases y : s * s ≤ g * g + b * b
    · rw [decide_eq_true y]
      exact q1 ⟨by omega, y⟩
    · rw [decide_eq_false y]
      exact q2 fun z => y z.2
end Law45

set_option maxHeartbeats 4000000
namespace Law45
open PySem PySem.Spec PyProof.Rows
open L2 hiding FnOk Room
open L3
/-- what may be told of opening: a gap that lies flat, or what is told where none does -/
def FlOk (b s j h : Int) (d : D) : Prop := (∃ g, d = .tup [.str "flat", .int g] ∧ CanGap b s j h g) ∨ (d = flatD b s j h ∧ ¬ Flat b s j h)
theorem flat_head {b s j h : Int} {r : List D} (e : D.tup (.str "flat" :: r) = flatD b s j h) : Flat b s j h := by
  unfold flatD at e
  split at e
  · rename_i z
    split at e
    · rename_i y
      exact ⟨z, y⟩
    · cases e
  · cases e
theorem fl_py {b s j h : Int} : pyD 64 (flatD b s j h) = true := by
  unfold flatD
  split
  · split
    · exact py_two (by decide +kernel)
    · show (PyData.strOk "short" && (true && (true && true))) = true
      decide +kernel
  · exact py_two (by decide +kernel)
theorem fl_nb {b s j h : Int} : nbD (flatD b s j h) = true := by
  unfold flatD
  split
  · split <;> rfl
  · rfl
theorem sq_b {x m : Int} (h : 0 ≤ x ∧ x ≤ m) : 0 ≤ x * x ∧ x * x ≤ m * m := ⟨Int.mul_nonneg h.1 h.1, Int.mul_le_mul h.2 h.2 h.1 (by omega)⟩
theorem fl_ints {t b s j h : Int} {x : Str} {r : List D} (i : InC 1000000 t b s j h) (e : D.tup (.str x :: r) = flatD b s j h) : (r.length = 1 ∨ r.length = 2) ∧ ∀ d ∈ r, L3.isIntB 0 1000000000000 d = true := by
  obtain ⟨i1, i2, i3, i4, i5⟩ := i
  have gi := gap_in i3 i4 i5
  have ss := sq_b i3
  have gg := sq_b gi
  have bb := sq_b i2
  unfold flatD at e
  split at e
  · rename_i z
    split at e
    · cases e
      refine ⟨.inl rfl, fun d hd => ?_⟩
      rw [List.mem_singleton.mp hd]
      exact decide_eq_true (by omega)
    · rename_i y
      cases e
      refine ⟨.inr rfl, fun d hd => ?_⟩
      simp only [List.mem_cons, List.not_mem_nil, or_false] at hd
      rcases hd with rfl | rfl
      · exact decide_eq_true (by omega)
      · exact decide_eq_true (by omega)
  · rename_i z
    cases e
    refine ⟨.inl rfl, fun d hd => ?_⟩
    rw [List.mem_singleton.mp hd]
    have : gapM s j h = 2 * h ∨ gapM s j h = s + 2 * j := by unfold gapM; split <;> simp
    exact decide_eq_true (by omega)
theorem fl_told {t b s j h : Int} {d : D} (i : InC 1000000 t b s j h) (z : FlOk b s j h d) : Told 2 3 d ∧ ∀ x r, d = .tup (.str x :: r) → ∀ e ∈ r, L3.isIntB 0 1000000000000 e = true := by
  have gi := gap_in i.2.2.1 i.2.2.2.1 i.2.2.2.2
  rcases z with ⟨g, rfl, hg⟩ | ⟨e, nf⟩
  · refine ⟨⟨_, _, rfl, .inl rfl⟩, fun x r z e he => ?_⟩
    cases z
    rw [List.mem_singleton.mp he]
    have := hg.1
    exact decide_eq_true (by omega)
  · have : ∃ x r, flatD b s j h = .tup (.str x :: r) := by
      unfold flatD
      split
      · split <;> exact ⟨_, _, rfl⟩
      · exact ⟨_, _, rfl⟩
    obtain ⟨x, r, ex⟩ := this
    obtain ⟨f1, f2⟩ := fl_ints i ex.symm
    refine ⟨⟨x, r, e.trans ex, by omega⟩, fun x' r' z e' he => ?_⟩
    have := z.symm.trans (e.trans ex)
    cases this
    exact f2 e' he
theorem S_shows_flat {t b s j h : Int} {d : D} {c : Nat} {Q : KD} {QX : KXD} (i : InC 1000000 t b s j h) (hd : Vk d) (q1 : FlOk b s j h d → Q (.bl true) c) (q2 : ¬ FlOk b s j h d → Q (.bl false) c) : m_shows_opens_flat [cov t b s j h, d] c Q QX := by
  obtain ⟨k, hk⟩ := hd.ni
  have i3 := i.2.2.1
  have i4 := i.2.2.2.1
  have i5 := i.2.2.2.2
  have i2 := i.2.1
  have gi := gap_in i3 i4 i5
  refine ⟨rfl, ?_⟩
  simp [g_shows_opens_flat, start3, -compL]
  refine S_look i ?_
  refine S_is_told (a := 2) (b := 3) (by decide) hk (fun ht => ?_) fun ht => ?_
  · obtain ⟨x, r, rfl, hl⟩ := ht
    simp [-compL]
    rw [cut1]
    obtain ⟨m, _, hm⟩ := (nice_tup hk).2
    refine L3.comp_map (fun d => .bl (L3.isIntB 0 1000000000000 d)) _ _ (fun d hd' K hK => ?_) ?_
    · simp
      exact S_is_int (nice_ty (niceL_mem hm (List.mem_cons_of_mem _ hd'))) hK
    · rw [L3.bls_map]
      simp only []
      by_cases ha : ∀ d ∈ r, L3.isIntB 0 1000000000000 d = true
      · rw [if_neg fun z => by
          obtain ⟨d, hd', e⟩ := List.mem_map.mp z
          rw [ha d hd'] at e
          cases e]
        have nfl : Flat b s j h → ∃ g, flatD b s j h = .tup [.str "flat", .int g] := fun f => by
          unfold flatD
          rw [if_pos f.1, if_pos f.2]
          exact ⟨_, rfl⟩
        have fin : (x = "flat" → r.length ≠ 1) → m_told_flat [cov t b s j h] c fun y c => (pyD 64 (D.tup (D.str x :: r)) = true ∧ pyD 64 y = true) ∧ Q (D.bl (eqvD (D.tup (D.str x :: r)) y)) c := fun hx => by
          refine S_tflat (i.up (by decide)) ⟨⟨hd.py, fl_py⟩, ?_⟩
          have ei := eqvD_iff (x := .tup (.str x :: r)) (y := flatD b s j h) (ints_behind ha) fl_nb
          cases e : eqvD (.tup (.str x :: r)) (flatD b s j h) with
          | true =>
            refine q1 (.inr ⟨ei.mp e, fun f => ?_⟩)
            obtain ⟨g, eg⟩ := nfl f
            have := (ei.mp e).trans eg
            cases this
            exact hx rfl rfl
          | false =>
            refine q2 fun z => ?_
            rcases z with ⟨g, eg, _⟩ | ⟨eg, _⟩
            · cases eg
              exact hx rfl rfl
            · rw [ei.mpr eg] at e
              cases e
        by_cases hx : x = "flat" ∧ r.length = 1
        · obtain ⟨rfl, hr⟩ := hx
          obtain ⟨e, rfl⟩ : ∃ e, r = [e] := by
            match r, hr with
            | [e], _ => exact ⟨e, rfl⟩
          obtain ⟨g, rfl, g0, g1⟩ := isInt_inv (ha e (by simp))
          have key : FlOk b s j h (.tup [.str "flat", .int g]) ↔ CanGap b s j h g := by
            constructor
            · intro z
              rcases z with ⟨g', e', hg⟩ | ⟨e', nf⟩
              · cases e'
                exact hg
              · exact absurd (flat_head e') nf
            · exact fun z => .inl ⟨g, rfl, z⟩
          refine S_gaps i5.1 i3.1 i4.1 (fun z => ?_) fun z => ?_
          · simp
            by_cases b1 : (if 2 * j < s then s - 2 * j else 0) ≤ g
            · rw [if_pos b1]
              by_cases b2 : g ≤ gapM s j h
              · rw [if_pos b2]
                refine S_fits ⟨i3.1, by omega⟩ ⟨i2.1, by omega⟩ ⟨g0, by omega⟩ ?_
                by_cases y : s * s ≤ g * g + b * b
                · rw [decide_eq_true y]
                  exact q1 (key.mpr ⟨⟨g0, by split at b1 <;> omega, b2⟩, y⟩)
                · rw [decide_eq_false y]
                  exact q2 fun w => y (key.mp w).2
              · rw [if_neg b2]
                exact q2 fun w => b2 (key.mp w).1.2.2
            · rw [if_neg b1]
              refine q2 fun w => b1 ?_
              have := (key.mp w).1
              split <;> omega
          · simp
            refine q2 fun w => z ?_
            have := (key.mp w).1
            omega
        · have f1 := fin fun hf hr => hx ⟨hf, hr⟩
          refine S_gaps i5.1 i3.1 i4.1 (fun z => ?_) fun z => ?_
          all_goals
            simp only []
            by_cases e1 : x = Str.ofString "flat"
            · rw [if_pos e1, if_neg (by have : r.length ≠ 1 := fun hr => hx ⟨e1, hr⟩; omega)]
              exact f1
            · rw [if_neg e1]
              exact f1
      · rw [if_pos (by
          refine Classical.byContradiction fun z => ha fun d hd' => ?_
          cases e : L3.isIntB 0 1000000000000 d with
          | true => rfl
          | false => exact absurd (List.mem_map.mpr ⟨d, hd', e⟩) z)]
        exact q2 fun z => ha ((fl_told i z).2 x r rfl)
  · simp
    exact q2 fun z => ht (fl_told i z).1
end Law45

set_option maxHeartbeats 4000000
namespace Law45
open PySem PySem.Spec PyProof.Rows
open L2 hiding FnOk Room
open L3
theorem fl_flat {b s j h g : Int} : FlOk b s j h (.tup [.str "flat", .int g]) ↔ CanGap b s j h g := by
  constructor
  · intro z
    rcases z with ⟨g', e', hg⟩ | ⟨e', nf⟩
    · cases e'
      exact hg
    · exact absurd (flat_head e') nf
  · exact fun z => .inl ⟨g, rfl, z⟩
theorem fl_flat1 {b s j h : Int} {r : List D} (z : FlOk b s j h (.tup (.str "flat" :: r))) : r.length = 1 := by
  rcases z with ⟨g', e', hg⟩ | ⟨e', nf⟩
  · cases e'
    rfl
  · exact absurd (flat_head e') nf
theorem fl_long {b s j h : Int} {r : List D} : FlOk b s j h (.tup (.str "long" :: r)) ↔ ¬ s - 2 * j ≤ gapM s j h ∧ r = [.int (s - 2 * j - 2 * h)] := by
  constructor
  · intro z
    rcases z with ⟨g', e', hg⟩ | ⟨e', nf⟩
    · cases e'
    · unfold flatD at e'
      split at e'
      · split at e' <;> cases e'
      · rename_i n
        cases e'
        exact ⟨n, rfl⟩
  · rintro ⟨n, rfl⟩
    refine .inr ⟨?_, fun f => n f.1⟩
    unfold flatD
    rw [if_neg n]
theorem fl_short {b s j h : Int} {r : List D} : FlOk b s j h (.tup (.str "short" :: r)) ↔ s - 2 * j ≤ gapM s j h ∧ ¬ s * s ≤ gapM s j h * gapM s j h + b * b ∧ r = [.int (gapM s j h), .int (s * s - gapM s j h * gapM s j h - b * b)] := by
  constructor
  · intro z
    rcases z with ⟨g', e', hg⟩ | ⟨e', nf⟩
    · cases e'
    · unfold flatD at e'
      split at e'
      · rename_i y
        split at e'
        · cases e'
        · rename_i n
          cases e'
          exact ⟨y, n, rfl⟩
      · cases e'
  · rintro ⟨y, n, rfl⟩
    refine .inr ⟨?_, fun f => n f.2⟩
    unfold flatD
    rw [if_pos y, if_neg n]
theorem fl_other {b s j h : Int} {x : Str} {r : List D} (n1 : x ≠ "flat") (n2 : x ≠ "long") (n3 : x ≠ "short") : ¬ FlOk b s j h (.tup (.str x :: r)) := fun z => by
  rcases z with ⟨g', e', hg⟩ | ⟨e', nf⟩
  · cases e'
    exact n1 rfl
  · unfold flatD at e'
    split at e'
    · split at e'
      · cases e'; exact n1 rfl
      · cases e'; exact n3 rfl
    · cases e'; exact n2 rfl
theorem len_one {r : List D} {hi : Int} (hr : r.length = 1) (ha : ∀ d ∈ r, L3.isIntB 0 hi d = true) : ∃ g, r = [.int g] := by
  match r, hr, ha with
  | [e], _, ha =>
    obtain ⟨g, rfl, _⟩ := isInt_inv (ha e (by simp))
    exact ⟨g, rfl⟩
theorem len_two {r : List D} {hi : Int} (hr : r.length = 2) (ha : ∀ d ∈ r, L3.isIntB 0 hi d = true) : ∃ g g', r = [.int g, .int g'] := by
  match r, hr, ha with
  | [e, e'], _, ha =>
    obtain ⟨g, rfl, _⟩ := isInt_inv (ha e (by simp))
    obtain ⟨g', rfl, _⟩ := isInt_inv (ha e' (by simp))
    exact ⟨g, g', rfl⟩
theorem sq2 (x : Int) : x ^ 2 = x * x := by rw [Int.pow_succ, Int.pow_succ, Int.pow_zero, Int.one_mul]
theorem S_due_t4 {t b s j h : Int} {x : Str} {r : List D} {c : Nat} {E : End3} {s2 s3 s4 s5 s6 s7 s8 : SV} (i : InC 1000000 t b s j h) (hl : r.length + 1 = 2 ∨ r.length + 1 = 3) (ha : ∀ d ∈ r, L3.isIntB 0 10000000000000 d = true)
    (q1 : FlOk b s j h (.tup (.str x :: r)) → E.rt (.bl true) c) (q2 : ¬ FlOk b s j h (.tup (.str x :: r)) → E.rt (.bl false) c) :
    g_law_is_due_t4 E [.val (cov t b s j h), .val (.tup (.str x :: r)), s2, s3, s4, s5, s6, s7, s8] c := by
  have i3 := i.2.2.1
  have i4 := i.2.2.2.1
  have i5 := i.2.2.2.2
  have i2 := i.2.1
  have gi := gap_in i3 i4 i5
  have iu : InC 10000000 t b s j h := i.up (by decide)
  simp [g_law_is_due_t4, g_law_is_due_t3, g_law_is_due_t2, g_law_is_due_t1]
  by_cases x1 : x = "flat"
  · subst x1
    have go : (if (r.length : Int) + 1 = 2 then match L2.atI (D.str "flat" :: r) 1 with | some d => m_law_can_gap [cov t b s j h, d] c E.rt | none => False else E.rt (D.bl false) c) := by
      by_cases hr : r.length = 1
      · rw [if_pos (by omega)]
        obtain ⟨g, rfl⟩ := len_one hr ha
        exact S_can_gap iu (fun z => q1 (fl_flat.mpr z)) fun z => q2 fun w => z (fl_flat.mp w)
      · rw [if_neg (by omega)]
        exact q2 fun w => hr (fl_flat1 w)
    exact S_greatest iu (fun _ => by rw [if_pos rfl]; exact go) fun _ => by rw [if_pos rfl]; exact go
  by_cases x2 : x = "long"
  · subst x2
    refine S_greatest iu (fun z => ?_) fun z => ?_
    · rw [if_neg (by decide), if_pos rfl]
      have no := q2 fun w => (fl_long.mp w).1 z
      by_cases hr : r.length = 1
      · rw [if_pos (by omega)]
        simp only [Bool.false_eq_true, if_false]
        exact no
      · rw [if_neg (by omega)]
        exact no
    · rw [if_neg (by decide), if_pos rfl]
      by_cases hr : r.length = 1
      · rw [if_pos (by omega), if_pos rfl]
        obtain ⟨g, rfl⟩ := len_one hr ha
        rw [show L2.atI [D.str "long", D.int g] 1 = some (.int g) from rfl]
        refine ⟨ok2, ok2, ?_⟩
        simp only []
        by_cases e : g = s - 2 * j - 2 * h
        · rw [decide_eq_true e]
          exact q1 (fl_long.mpr ⟨z, by rw [e]⟩)
        · rw [decide_eq_false e]
          exact q2 fun w => e (by have := (fl_long.mp w).2; simp at this; exact this)
      · rw [if_neg (by omega)]
        exact q2 fun w => hr (by rw [(fl_long.mp w).2]; rfl)
  by_cases x3 : x = "short"
  · subst x3
    refine S_greatest iu (fun z => ?_) fun z => ?_
    · rw [if_neg (by decide), if_neg (by decide), if_pos rfl]
      by_cases hr : r.length = 2
      · rw [if_pos (by omega)]
        simp only [Bool.false_eq_true, if_false]
        obtain ⟨g, g', rfl⟩ := len_two hr ha
        have cg : CanGap b s j h (gapM s j h) ↔ s * s ≤ gapM s j h * gapM s j h + b * b := ⟨fun w => w.2, fun w => ⟨⟨gi.1, z, Int.le_refl _⟩, w⟩⟩
        refine S_can_gap iu (fun w => ?_) fun w => ?_
        · simp only [if_true]
          exact q2 fun y => (fl_short.mp y).2.1 (cg.mp w)
        · simp only []
          rw [if_neg (by decide), show L2.atI [D.str "short", D.int g, D.int g'] 1 = some (.int g) from rfl]
          simp only []
          by_cases e : g = gapM s j h
          · rw [decide_eq_true e, if_pos rfl, show L2.atI [D.str "short", D.int g, D.int g'] 2 = some (.int g') from rfl]
            simp only []
            refine ⟨by omega, ⟨by decide, .inl ⟨by decide, by omega⟩⟩, by omega, ?_⟩
            simp only [show (2 : Int).toNat = 2 from rfl, sq2]
            by_cases e2 : g' = s * s - gapM s j h * gapM s j h - b * b
            · rw [decide_eq_true e2]
              exact q1 (fl_short.mpr ⟨z, fun y => w (cg.mpr y), by rw [e, e2]⟩)
            · rw [decide_eq_false e2]
              exact q2 fun y => e2 (by have := (fl_short.mp y).2.2; simp at this; exact this.2)
          · rw [decide_eq_false e, if_neg (by decide)]
            exact q2 fun y => e (by have := (fl_short.mp y).2.2; simp at this; exact this.1)
      · rw [if_neg (by omega)]
        exact q2 fun w => hr (by rw [(fl_short.mp w).2.2]; rfl)
    · rw [if_neg (by decide), if_neg (by decide), if_pos rfl]
      have no := q2 fun w => z (fl_short.mp w).1
      by_cases hr : r.length = 2
      · rw [if_pos (by omega), if_pos rfl]
        exact no
      · rw [if_neg (by omega)]
        exact no
  have no := q2 (fl_other x1 x2 x3)
  refine S_greatest iu (fun z => ?_) fun z => ?_ <;> (rw [if_neg x1, if_neg x2, if_neg x3]; exact no)
theorem S_is_due {t b s j h : Int} {d : D} {c : Nat} {Q : KD} (i : InC 1000000 t b s j h) (hd : Vk d) (q1 : FlOk b s j h d → Q (.bl true) c) (q2 : ¬ FlOk b s j h d → Q (.bl false) c) : m_law_is_due [cov t b s j h, d] c Q := by
  obtain ⟨k, hk⟩ := hd.ni
  have i3 := i.2.2.1
  have i4 := i.2.2.2.1
  have i5 := i.2.2.2.2
  have i2 := i.2.1
  have gi := gap_in i3 i4 i5
  have bad : (¬ Told 2 3 d) → Q (.bl false) c := fun n => q2 fun z => n (fl_told i z).1
  refine ⟨rfl, ?_⟩
  cases d with
  | tup v =>
    simp [runM, g_law_is_due, start3, -compL]
    have e2 := eqv_len 2 v.length
    have e3 := eqv_len 3 v.length
    have e2 : eqvD (D.int 2) (D.int (v.length : Int)) = decide (2 = v.length) := e2
    have e3 : eqvD (D.int 3) (D.int (v.length : Int)) = decide (3 = v.length) := e3
    refine ⟨rfl, ⟨pyD_int, rfl⟩, ?_⟩
    by_cases hl : 2 = v.length ∨ 3 = v.length
    · rw [if_neg (by
        rintro ⟨z1, z2⟩
        rw [e2] at z1
        rw [e3] at z2
        rcases hl with w | w
        · exact absurd w (of_decide_eq_false z1)
        · exact absurd w (of_decide_eq_false z2))]
      cases v with
      | nil =>
        exfalso
        simp at hl
      | cons e r =>
        rw [show L2.atI (e :: r) 0 = some e from atI_nat (j := 0) rfl]
        simp only []
        obtain ⟨m, _, hm⟩ := (nice_tup hk).2
        have ne := nice_ty (niceL_mem hm (d := e) (by simp))
        refine ⟨ne, ?_⟩
        by_cases hs : ∃ x, e = .str x
        · obtain ⟨x, rfl⟩ := hs
          simp only [if_true]
          rw [List.length_cons] at hl
          simp [g_law_is_due_t5, -compL]
          rw [cut1]
          refine L3.comp_map (fun d => .bl (L3.isIntB 0 10000000000000 d)) _ _ (fun d hd' K hK => ?_) ?_
          · simp
            exact S_law_is_int (nice_ty (niceL_mem hm (List.mem_cons_of_mem _ hd'))) hK
          · rw [L3.bls_map]
            simp only []
            by_cases ha : ∀ d ∈ r, L3.isIntB 0 10000000000000 d = true
            · rw [if_neg fun z => by
                obtain ⟨d, hd', e⟩ := List.mem_map.mp z
                rw [ha d hd'] at e
                cases e]
              exact S_due_t4 i (by omega) ha q1 q2
            · rw [if_pos (by
                refine Classical.byContradiction fun z => ha fun d hd' => ?_
                cases e : L3.isIntB 0 10000000000000 d with
                | true => rfl
                | false => exact absurd (List.mem_map.mpr ⟨d, hd', e⟩) z)]
              refine q2 fun z => ha fun d hd' => ?_
              obtain ⟨w, rfl, w1, w2⟩ := isInt_inv ((fl_told i z).2 x r rfl d hd')
              exact decide_eq_true (by omega)
        · have q := bad fun ⟨x, r', z, _⟩ => hs ⟨x, (List.cons.inj (D.tup.inj z)).1⟩
          cases e with
          | str x => exact absurd ⟨x, rfl⟩ hs
          | _ => exact q
    · rw [if_pos ⟨by rw [e2]; exact decide_eq_false fun z => hl (.inl z), by rw [e3]; exact decide_eq_false fun z => hl (.inr z)⟩]
      refine bad fun ⟨x, r, z, hz⟩ => hl ?_
      rw [D.tup.inj z, List.length_cons]
      omega
  | ty n' => exact absurd (nice_ty hk) (by simp [tyName])
  | rf a => exact absurd (nice_ty hk) (by simp [tyName])
  | pot => exact absurd (nice_ty hk) (by simp [tyName])
  | exc n' d => exact absurd (nice_ty hk) (by simp [tyName])
  | clo a o => exact absurd (nice_ty hk) (by simp [tyName])
  | scr l => exact absurd (nice_ty hk) (by simp [tyName])
  | lam a F0 p => exact absurd (nice_ty hk) (by simp [tyName])
  | _ =>
    simp [runM, g_law_is_due, start3]
    exact ⟨nice_ty hk, bad fun ⟨x, r, e, _⟩ => by cases e⟩
end Law45

set_option maxHeartbeats 4000000
namespace Law45
open PySem PySem.Spec PyProof.Rows
open L2 hiding FnOk Room
open L3
theorem S_isflat {t b s j h : Int} {c : Nat} {Q : KD} (i : InC 10000000 t b s j h) (q1 : Flat b s j h → Q (.bl true) c) (q2 : ¬ Flat b s j h → Q (.bl false) c) : m_law_is_flat [cov t b s j h] c Q := by
  have i3 := i.2.2.1
  have i4 := i.2.2.2.1
  have i5 := i.2.2.2.2
  have gi := gap_in i3 i4 i5
  refine ⟨rfl, ?_⟩
  simp [runM, g_law_is_flat, start3]
  refine S_greatest i (fun z => ?_) fun z => ?_
  · simp
    refine S_can_gap i (fun w => q1 ⟨z, w.2⟩) fun w => q2 fun f => w (flat_can i3.1 i4.1 i5.1 f)
  · simp
    exact q2 fun f => z f.1
theorem S_least {TT : TLs} {f : D} {c : Nat} {Q : KD} (P : Int → Prop) (hd : TT.dom f) (h : ∀ x : Int, 0 ≤ x → x ≤ 1000000 → ∀ (K : KD) (KX : KXD), (P x → K (.bl true) c) → (¬ P x → K (.bl false) c) → TT.tl f [.int x] c K KX) (q1 : ¬ P 1000000 → Q .non c) (q2 : ∀ r : Int, 0 ≤ r → r ≤ 1000000 → P r → (0 < r → ¬ P (r - 1)) → Q (.int r) c) : m_least_number TT [f, .int 1000000] c Q := by
  refine ⟨rfl, ?_⟩
  simp [runM, g_least_number, start3]
  refine ⟨hd, h 1000000 (by decide) (by decide) _ _ (fun p => ?_) fun np => ?_⟩
  · simp
    refine while_rule (fun ρ c' μ => ∃ lo hi x, ρ = [.val f, .val (.int 1000000), .val (.int lo), .val (.int hi), x] ∧ (x = .no ∨ ∃ d, x = .val d) ∧ c' = c ∧ μ = (hi - lo).toNat ∧ (lo = -1 ∨ (0 ≤ lo ∧ ¬ P lo)) ∧ lo < hi ∧ hi ≤ 1000000 ∧ P hi) (μ := 1000001) ⟨-1, 1000000, .no, rfl, .inl rfl, rfl, rfl, .inl rfl, by decide, by decide, p⟩ ?_
    rintro μ ρ c' ⟨lo, hi, x, rfl, hx, rfl, rfl, hl, h1, h2, h3⟩ N hN
    simp
    by_cases z : 1 < hi - lo
    · rw [if_pos z]
      refine ⟨hd, h _ (by omega) (by omega) _ _ (fun p => ?_) fun np => ?_⟩
      · exact hN _ _ _ (by omega) ⟨lo, (lo + hi) / 2, _, rfl, .inr ⟨_, rfl⟩, rfl, rfl, hl, by omega, by omega, p⟩
      · exact hN _ _ _ (by omega) ⟨(lo + hi) / 2, hi, _, rfl, .inr ⟨_, rfl⟩, rfl, rfl, .inr ⟨by omega, np⟩, by omega, by omega, h3⟩
    · rw [if_neg z]
      have e : lo = hi - 1 := by omega
      refine q2 hi (by omega) h2 h3 fun h0 => ?_
      rcases hl with q | ⟨_, q⟩
      · omega
      · rw [← e]; exact q
  · simp
    exact q1 np
/-- what flatD's first text is -/
theorem flat_first {b s j h : Int} {c : Nat} {K : KD} (k1 : Flat b s j h → K (.bl true) c) (k2 : ¬ Flat b s j h → K (.bl false) c) : ixD (flatD b s j h) (.int 0) c fun x c => eqD x (.str "flat") c K := by
  unfold flatD
  split
  · rename_i z
    split
    · rename_i y
      simp
      exact k1 ⟨z, y⟩
    · rename_i y
      simp
      exact k2 fun f => y f.2
  · rename_i z
    simp
    exact k2 fun f => z f.1
theorem S_hinge {t b s j h : Int} {c : Nat} {Q : KD} {QX : KXD} (i : InC 1000000 t b s j h) (q1 : ¬ Flat b s j 1000000 → Q .non c) (q2 : ∀ r : Int, 0 ≤ r → r ≤ 1000000 → Flat b s j r → (0 < r → ¬ Flat b s j (r - 1)) → Q (.int r) c) : m_least_hinge [cov t b s j h] c Q QX := by
  refine ⟨rfl, fun is => ?_⟩
  simp [g_least_hinge, start3]
  refine S_look i ?_
  intro f o hi here cv hh
  have hf : here f o := hh f o (.inl (by simp))
  refine S_least (TT := tlsG is here cv tab_least_hinge [some (cov t b s j h)]) (f := cv f o) (fun r => Flat b s j r) ⟨0, f, o, hi, hf, rfl⟩ (fun x x0 x1 K KX k1 k2 => ⟨0, f, o, hi, hf, rfl, rfl, ?_⟩) q1 q2
  simp [tab_least_hinge]
  rw [cut4]
  refine ⟨show (4 : Nat) ≤ 16777215 by decide, ?_⟩
  have ii : InC 10000000 t b s j x := by
    obtain ⟨i1, i2, i3, i4, i5⟩ := i
    refine ⟨⟨?_, ?_⟩, ⟨?_, ?_⟩, ⟨?_, ?_⟩, ⟨?_, ?_⟩, ?_, ?_⟩ <;> omega
  exact S_tflat ii (flat_first k1 k2)
theorem flat_first_ne {b s j h : Int} {c : Nat} {K : KD} (k1 : Flat b s j h → K (.bl false) c) (k2 : ¬ Flat b s j h → K (.bl true) c) : ixD (flatD b s j h) (.int 0) c fun x c => neD x (.str "flat") c K := by
  unfold flatD
  split
  · rename_i z
    split
    · rename_i y
      simp
      exact k1 ⟨z, y⟩
    · rename_i y
      simp
      exact k2 fun f => y f.2
  · rename_i z
    simp
    exact k2 fun f => z f.1
/-- the four numbers as spines_for asks them -/
structure Sp (t b j h : Int) : Prop where
  t : 0 ≤ t ∧ t ≤ 1000000
  b : 0 ≤ b ∧ b ≤ 1000000
  j : 0 ≤ j ∧ j ≤ 1000000
  h : 0 ≤ h ∧ h ≤ 1000000
/-- the least spine that closes -/
def low (t b j : Int) : Int := if 2 * j < t + 2 * b then t + 2 * b - 2 * j else 0
theorem S_spines {t b j h : Int} {c : Nat} {Q : KD} {QX : KXD} (p : Sp t b j h) (q1 : ¬ Flat b (low t b j) j h → Q .non c)
    (q2 : ∀ r, Flat b (low t b j) j h → Flat b r j h → low t b j ≤ r → r ≤ t + 2 * b + 2 * j → (r = t + 2 * b + 2 * j ∨ ¬ Flat b (r + 1) j h) → Q (.tup [.int (low t b j), .int r]) c) : m_spines_for [.int t, .int b, .int j, .int h] c Q QX := by
  have t0 := p.t
  have b0 := p.b
  have j0 := p.j
  have h0 := p.h
  refine ⟨rfl, ?_⟩
  simp [g_spines_for, start3]
  rw [show (if 2 * j < t + 2 * b then t + 2 * b - 2 * j else 0) = low t b j from rfl]
  have l0 : 0 ≤ low t b j ∧ low t b j ≤ t + 2 * b + 2 * j := by
    unfold low
    split <;> omega
  have ii : ∀ s : Int, 0 ≤ s → s ≤ 6000000 → InC 10000000 t b s j h := fun s h1 h2 => by
    refine ⟨⟨?_, ?_⟩, ⟨?_, ?_⟩, ⟨?_, ?_⟩, ⟨?_, ?_⟩, ?_, ?_⟩ <;> omega
  generalize low t b j = lw at *
  refine S_int_ok t0.1 t0.2 ?_
  simp
  refine S_int_ok b0.1 b0.2 ?_
  simp
  refine S_int_ok j0.1 j0.2 ?_
  simp
  refine S_int_ok h0.1 h0.2 ?_
  simp
  refine ⟨ok2, ok2, S_tflat (ii lw l0.1 (by omega)) (flat_first_ne (fun f => ?_) fun f => ?_)⟩
  · simp
    refine ⟨ok2, while_rule (fun ρ c' μ => ∃ lo hi x n4, ρ = [.val (.int t), .val (.int b), .val (.int j), .val (.int h), .val n4, .val (.int (t + 2 * b)), .val (.int lw), .val (.int lo), .val (.int hi), x] ∧ (x = .no ∨ ∃ d, x = .val d) ∧ c' = c ∧ μ = (hi - lo).toNat ∧ (hi = t + 2 * b + 2 * j + 1 ∨ ¬ Flat b hi j h) ∧ lw ≤ lo ∧ lo < hi ∧ hi ≤ t + 2 * b + 2 * j + 1 ∧ Flat b lo j h) (μ := (t + 2 * b + 2 * j + 1 - lw).toNat) ⟨lw, _, .no, .int h, rfl, .inl rfl, rfl, rfl, .inl rfl, Int.le_refl _, by omega, Int.le_refl _, f⟩ ?_⟩
    rintro μ ρ c' ⟨lo, hi, x, n4, rfl, hx, rfl, rfl, hh, h1, h2, h3, h4⟩ N hN
    simp
    by_cases z : 1 < hi - lo
    · rw [if_pos z]
      refine S_tflat (ii _ (by omega) (by omega)) (flat_first (fun p => ?_) fun np => ?_)
      · exact hN _ _ _ (by omega) ⟨(lo + hi) / 2, hi, _, n4, rfl, .inr ⟨_, rfl⟩, rfl, rfl, hh, by omega, by omega, h3, p⟩
      · exact hN _ _ _ (by omega) ⟨lo, (lo + hi) / 2, _, n4, rfl, .inr ⟨_, rfl⟩, rfl, rfl, .inr np, h1, by omega, by omega, h4⟩
    · rw [if_neg z]
      have e : hi = lo + 1 := by omega
      subst e
      refine q2 lo f h4 h1 (by omega) ?_
      rcases hh with w | w
      · exact .inl (by omega)
      · exact .inr w
  · simp
    exact q1 f
end Law45

set_option maxHeartbeats 4000000
namespace Law45
open PySem PySem.Spec PyProof.Rows
open L2 hiding FnOk Room
open L3
theorem sq_le {a b : Int} (h0 : 0 ≤ a) (h : a ≤ b) : a * a ≤ b * b := Int.mul_le_mul h h h0 (Int.le_trans h0 h)
theorem flat_mono {b s j h b' s' j' h' : Int} (b0 : 0 ≤ b ∧ 0 ≤ s ∧ 0 ≤ j ∧ 0 ≤ h) (s0 : 0 ≤ s') (l : b ≤ b' ∧ s' ≤ s ∧ j ≤ j' ∧ h ≤ h') (f : Flat b s j h) : Flat b' s' j' h' := by
  obtain ⟨f1, f2⟩ := f
  have e1 := sq_le b0.1 l.1
  have g : s' + 2 * j' < 2 * h' ∨ gapM s' j' h' = 2 * h' := by
    by_cases z : s' + 2 * j' < 2 * h'
    · exact .inl z
    · exact .inr (if_neg z)
  have e3 := sq_le s0 l.2.1
  rcases g with g | g
  · have e2 : gapM s' j' h' = s' + 2 * j' := if_pos g
    have e4 := sq_le s0 (show s' ≤ s' + 2 * j' by omega)
    have e5 : 0 ≤ b' * b' := Int.mul_nonneg (by omega) (by omega)
    exact ⟨by rw [e2]; omega, by rw [e2]; omega⟩
  · have e0 : gapM s j h ≤ 2 * h := by
      unfold gapM
      split <;> omega
    have e6 : 0 ≤ gapM s j h := by
      unfold gapM
      split <;> omega
    have e7 := sq_le e6 (show gapM s j h ≤ 2 * h' by omega)
    exact ⟨by rw [g]; omega, by rw [g]; omega⟩
end Law45

set_option maxHeartbeats 4000000
namespace Law45
open PySem PySem.Spec PyProof.Rows
open L2 hiding FnOk Room
open L3
def Cl (t b s j : Int) : Prop := ¬ s + 2 * j < t + 2 * b ∧ ¬ t + 2 * b + 2 * j < s
theorem cls_eqv {t b s j : Int} : (Cl t b s j ∧ eqvD (clsD t b s j) (.tup [.str "closes"]) = true) ∨ (¬ Cl t b s j ∧ eqvD (clsD t b s j) (.tup [.str "closes"]) = false) := by
  have ei := eqvD_iff (x := clsD t b s j) (y := .tup [.str "closes"]) cls_nb rfl
  by_cases h : Cl t b s j
  · refine .inl ⟨h, ei.mpr ?_⟩
    unfold clsD
    rw [if_neg h.1, if_neg h.2]
  · refine .inr ⟨h, ?_⟩
    cases e : eqvD (clsD t b s j) (.tup [.str "closes"]) with
    | false => rfl
    | true =>
      have e := ei.mp e
      exfalso
      unfold clsD at e
      split at e
      · cases e
      · rename_i z
        split at e
        · cases e
        · rename_i y
          exact h ⟨z, y⟩
theorem cl_py : pyD 64 (.tup [.str "closes"]) = true := by unfold pyD; decide +kernel
theorem low_cl {t b s j : Int} (s0 : 0 ≤ s) (j0 : 0 ≤ j) : Cl t b s j ↔ low t b j ≤ s ∧ s ≤ t + 2 * b + 2 * j := by
  unfold Cl low
  split <;> omega
theorem flat_down {b s s' j h : Int} (b0 : 0 ≤ b) (j0 : 0 ≤ j) (h0 : 0 ≤ h) (s0 : 0 ≤ s') (l : s' ≤ s) (f : Flat b s j h) : Flat b s' j h :=
  flat_mono ⟨b0, by omega, j0, h0⟩ s0 ⟨Int.le_refl _, l, Int.le_refl _, Int.le_refl _⟩ f
abbrev eB2 (t b s j h : Int) (d : D) (s8 s9 : SV) : Env3 := [.val (cov t b s j h), .val d, .val (.int t), .val (.int b), .val (.int s), .val (.int j), .val (.int h), .val (.int (t + 2 * b)), s8, s9]
theorem S_lr5 {t b s j h : Int} {c : Nat} {E : End3} {s8 s9 : SV} (p : Sp t b j h) (nf : ¬ Flat b (low t b j) j h) (q : E.rt (.bl true) c) :
    g_law_are_least_right_t5 E (eB2 t b s j h .non s8 s9) c := by
  have t0 := p.t
  have b0 := p.b
  have j0 := p.j
  have h0 := p.h
  simp [g_law_are_least_right_t5, g_law_are_least_right_t4, eB2, -forL]
  have low0 : 0 ≤ low t b j := by unfold low; split <;> omega
  by_cases z : 300 < t + 2 * b
  · rw [if_pos z]
    exact q
  rw [if_neg z]
  have mb : 0 ≤ (if 300 < j then 300 else j) ∧ (if 300 < j then 300 else j) ≤ 300 := by split <;> omega
  generalize (if 300 < j then 300 else j) = m at *
  refine ⟨ok2, ⟨by omega, by omega⟩, ?_⟩
  refine for_rule (I := fun rr ρ c' => c' = c ∧ (∀ d ∈ rr, ∃ o : Int, d = .int o ∧ 0 ≤ o ∧ o ≤ 1000) ∧ ∃ s8 s9, ρ = eB2 t b s j h .non s8 s9) ?_ ?_ _ _ _ ⟨rfl, fun d hd => ?_, s8, s9, rfl⟩
  · rintro d rr ρ c' ⟨rfl, hd, s8, s9, rfl⟩ M hM
    obtain ⟨o, rfl, o0, o1⟩ := hd d List.mem_cons_self
    have nx := fun s8 s9 => hM _ _ ⟨rfl, fun d hd' => hd d (List.mem_cons_of_mem _ hd'), s8, s9, rfl⟩
    simp [eB2]
    refine S_lcloses ⟨⟨cls_py, cl_py⟩, ?_⟩
    rcases cls_eqv (t := t) (b := b) (s := o) (j := j) with ⟨cl, e⟩ | ⟨cl, e⟩
    · rw [e, if_pos rfl]
      have ii : InC 10000000 t b o j h := by refine ⟨⟨?_, ?_⟩, ⟨?_, ?_⟩, ⟨?_, ?_⟩, ⟨?_, ?_⟩, ?_, ?_⟩ <;> omega
      refine S_isflat ii (fun f => ?_) fun f => ?_
      · exact absurd (flat_down b0.1 j0.1 h0.1 low0 ((low_cl o0 j0.1).mp cl).1 f) nf
      · simp
        exact nx _ _
    · rw [e, if_neg (by decide)]
      exact nx _ _
  · rintro ρ c' ⟨rfl, _, s8, s9, rfl⟩
    simp [g_law_are_least_right_t3, eB2]
    exact q
  · obtain ⟨k, hk, rfl⟩ := mem_rangeL hd
    exact ⟨_, rfl, by omega, by omega⟩
theorem S_lr2 {t b s j h r : Int} {c : Nat} {E : End3} {s8 s9 : SV} (p : Sp t b j h) (r0 : low t b j ≤ r) (r1 : r ≤ t + 2 * b + 2 * j) (hr : r = t + 2 * b + 2 * j ∨ ¬ Flat b (r + 1) j h) (q : E.rt (.bl true) c) :
    g_law_are_least_right_t2 E (eB2 t b s j h (.tup [.int (low t b j), .int r]) s8 s9) c := by
  have t0 := p.t
  have b0 := p.b
  have j0 := p.j
  have h0 := p.h
  have low0 : 0 ≤ low t b j ∧ low t b j ≤ 3000000 := by unfold low; split <;> omega
  have lowj : low t b j - 1 < 0 ∨ low t b j = t + 2 * b - 2 * j := by unfold low; split <;> omega
  simp [g_law_are_least_right_t2, eB2, -forL]
  refine for_rule (I := fun rr ρ c' => c' = c ∧ (∀ d ∈ rr, ∃ o : Int, d = .int o ∧ o ≤ 6000000 ∧ (0 ≤ o → Cl t b o j → ¬ Flat b o j h)) ∧ ∃ s8 s9, ρ = eB2 t b s j h (.tup [.int (low t b j), .int r]) s8 s9) ?_ ?_ _ _ _ ⟨rfl, fun d hd => ?_, s8, s9, rfl⟩
  · rintro d rr ρ c' ⟨rfl, hd, s8, s9, rfl⟩ M hM
    obtain ⟨o, rfl, o1, o2⟩ := hd d List.mem_cons_self
    have nx := fun s8 s9 => hM _ _ ⟨rfl, fun d hd' => hd d (List.mem_cons_of_mem _ hd'), s8, s9, rfl⟩
    simp [eB2]
    by_cases oz : 0 ≤ o
    · rw [if_pos oz]
      refine S_lcloses ⟨⟨cls_py, cl_py⟩, ?_⟩
      rcases cls_eqv (t := t) (b := b) (s := o) (j := j) with ⟨cl, e⟩ | ⟨cl, e⟩
      · rw [e, if_pos rfl]
        have ii : InC 10000000 t b o j h := by refine ⟨⟨?_, ?_⟩, ⟨?_, ?_⟩, ⟨?_, ?_⟩, ⟨?_, ?_⟩, ?_, ?_⟩ <;> omega
        refine S_isflat ii (fun f => ?_) fun f => ?_
        · exact absurd f (o2 oz cl)
        · simp
          exact nx _ _
      · rw [e, if_neg (by decide)]
        exact nx _ _
    · rw [if_neg oz]
      exact nx _ _
  · rintro ρ c' ⟨rfl, _, s8, s9, rfl⟩
    simp [g_law_are_least_right_t1, eB2]
    exact q
  · simp only [List.mem_cons, List.not_mem_nil, or_false] at hd
    rcases hd with rfl | rfl
    · refine ⟨_, rfl, by omega, fun o0 cl => ?_⟩
      have := (low_cl o0 j0.1).mp cl
      omega
    · refine ⟨_, rfl, by omega, fun o0 cl => ?_⟩
      have := (low_cl o0 j0.1).mp cl
      rcases hr with hr | hr
      · omega
      · exact hr
end Law45

set_option maxHeartbeats 4000000
namespace Law45
open PySem PySem.Spec PyProof.Rows
open L2 hiding FnOk Room
open L3
theorem InC.sp {t b s j h : Int} (i : InC 1000000 t b s j h) : Sp t b j h := ⟨i.1, i.2.1, i.2.2.2.1, i.2.2.2.2⟩
theorem S_lr6 {t b s j h : Int} {c : Nat} {E : End3} {s1 s2 s3 s4 s5 s6 s7 s8 s9 : SV} (i : InC 1000000 t b s j h) (q : E.rt (.bl true) c) :
    g_law_are_least_right_t6 E [.val (cov t b s j h), s1, s2, s3, s4, s5, s6, s7, s8, s9] c := by
  have p := i.sp
  have t0 := p.t
  have b0 := p.b
  have j0 := p.j
  have h0 := p.h
  have low0 : 0 ≤ low t b j ∧ low t b j ≤ 3000000 := by unfold low; split <;> omega
  simp [g_law_are_least_right_t6, -forL]
  refine S_spines p (fun nf => ?_) fun r fl fr r0 r1 hr => ?_
  · refine ⟨ok2, ?_⟩
    simp
    exact S_lr5 p nf q
  · refine ⟨ok2, ?_⟩
    simp [-forL]
    refine for_rule (I := fun rr ρ c' => c' = c ∧ (∀ d ∈ rr, ∃ o : Int, d = .int o ∧ 0 ≤ o ∧ o ≤ 6000000 ∧ Cl t b o j ∧ Flat b o j h) ∧ ∃ s8 s9, ρ = eB2 t b s j h (.tup [.int (low t b j), .int r]) s8 s9) ?_ ?_ _ _ _ ⟨rfl, fun d hd => ?_, s8, s9, rfl⟩
    · rintro d rr ρ c' ⟨rfl, hd, s8, s9, rfl⟩ M hM
      obtain ⟨o, rfl, o0, o1, cl, f⟩ := hd d List.mem_cons_self
      have nx := fun s8 s9 => hM _ _ ⟨rfl, fun d hd' => hd d (List.mem_cons_of_mem _ hd'), s8, s9, rfl⟩
      simp [eB2]
      refine S_lcloses ⟨⟨cls_py, cl_py⟩, ?_⟩
      rcases cls_eqv (t := t) (b := b) (s := o) (j := j) with ⟨_, e⟩ | ⟨ncl, e⟩
      · rw [e]
        have ii : InC 10000000 t b o j h := by refine ⟨⟨?_, ?_⟩, ⟨?_, ?_⟩, ⟨?_, ?_⟩, ⟨?_, ?_⟩, ?_, ?_⟩ <;> omega
        simp
        refine S_isflat ii (fun _ => ?_) fun nf => absurd f nf
        simp
        exact nx _ _
      · exact absurd cl ncl
    · rintro ρ c' ⟨rfl, _, s8, s9, rfl⟩
      exact S_lr2 p r0 r1 hr q
    · simp only [List.mem_cons, List.not_mem_nil, or_false] at hd
      have key : ∀ o : Int, low t b j ≤ o → o ≤ r → 0 ≤ o ∧ o ≤ 6000000 ∧ Cl t b o j ∧ Flat b o j h := fun o o0 o1 => by
        refine ⟨by omega, by omega, (low_cl (by omega) j0.1).mpr ⟨o0, by omega⟩, flat_down b0.1 j0.1 h0.1 (by omega) o1 fr⟩
      rcases hd with rfl | rfl | rfl
      · exact ⟨_, rfl, key _ (Int.le_refl _) r0⟩
      · exact ⟨_, rfl, key _ r0 (Int.le_refl _)⟩
      · exact ⟨_, rfl, key _ (by omega) (by omega)⟩
theorem S_least_right {t b s j h : Int} {c : Nat} {Q : KD} (i : InC 1000000 t b s j h) (q : Q (.bl true) c) : m_law_are_least_right [cov t b s j h] c Q := by
  refine ⟨rfl, ?_⟩
  have ii : ∀ x : Int, 0 ≤ x → x ≤ 1000000 → InC 10000000 t b s j x := fun x x0 x1 => by
    obtain ⟨i1, i2, i3, i4, i5⟩ := i
    refine ⟨⟨?_, ?_⟩, ⟨?_, ?_⟩, ⟨?_, ?_⟩, ⟨?_, ?_⟩, ?_, ?_⟩ <;> omega
  simp [runM, g_law_are_least_right, start3]
  refine S_hinge i (fun nf => ?_) fun r r0 r1 f nf => ?_
  · simp
    rw [cut4]
    refine ⟨show (4 : Nat) ≤ 16777215 by decide, ?_⟩
    exact S_isflat (ii 1000000 (by decide) (by decide)) (fun f => absurd f nf) fun _ => S_lr6 i q
  · simp
    rw [cut4]
    refine ⟨show (4 : Nat) ≤ 16777215 by decide, S_isflat (ii r r0 r1) (fun _ => ?_) fun n => absurd f n⟩
    simp only [if_true]
    by_cases hr : 0 < r
    · rw [if_pos hr]
      refine ⟨show (4 : Nat) ≤ 16777215 by decide, S_isflat (ii (r - 1) (by omega) (by omega)) (fun f => absurd f (nf hr)) fun _ => ?_⟩
      simp only [Bool.false_eq_true, if_false]
      exact S_lr6 i q
    · rw [if_neg hr]
      exact S_lr6 i q
end Law45

set_option maxHeartbeats 4000000
namespace Law45
open PySem PySem.Spec PyProof.Rows
open L2 hiding FnOk Room
open L3
/-! ### what is refused -/
def BadC (d : D) : Prop := tyAll d = true ∧ (areIntsB 0 1000000 d = false ∨ ∃ vs : List Int, d = .tup (vs.map .int) ∧ (∀ v ∈ vs, 0 ≤ v ∧ v ≤ 1000000) ∧ vs.length ≠ 5)
theorem S_bad_look {d : D} {c : Nat} {Q : KD} {QX : KXD} (h : BadC d) (q : QX "BadCover" d c) : m_look_at_cover [d] c Q QX := by
  obtain ⟨h0, h⟩ := h
  refine ⟨rfl, ?_⟩
  simp [g_look_at_cover, start3]
  refine ⟨rfl, ?_⟩
  simp [runM, g_is_cover, start3]
  rcases h with h | ⟨vs, rfl, hv, hl⟩
  · refine S_are_ints h0 ?_
    rw [h]
    simp
    exact q
  · refine S_ints_ok hv ?_
    simp
    rw [if_neg (by omega)]
    exact q
theorem S_bad_closes {d : D} {c : Nat} {Q : KD} {QX : KXD} (h : BadC d) (q : QX "BadCover" d c) : m_closes [d] c Q QX := by
  refine ⟨rfl, ?_⟩
  simp [g_closes, start3]
  exact S_bad_look h q
theorem S_bad_sc {d e : D} {c : Nat} {Q : KD} {QX : KXD} (h : BadC d) (q : QX "BadCover" d c) : m_shows_closes [d, e] c Q QX := by
  refine ⟨rfl, ?_⟩
  simp [g_shows_closes, start3, -compL]
  exact S_bad_look h q
theorem S_bad_opens {d : D} {c : Nat} {Q : KD} {QX : KXD} (h : BadC d) (q : QX "BadCover" d c) : m_opens_flat [d] c Q QX := by
  refine ⟨rfl, ?_⟩
  simp [g_opens_flat, start3]
  exact S_bad_look h q
theorem S_bad_so {d e : D} {c : Nat} {Q : KD} {QX : KXD} (h : BadC d) (q : QX "BadCover" d c) : m_shows_opens_flat [d, e] c Q QX := by
  refine ⟨rfl, ?_⟩
  simp [g_shows_opens_flat, start3, -compL]
  exact S_bad_look h q
theorem S_bad_lh {d : D} {c : Nat} {Q : KD} {QX : KXD} (h : BadC d) (q : QX "BadCover" d c) : m_least_hinge [d] c Q QX := by
  refine ⟨rfl, fun is => ?_⟩
  simp [g_least_hinge, start3]
  exact S_bad_look h q
theorem one_ok : (0 : Int) ≤ 1 ∧ (1 : Int) ≤ 1000000 := by decide
theorem S_bad_sp1 {d x y z : D} {c : Nat} {Q : KD} {QX : KXD} (hd : (tyName d).isSome = true) (hb : isIntB 0 1000000 d = false) (q : QX "BadInt" d c) : m_spines_for [d, x, y, z] c Q QX := by
  refine ⟨rfl, ?_⟩
  simp [g_spines_for, start3]
  refine S_is_int hd ?_
  rw [hb]
  simp
  exact q
theorem S_bad_sp2 {d y z : D} {c : Nat} {Q : KD} {QX : KXD} (hd : (tyName d).isSome = true) (hb : isIntB 0 1000000 d = false) (q : QX "BadInt" d c) : m_spines_for [.int 1, d, y, z] c Q QX := by
  refine ⟨rfl, ?_⟩
  simp [g_spines_for, start3]
  refine S_int_ok one_ok.1 one_ok.2 ?_
  simp
  refine S_is_int hd ?_
  rw [hb]
  simp
  exact q
theorem S_bad_sp3 {d z : D} {c : Nat} {Q : KD} {QX : KXD} (hd : (tyName d).isSome = true) (hb : isIntB 0 1000000 d = false) (q : QX "BadInt" d c) : m_spines_for [.int 1, .int 1, d, z] c Q QX := by
  refine ⟨rfl, ?_⟩
  simp [g_spines_for, start3]
  refine S_int_ok one_ok.1 one_ok.2 ?_
  simp
  refine S_int_ok one_ok.1 one_ok.2 ?_
  simp
  refine S_is_int hd ?_
  rw [hb]
  simp
  exact q
theorem S_bad_sp4 {d : D} {c : Nat} {Q : KD} {QX : KXD} (hd : (tyName d).isSome = true) (hb : isIntB 0 1000000 d = false) (q : QX "BadInt" d c) : m_spines_for [.int 1, .int 1, .int 1, d] c Q QX := by
  refine ⟨rfl, ?_⟩
  simp [g_spines_for, start3]
  refine S_int_ok one_ok.1 one_ok.2 ?_
  simp
  refine S_int_ok one_ok.1 one_ok.2 ?_
  simp
  refine S_int_ok one_ok.1 one_ok.2 ?_
  simp
  refine S_is_int hd ?_
  rw [hb]
  simp
  exact q
/-! ### the law's hearing of them -/
/-- a call of nothing that ends in an error -/
def Ref (tab : Nat → Nat × FEX) (j : Nat) (R : Rho) (n : Str) (v : D) : Prop := (tab j).1 = 0 ∧ ∀ c (Q : KD) (QX : KXD), QX n v c → (tab j).2 R c Q QX
theorem S_hear2 {is : Nat → Obj → Prop} {here : Addr → Obj → Prop} {cv : Addr → Obj → D} {tab : Nat → Nat × FEX} {R : Rho} {j : Nat} {f : Addr} {o : Obj} {n : Str} {v : D} {c : Nat} {Q : KD} (hi : is j o) (hh : here f o) (hr : Ref tab j R n v) (hn : errs.contains n = true) (q : Q (.tup [.exc n v, .non]) c) :
    m_law_heard (tlsG is here cv tab R) [cv f o] c Q := by
  refine S_heard ⟨j, f, o, hi, hh, rfl⟩ ⟨j, f, o, hi, hh, rfl, hr.1, ?_⟩
  rw [List.map_nil, List.append_nil]
  exact hr.2 _ _ _ ⟨hn, q⟩
abbrev askD (t : Nat × Addr × Obj) : D := .clo t.2.1 t.2.2
theorem show_of {d : D} (h : okD 5 d = true) (hz : szD d ≤ 300000) : ∃ y, ShowP d y := show_small h (by decide) hz
end Law45

set_option maxHeartbeats 4000000
namespace Law45
open PySem PySem.Spec PyProof.Rows
open L2 hiding FnOk Room
open L3
abbrev R1 (x1 x2 : Option D) (d : D) (r : Rho) : Rho := some .pot :: x1 :: x2 :: some d :: r
theorem S_ref_t1 {is : Nat → Obj → Prop} {c : Nat} {E : End3} {d1 d2 : D} {s3 s4 s5 s6 s7 : SV} (hc : c < 998000) (q : ∀ c', c' ≤ c + 20 → E.rt (.bl true) c') :
    g_law_are_refused_t1 is E [.val .pot, .val d1, .val d2, s3, s4, s5, s6, s7] c := by
  simp [g_law_are_refused_t1, -compL]
  refine S_law_of (by simp) (by simp) (by omega) fun d hd => ?_
  intro f5 o5 h5 f6 o6 h6 f7 o7 h7 f8 o8 h8
  have hb : (tyName d).isSome = true ∧ isIntB 0 1000000 d = false ∧ okD 5 d = true ∧ szD d ≤ 300000 := by
    simp only [List.mem_cons, List.not_mem_nil, or_false] at hd
    rcases hd with rfl | rfl | rfl | rfl | rfl | rfl
    · exact ⟨by decide, by decide, by decide, by simp [szD]⟩
    · exact ⟨by decide, by decide, by decide, by simp [szD]⟩
    · exact ⟨by decide, by decide, by decide, by simp [szD]⟩
    · exact ⟨by decide, by decide, by decide, by simp [szD]⟩
    · exact ⟨by decide, by decide, by decide +kernel, by simp [szD]⟩
    · exact ⟨by decide, by decide, by decide, by simp [szD, szL]⟩
  obtain ⟨b1, b2, b5, b6⟩ := hb
  obtain ⟨y, hy⟩ := show_of b5 b6
  refine comp_mapG (α := Nat × Addr × Obj) askD (fun _ => .exc "BadInt" d) [(5, f5, o5), (6, f6, o6), (7, f7, o7), (8, f8, o8)] _ (fun t ht K hK => ?_) ?_
  · have key : is t.1 t.2.2 ∧ ∀ (x1 x2 : Option D) (r : Rho), Ref tab_law_are_refused t.1 (R1 x1 x2 d r) "BadInt" d := by
      simp only [List.mem_cons, List.not_mem_nil, or_false] at ht
      rcases ht with rfl | rfl | rfl | rfl
      · refine ⟨h5, fun x1 x2 r => ⟨rfl, fun c Q QX q => ?_⟩⟩
        simp [tab_law_are_refused]
        exact S_bad_sp1 b1 b2 q
      · refine ⟨h6, fun x1 x2 r => ⟨rfl, fun c Q QX q => ?_⟩⟩
        simp [tab_law_are_refused]
        exact S_bad_sp2 b1 b2 q
      · refine ⟨h7, fun x1 x2 r => ⟨rfl, fun c Q QX q => ?_⟩⟩
        simp [tab_law_are_refused]
        exact S_bad_sp3 b1 b2 q
      · refine ⟨h8, fun x1 x2 r => ⟨rfl, fun c Q QX q => ?_⟩⟩
        simp [tab_law_are_refused]
        exact S_bad_sp4 b1 b2 q
    simp
    intro here cv hh
    refine S_hear2 (n := "BadInt") (v := d) key.1 hh (key.2 _ _ _) (by decide) ?_
    simp
    exact hK
  · refine comp_mapG (α := Nat × Addr × Obj) (fun _ => .exc "BadInt" d) (fun _ => .bl true) [(5, f5, o5), (6, f6, o6), (7, f7, o7), (8, f8, o8)] _ (fun t ht K hK => ?_) ?_
    · simp
      refine ⟨by decide, y, hy, y, hy, ?_⟩
      simp
      exact hK
    · simp
      exact q _ (by omega)
theorem cut_1 (a b c d e : D) : L3.cutD [a, b, c, d, e] (some 1) none = [b, c, d, e] := rfl
theorem S_refused {t b s j h : Int} {c : Nat} {Q : KD} (i : InC 1000000 t b s j h) (hc : c < 990000) (q : ∀ c', c' ≤ c + 50 → Q (.bl true) c') : m_law_are_refused [.pot, cov t b s j h] c Q := by
  refine ⟨rfl, fun is => ?_⟩
  simp [runM, g_law_are_refused, start3, -compL]
  rw [cut4, cut_1]
  refine ⟨show 1 + 4 ≤ 16777216 by decide, S_law_of (by simp) (by simp) (by omega) fun d hd => ?_⟩
  intro f0 o0 h0 f1 o1 h1 f2 o2 h2 f3 o3 h3 f4 o4 h4
  have hb : BadC d ∧ okD 5 d = true ∧ szD d ≤ 300000 := by
    obtain ⟨i1, i2, i3, i4, i5⟩ := i
    have ok : ∀ x : Int, 0 ≤ x ∧ x ≤ 1000000 → okD 4 (.int x) = true := fun x hx => okD_int (by omega)
    have isf : ∀ (x : D) (r : List D), isIntB 0 1000000 x = false → areIntsB 0 1000000 (.tup (x :: r)) = false := fun x r hx => areInts_not.mpr ⟨x, List.mem_cons_self, hx⟩
    simp only [List.mem_cons, List.not_mem_nil, or_false] at hd
    rcases hd with rfl | rfl | rfl | rfl | rfl | rfl | rfl | rfl
    · exact ⟨⟨rfl, .inl rfl⟩, rfl, by simp [szD]⟩
    · exact ⟨⟨rfl, .inr ⟨[], rfl, by simp, by decide⟩⟩, rfl, by simp [szD, szL]⟩
    · refine ⟨⟨rfl, .inr ⟨[t, b, s, j], rfl, fun v hv => ?_, by simp⟩⟩, okD_tup fun d hd => ?_, by simp [szD, szL]⟩
      · simp only [List.mem_cons, List.not_mem_nil, or_false] at hv
        rcases hv with rfl | rfl | rfl | rfl <;> assumption
      · simp only [List.mem_cons, List.not_mem_nil, or_false] at hd
        rcases hd with rfl | rfl | rfl | rfl <;> (refine ok _ ?_; assumption)
    · refine ⟨⟨rfl, .inr ⟨[t, b, s, j, h, 0], rfl, fun v hv => ?_, by simp⟩⟩, okD_tup fun d hd => ?_, by simp [szD, szL]⟩
      · simp only [List.mem_cons, List.not_mem_nil, or_false] at hv
        rcases hv with rfl | rfl | rfl | rfl | rfl | rfl <;> first | assumption | decide
      · simp only [List.mem_cons, List.not_mem_nil, or_false] at hd
        rcases hd with rfl | rfl | rfl | rfl | rfl | rfl <;> (refine ok _ ?_; first | assumption | decide)
    · refine ⟨⟨rfl, .inl rfl⟩, okD_lst fun d hd => ?_, by simp [szD, szL]⟩
      simp only [List.mem_cons, List.not_mem_nil, or_false] at hd
      rcases hd with rfl | rfl | rfl | rfl | rfl <;> (refine ok _ ?_; assumption)
    · refine ⟨⟨rfl, .inl (isf _ _ (by decide))⟩, okD_tup fun d hd => ?_, by simp [szD, szL]⟩
      simp only [List.mem_cons, List.not_mem_nil, or_false] at hd
      rcases hd with rfl | rfl | rfl | rfl | rfl <;> first | exact okD_int (by decide) | (refine ok _ ?_; assumption)
    · refine ⟨⟨rfl, .inl (isf _ _ (by decide))⟩, okD_tup fun d hd => ?_, by simp [szD, szL]⟩
      simp only [List.mem_cons, List.not_mem_nil, or_false] at hd
      rcases hd with rfl | rfl | rfl | rfl | rfl <;> first | exact okD_int (by decide) | (refine ok _ ?_; assumption)
    · refine ⟨⟨rfl, .inl (isf _ _ rfl)⟩, okD_tup fun d hd => ?_, by simp [szD, szL]⟩
      simp only [List.mem_cons, List.not_mem_nil, or_false] at hd
      rcases hd with rfl | rfl | rfl | rfl | rfl <;> first | (refine ok _ ?_; assumption) | rfl
  obtain ⟨b1, b5, b6⟩ := hb
  obtain ⟨y, hy⟩ := show_of b5 b6
  refine comp_mapG (α := Nat × Addr × Obj) askD (fun _ => .exc "BadCover" d) [(0, f0, o0), (1, f1, o1), (2, f2, o2), (3, f3, o3), (4, f4, o4)] _ (fun t ht K hK => ?_) ?_
  · have key : is t.1 t.2.2 ∧ ∀ (x1 x2 : Option D) (r : Rho), Ref tab_law_are_refused t.1 (R1 x1 x2 d r) "BadCover" d := by
      simp only [List.mem_cons, List.not_mem_nil, or_false] at ht
      rcases ht with rfl | rfl | rfl | rfl | rfl
      · refine ⟨h0, fun x1 x2 r => ⟨rfl, fun c Q QX q => ?_⟩⟩
        simp [tab_law_are_refused]
        exact S_bad_closes b1 q
      · refine ⟨h1, fun x1 x2 r => ⟨rfl, fun c Q QX q => ?_⟩⟩
        simp [tab_law_are_refused]
        exact S_bad_sc b1 q
      · refine ⟨h2, fun x1 x2 r => ⟨rfl, fun c Q QX q => ?_⟩⟩
        simp [tab_law_are_refused]
        exact S_bad_opens b1 q
      · refine ⟨h3, fun x1 x2 r => ⟨rfl, fun c Q QX q => ?_⟩⟩
        simp [tab_law_are_refused]
        exact S_bad_so b1 q
      · refine ⟨h4, fun x1 x2 r => ⟨rfl, fun c Q QX q => ?_⟩⟩
        simp [tab_law_are_refused]
        exact S_bad_lh b1 q
    simp
    intro here cv hh
    refine S_hear2 (n := "BadCover") (v := d) key.1 hh (key.2 _ _ _) (by decide) ?_
    simp
    exact hK
  · refine comp_mapG (α := Nat × Addr × Obj) (fun _ => .exc "BadCover" d) (fun _ => .bl true) [(0, f0, o0), (1, f1, o1), (2, f2, o2), (3, f3, o3), (4, f4, o4)] _ (fun t ht K hK => ?_) ?_
    · simp
      refine ⟨by decide, y, hy, y, hy, ?_⟩
      simp
      exact hK
    · simp
      exact S_ref_t1 (by omega) fun c' hc' => q c' (by omega)
end Law45

set_option maxHeartbeats 4000000
namespace Law45
open PySem PySem.Spec PyProof.Rows
open L2 hiding FnOk Room
open L3
theorem ints_drawn {m : Int} : ∀ {ys : List D}, (∀ y ∈ ys, ∃ d : Int, y = .int d ∧ 0 ≤ d ∧ d ≤ m) → ∃ ds : List Int, ys = ds.map .int ∧ ∀ d ∈ ds, 0 ≤ d ∧ d ≤ m
  | [], _ => ⟨[], rfl, fun _ h => absurd h List.not_mem_nil⟩
  | y :: ys, h => by
    obtain ⟨d, rfl, h1, h2⟩ := h y List.mem_cons_self
    obtain ⟨ds, rfl, h3⟩ := ints_drawn fun z hz => h z (List.mem_cons_of_mem _ hz)
    refine ⟨d :: ds, rfl, fun z hz => ?_⟩
    rcases List.mem_cons.mp hz with e | e
    · rw [e]; exact ⟨h1, h2⟩
    · exact h3 z e
theorem S_drawn {c : Nat} {Q : KD} (hc : c < 900000) (q : ∀ t b s j h c', InC 1000000 t b s j h → c' ≤ c + 20 → Q (cov t b s j h) c') : m_law_cover_drawn [.pot] c Q := by
  refine ⟨rfl, ?_⟩
  simp [runM, g_law_cover_drawn, start3, -compL]
  refine S_law_of (by simp) (by simp) (by omega) fun d hd => ?_
  obtain ⟨u, rfl, u0, u1⟩ : ∃ u : Int, d = .int u ∧ 6 ≤ u ∧ u ≤ 1000000 := by
    simp only [List.mem_cons, List.not_mem_nil, or_false] at hd
    rcases hd with rfl | rfl | rfl
    · exact ⟨_, rfl, by decide, by decide⟩
    · exact ⟨_, rfl, by decide, by decide⟩
    · exact ⟨_, rfl, by decide, by decide⟩
  refine comp_rule (fun y => ∃ x : Int, y = D.int x ∧ 0 ≤ x ∧ x ≤ 1000000) 1 950000 _ _ _ (fun d hd c K hC hK => ?_) (by simp [rangeL]; omega) fun ys hy hP => ?_
  · simp
    refine S_take (by omega) (by omega) (by omega) fun a a0 a1 => ?_
    exact hK _ ⟨_, rfl, by omega, by omega⟩
  · have hrl : (rangeL 0 5).length = 5 := by simp [rangeL]
    rw [hrl] at hy ⊢
    obtain ⟨ds, rfl, hds⟩ := ints_drawn hP
    rw [List.length_map] at hy
    obtain ⟨t, b, s, j, h, rfl⟩ : ∃ a b e f g, ds = [a, b, e, f, g] := by
      match ds, hy with
      | [a, b, e, f, g], _ => exact ⟨a, b, e, f, g, rfl⟩
    have i : InC 1000000 t b s j h := ⟨hds t (by simp), hds b (by simp), hds s (by simp), hds j (by simp), hds h (by simp)⟩
    refine S_take (by decide) (by decide) (by omega) fun a a0 a1 => ?_
    simp
    by_cases az : a = 0
    · rw [if_pos az]
      refine S_law_of (by simp) (by simp) (by omega) fun d hd => ?_
      obtain ⟨x, y, z, rfl, x0, y0, z0⟩ : ∃ x y z : Int, d = .tup [.int x, .int y, .int z] ∧ (0 ≤ x ∧ x ≤ 100) ∧ (0 ≤ y ∧ y ≤ 100) ∧ (1 ≤ z ∧ z ≤ 100) := by
        simp only [List.mem_cons, List.not_mem_nil, or_false] at hd
        rcases hd with rfl | rfl | rfl | rfl | rfl <;> exact ⟨_, _, _, rfl, by decide, by decide, by decide⟩
      simp
      refine S_take (by decide) (by decide) (by omega) fun w w0 w1 => ?_
      simp
      refine ⟨rfl, rfl, rfl, q _ _ _ _ _ _ ?_ (by omega)⟩
      obtain ⟨i1, i2, i3, i4, i5⟩ := i
      refine ⟨⟨?_, ?_⟩, ⟨?_, ?_⟩, ⟨?_, ?_⟩, ⟨?_, ?_⟩, ?_, ?_⟩ <;> omega
    · rw [if_neg az]
      exact q _ _ _ _ _ _ i (by omega)
end Law45

set_option maxHeartbeats 4000000
namespace Law45
open PySem PySem.Spec PyProof.Rows
open L2 hiding FnOk Room
open L3
/-! ### the law's laps -/
abbrev rA (t b s j h : Int) (s1 s3 s4 s5 s6 s7 s8 s9 : SV) : Env3 := [.val .pot, s1, .val (cov t b s j h), s3, s4, s5, s6, s7, s8, s9]
def Nx (E : End3) (c k : Nat) : Prop := ∀ c' s1 s2 s3 s4 s5 s6 s7 s8 s9, c' ≤ c + k → E.nx [.val .pot, s1, s2, s3, s4, s5, s6, s7, s8, s9] c'
theorem Nx.mono {E : End3} {c c' k k' : Nat} (h : Nx E c k) (hc : c' + k' ≤ c + k) : Nx E c' k' := fun c2 _ _ _ _ _ _ _ _ _ h2 => h _ _ _ _ _ _ _ _ _ _ (by omega)
theorem S_t1 {t b s j h : Int} {c : Nat} {E : End3} {s1 s3 s4 s5 s6 s7 s8 s9 : SV} (i : InC 1000000 t b s j h) (hc : c < 900000) (q : Nx E c 60) : g_law_right_t1 E (rA t b s j h s1 s3 s4 s5 s6 s7 s8 s9) c := by
  simp [g_law_right_t1, rA]
  refine S_least_right i ?_
  simp
  refine S_refused i (by omega) fun c' hc' => ?_
  simp
  exact q _ _ _ _ _ _ _ _ _ _ (by omega)
/-! values asked of -/
def oddOk : D → Bool
  | .tup l => okD 5 (.tup l) && (decide (szD (.tup l) ≤ 1000) && plainD (.tup l))
  | _ => true
theorem S_odd2 {c : Nat} (hc : c < 1000000) {Q : KD} (q : ∀ d, Vk d → Q d (c + 1)) : m_law_odd [.pot] c Q := by
  refine ⟨rfl, ?_⟩
  simp [runM, g_law_odd, start3]
  refine S_law_of (by simp) (by simp) hc fun d hd => q d ?_
  have := List.all_eq_true.mp (show List.all _ (fun d => niceD 4 d && oddOk d) = true by decide +kernel) d hd
  rw [Bool.and_eq_true] at this
  refine ⟨⟨4, this.1⟩, fun l hd => ?_⟩
  have h2 := this.2
  rw [hd] at h2
  unfold oddOk at h2
  rw [Bool.and_eq_true, Bool.and_eq_true] at h2
  rw [hd]
  exact ⟨⟨5, by decide, h2.1⟩, by have := of_decide_eq_true h2.2.1; omega, h2.2.2⟩
theorem gd_vk {k z : Nat} {d : D} (h : Gd k z d) (hz : z ≤ 10000) (hk : k ≤ 60) : Vk d :=
  ⟨⟨k, h.ni⟩, fun l e => ⟨⟨k, hk, h.ok⟩, by have := h.sz; omega, h.pl⟩⟩
theorem tn_vk {k : Nat} {d : D} (h : tnD k d = true) (hz : szD d ≤ 10000) (hk : k ≤ 60) : Vk d := by
  obtain ⟨h1, h2, _, h4⟩ := tn_nice k k d (Nat.le_refl _) h
  exact gd_vk ⟨h1, h2, hz, h4⟩ (by omega) hk
theorem vk_no {d : D} {k : Nat} (h : niceD k d = true) (h3 : ∀ l, d ≠ .tup l) : Vk d := ⟨⟨k, h⟩, fun l z => absurd z (h3 l)⟩
def Wd (x : Str) : Prop := x = "closes" ∨ x = "short" ∨ x = "long" ∨ x = "flat"
theorem tn_str {k : Nat} {x : Str} (h : Wd x) : tnD k (.str x) = true := by
  unfold tnD
  exact decide_eq_true h
theorem tn_int {k : Nat} {i : Int} (h : 0 ≤ i ∧ i < 10 ^ 20) : tnD k (.int i) = true := by
  unfold tnD
  exact decide_eq_true h
theorem tn_mk {k : Nat} {l : List D} (hl : l.length ≤ 25) (h : ∀ d ∈ l, tnD k d = true) : tnD (k + 1) (.tup l) = true := by
  unfold tnD
  rw [Bool.and_eq_true]
  exact ⟨decide_eq_true hl, List.all_eq_true.mpr h⟩
theorem tn1 {x : Str} (h : Wd x) : tnD 1 (.tup [.str x]) = true := tn_mk (by simp) fun d hd => by
  rw [List.mem_singleton.mp hd]
  exact tn_str h
theorem tn2 {x : Str} {y : Int} (h : Wd x) (hy : 0 ≤ y ∧ y < 10 ^ 20) : tnD 1 (.tup [.str x, .int y]) = true := tn_mk (by simp) fun d hd => by
  simp only [List.mem_cons, List.not_mem_nil, or_false] at hd
  rcases hd with rfl | rfl
  · exact tn_str h
  · exact tn_int hy
theorem tn3 {x : Str} {y z : Int} (h : Wd x) (hy : 0 ≤ y ∧ y < 10 ^ 20) (hz : 0 ≤ z ∧ z < 10 ^ 20) : tnD 1 (.tup [.str x, .int y, .int z]) = true := tn_mk (by simp) fun d hd => by
  simp only [List.mem_cons, List.not_mem_nil, or_false] at hd
  rcases hd with rfl | rfl | rfl
  · exact tn_str h
  · exact tn_int hy
  · exact tn_int hz
abbrev fBody : FS := (sIf (tN3 (tV (eCall m_law_is_bool (aCons (eCallK 1 (m0 m_shows_opens_flat) (aCons (eVar 2) aNil) (aCons (eVar 5) aNil)) (aCons (eCall m_law_is_due (aCons (eVar 2) (aCons (eVar 5) aNil))) aNil)))))
  (sRet (eC (.bl false)))
  sNil)
theorem loopF {t b s j h : Int} {c : Nat} {E : End3} {s1 s3 s4 s5 s6 s7 s8 s9 : SV} (i : InC 1000000 t b s j h) (vs : List D) (hv : ∀ v ∈ vs, Vk v) (q : ∀ s5, E.nx (rA t b s j h s1 s3 s4 s5 s6 s7 s8 s9) c) :
    forL (gN 5) fBody E vs (rA t b s j h s1 s3 s4 s5 s6 s7 s8 s9) c := by
  refine for_rule (I := fun rr ρ c' => c' = c ∧ (∀ v ∈ rr, Vk v) ∧ ∃ s5, ρ = rA t b s j h s1 s3 s4 s5 s6 s7 s8 s9) ?_ ?_ _ _ _ ⟨rfl, hv, s5, rfl⟩
  · rintro d rr ρ c' ⟨rfl, hv, s5, rfl⟩ M hM
    have hd := hv d List.mem_cons_self
    simp [rA]
    by_cases z : FlOk b s j h d
    · refine S_shows_flat i hd (fun _ => ?_) fun n => absurd z n
      try simp
      refine S_is_due i hd (fun _ => ?_) fun n => absurd z n
      refine S_law_is_bool rfl ?_
      try simp
      exact hM _ _ ⟨rfl, fun v hv' => hv v (List.mem_cons_of_mem _ hv'), _, rfl⟩
    · refine S_shows_flat i hd (fun n => absurd n z) fun _ => ?_
      try simp
      refine S_is_due i hd (fun n => absurd n z) fun _ => ?_
      refine S_law_is_bool rfl ?_
      try simp
      exact hM _ _ ⟨rfl, fun v hv' => hv v (List.mem_cons_of_mem _ hv'), _, rfl⟩
  · rintro ρ c' ⟨rfl, _, s5, rfl⟩
    exact q _
end Law45

set_option maxHeartbeats 4000000
namespace Law45
open PySem PySem.Spec PyProof.Rows
open L2 hiding FnOk Room
open L3
/-- what opens_flat tells -/
def FT (d : D) : Prop := (∃ g : Int, d = .tup [.str "flat", .int g] ∧ 0 ≤ g ∧ g < 10 ^ 15) ∨ (∃ g m : Int, d = .tup [.str "short", .int g, .int m] ∧ (0 ≤ g ∧ g < 10 ^ 15) ∧ 0 ≤ m ∧ m < 10 ^ 15) ∨ (∃ m : Int, d = .tup [.str "long", .int m] ∧ 0 ≤ m ∧ m < 10 ^ 15)
theorem ft_of {t b s j h : Int} (i : InC 1000000 t b s j h) : FT (flatD b s j h) := by
  obtain ⟨i1, i2, i3, i4, i5⟩ := i
  have gi := gap_in i3 i4 i5
  have ss := sq_b i3
  have gg := sq_b gi
  have bb := sq_b i2
  unfold flatD
  split
  · split
    · exact .inl ⟨_, rfl, by omega, by omega⟩
    · exact .inr (.inl ⟨_, _, rfl, ⟨by omega, by omega⟩, by omega, by omega⟩)
  · have : gapM s j h = 2 * h ∨ gapM s j h = s + 2 * j := by unfold gapM; split <;> simp
    exact .inr (.inr ⟨_, rfl, by omega, by omega⟩)
theorem S_t2 {t b s j h : Int} {told : D} {c : Nat} {E : End3} {s1 s4 s5 s6 s7 s8 s9 : SV} (i : InC 1000000 t b s j h) (ht : FT told) (hc : c < 800000) (q : Nx E c 200) :
    g_law_right_t2 E (rA t b s j h s1 (.val told) s4 s5 s6 s7 s8 s9) c := by
  have wf : Wd "flat" := .inr (.inr (.inr rfl))
  have ws : Wd "short" := .inr (.inl rfl)
  have wl : Wd "long" := .inr (.inr (.inl rfl))
  have hrl : (rangeL 0 6).length = 6 := by simp [rangeL]
  have htn : tnD 1 told = true ∧ szD told ≤ 20 ∧ ∃ l, told = .tup l := by
    rcases ht with ⟨g, rfl, g0, g1⟩ | ⟨g, m, rfl, ⟨g0, g1⟩, m0, m1⟩ | ⟨m, rfl, m0, m1⟩
    · exact ⟨tn2 wf ⟨g0, by omega⟩, by simp [szD, szL], _, rfl⟩
    · exact ⟨tn3 ws ⟨g0, by omega⟩ ⟨m0, by omega⟩, by simp [szD, szL], _, rfl⟩
    · exact ⟨tn2 wl ⟨m0, by omega⟩, by simp [szD, szL], _, rfl⟩
  obtain ⟨htn, hsz, l, hl⟩ := htn
  have vt := tn_vk htn (by omega) (by decide)
  have v2 : ∀ (x : Str) (y : Int), Wd x → 0 ≤ y ∧ y < 10 ^ 16 → Vk (.tup [.str x, .int y]) := fun x y hx hy => tn_vk (tn2 hx ⟨hy.1, by omega⟩) (by simp [szD, szL]) (by decide)
  have v3 : ∀ (x : Str) (y z : Int), Wd x → 0 ≤ y ∧ y < 10 ^ 16 → 0 ≤ z ∧ z < 10 ^ 16 → Vk (.tup [.str x, .int y, .int z]) := fun x y z hx hy hz => tn_vk (tn3 hx ⟨hy.1, by omega⟩ ⟨hz.1, by omega⟩) (by simp [szD, szL]) (by decide)
  have vl : ∀ l, told = .tup l → Vk (.lst l) := fun l e => by
    subst e
    obtain ⟨h1, h2⟩ := tn_tup htn
    exact vk_no (k := 1) (nice_mkL (by omega) fun d hd => (tn_nice 0 0 d (Nat.le_refl _) (h2 d hd)).1) fun l z => by cases z
  have vc : ∀ l, told = .tup l → Vk (.tup (L3.cutD l none (some 1))) := fun l e => by
    subst e
    obtain ⟨h1, h2⟩ := tn_tup htn
    have a := szL_cut l none (some 1)
    refine tn_vk (k := 1) (tn_mk (by have := cutD_le (l := l) (a := none) (b := some 1); omega) fun d hd => h2 d (cutD_mem hd)) (by simp only [szD] at hsz ⊢; omega) (by decide)
  rcases ht with ⟨g, rfl, g0, g1⟩ | ⟨g, m, rfl, ⟨g0, g1⟩, m0, m1⟩ | ⟨m, rfl, m0, m1⟩
  all_goals
    simp [g_law_right_t2, rA, -forL, -compL]
    try rw [if_neg (by decide)]
    refine S_odd2 (by omega) fun x hx => ?_
    refine comp_drawn Vk (fun d => d) 6 900000 _ _ _ (fun d hd c K hC hK => ?_) (by rw [hrl]; omega) fun ys c' hy hP hc' => ?_
    · simp
      exact S_bent2 6 1 _ _ _ (by decide) (by decide) htn (by omega) fun d' c' hd' hc' => hK _ _ (gd_vk hd' (by omega) (by decide)) (by omega)
    · rw [List.map_id']
      rw [hrl] at hy hc'
      refine ⟨by omega, loopF i _ (fun v hv => ?_) fun s5 => S_t1 i (by omega) (q.mono (by omega))⟩
      simp only [List.mem_cons] at hv
      rcases hv with rfl | rfl | rfl | rfl | rfl | rfl | rfl | rfl | rfl | rfl | hv
      · exact vt
      · exact v2 _ _ wf (by constructor <;> omega)
      · exact v2 _ _ wf (by constructor <;> (try split) <;> omega)
      · exact v2 _ _ wf (by constructor <;> omega)
      · exact v2 _ _ wl (by decide)
      · exact v3 _ _ _ ws (by constructor <;> omega) (by decide)
      · exact vc _ rfl
      · exact vk_no (nice_non (n := 1)) fun l z => by cases z
      · exact vl _ rfl
      · exact hx
      · exact hP v hv
end Law45

set_option maxHeartbeats 4000000
namespace Law45
open PySem PySem.Spec PyProof.Rows
open L2 hiding FnOk Room
open L3
def canB (b s j h : Int) : D → Bool
  | .int g => decide ((0 ≤ g ∧ s - 2 * j ≤ g ∧ g ≤ gapM s j h) ∧ s * s ≤ g * g + b * b)
  | _ => false
theorem S_t3 {t b s j h : Int} {c : Nat} {E : End3} {s1 s4 s5 s6 s7 s8 s9 : SV} (i : InC 1000000 t b s j h) (hc : c < 800000) (q : Nx E c 200) :
    g_law_right_t3 E (rA t b s j h s1 (.val (flatD b s j h)) s4 s5 s6 s7 s8 s9) c := by
  have t2 := S_t2 (E := E) (s1 := s1) (s4 := s4) (s5 := s5) (s6 := s6) (s7 := s7) (s8 := s8) (s9 := s9) i (ft_of i) hc q
  have i3 := i.2.2.1
  have i4 := i.2.2.2.1
  have i5 := i.2.2.2.2
  simp [g_law_right_t3, rA, -compL]
  rw [show [D.int t, D.int b, D.int s, D.int j, D.int h] = [t, b, s, j, h].map D.int from rfl, L3.ints_of]
  simp only []
  by_cases hm : List.foldl max t [b, s, j, h] < 50
  · rw [if_pos hm]
    have hh : h < 50 := by
      have : List.foldl max t [b, s, j, h] = max (max (max (max t b) s) j) h := rfl
      rw [this] at hm
      omega
    have gi := gap_in i3 i4 i5
    have g2 : gapM s j h ≤ 2 * h := by unfold gapM; split <;> omega
    have any : ((rangeL 0 200).map (canB b s j h)).any id = true ↔ Flat b s j h := by
      rw [List.any_map, List.any_eq_true]
      constructor
      · rintro ⟨d, hd, e⟩
        obtain ⟨k, hk, rfl⟩ := mem_rangeL hd
        have e := of_decide_eq_true e
        exact can_flat (by omega) e
      · intro f
        have cg := flat_can i3.1 i4.1 i5.1 f
        refine ⟨.int (gapM s j h), ?_, decide_eq_true cg⟩
        unfold rangeL
        refine List.mem_map.mpr ⟨(gapM s j h).toNat, List.mem_range.mpr (by omega), ?_⟩
        congr 1
        omega
    refine flat_first (fun f => ?_) fun nf => ?_
    all_goals
      simp only []
      refine L3.comp_map (fun d => .bl (canB b s j h d)) _ _ (fun d hd K hK => ?_) ?_
      · obtain ⟨k, hk, rfl⟩ := mem_rangeL hd
        simp
        refine S_can_gap (i.up (by decide)) (fun z => ?_) fun z => ?_
        · rw [show canB b s j h (.int (0 + (k : Int))) = true from decide_eq_true (show CanGap b s j h (0 + (k : Int)) by rw [Int.zero_add]; exact z)] at hK
          simpa using hK
        · rw [show canB b s j h (.int (0 + (k : Int))) = false from decide_eq_false (show ¬ CanGap b s j h (0 + (k : Int)) by rw [Int.zero_add]; exact z)] at hK
          simpa using hK
      · rw [L3.bls_map]
        simp only []
        cases e : ((rangeL 0 200).map (canB b s j h)).any id with
        | true =>
          first
            | (simp; exact t2)
            | exact absurd (any.mp e) nf
        | false =>
          first
            | (simp; exact t2)
            | (rw [any.mpr f] at e; cases e)
  · rw [if_neg hm]
    exact t2
theorem fl_self {t b s j h : Int} (i : InC 1000000 t b s j h) : FlOk b s j h (flatD b s j h) := by
  by_cases f : Flat b s j h
  · refine .inl ⟨gapM s j h, ?_, flat_can i.2.2.1.1 i.2.2.2.1.1 i.2.2.2.2.1 f⟩
    unfold flatD
    rw [if_pos f.1, if_pos f.2]
  · exact .inr ⟨rfl, f⟩
theorem ft_vk {d : D} (ht : FT d) : Vk d := by
  have wf : Wd "flat" := .inr (.inr (.inr rfl))
  have ws : Wd "short" := .inr (.inl rfl)
  have wl : Wd "long" := .inr (.inr (.inl rfl))
  rcases ht with ⟨g, rfl, g0, g1⟩ | ⟨g, m, rfl, ⟨g0, g1⟩, m0, m1⟩ | ⟨m, rfl, m0, m1⟩
  · exact tn_vk (tn2 wf ⟨g0, by omega⟩) (by simp [szD, szL]) (by decide)
  · exact tn_vk (tn3 ws ⟨g0, by omega⟩ ⟨m0, by omega⟩) (by simp [szD, szL]) (by decide)
  · exact tn_vk (tn2 wl ⟨m0, by omega⟩) (by simp [szD, szL]) (by decide)
theorem S_t4 {t b s j h : Int} {c : Nat} {E : End3} {s1 s3 s4 s5 s6 s7 s8 s9 : SV} (i : InC 1000000 t b s j h) (hc : c < 800000) (q : Nx E c 200) :
    g_law_right_t4 E (rA t b s j h s1 s3 s4 s5 s6 s7 s8 s9) c := by
  have t3 := S_t3 (E := E) (s1 := s1) (s4 := s4) (s5 := s5) (s6 := s6) (s7 := s7) (s8 := s8) (s9 := s9) i hc q
  simp [g_law_right_t4, rA]
  refine S_opens i ?_
  refine S_is_due i (ft_vk (ft_of i)) (fun _ => ?_) fun n => absurd (fl_self i) n
  simp only [if_true]
  refine flat_first (fun f => ?_) fun nf => ?_
  · refine S_isflat (i.up (by decide)) (fun _ => ?_) fun n => absurd f n
    try simp
    exact t3
  · refine S_isflat (i.up (by decide)) (fun f => absurd f nf) fun _ => ?_
    try simp
    exact t3
end Law45

set_option maxHeartbeats 4000000
namespace Law45
open PySem PySem.Spec PyProof.Rows
open L2 hiding FnOk Room
open L3
theorem cls_form {t b s j h : Int} (i : InC 1000000 t b s j h) : ∃ l, clsD t b s j = .tup l ∧ tnD 1 (.tup l) = true ∧ szD (.tup l) ≤ 20 ∧ l.length ≤ 2 := by
  obtain ⟨i1, i2, i3, i4, i5⟩ := i
  have wc : Wd "closes" := .inl rfl
  have ws : Wd "short" := .inr (.inl rfl)
  have wl : Wd "long" := .inr (.inr (.inl rfl))
  unfold clsD
  split
  · exact ⟨_, rfl, tn2 ws ⟨by omega, by omega⟩, by simp [szD, szL], by simp⟩
  · split
    · exact ⟨_, rfl, tn2 wl ⟨by omega, by omega⟩, by simp [szD, szL], by simp⟩
    · exact ⟨_, rfl, tn1 wc, by simp [szD, szL], by simp⟩
abbrev cBody : FS := (sSeq (sAsg (gN 7) (eAnd (eB isiM (aCons (eVar 5) (aCons (eC (.ty "tuple")) aNil))) (eOp eqD (eUn reprD (eVar 5)) (eUn reprD (eCall m_law_closes (aCons (eVar 2) aNil))))))
  (sIf (tN3 (tV (eCall m_law_is_bool (aCons (eCallK 1 (m0 m_shows_closes) (aCons (eVar 2) aNil) (aCons (eVar 5) aNil)) (aCons (eVar 7) aNil)))))
  (sRet (eC (.bl false)))
  sNil))
theorem loopC {t b s j h : Int} {c : Nat} {E : End3} {s1 s3 s4 s5 s6 s7 s8 s9 : SV} (i : InC 1000000 t b s j h) (vs : List D) (hv : ∀ v ∈ vs, Vk v) (q : ∀ s5 s7, E.nx (rA t b s j h s1 s3 s4 s5 s6 s7 s8 s9) c) :
    forL (gN 5) cBody E vs (rA t b s j h s1 s3 s4 s5 s6 s7 s8 s9) c := by
  obtain ⟨l, el, tn, sz, _⟩ := cls_form i
  have vt := tn_vk tn (by omega) (by decide)
  obtain ⟨z, hz⟩ := vt.show
  have pl := (tn_nice 1 1 _ (Nat.le_refl _) tn).2.2.2
  refine for_rule (I := fun rr ρ c' => c' = c ∧ (∀ v ∈ rr, Vk v) ∧ ∃ s5 s7, ρ = rA t b s j h s1 s3 s4 s5 s6 s7 s8 s9) ?_ ?_ _ _ _ ⟨rfl, hv, s5, s7, rfl⟩
  · rintro d rr ρ c' ⟨rfl, hv, s5, s7, rfl⟩ M hM
    have hd := hv d List.mem_cons_self
    have nx := fun s5 s7 => hM _ _ ⟨rfl, fun v hv' => hv v (List.mem_cons_of_mem _ hv'), s5, s7, rfl⟩
    have ty := nice_ty hd.ni.choose_spec
    have no : ∀ (d : D), Vk d → d ≠ clsD t b s j → (∀ s5 s7, M (rA t b s j h s1 s3 s4 s5 s6 s7 s8 s9) c') → m_shows_closes [cov t b s j h, d] c' (fun x c => m_law_is_bool [x, .bl false] c fun x c => match x with | .bl b_1 => if b_1 = true then M (rA t b s j h s1 s3 s4 (.val d) s6 (.val (.bl false)) s8 s9) c else E.rt (.bl false) c | _ => False) (fun _ _ _ => False) := fun d hd ne nx => by
      refine S_shows_closes i hd (fun e => absurd e ne) fun _ => ?_
      refine S_law_is_bool rfl ?_
      simp only [if_true]
      exact nx _ _
    cases d with
    | tup v =>
      obtain ⟨y, hy⟩ := hd.show
      simp [rA]
      refine ⟨rfl, y, hy, S_lcloses ?_⟩
      rw [el]
      refine ⟨z, hz, ?_⟩
      by_cases e : D.tup v = clsD t b s j
      · have ev : v = l := D.tup.inj (e.trans el)
        subst ev
        have : y = z := Option.some.inj (hy.1.symm.trans hz.1)
        subst this
        refine S_shows_closes i hd (fun _ => ?_) fun n => absurd e n
        simp
        refine S_law_is_bool rfl ?_
        try simp
        exact nx _ _
      · have ne : ¬ y.shown = z.shown := fun w => e (by rw [same_shown hd pl hy hz w, el])
        refine S_shows_closes i hd (fun w => absurd w e) fun _ => ?_
        simp [ne]
        refine S_law_is_bool rfl ?_
        try simp
        exact nx _ _
    | ty n' => simp [tyName] at ty
    | rf a => simp [tyName] at ty
    | pot => simp [tyName] at ty
    | exc n' d => simp [tyName] at ty
    | clo a o => simp [tyName] at ty
    | scr l => simp [tyName] at ty
    | lam a F0 p => simp [tyName] at ty
    | _ =>
      simp [rA]
      refine ⟨ty, ?_⟩
      refine S_shows_closes i hd (fun w => by rw [el] at w; cases w) fun _ => ?_
      refine S_law_is_bool rfl ?_
      try simp
      exact nx _ _
  · rintro ρ c' ⟨rfl, _, s5, s7, rfl⟩
    exact q _ _
end Law45

set_option maxHeartbeats 4000000
namespace Law45
open PySem PySem.Spec PyProof.Rows
open L2 hiding FnOk Room
open L3
theorem S_t5 {t b s j h : Int} {c : Nat} {E : End3} {s1 s4 s5 s6 s7 s8 s9 : SV} (i : InC 1000000 t b s j h) (hc : c < 700000) (q : Nx E c 300) :
    g_law_right_t5 E (rA t b s j h s1 (.val (clsD t b s j)) s4 s5 s6 s7 s8 s9) c := by
  have wc : Wd "closes" := .inl rfl
  have ws : Wd "short" := .inr (.inl rfl)
  have wl : Wd "long" := .inr (.inr (.inl rfl))
  have hrl : (rangeL 0 4).length = 4 := by simp [rangeL]
  obtain ⟨l, el, tn, sz, hl⟩ := cls_form i
  have vt := tn_vk tn (by omega) (by decide)
  obtain ⟨h1, h2⟩ := tn_tup tn
  have vl : Vk (.lst l) := vk_no (k := 1) (nice_mkL (by omega) fun d hd => (tn_nice 0 0 d (Nat.le_refl _) (h2 d hd)).1) fun l z => by cases z
  have vc : Vk (.tup (L3.cutD l none (some 1))) := by
    have a := szL_cut l none (some 1)
    refine tn_vk (k := 1) (tn_mk (by have := cutD_le (l := l) (a := none) (b := some 1); omega) fun d hd => h2 d (cutD_mem hd)) (by simp only [szD] at sz ⊢; omega) (by decide)
  have va : Vk (.tup (l ++ l)) := by
    refine tn_vk (k := 1) (tn_mk (by rw [List.length_append]; omega) fun d hd => ?_) (by simp only [szD, szL_app] at sz ⊢; omega) (by decide)
    rcases List.mem_append.mp hd with z | z
    · exact h2 d z
    · exact h2 d z
  rw [el]
  simp [g_law_right_t5, rA, -forL, -compL]
  refine ⟨by omega, S_odd2 (by omega) fun x hx => ?_⟩
  refine comp_drawn Vk (fun d => d) 6 900000 _ _ _ (fun d hd c K hC hK => ?_) (by rw [hrl]; omega) fun ys c' hy hP hc' => ?_
  · simp
    exact S_bent2 6 1 _ _ _ (by decide) (by decide) tn (by omega) fun d' c' hd' hc' => hK _ _ (gd_vk hd' (by omega) (by decide)) (by omega)
  · rw [List.map_id']
    rw [hrl] at hy hc'
    refine ⟨by omega, loopC i _ (fun v hv => ?_) fun s5 s7 => S_t4 i (by omega) (q.mono (by omega))⟩
    simp only [List.mem_cons] at hv
    rcases hv with rfl | rfl | rfl | rfl | rfl | rfl | rfl | rfl | rfl | hv
    · exact vt
    · exact tn_vk (tn1 wc) (by simp [szD, szL]) (by decide)
    · exact tn_vk (tn2 ws (by decide)) (by simp [szD, szL]) (by decide)
    · exact tn_vk (tn2 wl (by decide)) (by simp [szD, szL]) (by decide)
    · exact vc
    · exact va
    · exact vk_no (nice_non (n := 1)) fun l z => by cases z
    · exact vl
    · exact hx
    · exact hP v hv
theorem S_right {Q : KD} {c : Nat} (hc : c ≤ 3) (q : ∀ c', Q (.bl true) c') : m_law_right [.pot] c Q := by
  refine ⟨rfl, ?_⟩
  simp [runM, g_law_right, start3, -forL]
  refine for_rule (I := fun rr ρ c' => rr.length ≤ 10 ∧ c' ≤ 3 + 1000 * (10 - rr.length) ∧ ∃ s1 s2 s3 s4 s5 s6 s7 s8 s9 : SV,
    ρ = [.val .pot, s1, s2, s3, s4, s5, s6, s7, s8, s9]) ?_ ?_ _ _ _ ?_
  · rintro d r' ρ c' ⟨hl, hcc, s1, s2, s3, s4, s5, s6, s7, s8, s9, rfl⟩ M hM
    have hl' : r'.length + 1 ≤ 10 := by simpa using hl
    simp only [List.length_cons] at hcc
    simp
    refine S_drawn (by omega) fun t b s j h c2 i hc2 => ?_
    refine S_closes i ?_
    obtain ⟨l, el, tn, sz, _⟩ := cls_form i
    have vt := tn_vk tn (by omega) (by decide)
    obtain ⟨z, hz⟩ := vt.show
    rw [← el] at hz
    refine ⟨z, hz, S_lcloses ⟨z, hz, ?_⟩⟩
    simp
    refine S_t5 i (by omega) fun c3 t1 t2 t3 t4 t5 t6 t7 t8 t9 h2 => hM _ _ ⟨by omega, by omega, _, _, _, _, _, _, _, _, _, rfl⟩
  · rintro ρ c' ⟨_, _, s1, s2, s3, s4, s5, s6, s7, s8, s9, rfl⟩
    simp [g_law_right_t6]
    exact q _
  · exact ⟨by decide, by show c ≤ 3 + 1000 * (10 - 10); omega, _, _, _, _, _, _, _, _, _, rfl⟩
theorem S_law (ns : List Int) (hl : ns.length ≤ 63) (hb : ∀ z ∈ ns, Builtin.Int.intBits z ≤ 1048576) : m_law [.scr ns] 0 fun d _ => d = .bl true := by
  refine ⟨rfl, ?_⟩
  exact S_all (ρ := [some (.scr ns), none]) (k := 3) (v := 1) (fun Q q => S_right (by decide) q) (by decide) (by decide) hl (Nat.lt_succ_self 1) rfl (by decide) rfl
end Law45

set_option maxHeartbeats 4000000
namespace Law45
open PySem PySem.Spec PyProof.Rows
open L2 hiding FnOk Room
open L3
variable {w : World} {K : PySem.W.Frag} {mg : Str → Option Value} {base : Heap}
theorem ok_is_int (T : Top K mg base) : FnOk PW w K mg base CX0 1 T.a_is_int T.fd_is_int ["value", "low", "high"] (spM K 3 m_is_int) :=
  fn3 (k := 0) (g := g_is_int) T.F_is_int sc_is_int rfl p_is_int (fun cdv A outer s H E hr => (bx_one (sx_ret (ex_and (ex_callB call_isi isiS T.z_isinstance boot_isinstance3 (ax_cons (ex_var 0) (ax_cons (ex_ty T.z_int boot_int3) ax_nil))) (ex_and (ex_not (ex_callB call_isi isiS T.z_isinstance boot_isinstance3 (ax_cons (ex_var 0) (ax_cons (ex_ty T.z_bool boot_bool3) ax_nil)))) (ex_one (ex_ch op_le leS op_le leS (ex_var 1) (ex_var 0) (ex_var 2))))))))
theorem ok_are_ints (T : Top K mg base) : FnOk PW w K mg base CX0 2 T.a_are_ints T.fd_are_ints ["value", "low", "high"] (spM K 3 m_are_ints) :=
  fn3 (k := 1) (g := g_are_ints) T.F_are_ints sc_are_ints rfl p_are_ints (fun cdv A outer s H E hr => (bx_one (sx_ret (ex_and (ex_callB call_isi isiS T.z_isinstance boot_isinstance3 (ax_cons (ex_var 0) (ax_cons (ex_ty T.z_tuple boot_tuple3) ax_nil))) (ex_one (ex_callB (cr_all rfl) allS T.z_all boot_all3 (ax_cons (fx_ex (fx_comp (own := [("one", 3)]) rfl sc_are_ints.nd (ix_seq (ex_var 0)) (blkOk_by rfl) (fun _ _ _ _ _ => (pg_name (i := 3) sc_are_ints.nd rfl (.inl rfl))) (kg_name 3) (fun _ _ _ _ _ => pts_nil) kt_nil (fun _ _ _ _ _ => (ex_call (ok_is_int T) (hr.mono (by decide)) T.m_is_int T.F_is_int.kp T.b_is_int rfl (ax_cons (ex_var 3) (ax_cons (ex_var 1) (ax_cons (ex_var 2) ax_nil))) pass0 (hl := l_is_int))) (by decide)) (fun _ _ _ h => h)) ax_nil)))))))
theorem ok_is_told (T : Top K mg base) : FnOk PW w K mg base CX0 1 T.a_is_told T.fd_is_told ["value", "sizes"] (spM K 2 m_is_told) :=
  fn3 (k := 0) (g := g_is_told) T.F_is_told sc_is_told rfl p_is_told (fun cdv A outer s H E hr => (bx_one (sx_ret (ex_and (ex_callB call_isi isiS T.z_isinstance boot_isinstance3 (ax_cons (ex_var 0) (ax_cons (ex_ty T.z_tuple boot_tuple3) ax_nil))) (ex_and (ex_cmp (op_in3 (u66 hr)) inS (ex_callB call_len_seq lenS T.z_len boot_len3 (ax_cons (ex_var 0) ax_nil)) (ex_var 1) rfl) (ex_one (ex_callB call_isi isiS T.z_isinstance boot_isinstance3 (ax_cons (ex_ix (ex_var 0) ex_int) (ax_cons (ex_ty T.z_str boot_str3) ax_nil)))))))))
theorem ok_is_cover (T : Top K mg base) : FnOk PW w K mg base CX0 3 T.a_is_cover T.fd_is_cover ["value"] (spM K 1 m_is_cover) :=
  fn3 (k := 2) (g := g_is_cover) T.F_is_cover sc_is_cover rfl p_is_cover (fun cdv A outer s H E hr => (bx_one (sx_ret (ex_and (ex_call (ok_are_ints T) (hr.mono (by decide)) T.m_are_ints T.F_are_ints.kp T.b_are_ints rfl (ax_cons (ex_var 0) (ax_cons ex_int (ax_cons (ex_gI T.c_MOST_SIZE) ax_nil))) pass0 (hl := l_are_ints)) (ex_one (ex_cmp (op_eq2 hr.units) eqS (ex_callB call_len_seq lenS T.z_len boot_len3 (ax_cons (ex_var 0) ax_nil)) (ex_gI T.c_PARTS) (nomark _)))))))
theorem ok_look_at_cover (T : Top K mg base) : FnOk PW w K mg base (L2.CX PW w) 4 T.a_look_at_cover T.fd_look_at_cover ["cover"] (spX K 1 m_look_at_cover) :=
  fn3X (k := 3) (g := g_look_at_cover) T.F_look_at_cover sc_look_at_cover rfl p_look_at_cover (fun cdv A outer s H E hr tk ps => (by_one (sy_if (tx_not (tx_val (ex_call (ok_is_cover T) (hr.mono (by decide)) T.m_is_cover T.F_is_cover.kp T.b_is_cover rfl (ax_cons (ex_var 0) ax_nil) pass0 (hl := l_is_cover))))
  (by_one (sy_raise T.e_BadCover.c T.tI (init_ok T.ini T.k2) T.bI (hr.mono (by decide)) tk (ex_var 0)))
  by_nil)))
theorem ok0_look_at_cover (T : Top K mg base) : FnOk PW w K mg base CX0 4 T.a_look_at_cover T.fd_look_at_cover ["cover"] (spM K 1 (m0 m_look_at_cover)) := fnX0 (ok_look_at_cover T) rfl
theorem ok_told_closes (T : Top K mg base) : FnOk PW w K mg base CX0 1 T.a_told_closes T.fd_told_closes ["cover"] (spM K 1 m_told_closes) :=
  fn3 (k := 0) (g := g_told_closes) T.F_told_closes sc_told_closes rfl p_told_closes (fun cdv A outer s H E hr => (bx_cons (sx_asg (ex_var 0) (gx_of (pg_tup rfl (pgs_cons (pg_name (i := 1) sc_told_closes.nd rfl (.inl rfl)) (pgs_cons (pg_name (i := 2) sc_told_closes.nd rfl (.inl rfl)) (pgs_cons (pg_name (i := 3) sc_told_closes.nd rfl (.inl rfl)) (pgs_cons (pg_name (i := 4) sc_told_closes.nd rfl (.inl rfl)) (pgs_cons (pg_name (i := 5) sc_told_closes.nd rfl (.inl rfl)) pgs_nil)))))) (kg_tup (kgs_cons (kg_name 1) (kgs_cons (kg_name 2) (kgs_cons (kg_name 3) (kgs_cons (kg_name 4) (kgs_cons (kg_name 5) kgs_nil))))))))
  (bx_cons (sx_asg (ex_add (ex_var 1) (ex_mul ex_int (ex_var 2))) (gx_of (pg_name (i := 6) sc_told_closes.nd rfl (.inl rfl)) (kg_name 6)))
  (bx_cons (sx_if (tx_cmp op_lt ltS (ex_add (ex_var 3) (ex_mul ex_int (ex_var 4))) (ex_var 6) (nomark _))
  (bx_one (sx_ret (ex_tup (ax_cons (ex_gS T.c_SHORT) (ax_cons (ex_sub (ex_sub (ex_var 6) (ex_var 3)) (ex_mul ex_int (ex_var 4))) ax_nil)))))
  bx_nil)
  (bx_cons (sx_if (tx_cmp op_gt gtS (ex_var 3) (ex_add (ex_var 6) (ex_mul ex_int (ex_var 4))) (nomark _))
  (bx_one (sx_ret (ex_tup (ax_cons (ex_gS T.c_LONG) (ax_cons (ex_sub (ex_sub (ex_var 3) (ex_var 6)) (ex_mul ex_int (ex_var 4))) ax_nil)))))
  bx_nil)
  (bx_one (sx_ret (ex_tup (ax_cons (ex_gS T.c_CLOSES) ax_nil)))))))))
theorem ok_closes (T : Top K mg base) : FnOk PW w K mg base (L2.CX PW w) 5 T.a_closes T.fd_closes ["cover"] (spX K 1 m_closes) :=
  fn3X (k := 4) (g := g_closes) T.F_closes sc_closes rfl p_closes (fun cdv A outer s H E hr tk ps => (by_cons (sy_expr (ey_call (ok_look_at_cover T) (hr.mono (by decide)) T.m_look_at_cover T.F_look_at_cover.kp T.b_look_at_cover tk (ax_cons (ex_var 0) ax_nil) l_look_at_cover))
  (by_one (sy_of (sx_ret (ex_call (ok_told_closes T) (hr.mono (by decide)) T.m_told_closes T.F_told_closes.kp T.b_told_closes rfl (ax_cons (ex_var 0) ax_nil) pass0 (hl := l_told_closes)))))))
theorem ok0_closes (T : Top K mg base) : FnOk PW w K mg base CX0 5 T.a_closes T.fd_closes ["cover"] (spM K 1 (m0 m_closes)) := fnX0 (ok_closes T) rfl
theorem ok_shows_closes (T : Top K mg base) : FnOk PW w K mg base (L2.CX PW w) 5 T.a_shows_closes T.fd_shows_closes ["cover", "value"] (spX K 2 m_shows_closes) :=
  fn3X (k := 4) (g := g_shows_closes) T.F_shows_closes sc_shows_closes rfl p_shows_closes (fun cdv A outer s H E hr tk ps => (by_cons (sy_expr (ey_call (ok_look_at_cover T) (hr.mono (by decide)) T.m_look_at_cover T.F_look_at_cover.kp T.b_look_at_cover tk (ax_cons (ex_var 0) ax_nil) l_look_at_cover))
  (by_cons (sy_of (sx_asg (ex_call (ok_told_closes T) (hr.mono (by decide)) T.m_told_closes T.F_told_closes.kp T.b_told_closes rfl (ax_cons (ex_var 0) ax_nil) pass0 (hl := l_told_closes)) (gx_of (pg_name (i := 2) sc_shows_closes.nd rfl (.inl rfl)) (kg_name 2))))
  (by_cons (sy_of (sx_if (wx_pt (wx_or (tx_not (tx_val (ex_call (ok_is_told T) (hr.mono (by decide)) T.m_is_told T.F_is_told.kp T.b_is_told rfl (ax_cons (ex_var 1) (ax_cons (ex_tup (ax_cons ex_int (ax_cons ex_int ax_nil))) ax_nil)) pass0 (hl := l_is_told)))) (wx_or1 (tx_not (tx_val (ex_callB (cr_all rfl) allS T.z_all boot_all3 (ax_cons (fx_ex (fx_comp (own := [("number", 3)]) rfl sc_shows_closes.nd (ix_seq (ex_sl (ex_var 1) (ox_some ex_int) ox_none)) (blkOk_by rfl) (fun _ _ _ _ _ => (pg_name (i := 3) sc_shows_closes.nd rfl (.inl rfl))) (kg_name 3) (fun _ _ _ _ _ => pts_nil) kt_nil (fun _ _ _ _ _ => (ex_call (ok_is_int T) (hr.mono (by decide)) T.m_is_int T.F_is_int.kp T.b_is_int rfl (ax_cons (ex_var 3) (ax_cons ex_int (ax_cons (ex_mul (ex_gI T.c_PARTS) (ex_gI T.c_MOST_SIZE)) ax_nil))) pass0 (hl := l_is_int))) (by decide)) (fun _ _ _ h => h)) ax_nil)))))))
  (bx_one (sx_ret ex_bl))
  bx_nil))
  (by_one (sy_of (sx_ret (ex_cmp (op_eq2 hr.units) eqS (ex_var 1) (ex_var 2) (nomark _)))))))))
theorem ok0_shows_closes (T : Top K mg base) : FnOk PW w K mg base CX0 5 T.a_shows_closes T.fd_shows_closes ["cover", "value"] (spM K 2 (m0 m_shows_closes)) := fnX0 (ok_shows_closes T) rfl
theorem ok_told_gaps (T : Top K mg base) : FnOk PW w K mg base CX0 1 T.a_told_gaps T.fd_told_gaps ["cover"] (spM K 1 m_told_gaps) :=
  fn3 (k := 0) (g := g_told_gaps) T.F_told_gaps sc_told_gaps rfl p_told_gaps (fun cdv A outer s H E hr => (bx_cons (sx_asg (ex_var 0) (gx_of (pg_tup rfl (pgs_cons (pg_name (i := 1) sc_told_gaps.nd rfl (.inl rfl)) (pgs_cons (pg_name (i := 2) sc_told_gaps.nd rfl (.inl rfl)) (pgs_cons (pg_name (i := 3) sc_told_gaps.nd rfl (.inl rfl)) (pgs_cons (pg_name (i := 4) sc_told_gaps.nd rfl (.inl rfl)) (pgs_cons (pg_name (i := 5) sc_told_gaps.nd rfl (.inl rfl)) pgs_nil)))))) (kg_tup (kgs_cons (kg_name 1) (kgs_cons (kg_name 2) (kgs_cons (kg_name 3) (kgs_cons (kg_name 4) (kgs_cons (kg_name 5) kgs_nil))))))))
  (bx_cons (sx_par (i := 6) (j := 7) rfl sc_told_gaps.nd (ax_cons (ex_callB (call_max2 rfl) max2S T.z_max boot_max3 (ax_cons ex_int (ax_cons (ex_sub (ex_var 3) (ex_mul ex_int (ex_var 4))) ax_nil))) (ax_cons (ex_callB (call_min2 rfl) min2S T.z_min boot_min3 (ax_cons (ex_mul ex_int (ex_var 5)) (ax_cons (ex_add (ex_var 3) (ex_mul ex_int (ex_var 4))) ax_nil))) ax_nil)))
  (bx_one (sx_ret (ex_if (tx_cmp op_le leS (ex_var 6) (ex_var 7) (nomark _)) (ex_tup (ax_cons (ex_var 6) (ax_cons (ex_var 7) ax_nil))) ex_non))))))
theorem ok_fits_between (T : Top K mg base) : FnOk PW w K mg base CX0 1 T.a_fits_between T.fd_fits_between ["cover", "gap"] (spM K 2 m_fits_between) :=
  fn3 (k := 0) (g := g_fits_between) T.F_fits_between sc_fits_between rfl p_fits_between (fun cdv A outer s H E hr => (bx_cons (sx_asg (ex_var 0) (gx_of (pg_tup rfl (pgs_cons (pg_name (i := 2) sc_fits_between.nd rfl (.inl rfl)) (pgs_cons (pg_name (i := 3) sc_fits_between.nd rfl (.inl rfl)) (pgs_cons (pg_name (i := 4) sc_fits_between.nd rfl (.inl rfl)) (pgs_cons (pg_name (i := 5) sc_fits_between.nd rfl (.inl rfl)) (pgs_cons (pg_name (i := 6) sc_fits_between.nd rfl (.inl rfl)) pgs_nil)))))) (kg_tup (kgs_cons (kg_name 2) (kgs_cons (kg_name 3) (kgs_cons (kg_name 4) (kgs_cons (kg_name 5) (kgs_cons (kg_name 6) kgs_nil))))))))
  (bx_one (sx_ret (ex_cmp op_le leS (ex_mul (ex_var 4) (ex_var 4)) (ex_add (ex_mul (ex_var 1) (ex_var 1)) (ex_mul (ex_var 3) (ex_var 3))) (nomark _))))))
theorem ok_told_flat (T : Top K mg base) : FnOk PW w K mg base CX0 2 T.a_told_flat T.fd_told_flat ["cover"] (spM K 1 m_told_flat) :=
  fn3 (k := 1) (g := g_told_flat) T.F_told_flat sc_told_flat rfl p_told_flat (fun cdv A outer s H E hr => (bx_cons (sx_asg (ex_call (ok_told_gaps T) (hr.mono (by decide)) T.m_told_gaps T.F_told_gaps.kp T.b_told_gaps rfl (ax_cons (ex_var 0) ax_nil) pass0 (hl := l_told_gaps)) (gx_of (pg_name (i := 1) sc_told_flat.nd rfl (.inl rfl)) (kg_name 1)))
  (bx_cons (sx_asg (ex_var 0) (gx_of (pg_tup rfl (pgs_cons (pg_name (i := 2) sc_told_flat.nd rfl (.inl rfl)) (pgs_cons (pg_name (i := 3) sc_told_flat.nd rfl (.inl rfl)) (pgs_cons (pg_name (i := 4) sc_told_flat.nd rfl (.inl rfl)) (pgs_cons (pg_name (i := 5) sc_told_flat.nd rfl (.inl rfl)) (pgs_cons (pg_name (i := 6) sc_told_flat.nd rfl (.inl rfl)) pgs_nil)))))) (kg_tup (kgs_cons (kg_name 2) (kgs_cons (kg_name 3) (kgs_cons (kg_name 4) (kgs_cons (kg_name 5) (kgs_cons (kg_name 6) kgs_nil))))))))
  (bx_cons (sx_if (tx_cmp op_isN isS (ex_var 1) ex_non (nomark _))
  (bx_one (sx_ret (ex_tup (ax_cons (ex_gS T.c_LONG) (ax_cons (ex_sub (ex_sub (ex_var 4) (ex_mul ex_int (ex_var 5))) (ex_mul ex_int (ex_var 6))) ax_nil)))))
  bx_nil)
  (bx_cons (sx_if (tx_val (ex_call (ok_fits_between T) (hr.mono (by decide)) T.m_fits_between T.F_fits_between.kp T.b_fits_between rfl (ax_cons (ex_var 0) (ax_cons (ex_ix (ex_var 1) ex_int) ax_nil)) pass0 (hl := l_fits_between)))
  (bx_one (sx_ret (ex_tup (ax_cons (ex_gS T.c_FLAT) (ax_cons (ex_ix (ex_var 1) ex_int) ax_nil)))))
  bx_nil)
  (bx_one (sx_ret (ex_tup (ax_cons (ex_gS T.c_SHORT) (ax_cons (ex_ix (ex_var 1) ex_int) (ax_cons (ex_sub (ex_sub (ex_mul (ex_var 4) (ex_var 4)) (ex_mul (ex_ix (ex_var 1) ex_int) (ex_ix (ex_var 1) ex_int))) (ex_mul (ex_var 3) (ex_var 3))) ax_nil)))))))))))
theorem ok_opens_flat (T : Top K mg base) : FnOk PW w K mg base (L2.CX PW w) 5 T.a_opens_flat T.fd_opens_flat ["cover"] (spX K 1 m_opens_flat) :=
  fn3X (k := 4) (g := g_opens_flat) T.F_opens_flat sc_opens_flat rfl p_opens_flat (fun cdv A outer s H E hr tk ps => (by_cons (sy_expr (ey_call (ok_look_at_cover T) (hr.mono (by decide)) T.m_look_at_cover T.F_look_at_cover.kp T.b_look_at_cover tk (ax_cons (ex_var 0) ax_nil) l_look_at_cover))
  (by_one (sy_of (sx_ret (ex_call (ok_told_flat T) (hr.mono (by decide)) T.m_told_flat T.F_told_flat.kp T.b_told_flat rfl (ax_cons (ex_var 0) ax_nil) pass0 (hl := l_told_flat)))))))
theorem ok0_opens_flat (T : Top K mg base) : FnOk PW w K mg base CX0 5 T.a_opens_flat T.fd_opens_flat ["cover"] (spM K 1 (m0 m_opens_flat)) := fnX0 (ok_opens_flat T) rfl
theorem ok_shows_opens_flat (T : Top K mg base) : FnOk PW w K mg base (L2.CX PW w) 5 T.a_shows_opens_flat T.fd_shows_opens_flat ["cover", "value"] (spX K 2 m_shows_opens_flat) :=
  fn3X (k := 4) (g := g_shows_opens_flat) T.F_shows_opens_flat sc_shows_opens_flat rfl p_shows_opens_flat (fun cdv A outer s H E hr tk ps => (by_cons (sy_expr (ey_call (ok_look_at_cover T) (hr.mono (by decide)) T.m_look_at_cover T.F_look_at_cover.kp T.b_look_at_cover tk (ax_cons (ex_var 0) ax_nil) l_look_at_cover))
  (by_cons (sy_of (sx_if (wx_pt (wx_or (tx_not (tx_val (ex_call (ok_is_told T) (hr.mono (by decide)) T.m_is_told T.F_is_told.kp T.b_is_told rfl (ax_cons (ex_var 1) (ax_cons (ex_tup (ax_cons ex_int (ax_cons (ex_gI T.c_THREE) ax_nil))) ax_nil)) pass0 (hl := l_is_told)))) (wx_or1 (tx_not (tx_val (ex_callB (cr_all rfl) allS T.z_all boot_all3 (ax_cons (fx_ex (fx_comp (own := [("number", 2)]) rfl sc_shows_opens_flat.nd (ix_seq (ex_sl (ex_var 1) (ox_some ex_int) ox_none)) (blkOk_by rfl) (fun _ _ _ _ _ => (pg_name (i := 2) sc_shows_opens_flat.nd rfl (.inl rfl))) (kg_name 2) (fun _ _ _ _ _ => pts_nil) kt_nil (fun _ _ _ _ _ => (ex_call (ok_is_int T) (hr.mono (by decide)) T.m_is_int T.F_is_int.kp T.b_is_int rfl (ax_cons (ex_var 2) (ax_cons ex_int (ax_cons (ex_pow (ex_gI T.c_MOST_SIZE) ex_int) ax_nil))) pass0 (hl := l_is_int))) (by decide)) (fun _ _ _ h => h)) ax_nil)))))))
  (bx_one (sx_ret ex_bl))
  bx_nil))
  (by_cons (sy_of (sx_asg (ex_call (ok_told_gaps T) (hr.mono (by decide)) T.m_told_gaps T.F_told_gaps.kp T.b_told_gaps rfl (ax_cons (ex_var 0) ax_nil) pass0 (hl := l_told_gaps)) (gx_of (pg_name (i := 3) sc_shows_opens_flat.nd rfl (.inl rfl)) (kg_name 3))))
  (by_cons (sy_of (sx_if (wx_pt (wx_and (tx_cmp (op_eq2 hr.units) eqS (ex_ix (ex_var 1) ex_int) (ex_gS T.c_FLAT) (nomark _)) (wx_and1 (tx_cmp (op_eq2 hr.units) eqS (ex_callB call_len_seq lenS T.z_len boot_len3 (ax_cons (ex_var 1) ax_nil)) ex_int (nomark _)))))
  (bx_one (sx_ret (ex_and (ex_cmp op_notN isNotS (ex_var 3) ex_non (nomark _)) (ex_and (ex_ch op_le leS op_le leS (ex_ix (ex_var 3) ex_int) (ex_ix (ex_var 1) ex_int) (ex_ix (ex_var 3) ex_int)) (ex_one (ex_call (ok_fits_between T) (hr.mono (by decide)) T.m_fits_between T.F_fits_between.kp T.b_fits_between rfl (ax_cons (ex_var 0) (ax_cons (ex_ix (ex_var 1) ex_int) ax_nil)) pass0 (hl := l_fits_between)))))))
  bx_nil))
  (by_one (sy_of (sx_ret (ex_cmp (op_eq2 hr.units) eqS (ex_var 1) (ex_call (ok_told_flat T) (hr.mono (by decide)) T.m_told_flat T.F_told_flat.kp T.b_told_flat rfl (ax_cons (ex_var 0) ax_nil) pass0 (hl := l_told_flat)) (nomark _))))))))))
theorem ok0_shows_opens_flat (T : Top K mg base) : FnOk PW w K mg base CX0 5 T.a_shows_opens_flat T.fd_shows_opens_flat ["cover", "value"] (spM K 2 (m0 m_shows_opens_flat)) := fnX0 (ok_shows_opens_flat T) rfl
theorem ok_least_number (T : Top K mg base) {TT : TLs} (act : ActsB PW w K mg base 3 TT) : FnOk PW w K mg base CX0 5 T.a_least_number T.fd_least_number ["is_enough", "most"] (spM K 2 (m_least_number TT)) :=
  fn3 (k := 4) (g := g_least_number TT) T.F_least_number sc_least_number rfl (p_least_number TT) (fun cdv A outer s H E hr => (bx_cons (sx_if (tx_not (tx_val (ex_of_ey (fun W tk => es_act1 (W := fun cls d _ H => W cls d H) (i := 0) act (hr.mono (by decide)) tk (ex_var 1)))))
  (bx_one (sx_ret ex_non))
  bx_nil)
  (bx_cons (sx_par (i := 2) (j := 3) rfl sc_least_number.nd (ax_cons (ex_neg ex_int) (ax_cons (ex_var 1) ax_nil)))
  (bx_cons (sx_while PassesOwn.never (tx_cmp op_gt gtS (ex_sub (ex_var 3) (ex_var 2)) ex_int (nomark _))
  (bx_cons (sx_asg (ex_fdiv (ex_add (ex_var 2) (ex_var 3)) ex_int) (gx_of (pg_name (i := 4) sc_least_number.nd rfl (.inl rfl)) (kg_name 4)))
  (bx_one (sx_asg (ex_if (tx_val (ex_of_ey (fun W tk => es_act1 (W := fun cls d _ H => W cls d H) (i := 0) act (hr.mono (by decide)) tk (ex_var 4)))) (ex_tup (ax_cons (ex_var 2) (ax_cons (ex_var 4) ax_nil))) (ex_tup (ax_cons (ex_var 4) (ax_cons (ex_var 3) ax_nil)))) (gx_of (pg_tup rfl (pgs_cons (pg_name (i := 2) sc_least_number.nd rfl (.inl rfl)) (pgs_cons (pg_name (i := 3) sc_least_number.nd rfl (.inl rfl)) pgs_nil))) (kg_tup (kgs_cons (kg_name 2) (kgs_cons (kg_name 3) kgs_nil))))))))
  (bx_one (sx_ret (ex_var 3)))))))
theorem ok_least_hinge (T : Top K mg base) : FnOk PW w K mg base (L2.CX PW w) 6 T.a_least_hinge T.fd_least_hinge ["cover"] (spX K 1 m_least_hinge) :=
  fn3XM (k := 5) (g := g_least_hinge) 2 tab_least_hinge T.F_least_hinge sc_least_hinge rfl p_least_hinge (fun cdv A outer s H E hcd hr tk ps => (by_cons (sy_expr (ey_call (ok_look_at_cover T) (hr.mono (by decide)) T.m_look_at_cover T.F_look_at_cover.kp T.b_look_at_cover tk (ax_cons (ex_var 0) ax_nil) l_look_at_cover))
  (by_one (sy_of (sx_ret (ex_callG (kk := 2) (tab := tab_least_hinge) (fun B hB TT act => ok_least_number (T.up hB) act) (fun _ _ h => h) (hr.mono (by decide)) T.m_least_number T.F_least_number.kp T.b_least_number rfl (fun _ => rfl) rfl rfl (ax_cons (ex_mk (is := isM _ 2 tab_least_hinge) (j := 0) (kk := 2) (ps := ["hinge"]) (fun _ h => h) T.tb_least_hinge (hcd.symm.trans T.co_least_hinge) T.in_least_hinge T.un_least_hinge rfl rfl (by decide) (lamN_of rfl) (maskN_of (N2 := ["cover"]) rfl) (fun _ _ _ us hl => match us, hl with | [_], _ => rfl) (fun A outer s H E f c' hr => (ey_of (ex_cmp (op_eq2 hr.units) eqS (ex_ix (ex_call (ok_told_flat T) (hr.mono (by decide)) T.m_told_flat T.F_told_flat.kp T.b_told_flat rfl (ax_cons (ex_tup (ax_star (ex_sl (ex_var 0) ox_none (ox_some (ex_sub (ex_gI T.c_PARTS) ex_int))) (ax_cons (ex_var 1) ax_nil))) ax_nil) pass0 (hl := l_told_flat)) ex_int) (ex_gS T.c_FLAT) (nomark _))))) (ax_cons (ex_gI T.c_MOST_SIZE) ax_nil)) (hl := fun TT => l_least_number TT)))))))
theorem ok0_least_hinge (T : Top K mg base) : FnOk PW w K mg base CX0 6 T.a_least_hinge T.fd_least_hinge ["cover"] (spM K 1 (m0 m_least_hinge)) := fnX0 (ok_least_hinge T) rfl
theorem ok_spines_for (T : Top K mg base) : FnOk PW w K mg base (L2.CX PW w) 4 T.a_spines_for T.fd_spines_for ["thick", "board", "joint", "hinge"] (spX K 4 m_spines_for) :=
  fn3X (k := 3) (g := g_spines_for) T.F_spines_for sc_spines_for rfl p_spines_for (fun cdv A outer s H E hr tk ps => (by_cons (sy_for ps rfl (ix_seq (ex_tup (ax_cons (ex_var 0) (ax_cons (ex_var 1) (ax_cons (ex_var 2) (ax_cons (ex_var 3) ax_nil)))))) (gx_of (pg_name (i := 4) sc_spines_for.nd rfl (.inl rfl)) (kg_name 4))
  (by_one (sy_if (tx_not (tx_val (ex_call (ok_is_int T) (hr.mono (by decide)) T.m_is_int T.F_is_int.kp T.b_is_int rfl (ax_cons (ex_var 4) (ax_cons ex_int (ax_cons (ex_gI T.c_MOST_SIZE) ax_nil))) pass0 (hl := l_is_int))))
  (by_one (sy_raise T.e_BadInt.c T.tI (init_ok T.ini T.k2) T.bI (hr.mono (by decide)) tk (ex_var 4)))
  by_nil)))
  (by_cons (sy_of (sx_asg (ex_add (ex_var 0) (ex_mul ex_int (ex_var 1))) (gx_of (pg_name (i := 5) sc_spines_for.nd rfl (.inl rfl)) (kg_name 5))))
  (by_cons (sy_of (sx_asg (ex_callB (call_max2 rfl) max2S T.z_max boot_max3 (ax_cons ex_int (ax_cons (ex_sub (ex_var 5) (ex_mul ex_int (ex_var 2))) ax_nil))) (gx_of (pg_name (i := 6) sc_spines_for.nd rfl (.inl rfl)) (kg_name 6))))
  (by_cons (sy_of (sx_if (tx_cmp (op_ne2 hr.units) neS (ex_ix (ex_call (ok_told_flat T) (hr.mono (by decide)) T.m_told_flat T.F_told_flat.kp T.b_told_flat rfl (ax_cons (ex_tup (ax_cons (ex_var 0) (ax_cons (ex_var 1) (ax_cons (ex_var 6) (ax_cons (ex_var 2) (ax_cons (ex_var 3) ax_nil)))))) ax_nil) pass0 (hl := l_told_flat)) ex_int) (ex_gS T.c_FLAT) (nomark _))
  (bx_one (sx_ret ex_non))
  bx_nil))
  (by_cons (sy_of (sx_par (i := 7) (j := 8) rfl sc_spines_for.nd (ax_cons (ex_var 6) (ax_cons (ex_add (ex_add (ex_var 5) (ex_mul ex_int (ex_var 2))) ex_int) ax_nil))))
  (by_cons (sy_of (sx_while ps (tx_cmp op_gt gtS (ex_sub (ex_var 8) (ex_var 7)) ex_int (nomark _))
  (bx_cons (sx_asg (ex_fdiv (ex_add (ex_var 7) (ex_var 8)) ex_int) (gx_of (pg_name (i := 9) sc_spines_for.nd rfl (.inl rfl)) (kg_name 9)))
  (bx_one (sx_asg (ex_if (tx_cmp (op_eq2 hr.units) eqS (ex_ix (ex_call (ok_told_flat T) (hr.mono (by decide)) T.m_told_flat T.F_told_flat.kp T.b_told_flat rfl (ax_cons (ex_tup (ax_cons (ex_var 0) (ax_cons (ex_var 1) (ax_cons (ex_var 9) (ax_cons (ex_var 2) (ax_cons (ex_var 3) ax_nil)))))) ax_nil) pass0 (hl := l_told_flat)) ex_int) (ex_gS T.c_FLAT) (nomark _)) (ex_tup (ax_cons (ex_var 9) (ax_cons (ex_var 8) ax_nil))) (ex_tup (ax_cons (ex_var 7) (ax_cons (ex_var 9) ax_nil)))) (gx_of (pg_tup rfl (pgs_cons (pg_name (i := 7) sc_spines_for.nd rfl (.inl rfl)) (pgs_cons (pg_name (i := 8) sc_spines_for.nd rfl (.inl rfl)) pgs_nil))) (kg_tup (kgs_cons (kg_name 7) (kgs_cons (kg_name 8) kgs_nil)))))))))
  (by_one (sy_of (sx_ret (ex_tup (ax_cons (ex_var 6) (ax_cons (ex_var 7) ax_nil)))))))))))))
theorem ok0_spines_for (T : Top K mg base) : FnOk PW w K mg base CX0 4 T.a_spines_for T.fd_spines_for ["thick", "board", "joint", "hinge"] (spM K 4 (m0 m_spines_for)) := fnX0 (ok_spines_for T) rfl
theorem ok_law_pot (T : Top K mg base) : FnOk PW w K mg base CX0 1 T.a_law_pot T.fd_law_pot ["script", "place"] (spF K 2 m_law_pot) :=
  fn3F (k := 0) (g := g_law_pot) T.F_law_pot sc_law_pot rfl p_law_pot (fun cdv A outer s H E hr => (bf_cons (sx_asg (ex_if (tx_cmp op_lt ltS (ex_var 1) (ex_callB call_len_seq lenS T.z_len boot_len3 (ax_cons (ex_var 0) ax_nil)) (nomark _)) (ex_ix (ex_var 0) (ex_var 1)) (ex_add (ex_add (ex_mod (ex_callT call_int1 intS1 T.z_int boot_int3 (ax_cons (ex_callB (cr_sum2 rfl) sum2S T.z_sum boot_sum3 (ax_cons (ex_sl (ex_var 0) ox_none (ox_some ex_int)) ax_nil)) ax_nil)) ex_int) (ex_mul ex_int (ex_var 1))) ex_int)) (gx_of (pg_name (i := 2) sc_law_pot.nd rfl (.inl rfl)) (kg_name 2)))
  (bf_cons (sx_asg (ex_mul (ex_mod (ex_callT call_int1 intS1 T.z_int boot_int3 (ax_cons (ex_callB call_abs absS T.z_abs boot_abs3 (ax_cons (ex_var 2) ax_nil)) ax_nil)) (ex_pow (ex_pow ex_int ex_int) ex_int)) (ex_callT call_int1 intS1 T.z_int boot_int3 (ax_cons (ex_cmp op_ge geS (ex_callB call_abs absS T.z_abs boot_abs3 (ax_cons (ex_var 2) ax_nil)) (ex_pow ex_int ex_int) (nomark _)) ax_nil))) (gx_of (pg_name (i := 3) sc_law_pot.nd rfl (.inl rfl)) (kg_name 3)))
  (bf_cons (sx_asg (ex_mod (ex_callT call_int1 intS1 T.z_int boot_int3 (ax_cons (ex_var 2) ax_nil)) ex_int) (gx_of (pg_name (i := 4) sc_law_pot.nd rfl (.inl rfl)) (kg_name 4)))
  (bf_ret (fx_lst (ax_cons (ex_var 3) (ax_cons (ex_mod (ex_callT call_int1 intS1 T.z_int boot_int3 (ax_cons (ex_add (ex_add (ex_mul (ex_var 4) ex_int) (ex_mul (ex_mul ex_int (ex_var 1)) (ex_var 1))) ex_int) ax_nil)) ex_int) (ax_cons ex_int ax_nil)))))))))
theorem ok_law_take (T : Top K mg base) : FnOk PW w K mg base CX0 1 T.a_law_take T.fd_law_take ["pot", "upto"] (spM K 2 m_law_take) :=
  fn3 (k := 0) (g := g_law_take) T.F_law_take sc_law_take rfl p_law_take (fun cdv A outer s H E hr => (bx_cons (sx_if (tx_cmp op_gt gtS (ex_pot 0) ex_int (nomark _))
  (bx_cons (sx_asg (ex_mod (ex_callT call_int1 intS1 T.z_int boot_int3 (ax_cons (ex_pot 0) ax_nil)) (ex_var 1)) (gx_of (pg_name (i := 2) sc_law_take.nd rfl (.inl rfl)) (kg_name 2)))
  (bx_cons (sx_pot (ps_asg (ex_fdiv (ex_pot 0) (ex_var 1)) (pg_sub (pv 0) pe_int set_list)))
  (bx_one (sx_ret (ex_var 2)))))
  bx_nil)
  (bx_cons (sx_pot (ps_asg (ex_add (ex_pot 0) ex_int) (pg_sub (pv 0) pe_int set_list)))
  (bx_cons (sx_asg (ex_ix (ex_lst (ax_cons ex_int (ax_cons ex_int (ax_cons ex_int (ax_cons ex_int (ax_cons ex_int ax_nil)))))) (ex_mod (ex_callT call_int1 intS1 T.z_int boot_int3 (ax_cons (ex_pot 0) ax_nil)) ex_int)) (gx_of (pg_name (i := 3) sc_law_take.nd rfl (.inl rfl)) (kg_name 3)))
  (bx_cons (sx_asg (ex_mod (ex_callT call_int1 intS1 T.z_int boot_int3 (ax_cons (ex_pow (ex_callT call_int1 intS1 T.z_int boot_int3 (ax_cons (ex_add (ex_add (ex_pot 0) (ex_mul (ex_mul ex_int (ex_pot 0)) (ex_pot 0))) ex_int) ax_nil)) ex_int) ax_nil)) (ex_var 3)) (gx_of (pg_name (i := 4) sc_law_take.nd rfl (.inl rfl)) (kg_name 4)))
  (bx_cons (sx_asg (ex_mod (ex_callT call_int1 intS1 T.z_int boot_int3 (ax_cons (ex_mul (ex_var 4) (ex_add (ex_mod (ex_callT call_int1 intS1 T.z_int boot_int3 (ax_cons (ex_var 4) ax_nil)) ex_int) (ex_mul ex_int (ex_pot 0)))) ax_nil)) ex_int) (gx_of (pg_name (i := 4) sc_law_take.nd rfl (.inl rfl)) (kg_name 4)))
  (bx_one (sx_ret (ex_mod (ex_callT call_int1 intS1 T.z_int boot_int3 (ax_cons (ex_fdiv (ex_var 4) ex_int) ax_nil)) (ex_var 1))))))))))
theorem ok_law_of (T : Top K mg base) : FnOk PW w K mg base CX0 2 T.a_law_of T.fd_law_of ["pot", "some"] (spM K 2 m_law_of) :=
  fn3 (k := 1) (g := g_law_of) T.F_law_of sc_law_of rfl p_law_of (fun cdv A outer s H E hr => (bx_one (sx_ret (ex_ix (ex_var 1) (ex_call (ok_law_take T) (hr.mono (by decide)) T.m_law_take T.F_law_take.kp T.b_law_take rfl (ax_cons (ex_var 0) (ax_cons (ex_callB call_len_seq lenS T.z_len boot_len3 (ax_cons (ex_var 1) ax_nil)) ax_nil)) pass0 (hl := l_law_take))))))
theorem ok_law_cells (T : Top K mg base) : FnOk PW w K mg base CX0 1 T.a_law_cells T.fd_law_cells ["script", "most"] (spM K 2 m_law_cells) :=
  fn3 (k := 0) (g := g_law_cells) T.F_law_cells sc_law_cells rfl p_law_cells (fun cdv A outer s H E hr => (bx_one (sx_ret (fx_ex (fx_range1 T.z_list T.z_range (ex_callB (call_max2 rfl) max2S T.z_max boot_max3 (ax_cons ex_int (ax_cons (ex_callB (call_min2 rfl) min2S T.z_min boot_min3 (ax_cons (ex_var 1) (ax_cons (ex_callB call_len_seq lenS T.z_len boot_len3 (ax_cons (ex_var 0) ax_nil)) ax_nil))) ax_nil)))) (fun _ _ _ h => h)))))
theorem ok_law_heard (T : Top K mg base) {TT : TLs} (act : ActsB PW w K mg base 7 TT) : FnOk PW w K mg base CX0 9 T.a_law_heard T.fd_law_heard ["call"] (spM K 1 (m_law_heard TT)) :=
  fn3 (k := 8) (g := g_law_heard TT) T.F_law_heard sc_law_heard rfl (p_law_heard TT) (fun cdv A outer s H E hr => (bx_cons (sx_asg (ex_tup (ax_cons ex_non (ax_cons ex_non ax_nil))) (gx_of (pg_tup rfl (pgs_cons (pg_name (i := 1) sc_law_heard.nd rfl (.inl rfl)) (pgs_cons (pg_name (i := 2) sc_law_heard.nd rfl (.inl rfl)) pgs_nil))) (kg_tup (kgs_cons (kg_name 1) (kgs_cons (kg_name 2) kgs_nil)))))
  (bx_cons (sx_tryC (errs := errs) (ie := 3) (ic := 1) (errX T) ⟨rfl, by decide, .inl T.g_BindError⟩ (fun W pn xe tk => es_act0 (i := 0) act (hr.mono (by decide)) tk) (fun pn xe => (gx_of (pg_name (i := 2) sc_law_heard.nd rfl (.inl rfl)) (kg_name 2))) sc_law_heard.nd)
  (bx_one (sx_ret (ex_tup (ax_cons (ex_var 1) (ax_cons (ex_var 2) ax_nil))))))))
theorem ok_law_odd (T : Top K mg base) : FnOk PW w K mg base CX0 3 T.a_law_odd T.fd_law_odd ["pot"] (spM K 1 m_law_odd) :=
  fn3 (k := 2) (g := g_law_odd) T.F_law_odd sc_law_odd rfl p_law_odd (fun cdv A outer s H E hr => (bx_cons (sx_own 1 (fx_lst (ax_cons ex_non (ax_cons ex_bl (ax_cons ex_bl (ax_cons ex_int (ax_cons ex_int (ax_cons (ex_neg ex_int) (ax_cons ex_int (ax_cons (ex_pow ex_int ex_int) (ax_cons ex_str (ax_cons ex_str (ax_cons ex_str (ax_cons ex_str (ax_cons (ex_tup ax_nil) (ax_cons (ex_lst ax_nil) (ax_cons ex_dct0 (ax_cons (ex_tup (ax_cons ex_int ax_nil)) (ax_cons (ex_tup (ax_cons (ex_tup ax_nil) ax_nil)) (ax_cons (ex_lst (ax_cons ex_int ax_nil)) (ax_cons (ex_tup (ax_cons ex_int (ax_cons ex_int ax_nil))) ax_nil)))))))))))))))))))) sc_law_odd.nd)
  (bx_cons (by refine sx_frz 1 ?_; exact (sx_own 1 (fx_cat (ex_var 1) (ex_lst (ax_cons (ex_tup (ax_cons ex_int (ax_cons ex_int ax_nil))) (ax_cons (ex_tup (ax_cons ex_non ax_nil)) (ax_cons ex_dct1 (ax_cons (ex_tup (ax_cons (ex_tup (ax_cons ex_int (ax_cons ex_int ax_nil))) (ax_cons (ex_tup (ax_cons ex_int (ax_cons ex_int ax_nil))) ax_nil))) (ax_cons (ex_tup (ax_cons ex_str (ax_cons (ex_tup ax_nil) ax_nil))) (ax_cons (ex_tup (ax_cons ex_str (ax_cons ex_int (ax_cons ex_int ax_nil)))) ax_nil)))))))) sc_law_odd.nd))
  (bx_cons (sx_app 1 (pe_bm PySem.F.plainAttrs_list PySem.F.slot_list_append PySem.F.type_list_append mt_append (pv 1) (pa_cons (ex_tup (ax_cons ex_int (ax_cons ex_int ax_nil))) pa_nil)))
  (bx_one (sx_ret (ex_call (ok_law_of T) (hr.mono (by decide)) T.m_law_of T.F_law_of.kp T.b_law_of rfl (ax_cons (ex_var 0) (ax_cons (ex_var 1) ax_nil)) pass0 (hl := l_law_of))))))))
theorem ok_law_is_int (T : Top K mg base) : FnOk PW w K mg base CX0 1 T.a_law_is_int T.fd_law_is_int ["value", "low", "high"] (spM K 3 m_law_is_int) :=
  fn3 (k := 0) (g := g_law_is_int) T.F_law_is_int sc_law_is_int rfl p_law_is_int (fun cdv A outer s H E hr => (bx_one (sx_ret (ex_and (ex_callB call_isi isiS T.z_isinstance boot_isinstance3 (ax_cons (ex_var 0) (ax_cons (ex_ty T.z_int boot_int3) ax_nil))) (ex_and (ex_not (ex_callB call_isi isiS T.z_isinstance boot_isinstance3 (ax_cons (ex_var 0) (ax_cons (ex_ty T.z_bool boot_bool3) ax_nil)))) (ex_one (ex_ch op_le leS op_le leS (ex_var 1) (ex_var 0) (ex_var 2))))))))
theorem ok_law_bent (T : Top K mg base) : ∀ n : Nat, FnOk PW w K mg base CX0 (4 + n) T.a_law_bent T.fd_law_bent ["pot", "value"] (spM K 2 (m_law_bent n))
  | 0 => ⟨fun _ _ _ _ ⟨_, _, _, _, _, _, _, _, h, _⟩ => h.elim, fun _ _ _ _ _ _ _ _ _ _ _ _ _ ⟨_, _, _, _, _, _, _, _, h, _⟩ => h.elim⟩
  | n + 1 => by
    have ih := ok_law_bent T n
    have ihl := l_law_bent n
    exact fn3 (k := 4 + n) (g := g_law_bent (m_law_bent n)) T.F_law_bent sc_law_bent rfl (fun _ _ _ h => h.2) (fun cdv A outer s H E hr => (bx_cons (sx_if (wx_pt (wx_and (tx_val (ex_callB call_isi isiS T.z_isinstance boot_isinstance3 (ax_cons (ex_var 1) (ax_cons (ex_ty T.z_tuple boot_tuple3) ax_nil)))) (wx_and (tx_cmp (op_ne2 hr.units) neS (ex_var 1) (ex_tup ax_nil) (nomark _)) (wx_and1 (tx_cmp op_gt gtS (ex_call (ok_law_take T) (hr.mono (by omega)) T.m_law_take T.F_law_take.kp T.b_law_take rfl (ax_cons (ex_var 0) (ax_cons ex_int ax_nil)) pass0 (hl := l_law_take)) ex_int (nomark _))))))
  (bx_cons (sx_asg (ex_call (ok_law_take T) (hr.mono (by omega)) T.m_law_take T.F_law_take.kp T.b_law_take rfl (ax_cons (ex_var 0) (ax_cons (ex_callB call_len_seq lenS T.z_len boot_len3 (ax_cons (ex_var 1) ax_nil)) ax_nil)) pass0 (hl := l_law_take)) (gx_of (pg_name (i := 2) sc_law_bent.nd rfl (.inl rfl)) (kg_name 2)))
  (bx_one (sx_ret (ex_add (ex_add (ex_sl (ex_var 1) ox_none (ox_some (ex_var 2))) (ex_tup (ax_cons (ex_call ih (hr.mono (by omega)) T.m_law_bent T.F_law_bent.kp T.b_law_bent rfl (ax_cons (ex_var 0) (ax_cons (ex_ix (ex_var 1) (ex_var 2)) ax_nil)) pass0 (hl := ihl)) ax_nil))) (ex_sl (ex_var 1) (ox_some (ex_add (ex_var 2) ex_int)) ox_none)))))
  bx_nil)
  (bx_cons (sx_if (tx_val (ex_callB call_isi isiS T.z_isinstance boot_isinstance3 (ax_cons (ex_var 1) (ax_cons (ex_ty T.z_tuple boot_tuple3) ax_nil))))
  (bx_one (sx_ret (ex_call (ok_law_of T) (hr.mono (by omega)) T.m_law_of T.F_law_of.kp T.b_law_of rfl (ax_cons (ex_var 0) (ax_cons (ex_lst (ax_cons (fx_ex (fx_list T.z_list boot_list3 (ex_var 1)) (fun _ _ _ h => h)) (ax_cons (ex_sl (ex_var 1) (ox_some ex_int) ox_none) (ax_cons (ex_sl (ex_var 1) ox_none (ox_some (ex_neg ex_int))) (ax_cons (ex_add (ex_var 1) (ex_sl (ex_var 1) (ox_some (ex_neg ex_int)) ox_none)) (ax_cons (ex_rev (ex_var 1)) (ax_cons (ex_tup ax_nil) (ax_cons ex_non ax_nil)))))))) ax_nil)) pass0 (hl := l_law_of))))
  bx_nil)
  (bx_cons (sx_if (tx_val (ex_callB call_isi isiS T.z_isinstance boot_isinstance3 (ax_cons (ex_var 1) (ax_cons (ex_ty T.z_bool boot_bool3) ax_nil))))
  (bx_one (sx_ret (ex_call (ok_law_of T) (hr.mono (by omega)) T.m_law_of T.F_law_of.kp T.b_law_of rfl (ax_cons (ex_var 0) (ax_cons (ex_lst (ax_cons (ex_not (ex_var 1)) (ax_cons (ex_callT call_int1 intS1 T.z_int boot_int3 (ax_cons (ex_var 1) ax_nil)) (ax_cons ex_non ax_nil)))) ax_nil)) pass0 (hl := l_law_of))))
  bx_nil)
  (bx_cons (sx_if (tx_val (ex_callB call_isi isiS T.z_isinstance boot_isinstance3 (ax_cons (ex_var 1) (ax_cons (ex_ty T.z_int boot_int3) ax_nil))))
  (bx_one (sx_ret (ex_call (ok_law_of T) (hr.mono (by omega)) T.m_law_of T.F_law_of.kp T.b_law_of rfl (ax_cons (ex_var 0) (ax_cons (ex_lst (ax_cons (ex_add (ex_var 1) ex_int) (ax_cons (ex_sub (ex_var 1) ex_int) (ax_cons (ex_sub (ex_neg (ex_var 1)) ex_int) (ax_cons (ex_callT call_str_int strIS T.z_str boot_str3 (ax_cons (ex_var 1) ax_nil)) (ax_cons (ex_cmp (op_eq2 hr.units) eqS (ex_var 1) ex_int (nomark _)) (ax_cons ex_non (ax_cons (ex_tup (ax_cons (ex_var 1) ax_nil)) (ax_cons (ex_pow ex_int ex_int) ax_nil))))))))) ax_nil)) pass0 (hl := l_law_of))))
  bx_nil)
  (bx_cons (sx_if (tx_val (ex_callB call_isi isiS T.z_isinstance boot_isinstance3 (ax_cons (ex_var 1) (ax_cons (ex_ty T.z_str boot_str3) ax_nil))))
  (bx_one (sx_ret (ex_call (ok_law_of T) (hr.mono (by omega)) T.m_law_of T.F_law_of.kp T.b_law_of rfl (ax_cons (ex_var 0) (ax_cons (ex_lst (ax_cons (ex_add (ex_var 1) ex_str) (ax_cons (ex_slS (ex_var 1) (ox_some ex_int) ox_none) (ax_cons (ex_upper (ex_var 1)) (ax_cons ex_str (ax_cons ex_non (ax_cons ex_int ax_nil))))))) ax_nil)) pass0 (hl := l_law_of))))
  bx_nil)
  (bx_one (sx_ret (ex_call (ok_law_odd T) (hr.mono (by omega)) T.m_law_odd T.F_law_odd.kp T.b_law_odd rfl (ax_cons (ex_var 0) ax_nil) pass0 (hl := l_law_odd))))))))))
theorem ok_law_is_bool (T : Top K mg base) : FnOk PW w K mg base CX0 1 T.a_law_is_bool T.fd_law_is_bool ["told", "due"] (spM K 2 m_law_is_bool) :=
  fn3 (k := 0) (g := g_law_is_bool) T.F_law_is_bool sc_law_is_bool rfl p_law_is_bool (fun cdv A outer s H E hr => (bx_one (sx_ret (ex_and (ex_callB call_isi isiS T.z_isinstance boot_isinstance3 (ax_cons (ex_var 0) (ax_cons (ex_ty T.z_bool boot_bool3) ax_nil))) (ex_one (ex_cmp (op_eq2 hr.units) eqS (ex_var 0) (ex_var 1) (nomark _)))))))
theorem ok_law_closes (T : Top K mg base) : FnOk PW w K mg base CX0 1 T.a_law_closes T.fd_law_closes ["cover"] (spM K 1 m_law_closes) :=
  fn3 (k := 0) (g := g_law_closes) T.F_law_closes sc_law_closes rfl p_law_closes (fun cdv A outer s H E hr => (bx_cons (sx_asg (ex_var 0) (gx_of (pg_tup rfl (pgs_cons (pg_name (i := 1) sc_law_closes.nd rfl (.inl rfl)) (pgs_cons (pg_name (i := 2) sc_law_closes.nd rfl (.inl rfl)) (pgs_cons (pg_name (i := 3) sc_law_closes.nd rfl (.inl rfl)) (pgs_cons (pg_name (i := 4) sc_law_closes.nd rfl (.inl rfl)) (pgs_cons (pg_name (i := 5) sc_law_closes.nd rfl (.inl rfl)) pgs_nil)))))) (kg_tup (kgs_cons (kg_name 1) (kgs_cons (kg_name 2) (kgs_cons (kg_name 3) (kgs_cons (kg_name 4) (kgs_cons (kg_name 5) kgs_nil))))))))
  (bx_cons (sx_asg (ex_add (ex_var 1) (ex_mul ex_int (ex_var 2))) (gx_of (pg_name (i := 6) sc_law_closes.nd rfl (.inl rfl)) (kg_name 6)))
  (bx_cons (sx_if (tx_cmp op_lt ltS (ex_add (ex_var 3) (ex_mul ex_int (ex_var 4))) (ex_var 6) (nomark _))
  (bx_one (sx_ret (ex_tup (ax_cons ex_str (ax_cons (ex_sub (ex_sub (ex_var 6) (ex_var 3)) (ex_mul ex_int (ex_var 4))) ax_nil)))))
  bx_nil)
  (bx_one (sx_ret (ex_if (tx_cmp op_gt gtS (ex_var 3) (ex_add (ex_var 6) (ex_mul ex_int (ex_var 4))) (nomark _)) (ex_tup (ax_cons ex_str (ax_cons (ex_sub (ex_sub (ex_var 3) (ex_var 6)) (ex_mul ex_int (ex_var 4))) ax_nil))) (ex_tup (ax_cons ex_str ax_nil)))))))))
theorem ok_law_can_gap (T : Top K mg base) : FnOk PW w K mg base CX0 1 T.a_law_can_gap T.fd_law_can_gap ["cover", "gap"] (spM K 2 m_law_can_gap) :=
  fn3 (k := 0) (g := g_law_can_gap) T.F_law_can_gap sc_law_can_gap rfl p_law_can_gap (fun cdv A outer s H E hr => (bx_cons (sx_asg (ex_var 0) (gx_of (pg_tup rfl (pgs_cons (pg_name (i := 2) sc_law_can_gap.nd rfl (.inl rfl)) (pgs_cons (pg_name (i := 3) sc_law_can_gap.nd rfl (.inl rfl)) (pgs_cons (pg_name (i := 4) sc_law_can_gap.nd rfl (.inl rfl)) (pgs_cons (pg_name (i := 5) sc_law_can_gap.nd rfl (.inl rfl)) (pgs_cons (pg_name (i := 6) sc_law_can_gap.nd rfl (.inl rfl)) pgs_nil)))))) (kg_tup (kgs_cons (kg_name 2) (kgs_cons (kg_name 3) (kgs_cons (kg_name 4) (kgs_cons (kg_name 5) (kgs_cons (kg_name 6) kgs_nil))))))))
  (bx_cons (sx_if (wx_pt (wx_or (tx_cmp op_lt ltS (ex_var 1) ex_int (nomark _)) (wx_or (tx_cmp op_gt gtS (ex_var 1) (ex_mul ex_int (ex_var 6)) (nomark _)) (wx_or (tx_cmp op_gt gtS (ex_var 1) (ex_add (ex_var 4) (ex_mul ex_int (ex_var 5))) (nomark _)) (wx_or1 (tx_cmp op_lt ltS (ex_var 1) (ex_sub (ex_var 4) (ex_mul ex_int (ex_var 5))) (nomark _)))))))
  (bx_one (sx_ret ex_bl))
  bx_nil)
  (bx_one (sx_ret (ex_or (ex_cmp op_le leS (ex_var 4) (ex_var 1) (nomark _)) (ex_one (ex_cmp op_le leS (ex_pow (ex_var 4) ex_int) (ex_add (ex_pow (ex_var 1) ex_int) (ex_pow (ex_var 3) ex_int)) (nomark _)))))))))
theorem ok_law_greatest (T : Top K mg base) : FnOk PW w K mg base CX0 1 T.a_law_greatest T.fd_law_greatest ["cover"] (spM K 1 m_law_greatest) :=
  fn3 (k := 0) (g := g_law_greatest) T.F_law_greatest sc_law_greatest rfl p_law_greatest (fun cdv A outer s H E hr => (bx_cons (sx_asg (ex_var 0) (gx_of (pg_tup rfl (pgs_cons (pg_name (i := 1) sc_law_greatest.nd rfl (.inl rfl)) (pgs_cons (pg_name (i := 2) sc_law_greatest.nd rfl (.inl rfl)) (pgs_cons (pg_name (i := 3) sc_law_greatest.nd rfl (.inl rfl)) (pgs_cons (pg_name (i := 4) sc_law_greatest.nd rfl (.inl rfl)) (pgs_cons (pg_name (i := 5) sc_law_greatest.nd rfl (.inl rfl)) pgs_nil)))))) (kg_tup (kgs_cons (kg_name 1) (kgs_cons (kg_name 2) (kgs_cons (kg_name 3) (kgs_cons (kg_name 4) (kgs_cons (kg_name 5) kgs_nil))))))))
  (bx_cons (sx_asg (ex_callB (call_min2 rfl) min2S T.z_min boot_min3 (ax_cons (ex_mul ex_int (ex_var 5)) (ax_cons (ex_add (ex_var 3) (ex_mul ex_int (ex_var 4))) ax_nil))) (gx_of (pg_name (i := 6) sc_law_greatest.nd rfl (.inl rfl)) (kg_name 6)))
  (bx_one (sx_ret (ex_if (tx_cmp op_ge geS (ex_var 6) (ex_sub (ex_var 3) (ex_mul ex_int (ex_var 4))) (nomark _)) (ex_var 6) ex_non))))))
theorem ok_law_is_due (T : Top K mg base) : FnOk PW w K mg base CX0 2 T.a_law_is_due T.fd_law_is_due ["cover", "value"] (spM K 2 m_law_is_due) :=
  fn3 (k := 1) (g := g_law_is_due) T.F_law_is_due sc_law_is_due rfl p_law_is_due (fun cdv A outer s H E hr => (bx_cons (sx_if (wx_pt (wx_or (tx_not (tx_val (ex_callB call_isi isiS T.z_isinstance boot_isinstance3 (ax_cons (ex_var 1) (ax_cons (ex_ty T.z_tuple boot_tuple3) ax_nil))))) (wx_or (tx_cmp (op_nin3 (u66 hr)) ninS (ex_callB call_len_seq lenS T.z_len boot_len3 (ax_cons (ex_var 1) ax_nil)) (ex_tup (ax_cons ex_int (ax_cons ex_int ax_nil))) rfl) (wx_or1 (tx_not (tx_val (ex_callB call_isi isiS T.z_isinstance boot_isinstance3 (ax_cons (ex_ix (ex_var 1) ex_int) (ax_cons (ex_ty T.z_str boot_str3) ax_nil)))))))))
  (bx_one (sx_ret ex_bl))
  bx_nil)
  (bx_cons (sx_if (tx_not (tx_val (ex_callB (cr_all rfl) allS T.z_all boot_all3 (ax_cons (fx_ex (fx_comp (own := [("number", 2)]) rfl sc_law_is_due.nd (ix_seq (ex_sl (ex_var 1) (ox_some ex_int) ox_none)) (blkOk_by rfl) (fun _ _ _ _ _ => (pg_name (i := 2) sc_law_is_due.nd rfl (.inl rfl))) (kg_name 2) (fun _ _ _ _ _ => pts_nil) kt_nil (fun _ _ _ _ _ => (ex_call (ok_law_is_int T) (hr.mono (by decide)) T.m_law_is_int T.F_law_is_int.kp T.b_law_is_int rfl (ax_cons (ex_var 2) (ax_cons ex_int (ax_cons (ex_pow ex_int ex_int) ax_nil))) pass0 (hl := l_law_is_int))) (by decide)) (fun _ _ _ h => h)) ax_nil))))
  (bx_one (sx_ret ex_bl))
  bx_nil)
  (bx_cons (sx_asg (ex_tup (ax_cons (ex_call (ok_law_greatest T) (hr.mono (by decide)) T.m_law_greatest T.F_law_greatest.kp T.b_law_greatest rfl (ax_cons (ex_var 0) ax_nil) pass0 (hl := l_law_greatest)) (ax_cons (ex_var 0) ax_nil))) (gx_of (pg_tup rfl (pgs_cons (pg_name (i := 3) sc_law_is_due.nd rfl (.inl rfl)) (pgs_cons (pg_tup rfl (pgs_cons (pg_name (i := 4) sc_law_is_due.nd rfl (.inl rfl)) (pgs_cons (pg_name (i := 5) sc_law_is_due.nd rfl (.inl rfl)) (pgs_cons (pg_name (i := 6) sc_law_is_due.nd rfl (.inl rfl)) (pgs_cons (pg_name (i := 7) sc_law_is_due.nd rfl (.inl rfl)) (pgs_cons (pg_name (i := 8) sc_law_is_due.nd rfl (.inl rfl)) pgs_nil)))))) pgs_nil))) (kg_tup (kgs_cons (kg_name 3) (kgs_cons (kg_tup (kgs_cons (kg_name 4) (kgs_cons (kg_name 5) (kgs_cons (kg_name 6) (kgs_cons (kg_name 7) (kgs_cons (kg_name 8) kgs_nil)))))) kgs_nil)))))
  (bx_cons (sx_if (tx_cmp (op_eq2 hr.units) eqS (ex_ix (ex_var 1) ex_int) ex_str (nomark _))
  (bx_one (sx_ret (ex_and (ex_cmp (op_eq2 hr.units) eqS (ex_callB call_len_seq lenS T.z_len boot_len3 (ax_cons (ex_var 1) ax_nil)) ex_int (nomark _)) (ex_one (ex_call (ok_law_can_gap T) (hr.mono (by decide)) T.m_law_can_gap T.F_law_can_gap.kp T.b_law_can_gap rfl (ax_cons (ex_var 0) (ax_cons (ex_ix (ex_var 1) ex_int) ax_nil)) pass0 (hl := l_law_can_gap))))))
  bx_nil)
  (bx_cons (sx_if (tx_cmp (op_eq2 hr.units) eqS (ex_ix (ex_var 1) ex_int) ex_str (nomark _))
  (bx_one (sx_ret (ex_and (ex_cmp (op_eq2 hr.units) eqS (ex_callB call_len_seq lenS T.z_len boot_len3 (ax_cons (ex_var 1) ax_nil)) ex_int (nomark _)) (ex_and (ex_cmp op_isN isS (ex_var 3) ex_non (nomark _)) (ex_one (ex_cmp (op_eq2 hr.units) eqS (ex_ix (ex_var 1) ex_int) (ex_sub (ex_sub (ex_var 6) (ex_mul ex_int (ex_var 7))) (ex_mul ex_int (ex_var 8))) (nomark _)))))))
  bx_nil)
  (bx_cons (sx_if (wx_pt (wx_or (tx_cmp (op_ne2 hr.units) neS (ex_ix (ex_var 1) ex_int) ex_str (nomark _)) (wx_or (tx_cmp (op_ne2 hr.units) neS (ex_callB call_len_seq lenS T.z_len boot_len3 (ax_cons (ex_var 1) ax_nil)) ex_int (nomark _)) (wx_or (tx_cmp op_isN isS (ex_var 3) ex_non (nomark _)) (wx_or1 (tx_val (ex_call (ok_law_can_gap T) (hr.mono (by decide)) T.m_law_can_gap T.F_law_can_gap.kp T.b_law_can_gap rfl (ax_cons (ex_var 0) (ax_cons (ex_var 3) ax_nil)) pass0 (hl := l_law_can_gap))))))))
  (bx_one (sx_ret ex_bl))
  bx_nil)
  (bx_one (sx_ret (ex_and (ex_cmp (op_eq2 hr.units) eqS (ex_ix (ex_var 1) ex_int) (ex_var 3) (nomark _)) (ex_one (ex_cmp (op_eq2 hr.units) eqS (ex_ix (ex_var 1) ex_int) (ex_sub (ex_sub (ex_pow (ex_var 6) ex_int) (ex_pow (ex_var 3) ex_int)) (ex_pow (ex_var 5) ex_int)) (nomark _)))))))))))))
theorem ok_law_cover_drawn (T : Top K mg base) : FnOk PW w K mg base CX0 3 T.a_law_cover_drawn T.fd_law_cover_drawn ["pot"] (spM K 1 m_law_cover_drawn) :=
  fn3 (k := 2) (g := g_law_cover_drawn) T.F_law_cover_drawn sc_law_cover_drawn rfl p_law_cover_drawn (fun cdv A outer s H E hr => (bx_cons (sx_asg (ex_call (ok_law_of T) (hr.mono (by decide)) T.m_law_of T.F_law_of.kp T.b_law_of rfl (ax_cons (ex_var 0) (ax_cons (ex_lst (ax_cons ex_int (ax_cons ex_int (ax_cons (ex_pow ex_int ex_int) ax_nil)))) ax_nil)) pass0 (hl := l_law_of)) (gx_of (pg_name (i := 1) sc_law_cover_drawn.nd rfl (.inr rfl)) (kg_name 1)))
  (bx_cons (sx_ownL 2 sc_law_cover_drawn.nd (own := [("part", 3)]) rfl sc_law_cover_drawn.nd (ix_range1 T.z_range (ax_cons ex_int ax_nil)) (blkOk_by rfl) (fun _ _ _ _ _ => (pg_name (i := 3) sc_law_cover_drawn.nd rfl (.inl rfl))) (kg_name 3) (fun _ _ _ _ _ => pts_nil) kt_nil (fun _ _ _ _ _ => (ex_callT call_int1 intS1 T.z_int boot_int3 (ax_cons (ex_call (ok_law_take T) (hr.mono (by decide)) T.m_law_take T.F_law_take.kp T.b_law_take rfl (ax_cons (ex_var 0) (ax_cons (ex_add (ex_var 1) ex_int) ax_nil)) pass0 (hl := l_law_take)) ax_nil))) (by decide))
  (bx_cons (sx_if (tx_cmp (op_eq2 hr.units) eqS (ex_call (ok_law_take T) (hr.mono (by decide)) T.m_law_take T.F_law_take.kp T.b_law_take rfl (ax_cons (ex_var 0) (ax_cons ex_int ax_nil)) pass0 (hl := l_law_take)) ex_int (nomark _))
  (bx_cons (sx_asg (ex_call (ok_law_of T) (hr.mono (by decide)) T.m_law_of T.F_law_of.kp T.b_law_of rfl (ax_cons (ex_var 0) (ax_cons (ex_lst (ax_cons (ex_tup (ax_cons ex_int (ax_cons ex_int (ax_cons ex_int ax_nil)))) (ax_cons (ex_tup (ax_cons ex_int (ax_cons ex_int (ax_cons ex_int ax_nil)))) (ax_cons (ex_tup (ax_cons ex_int (ax_cons ex_int (ax_cons ex_int ax_nil)))) (ax_cons (ex_tup (ax_cons ex_int (ax_cons ex_int (ax_cons ex_int ax_nil)))) (ax_cons (ex_tup (ax_cons ex_int (ax_cons ex_int (ax_cons ex_int ax_nil)))) ax_nil)))))) ax_nil)) pass0 (hl := l_law_of)) (gx_of (pg_tup rfl (pgs_cons (pg_name (i := 4) sc_law_cover_drawn.nd rfl (.inl rfl)) (pgs_cons (pg_name (i := 5) sc_law_cover_drawn.nd rfl (.inl rfl)) (pgs_cons (pg_name (i := 6) sc_law_cover_drawn.nd rfl (.inl rfl)) pgs_nil)))) (kg_tup (kgs_cons (kg_name 4) (kgs_cons (kg_name 5) (kgs_cons (kg_name 6) kgs_nil))))))
  (bx_one (sx_swap3 2 (ps_asg (ex_tup (ax_cons (ex_var 4) (ax_cons (ex_sub (ex_add (ex_var 6) (ex_callT call_int1 intS1 T.z_int boot_int3 (ax_cons (ex_call (ok_law_take T) (hr.mono (by decide)) T.m_law_take T.F_law_take.kp T.b_law_take rfl (ax_cons (ex_var 0) (ax_cons ex_int ax_nil)) pass0 (hl := l_law_take)) ax_nil))) ex_int) (ax_cons (ex_fdiv (ex_var 5) ex_int) ax_nil)))) (pg_tup rfl (pgs_cons (pg_sub (pv 2) ex_int set_list) (pgs_cons (pg_sub (pv 2) ex_int set_list) (pgs_cons (pg_sub (pv 2) ex_int set_list) pgs_nil))))))))
  bx_nil)
  (bx_one (sx_ret (ex_callT call_tuple_of tupleS T.z_tuple boot_tuple3 (ax_cons (ex_var 2) ax_nil))))))))
theorem ok_law_are_refused (T : Top K mg base) : FnOk PW w K mg base CX0 10 T.a_law_are_refused T.fd_law_are_refused ["pot", "cover"] (spM K 2 m_law_are_refused) :=
  fn3M (k := 9) (g := g_law_are_refused) 6 tab_law_are_refused T.F_law_are_refused sc_law_are_refused rfl p_law_are_refused (fun cdv A outer s H E hcd hr => (bx_cons (sx_asg (ex_lst (ax_cons ex_non (ax_cons (ex_tup ax_nil) (ax_cons (ex_sl (ex_var 1) ox_none (ox_some ex_int)) (ax_cons (ex_add (ex_var 1) (ex_tup (ax_cons ex_int ax_nil))) (ax_cons (fx_ex (fx_list T.z_list boot_list3 (ex_var 1)) (fun _ _ _ h => h)) (ax_cons (ex_add (ex_tup (ax_cons (ex_neg ex_int) ax_nil)) (ex_sl (ex_var 1) (ox_some ex_int) ox_none)) (ax_cons (ex_add (ex_tup (ax_cons (ex_add (ex_pow ex_int ex_int) ex_int) ax_nil)) (ex_sl (ex_var 1) (ox_some ex_int) ox_none)) ax_nil)))))))) (gx_of (pg_name (i := 2) sc_law_are_refused.nd rfl (.inl rfl)) (kg_name 2)))
  (bx_cons (sx_asg (ex_call (ok_law_of T) (hr.mono (by decide)) T.m_law_of T.F_law_of.kp T.b_law_of rfl (ax_cons (ex_var 0) (ax_cons (ex_add (ex_var 2) (ex_lst (ax_cons (ex_add (ex_tup (ax_cons ex_bl ax_nil)) (ex_sl (ex_var 1) (ox_some ex_int) ox_none)) ax_nil))) ax_nil)) pass0 (hl := l_law_of)) (gx_of (pg_name (i := 3) sc_law_are_refused.nd rfl (.inr rfl)) (kg_name 3)))
  (bx_cons (sx_own 4 (fx_lst (ax_cons (ex_mk (is := isM _ 6 tab_law_are_refused) (j := 0) (kk := 6) (ps := []) (fun _ h => h) T.tb_law_are_refused (hcd.symm.trans T.co_law_are_refused) T.in_law_are_refused T.un_law_are_refused rfl rfl (by decide) (lamN_of rfl) (maskN_of (N2 := ["pot", "cover", "wrong", "bad", "asks", "caught", "ask", "one"]) rfl) (fun _ _ _ us hl => match us, hl with | [], _ => rfl) (fun A outer s H E f c' hr => (ey_call (ok_closes T) (hr.mono (by decide)) T.m_closes T.F_closes.kp T.b_closes (takes_of rfl rfl rfl rfl) (ax_cons (ex_var 3) ax_nil) l_closes))) ax_nil)) sc_law_are_refused.nd)
  (bx_cons (sx_app 4 (pe_bm PySem.F.plainAttrs_list PySem.F.slot_list_append PySem.F.type_list_append mt_append (pv 4) (pa_cons (ex_mk (is := isM _ 6 tab_law_are_refused) (j := 1) (kk := 6) (ps := []) (fun _ h => h) T.tb_law_are_refused (hcd.symm.trans T.co_law_are_refused) T.in_law_are_refused T.un_law_are_refused rfl rfl (by decide) (lamN_of rfl) (maskN_of (N2 := ["pot", "cover", "wrong", "bad", "asks", "caught", "ask", "one"]) rfl) (fun _ _ _ us hl => match us, hl with | [], _ => rfl) (fun A outer s H E f c' hr => (ey_call (ok_shows_closes T) (hr.mono (by decide)) T.m_shows_closes T.F_shows_closes.kp T.b_shows_closes (takes_of rfl rfl rfl rfl) (ax_cons (ex_var 3) (ax_cons ex_non ax_nil)) l_shows_closes))) pa_nil)))
  (bx_cons (sx_app 4 (pe_bm PySem.F.plainAttrs_list PySem.F.slot_list_append PySem.F.type_list_append mt_append (pv 4) (pa_cons (ex_mk (is := isM _ 6 tab_law_are_refused) (j := 2) (kk := 6) (ps := []) (fun _ h => h) T.tb_law_are_refused (hcd.symm.trans T.co_law_are_refused) T.in_law_are_refused T.un_law_are_refused rfl rfl (by decide) (lamN_of rfl) (maskN_of (N2 := ["pot", "cover", "wrong", "bad", "asks", "caught", "ask", "one"]) rfl) (fun _ _ _ us hl => match us, hl with | [], _ => rfl) (fun A outer s H E f c' hr => (ey_call (ok_opens_flat T) (hr.mono (by decide)) T.m_opens_flat T.F_opens_flat.kp T.b_opens_flat (takes_of rfl rfl rfl rfl) (ax_cons (ex_var 3) ax_nil) l_opens_flat))) pa_nil)))
  (bx_cons (sx_app 4 (pe_bm PySem.F.plainAttrs_list PySem.F.slot_list_append PySem.F.type_list_append mt_append (pv 4) (pa_cons (ex_mk (is := isM _ 6 tab_law_are_refused) (j := 3) (kk := 6) (ps := []) (fun _ h => h) T.tb_law_are_refused (hcd.symm.trans T.co_law_are_refused) T.in_law_are_refused T.un_law_are_refused rfl rfl (by decide) (lamN_of rfl) (maskN_of (N2 := ["pot", "cover", "wrong", "bad", "asks", "caught", "ask", "one"]) rfl) (fun _ _ _ us hl => match us, hl with | [], _ => rfl) (fun A outer s H E f c' hr => (ey_call (ok_shows_opens_flat T) (hr.mono (by decide)) T.m_shows_opens_flat T.F_shows_opens_flat.kp T.b_shows_opens_flat (takes_of rfl rfl rfl rfl) (ax_cons (ex_var 3) (ax_cons ex_non ax_nil)) l_shows_opens_flat))) pa_nil)))
  (bx_cons (sx_app 4 (pe_bm PySem.F.plainAttrs_list PySem.F.slot_list_append PySem.F.type_list_append mt_append (pv 4) (pa_cons (ex_mk (is := isM _ 6 tab_law_are_refused) (j := 4) (kk := 6) (ps := []) (fun _ h => h) T.tb_law_are_refused (hcd.symm.trans T.co_law_are_refused) T.in_law_are_refused T.un_law_are_refused rfl rfl (by decide) (lamN_of rfl) (maskN_of (N2 := ["pot", "cover", "wrong", "bad", "asks", "caught", "ask", "one"]) rfl) (fun _ _ _ us hl => match us, hl with | [], _ => rfl) (fun A outer s H E f c' hr => (ey_call (ok_least_hinge T) (hr.mono (by decide)) T.m_least_hinge T.F_least_hinge.kp T.b_least_hinge (takes_of rfl rfl rfl rfl) (ax_cons (ex_var 3) ax_nil) l_least_hinge))) pa_nil)))
  (bx_cons (by refine sx_frz 4 ?_; exact (sx_valH 5 (own := [("ask", 6)]) (v := 6) (kk := 6) (tab := tab_law_are_refused) rfl sc_law_are_refused.nd (ix_seq (ex_var 4)) (blkOk_by rfl) (fun _ _ _ _ _ => (pg_name (i := 6) sc_law_are_refused.nd rfl (.inl rfl))) (kg_name 6) (fun B hB TT act => ok_law_heard (T.up hB) act) (fun _ _ h => h) (hr.mono (by decide)) T.m_law_heard T.F_law_heard.kp T.b_law_heard rfl (fun _ => rfl) rfl rfl (fun _ _ _ _ _ => ex_var 6) (hl := fun TT => l_law_heard TT) (his := by decide)))
  (bx_cons (sx_if (tx_not (tx_val (ex_callB (cr_all rfl) allS T.z_all boot_all3 (ax_cons (fx_ex (fx_comp (own := [("one", 7)]) rfl sc_law_are_refused.nd (ix_seq (ex_var 5)) (blkOk_by rfl) (fun _ _ _ _ _ => (pg_name (i := 7) sc_law_are_refused.nd rfl (.inl rfl))) (kg_name 7) (fun _ _ _ _ _ => pts_nil) kt_nil (fun _ _ _ _ _ => (ex_and (ex_isX (errF T) T.z_isinstance T.e_BadCover.c.g (ex_var 7)) (ex_one (ex_cmp (op_eq2 hr.units) eqS (ex_repr T.z_repr hr.gd (u66 hr) (ex_val (errF T) (ex_var 7))) (ex_repr T.z_repr hr.gd (u66 hr) (ex_var 3)) (nomark _))))) (by decide)) (fun _ _ _ h => h)) ax_nil))))
  (bx_one (sx_ret ex_bl))
  bx_nil)
  (bx_cons (sx_asg (ex_call (ok_law_of T) (hr.mono (by decide)) T.m_law_of T.F_law_of.kp T.b_law_of rfl (ax_cons (ex_var 0) (ax_cons (ex_lst (ax_cons ex_non (ax_cons ex_bl (ax_cons (ex_neg ex_int) (ax_cons (ex_add (ex_pow ex_int ex_int) ex_int) (ax_cons ex_str (ax_cons (ex_tup (ax_cons ex_int ax_nil)) ax_nil))))))) ax_nil)) pass0 (hl := l_law_of)) (gx_of (pg_name (i := 3) sc_law_are_refused.nd rfl (.inr rfl)) (kg_name 3)))
  (bx_cons (sx_own 4 (fx_lst (ax_cons (ex_mk (is := isM _ 6 tab_law_are_refused) (j := 5) (kk := 6) (ps := []) (fun _ h => h) T.tb_law_are_refused (hcd.symm.trans T.co_law_are_refused) T.in_law_are_refused T.un_law_are_refused rfl rfl (by decide) (lamN_of rfl) (maskN_of (N2 := ["pot", "cover", "wrong", "bad", "asks", "caught", "ask", "one"]) rfl) (fun _ _ _ us hl => match us, hl with | [], _ => rfl) (fun A outer s H E f c' hr => (ey_call (ok_spines_for T) (hr.mono (by decide)) T.m_spines_for T.F_spines_for.kp T.b_spines_for (takes_of rfl rfl rfl rfl) (ax_cons (ex_var 3) (ax_cons ex_non (ax_cons ex_non (ax_cons ex_non ax_nil)))) l_spines_for))) ax_nil)) sc_law_are_refused.nd)
  (bx_cons (sx_app 4 (pe_bm PySem.F.plainAttrs_list PySem.F.slot_list_append PySem.F.type_list_append mt_append (pv 4) (pa_cons (ex_mk (is := isM _ 6 tab_law_are_refused) (j := 6) (kk := 6) (ps := []) (fun _ h => h) T.tb_law_are_refused (hcd.symm.trans T.co_law_are_refused) T.in_law_are_refused T.un_law_are_refused rfl rfl (by decide) (lamN_of rfl) (maskN_of (N2 := ["pot", "cover", "wrong", "bad", "asks", "caught", "ask", "one"]) rfl) (fun _ _ _ us hl => match us, hl with | [], _ => rfl) (fun A outer s H E f c' hr => (ey_call (ok_spines_for T) (hr.mono (by decide)) T.m_spines_for T.F_spines_for.kp T.b_spines_for (takes_of rfl rfl rfl rfl) (ax_cons ex_int (ax_cons (ex_var 3) (ax_cons ex_non (ax_cons ex_non ax_nil)))) l_spines_for))) pa_nil)))
  (bx_cons (sx_app 4 (pe_bm PySem.F.plainAttrs_list PySem.F.slot_list_append PySem.F.type_list_append mt_append (pv 4) (pa_cons (ex_mk (is := isM _ 6 tab_law_are_refused) (j := 7) (kk := 6) (ps := []) (fun _ h => h) T.tb_law_are_refused (hcd.symm.trans T.co_law_are_refused) T.in_law_are_refused T.un_law_are_refused rfl rfl (by decide) (lamN_of rfl) (maskN_of (N2 := ["pot", "cover", "wrong", "bad", "asks", "caught", "ask", "one"]) rfl) (fun _ _ _ us hl => match us, hl with | [], _ => rfl) (fun A outer s H E f c' hr => (ey_call (ok_spines_for T) (hr.mono (by decide)) T.m_spines_for T.F_spines_for.kp T.b_spines_for (takes_of rfl rfl rfl rfl) (ax_cons ex_int (ax_cons ex_int (ax_cons (ex_var 3) (ax_cons ex_non ax_nil)))) l_spines_for))) pa_nil)))
  (bx_cons (sx_app 4 (pe_bm PySem.F.plainAttrs_list PySem.F.slot_list_append PySem.F.type_list_append mt_append (pv 4) (pa_cons (ex_mk (is := isM _ 6 tab_law_are_refused) (j := 8) (kk := 6) (ps := []) (fun _ h => h) T.tb_law_are_refused (hcd.symm.trans T.co_law_are_refused) T.in_law_are_refused T.un_law_are_refused rfl rfl (by decide) (lamN_of rfl) (maskN_of (N2 := ["pot", "cover", "wrong", "bad", "asks", "caught", "ask", "one"]) rfl) (fun _ _ _ us hl => match us, hl with | [], _ => rfl) (fun A outer s H E f c' hr => (ey_call (ok_spines_for T) (hr.mono (by decide)) T.m_spines_for T.F_spines_for.kp T.b_spines_for (takes_of rfl rfl rfl rfl) (ax_cons ex_int (ax_cons ex_int (ax_cons ex_int (ax_cons (ex_var 3) ax_nil)))) l_spines_for))) pa_nil)))
  (bx_cons (by refine sx_frz 4 ?_; exact (sx_valH 5 (own := [("ask", 6)]) (v := 6) (kk := 6) (tab := tab_law_are_refused) rfl sc_law_are_refused.nd (ix_seq (ex_var 4)) (blkOk_by rfl) (fun _ _ _ _ _ => (pg_name (i := 6) sc_law_are_refused.nd rfl (.inl rfl))) (kg_name 6) (fun B hB TT act => ok_law_heard (T.up hB) act) (fun _ _ h => h) (hr.mono (by decide)) T.m_law_heard T.F_law_heard.kp T.b_law_heard rfl (fun _ => rfl) rfl rfl (fun _ _ _ _ _ => ex_var 6) (hl := fun TT => l_law_heard TT) (his := by decide)))
  (bx_one (sx_ret (ex_callB (cr_all rfl) allS T.z_all boot_all3 (ax_cons (fx_ex (fx_comp (own := [("one", 7)]) rfl sc_law_are_refused.nd (ix_seq (ex_var 5)) (blkOk_by rfl) (fun _ _ _ _ _ => (pg_name (i := 7) sc_law_are_refused.nd rfl (.inl rfl))) (kg_name 7) (fun _ _ _ _ _ => pts_nil) kt_nil (fun _ _ _ _ _ => (ex_and (ex_isX (errF T) T.z_isinstance T.e_BadInt.c.g (ex_var 7)) (ex_one (ex_cmp (op_eq2 hr.units) eqS (ex_repr T.z_repr hr.gd (u66 hr) (ex_val (errF T) (ex_var 7))) (ex_repr T.z_repr hr.gd (u66 hr) (ex_var 3)) (nomark _))))) (by decide)) (fun _ _ _ h => h)) ax_nil))))))))))))))))))))
theorem ok_law_is_flat (T : Top K mg base) : FnOk PW w K mg base CX0 2 T.a_law_is_flat T.fd_law_is_flat ["cover"] (spM K 1 m_law_is_flat) :=
  fn3 (k := 1) (g := g_law_is_flat) T.F_law_is_flat sc_law_is_flat rfl p_law_is_flat (fun cdv A outer s H E hr => (bx_cons (sx_asg (ex_call (ok_law_greatest T) (hr.mono (by decide)) T.m_law_greatest T.F_law_greatest.kp T.b_law_greatest rfl (ax_cons (ex_var 0) ax_nil) pass0 (hl := l_law_greatest)) (gx_of (pg_name (i := 1) sc_law_is_flat.nd rfl (.inl rfl)) (kg_name 1)))
  (bx_one (sx_ret (ex_and (ex_cmp op_notN isNotS (ex_var 1) ex_non (nomark _)) (ex_one (ex_call (ok_law_can_gap T) (hr.mono (by decide)) T.m_law_can_gap T.F_law_can_gap.kp T.b_law_can_gap rfl (ax_cons (ex_var 0) (ax_cons (ex_var 1) ax_nil)) pass0 (hl := l_law_can_gap))))))))
theorem ok_law_are_least_right (T : Top K mg base) : FnOk PW w K mg base CX0 7 T.a_law_are_least_right T.fd_law_are_least_right ["cover"] (spM K 1 m_law_are_least_right) :=
  fn3 (k := 6) (g := g_law_are_least_right) T.F_law_are_least_right sc_law_are_least_right rfl p_law_are_least_right (fun cdv A outer s H E hr => (bx_cons (sx_asg (ex_call (ok0_least_hinge T) (hr.mono (by decide)) T.m_least_hinge T.F_least_hinge.kp T.b_least_hinge rfl (ax_cons (ex_var 0) ax_nil) pass0 (hl := l0_least_hinge)) (gx_of (pg_name (i := 1) sc_law_are_least_right.nd rfl (.inl rfl)) (kg_name 1)))
  (bx_cons (sx_if (tx_cmp op_notN isNotS (ex_var 1) ex_non (nomark _))
  (bx_one (sx_if (wx_pt (wx_or (tx_not (tx_val (ex_call (ok_law_is_flat T) (hr.mono (by decide)) T.m_law_is_flat T.F_law_is_flat.kp T.b_law_is_flat rfl (ax_cons (ex_add (ex_sl (ex_var 0) ox_none (ox_some ex_int)) (ex_tup (ax_cons (ex_var 1) ax_nil))) ax_nil) pass0 (hl := l_law_is_flat)))) (wx_or1 (wx_pt (wx_and (tx_cmp op_gt gtS (ex_var 1) ex_int (nomark _)) (wx_and1 (tx_val (ex_call (ok_law_is_flat T) (hr.mono (by decide)) T.m_law_is_flat T.F_law_is_flat.kp T.b_law_is_flat rfl (ax_cons (ex_add (ex_sl (ex_var 0) ox_none (ox_some ex_int)) (ex_tup (ax_cons (ex_sub (ex_var 1) ex_int) ax_nil))) ax_nil) pass0 (hl := l_law_is_flat)))))))))
  (bx_one (sx_ret ex_bl))
  bx_nil))
  (bx_one (sx_if (tx_val (ex_call (ok_law_is_flat T) (hr.mono (by decide)) T.m_law_is_flat T.F_law_is_flat.kp T.b_law_is_flat rfl (ax_cons (ex_add (ex_sl (ex_var 0) ox_none (ox_some ex_int)) (ex_tup (ax_cons (ex_pow ex_int ex_int) ax_nil))) ax_nil) pass0 (hl := l_law_is_flat)))
  (bx_one (sx_ret ex_bl))
  bx_nil)))
  (bx_cons (sx_asg (ex_var 0) (gx_of (pg_tup rfl (pgs_cons (pg_name (i := 2) sc_law_are_least_right.nd rfl (.inl rfl)) (pgs_cons (pg_name (i := 3) sc_law_are_least_right.nd rfl (.inl rfl)) (pgs_cons (pg_name (i := 4) sc_law_are_least_right.nd rfl (.inl rfl)) (pgs_cons (pg_name (i := 5) sc_law_are_least_right.nd rfl (.inl rfl)) (pgs_cons (pg_name (i := 6) sc_law_are_least_right.nd rfl (.inl rfl)) pgs_nil)))))) (kg_tup (kgs_cons (kg_name 2) (kgs_cons (kg_name 3) (kgs_cons (kg_name 4) (kgs_cons (kg_name 5) (kgs_cons (kg_name 6) kgs_nil))))))))
  (bx_cons (sx_par (i := 1) (j := 7) rfl sc_law_are_least_right.nd (ax_cons (ex_call (ok0_spines_for T) (hr.mono (by decide)) T.m_spines_for T.F_spines_for.kp T.b_spines_for rfl (ax_cons (ex_var 2) (ax_cons (ex_var 3) (ax_cons (ex_var 5) (ax_cons (ex_var 6) ax_nil)))) pass0 (hl := l0_spines_for)) (ax_cons (ex_add (ex_var 2) (ex_mul ex_int (ex_var 3))) ax_nil)))
  (bx_cons (sx_if (tx_cmp op_notN isNotS (ex_var 1) ex_non (nomark _))
  (bx_cons (sx_for PassesOwn.never rfl (ix_seq (ex_tup (ax_cons (ex_ix (ex_var 1) ex_int) (ax_cons (ex_ix (ex_var 1) ex_int) (ax_cons (ex_fdiv (ex_add (ex_ix (ex_var 1) ex_int) (ex_ix (ex_var 1) ex_int)) ex_int) ax_nil))))) (gx_of (pg_name (i := 8) sc_law_are_least_right.nd rfl (.inl rfl)) (kg_name 8))
  (bx_cons (sx_asg (ex_tup (ax_cons (ex_var 2) (ax_cons (ex_var 3) (ax_cons (ex_var 8) (ax_cons (ex_var 5) (ax_cons (ex_var 6) ax_nil)))))) (gx_of (pg_name (i := 9) sc_law_are_least_right.nd rfl (.inl rfl)) (kg_name 9)))
  (bx_one (sx_if (wx_pt (wx_or (tx_cmp (op_ne2 hr.units) neS (ex_call (ok_law_closes T) (hr.mono (by decide)) T.m_law_closes T.F_law_closes.kp T.b_law_closes rfl (ax_cons (ex_var 9) ax_nil) pass0 (hl := l_law_closes)) (ex_tup (ax_cons ex_str ax_nil)) (nomark _)) (wx_or1 (tx_not (tx_val (ex_call (ok_law_is_flat T) (hr.mono (by decide)) T.m_law_is_flat T.F_law_is_flat.kp T.b_law_is_flat rfl (ax_cons (ex_var 9) ax_nil) pass0 (hl := l_law_is_flat)))))))
  (bx_one (sx_ret ex_bl))
  bx_nil))))
  (bx_cons (sx_for PassesOwn.never rfl (ix_seq (ex_tup (ax_cons (ex_sub (ex_ix (ex_var 1) ex_int) ex_int) (ax_cons (ex_add (ex_ix (ex_var 1) ex_int) ex_int) ax_nil)))) (gx_of (pg_name (i := 8) sc_law_are_least_right.nd rfl (.inl rfl)) (kg_name 8))
  (bx_cons (sx_asg (ex_tup (ax_cons (ex_var 2) (ax_cons (ex_var 3) (ax_cons (ex_var 8) (ax_cons (ex_var 5) (ax_cons (ex_var 6) ax_nil)))))) (gx_of (pg_name (i := 9) sc_law_are_least_right.nd rfl (.inl rfl)) (kg_name 9)))
  (bx_one (sx_if (wx_pt (wx_and (tx_cmp op_ge geS (ex_var 8) ex_int (nomark _)) (wx_and (tx_cmp (op_eq2 hr.units) eqS (ex_call (ok_law_closes T) (hr.mono (by decide)) T.m_law_closes T.F_law_closes.kp T.b_law_closes rfl (ax_cons (ex_var 9) ax_nil) pass0 (hl := l_law_closes)) (ex_tup (ax_cons ex_str ax_nil)) (nomark _)) (wx_and1 (tx_val (ex_call (ok_law_is_flat T) (hr.mono (by decide)) T.m_law_is_flat T.F_law_is_flat.kp T.b_law_is_flat rfl (ax_cons (ex_var 9) ax_nil) pass0 (hl := l_law_is_flat)))))))
  (bx_one (sx_ret ex_bl))
  bx_nil))))
  (bx_one (sx_ret ex_bl))))
  bx_nil)
  (bx_cons (sx_if (tx_cmp op_gt gtS (ex_var 7) ex_int (nomark _))
  (bx_one (sx_ret ex_bl))
  bx_nil)
  (bx_cons (sx_for PassesOwn.never rfl (ix_range1 T.z_range (ax_cons (ex_add (ex_add (ex_var 7) (ex_mul ex_int (ex_callB (call_min2 rfl) min2S T.z_min boot_min3 (ax_cons (ex_var 5) (ax_cons ex_int ax_nil))))) ex_int) ax_nil)) (gx_of (pg_name (i := 8) sc_law_are_least_right.nd rfl (.inl rfl)) (kg_name 8))
  (bx_cons (sx_asg (ex_tup (ax_cons (ex_var 2) (ax_cons (ex_var 3) (ax_cons (ex_var 8) (ax_cons (ex_var 5) (ax_cons (ex_var 6) ax_nil)))))) (gx_of (pg_name (i := 9) sc_law_are_least_right.nd rfl (.inl rfl)) (kg_name 9)))
  (bx_one (sx_if (wx_pt (wx_and (tx_cmp (op_eq2 hr.units) eqS (ex_call (ok_law_closes T) (hr.mono (by decide)) T.m_law_closes T.F_law_closes.kp T.b_law_closes rfl (ax_cons (ex_var 9) ax_nil) pass0 (hl := l_law_closes)) (ex_tup (ax_cons ex_str ax_nil)) (nomark _)) (wx_and1 (tx_val (ex_call (ok_law_is_flat T) (hr.mono (by decide)) T.m_law_is_flat T.F_law_is_flat.kp T.b_law_is_flat rfl (ax_cons (ex_var 9) ax_nil) pass0 (hl := l_law_is_flat))))))
  (bx_one (sx_ret ex_bl))
  bx_nil))))
  (bx_one (sx_ret ex_bl))))))))))
theorem ok_law_right (T : Top K mg base) : FnOk PW w K mg base CX0 11 T.a_law_right T.fd_law_right ["pot"] (spM K 1 m_law_right) :=
  fn3 (k := 10) (g := g_law_right) T.F_law_right sc_law_right rfl p_law_right (fun cdv A outer s H E hr => (bx_cons (sx_for PassesOwn.never rfl (ix_range1 T.z_range (ax_cons ex_int ax_nil)) (gx_of (pg_name (i := 1) sc_law_right.nd rfl (.inl rfl)) (kg_name 1))
  (bx_cons (sx_asg (ex_call (ok_law_cover_drawn T) (hr.mono (by decide)) T.m_law_cover_drawn T.F_law_cover_drawn.kp T.b_law_cover_drawn rfl (ax_cons (ex_var 0) ax_nil) pass0 (hl := l_law_cover_drawn)) (gx_of (pg_name (i := 2) sc_law_right.nd rfl (.inr rfl)) (kg_name 2)))
  (bx_cons (sx_asg (ex_callK0 (ks := ["cover"]) (ok0_closes T) (hr.mono (by decide)) T.m_closes T.F_closes.kp T.k_closes_cover rfl (kx_cons (ex_var 2) kx_nil) pass0 (hl := l0_closes)) (gx_of (pg_name (i := 3) sc_law_right.nd rfl (.inr rfl)) (kg_name 3)))
  (bx_cons (sx_if (tx_cmp (op_ne2 hr.units) neS (ex_repr T.z_repr hr.gd (u66 hr) (ex_var 3)) (ex_repr T.z_repr hr.gd (u66 hr) (ex_call (ok_law_closes T) (hr.mono (by decide)) T.m_law_closes T.F_law_closes.kp T.b_law_closes rfl (ax_cons (ex_var 2) ax_nil) pass0 (hl := l_law_closes))) (nomark _))
  (bx_one (sx_ret ex_bl))
  bx_nil)
  (bx_cons (sx_asg (ex_lst (ax_cons (ex_var 3) (ax_cons (ex_tup (ax_cons ex_str ax_nil)) (ax_cons (ex_tup (ax_cons ex_str (ax_cons ex_int ax_nil))) (ax_cons (ex_tup (ax_cons ex_str (ax_cons ex_int ax_nil))) (ax_cons (ex_sl (ex_var 3) ox_none (ox_some ex_int)) (ax_cons (ex_add (ex_var 3) (ex_var 3)) (ax_cons ex_non (ax_cons (fx_ex (fx_list T.z_list boot_list3 (ex_var 3)) (fun _ _ _ h => h)) (ax_cons (ex_call (ok_law_odd T) (hr.mono (by decide)) T.m_law_odd T.F_law_odd.kp T.b_law_odd rfl (ax_cons (ex_var 0) ax_nil) pass0 (hl := l_law_odd)) ax_nil)))))))))) (gx_of (pg_name (i := 4) sc_law_right.nd rfl (.inl rfl)) (kg_name 4)))
  (bx_cons (sx_for PassesOwn.never rfl (ix_seq (ex_add (ex_var 4) (fx_ex (fx_comp (own := [("turn", 6)]) rfl sc_law_right.nd (ix_range1 T.z_range (ax_cons ex_int ax_nil)) (blkOk_by rfl) (fun _ _ _ _ _ => (pg_name (i := 6) sc_law_right.nd rfl (.inl rfl))) (kg_name 6) (fun _ _ _ _ _ => pts_nil) kt_nil (fun _ _ _ _ _ => (ex_call (ok_law_bent T _) (hr.mono (by decide)) T.m_law_bent T.F_law_bent.kp T.b_law_bent rfl (ax_cons (ex_var 0) (ax_cons (ex_var 3) ax_nil)) pass0 (hl := (l_law_bent _)))) (by decide)) (fun _ _ _ h => h)))) (gx_of (pg_name (i := 5) sc_law_right.nd rfl (.inl rfl)) (kg_name 5))
  (bx_cons (sx_asg (ex_and (ex_callB call_isi isiS T.z_isinstance boot_isinstance3 (ax_cons (ex_var 5) (ax_cons (ex_ty T.z_tuple boot_tuple3) ax_nil))) (ex_one (ex_cmp (op_eq2 hr.units) eqS (ex_repr T.z_repr hr.gd (u66 hr) (ex_var 5)) (ex_repr T.z_repr hr.gd (u66 hr) (ex_call (ok_law_closes T) (hr.mono (by decide)) T.m_law_closes T.F_law_closes.kp T.b_law_closes rfl (ax_cons (ex_var 2) ax_nil) pass0 (hl := l_law_closes))) (nomark _)))) (gx_of (pg_name (i := 7) sc_law_right.nd rfl (.inl rfl)) (kg_name 7)))
  (bx_one (sx_if (tx_not (tx_val (ex_call (ok_law_is_bool T) (hr.mono (by decide)) T.m_law_is_bool T.F_law_is_bool.kp T.b_law_is_bool rfl (ax_cons (ex_callK (ks := ["value"]) (ok0_shows_closes T) (hr.mono (by decide)) T.m_shows_closes T.F_shows_closes.kp T.k_shows_closes_value rfl (ax_cons (ex_var 2) ax_nil) (kx_cons (ex_var 5) kx_nil) pass0 (hl := l0_shows_closes)) (ax_cons (ex_var 7) ax_nil)) pass0 (hl := l_law_is_bool))))
  (bx_one (sx_ret ex_bl))
  bx_nil))))
  (bx_cons (sx_asg (ex_callK0 (ks := ["cover"]) (ok0_opens_flat T) (hr.mono (by decide)) T.m_opens_flat T.F_opens_flat.kp T.k_opens_flat_cover rfl (kx_cons (ex_var 2) kx_nil) pass0 (hl := l0_opens_flat)) (gx_of (pg_name (i := 3) sc_law_right.nd rfl (.inr rfl)) (kg_name 3)))
  (bx_cons (sx_if (wx_pt (wx_or (tx_not (tx_val (ex_call (ok_law_is_due T) (hr.mono (by decide)) T.m_law_is_due T.F_law_is_due.kp T.b_law_is_due rfl (ax_cons (ex_var 2) (ax_cons (ex_var 3) ax_nil)) pass0 (hl := l_law_is_due)))) (wx_or1 (tx_cmp (op_ne2 hr.units) neS (ex_cmp (op_eq2 hr.units) eqS (ex_ix (ex_var 3) ex_int) ex_str (nomark _)) (ex_call (ok_law_is_flat T) (hr.mono (by decide)) T.m_law_is_flat T.F_law_is_flat.kp T.b_law_is_flat rfl (ax_cons (ex_var 2) ax_nil) pass0 (hl := l_law_is_flat)) (nomark _)))))
  (bx_one (sx_ret ex_bl))
  bx_nil)
  (bx_cons (sx_if (wx_pt (wx_and (tx_cmp op_lt ltS (ex_callB (maxR rfl (u66 hr)) maxS T.z_max boot_max3 (ax_cons (ex_var 2) ax_nil)) ex_int (nomark _)) (wx_and1 (tx_cmp (op_ne2 hr.units) neS (ex_cmp (op_eq2 hr.units) eqS (ex_ix (ex_var 3) ex_int) ex_str (nomark _)) (ex_callB (cr_any rfl) anyS T.z_any boot_any3 (ax_cons (fx_ex (fx_comp (own := [("gap", 8)]) rfl sc_law_right.nd (ix_range1 T.z_range (ax_cons ex_int ax_nil)) (blkOk_by rfl) (fun _ _ _ _ _ => (pg_name (i := 8) sc_law_right.nd rfl (.inl rfl))) (kg_name 8) (fun _ _ _ _ _ => pts_nil) kt_nil (fun _ _ _ _ _ => (ex_call (ok_law_can_gap T) (hr.mono (by decide)) T.m_law_can_gap T.F_law_can_gap.kp T.b_law_can_gap rfl (ax_cons (ex_var 2) (ax_cons (ex_var 8) ax_nil)) pass0 (hl := l_law_can_gap))) (by decide)) (fun _ _ _ h => h)) ax_nil)) (nomark _)))))
  (bx_one (sx_ret ex_bl))
  bx_nil)
  (bx_cons (sx_asg (ex_if (tx_cmp (op_ne2 hr.units) neS (ex_ix (ex_var 3) ex_int) ex_str (nomark _)) (ex_ix (ex_var 3) ex_int) ex_int) (gx_of (pg_name (i := 9) sc_law_right.nd rfl (.inl rfl)) (kg_name 9)))
  (bx_cons (sx_asg (ex_lst (ax_cons (ex_var 3) (ax_cons (ex_tup (ax_cons ex_str (ax_cons (ex_var 9) ax_nil))) (ax_cons (ex_tup (ax_cons ex_str (ax_cons (ex_callB (call_max2 rfl) max2S T.z_max boot_max3 (ax_cons ex_int (ax_cons (ex_sub (ex_var 9) ex_int) ax_nil))) ax_nil))) (ax_cons (ex_tup (ax_cons ex_str (ax_cons (ex_add (ex_var 9) ex_int) ax_nil))) (ax_cons (ex_tup (ax_cons ex_str (ax_cons ex_int ax_nil))) (ax_cons (ex_tup (ax_cons ex_str (ax_cons (ex_var 9) (ax_cons ex_int ax_nil)))) ax_nil))))))) (gx_of (pg_name (i := 4) sc_law_right.nd rfl (.inl rfl)) (kg_name 4)))
  (bx_cons (sx_asg (ex_add (ex_var 4) (ex_lst (ax_cons (ex_sl (ex_var 3) ox_none (ox_some ex_int)) (ax_cons ex_non ax_nil)))) (gx_of (pg_name (i := 4) sc_law_right.nd rfl (.inl rfl)) (kg_name 4)))
  (bx_cons (sx_for PassesOwn.never rfl (ix_seq (ex_add (ex_add (ex_var 4) (ex_lst (ax_cons (fx_ex (fx_list T.z_list boot_list3 (ex_var 3)) (fun _ _ _ h => h)) (ax_cons (ex_call (ok_law_odd T) (hr.mono (by decide)) T.m_law_odd T.F_law_odd.kp T.b_law_odd rfl (ax_cons (ex_var 0) ax_nil) pass0 (hl := l_law_odd)) ax_nil)))) (fx_ex (fx_comp (own := [("turn", 6)]) rfl sc_law_right.nd (ix_range1 T.z_range (ax_cons ex_int ax_nil)) (blkOk_by rfl) (fun _ _ _ _ _ => (pg_name (i := 6) sc_law_right.nd rfl (.inl rfl))) (kg_name 6) (fun _ _ _ _ _ => pts_nil) kt_nil (fun _ _ _ _ _ => (ex_call (ok_law_bent T _) (hr.mono (by decide)) T.m_law_bent T.F_law_bent.kp T.b_law_bent rfl (ax_cons (ex_var 0) (ax_cons (ex_var 3) ax_nil)) pass0 (hl := (l_law_bent _)))) (by decide)) (fun _ _ _ h => h)))) (gx_of (pg_name (i := 5) sc_law_right.nd rfl (.inl rfl)) (kg_name 5))
  (bx_one (sx_if (tx_not (tx_val (ex_call (ok_law_is_bool T) (hr.mono (by decide)) T.m_law_is_bool T.F_law_is_bool.kp T.b_law_is_bool rfl (ax_cons (ex_callK (ks := ["value"]) (ok0_shows_opens_flat T) (hr.mono (by decide)) T.m_shows_opens_flat T.F_shows_opens_flat.kp T.k_shows_opens_flat_value rfl (ax_cons (ex_var 2) ax_nil) (kx_cons (ex_var 5) kx_nil) pass0 (hl := l0_shows_opens_flat)) (ax_cons (ex_call (ok_law_is_due T) (hr.mono (by decide)) T.m_law_is_due T.F_law_is_due.kp T.b_law_is_due rfl (ax_cons (ex_var 2) (ax_cons (ex_var 5) ax_nil)) pass0 (hl := l_law_is_due)) ax_nil)) pass0 (hl := l_law_is_bool))))
  (bx_one (sx_ret ex_bl))
  bx_nil)))
  (bx_one (sx_if (wx_pt (wx_or (tx_not (tx_val (ex_call (ok_law_are_least_right T) (hr.mono (by decide)) T.m_law_are_least_right T.F_law_are_least_right.kp T.b_law_are_least_right rfl (ax_cons (ex_var 2) ax_nil) pass0 (hl := l_law_are_least_right)))) (wx_or1 (tx_not (tx_val (ex_call (ok_law_are_refused T) (hr.mono (by decide)) T.m_law_are_refused T.F_law_are_refused.kp T.b_law_are_refused rfl (ax_cons (ex_var 0) (ax_cons (ex_var 2) ax_nil)) pass0 (hl := l_law_are_refused)))))))
  (bx_one (sx_ret ex_bl))
  bx_nil)))))))))))))))
  (bx_one (sx_ret ex_bl))))
theorem ok_law (T : Top K mg base) : FnOk PW w K mg base CX0 12 T.a_law T.fd_law ["script"] (spM K 1 m_law) :=
  fn3 (k := 11) (g := g_law) T.F_law sc_law rfl p_law (fun cdv A outer s H E hr => (bx_one (sx_ret (ex_callB (cr_all rfl) allS T.z_all boot_all3 (ax_cons (fx_ex (fx_comp (own := [("at", 1)]) rfl sc_law.nd (ix_seq (ex_call (ok_law_cells T) (hr.mono (by decide)) T.m_law_cells T.F_law_cells.kp T.b_law_cells rfl (ax_cons (ex_var 0) (ax_cons ex_int ax_nil)) pass0 (hl := l_law_cells))) (blkOk_by rfl) (fun _ _ _ _ _ => (pg_name (i := 1) sc_law.nd rfl (.inl rfl))) (kg_name 1) (fun _ _ _ _ _ => pts_nil) kt_nil (fun _ _ _ _ _ => (ex_potcall (ok_law_pot T) (ok_law_right T) (hr.mono (by decide)) (hr.mono (by decide)) T.m_law_pot T.F_law_pot.kp T.b_law_pot T.m_law_right T.F_law_right.kp T.b_law_right (ax_cons (ex_var 0) (ax_cons (ex_var 1) ax_nil)) l_law_pot)) (by decide)) (fun _ _ _ h => h)) ax_nil)))))
end Law45

set_option maxHeartbeats 0
namespace Law45
open PySem PySem.Spec PyProof.Rows
open L2 hiding FnOk Room
open L3
def d_is_int : He.DefD := ⟨("is_int", none), "is_int", "is_int", defArgs s_is_int, defBody s_is_int, defScope s_is_int, [], []⟩
def d_are_ints : He.DefD := ⟨("are_ints", none), "are_ints", "are_ints", defArgs s_are_ints, defBody s_are_ints, defScope s_are_ints, [], []⟩
def d_is_told : He.DefD := ⟨("is_told", none), "is_told", "is_told", defArgs s_is_told, defBody s_is_told, defScope s_is_told, [], []⟩
def d_is_cover : He.DefD := ⟨("is_cover", none), "is_cover", "is_cover", defArgs s_is_cover, defBody s_is_cover, defScope s_is_cover, [], []⟩
def d_look_at_cover : He.DefD := ⟨("look_at_cover", none), "look_at_cover", "look_at_cover", defArgs s_look_at_cover, defBody s_look_at_cover, defScope s_look_at_cover, [], []⟩
def d_told_closes : He.DefD := ⟨("told_closes", none), "told_closes", "told_closes", defArgs s_told_closes, defBody s_told_closes, defScope s_told_closes, [], []⟩
def d_closes : He.DefD := ⟨("closes", none), "closes", "closes", defArgs s_closes, defBody s_closes, defScope s_closes, [], []⟩
def d_shows_closes : He.DefD := ⟨("shows_closes", none), "shows_closes", "shows_closes", defArgs s_shows_closes, defBody s_shows_closes, defScope s_shows_closes, [], []⟩
def d_told_gaps : He.DefD := ⟨("told_gaps", none), "told_gaps", "told_gaps", defArgs s_told_gaps, defBody s_told_gaps, defScope s_told_gaps, [], []⟩
def d_fits_between : He.DefD := ⟨("fits_between", none), "fits_between", "fits_between", defArgs s_fits_between, defBody s_fits_between, defScope s_fits_between, [], []⟩
def d_told_flat : He.DefD := ⟨("told_flat", none), "told_flat", "told_flat", defArgs s_told_flat, defBody s_told_flat, defScope s_told_flat, [], []⟩
def d_opens_flat : He.DefD := ⟨("opens_flat", none), "opens_flat", "opens_flat", defArgs s_opens_flat, defBody s_opens_flat, defScope s_opens_flat, [], []⟩
def d_shows_opens_flat : He.DefD := ⟨("shows_opens_flat", none), "shows_opens_flat", "shows_opens_flat", defArgs s_shows_opens_flat, defBody s_shows_opens_flat, defScope s_shows_opens_flat, [], []⟩
def d_least_number : He.DefD := ⟨("least_number", none), "least_number", "least_number", defArgs s_least_number, defBody s_least_number, defScope s_least_number, [], []⟩
def d_least_hinge : He.DefD := ⟨("least_hinge", none), "least_hinge", "least_hinge", defArgs s_least_hinge, defBody s_least_hinge, defScope s_least_hinge, [], []⟩
def d_spines_for : He.DefD := ⟨("spines_for", none), "spines_for", "spines_for", defArgs s_spines_for, defBody s_spines_for, defScope s_spines_for, [], []⟩
def d_law_pot : He.DefD := ⟨("_law_pot", none), "_law_pot", "_law_pot", defArgs s_law_pot, defBody s_law_pot, defScope s_law_pot, [], []⟩
def d_law_take : He.DefD := ⟨("_law_take", none), "_law_take", "_law_take", defArgs s_law_take, defBody s_law_take, defScope s_law_take, [], []⟩
def d_law_of : He.DefD := ⟨("_law_of", none), "_law_of", "_law_of", defArgs s_law_of, defBody s_law_of, defScope s_law_of, [], []⟩
def d_law_cells : He.DefD := ⟨("_law_cells", none), "_law_cells", "_law_cells", defArgs s_law_cells, defBody s_law_cells, defScope s_law_cells, [], []⟩
def d_law_heard : He.DefD := ⟨("_law_heard", none), "_law_heard", "_law_heard", defArgs s_law_heard, defBody s_law_heard, defScope s_law_heard, [], []⟩
def d_law_odd : He.DefD := ⟨("_law_odd", none), "_law_odd", "_law_odd", defArgs s_law_odd, defBody s_law_odd, defScope s_law_odd, [], []⟩
def d_law_is_int : He.DefD := ⟨("_law_is_int", none), "_law_is_int", "_law_is_int", defArgs s_law_is_int, defBody s_law_is_int, defScope s_law_is_int, [], []⟩
def d_law_bent : He.DefD := ⟨("_law_bent", none), "_law_bent", "_law_bent", defArgs s_law_bent, defBody s_law_bent, defScope s_law_bent, [], []⟩
def d_law_is_bool : He.DefD := ⟨("_law_is_bool", none), "_law_is_bool", "_law_is_bool", defArgs s_law_is_bool, defBody s_law_is_bool, defScope s_law_is_bool, [], []⟩
def d_law_closes : He.DefD := ⟨("_law_closes", none), "_law_closes", "_law_closes", defArgs s_law_closes, defBody s_law_closes, defScope s_law_closes, [], []⟩
def d_law_can_gap : He.DefD := ⟨("_law_can_gap", none), "_law_can_gap", "_law_can_gap", defArgs s_law_can_gap, defBody s_law_can_gap, defScope s_law_can_gap, [], []⟩
def d_law_greatest : He.DefD := ⟨("_law_greatest", none), "_law_greatest", "_law_greatest", defArgs s_law_greatest, defBody s_law_greatest, defScope s_law_greatest, [], []⟩
def d_law_is_due : He.DefD := ⟨("_law_is_due", none), "_law_is_due", "_law_is_due", defArgs s_law_is_due, defBody s_law_is_due, defScope s_law_is_due, [], []⟩
def d_law_cover_drawn : He.DefD := ⟨("_law_cover_drawn", none), "_law_cover_drawn", "_law_cover_drawn", defArgs s_law_cover_drawn, defBody s_law_cover_drawn, defScope s_law_cover_drawn, [], []⟩
def d_law_are_refused : He.DefD := ⟨("_law_are_refused", none), "_law_are_refused", "_law_are_refused", defArgs s_law_are_refused, defBody s_law_are_refused, defScope s_law_are_refused, [], []⟩
def d_law_is_flat : He.DefD := ⟨("_law_is_flat", none), "_law_is_flat", "_law_is_flat", defArgs s_law_is_flat, defBody s_law_is_flat, defScope s_law_is_flat, [], []⟩
def d_law_are_least_right : He.DefD := ⟨("_law_are_least_right", none), "_law_are_least_right", "_law_are_least_right", defArgs s_law_are_least_right, defBody s_law_are_least_right, defScope s_law_are_least_right, [], []⟩
def d_law_right : He.DefD := ⟨("_law_right", none), "_law_right", "_law_right", defArgs s_law_right, defBody s_law_right, defScope s_law_right, [], []⟩
def d_law : He.DefD := ⟨("law", none), "law", "law", defArgs s_law, defBody s_law, defScope s_law, [], []⟩
def fns : List He.DefD := ([d_is_int, d_are_ints, d_is_told, d_is_cover, d_look_at_cover, d_told_closes, d_closes, d_shows_closes, d_told_gaps, d_fits_between, d_told_flat, d_opens_flat, d_shows_opens_flat, d_least_number, d_least_hinge, d_spines_for, d_law_pot, d_law_take, d_law_of, d_law_cells, d_law_heard, d_law_odd, d_law_is_int, d_law_bent, d_law_is_bool, d_law_closes, d_law_can_gap, d_law_greatest, d_law_is_due, d_law_cover_drawn] : List He.DefD) ++ ([d_law_are_refused, d_law_is_flat, d_law_are_least_right, d_law_right, d_law] : List He.DefD)
def fas : List He.Fa := ([.glo "is_int", .glo "are_ints", .glo "is_told", .glo "is_cover", .glo "look_at_cover", .glo "told_closes", .glo "closes", .glo "shows_closes", .glo "told_gaps", .glo "fits_between", .glo "told_flat", .glo "opens_flat", .glo "shows_opens_flat", .glo "least_number", .glo "least_hinge", .glo "spines_for", .glo "_law_pot", .glo "_law_take", .glo "_law_of", .glo "_law_cells", .glo "_law_heard", .glo "_law_odd", .glo "_law_is_int", .glo "_law_bent", .glo "_law_is_bool", .glo "_law_closes", .glo "_law_can_gap", .glo "_law_greatest", .glo "_law_is_due", .glo "_law_cover_drawn"] : List He.Fa) ++ ([.glo "_law_are_refused", .glo "_law_is_flat", .glo "_law_are_least_right", .glo "_law_right", .glo "law", .glo "BindError", .glo "BadCover", .glo "BadInt", .free "abs", .free "all", .free "any", .free "bool", .free "int", .free "isinstance", .free "len", .free "list", .free "max", .free "min", .free "range", .free "repr", .free "str", .free "sum", .free "super", .free "tuple", .str "CLOSES" "closes", .str "FLAT" "flat", .str "LONG" "long", .int "MOST_SIZE" 1000000, .int "PARTS" 5, .str "SHORT" "short"] : List He.Fa) ++ ([.int "THREE" 3] : List He.Fa)
def tfs : List He.Defn := [("least_hinge", none), ("_law_are_refused", none)]
def exs (K : PySem.W.Frag) : Bool := (Nat.beq (He.cT K ("least_hinge", none)).2 154 && (Nat.beq (He.cT K ("_law_are_refused", none)).2 262 && (errB K "BadCover" && (errB K "BadInt" && initB PW K 18))))
theorem exs_all {K : PySem.W.Frag} (h : exs K = true) : (Nat.beq (He.cT K ("least_hinge", none)).2 154) = true ∧ (Nat.beq (He.cT K ("_law_are_refused", none)).2 262) = true ∧ (errB K "BadCover") = true ∧ (errB K "BadInt") = true ∧ (initB PW K 18) = true := by
  unfold exs at h
  simp only [Bool.and_eq_true] at h
  exact h
def looseN : List Str := (["BindError", "BadInt", "BadCover", "is_int", "are_ints", "is_told", "MOST_SIZE", "THREE", "CLOSES", "FLAT", "SHORT", "LONG", "PARTS", "is_cover", "look_at_cover", "told_closes", "closes", "shows_closes", "told_gaps", "fits_between", "told_flat", "opens_flat", "shows_opens_flat", "least_number", "least_hinge", "spines_for", "_law_pot", "_law_take", "_law_of", "_law_cells"] : List Str) ++ (["_law_heard", "_law_odd", "_law_is_int", "_law_bent", "_law_is_bool", "_law_closes", "_law_can_gap", "_law_greatest", "_law_is_due", "_law_cover_drawn", "_law_are_refused", "_law_is_flat", "_law_are_least_right", "_law_right"] : List Str)
abbrev R : PySem.W.OpenRow := PySem.W.OpenLaw.row PySem.Challenge.rw_foldedandsewn_k45_whole_covers_that_clos
abbrev iniV : He.FnW := initV (defArgs initS) (defBody initS) (defScope initS) 18
abbrev hk : PySem.W.Hook := hookE 5 fas fns tfs exs iniV
def ob (s : PySem.W.SharedT) : He.AlX × He.FnW × Bool := obE 5 fas fns tfs exs (HandSHeadRun.getT s)
theorem ob_eq (s : PySem.W.SharedT) : ob s = hk.obs s.abs := obE_eq (HandSHeadRun.getT_eq s)
theorem run (w : World) : HandSHeadRun.RunEq R (PySem.W.view R.prog [48]) hk ob 3000 looseN w := by
  intro os
  kernel_rfl
theorem ini_of {w : World} {K : PySem.W.Frag} {h : Heap} {mg : Str → Option Value} (c : He.SaysX fas fns [] tfs exs w h K) (ci : He.fnW K atI = iniV) (hs : mg "super" = none) {K2 : PySem.W.Frag} (hq : PySem.W.nsIn K2 cStatics "thirdparty.any" = some none) : ∃ T : InitH PW K mg (He.fAd K atI), T.params = defArgs initS ∧ T.dV = .none ∧ T.K2 = K2 ∧ PySem.W.typeIn K (.ref (He.fAd K atI)) = some (.type "function") := by
  have z := exs_all c.more
  exact initH_of ci z.2.2.2.2 hs hq rfl rfl (by kernel_rfl) rfl rfl rfl rfl rfl (by decide +kernel) rfl rfl rfl rfl (fun y h => (by decide +kernel : ∀ x ∈ (defScope initS).names, x.2 = .free → x.1 = ("__class__" : Str)) _ (PySem.mem_of_lookup h) rfl)
theorem top_of {w : World} {K : PySem.W.Frag} {h h2 base : Heap} {mg : Str → Option Value} (X : K.In h2) (G : h2.Ns mainGlobals mg) (c : He.SaysX fas fns [] tfs exs w h K) (ci : He.fnW K atI = iniV) {K2 : PySem.W.Frag} (hq : PySem.W.nsIn K2 cStatics "thirdparty.any" = some none) (hk2 : K2.In base) (tb : ∀ p ∈ tfs.map (He.cT K), LamX.TabB base mg p.1 p.2) {fd_law : FuncData} (F_law : FunD K "law" "law" (defArgs s_law) (defBody s_law) (defScope s_law) [] [] (He.fAd K ("law", none)) fd_law) : ∃ T : Top K mg base, T.a_law = He.ga K "law" ∧ T.fd_law = fd_law := by
  have z := exs_all c.more
  obtain ⟨fd_is_int, F_is_int⟩ := c.t.d.def_ 0 (d := d_is_int) rfl
  obtain ⟨fd_are_ints, F_are_ints⟩ := c.t.d.def_ 1 (d := d_are_ints) rfl
  obtain ⟨fd_is_told, F_is_told⟩ := c.t.d.def_ 2 (d := d_is_told) rfl
  obtain ⟨fd_is_cover, F_is_cover⟩ := c.t.d.def_ 3 (d := d_is_cover) rfl
  obtain ⟨fd_look_at_cover, F_look_at_cover⟩ := c.t.d.def_ 4 (d := d_look_at_cover) rfl
  obtain ⟨fd_told_closes, F_told_closes⟩ := c.t.d.def_ 5 (d := d_told_closes) rfl
  obtain ⟨fd_closes, F_closes⟩ := c.t.d.def_ 6 (d := d_closes) rfl
  obtain ⟨fd_shows_closes, F_shows_closes⟩ := c.t.d.def_ 7 (d := d_shows_closes) rfl
  obtain ⟨fd_told_gaps, F_told_gaps⟩ := c.t.d.def_ 8 (d := d_told_gaps) rfl
  obtain ⟨fd_fits_between, F_fits_between⟩ := c.t.d.def_ 9 (d := d_fits_between) rfl
  obtain ⟨fd_told_flat, F_told_flat⟩ := c.t.d.def_ 10 (d := d_told_flat) rfl
  obtain ⟨fd_opens_flat, F_opens_flat⟩ := c.t.d.def_ 11 (d := d_opens_flat) rfl
  obtain ⟨fd_shows_opens_flat, F_shows_opens_flat⟩ := c.t.d.def_ 12 (d := d_shows_opens_flat) rfl
  obtain ⟨fd_least_number, F_least_number⟩ := c.t.d.def_ 13 (d := d_least_number) rfl
  obtain ⟨fd_least_hinge, F_least_hinge⟩ := c.t.d.def_ 14 (d := d_least_hinge) rfl
  obtain ⟨fd_spines_for, F_spines_for⟩ := c.t.d.def_ 15 (d := d_spines_for) rfl
  obtain ⟨fd_law_pot, F_law_pot⟩ := c.t.d.def_ 16 (d := d_law_pot) rfl
  obtain ⟨fd_law_take, F_law_take⟩ := c.t.d.def_ 17 (d := d_law_take) rfl
  obtain ⟨fd_law_of, F_law_of⟩ := c.t.d.def_ 18 (d := d_law_of) rfl
  obtain ⟨fd_law_cells, F_law_cells⟩ := c.t.d.def_ 19 (d := d_law_cells) rfl
  obtain ⟨fd_law_heard, F_law_heard⟩ := c.t.d.def_ 20 (d := d_law_heard) rfl
  obtain ⟨fd_law_odd, F_law_odd⟩ := c.t.d.def_ 21 (d := d_law_odd) rfl
  obtain ⟨fd_law_is_int, F_law_is_int⟩ := c.t.d.def_ 22 (d := d_law_is_int) rfl
  obtain ⟨fd_law_bent, F_law_bent⟩ := c.t.d.def_ 23 (d := d_law_bent) rfl
  obtain ⟨fd_law_is_bool, F_law_is_bool⟩ := c.t.d.def_ 24 (d := d_law_is_bool) rfl
  obtain ⟨fd_law_closes, F_law_closes⟩ := c.t.d.def_ 25 (d := d_law_closes) rfl
  obtain ⟨fd_law_can_gap, F_law_can_gap⟩ := c.t.d.def_ 26 (d := d_law_can_gap) rfl
  obtain ⟨fd_law_greatest, F_law_greatest⟩ := c.t.d.def_ 27 (d := d_law_greatest) rfl
  obtain ⟨fd_law_is_due, F_law_is_due⟩ := c.t.d.def_ 28 (d := d_law_is_due) rfl
  obtain ⟨fd_law_cover_drawn, F_law_cover_drawn⟩ := c.t.d.def_ 29 (d := d_law_cover_drawn) rfl
  obtain ⟨fd_law_are_refused, F_law_are_refused⟩ := c.t.d.def_ 30 (d := d_law_are_refused) rfl
  obtain ⟨fd_law_is_flat, F_law_is_flat⟩ := c.t.d.def_ 31 (d := d_law_is_flat) rfl
  obtain ⟨fd_law_are_least_right, F_law_are_least_right⟩ := c.t.d.def_ 32 (d := d_law_are_least_right) rfl
  obtain ⟨fd_law_right, F_law_right⟩ := c.t.d.def_ 33 (d := d_law_right) rfl
  obtain ⟨t_CLOSES, e_CLOSES⟩ := He.str_ok X G (c.t.d.fact 54 (f := .str "CLOSES" "closes") rfl)
  obtain ⟨t_FLAT, e_FLAT⟩ := He.str_ok X G (c.t.d.fact 55 (f := .str "FLAT" "flat") rfl)
  obtain ⟨t_LONG, e_LONG⟩ := He.str_ok X G (c.t.d.fact 56 (f := .str "LONG" "long") rfl)
  obtain ⟨t_MOST_SIZE, e_MOST_SIZE⟩ := He.int_ok X G (c.t.d.fact 57 (f := .int "MOST_SIZE" 1000000) rfl)
  obtain ⟨t_PARTS, e_PARTS⟩ := He.int_ok X G (c.t.d.fact 58 (f := .int "PARTS" 5) rfl)
  obtain ⟨t_SHORT, e_SHORT⟩ := He.str_ok X G (c.t.d.fact 59 (f := .str "SHORT" "short") rfl)
  obtain ⟨t_THREE, e_THREE⟩ := He.int_ok X G (c.t.d.fact 60 (f := .int "THREE" 3) rfl)
  have hP_least_hinge : (He.cT K ("least_hinge", none)).2 = 154 := Nat.eq_of_beq_eq_true z.1
  have hP_law_are_refused : (He.cT K ("_law_are_refused", none)).2 = 262 := Nat.eq_of_beq_eq_true z.2.1
  have hsup : mg "super" = none := He.free_ok X G (c.t.d.fact 52 (f := .free "super") rfl)
  obtain ⟨ini, hip, hid, hiK, tI⟩ := ini_of c ci hsup hq
  exact ⟨{
    a_is_int := He.ga K "is_int"
    fd_is_int := fd_is_int
    F_is_int := fun_of F_is_int
    b_is_int := Fun.binds (x := "is_int") (qual := "is_int") (st := s_is_int) (fd := fd_is_int) (fun_of F_is_int) fun _ _ _ _ _ _ us hl => match us, hl with | [_, _, _], _ => rfl
    m_is_int := He.glo_ok X G (c.t.d.fact 0 (f := .glo "is_int") rfl)
    a_are_ints := He.ga K "are_ints"
    fd_are_ints := fd_are_ints
    F_are_ints := fun_of F_are_ints
    b_are_ints := Fun.binds (x := "are_ints") (qual := "are_ints") (st := s_are_ints) (fd := fd_are_ints) (fun_of F_are_ints) fun _ _ _ _ _ _ us hl => match us, hl with | [_, _, _], _ => rfl
    m_are_ints := He.glo_ok X G (c.t.d.fact 1 (f := .glo "are_ints") rfl)
    a_is_told := He.ga K "is_told"
    fd_is_told := fd_is_told
    F_is_told := fun_of F_is_told
    b_is_told := Fun.binds (x := "is_told") (qual := "is_told") (st := s_is_told) (fd := fd_is_told) (fun_of F_is_told) fun _ _ _ _ _ _ us hl => match us, hl with | [_, _], _ => rfl
    m_is_told := He.glo_ok X G (c.t.d.fact 2 (f := .glo "is_told") rfl)
    a_is_cover := He.ga K "is_cover"
    fd_is_cover := fd_is_cover
    F_is_cover := fun_of F_is_cover
    b_is_cover := Fun.binds (x := "is_cover") (qual := "is_cover") (st := s_is_cover) (fd := fd_is_cover) (fun_of F_is_cover) fun _ _ _ _ _ _ us hl => match us, hl with | [_], _ => rfl
    m_is_cover := He.glo_ok X G (c.t.d.fact 3 (f := .glo "is_cover") rfl)
    a_look_at_cover := He.ga K "look_at_cover"
    fd_look_at_cover := fd_look_at_cover
    F_look_at_cover := fun_of F_look_at_cover
    b_look_at_cover := Fun.binds (x := "look_at_cover") (qual := "look_at_cover") (st := s_look_at_cover) (fd := fd_look_at_cover) (fun_of F_look_at_cover) fun _ _ _ _ _ _ us hl => match us, hl with | [_], _ => rfl
    m_look_at_cover := He.glo_ok X G (c.t.d.fact 4 (f := .glo "look_at_cover") rfl)
    a_told_closes := He.ga K "told_closes"
    fd_told_closes := fd_told_closes
    F_told_closes := fun_of F_told_closes
    b_told_closes := Fun.binds (x := "told_closes") (qual := "told_closes") (st := s_told_closes) (fd := fd_told_closes) (fun_of F_told_closes) fun _ _ _ _ _ _ us hl => match us, hl with | [_], _ => rfl
    m_told_closes := He.glo_ok X G (c.t.d.fact 5 (f := .glo "told_closes") rfl)
    a_closes := He.ga K "closes"
    fd_closes := fd_closes
    F_closes := fun_of F_closes
    b_closes := Fun.binds (x := "closes") (qual := "closes") (st := s_closes) (fd := fd_closes) (fun_of F_closes) fun _ _ _ _ _ _ us hl => match us, hl with | [_], _ => rfl
    m_closes := He.glo_ok X G (c.t.d.fact 6 (f := .glo "closes") rfl)
    a_shows_closes := He.ga K "shows_closes"
    fd_shows_closes := fd_shows_closes
    F_shows_closes := fun_of F_shows_closes
    b_shows_closes := Fun.binds (x := "shows_closes") (qual := "shows_closes") (st := s_shows_closes) (fd := fd_shows_closes) (fun_of F_shows_closes) fun _ _ _ _ _ _ us hl => match us, hl with | [_, _], _ => rfl
    m_shows_closes := He.glo_ok X G (c.t.d.fact 7 (f := .glo "shows_closes") rfl)
    a_told_gaps := He.ga K "told_gaps"
    fd_told_gaps := fd_told_gaps
    F_told_gaps := fun_of F_told_gaps
    b_told_gaps := Fun.binds (x := "told_gaps") (qual := "told_gaps") (st := s_told_gaps) (fd := fd_told_gaps) (fun_of F_told_gaps) fun _ _ _ _ _ _ us hl => match us, hl with | [_], _ => rfl
    m_told_gaps := He.glo_ok X G (c.t.d.fact 8 (f := .glo "told_gaps") rfl)
    a_fits_between := He.ga K "fits_between"
    fd_fits_between := fd_fits_between
    F_fits_between := fun_of F_fits_between
    b_fits_between := Fun.binds (x := "fits_between") (qual := "fits_between") (st := s_fits_between) (fd := fd_fits_between) (fun_of F_fits_between) fun _ _ _ _ _ _ us hl => match us, hl with | [_, _], _ => rfl
    m_fits_between := He.glo_ok X G (c.t.d.fact 9 (f := .glo "fits_between") rfl)
    a_told_flat := He.ga K "told_flat"
    fd_told_flat := fd_told_flat
    F_told_flat := fun_of F_told_flat
    b_told_flat := Fun.binds (x := "told_flat") (qual := "told_flat") (st := s_told_flat) (fd := fd_told_flat) (fun_of F_told_flat) fun _ _ _ _ _ _ us hl => match us, hl with | [_], _ => rfl
    m_told_flat := He.glo_ok X G (c.t.d.fact 10 (f := .glo "told_flat") rfl)
    a_opens_flat := He.ga K "opens_flat"
    fd_opens_flat := fd_opens_flat
    F_opens_flat := fun_of F_opens_flat
    b_opens_flat := Fun.binds (x := "opens_flat") (qual := "opens_flat") (st := s_opens_flat) (fd := fd_opens_flat) (fun_of F_opens_flat) fun _ _ _ _ _ _ us hl => match us, hl with | [_], _ => rfl
    m_opens_flat := He.glo_ok X G (c.t.d.fact 11 (f := .glo "opens_flat") rfl)
    a_shows_opens_flat := He.ga K "shows_opens_flat"
    fd_shows_opens_flat := fd_shows_opens_flat
    F_shows_opens_flat := fun_of F_shows_opens_flat
    b_shows_opens_flat := Fun.binds (x := "shows_opens_flat") (qual := "shows_opens_flat") (st := s_shows_opens_flat) (fd := fd_shows_opens_flat) (fun_of F_shows_opens_flat) fun _ _ _ _ _ _ us hl => match us, hl with | [_, _], _ => rfl
    m_shows_opens_flat := He.glo_ok X G (c.t.d.fact 12 (f := .glo "shows_opens_flat") rfl)
    a_least_number := He.ga K "least_number"
    fd_least_number := fd_least_number
    F_least_number := fun_of F_least_number
    b_least_number := Fun.binds (x := "least_number") (qual := "least_number") (st := s_least_number) (fd := fd_least_number) (fun_of F_least_number) fun _ _ _ _ _ _ us hl => match us, hl with | [_, _], _ => rfl
    m_least_number := He.glo_ok X G (c.t.d.fact 13 (f := .glo "least_number") rfl)
    a_least_hinge := He.ga K "least_hinge"
    fd_least_hinge := fd_least_hinge
    F_least_hinge := fun_of F_least_hinge
    b_least_hinge := Fun.binds (x := "least_hinge") (qual := "least_hinge") (st := s_least_hinge) (fd := fd_least_hinge) (fun_of F_least_hinge) fun _ _ _ _ _ _ us hl => match us, hl with | [_], _ => rfl
    m_least_hinge := He.glo_ok X G (c.t.d.fact 14 (f := .glo "least_hinge") rfl)
    c_least_hinge := (He.cT K ("least_hinge", none)).1
    P_least_hinge := (He.cT K ("least_hinge", none)).2
    co_least_hinge := code_of F_least_hinge
    tb_least_hinge := tb (He.cT K ("least_hinge", none)) (List.mem_map.mpr ⟨_, by simp [tfs], rfl⟩)
    in_least_hinge := by rw [hP_least_hinge]; exact List.mem_cons_self
    un_least_hinge := by rw [hP_least_hinge]; simp [tabs0]
    a_spines_for := He.ga K "spines_for"
    fd_spines_for := fd_spines_for
    F_spines_for := fun_of F_spines_for
    b_spines_for := Fun.binds (x := "spines_for") (qual := "spines_for") (st := s_spines_for) (fd := fd_spines_for) (fun_of F_spines_for) fun _ _ _ _ _ _ us hl => match us, hl with | [_, _, _, _], _ => rfl
    m_spines_for := He.glo_ok X G (c.t.d.fact 15 (f := .glo "spines_for") rfl)
    a_law_pot := He.ga K "_law_pot"
    fd_law_pot := fd_law_pot
    F_law_pot := fun_of F_law_pot
    b_law_pot := Fun.binds (x := "_law_pot") (qual := "_law_pot") (st := s_law_pot) (fd := fd_law_pot) (fun_of F_law_pot) fun _ _ _ _ _ _ us hl => match us, hl with | [_, _], _ => rfl
    m_law_pot := He.glo_ok X G (c.t.d.fact 16 (f := .glo "_law_pot") rfl)
    a_law_take := He.ga K "_law_take"
    fd_law_take := fd_law_take
    F_law_take := fun_of F_law_take
    b_law_take := Fun.binds (x := "_law_take") (qual := "_law_take") (st := s_law_take) (fd := fd_law_take) (fun_of F_law_take) fun _ _ _ _ _ _ us hl => match us, hl with | [_, _], _ => rfl
    m_law_take := He.glo_ok X G (c.t.d.fact 17 (f := .glo "_law_take") rfl)
    a_law_of := He.ga K "_law_of"
    fd_law_of := fd_law_of
    F_law_of := fun_of F_law_of
    b_law_of := Fun.binds (x := "_law_of") (qual := "_law_of") (st := s_law_of) (fd := fd_law_of) (fun_of F_law_of) fun _ _ _ _ _ _ us hl => match us, hl with | [_, _], _ => rfl
    m_law_of := He.glo_ok X G (c.t.d.fact 18 (f := .glo "_law_of") rfl)
    a_law_cells := He.ga K "_law_cells"
    fd_law_cells := fd_law_cells
    F_law_cells := fun_of F_law_cells
    b_law_cells := Fun.binds (x := "_law_cells") (qual := "_law_cells") (st := s_law_cells) (fd := fd_law_cells) (fun_of F_law_cells) fun _ _ _ _ _ _ us hl => match us, hl with | [_, _], _ => rfl
    m_law_cells := He.glo_ok X G (c.t.d.fact 19 (f := .glo "_law_cells") rfl)
    a_law_heard := He.ga K "_law_heard"
    fd_law_heard := fd_law_heard
    F_law_heard := fun_of F_law_heard
    b_law_heard := Fun.binds (x := "_law_heard") (qual := "_law_heard") (st := s_law_heard) (fd := fd_law_heard) (fun_of F_law_heard) fun _ _ _ _ _ _ us hl => match us, hl with | [_], _ => rfl
    m_law_heard := He.glo_ok X G (c.t.d.fact 20 (f := .glo "_law_heard") rfl)
    a_law_odd := He.ga K "_law_odd"
    fd_law_odd := fd_law_odd
    F_law_odd := fun_of F_law_odd
    b_law_odd := Fun.binds (x := "_law_odd") (qual := "_law_odd") (st := s_law_odd) (fd := fd_law_odd) (fun_of F_law_odd) fun _ _ _ _ _ _ us hl => match us, hl with | [_], _ => rfl
    m_law_odd := He.glo_ok X G (c.t.d.fact 21 (f := .glo "_law_odd") rfl)
    a_law_is_int := He.ga K "_law_is_int"
    fd_law_is_int := fd_law_is_int
    F_law_is_int := fun_of F_law_is_int
    b_law_is_int := Fun.binds (x := "_law_is_int") (qual := "_law_is_int") (st := s_law_is_int) (fd := fd_law_is_int) (fun_of F_law_is_int) fun _ _ _ _ _ _ us hl => match us, hl with | [_, _, _], _ => rfl
    m_law_is_int := He.glo_ok X G (c.t.d.fact 22 (f := .glo "_law_is_int") rfl)
    a_law_bent := He.ga K "_law_bent"
    fd_law_bent := fd_law_bent
    F_law_bent := fun_of F_law_bent
    b_law_bent := Fun.binds (x := "_law_bent") (qual := "_law_bent") (st := s_law_bent) (fd := fd_law_bent) (fun_of F_law_bent) fun _ _ _ _ _ _ us hl => match us, hl with | [_, _], _ => rfl
    m_law_bent := He.glo_ok X G (c.t.d.fact 23 (f := .glo "_law_bent") rfl)
    a_law_is_bool := He.ga K "_law_is_bool"
    fd_law_is_bool := fd_law_is_bool
    F_law_is_bool := fun_of F_law_is_bool
    b_law_is_bool := Fun.binds (x := "_law_is_bool") (qual := "_law_is_bool") (st := s_law_is_bool) (fd := fd_law_is_bool) (fun_of F_law_is_bool) fun _ _ _ _ _ _ us hl => match us, hl with | [_, _], _ => rfl
    m_law_is_bool := He.glo_ok X G (c.t.d.fact 24 (f := .glo "_law_is_bool") rfl)
    a_law_closes := He.ga K "_law_closes"
    fd_law_closes := fd_law_closes
    F_law_closes := fun_of F_law_closes
    b_law_closes := Fun.binds (x := "_law_closes") (qual := "_law_closes") (st := s_law_closes) (fd := fd_law_closes) (fun_of F_law_closes) fun _ _ _ _ _ _ us hl => match us, hl with | [_], _ => rfl
    m_law_closes := He.glo_ok X G (c.t.d.fact 25 (f := .glo "_law_closes") rfl)
    a_law_can_gap := He.ga K "_law_can_gap"
    fd_law_can_gap := fd_law_can_gap
    F_law_can_gap := fun_of F_law_can_gap
    b_law_can_gap := Fun.binds (x := "_law_can_gap") (qual := "_law_can_gap") (st := s_law_can_gap) (fd := fd_law_can_gap) (fun_of F_law_can_gap) fun _ _ _ _ _ _ us hl => match us, hl with | [_, _], _ => rfl
    m_law_can_gap := He.glo_ok X G (c.t.d.fact 26 (f := .glo "_law_can_gap") rfl)
    a_law_greatest := He.ga K "_law_greatest"
    fd_law_greatest := fd_law_greatest
    F_law_greatest := fun_of F_law_greatest
    b_law_greatest := Fun.binds (x := "_law_greatest") (qual := "_law_greatest") (st := s_law_greatest) (fd := fd_law_greatest) (fun_of F_law_greatest) fun _ _ _ _ _ _ us hl => match us, hl with | [_], _ => rfl
    m_law_greatest := He.glo_ok X G (c.t.d.fact 27 (f := .glo "_law_greatest") rfl)
    a_law_is_due := He.ga K "_law_is_due"
    fd_law_is_due := fd_law_is_due
    F_law_is_due := fun_of F_law_is_due
    b_law_is_due := Fun.binds (x := "_law_is_due") (qual := "_law_is_due") (st := s_law_is_due) (fd := fd_law_is_due) (fun_of F_law_is_due) fun _ _ _ _ _ _ us hl => match us, hl with | [_, _], _ => rfl
    m_law_is_due := He.glo_ok X G (c.t.d.fact 28 (f := .glo "_law_is_due") rfl)
    a_law_cover_drawn := He.ga K "_law_cover_drawn"
    fd_law_cover_drawn := fd_law_cover_drawn
    F_law_cover_drawn := fun_of F_law_cover_drawn
    b_law_cover_drawn := Fun.binds (x := "_law_cover_drawn") (qual := "_law_cover_drawn") (st := s_law_cover_drawn) (fd := fd_law_cover_drawn) (fun_of F_law_cover_drawn) fun _ _ _ _ _ _ us hl => match us, hl with | [_], _ => rfl
    m_law_cover_drawn := He.glo_ok X G (c.t.d.fact 29 (f := .glo "_law_cover_drawn") rfl)
    a_law_are_refused := He.ga K "_law_are_refused"
    fd_law_are_refused := fd_law_are_refused
    F_law_are_refused := fun_of F_law_are_refused
    b_law_are_refused := Fun.binds (x := "_law_are_refused") (qual := "_law_are_refused") (st := s_law_are_refused) (fd := fd_law_are_refused) (fun_of F_law_are_refused) fun _ _ _ _ _ _ us hl => match us, hl with | [_, _], _ => rfl
    m_law_are_refused := He.glo_ok X G (c.t.d.fact 30 (f := .glo "_law_are_refused") rfl)
    c_law_are_refused := (He.cT K ("_law_are_refused", none)).1
    P_law_are_refused := (He.cT K ("_law_are_refused", none)).2
    co_law_are_refused := code_of F_law_are_refused
    tb_law_are_refused := tb (He.cT K ("_law_are_refused", none)) (List.mem_map.mpr ⟨_, by simp [tfs], rfl⟩)
    in_law_are_refused := by rw [hP_law_are_refused]; exact (List.mem_cons_of_mem _ List.mem_cons_self)
    un_law_are_refused := by rw [hP_law_are_refused]; simp [tabs0]
    a_law_is_flat := He.ga K "_law_is_flat"
    fd_law_is_flat := fd_law_is_flat
    F_law_is_flat := fun_of F_law_is_flat
    b_law_is_flat := Fun.binds (x := "_law_is_flat") (qual := "_law_is_flat") (st := s_law_is_flat) (fd := fd_law_is_flat) (fun_of F_law_is_flat) fun _ _ _ _ _ _ us hl => match us, hl with | [_], _ => rfl
    m_law_is_flat := He.glo_ok X G (c.t.d.fact 31 (f := .glo "_law_is_flat") rfl)
    a_law_are_least_right := He.ga K "_law_are_least_right"
    fd_law_are_least_right := fd_law_are_least_right
    F_law_are_least_right := fun_of F_law_are_least_right
    b_law_are_least_right := Fun.binds (x := "_law_are_least_right") (qual := "_law_are_least_right") (st := s_law_are_least_right) (fd := fd_law_are_least_right) (fun_of F_law_are_least_right) fun _ _ _ _ _ _ us hl => match us, hl with | [_], _ => rfl
    m_law_are_least_right := He.glo_ok X G (c.t.d.fact 32 (f := .glo "_law_are_least_right") rfl)
    a_law_right := He.ga K "_law_right"
    fd_law_right := fd_law_right
    F_law_right := fun_of F_law_right
    b_law_right := Fun.binds (x := "_law_right") (qual := "_law_right") (st := s_law_right) (fd := fd_law_right) (fun_of F_law_right) fun _ _ _ _ _ _ us hl => match us, hl with | [_], _ => rfl
    m_law_right := He.glo_ok X G (c.t.d.fact 33 (f := .glo "_law_right") rfl)
    a_law := He.ga K "law"
    fd_law := fd_law
    F_law := fun_of F_law
    b_law := Fun.binds (x := "law") (qual := "law") (st := s_law) (fd := fd_law) (fun_of F_law) fun _ _ _ _ _ _ us hl => match us, hl with | [_], _ => rfl
    m_law := He.glo_ok X G (c.t.d.fact 34 (f := .glo "law") rfl)
    z_abs := He.free_ok X G (c.t.d.fact 38 (f := .free "abs") rfl)
    z_all := He.free_ok X G (c.t.d.fact 39 (f := .free "all") rfl)
    z_any := He.free_ok X G (c.t.d.fact 40 (f := .free "any") rfl)
    z_bool := He.free_ok X G (c.t.d.fact 41 (f := .free "bool") rfl)
    z_int := He.free_ok X G (c.t.d.fact 42 (f := .free "int") rfl)
    z_isinstance := He.free_ok X G (c.t.d.fact 43 (f := .free "isinstance") rfl)
    z_len := He.free_ok X G (c.t.d.fact 44 (f := .free "len") rfl)
    z_list := He.free_ok X G (c.t.d.fact 45 (f := .free "list") rfl)
    z_max := He.free_ok X G (c.t.d.fact 46 (f := .free "max") rfl)
    z_min := He.free_ok X G (c.t.d.fact 47 (f := .free "min") rfl)
    z_range := He.free_ok X G (c.t.d.fact 48 (f := .free "range") rfl)
    z_repr := He.free_ok X G (c.t.d.fact 49 (f := .free "repr") rfl)
    z_str := He.free_ok X G (c.t.d.fact 50 (f := .free "str") rfl)
    z_sum := He.free_ok X G (c.t.d.fact 51 (f := .free "sum") rfl)
    z_tuple := He.free_ok X G (c.t.d.fact 53 (f := .free "tuple") rfl)
    t_CLOSES := t_CLOSES
    c_CLOSES := e_CLOSES
    t_FLAT := t_FLAT
    c_FLAT := e_FLAT
    t_LONG := t_LONG
    c_LONG := e_LONG
    t_MOST_SIZE := t_MOST_SIZE
    c_MOST_SIZE := e_MOST_SIZE
    t_PARTS := t_PARTS
    c_PARTS := e_PARTS
    t_SHORT := t_SHORT
    c_SHORT := e_SHORT
    t_THREE := t_THREE
    c_THREE := e_THREE
    g_BindError := He.glo_ok X G (c.t.d.fact 35 (f := .glo "BindError") rfl)
    ini := ini
    k2 := by rw [hiK]; exact hk2
    bI := Binds.all fun us hl => match us, hl with | [_, _], _ => (by unfold InitH.fn; rw [hip, hid]; rfl)
    tI := tI
    e_BadCover := err1_ok z.2.2.1 (He.glo_ok X G (c.t.d.fact 36 (f := .glo "BadCover") rfl))
    e_BadInt := err1_ok z.2.2.2.1 (He.glo_ok X G (c.t.d.fact 37 (f := .glo "BadInt") rfl))
    k_closes_cover := Fun.kw (x := "closes") (qual := "closes") (st := s_closes) (fun_of F_closes) fun _ _ _ _ _ _ us ws h1 h2 => match ws, h2, h1 with | [_], _, h1 => match us, (Nat.add_right_cancel (show us.length + 1 = 0 + 1 from h1) : us.length = 0) with | [], _ => rfl
    k_opens_flat_cover := Fun.kw (x := "opens_flat") (qual := "opens_flat") (st := s_opens_flat) (fun_of F_opens_flat) fun _ _ _ _ _ _ us ws h1 h2 => match ws, h2, h1 with | [_], _, h1 => match us, (Nat.add_right_cancel (show us.length + 1 = 0 + 1 from h1) : us.length = 0) with | [], _ => rfl
    k_shows_closes_value := Fun.kw (x := "shows_closes") (qual := "shows_closes") (st := s_shows_closes) (fun_of F_shows_closes) fun _ _ _ _ _ _ us ws h1 h2 => match ws, h2, h1 with | [_], _, h1 => match us, (Nat.add_right_cancel (show us.length + 1 = 1 + 1 from h1) : us.length = 1) with | [_], _ => rfl
    k_shows_opens_flat_value := Fun.kw (x := "shows_opens_flat") (qual := "shows_opens_flat") (st := s_shows_opens_flat) (fun_of F_shows_opens_flat) fun _ _ _ _ _ _ us ws h1 h2 => match ws, h2, h1 with | [_], _, h1 => match us, (Nat.add_right_cancel (show us.length + 1 = 1 + 1 from h1) : us.length = 1) with | [_], _ => rfl }, rfl, rfl⟩
theorem tabs_at {w : World} {K : PySem.W.Frag} {h : Heap} {H : Hp} (c : He.SaysX fas fns [] tfs exs w h K) (hH : ∀ p ∈ tfs.map (He.cT K), H p.2 = some (.tbl #[])) : LamX.Tabs tabs0 H := fun p hp => by
  have z := exs_all c.more
  rcases List.mem_cons.mp hp with rfl | hp
  · exact LamX.TabS.nil (by have y := hH (He.cT K ("least_hinge", none)) (List.mem_map.mpr ⟨_, by simp [tfs], rfl⟩); rw [Nat.eq_of_beq_eq_true z.1] at y; exact y)
  rcases List.mem_cons.mp hp with rfl | hp
  · exact LamX.TabS.nil (by have y := hH (He.cT K ("_law_are_refused", none)) (List.mem_map.mpr ⟨_, by simp [tfs], rfl⟩); rw [Nat.eq_of_beq_eq_true z.2.1] at y; exact y)
  exact absurd hp List.not_mem_nil
theorem law_at {w : World} {K : PySem.W.Frag} {h : Heap} {mg : Str → Option Value} {fa : Addr} (X : K.In h) (G : h.Ns mainGlobals mg) (hfa : mg ("law" : Str) = some (.ref fa)) (c : He.SaysX fas fns [] tfs exs w h K) (ci : He.fnW K atI = iniV) (op : Opq h) : LawG PySem.Challenge.rw_foldedandsewn_k45_whole_covers_that_clos w K L2.CX0 12 63 "script" mg fa h := by
  obtain ⟨fd, F⟩ := c.t.d.def_ 34 (d := d_law) rfl
  have e := hfa.symm.trans (He.glo_ok X G (c.t.d.fact 34 (f := .glo "law") rfl))
  cases e
  obtain ⟨K2, q1, q2, hq⟩ := op
  refine ⟨fd, tfs.map (He.cT K), spM K 1 m_law, fun p hp => ?_, fun p hp => ?_, fun p hp => ?_, fun s v => (FunD.bindsA (ps := ["script"]) F fun _ _ _ _ _ _ us hl => match us, hl with | [_], _ => rfl) s [v] rfl, fun H a ns hl hb hH hS => law_sp (tabs_at c hH) hS (S_law ns hl hb), K2, q1, q2, fun base hK hN tb hk2 => ?_⟩
  · obtain ⟨d, hd, rfl⟩ := List.mem_map.mp hp
    exact c.empty d hd
  · obtain ⟨d, hd, rfl⟩ := List.mem_map.mp hp
    exact c.out d hd
  · obtain ⟨d, hd, rfl⟩ := List.mem_map.mp hp
    exact PySem.W.codeHd_of_K X (c.hd d hd)
  · obtain ⟨T, e1, e2⟩ := top_of hK hN c ci hq hk2 tb F
    have z := ok_law (w := w) T
    rw [e1, e2] at z
    exact z
end Law45
open PySem PySem.W PySem.Calls PyProof.Rows
set_option maxHeartbeats 0 in
theorem PySem.Challenge.cw_foldedandsewn_k45_whole_covers_that_clos_holds : PySem.Challenge.rw_foldedandsewn_k45_whole_covers_that_clos.Holds := by
  w_on; o_law
  refine HandSHeadRun.head_any (r := OpenLaw.row PySem.Challenge.rw_foldedandsewn_k45_whole_covers_that_clos) (q := view (OpenLaw.row PySem.Challenge.rw_foldedandsewn_k45_whole_covers_that_clos).prog [48]) (H := Law45.hk) (ob := Law45.ob) (M := 3000) (loose := Law45.looseN) (d := HandSHeadRun.topDef (OpenLaw.row PySem.Challenge.rw_foldedandsewn_k45_whole_covers_that_clos).prog 48) (kwd := []) Law45.ob_eq
    (by kernel_rfl) (fun s => by kernel_rfl) Law45.run (by kernel_rfl) (by kernel_rfl) (by kernel_rfl) (by rfl) (by first | assumption | decide +kernel) (by decide +kernel) ⟨rfl, rfl, rfl, rfl, rfl, by decide +kernel⟩ ?hw ?hc
  case hw => w_witness2
  case hc =>
    refine L3.walk_G (l := PySem.Challenge.rw_foldedandsewn_k45_whole_covers_that_clos) (n := 63) (k := 12) (x := "script") (CX := fun _ => L2.CX0) rfl (by decide) (by kernel_rfl) ⟨rfl, by decide, by decide⟩ ?F (fun _ _ _ _ _ z => z)
    intro w mg fa h Y G hmg0
    obtain ⟨K, KX, c, ci, op⟩ := Y
    have hmg : mg ("law" : PySem.Str) = some (.ref fa) := by
      have e : (HandSHeadRun.topDef (OpenLaw.row PySem.Challenge.rw_foldedandsewn_k45_whole_covers_that_clos).prog 48).name = ("law" : PySem.Str) := by kernel_rfl
      rw [← e]
      exact hmg0
    exact ⟨K, KX, Law45.law_at KX G hmg c ci op⟩

