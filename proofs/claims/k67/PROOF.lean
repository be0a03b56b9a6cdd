import PyProof.Rows.All
import HandS.Lambda
import Wide.All
import OpenK.AllK
import Wide.FinOn
import HandS.ForMost
import HandS.Star
import HandS.Wide
import HandS.IsInst
import HandS.TupAny
import HandS.Zip
import HandS.HeadHook1
import HandS.Style
import HandS.Deep
import KE.GoesEnum
import HandS.More
import HandS.Conv
import HandS.NoneIn
import HandS.TupMul
import KE.SortData
import KE.KRevSl
import KE.KIndexOf
import HandS.SetFor
import KE.DataMinMax
import KE.SortKeyHeap
import KE.KSortKey
import HandS.SortKw
import HandS.SortInts
import KE.KTupSum
import HandS.DictComp
import PyProof.Claim2Refuses
import HandS.Flt
import HandS.Exc
import HandS.WordsExc
import HandS.ExcInit
import KE.KExcSuper
import HandS.ExcSuper
import HandS.ExcIs
import HandS.ExcField
import PyProof.ReprReads
import HandS.Head0
import HandS.Head1
import HandS.Head2
import HandS.HeadEnd
import HandS.HeadHook4
import HandS.HeadWalk
import KE.KStateDown
import HandS.EndTab
import HandS.JoinGen
import PySem.Challenge.RW_foldedandsewn_k67_whole_presses_side_by
/-! L3, by the law: the tables of code objects that its lambdas are made at. -/
namespace L3
def tabs0 : List (PySem.Addr × PySem.Str) := [(279, "_law_right.<locals>.<lambda>")]
end L3

set_option Elab.async false
set_option linter.all false
set_option maxRecDepth 100000
/-! L3, the pure part: data without a heap, readings as plain predicate transformers. -/
namespace L3
open PySem PySem.Spec PyProof.Rows L2

/-- what stands beside the data: the pot, code objects that are known -/
structure Pn where
  pot : Option Addr
  cod : List (Addr × Str) := []
  flo : Hp := fun _ => none
/-- the keys of a dict: ints and texts, or tuples of such -/
inductive Ks where
  | k (l : List Key) | t (l : List (List Key))
/-- data: what a value is worth, without the heap (lam: a lambda made at a frozen part of the heap) -/
inductive D where
  | non | bl (b : Bool) | int (i : Int) | str (x : Str) | ty (n : String) | rf (a : Addr) | pot | scr (ns : List Int) | lam (a : Addr) (F0 : Hp) (p : Pn)
  | exc (n : Str) (d : D) | clo (a : Addr) (o : Obj) | dic (kvs : List (Str × Int))
  | tup (l : List D) | lst (l : List D) | dct (ks : Ks) (l : List D)

/-- a slot of a body: nothing, a value, a list of its own -/
inductive SV where
  | no | val (d : D) | own (l : List D) | dic (ks : Ks) (l : List D)
@[simp ↓] def vA : SV → Option D
  | .val d => some d
  | _ => none
@[simp ↓] def vB : SV → Option D
  | .val d => some d
  | .own l => some (.lst l)
  | .dic ks l => some (.dct ks l)
  | .no => none
abbrev Rho := List (Option D)
abbrev Env3 := List SV
abbrev KD := D → Nat → Prop
/-- readings: an expression, a list of arguments, a test -/
abbrev FE := Rho → Nat → KD → Prop
abbrev FA := Rho → Nat → (List D → Nat → Prop) → Prop
abbrev FT := Rho → Nat → (Bool → Nat → Prop) → Prop
structure End3 where
  nx : Env3 → Nat → Prop
  rt : KD
  bk : Env3 → Nat → Prop := fun _ _ => False
  ct : Env3 → Nat → Prop := fun _ _ => False
  xx : Str → D → Nat → Prop := fun _ _ _ => False
abbrev FS := End3 → Env3 → Nat → Prop
abbrev FG := D → Env3 → (Env3 → Prop) → Prop
abbrev FGs := List D → Env3 → (Env3 → Prop) → Prop
/-- what a def is worth -/
abbrev FM := List D → Nat → KD → Prop

@[simp ↓] def get3 : Rho → Nat → Option D
  | [], _ => none
  | x :: _, 0 => x
  | _ :: r, n + 1 => get3 r n
@[simp ↓] def eVar (i : Nat) : FE := fun ρ c Q => match get3 ρ i with | some d => Q d c | none => False
@[simp ↓] def eC (d : D) : FE := fun _ c Q => Q d c
@[simp ↓] def eOp (g : D → D → Nat → KD → Prop) (fa fb : FE) : FE := fun ρ c Q => fa ρ c fun x c => fb ρ c fun y c => g x y c Q
@[simp ↓] def eUn (g : D → Nat → KD → Prop) (fa : FE) : FE := fun ρ c Q => fa ρ c fun x c => g x c Q
@[simp ↓] def aNil : FA := fun _ c Q => Q [] c
@[simp ↓] def aCons (fa : FE) (fr : FA) : FA := fun ρ c Q => fa ρ c fun x c => fr ρ c fun xs c => Q (x :: xs) c
@[simp ↓] def aStar (fa : FE) (fr : FA) : FA := fun ρ c Q => fa ρ c fun x c => match x with
  | .tup l => fr ρ c fun xs c => Q (l ++ xs) c
  | .lst l => fr ρ c fun xs c => Q (l ++ xs) c
  | _ => False
@[simp ↓] def eTup (fa : FA) : FE := fun ρ c Q => fa ρ c fun l c => l.length ≤ 16777216 ∧ Q (.tup l) c
@[simp ↓] def eLst (fa : FA) : FE := fun ρ c Q => fa ρ c fun l c => l.length ≤ 16777216 ∧ Q (.lst l) c
@[simp ↓] def eCall (m : FM) (fa : FA) : FE := fun ρ c Q => fa ρ c fun l c => m l c Q
/-- a built-in: the same form -/
abbrev eB := eCall
/-- tests -/
@[simp ↓] def tV (fe : FE) : FT := fun ρ c Q => fe ρ c fun x c => match x with | .bl b => Q b c | _ => False
@[simp ↓] def tA3 (t u : FT) : FT := fun ρ c Q => t ρ c fun b c => if b = true then u ρ c Q else Q false c
@[simp ↓] def tO3 (t u : FT) : FT := fun ρ c Q => t ρ c fun b c => if b = true then Q true c else u ρ c Q
@[simp ↓] def tN3 (t : FT) : FT := fun ρ c Q => t ρ c fun b c => Q (!b) c
/-- and, or, not as values of bools -/
@[simp ↓] def eAnd (fa fb : FE) : FE := fun ρ c Q => fa ρ c fun x c => match x with | .bl b => (if b = true then fb ρ c Q else Q (.bl false) c) | _ => False
@[simp ↓] def eOr (fa fb : FE) : FE := fun ρ c Q => fa ρ c fun x c => match x with | .bl b => (if b = true then Q (.bl true) c else fb ρ c Q) | _ => False
@[simp ↓] def eNot (fa : FE) : FE := fun ρ c Q => fa ρ c fun x c => match x with | .bl b => Q (.bl (!b)) c | _ => False
@[simp ↓] def eIf3 (t : FT) (fa fb : FE) : FE := fun ρ c Q => t ρ c fun b c => if b = true then fa ρ c Q else fb ρ c Q
/-- a chain a op b op' d -/
@[simp ↓] def eCh (g g' : D → D → Nat → KD → Prop) (fa fb fd : FE) : FE := fun ρ c Q => fa ρ c fun x c => fb ρ c fun y c => g x y c fun z c => match z with
  | .bl k => (if k = true then fd ρ c fun w c => g' y w c Q else Q (.bl false) c)
  | _ => False

/-! ### operators -/
@[simp ↓] def addD : D → D → Nat → KD → Prop
  | .int i, .int j, c, Q => Q (.int (i + j)) c
  | .str x, .str y, c, Q => x.length + y.length ≤ 16777216 ∧ Q (.str (x ++ y)) c
  | .tup l, .tup m, c, Q => l.length + m.length ≤ 16777216 ∧ Q (.tup (l ++ m)) c
  | .lst l, .lst m, c, Q => l.length + m.length ≤ 16777216 ∧ Q (.lst (l ++ m)) c
  | _, _, _, _ => False
@[simp ↓] def subD : D → D → Nat → KD → Prop
  | .int i, .int j, c, Q => Q (.int (i - j)) c
  | _, _, _, _ => False
def MulOk (i j : Int) : Prop := (-(2 ^ 64) < i ∧ i < 2 ^ 64) ∨ (-(2 ^ 64) < j ∧ j < 2 ^ 64)
@[simp ↓] def mulD : D → D → Nat → KD → Prop
  | .int i, .int j, c, Q => MulOk i j ∧ Q (.int (i * j)) c
  | .lst l, .int k, c, Q => (0 ≤ k ∧ k < 1000000 ∧ l.length * k.toNat ≤ 16777216) ∧ Q (.lst (List.replicate k.toNat l).flatten) c
  | _, _, _, _ => False
/-- by a positive divisor below 2 ^ 30 -/
@[simp ↓] def fdivD : D → D → Nat → KD → Prop
  | .int i, .int j, c, Q => (0 < j ∧ j < 1073741824) ∧ Q (.int (i / j)) c
  | _, _, _, _ => False
@[simp ↓] def modD : D → D → Nat → KD → Prop
  | .int i, .int j, c, Q => 0 < j ∧ Q (.int (i % j)) c
  | _, _, _, _ => False
@[simp ↓] def powD : D → D → Nat → KD → Prop
  | .int i, .int j, c, Q => (0 ≤ j ∧ ((j ≤ 1000000 ∧ i.natAbs < 2 ^ 64) ∨ (j ≤ 1000 ∧ i.natAbs < 2 ^ 256))) ∧ Q (.int (i ^ j.toNat)) c
  | _, _, _, _ => False
@[simp ↓] def negD : D → Nat → KD → Prop
  | .int i, c, Q => Q (.int (-i)) c
  | _, _, _ => False
@[simp ↓] def ltD : D → D → Nat → KD → Prop
  | .int i, .int j, c, Q => Q (.bl (decide (i < j))) c
  | _, _, _, _ => False
@[simp ↓] def leD : D → D → Nat → KD → Prop
  | .int i, .int j, c, Q => Q (.bl (decide (i ≤ j))) c
  | _, _, _, _ => False
@[simp ↓] def gtD : D → D → Nat → KD → Prop
  | .int i, .int j, c, Q => Q (.bl (decide (j < i))) c
  | _, _, _, _ => False
@[simp ↓] def geD : D → D → Nat → KD → Prop
  | .int i, .int j, c, Q => Q (.bl (decide (j ≤ i))) c
  | _, _, _, _ => False
@[simp ↓] def isNone : D → Bool
  | .non => true
  | _ => false
@[simp ↓] def isD : D → D → Nat → KD → Prop
  | x, .non, c, Q => Q (.bl (isNone x)) c
  | _, _, _, _ => False
@[simp ↓] def isNotD : D → D → Nat → KD → Prop
  | x, .non, c, Q => Q (.bl (!isNone x)) c
  | _, _, _, _ => False
/-! data as Python's data, where it has no references -/
mutual
def toPy : D → Option PyData
  | .non => some .none
  | .bl b => some (.bool b)
  | .int i => some (.int i)
  | .str x => some (.str x)
  | .tup l => (toPyL l).map .tuple
  | .lst l => (toPyL l).map .list
  | _ => none
def toPyL : List D → Option (List PyData)
  | [] => some []
  | d :: l => match toPy d, toPyL l with
    | some x, some r => some (x :: r)
    | _, _ => none
end
mutual
/-- data of a depth that == may ask -/
def pyD : Nat → D → Bool
  | _, .non => true
  | _, .int _ => true
  | _, .bl _ => true
  | _, .str x => PyData.strOk x
  | n + 1, .tup l => pyDL n l
  | n + 1, .lst l => pyDL n l
  | _, _ => false
def pyDL : Nat → List D → Bool
  | _, [] => true
  | n, d :: l => pyD n d && pyDL n l
end
mutual
/-- == of data -/
def eqvD : D → D → Bool
  | .non, .non => true
  | .bl a, .bl b => a == b
  | .bl a, .int j => (if a then 1 else 0) == j
  | .int i, .bl b => i == (if b then 1 else 0)
  | .int i, .int j => i == j
  | .str x, .str y => x == y
  | .tup l, .tup m => eqvDL l m
  | .lst l, .lst m => eqvDL l m
  | _, _ => false
def eqvDL : List D → List D → Bool
  | [], [] => true
  | x :: l, y :: m => eqvD x y && eqvDL l m
  | _, _ => false
end
/-- == of data: by its own equality on what it is asked (ints, bools, texts, None, tuples and lists of such) -/
@[simp ↓] def eqD : D → D → Nat → KD → Prop
  | .int i, .int j, c, Q => Q (.bl (decide (i = j))) c
  | .bl i, .bl j, c, Q => Q (.bl (decide (i = j))) c
  | .str i, .str j, c, Q => Q (.bl (decide (i = j))) c
  | x, y, c, Q => (pyD 64 x = true ∧ pyD 64 y = true) ∧ Q (.bl (eqvD x y)) c
@[simp ↓] def neD : D → D → Nat → KD → Prop
  | .int i, .int j, c, Q => Q (.bl (!decide (i = j))) c
  | .bl i, .bl j, c, Q => Q (.bl (!decide (i = j))) c
  | .str i, .str j, c, Q => Q (.bl (!decide (i = j))) c
  | x, y, c, Q => (pyD 64 x = true ∧ pyD 64 y = true) ∧ Q (.bl (!eqvD x y)) c
/-- items -/
@[simp ↓] def ixD : D → D → Nat → KD → Prop
  | .tup l, .int i, c, Q => match atI l i with | some d => Q d c | none => False
  | .lst l, .int i, c, Q => match atI l i with | some d => Q d c | none => False
  | .scr l, .int i, c, Q => match atI l i with | some d => Q (.int d) c | none => False
  | _, _, _, _ => False
/-- slices -/
def optI : Option D → Option (Option Int)
  | none => some none
  | some (.int i) => some (some i)
  | _ => none
def cutD (l : List D) (lo hi : Option Int) : List D := (l.drop (HT.sIx l.length 0 lo)).take (HT.sIx l.length l.length hi - HT.sIx l.length 0 lo)
@[simp ↓] def slD (x : D) (lo hi : Option Int) : Option D := match x with
  | .tup l => some (.tup (cutD l lo hi))
  | .lst l => some (.lst (cutD l lo hi))
  | .scr l => some (.lst (cutD (l.map .int) lo hi))
  | _ => none
abbrev FO := Rho → Nat → (Option Int → Nat → Prop) → Prop
@[simp ↓] def oNone : FO := fun _ c Q => Q none c
@[simp ↓] def oSome (fe : FE) : FO := fun ρ c Q => fe ρ c fun x c => match x with | .int i => Q (some i) c | _ => False
@[simp ↓] def eSl (fe : FE) (lo hi : FO) : FE := fun ρ c Q => fe ρ c fun x c => lo ρ c fun a c => hi ρ c fun b c => match slD x a b with | some d => Q d c | none => False

/-! ### built-ins -/
@[simp ↓] def lenM : FM := fun l c Q => match l with
  | [.tup m] => Q (.int m.length) c
  | [.lst m] => Q (.int m.length) c
  | [.scr m] => Q (.int m.length) c
  | _ => False
@[simp ↓] def absM : FM := fun l c Q => match l with
  | [.int i] => Q (.int (if i < 0 then -i else i)) c
  | _ => False
@[simp ↓] def intM : FM := fun l c Q => match l with
  | [.int i] => Q (.int i) c
  | [.bl b] => Q (.int (if b then 1 else 0)) c
  | _ => False
@[simp ↓] def max2M : FM := fun l c Q => match l with
  | [.int i, .int j] => Q (.int (if j > i then j else i)) c
  | _ => False
@[simp ↓] def min2M : FM := fun l c Q => match l with
  | [.int i, .int j] => Q (.int (if j < i then j else i)) c
  | _ => False
@[simp ↓] def tupleM : FM := fun l c Q => match l with
  | [.lst m] => Q (.tup m) c
  | [.tup m] => Q (.tup m) c
  | _ => False
@[simp ↓] def listM : FM := fun l c Q => match l with
  | [.lst m] => Q (.lst m) c
  | [.tup m] => Q (.lst m) c
  | _ => False
def blsOf : List D → Option (List Bool)
  | [] => some []
  | .bl b :: l => (blsOf l).map (b :: ·)
  | _ => none
def intsOf : List D → Option (List Int)
  | [] => some []
  | .int b :: l => (intsOf l).map (b :: ·)
  | _ => none
@[simp ↓] def allM : FM := fun l c Q => match l with
  | [.lst m] => (match blsOf m with | some bs => Q (.bl (bs.all id)) c | none => False)
  | _ => False
@[simp ↓] def anyM : FM := fun l c Q => match l with
  | [.lst m] => (match blsOf m with | some bs => Q (.bl (bs.any id)) c | none => False)
  | _ => False
@[simp ↓] def sumM : FM := fun l c Q => match l with
  | [.lst m] => (match intsOf m with | some ns => Q (.int ns.sum) c | none => False)
  | _ => False
/-- isinstance(x, T) -/
def tyName : D → Option String
  | .non => some "NoneType" | .bl _ => some "bool" | .int _ => some "int" | .str _ => some "str" | .tup _ => some "tuple" | .lst _ => some "list" | .dic _ => some "dict" | .dct (.k _) _ => some "dict" | _ => none
@[simp ↓] def isiD (x : D) (t : String) : Bool := match x, t with
  | .bl _, "bool" => true | .bl _, "int" => true | .int _, "int" => true | .str _, "str" => true | .tup _, "tuple" => true | .lst _, "list" => true
  | _, _ => false
@[simp ↓] def isiM : FM := fun l c Q => match l with
  | [x, .ty t] => (tyName x).isSome = true ∧ (t = "int" ∨ t = "bool" ∨ t = "str" ∨ t = "tuple" ∨ t = "list") ∧ Q (.bl (isiD x t)) c
  | _ => False

/-! ### targets -/
@[simp ↓] def gN (i : Nat) : FG := fun d ρ k => k (ρ.set i (.val d))
@[simp ↓] def gsNil : FGs := fun l ρ k => match l with | [] => k ρ | _ => False
@[simp ↓] def gsCons (g : FG) (gs : FGs) : FGs := fun l ρ k => match l with | d :: r => g d ρ fun ρ => gs r ρ k | [] => False
@[simp ↓] def gT (n : Nat) (gs : FGs) : FG := fun d ρ k => match d with | .tup l => l.length = n ∧ gs l ρ k | _ => False
/-- a list taken apart -/
@[simp ↓] def gLs (n : Nat) (gs : FGs) : FG := fun d ρ k => match d with | .lst l => l.length = n ∧ gs l ρ k | _ => False

/-! ### what is walked -/
abbrev FI := Rho → Nat → (List D → Nat → Prop) → Prop
@[simp ↓] def iSeq (fe : FE) : FI := fun ρ c Q => fe ρ c fun x c => match x with
  | .lst l => Q l c
  | .tup l => Q l c
  | _ => False
def rangeL (lo : Int) (n : Nat) : List D := (List.range n).map fun k => .int (lo + (k : Nat))
@[simp ↓] def iR1 (fa : FA) : FI := fun ρ c Q => fa ρ c fun l c => match l with
  | [.int j] => (-(2 ^ 62) ≤ j ∧ j ≤ 16777216) ∧ Q (rangeL 0 j.toNat) c
  | _ => False
@[simp ↓] def iR2 (fa : FA) : FI := fun ρ c Q => fa ρ c fun l c => match l with
  | [.int i, .int j] => (-(2 ^ 61) ≤ i ∧ i < 2 ^ 61 ∧ -(2 ^ 61) ≤ j ∧ j < 2 ^ 61 ∧ j - i ≤ 16777216) ∧ Q (rangeL i (j - i).toNat) c
  | _ => False

/-! ### comprehensions -/
@[simp ↓] def wipeD (ρ : Rho) : List Nat → Rho
  | [] => ρ
  | v :: vs => (wipeD ρ vs).set v none
@[simp ↓] def upS : Option D → SV
  | some d => .val d
  | none => .no
@[simp ↓] def compL (g : FG) (t : FT) (fe : FE) (ρ : Rho) : List D → Nat → (List D → Nat → Prop) → Prop
  | [], c, Q => Q [] c
  | d :: l, c, Q => g d (ρ.map upS) fun ρ' => t (ρ'.map vA) c fun b c =>
      if b = true then fe (ρ'.map vA) c fun y c => compL g t fe ρ l c fun ys c => Q (y :: ys) c
      else compL g t fe ρ l c Q
@[simp ↓] def tYes3 : FT := fun _ c Q => Q true c
@[simp ↓] def eComp (fi : FI) (g : FG) (t : FT) (fe : FE) (vs : List Nat) : FE := fun ρ c Q => fi ρ c fun l c => compL g t fe (wipeD ρ vs) l c fun ys c => Q (.lst ys) c

/-! ### statements -/
@[simp ↓] def sNil : FS := fun E ρ c => E.nx ρ c
@[simp ↓] def sSeq (a b : FS) : FS := fun E ρ c => a { E with nx := fun ρ c => b E ρ c } ρ c
@[simp ↓] def sBreak : FS := fun E ρ c => E.bk ρ c
@[simp ↓] def sCont : FS := fun E ρ c => E.ct ρ c
@[simp ↓] def sNever : FS := fun _ _ _ => False
/-- target = e; e reads values alone -/
@[simp ↓] def sAsg (g : FG) (fe : FE) : FS := fun E ρ c => fe (ρ.map vA) c fun d c => g d ρ fun ρ => E.nx ρ c
/-! data with no list in it -/
mutual
def noLst : D → Bool
  | .lst _ => false
  | .tup l => noLstL l
  | .pot => false
  | .scr _ => false
  | .lam .. => false
  | .exc _ d => noLst d
  | .dic _ => false
  | .dct _ _ => false
  | _ => true
def noLstL : List D → Bool
  | [] => true
  | d :: l => noLst d && noLstL l
end
/-- .. e reads own lists too, its value has no list -/
@[simp ↓] def sAsgB (g : FG) (fe : FE) : FS := fun E ρ c => fe (ρ.map vB) c fun d c => noLst d = true ∧ g d ρ fun ρ => E.nx ρ c
/-- x = a new list -/
@[simp ↓] def sOwn (i : Nat) (fe : FE) : FS := fun E ρ c => fe (ρ.map vA) c fun d c => match d with | .lst l => E.nx (ρ.set i (.own l)) c | _ => False
@[simp ↓] def sOwnB (i : Nat) (fe : FE) : FS := fun E ρ c => fe (ρ.map vB) c fun d c => match d with | .lst l => noLstL l = true ∧ E.nx (ρ.set i (.own l)) c | _ => False
/-- a list of its own is given away -/
@[simp ↓] def frz3 (i : Nat) (ρ : Env3) : Env3 := match ρ[i]? with | some (.own l) => ρ.set i (.val (.lst l)) | _ => ρ
@[simp ↓] def sFrz (i : Nat) (s : FS) : FS := fun E ρ c => s E (frz3 i ρ) c
@[simp ↓] def sAug (i : Nat) (g : D → D → Nat → KD → Prop) (fe : FE) : FS := fun E ρ c => match ρ[i]? with
  | some (.val x) => fe (ρ.map vB) c fun y c => noLst y = true ∧ g x y c fun z c => True ∧ E.nx (ρ.set i (.val z)) c
  | _ => False
@[simp ↓] def sExpr (fe : FE) : FS := fun E ρ c => fe (ρ.map vB) c fun _ c => E.nx ρ c
@[simp ↓] def sRet (fe : FE) : FS := fun E ρ c => fe (ρ.map vB) c E.rt
@[simp ↓] def sRetN : FS := fun E _ c => E.rt .non c
@[simp ↓] def sIf (t : FT) (a b : FS) : FS := fun E ρ c => t (ρ.map vB) c fun k c => if k = true then a E ρ c else b E ρ c
/-- x.append(e) -/
@[simp ↓] def sApp (i : Nat) (fe : FE) : FS := fun E ρ c => match ρ[i]? with
  | some (.own l) => fe (ρ.map vA) c fun d c => l.length < 16777216 ∧ E.nx (ρ.set i (.own (l ++ [d]))) c
  | _ => False
@[simp ↓] def sAppB (i : Nat) (fe : FE) : FS := fun E ρ c => match ρ[i]? with
  | some (.own l) => fe (ρ.map vB) c fun d c => noLst d = true ∧ l.length < 16777216 ∧ E.nx (ρ.set i (.own (l ++ [d]))) c
  | _ => False
@[simp ↓] def forL (g : FG) (b : FS) (E : End3) : List D → Env3 → Nat → Prop
  | [], ρ, c => E.nx ρ c
  | d :: l, ρ, c => g d ρ fun ρ => b { E with nx := fun ρ c => forL g b E l ρ c, ct := fun ρ c => forL g b E l ρ c, bk := E.nx } ρ c
@[simp ↓] def sFor (fi : FI) (g : FG) (b : FS) : FS := fun E ρ c => fi (ρ.map vA) c fun l c => forL g b E l ρ c
def whileN (t : FT) (b : FS) (E : End3) : Nat → Env3 → Nat → Prop
  | 0, _, _ => False
  | n + 1, ρ, c => t (ρ.map vB) c fun k c => if k = true then b { E with nx := whileN t b E n, ct := whileN t b E n, bk := E.nx } ρ c else E.nx ρ c
def sWhile (t : FT) (b : FS) : FS := fun E ρ c => ∃ n, whileN t b E n ρ c
/-- a body's start -/
@[simp ↓] def start3 (n : Nat) (ds : List D) : Env3 := ds.map .val ++ List.replicate (n - ds.length) .no
/-- the whole of a def -/
@[simp ↓] def runM (n : Nat) (g : FS) (ds : List D) (c : Nat) (Q : KD) : Prop := g { nx := fun _ c => Q .non c, rt := Q } (start3 n ds) c
end L3

/-! L3, room and promises: as the hand layer's own, but that no repr is under way. -/
namespace L3
open PySem PySem.Spec PyProof.Rows L2
structure Room (k : Nat) (A : Around) : Prop where
  r2 : L2.Room k A
  gd : A.guards = some []
section
variable {j k : Nat} {A : Around}
theorem Room.hd (r : Room k A) : A.handled = none := r.r2.hd
theorem Room.mono (r : Room k A) (h : j ≤ k) : Room j A := ⟨r.r2.mono h, r.gd⟩
theorem Room.deeper (r : Room (k + 1) A) (env : Env) : Room k (A.deeper env) := ⟨r.r2.deeper env, r.gd⟩
theorem Room.depth (r : Room k A) : A.depth < recursionLimit := r.r2.depth
theorem Room.units (r : Room k A) : A.units + 64 < cLine := r.r2.units
theorem Room.units0 (r : Room k A) : A.units < cLine := r.r2.units0
theorem Room.un (r : Room k A) : A.units + 16 * k + 200 < cLine := r.r2.un
end
/-- a def keeps the promise sp -/
structure FnOk (P : Program) (w : World) (K : PySem.W.Frag) (mg : Str → Option Value) (base : Heap) (CX : CXT) (k : Nat) (f : Addr) (fd : FuncData) (ps : List Str) (sp : Sp) : Prop where
  len : ∀ vs H Q E, sp vs H Q E → vs.length = ps.length
  run : ∀ (A : Around) (outer : List Env) (s : Shared) (H : Hp) (args : Args) (us : List Value) (vs : List V) (Q : VK) (E : XK), Room k A → Env0 P w K mg base A outer s H → BindsTo s fd args (ps.zip us) → Vals vs us → sp vs H Q E →
    codeAny (model P w) A (.call (.ref f) args) (CR CX outer P w H s Q E) s
section
variable {P : Program} {w : World} {K : PySem.W.Frag} {mg : Str → Option Value} {base : Heap} {CX : CXT} {j k : Nat} {f : Addr} {fd : FuncData} {ps : List Str} {sp sp' : Sp}
theorem FnOk.mono (F : FnOk P w K mg base CX j f fd ps sp) (h : j ≤ k) : FnOk P w K mg base CX k f fd ps sp := ⟨F.len, fun A outer s H args us vs Q E hr => F.run A outer s H args us vs Q E (hr.mono h)⟩
theorem FnOk.imp (F : FnOk P w K mg base CX k f fd ps sp) (h : ∀ vs H Q E, sp' vs H Q E → sp vs H Q E) : FnOk P w K mg base CX k f fd ps sp' :=
  ⟨fun vs H Q E q => F.len vs H Q E (h _ _ _ _ q), fun A outer s H args us vs Q E hr e0 hb r q => F.run A outer s H args us vs Q E hr e0 hb r (h _ _ _ _ q)⟩
theorem FnOk.of2 (F : L2.FnOk P w K mg base CX k f fd ps sp) : FnOk P w K mg base CX k f fd ps sp := ⟨F.len, fun A outer s H args us vs Q E hr => F.run A outer s H args us vs Q E hr.r2⟩
/-- a def by its body -/
theorem fn_of {qual name : Str} {params : Arguments} {body : List Stmt} {scope : Scope} {dV kV doc pm cdv ct oc : Value} {an od : Option Addr} {osl : Array (Option Value)} {N : List Str}
    (lk : K.lookup f = some ⟨oc, od, .func (PySem.W.fnOf name qual params body scope dV kV doc pm an cdv ct), osl⟩) (hcd : PySem.W.codeIn K cdv qual = true) (S : FnScope N ps scope) (len : ∀ vs H Q E, sp vs H Q E → vs.length = ps.length)
    (hbody : ∀ (A : Around) (outer : List Env) (s : Shared) (H : Hp) (vs : List V) (Q : VK) (E : XK), Room k (A.deeper (envOfC qual scope s.heap.objs.size f cdv)) → sp vs H Q E → ∃ t, PSs (cxOf CX P w K mg base N qual scope f cdv A outer s H E) body t ∧ t { nx := fun _ H' => Q .non H', rt := Q } (L2.start N vs) H) :
    FnOk P w K mg base CX (k + 1) f (PySem.W.fnOf name qual params body scope dV kV doc pm an cdv ct) ps sp :=
  ⟨len, fun A outer s H args us vs Q E hr e0 hb r hsp => LamX.run_ofS lk hcd S hr.r2 e0 hb r (len _ _ _ _ hsp) fun _ => hbody A outer s H vs Q E (hr.deeper _) hsp⟩
theorem Fun.ok3 {x qual : Str} {st : Stmt} {N : List Str} (F : Fun K x qual st f fd) (S : FnScope N ps (defScope st)) (len : ∀ vs H Q E, sp vs H Q E → vs.length = ps.length)
    (hbody : ∀ (cdv : Value) (A : Around) (outer : List Env) (s : Shared) (H : Hp) (vs : List V) (Q : VK) (E : XK), fd.code = cdv → Room k (A.deeper (envOfC qual (defScope st) s.heap.objs.size f cdv)) → sp vs H Q E →
      ∃ t, PSs (cxOf CX P w K mg base N qual (defScope st) f cdv A outer s H E) (defBody st) t ∧ t { nx := fun _ H' => Q .non H', rt := Q } (L2.start N vs) H) : FnOk P w K mg base CX (k + 1) f fd ps sp := by
  obtain ⟨oc, od, kV, doc, pm, an, cdv, ct, osl, rfl, lk, hcd⟩ := F.ex
  exact fn_of lk hcd S len fun A outer s H vs Q E hr hsp => hbody cdv A outer s H vs Q E rfl hr hsp
end
section
variable {X : Cx} {CX : CXT} {k : Nat} {f : Addr} {fd : FuncData} {ps ks : List Str} {ds : List Value} {dvs : List V} {sp : Sp} {E : XK} {x : Str} {p pos : Pos} {e : Expr} {es : List Expr} {kws : List Keyword} {t tk : TA}
theorem ran {pins : List (Addr × Obj)} {σ : L2.St} {H : Hp} {s : Shared} {Q : VK} {args : Args} {us : List Value} {vs : List V} (F : FnOk X.prog X.w X.K X.mg X.base CX k f fd ps sp) (hr : Room k X.A) (hx : Passes CX X E) (I : Inv X pins σ H s) (hb : BindsTo s fd args (ps.zip us)) (r : Vals vs us) (h : sp vs H Q E) :
    codeAny (model X.prog X.w) X.A (.call (.ref f) args) (fun r s' => match r with | .ok (.ret u) => EP X pins σ Q u s' | .ok _ => False | .error e => X.xe e s') s :=
  codeAny_mono (F.run X.A X.stack s H args us vs Q E hr I.env0 hb r h) fun r s' hq => by
    cases r with
    | error e => exact hx pins σ H s e s' I hq
    | ok fl =>
      cases fl with
      | ret u => exact I.after hq
      | next => exact False.elim hq
      | brk => exact False.elim hq
      | cont => exact False.elim hq
theorem of_ran {pins : List (Addr × Obj)} {σ : L2.St} {s : Shared} {Q : VK} {args : Args} (h : codeAny (model X.prog X.w) X.A (.call (.ref f) args) (fun r s' => match r with | .ok (.ret u) => EP X pins σ Q u s' | .ok _ => False | .error e => X.xe e s') s) :
    wpAny (model X.prog X.w) X.A (call (.ref f) args.pos args.kw) (EP X pins σ Q) X.xe s := by
  obtain ⟨us, kw⟩ := args
  refine wpAny_call (codeAny_mono h fun r s' hq => ?_)
  cases r with
  | error e => exact hq
  | ok fl => cases fl <;> exact hq
theorem pe_call (F : FnOk X.prog X.w X.K X.mg X.base CX k f fd ps sp) (hr : Room k X.A) (hg : Gl X x) (hm : X.mg x = some (.ref f)) (hk : PySem.W.keepIn X.K (.ref f) = true) (hb : Binds X.K fd ps ds) (hd : Vals dvs ds) (hx : Passes CX X E)
    (ha : PA X (e :: es) t) (hdb : (x == ("__debug__" : Str)) = false := by decide) (he : starEach (e :: es) X.env = (false, eval e X.env) :: starEach es X.env := by rfl) (hpl : (backTo pos (starEach es X.env)).any (·.1) = false := by rfl) :
    PE X (.Call (.Name x p) (e :: es) [] pos) (tCall sp dvs E t) := by
  refine ⟨fun pins s σ H Q I h => wpAny_Call_Name_kw (ld_glob I hg hm ?_ hdb)⟩
  refine PySem.W.callWith_K (h₀ := X.base) I.ok.mod.kin hk (thn (ha.run pos pins s σ H _ I h) fun us s1 ⟨vs, H1, I1, r, q⟩ => ⟨I1.kIn, ?_⟩) he hpl
  have r2 : Vals (vs ++ dvs) (us ++ ds) := r.append hd
  exact of_ran (args := ⟨us, []⟩) (ran F hr hx I1 (hb s1 us I1.kIn (by rw [← r2.length]; exact F.len _ _ _ _ q)) r2 q)
theorem pe_call0 (F : FnOk X.prog X.w X.K X.mg X.base CX k f fd ps sp) (hr : Room k X.A) (hg : Gl X x) (hm : X.mg x = some (.ref f)) (hk : PySem.W.keepIn X.K (.ref f) = true) (hb : Binds X.K fd ps ds) (hd : Vals dvs ds) (hx : Passes CX X E)
    (hdb : (x == ("__debug__" : Str)) = false := by decide) : PE X (.Call (.Name x p) [] [] pos) (tCall sp dvs E tNil) := by
  refine ⟨fun pins s σ H Q I h => wpAny_Call_Name_kw (ld_glob I hg hm ?_ hdb)⟩
  exact PySem.W.callWith_K0 I.kIn hk (of_ran (args := ⟨[], []⟩) (ran F hr hx I (hb s [] I.kIn (by rw [List.nil_append, ← hd.length]; exact F.len _ _ _ _ h)) hd h))
end
end L3

/-! L3, the rules: what the pure readings say of the machine. -/
namespace L3
open PySem PySem.Spec PyProof.Rows L2

/-- ** of greater bases, too -/
def CPow3 (i j : Int) : Prop := 0 ≤ j ∧ ((j ≤ 1000000 ∧ i.natAbs < 2 ^ 64) ∨ (j ≤ 1000 ∧ i.natAbs < 2 ^ 256))
theorem op_pow3 {X : Cx} : OpR X (binaryOp .Pow) (rI CPow3 fun i j => .int (i ^ j.toNat)) := opI fun i j _ _ _ _ _ hc q => by
  obtain ⟨h0, ⟨h1, h2⟩ | ⟨h1, h2⟩⟩ := hc
  · exact pow_int_small h0 h1 h2 q
  · refine PyProof.Rows.pow_int h0 ?_ q
    have hl := PySem.Flt.log2_lt_of (by decide : 0 < 256) h2
    clear h2
    have hb : Builtin.Int.intBits i ≤ 256 := by
      unfold Builtin.Int.intBits
      split
      · exact Nat.zero_le _
      · exact hl
    obtain ⟨n, rfl⟩ := Int.eq_ofNat_of_zero_le h0
    have h1 : n ≤ 1000 := by exact Int.ofNat_le.mp h1
    have h3 : Builtin.Int.intBits i * n ≤ 256000 := Nat.mul_le_mul hb h1
    have h4 : ((Builtin.Int.intBits i * n : Nat) : Int) ≤ ((256000 : Nat) : Int) := Int.ofNat_le.mpr h3
    rw [Int.natCast_mul] at h4
    exact Int.le_trans h4 (by decide)
/-- at a: an error of the class at C, its dict at dd -/
def ExcO (a C dd : Addr) : HO := .ext fun h => ∃ (oe : Obj) (vs : Array Value), h.get? a = some oe ∧ oe.cls = .ref C ∧ oe.dict = some dd ∧ oe.data = .fields vs
/-- at a: the function object o -/
def FunO (a : Addr) (o : Obj) : HO := .ext fun h => h.get? a = some o
theorem excO_lst {a C dd : Addr} {ys : List V} : ExcO a C dd ≠ .lst ys := fun z => by unfold ExcO at z; cases z
/-- a dict's object, by its keys and its values -/
def DicO : Ks → List V → HO → Prop
  | .k ks, vs, o => ∃ kvs : List (Key × V), o = .dK kvs ∧ kvs.map (·.1) = ks ∧ kvs.map (·.2) = vs
  | .t ks, vs, o => ∃ kvs : List (List Key × V), o = .dT kvs ∧ kvs.map (·.1) = ks ∧ kvs.map (·.2) = vs
theorem DicO.kind {ks : Ks} {vs : List V} {o : HO} (h : DicO ks vs o) : (∃ kvs, o = .dK kvs) ∨ ∃ kvs, o = .dT kvs := by
  cases ks with
  | k ks => obtain ⟨kvs, h, _⟩ := h; exact .inl ⟨kvs, h⟩
  | t ks => obtain ⟨kvs, h, _⟩ := h; exact .inr ⟨kvs, h⟩
theorem DicO.no {ks : Ks} {vs : List V} {o : HO} (h : DicO ks vs o) {C : Prop} (h1 : ∀ kvs, o = .dK kvs → C) (h2 : ∀ kvs, o = .dT kvs → C) : C := by
  rcases h.kind with ⟨kvs, h⟩ | ⟨kvs, h⟩
  · exact h1 kvs h
  · exact h2 kvs h
theorem excO_dK {a C dd : Addr} {ks : Ks} {vs : List V} : ¬ DicO ks vs (ExcO a C dd) := fun z => z.no (fun _ z => by unfold ExcO at z; cases z) (fun _ z => by unfold ExcO at z; cases z)
theorem funO_dK {a : Addr} {o : Obj} {ks : Ks} {vs : List V} : ¬ DicO ks vs (FunO a o) := fun z => z.no (fun _ z => by unfold FunO at z; cases z) (fun _ z => by unfold FunO at z; cases z)
theorem funO_lst {a : Addr} {o : Obj} {ys : List V} : FunO a o ≠ .lst ys := fun z => by unfold FunO at z; cases z
def dicK (kvs : List (Str × Int)) : List (Key × V) := kvs.map fun q => (Sum.inr q.1, V.int q.2)
/-- a function's code object, its qualified name -/
def codeOf (o : Obj) : Option (Addr × Str) := match o.data with
  | .func fd => match fd.code with
    | .ref c => some (c, fd.qualname)
    | _ => none
  | _ => none
theorem codeO_lst {c : Addr} {q : Str} {ys : List V} : LamX.CodeO c q ≠ .lst ys := fun z => by unfold LamX.CodeO at z; cases z
theorem codeO_dK {c : Addr} {q : Str} {ks : Ks} {vs : List V} : ¬ DicO ks vs (LamX.CodeO c q) := fun z => z.no (fun _ z => by unfold LamX.CodeO at z; cases z) (fun _ z => by unfold LamX.CodeO at z; cases z)
mutual
def Rep (K : PySem.W.Frag) (p : Pn) (F : Hp) : D → V → Prop
  | .non, v => v = .non
  | .bl b, v => v = .bl b
  | .int i, v => v = .int i
  | .str x, v => v = .str x
  | .ty n, v => v = .ty n
  | .rf a, v => v = .ref a
  | .lam a F0 p0, v => v = .ref a ∧ (∀ b o, F0 b = some o → F b = some o) ∧ p.pot = p0.pot ∧ ∀ x ∈ p0.cod, x ∈ p.cod
  | .exc n d, v => ∃ a dd w, v = .ref a ∧ F a = some (ExcO a (He.ga K n) dd) ∧ F dd = some (.xd [("value", w)]) ∧ Rep K p F d w
  | .clo a o, v => v = .ref a ∧ F a = some (FunO a o) ∧ ∃ c q, codeOf o = some (c, q) ∧ F c = some (LamX.CodeO c q)
  | .dic kvs, v => ∃ a, v = .ref a ∧ F a = some (.dK (dicK kvs))
  | .pot, v => ∃ a, p.pot = some a ∧ v = .ref a
  | .scr ns, v => ∃ a, v = .ref a ∧ SqL K F a (ns.map V.int)
  | .tup l, v => ∃ a xs, v = .ref a ∧ SqT K F a xs ∧ RepL K p F l xs
  | .lst l, v => ∃ a xs, v = .ref a ∧ F a = some (.lst xs) ∧ RepL K p F l xs
  | .dct ks l, v => ∃ (a : Addr) (o : HO) (vs : List V), v = .ref a ∧ F a = some o ∧ DicO ks vs o ∧ RepL K p F l vs
def RepL (K : PySem.W.Frag) (p : Pn) (F : Hp) : List D → List V → Prop
  | [], xs => xs = []
  | d :: l, xs => ∃ x r, xs = x :: r ∧ Rep K p F d x ∧ RepL K p F l r
end
theorem RepL.len {K : PySem.W.Frag} {p : Pn} {F : Hp} : ∀ {l : List D} {xs : List V}, RepL K p F l xs → xs.length = l.length
  | [], _, h => by cases h; rfl
  | d :: l, _, h => by
    obtain ⟨x, r, rfl, _, h⟩ := h
    rw [List.length_cons, List.length_cons, RepL.len h]
theorem Sub.sqL {K : PySem.W.Frag} {F F' : Hp} {a : Addr} {xs : List V} (e : ∀ b o, F b = some o → F' b = some o) (h : SqL K F a xs) : SqL K F' a xs := by
  rcases h with (h | ⟨o, h⟩) | h
  · exact .inl (.inl (e _ _ h))
  · exact .inl (.inr ⟨o, e _ _ h⟩)
  · exact .inr h
theorem Sub.sqT {K : PySem.W.Frag} {F F' : Hp} {a : Addr} {xs : List V} (e : ∀ b o, F b = some o → F' b = some o) (h : SqT K F a xs) : SqT K F' a xs := by
  rcases h with (h | ⟨o, h⟩) | h
  · exact .inl (.inl (e _ _ h))
  · exact .inl (.inr ⟨o, e _ _ h⟩)
  · exact .inr h
mutual
theorem Rep.mono {K : PySem.W.Frag} {p : Pn} {F F' : Hp} (e : ∀ b o, F b = some o → F' b = some o) : ∀ {d : D} {v : V}, Rep K p F d v → Rep K p F' d v
  | .non, _, h => h
  | .bl _, _, h => h
  | .int _, _, h => h
  | .str _, _, h => h
  | .ty _, _, h => h
  | .rf _, _, h => h
  | .lam .., _, h => ⟨h.1, fun b o q => e b o (h.2.1 b o q), h.2.2⟩
  | .exc n d, _, h => by
    obtain ⟨a, dd, w, rfl, h1, h2, h3⟩ := h
    exact ⟨a, dd, w, rfl, e _ _ h1, e _ _ h2, Rep.mono e h3⟩
  | .clo a o, _, h => by
    obtain ⟨h1, h2, c, q, h3, h4⟩ := h
    exact ⟨h1, e _ _ h2, c, q, h3, e _ _ h4⟩
  | .dic kvs, _, h => by
    obtain ⟨a, rfl, h1⟩ := h
    exact ⟨a, rfl, e _ _ h1⟩
  | .pot, _, h => h
  | .scr _, _, h => by
    obtain ⟨a, rfl, h1⟩ := h
    exact ⟨a, rfl, Sub.sqL e h1⟩
  | .tup l, _, h => by
    obtain ⟨a, xs, rfl, h1, h2⟩ := h
    exact ⟨a, xs, rfl, Sub.sqT e h1, RepL.mono e h2⟩
  | .lst l, _, h => by
    obtain ⟨a, xs, rfl, h1, h2⟩ := h
    exact ⟨a, xs, rfl, e _ _ h1, RepL.mono e h2⟩
  | .dct ks l, _, h => by
    obtain ⟨a, o, vs, rfl, h1, h2, h3⟩ := h
    exact ⟨a, o, vs, rfl, e _ _ h1, h2, RepL.mono e h3⟩
theorem RepL.mono {K : PySem.W.Frag} {p : Pn} {F F' : Hp} (e : ∀ b o, F b = some o → F' b = some o) : ∀ {l : List D} {xs : List V}, RepL K p F l xs → RepL K p F' l xs
  | [], _, h => h
  | d :: l, _, h => by
    obtain ⟨x, r, rfl, h1, h2⟩ := h
    exact ⟨x, r, rfl, Rep.mono e h1, RepL.mono e h2⟩
end
mutual
/-- data without lists leans on tuples alone -/
theorem Rep.tups {K : PySem.W.Frag} {p : Pn} {F F' : Hp} (e : ∀ a xs, SqT K F a xs → SqT K F' a xs) (en : ∀ a o, (∀ ys, o ≠ HO.lst ys) → (∀ ks vs, ¬ DicO ks vs o) → F a = some o → F' a = some o) : ∀ {d : D} {v : V}, noLst d = true → Rep K p F d v → Rep K p F' d v
  | .non, _, _, h => h
  | .bl _, _, _, h => h
  | .int _, _, _, h => h
  | .str _, _, _, h => h
  | .ty _, _, _, h => h
  | .rf _, _, _, h => h
  | .lam .., _, n, h => by simp [noLst] at n
  | .exc n d, _, nl, h => by
    obtain ⟨a, dd, w, rfl, h1, h2, h3⟩ := h
    exact ⟨a, dd, w, rfl, en _ _ (fun _ => excO_lst) (fun _ _ => excO_dK) h1, en _ _ (fun _ z => nomatch z) (fun _ _ z => z.no (fun _ z => nomatch z) (fun _ z => nomatch z)) h2, Rep.tups e en (by simpa [noLst] using nl) h3⟩
  | .clo a o, _, n, h => by
    obtain ⟨h1, h2, c, q, h3, h4⟩ := h
    exact ⟨h1, en _ _ (fun _ => funO_lst) (fun _ _ => funO_dK) h2, c, q, h3, en _ _ (fun _ => codeO_lst) (fun _ _ => codeO_dK) h4⟩
  | .dic kvs, _, n, h => by simp [noLst] at n
  | .pot, _, n, h => by simp [noLst] at n
  | .scr _, _, n, h => by simp [noLst] at n
  | .tup l, _, n, h => by
    obtain ⟨a, xs, rfl, h1, h2⟩ := h
    exact ⟨a, xs, rfl, e _ _ h1, RepL.tups e en (by simpa [noLst] using n) h2⟩
  | .lst l, _, n, h => by simp [noLst] at n
  | .dct _ _, _, n, h => by simp [noLst] at n
theorem RepL.tups {K : PySem.W.Frag} {p : Pn} {F F' : Hp} (e : ∀ a xs, SqT K F a xs → SqT K F' a xs) (en : ∀ a o, (∀ ys, o ≠ HO.lst ys) → (∀ ks vs, ¬ DicO ks vs o) → F a = some o → F' a = some o) : ∀ {l : List D} {xs : List V}, noLstL l = true → RepL K p F l xs → RepL K p F' l xs
  | [], _, _, h => h
  | d :: l, _, n, h => by
    obtain ⟨x, r, rfl, h1, h2⟩ := h
    have n' : noLst d = true ∧ noLstL l = true := by simpa [noLstL] using n
    exact ⟨x, r, rfl, Rep.tups e en n'.1 h1, RepL.tups e en n'.2 h2⟩
end
theorem RepL.app {K : PySem.W.Frag} {p : Pn} {F : Hp} : ∀ {l m : List D} {xs ys : List V}, RepL K p F l xs → RepL K p F m ys → RepL K p F (l ++ m) (xs ++ ys)
  | [], _, _, _, h, h2 => by cases h; exact h2
  | d :: l, _, _, _, h, h2 => by
    obtain ⟨x, r, rfl, h1, h⟩ := h
    exact ⟨x, _, rfl, h1, RepL.app h h2⟩
theorem RepL.get {K : PySem.W.Frag} {p : Pn} {F : Hp} : ∀ {l : List D} {xs : List V} {i : Nat} {d : D}, RepL K p F l xs → l[i]? = some d → ∃ v, xs[i]? = some v ∧ Rep K p F d v
  | [], _, _, _, _, e => by simp at e
  | d :: l, _, 0, _, h, e => by
    obtain ⟨x, r, rfl, h1, h⟩ := h
    simp at e
    subst e
    exact ⟨x, rfl, h1⟩
  | d :: l, _, i + 1, _, h, e => by
    obtain ⟨x, r, rfl, h1, h⟩ := h
    simp at e
    obtain ⟨v, e1, e2⟩ := RepL.get h e
    exact ⟨v, by simpa using e1, e2⟩
theorem RepL.back {K : PySem.W.Frag} {p : Pn} {F : Hp} {l : List D} {xs : List V} {i : Nat} {v : V} (h : RepL K p F l xs) (e : xs[i]? = some v) : ∃ d, l[i]? = some d ∧ Rep K p F d v := by
  have hi : i < xs.length := (List.getElem?_eq_some_iff.mp e).1
  rw [h.len] at hi
  obtain ⟨v', e1, e2⟩ := h.get (List.getElem?_eq_getElem hi)
  rw [e] at e1
  cases e1
  exact ⟨_, List.getElem?_eq_getElem hi, e2⟩
theorem RepL.take {K : PySem.W.Frag} {p : Pn} {F : Hp} : ∀ {l : List D} {xs : List V} (n : Nat), RepL K p F l xs → RepL K p F (l.take n) (xs.take n)
  | _, _, 0, _ => rfl
  | [], _, n + 1, h => by cases h; rfl
  | d :: l, _, n + 1, h => by
    obtain ⟨x, r, rfl, h1, h⟩ := h
    exact ⟨x, _, rfl, h1, RepL.take n h⟩
theorem RepL.drop {K : PySem.W.Frag} {p : Pn} {F : Hp} : ∀ {l : List D} {xs : List V} (n : Nat), RepL K p F l xs → RepL K p F (l.drop n) (xs.drop n)
  | _, _, 0, h => h
  | [], _, n + 1, h => by cases h; rfl
  | d :: l, _, n + 1, h => by
    obtain ⟨x, r, rfl, h1, h⟩ := h
    exact RepL.drop n h

/-! ### the heap, frozen and whole -/
def PotAt (H : Hp) (a : Addr) (c : Nat) : Prop := ∃ x y z : Int, H a = some (.lst [.int x, .int y, .int z]) ∧ 0 ≤ x ∧ 0 ≤ y ∧ y < 2 ^ 61 ∧ 0 ≤ z ∧ z ≤ c
structure Tab3 (p : Pn) (H : Hp) : Prop where
  tabs : LamX.Tabs tabs0 H
  cod : ∀ q ∈ p.cod, H q.1 = some (LamX.CodeO q.1 q.2)
theorem Tab3.ext {p : Pn} {H H' : Hp} (t : Tab3 p H) (e : ∀ b o, H b = some o → H' b = some o) : Tab3 p H' := ⟨t.tabs.ext e, fun q hq => e _ _ (t.cod q hq)⟩
/-- F: no tables; the floor stands -/
structure NT (p : Pn) (F : Hp) : Prop where
  t : ∀ b ps, F b ≠ some (HO.tbl ps)
  f : ∀ b o, p.flo b = some o → F b = some o
structure Ok3 (p : Pn) (c : Nat) (F H : Hp) : Prop where
  sub : ∀ b o, F b = some o → H b = some o
  pot : ∀ a, p.pot = some a → PotAt H a c ∧ F a = none
  tab : Tab3 p H
  nt : NT p F
theorem nt_upd {p : Pn} {F : Hp} (n : NT p F) (a : Addr) (xs : List V) (na : F a = none) : NT p (upd F a (.lst xs)) := ⟨fun b ps h => by
  by_cases e : b = a
  · rw [e, upd_same] at h; cases h
  · rw [upd_ne e] at h; exact n.t b ps h, fun b o h => by
  have := n.f b o h
  rw [upd_ne (ne_of_none this na)]; exact this⟩
structure Fwd (p : Pn) (F H F' H' : Hp) : Prop where
  frz : ∀ b o, F b = some o → F' b = some o
  keep : ∀ b o, H b = some o → p.pot ≠ some b → (∀ ps, o ≠ HO.tbl ps) → H' b = some o
  new : ∀ b o, F' b = some o → F b = some o ∨ H b = none ∨ ∃ q, o = LamX.CodeO b q
  there : ∀ b, H' b = none → H b = none
theorem Fwd.refl (p : Pn) (F H : Hp) : Fwd p F H F H := ⟨fun _ _ h => h, fun _ _ h _ _ => h, fun _ _ h => .inl h, fun _ h => h⟩
theorem Fwd.trans {p : Pn} {F H F1 H1 F2 H2 : Hp} (a : Fwd p F H F1 H1) (b : Fwd p F1 H1 F2 H2) : Fwd p F H F2 H2 where
  frz := fun c o h => b.frz c o (a.frz c o h)
  keep := fun c o h n t => b.keep c o (a.keep c o h n t) n t
  new := fun c o h => by
    rcases b.new c o h with h | h
    · exact a.new c o h
    · rcases h with h | h
      · exact .inr (.inl (a.there c h))
      · exact .inr (.inr h)
  there := fun c h => a.there c (b.there c h)
/-- a new frozen object -/
theorem Fwd.laid {p : Pn} {c : Nat} {F H : Hp} (ok : Ok3 p c F H) {q : Addr} (nq : H q = none) (o : HO) (ho : ∀ ps, o ≠ .tbl ps := by exact fun _ z => nomatch z) : Fwd p F H (upd F q o) (upd H q o) ∧ Ok3 p c (upd F q o) (upd H q o) := by
  have nF : F q = none := by
    cases e : F q with
    | none => rfl
    | some u => rw [ok.sub q u e] at nq; cases nq
  refine ⟨⟨fun b u h => ?_, fun b u h _ _ => ?_, fun b u h => ?_, fun b h => ?_⟩, ⟨fun b u h => ?_, fun a e => ?_, ok.tab.ext fun b u h => by rw [upd_ne (ne_of_none h nq)]; exact h, ⟨fun b ps h => ?_, fun b u h => by rw [upd_ne (ne_of_none (ok.nt.f b u h) nF)]; exact ok.nt.f b u h⟩⟩⟩
  · rw [upd_ne (ne_of_none h nF)]; exact h
  · rw [upd_ne (ne_of_none h nq)]; exact h
  · by_cases e : b = q
    · subst e; exact .inr (.inl nq)
    · rw [upd_ne e] at h; exact .inl h
  · by_cases e : b = q
    · subst e; exact nq
    · rw [upd_ne e] at h; exact h
  · by_cases e : b = q
    · subst e; rw [upd_same] at h ⊢; exact h
    · rw [upd_ne e] at h ⊢; exact ok.sub b u h
  · obtain ⟨⟨x, y, z, h, r⟩, n⟩ := ok.pot a e
    have ne : a ≠ q := ne_of_none h nq
    exact ⟨⟨x, y, z, by rw [upd_ne ne]; exact h, r⟩, by rw [upd_ne ne]; exact n⟩
  · by_cases e : b = q
    · subst e; rw [upd_same] at h; exact ho ps (Option.some.inj h)
    · rw [upd_ne e] at h; exact ok.nt.t b ps h

/-- what is told of a value: it is data d -/
def Tell (K : PySem.W.Frag) (p : Pn) (F H : Hp) (Q' : KD) (Q : VK) : Prop := ∀ d c' v F' H', Fwd p F H F' H' → Ok3 p c' F' H' → Rep K p F' d v → Q' d c' → Q v H'
theorem Tell.fwd {K : PySem.W.Frag} {p : Pn} {F H F1 H1 : Hp} {Q' : KD} {Q : VK} (t : Tell K p F H Q' Q) (w : Fwd p F H F1 H1) : Tell K p F1 H1 Q' Q := fun d c' v F' H' fw ok r q => t d c' v F' H' (w.trans fw) ok r q
def TellL (K : PySem.W.Frag) (p : Pn) (F H : Hp) (Q' : List D → Nat → Prop) (Q : List V → Hp → Prop) : Prop := ∀ d c' v F' H', Fwd p F H F' H' → Ok3 p c' F' H' → RepL K p F' d v → Q' d c' → Q v H'
def TellB (p : Pn) (F H : Hp) (Q' : Bool → Nat → Prop) (Q : Bool → Hp → Prop) : Prop := ∀ b c' F' H', Fwd p F H F' H' → Ok3 p c' F' H' → Q' b c' → Q b H'

/-- the state an expression meets -/
structure ESt (K : PySem.W.Frag) (p : Pn) (c : Nat) (ρ : Rho) (σ : L2.St) (F H : Hp) : Prop where
  ok : Ok3 p c F H
  slot : ∀ i d, get3 ρ i = some d → ∃ v, σ[i]? = some (some v) ∧ Rep K p F d v
  len : ρ.length = σ.length
theorem ESt.fwd {K : PySem.W.Frag} {p : Pn} {c c' : Nat} {ρ : Rho} {σ : L2.St} {F H F' H' : Hp} (e : ESt K p c ρ σ F H) (w : Fwd p F H F' H') (ok : Ok3 p c' F' H') : ESt K p c' ρ σ F' H' :=
  ⟨ok, fun i d h => let ⟨v, a, b⟩ := e.slot i d h; ⟨v, a, b.mono w.frz⟩, e.len⟩
def tE (K : PySem.W.Frag) (f : FE) : TE := fun σ H Q => ∃ p c ρ F Q', ESt K p c ρ σ F H ∧ f ρ c Q' ∧ Tell K p F H Q' Q
def tAr (K : PySem.W.Frag) (f : FA) : TA := fun σ H Q => ∃ p c ρ F Q', ESt K p c ρ σ F H ∧ f ρ c Q' ∧ TellL K p F H Q' Q
def tTs (K : PySem.W.Frag) (f : FT) : TT := fun σ H Q => ∃ p c ρ F Q', ESt K p c ρ σ F H ∧ f ρ c Q' ∧ TellB p F H Q' Q
abbrev EX (X : Cx) (e : Expr) (f : FE) : Prop := PE X e (tE X.K f)
abbrev AX (X : Cx) (es : List Expr) (f : FA) : Prop := PA X es (tAr X.K f)
abbrev TX (X : Cx) (e : Expr) (f : FT) : Prop := PT X e (tTs X.K f)
abbrev WX3 (X : Cx) (e : Expr) (f : FT) : Prop := PW X e (tTs X.K f)
theorem PE.imp {X : Cx} {e : Expr} {t t' : TE} (h : PE X e t) (w : ∀ σ H Q, t' σ H Q → t σ H Q) : PE X e t' := ⟨fun pins s σ H Q I q => h.run pins s σ H Q I (w σ H Q q)⟩
theorem PA.imp {X : Cx} {e : List Expr} {t t' : TA} (h : PA X e t) (w : ∀ σ H Q, t' σ H Q → t σ H Q) : PA X e t' := ⟨fun pos pins s σ H Q I q => h.run pos pins s σ H Q I (w σ H Q q)⟩
theorem PT.imp {X : Cx} {e : Expr} {t t' : TT} (h : PT X e t) (w : ∀ σ H Q, t' σ H Q → t σ H Q) : PT X e t' := ⟨fun pins s σ H Q I q => h.run pins s σ H Q I (w σ H Q q)⟩
theorem PW.imp {X : Cx} {e : Expr} {t t' : TT} (h : PW X e t) (w : ∀ σ H Q, t' σ H Q → t σ H Q) : PW X e t' := ⟨fun wh pins s σ H Q I q => h.run wh pins s σ H Q I (w σ H Q q)⟩
theorem PS.imp {X : Cx} {e : Stmt} {t t' : TS} (h : PS X e t) (w : ∀ D σ H, t' D σ H → t D σ H) : PS X e t' := ⟨fun pins s σ H D I q => h.run pins s σ H D I (w D σ H q)⟩
theorem PSs.imp {X : Cx} {e : List Stmt} {t t' : TS} (h : PSs X e t) (w : ∀ D σ H, t' D σ H → t D σ H) : PSs X e t' := ⟨fun pins s σ H D I q => h.run pins s σ H D I (w D σ H q)⟩

/-! ### expressions -/
section
variable {X : Cx} {a b c e : Expr} {es : List Expr} {fa fb fd : FE} {fr : FA} {pos : Pos}
theorem ex_var (i : Nat) {x : Str} {pos : Pos} (hN : X.N[i]? = some x := by rfl) (hv : Vis X.env.scope x := by first | exact Or.inl rfl | exact Or.inr (Or.inl rfl) | exact Or.inr (Or.inr rfl)) (hd : (x == ("__debug__" : Str)) = false := by decide)
    (hcd : (x == ("__classdict__" : Str)) = false := by decide) : EX X (.Name x pos) (eVar i) := PE.imp (pe_var hN hv hd hcd) fun σ H Q ⟨p, c, ρ, F, Q', es, h, t⟩ => by
  unfold eVar at h
  split at h
  · rename_i d e
    obtain ⟨v, e1, r⟩ := es.slot i d e
    exact ⟨v, e1, t d c v F H (.refl ..) es.ok r h⟩
  · exact h.elim
/-- a value that hangs on nothing -/
def FlatR (d : D) (v : V) : Prop := ∀ K p F, Rep K p F d v
theorem ex_C {d : D} {v : V} (h : PE X e (tC v)) (r : FlatR d v) : EX X e (eC d) := PE.imp h fun σ H Q ⟨p, c, ρ, F, Q', es, h, t⟩ => t d c v F H (.refl ..) es.ok (r _ _ _) h
theorem ex_int {i j pos} : EX X (.Constant (.int i) j pos) (eC (.int i)) := ex_C pe_int fun _ _ _ => rfl
theorem ex_bl {i j pos} : EX X (.Constant (.bool i) j pos) (eC (.bl i)) := ex_C pe_bl fun _ _ _ => rfl
theorem ex_non {j pos} : EX X (.Constant .none j pos) (eC .non) := ex_C pe_non fun _ _ _ => rfl
theorem ex_str {x j pos} : EX X (.Constant (.str x) j pos) (eC (.str x)) := ex_C pe_str fun _ _ _ => rfl
theorem ex_gI {x : Str} {i : Int} {t : Tok} (hm : X.mg x = some (.int i t)) (hg : Gl X x := by rfl) (hd : (x == ("__debug__" : Str)) = false := by decide) : EX X (.Name x pos) (eC (.int i)) := ex_C (pe_glob (v := .int i) hg hm ⟨_, rfl⟩ hd) fun _ _ _ => rfl
theorem ex_gS {x y : Str} {t : Tok} (hm : X.mg x = some (.str y t)) (hg : Gl X x := by rfl) (hd : (x == ("__debug__" : Str)) = false := by decide) : EX X (.Name x pos) (eC (.str y)) := ex_C (pe_glob (v := .str y) hg hm ⟨_, rfl⟩ hd) fun _ _ _ => rfl
/-- a built-in class as a value -/
theorem ex_ty {x : Str} {n : String} (hm : X.mg x = none) (hv : bootBuiltins x = some (.type n)) (hg : Gl X x := by rfl) (hn : x ≠ "__name__" := by decide) (hd : (x == ("__debug__" : Str)) = false := by decide) : EX X (.Name x pos) (eC (.ty n)) :=
  ex_C (pe_bltn hg hm hv (v := .ty n) rfl hn hd) fun _ _ _ => rfl
/-- a pure operation on values, as the layer's R2 asks it -/
def OpS (K : PySem.W.Frag) (r : R2) (g : D → D → Nat → KD → Prop) : Prop := ∀ p c F H x y v u Q' Q, Ok3 p c F H → Rep K p F x v → Rep K p F y u → g x y c Q' → Tell K p F H Q' Q → r v u H Q
theorem ex2 {r : R2} {g : D → D → Nat → KD → Prop} (s : OpS X.K r g) (h : PE X e (tOp r (tE X.K fa) (tE X.K fb))) : EX X e (eOp g fa fb) := PE.imp h fun σ H Q ⟨p, c, ρ, F, Q', es, h, t⟩ =>
  ⟨p, c, ρ, F, _, es, h, fun x c1 v F1 H1 w1 ok1 r1 q1 => ⟨p, c1, ρ, F1, _, es.fwd w1 ok1, q1, fun y c2 u F2 H2 w2 ok2 r2 q2 =>
    s p c2 F2 H2 x y v u Q' Q ok2 (r1.mono w2.frz) r2 q2 (t.fwd (w1.trans w2))⟩⟩
theorem ex_op {op : Operator} {r : R2} {g : D → D → Nat → KD → Prop} (ho : OpR X (binaryOp op) r) (s : OpS X.K r g) (ha : EX X a fa) (hb : EX X b fb) : EX X (.BinOp a op b pos) (eOp g fa fb) := ex2 s (pe_op ho ha hb)
theorem ex_cmp {op : CmpOp} {r : R2} {g : D → D → Nat → KD → Prop} (ho : OpR X (compareOp op) r) (s : OpS X.K r g) (ha : EX X a fa) (hb : EX X b fb) (hm : behindInMarks op b = false) : EX X (.Compare a [op] [b] pos) (eOp g fa fb) := ex2 s (pe_cmpR ho ha hb hm)
theorem ex_ch {op op' : CmpOp} {r r' : R2} {g g' : D → D → Nat → KD → Prop} (ho : OpR X (compareOp op) r) (s : OpS X.K r g) (ho' : OpR X (compareOp op') r') (s' : OpS X.K r' g') (ha : EX X a fa) (hb : EX X b fb) (hc : EX X c fd)
    (hm : lastMarks [op, op'] [b, c] = false := by rfl) : EX X (.Compare a [op, op'] [b, c] pos) (eCh g g' fa fb fd) := PE.imp (pe_chain ho ho' ha hb hc hm) fun σ H Q ⟨p, c, ρ, F, Q', es, h, t⟩ =>
  ⟨p, c, ρ, F, _, es, h, fun x c1 v F1 H1 w1 ok1 r1 q1 => ⟨p, c1, ρ, F1, _, es.fwd w1 ok1, q1, fun y c2 u F2 H2 w2 ok2 r2 q2 =>
    s p c2 F2 H2 x y v u _ _ ok2 (r1.mono w2.frz) r2 q2 fun z c3 v3 F3 H3 w3 ok3 r3 q3 => by
      split at q3
      · rename_i k
        cases (show v3 = .bl k from r3)
        refine ⟨k, rfl, ?_⟩
        have w13 := w1.trans (w2.trans w3)
        cases k with
        | true => exact ⟨p, c3, ρ, F3, _, es.fwd w13 ok3, q3, fun w c4 v4 F4 H4 w4 ok4 r4 q4 => s' p c4 F4 H4 y w u v4 _ _ ok4 (r2.mono fun b o h => w4.frz b o (w3.frz b o h)) r4 q4 (t.fwd (w13.trans w4))⟩
        | false => exact t (.bl false) c3 _ F3 H3 w13 ok3 rfl q3
      · exact q3.elim⟩⟩
end

/-! ### operators -/
theorem line16 : sizeLine = 16777216 := sizeLine_eq
section
variable {K : PySem.W.Frag} {X : Cx}
theorem tellNew {p : Pn} {c : Nat} {F H : Hp} {Q' : KD} {Q : VK} {l : List D} {xs : List V} (ok : Ok3 p c F H) (t : Tell K p F H Q' Q) (r : RepL K p F l xs) (h : Q' (.lst l) c) : ∀ q, H q = none → Q (.ref q) (upd H q (.lst xs)) := fun q nq => by
  obtain ⟨w, ok'⟩ := Fwd.laid ok nq (.lst xs)
  exact t (.lst l) c _ _ _ w ok' ⟨q, xs, rfl, upd_same, r.mono w.frz⟩ h
theorem tellNewT {p : Pn} {c : Nat} {F H : Hp} {Q' : KD} {Q : VK} {l : List D} {xs : List V} (ok : Ok3 p c F H) (t : Tell K p F H Q' Q) (r : RepL K p F l xs) (h : Q' (.tup l) c) : ∀ q, H q = none → Q (.ref q) (upd H q (.tup xs)) := fun q nq => by
  obtain ⟨w, ok'⟩ := Fwd.laid ok nq (.tup xs)
  exact t (.tup l) c _ _ _ w ok' ⟨q, xs, rfl, .of upd_same, r.mono w.frz⟩ h
theorem Ok3.sqT {p : Pn} {c : Nat} {F H : Hp} (ok : Ok3 p c F H) {a : Addr} {xs : List V} (h : SqT K F a xs) : SqT K H a xs := Sub.sqT ok.sub h
/-- a value and nothing new -/
theorem tell0 {p : Pn} {c : Nat} {F H : Hp} {Q' : KD} {Q : VK} {d : D} {v : V} (ok : Ok3 p c F H) (t : Tell K p F H Q' Q) (r : Rep K p F d v) (h : Q' d c) : Q v H := t d c v F H (.refl ..) ok r h
theorem tellI {p : Pn} {c : Nat} {F H : Hp} {Q' : KD} {Q : VK} {i : Int} (ok : Ok3 p c F H) (t : Tell K p F H Q' Q) (h : Q' (.int i) c) : Q (.int i) H := t (.int i) c _ F H (.refl ..) ok rfl h
theorem tellBl {p : Pn} {c : Nat} {F H : Hp} {Q' : KD} {Q : VK} {i : Bool} (ok : Ok3 p c F H) (t : Tell K p F H Q' Q) (h : Q' (.bl i) c) : Q (.bl i) H := t (.bl i) c _ F H (.refl ..) ok rfl h
theorem tellS {p : Pn} {c : Nat} {F H : Hp} {Q' : KD} {Q : VK} {i : Str} (ok : Ok3 p c F H) (t : Tell K p F H Q' Q) (h : Q' (.str i) c) : Q (.str i) H := t (.str i) c _ F H (.refl ..) ok rfl h
theorem tellN {p : Pn} {c : Nat} {F H : Hp} {Q' : KD} {Q : VK} (ok : Ok3 p c F H) (t : Tell K p F H Q' Q) (h : Q' .non c) : Q .non H := t .non c _ F H (.refl ..) ok rfl h
abbrev rAdd4 (K : PySem.W.Frag) : R2 := fun x y H Q => rI0 (fun i j => .int (i + j)) x y H Q ∨ (∃ i j, x = .str i ∧ y = .str j ∧ i.length + j.length ≤ sizeLine ∧ Q (.str (i ++ j)) H) ∨ rCatA K x y H Q ∨ rCat x y H Q
theorem op_add4 : OpR X (binaryOp .Add) (rAdd4 X.K) := op_add.or (op_add_str.or (op_catA.or op_cat))
theorem addS : OpS K (rAdd4 K) addD := by
  intro p c F H x y v u Q' Q ok rx ry h t
  unfold addD at h
  split at h
  · rename_i i j
    cases (show v = .int i from rx)
    cases (show u = .int j from ry)
    exact .inl ⟨i, j, rfl, rfl, tellI ok t h⟩
  · rename_i i j
    cases (show v = .str i from rx)
    cases (show u = .str j from ry)
    exact .inr (.inl ⟨i, j, rfl, rfl, by rw [line16]; exact h.1, tellS ok t h.2⟩)
  · obtain ⟨a, xs, rfl, h1, r1⟩ := rx
    obtain ⟨b, ys, rfl, h2, r2⟩ := ry
    obtain ⟨z, q⟩ := h
    have e1 := r1.len
    have e2 := r2.len
    refine .inr (.inr (.inl ⟨a, b, xs, ys, rfl, rfl, ok.sqT h1, ok.sqT h2, by rw [line16, e1, e2]; exact z, fun e => ?_, fun _ e => ?_, fun _ _ => tellNewT ok t (r1.app r2) q⟩))
    · subst e
      rw [List.eq_nil_of_length_eq_zero e1.symm, List.nil_append] at q
      exact t (.tup _) c _ F H (.refl ..) ok ⟨b, ys, rfl, h2, r2⟩ q
    · subst e
      rw [List.eq_nil_of_length_eq_zero e2.symm, List.append_nil] at q
      exact t (.tup _) c _ F H (.refl ..) ok ⟨a, xs, rfl, h1, r1⟩ q
  · obtain ⟨a, xs, rfl, h1, r1⟩ := rx
    obtain ⟨b, ys, rfl, h2, r2⟩ := ry
    exact .inr (.inr (.inr ⟨a, b, xs, ys, rfl, rfl, ok.sub _ _ h1, ok.sub _ _ h2, by rw [line16, r1.len, r2.len]; exact h.1, tellNew ok t (r1.app r2) h.2⟩))
  · exact h.elim
theorem intS {f : Int → Int → Int} {g : D → D → Nat → KD → Prop} (hg : ∀ x y c Q, g x y c Q → ∃ i j, x = .int i ∧ y = .int j ∧ Q (.int (f i j)) c) : OpS K (rI0 fun i j => .int (f i j)) g := by
  intro p c F H x y v u Q' Q ok rx ry h t
  obtain ⟨i, j, rfl, rfl, h'⟩ := hg x y c Q' h
  cases (show v = .int i from rx)
  cases (show u = .int j from ry)
  exact ⟨i, j, rfl, rfl, tellI ok t h'⟩
theorem intCS {C : Int → Int → Prop} {f : Int → Int → Int} {g : D → D → Nat → KD → Prop} (hg : ∀ x y c Q, g x y c Q → ∃ i j, x = .int i ∧ y = .int j ∧ C i j ∧ Q (.int (f i j)) c) : OpS K (rI C fun i j => .int (f i j)) g := by
  intro p c F H x y v u Q' Q ok rx ry h t
  obtain ⟨i, j, rfl, rfl, hc, h⟩ := hg x y c Q' h
  cases (show v = .int i from rx)
  cases (show u = .int j from ry)
  exact ⟨i, j, rfl, rfl, hc, tellI ok t h⟩
theorem cmpS {f : Int → Int → Bool} {g : D → D → Nat → KD → Prop} (hg : ∀ x y c Q, g x y c Q → ∃ i j, x = .int i ∧ y = .int j ∧ Q (.bl (f i j)) c) : OpS K (rI0 fun i j => .bl (f i j)) g := by
  intro p c F H x y v u Q' Q ok rx ry h t
  obtain ⟨i, j, rfl, rfl, h'⟩ := hg x y c Q' h
  cases (show v = .int i from rx)
  cases (show u = .int j from ry)
  exact ⟨i, j, rfl, rfl, tellBl ok t h'⟩
theorem subS : OpS K (rI0 fun i j => .int (i - j)) subD := intS fun x y c Q h => by
  unfold subD at h
  split at h
  · exact ⟨_, _, rfl, rfl, h⟩
  · exact h.elim
abbrev rMul2 : R2 := fun x y H Q => rI CMul (fun i j => .int (i * j)) x y H Q ∨ rRep x y H Q
theorem op_mul2 : OpR X (binaryOp .Mult) rMul2 := op_mul.or op_rep
theorem RepL.rep {p : Pn} {F : Hp} {l : List D} {xs : List V} (r : RepL K p F l xs) : ∀ k : Nat, RepL K p F (List.replicate k l).flatten (List.replicate k xs).flatten
  | 0 => rfl
  | k + 1 => by
    rw [List.replicate_succ, List.replicate_succ, List.flatten_cons, List.flatten_cons]
    exact r.app (RepL.rep r k)
theorem mulS : OpS K rMul2 mulD := by
  intro p c F H x y v u Q' Q ok rx ry h t
  unfold mulD at h
  split at h
  · rename_i i j
    cases (show v = .int i from rx)
    cases (show u = .int j from ry)
    exact .inl ⟨i, j, rfl, rfl, h.1, tellI ok t h.2⟩
  · rename_i l k
    obtain ⟨a, xs, rfl, h1, r1⟩ := rx
    cases (show u = .int k from ry)
    obtain ⟨⟨k0, k1, k2⟩, q⟩ := h
    exact .inr ⟨a, k, xs, rfl, rfl, ok.sub _ _ h1, by omega, by omega, by rw [line16, r1.len]; exact k2, tellNew ok t (r1.rep _) q⟩
  · exact h.elim
theorem fdivS : OpS K (rI CDiv fun i j => .int (i / j)) fdivD := intCS fun x y c Q h => by
  unfold fdivD at h
  split at h
  · exact ⟨_, _, rfl, rfl, h.1, h.2⟩
  · exact h.elim
theorem modS : OpS K (rI (fun _ j => 0 < j) fun i j => .int (i % j)) modD := intCS fun x y c Q h => by
  unfold modD at h
  split at h
  · exact ⟨_, _, rfl, rfl, h.1, h.2⟩
  · exact h.elim
theorem powS : OpS K (rI CPow3 fun i j => .int (i ^ j.toNat)) powD := intCS fun x y c Q h => by
  unfold powD at h
  split at h
  · exact ⟨_, _, rfl, rfl, h.1, h.2⟩
  · exact h.elim
theorem ltS : OpS K (rI0 fun i j => .bl (decide (i < j))) ltD := cmpS fun x y c Q h => by
  unfold ltD at h
  split at h
  · exact ⟨_, _, rfl, rfl, h⟩
  · exact h.elim
theorem leS : OpS K (rI0 fun i j => .bl (decide (i ≤ j))) leD := cmpS fun x y c Q h => by
  unfold leD at h
  split at h
  · exact ⟨_, _, rfl, rfl, h⟩
  · exact h.elim
theorem gtS : OpS K (rI0 fun i j => .bl (decide (j < i))) gtD := cmpS fun x y c Q h => by
  unfold gtD at h
  split at h
  · exact ⟨_, _, rfl, rfl, h⟩
  · exact h.elim
theorem geS : OpS K (rI0 fun i j => .bl (decide (j ≤ i))) geD := cmpS fun x y c Q h => by
  unfold geD at h
  split at h
  · exact ⟨_, _, rfl, rfl, h⟩
  · exact h.elim
theorem Rep.none_iff {p : Pn} {F : Hp} {d : D} {v : V} (r : Rep K p F d v) : decide (v = .non) = isNone d := by
  cases d with
  | non => cases (show v = .non from r); rfl
  | bl _ => cases (show v = .bl _ from r); rfl
  | int _ => cases (show v = .int _ from r); rfl
  | str _ => cases (show v = .str _ from r); rfl
  | ty _ => cases (show v = .ty _ from r); rfl
  | rf _ => cases (show v = .ref _ from r); rfl
  | lam _ _ _ => obtain ⟨rfl, _⟩ := r; rfl
  | exc _ _ => obtain ⟨a, _, _, rfl, _⟩ := r; rfl
  | clo _ _ => obtain ⟨rfl, _⟩ := r; rfl
  | dic _ => obtain ⟨a, rfl, _⟩ := r; rfl
  | pot => obtain ⟨a, _, rfl⟩ := r; rfl
  | scr _ => obtain ⟨a, rfl, _⟩ := r; rfl
  | tup _ => obtain ⟨a, _, rfl, _⟩ := r; rfl
  | lst _ => obtain ⟨a, _, rfl, _⟩ := r; rfl
  | dct _ _ => obtain ⟨a, _, _, rfl, _⟩ := r; rfl
theorem isS : OpS K (fun x y H Q => y = .non ∧ Q (.bl (decide (x = .non))) H) isD := by
  intro p c F H x y v u Q' Q ok rx ry h t
  unfold isD at h
  split at h
  · cases (show u = .non from ry)
    refine ⟨rfl, ?_⟩
    rw [rx.none_iff]
    exact tellBl ok t h
  · exact h.elim
theorem isNotS : OpS K (fun x y H Q => y = .non ∧ Q (.bl (!decide (x = .non))) H) isNotD := by
  intro p c F H x y v u Q' Q ok rx ry h t
  unfold isNotD at h
  split at h
  · cases (show u = .non from ry)
    refine ⟨rfl, ?_⟩
    rw [rx.none_iff]
    exact tellBl ok t h
  · exact h.elim
/-! == and != -/
mutual
theorem Rep.dp {p : Pn} {F H : Hp} (e : ∀ b o, F b = some o → H b = some o) : ∀ {d : D} {v : V} {x : PyData}, Rep K p F d v → toPy d = some x → Dp K H v x
  | .non, _, _, h, q => by cases q; cases (show _ = V.non from h); exact .non
  | .bl _, _, _, h, q => by cases q; cases (show _ = V.bl _ from h); exact .bl _
  | .int _, _, _, h, q => by cases q; cases (show _ = V.int _ from h); exact .int _
  | .str _, _, _, h, q => by cases q; cases (show _ = V.str _ from h); exact .str _
  | .ty _, _, _, h, q => by cases q
  | .rf _, _, _, h, q => by cases q
  | .lam .., _, _, h, q => by cases q
  | .exc .., _, _, h, q => by cases q
  | .clo .., _, _, h, q => by cases q
  | .dic _, _, _, h, q => by cases q
  | .dct _ _, _, _, h, q => by cases q
  | .pot, _, _, h, q => by cases q
  | .scr _, _, _, h, q => by cases q
  | .tup l, _, x, h, q => by
    obtain ⟨a, xs, rfl, h1, h2⟩ := h
    obtain ⟨ys, e1, rfl⟩ := Option.map_eq_some_iff.mp (show (toPyL l).map PyData.tuple = some x from q)
    exact .tup (Sub.sqT e h1) (RepL.dp e h2 e1)
  | .lst l, _, x, h, q => by
    obtain ⟨a, xs, rfl, h1, h2⟩ := h
    obtain ⟨ys, e1, rfl⟩ := Option.map_eq_some_iff.mp (show (toPyL l).map PyData.list = some x from q)
    exact .lst (.of (e _ _ h1)) (RepL.dp e h2 e1)
theorem RepL.dp {p : Pn} {F H : Hp} (e : ∀ b o, F b = some o → H b = some o) : ∀ {l : List D} {xs : List V} {ys : List PyData}, RepL K p F l xs → toPyL l = some ys → DpAll K H xs ys
  | [], _, _, h, q => by cases q; cases h; exact .nil
  | d :: l, _, ys, h, q => by
    obtain ⟨x, r, rfl, h1, h2⟩ := h
    unfold toPyL at q
    split at q
    · rename_i y z e1 e2
      cases q
      exact .cons (Rep.dp e h1 e1) (RepL.dp e h2 e2)
    · cases q
end
mutual
theorem toPy_of : ∀ {n : Nat} {d : D}, pyD n d = true → ∃ x, toPy d = some x ∧ x.canLay0 = true ∧ x.depth ≤ n
  | _, .non, _ => ⟨_, rfl, rfl, Nat.zero_le _⟩
  | _, .int _, _ => ⟨_, rfl, rfl, Nat.zero_le _⟩
  | _, .bl _, _ => ⟨_, rfl, rfl, Nat.zero_le _⟩
  | _, .str x, h => ⟨.str x, rfl, by unfold pyD at h; unfold PyData.canLay0; exact h, by unfold PyData.depth; exact Nat.zero_le _⟩
  | n + 1, .tup l, h => by
    unfold pyD at h
    obtain ⟨xs, e1, e2, e3⟩ := toPyL_of h
    refine ⟨.tuple xs, by unfold toPy; rw [e1]; rfl, by unfold PyData.canLay0; exact e2, by unfold PyData.depth; omega⟩
  | n + 1, .lst l, h => by
    unfold pyD at h
    obtain ⟨xs, e1, e2, e3⟩ := toPyL_of h
    refine ⟨.list xs, by unfold toPy; rw [e1]; rfl, by unfold PyData.canLay0; exact e2, by unfold PyData.depth; omega⟩
  | 0, .tup l, h => by simp [pyD] at h
  | 0, .lst l, h => by simp [pyD] at h
  | _, .ty _, h => by simp [pyD] at h
  | _, .rf _, h => by simp [pyD] at h
  | _, .pot, h => by simp [pyD] at h
  | _, .scr _, h => by simp [pyD] at h
  | _, .lam .., h => by simp [pyD] at h
  | _, .exc .., h => by simp [pyD] at h
  | _, .clo .., h => by simp [pyD] at h
  | _, .dic _, h => by simp [pyD] at h
theorem toPyL_of : ∀ {n : Nat} {l : List D}, pyDL n l = true → ∃ xs, toPyL l = some xs ∧ PyData.canLayAll0 xs = true ∧ PyData.depthAll xs ≤ n
  | _, [], _ => ⟨[], by unfold toPyL; rfl, by unfold PyData.canLayAll0; rfl, by unfold PyData.depthAll; exact Nat.zero_le _⟩
  | n, d :: l, h => by
    unfold pyDL at h
    obtain ⟨h1, h2⟩ := Bool.and_eq_true_iff.mp h
    obtain ⟨x, e1, e2, e3⟩ := toPy_of h1
    obtain ⟨xs, g1, g2, g3⟩ := toPyL_of h2
    exact ⟨x :: xs, by unfold toPyL; rw [e1, g1], by unfold PyData.canLayAll0; rw [e2, g2]; rfl, by unfold PyData.depthAll; omega⟩
end
mutual
theorem eqv_toPy : ∀ (x y : D) {d e : PyData}, toPy x = some d → toPy y = some e → PyData.eqv d e = eqvD x y
  | .non, y, _, e, h1, h2 => by cases h1; cases y <;> simp [toPy] at h2 <;> first | (obtain ⟨_, _, rfl⟩ := h2; simp [PyData.eqv, eqvD]; done) | (cases h2; simp [PyData.eqv, eqvD]; done)
  | .int i, y, _, e, h1, h2 => by cases h1; cases y <;> simp [toPy] at h2 <;> first | (obtain ⟨_, _, rfl⟩ := h2; simp [PyData.eqv, eqvD]; done) | (cases h2; simp [PyData.eqv, eqvD]; done)
  | .bl i, y, _, e, h1, h2 => by cases h1; cases y <;> simp [toPy] at h2 <;> first | (obtain ⟨_, _, rfl⟩ := h2; simp [PyData.eqv, eqvD]; done) | (cases h2; simp [PyData.eqv, eqvD]; done)
  | .str i, y, _, e, h1, h2 => by cases h1; cases y <;> simp [toPy] at h2 <;> first | (obtain ⟨_, _, rfl⟩ := h2; simp [PyData.eqv, eqvD]; done) | (cases h2; simp [PyData.eqv, eqvD]; done)
  | .tup l, y, _, e, h1, h2 => by
    simp [toPy] at h1
    obtain ⟨xs, g1, rfl⟩ := h1
    cases y with
    | tup m =>
      simp [toPy] at h2
      obtain ⟨ys, g2, rfl⟩ := h2
      unfold PyData.eqv eqvD
      exact eqvL_toPy l m g1 g2
    | lst m => simp [toPy] at h2; obtain ⟨_, _, rfl⟩ := h2; simp [PyData.eqv, eqvD]
    | non => simp [toPy] at h2; cases h2; simp [PyData.eqv, eqvD]
    | int _ => simp [toPy] at h2; cases h2; simp [PyData.eqv, eqvD]
    | bl _ => simp [toPy] at h2; cases h2; simp [PyData.eqv, eqvD]
    | str _ => simp [toPy] at h2; cases h2; simp [PyData.eqv, eqvD]
    | _ => simp [toPy] at h2
  | .lst l, y, _, e, h1, h2 => by
    simp [toPy] at h1
    obtain ⟨xs, g1, rfl⟩ := h1
    cases y with
    | lst m =>
      simp [toPy] at h2
      obtain ⟨ys, g2, rfl⟩ := h2
      unfold PyData.eqv eqvD
      exact eqvL_toPy l m g1 g2
    | tup m => simp [toPy] at h2; obtain ⟨_, _, rfl⟩ := h2; simp [PyData.eqv, eqvD]
    | non => simp [toPy] at h2; cases h2; simp [PyData.eqv, eqvD]
    | int _ => simp [toPy] at h2; cases h2; simp [PyData.eqv, eqvD]
    | bl _ => simp [toPy] at h2; cases h2; simp [PyData.eqv, eqvD]
    | str _ => simp [toPy] at h2; cases h2; simp [PyData.eqv, eqvD]
    | _ => simp [toPy] at h2
  | .ty _, _, _, _, h, _ => by simp [toPy] at h
  | .rf _, _, _, _, h, _ => by simp [toPy] at h
  | .pot, _, _, _, h, _ => by simp [toPy] at h
  | .scr _, _, _, _, h, _ => by simp [toPy] at h
  | .lam .., _, _, _, h, _ => by simp [toPy] at h
  | .exc .., _, _, _, h, _ => by simp [toPy] at h
  | .clo .., _, _, _, h, _ => by simp [toPy] at h
  | .dic _, _, _, _, h, _ => by simp [toPy] at h
  | .dct _ _, _, _, _, h, _ => by simp [toPy] at h
theorem eqvL_toPy : ∀ (l m : List D) {xs ys : List PyData}, toPyL l = some xs → toPyL m = some ys → PyData.eqvAll xs ys = eqvDL l m
  | [], [], _, _, h1, h2 => by
    simp [toPyL] at h1 h2
    subst h1 h2
    simp [PyData.eqvAll, eqvDL]
  | [], y :: m, _, _, h1, h2 => by
    simp [toPyL] at h1
    subst h1
    unfold toPyL at h2
    split at h2
    · cases h2; simp [PyData.eqvAll, eqvDL]
    · cases h2
  | x :: l, [], _, _, h1, h2 => by
    simp [toPyL] at h2
    subst h2
    unfold toPyL at h1
    split at h1
    · cases h1; simp [PyData.eqvAll, eqvDL]
    · cases h1
  | x :: l, y :: m, _, _, h1, h2 => by
    unfold toPyL at h1 h2
    split at h1
    · rename_i d r e1 e2
      cases h1
      split at h2
      · rename_i d' r' f1 f2
        cases h2
        unfold PyData.eqvAll eqvDL
        rw [eqv_toPy x y e1 f1, eqvL_toPy l m e2 f2]
      · cases h2
    · cases h1
end
theorem shaped_of {x : PyData} (h1 : x.canLay0 = true) (h2 : x.depth ≤ 64) : SeqAt.shaped x = true := by
  unfold SeqAt.shaped
  rw [h1, decide_eq_true h2]
  rfl
theorem eqS : OpS K (fun x y H Q => rEq x y H Q ∨ rEqD K x y H Q) eqD := by
  intro p c F H x y v u Q' Q ok rx ry h t
  unfold eqD at h
  split at h
  · rename_i i j
    cases (show v = .int i from rx)
    cases (show u = .int j from ry)
    refine .inl ⟨rfl, ?_⟩
    rw [show decide (V.int i = V.int j) = decide (i = j) by simp]
    exact tellBl ok t h
  · rename_i i j
    cases (show v = .bl i from rx)
    cases (show u = .bl j from ry)
    refine .inl ⟨rfl, ?_⟩
    rw [show decide (V.bl i = V.bl j) = decide (i = j) by simp]
    exact tellBl ok t h
  · rename_i i j
    cases (show v = .str i from rx)
    cases (show u = .str j from ry)
    refine .inl ⟨rfl, ?_⟩
    rw [show decide (V.str i = V.str j) = decide (i = j) by simp]
    exact tellBl ok t h
  · rename_i x y _ _ _
    obtain ⟨⟨p1, p2⟩, h⟩ := h
    obtain ⟨d, h1, a1, a2⟩ := toPy_of p1
    obtain ⟨e, h2, b1, b2⟩ := toPy_of p2
    have h3 := shaped_of a1 a2
    have h4 := shaped_of b1 b2
    rw [← eqv_toPy _ _ h1 h2] at h
    exact .inr ⟨d, e, rx.dp ok.sub h1, ry.dp ok.sub h2, h3, h4, tellBl ok t h⟩
theorem neS : OpS K (fun x y H Q => rNe x y H Q ∨ rNeD K x y H Q) neD := by
  intro p c F H x y v u Q' Q ok rx ry h t
  unfold neD at h
  split at h
  · rename_i i j
    cases (show v = .int i from rx)
    cases (show u = .int j from ry)
    refine .inl ⟨rfl, ?_⟩
    rw [show decide (V.int i = V.int j) = decide (i = j) by simp]
    exact tellBl ok t h
  · rename_i i j
    cases (show v = .bl i from rx)
    cases (show u = .bl j from ry)
    refine .inl ⟨rfl, ?_⟩
    rw [show decide (V.bl i = V.bl j) = decide (i = j) by simp]
    exact tellBl ok t h
  · rename_i i j
    cases (show v = .str i from rx)
    cases (show u = .str j from ry)
    refine .inl ⟨rfl, ?_⟩
    rw [show decide (V.str i = V.str j) = decide (i = j) by simp]
    exact tellBl ok t h
  · rename_i x y _ _ _
    obtain ⟨⟨p1, p2⟩, h⟩ := h
    obtain ⟨d, h1, a1, a2⟩ := toPy_of p1
    obtain ⟨e, h2, b1, b2⟩ := toPy_of p2
    have h3 := shaped_of a1 a2
    have h4 := shaped_of b1 b2
    rw [← eqv_toPy _ _ h1 h2] at h
    exact .inr ⟨d, e, rx.dp ok.sub h1, ry.dp ok.sub h2, h3, h4, tellBl ok t h⟩
theorem op_eq2 (hu : X.A.units + 64 < cLine) : OpR X (compareOp .Eq) (fun x y H Q => rEq x y H Q ∨ rEqD X.K x y H Q) := op_eq.or (op_eqD hu)
theorem op_ne2 (hu : X.A.units + 64 < cLine) : OpR X (compareOp .NotEq) (fun x y H Q => rNe x y H Q ∨ rNeD X.K x y H Q) := op_ne.or (op_neD hu)
theorem atI_mapI (l : List Int) (i : Int) : atI (l.map V.int) i = (atI l i).map V.int := by
  unfold atI
  rw [List.length_map]
  cases ixN l.length i with
  | none => rfl
  | some j => exact List.getElem?_map ..
theorem rep_ints {p : Pn} {F : Hp} : ∀ ns : List Int, RepL K p F (ns.map .int) (ns.map V.int)
  | [] => rfl
  | n :: ns => ⟨_, _, rfl, rfl, rep_ints ns⟩
theorem ixS : OpS K (rIx K) ixD := by
  intro p c F H x y v u Q' Q ok rx ry h t
  unfold ixD at h
  split at h
  · rename_i l i
    obtain ⟨a, xs, rfl, h1, r1⟩ := rx
    cases (show u = .int i from ry)
    split at h
    · rename_i d e
      unfold atI at e
      obtain ⟨j, e1, e2⟩ := Option.bind_eq_some_iff.mp e
      obtain ⟨w, e3, r3⟩ := r1.get e2
      exact .inr (.inl ⟨a, xs, i, w, rfl, rfl, ok.sqT h1, by unfold atI; rw [r1.len, e1]; exact e3, tell0 ok t r3 h⟩)
    · exact h.elim
  · rename_i l i
    obtain ⟨a, xs, rfl, h1, r1⟩ := rx
    cases (show u = .int i from ry)
    split at h
    · rename_i d e
      unfold atI at e
      obtain ⟨j, e1, e2⟩ := Option.bind_eq_some_iff.mp e
      obtain ⟨w, e3, r3⟩ := r1.get e2
      exact .inl ⟨a, xs, i, w, rfl, rfl, .of (ok.sub _ _ h1), by unfold atI; rw [r1.len, e1]; exact e3, tell0 ok t r3 h⟩
    · exact h.elim
  · rename_i l i
    obtain ⟨a, rfl, h1⟩ := rx
    cases (show u = .int i from ry)
    split at h
    · rename_i d e
      exact .inl ⟨a, l.map V.int, i, .int d, rfl, rfl, Sub.sqL ok.sub h1, by rw [atI_mapI, e]; rfl, tellI ok t h⟩
    · exact h.elim
  · exact h.elim
end
section
variable {X : Cx} {a b c e : Expr} {es : List Expr} {fa fb fd : FE} {fr : FA} {pos : Pos}
theorem ex_add (ha : EX X a fa) (hb : EX X b fb) : EX X (.BinOp a .Add b pos) (eOp addD fa fb) := ex_op op_add4 addS ha hb
theorem ex_sub (ha : EX X a fa) (hb : EX X b fb) : EX X (.BinOp a .Sub b pos) (eOp subD fa fb) := ex_op op_sub subS ha hb
theorem ex_mul (ha : EX X a fa) (hb : EX X b fb) : EX X (.BinOp a .Mult b pos) (eOp mulD fa fb) := ex_op op_mul2 mulS ha hb
theorem ex_fdiv (ha : EX X a fa) (hb : EX X b fb) : EX X (.BinOp a .FloorDiv b pos) (eOp fdivD fa fb) := ex_op op_fdiv fdivS ha hb
theorem ex_mod (ha : EX X a fa) (hb : EX X b fb) : EX X (.BinOp a .Mod b pos) (eOp modD fa fb) := ex_op op_mod modS ha hb
theorem ex_pow (ha : EX X a fa) (hb : EX X b fb) : EX X (.BinOp a .Pow b pos) (eOp powD fa fb) := ex_op op_pow3 powS ha hb
theorem ex_ix (ha : EX X a fa) (hb : EX X b fb) (hs : PlainIx b := by exact fun _ _ => rfl) : EX X (.Subscript a b pos) (eOp ixD fa fb) := ex2 ixS (pe_ix ix_seq ha hb hs)
theorem ex_neg (ha : EX X a fa) : EX X (.UnaryOp .USub a pos) (eUn negD fa) := PE.imp (pe_un un_neg ha) fun σ H Q ⟨p, c, ρ, F, Q', es, h, t⟩ =>
  ⟨p, c, ρ, F, _, es, h, fun x c1 v F1 H1 w1 ok1 r1 q1 => by
    unfold negD at q1
    split at q1
    · rename_i i
      cases (show v = .int i from r1)
      exact ⟨i, rfl, tellI ok1 (t.fwd w1) q1⟩
    · exact q1.elim⟩
/-! tests -/
theorem tx_of {f : FE} {t : TT} (h : PT X e t) (w : ∀ σ H Q, tE X.K f σ H (fun x H' => ∃ k, x = .bl k ∧ Q k H') → t σ H Q) : TX X e (tV f) := PT.imp h fun σ H Q ⟨p, c, ρ, F, Q', es, h, t⟩ => w σ H Q ⟨p, c, ρ, F, _, es, h, fun x c1 v F1 H1 w1 ok1 r1 q1 => by
  split at q1
  · rename_i k
    cases (show v = .bl k from r1)
    exact ⟨k, rfl, t k c1 F1 H1 w1 ok1 q1⟩
  · exact q1.elim⟩
theorem tx_val {f : FE} (h : EX X e f) (he : ∀ whole, isTrue e X.env whole = (do let v ← whole; standAt e.pos; holding [v] (truthy v)) := by intro _; rfl) : TX X e (tV f) := tx_of (pt_val h he) fun _ _ _ h => h
theorem ex2w {r : R2} {g : D → D → Nat → KD → Prop} (s : OpS X.K r g) {σ : L2.St} {H : Hp} {Q : VK} (h : tE X.K (eOp g fa fb) σ H Q) : tOp r (tE X.K fa) (tE X.K fb) σ H Q := by
  obtain ⟨p, c, ρ, F, Q', es, h, t⟩ := h
  exact ⟨p, c, ρ, F, _, es, h, fun x c1 v F1 H1 w1 ok1 r1 q1 => ⟨p, c1, ρ, F1, _, es.fwd w1 ok1, q1, fun y c2 u F2 H2 w2 ok2 r2 q2 => s p c2 F2 H2 x y v u Q' Q ok2 (r1.mono w2.frz) r2 q2 (t.fwd (w1.trans w2))⟩⟩
theorem tx_cmp {op : CmpOp} {r : R2} {g : D → D → Nat → KD → Prop} (ho : OpR X (compareOp op) r) (s : OpS X.K r g) (ha : EX X a fa) (hb : EX X b fb) (hm : behindInMarks op b = false) : TX X (.Compare a [op] [b] pos) (tV (eOp g fa fb)) :=
  tx_of (pt_cmpR ho ha hb hm) fun _ _ _ h => ex2w s h
theorem exChw {r r' : R2} {g g' : D → D → Nat → KD → Prop} (s : OpS X.K r g) (s' : OpS X.K r' g') {σ : L2.St} {H : Hp} {Q : VK} (h : tE X.K (eCh g g' fa fb fd) σ H Q) : tChain r r' (tE X.K fa) (tE X.K fb) (tE X.K fd) σ H Q := by
  obtain ⟨p, c, ρ, F, Q', es, h, t⟩ := h
  exact ⟨p, c, ρ, F, _, es, h, fun x c1 v F1 H1 w1 ok1 r1 q1 => ⟨p, c1, ρ, F1, _, es.fwd w1 ok1, q1, fun y c2 u F2 H2 w2 ok2 r2 q2 =>
    s p c2 F2 H2 x y v u _ _ ok2 (r1.mono w2.frz) r2 q2 fun z c3 v3 F3 H3 w3 ok3 r3 q3 => by
      split at q3
      · rename_i k
        cases (show v3 = .bl k from r3)
        refine ⟨k, rfl, ?_⟩
        have w13 := w1.trans (w2.trans w3)
        cases k with
        | true => exact ⟨p, c3, ρ, F3, _, es.fwd w13 ok3, q3, fun w c4 v4 F4 H4 w4 ok4 r4 q4 => s' p c4 F4 H4 y w u v4 _ _ ok4 (r2.mono fun b o h => w4.frz b o (w3.frz b o h)) r4 q4 (t.fwd (w13.trans w4))⟩
        | false => exact t (.bl false) c3 _ F3 H3 w13 ok3 rfl q3
      · exact q3.elim⟩⟩
theorem tx_ch {op op' : CmpOp} {r r' : R2} {g g' : D → D → Nat → KD → Prop} (ho : OpR X (compareOp op) r) (s : OpS X.K r g) (ho' : OpR X (compareOp op') r') (s' : OpS X.K r' g') (ha : EX X a fa) (hb : EX X b fb) (hc : EX X c fd)
    (hm : lastMarks [op, op'] [b, c] = false := by rfl) : TX X (.Compare a [op, op'] [b, c] pos) (tV (eCh g g' fa fb fd)) := tx_of (pt_chain ho ho' ha hb hc hm) fun _ _ _ h => exChw s s' h
theorem wx_and1 {f : FT} (h : TX X a f) : WX3 X (.BoolOp .And [a] pos) f := pw_and1 h
theorem wx_or1 {f : FT} (h : TX X a f) : WX3 X (.BoolOp .Or [a] pos) f := pw_or1 h
theorem wx_and {f g : FT} {rest : List Expr} (h : TX X a f) (h2 : WX3 X (.BoolOp .And (b :: rest) pos) g) : WX3 X (.BoolOp .And (a :: b :: rest) pos) (tA3 f g) := PW.imp (pw_and h h2) fun σ H Q ⟨p, c, ρ, F, Q', es, h, t⟩ =>
  ⟨p, c, ρ, F, _, es, h, fun k c1 F1 H1 w1 ok1 q1 => by
    cases k with
    | true => exact ⟨p, c1, ρ, F1, Q', es.fwd w1 ok1, q1, fun k2 c2 F2 H2 w2 ok2 q2 => t k2 c2 F2 H2 (w1.trans w2) ok2 q2⟩
    | false => exact t false c1 F1 H1 w1 ok1 q1⟩
theorem wx_or {f g : FT} {rest : List Expr} (h : TX X a f) (h2 : WX3 X (.BoolOp .Or (b :: rest) pos) g) : WX3 X (.BoolOp .Or (a :: b :: rest) pos) (tO3 f g) := PW.imp (pw_or h h2) fun σ H Q ⟨p, c, ρ, F, Q', es, h, t⟩ =>
  ⟨p, c, ρ, F, _, es, h, fun k c1 F1 H1 w1 ok1 q1 => by
    cases k with
    | false => exact ⟨p, c1, ρ, F1, Q', es.fwd w1 ok1, q1, fun k2 c2 F2 H2 w2 ok2 q2 => t k2 c2 F2 H2 (w1.trans w2) ok2 q2⟩
    | true => exact t true c1 F1 H1 w1 ok1 q1⟩
theorem wx_pt {f : FT} (h : WX3 X e f) : TX X e f := PW.pt h
theorem tx_not {f : FT} (h : TX X a f) : TX X (.UnaryOp .Not a pos) (tN3 f) := PT.imp (pt_not h) fun σ H Q ⟨p, c, ρ, F, Q', es, h, t⟩ =>
  ⟨p, c, ρ, F, _, es, h, fun k c1 F1 H1 w1 ok1 q1 => t _ c1 F1 H1 w1 ok1 q1⟩
theorem ex_one {op} {f : FE} (h : EX X a f) : EX X (.BoolOp op [a] pos) f := pe_one h
theorem ex_and {f g : FE} {rest : List Expr} (h : EX X a f) (h2 : EX X (.BoolOp .And (b :: rest) pos) g) : EX X (.BoolOp .And (a :: b :: rest) pos) (eAnd f g) := PE.imp (pe_and h h2) fun σ H Q ⟨p, c, ρ, F, Q', es, h, t⟩ =>
  ⟨p, c, ρ, F, _, es, h, fun x c1 v F1 H1 w1 ok1 r1 q1 => by
    split at q1
    · rename_i k
      cases (show v = .bl k from r1)
      refine ⟨k, rfl, ?_⟩
      cases k with
      | true => exact ⟨p, c1, ρ, F1, Q', es.fwd w1 ok1, q1, t.fwd w1⟩
      | false => exact t (.bl false) c1 _ F1 H1 w1 ok1 rfl q1
    · exact q1.elim⟩
theorem ex_or {f g : FE} {rest : List Expr} (h : EX X a f) (h2 : EX X (.BoolOp .Or (b :: rest) pos) g) : EX X (.BoolOp .Or (a :: b :: rest) pos) (eOr f g) := PE.imp (pe_or h h2) fun σ H Q ⟨p, c, ρ, F, Q', es, h, t⟩ =>
  ⟨p, c, ρ, F, _, es, h, fun x c1 v F1 H1 w1 ok1 r1 q1 => by
    split at q1
    · rename_i k
      cases (show v = .bl k from r1)
      refine ⟨k, rfl, ?_⟩
      cases k with
      | false => exact ⟨p, c1, ρ, F1, Q', es.fwd w1 ok1, q1, t.fwd w1⟩
      | true => exact t (.bl true) c1 _ F1 H1 w1 ok1 rfl q1
    · exact q1.elim⟩
theorem ex_not {f : FE} (h : EX X a f) : EX X (.UnaryOp .Not a pos) (eNot f) := PE.imp (pe_not h) fun σ H Q ⟨p, c, ρ, F, Q', es, h, t⟩ =>
  ⟨p, c, ρ, F, _, es, h, fun x c1 v F1 H1 w1 ok1 r1 q1 => by
    split at q1
    · rename_i k
      cases (show v = .bl k from r1)
      exact ⟨k, rfl, t (.bl (!k)) c1 _ F1 H1 w1 ok1 rfl q1⟩
    · exact q1.elim⟩
theorem ex_if {f : FT} (hc : TX X c f) (ha : EX X a fa) (hb : EX X b fb) : EX X (.IfExp c a b pos) (eIf3 f fa fb) := PE.imp (pe_ifExp hc ha hb) fun σ H Q ⟨p, c, ρ, F, Q', es, h, t⟩ =>
  ⟨p, c, ρ, F, _, es, h, fun k c1 F1 H1 w1 ok1 q1 => by
    cases k with
    | true => exact ⟨p, c1, ρ, F1, Q', es.fwd w1 ok1, q1, t.fwd w1⟩
    | false => exact ⟨p, c1, ρ, F1, Q', es.fwd w1 ok1, q1, t.fwd w1⟩⟩
/-! arguments, displays -/
theorem ax_nil : AX X [] aNil := PA.imp pa_nil fun σ H Q ⟨p, c, ρ, F, Q', es, h, t⟩ => t [] c [] F H (.refl ..) es.ok rfl h
theorem ax_cons (ha : EX X e fa) (hr : AX X es fr) (hs : starEach (e :: es) X.env = (false, eval e X.env) :: starEach es X.env := by rfl) : AX X (e :: es) (aCons fa fr) := PA.imp (pa_cons ha hr hs) fun σ H Q ⟨p, c, ρ, F, Q', es, h, t⟩ =>
  ⟨p, c, ρ, F, _, es, h, fun x c1 v F1 H1 w1 ok1 r1 q1 => ⟨p, c1, ρ, F1, _, es.fwd w1 ok1, q1, fun xs c2 vs F2 H2 w2 ok2 r2 q2 => t (x :: xs) c2 (v :: vs) F2 H2 (w1.trans w2) ok2 ⟨v, vs, rfl, r1.mono w2.frz, r2⟩ q2⟩⟩
theorem ax_star {sp : Pos} (ha : EX X e fa) (hr : AX X es fr) (hs : starEach (.Starred e sp :: es) X.env = (true, eval e X.env) :: starEach es X.env := by rfl) : AX X (.Starred e sp :: es) (aStar fa fr) := PA.imp (StX.pa_star ha hr hs) fun σ H Q ⟨p, c, ρ, F, Q', es, h, t⟩ =>
  ⟨p, c, ρ, F, _, es, h, fun x c1 v F1 H1 w1 ok1 r1 q1 => by
    split at q1
    · obtain ⟨a, xs, rfl, h1, rl⟩ := r1
      exact ⟨a, xs, rfl, .inl (ok1.sqT h1), p, c1, ρ, F1, _, es.fwd w1 ok1, q1, fun ys c2 vs F2 H2 w2 ok2 r2 q2 => t _ c2 _ F2 H2 (w1.trans w2) ok2 ((rl.mono w2.frz).app r2) q2⟩
    · obtain ⟨a, xs, rfl, h1, rl⟩ := r1
      exact ⟨a, xs, rfl, .inr (.of (ok1.sub _ _ h1)), p, c1, ρ, F1, _, es.fwd w1 ok1, q1, fun ys c2 vs F2 H2 w2 ok2 r2 q2 => t _ c2 _ F2 H2 (w1.trans w2) ok2 ((rl.mono w2.frz).app r2) q2⟩
    · exact q1.elim⟩
theorem ex_tup {x1} (h : AX X es fr) : EX X (.Tuple es x1 pos) (eTup fr) := PE.imp (pe_tup h) fun σ H Q ⟨p, c, ρ, F, Q', es, h, t⟩ =>
  ⟨p, c, ρ, F, _, es, h, fun l c1 vs F1 H1 w1 ok1 r1 q1 => ⟨by rw [line16, r1.len]; exact q1.1, tellNewT ok1 (t.fwd w1) r1 q1.2⟩⟩
theorem ex_lst (h : AX X es fr) : EX X (.List es pos) (eLst fr) := PE.imp (pe_lst h) fun σ H Q ⟨p, c, ρ, F, Q', es, h, t⟩ =>
  ⟨p, c, ρ, F, _, es, h, fun l c1 vs F1 H1 w1 ok1 r1 q1 => ⟨by rw [line16, r1.len]; exact q1.1, tellNew ok1 (t.fwd w1) r1 q1.2⟩⟩
end

/-! ### slices, calls, built-ins -/
section
variable {X : Cx} {a b c e : Expr} {es : List Expr} {fa fb fd : FE} {fr : FA} {pos p2 : Pos}
structure OX (X : Cx) (e : Option Expr) (f : FO) : Prop where
  ex : ∃ t, PO X e t ∧ ∀ σ H p c ρ F Q' Q, ESt X.K p c ρ σ F H → f ρ c Q' → (∀ i c' F' H', Fwd p F H F' H' → Ok3 p c' F' H' → Q' i c' → Q i H') → t σ H Q
theorem ox_none : OX X none oNone := ⟨_, po_none, fun σ H p c ρ F Q' Q es h k => k none c F H (.refl ..) es.ok h⟩
theorem ox_some (h : EX X e fa) : OX X (some e) (oSome fa) := ⟨_, po_some h, fun σ H p c ρ F Q' Q es h k => ⟨p, c, ρ, F, _, es, h, fun x c1 v F1 H1 w1 ok1 r1 q1 => by
  split at q1
  · rename_i i
    cases (show v = .int i from r1)
    exact ⟨i, rfl, k _ c1 F1 H1 w1 ok1 q1⟩
  · exact q1.elim⟩⟩
theorem cut_len {l : List D} {xs : List V} (e : xs.length = l.length) (lo hi : Option Int) : cutV xs lo hi = (xs.drop (HT.sIx l.length 0 lo)).take (HT.sIx l.length l.length hi - HT.sIx l.length 0 lo) := by
  unfold cutV
  rw [e]
theorem RepL.cut {K : PySem.W.Frag} {p : Pn} {F : Hp} {l : List D} {xs : List V} (r : RepL K p F l xs) (lo hi : Option Int) : RepL K p F (cutD l lo hi) (cutV xs lo hi) := by
  rw [cut_len r.len]
  exact (r.drop _).take _
abbrev rSl2 (K : PySem.W.Frag) : V → Option Int → Option Int → Hp → VK → Prop := fun x lo hi H Q => rSlA K x lo hi H Q ∨ rSlL K x lo hi H Q
theorem ex_sl {lo hi : Option Expr} {fl fh : FO} (ha : EX X e fa) (hl : OX X lo fl) (hh : OX X hi fh) : EX X (.Subscript e (.Slice lo hi none p2) pos) (eSl fa fl fh) := by
  obtain ⟨tl, pl, kl⟩ := hl.ex
  obtain ⟨th, ph, kh⟩ := hh.ex
  refine PE.imp (pe_slice (sl_tupA.or sl_list) ha pl ph) fun σ H Q ⟨p, c, ρ, F, Q', es, h, t⟩ => ⟨p, c, ρ, F, _, es, h, fun x c1 v F1 H1 w1 ok1 r1 q1 => ?_⟩
  refine kl σ H1 p c1 ρ F1 _ _ (es.fwd w1 ok1) q1 fun i c2 F2 H2 w2 ok2 q2 => ?_
  have w12 := w1.trans w2
  refine kh σ H2 p c2 ρ F2 _ _ (es.fwd w12 ok2) q2 fun j c3 F3 H3 w3 ok3 q3 => ?_
  have w13 := w12.trans w3
  have r3 := (r1.mono w2.frz).mono w3.frz
  split at q3
  · rename_i d e3
    cases x with
    | tup l =>
      cases (show some (D.tup (cutD l i j)) = some d from e3)
      obtain ⟨b, xs, rfl, h1, rl⟩ := r3
      refine .inl ⟨b, xs, rfl, ok3.sqT h1, fun hw => ?_, fun _ => tellNewT ok3 (t.fwd w13) (rl.cut i j) q3⟩
      have e4 : cutD l i j = l := by
        rw [rl.len] at hw
        unfold cutD
        rw [hw.1, hw.2]
        simp
      rw [e4] at q3
      exact t (.tup l) c3 _ F3 H3 w13 ok3 ⟨b, xs, rfl, h1, rl⟩ q3
    | lst l =>
      cases (show some (D.lst (cutD l i j)) = some d from e3)
      obtain ⟨b, xs, rfl, h1, rl⟩ := r3
      exact .inr ⟨b, xs, rfl, .of (ok3.sub _ _ h1), tellNew ok3 (t.fwd w13) (rl.cut i j) q3⟩
    | scr ns =>
      cases (show some (D.lst (cutD (ns.map .int) i j)) = some d from e3)
      obtain ⟨b, rfl, h1⟩ := r3
      exact .inr ⟨b, _, rfl, Sub.sqL ok3.sub h1, tellNew ok3 (t.fwd w13) ((rep_ints ns).cut i j) q3⟩
    | _ => cases e3
  · exact q3.elim
end

section
variable {X : Cx} {a b c e : Expr} {es : List Expr} {fa fb fd : FE} {fr : FA} {pos p2 : Pos}
/-- a def's promise, plain -/
def spM (K : PySem.W.Frag) (n : Nat) (m : FM) : Sp := fun vs H Q _ => vs.length = n ∧ ∃ p c F ds Q', Ok3 p c F H ∧ RepL K p F ds vs ∧ m ds c Q' ∧ Tell K p F H Q' Q
theorem ex_call {CX : CXT} {k n : Nat} {f : Addr} {fd : FuncData} {ps : List Str} {m : FM} {x : Str} {p : Pos} {E : XK} (G : FnOk X.prog X.w X.K X.mg X.base CX k f fd ps (spM X.K n m)) (hr : Room k X.A) (hm : X.mg x = some (.ref f)) (hk : PySem.W.keepIn X.K (.ref f) = true) (hb : Binds X.K fd ps [])
    (hn : ps.length = n) (ha : AX X (e :: es) fr) (hx : Passes CX X E) (hg : Gl X x := by rfl) (hdb : (x == ("__debug__" : Str)) = false := by decide) (he : starEach (e :: es) X.env = (false, eval e X.env) :: starEach es X.env := by rfl) (hpl : (backTo pos (starEach es X.env)).any (·.1) = false := by rfl) (hl : ∀ l c Q, m l c Q → l.length = n) :
    EX X (.Call (.Name x p) (e :: es) [] pos) (eCall m fr) := PE.imp (pe_call (dvs := []) G hr hg hm hk hb .nil hx ha hdb he hpl) fun σ H Q ⟨p, c, ρ, F, Q', es, h, t⟩ =>
  ⟨p, c, ρ, F, _, es, h, fun l c1 vs F1 H1 w1 ok1 r1 q1 => ⟨by rw [List.append_nil, r1.len]; exact hl _ _ _ q1, p, c1, F1, l, Q', ok1, by rw [List.append_nil]; exact r1, q1, t.fwd w1⟩⟩
/-- a built-in on values -/
def CallS (K : PySem.W.Frag) (r : List V → Hp → VK → Prop) (m : FM) : Prop := ∀ p c F H l vs Q' Q, Ok3 p c F H → RepL K p F l vs → m l c Q' → Tell K p F H Q' Q → r vs H Q
theorem ex_callB {id : String} {r : List V → Hp → VK → Prop} {m : FM} {x : Str} {p : Pos} (hc : CallR X (.builtin id) r) (s : CallS X.K r m) (hm : X.mg x = none) (hv : bootBuiltins x = some (.builtin id)) (ha : AX X (e :: es) fr) (hg : Gl X x := by rfl) (hn : x ≠ "__name__" := by decide) (hdb : (x == ("__debug__" : Str)) = false := by decide)
    (he : starEach (e :: es) X.env = (false, eval e X.env) :: starEach es X.env := by rfl) (hpl : (backTo pos (starEach es X.env)).any (·.1) = false := by rfl) : EX X (.Call (.Name x p) (e :: es) [] pos) (eB m fr) := PE.imp (pe_callB hc hg hm hv ha hn hdb he hpl) fun σ H Q ⟨p, c, ρ, F, Q', es, h, t⟩ =>
  ⟨p, c, ρ, F, _, es, h, fun l c1 vs F1 H1 w1 ok1 r1 q1 => s p c1 F1 H1 l vs Q' Q ok1 r1 q1 (t.fwd w1)⟩
theorem ex_callT {id : String} {r : List V → Hp → VK → Prop} {m : FM} {x : Str} {p : Pos} (hc : CallR X (.type id) r) (s : CallS X.K r m) (hm : X.mg x = none) (hv : bootBuiltins x = some (.type id)) (ha : AX X (e :: es) fr) (hg : Gl X x := by rfl) (hn : x ≠ "__name__" := by decide) (hdb : (x == ("__debug__" : Str)) = false := by decide)
    (he : starEach (e :: es) X.env = (false, eval e X.env) :: starEach es X.env := by rfl) (hpl : (backTo pos (starEach es X.env)).any (·.1) = false := by rfl) : EX X (.Call (.Name x p) (e :: es) [] pos) (eB m fr) := PE.imp (pe_callTy hc hg hm hv ha hn hdb he hpl) fun σ H Q ⟨p, c, ρ, F, Q', es, h, t⟩ =>
  ⟨p, c, ρ, F, _, es, h, fun l c1 vs F1 H1 w1 ok1 r1 q1 => s p c1 F1 H1 l vs Q' Q ok1 r1 q1 (t.fwd w1)⟩
end
section
variable {K : PySem.W.Frag}
theorem RepL.one {p : Pn} {F : Hp} {d : D} {vs : List V} (h : RepL K p F [d] vs) : ∃ v, vs = [v] ∧ Rep K p F d v := by
  obtain ⟨x, r, rfl, h1, h2⟩ := h
  cases h2
  exact ⟨x, rfl, h1⟩
theorem RepL.two {p : Pn} {F : Hp} {d e : D} {vs : List V} (h : RepL K p F [d, e] vs) : ∃ v u, vs = [v, u] ∧ Rep K p F d v ∧ Rep K p F e u := by
  obtain ⟨x, r, rfl, h1, y, r2, rfl, h2, h3⟩ := h
  cases h3
  exact ⟨x, y, rfl, h1, h2⟩
theorem RepL.int1 {p : Pn} {F : Hp} {i : Int} {vs : List V} (h : RepL K p F [.int i] vs) : vs = [.int i] := by
  obtain ⟨v, rfl, e⟩ := h.one
  cases (show v = .int i from e)
  rfl
theorem RepL.int2 {p : Pn} {F : Hp} {i j : Int} {vs : List V} (h : RepL K p F [.int i, .int j] vs) : vs = [.int i, .int j] := by
  obtain ⟨v, u, rfl, e, e'⟩ := h.two
  cases (show v = .int i from e)
  cases (show u = .int j from e')
  rfl
theorem ok_lst {p : Pn} {c : Nat} {F H : Hp} (ok : Ok3 p c F H) {a : Addr} {xs : List V} (h : F a = some (.lst xs)) : SqL K H a xs := .of (ok.sub _ _ h)
theorem lenS : CallS K (fun xs H Q => ∃ p ys, xs = [.ref p] ∧ (SqL K H p ys ∨ SqT K H p ys) ∧ Q (.int ys.length) H) lenM := by
  intro p c F H l vs Q' Q ok r h t
  unfold lenM at h
  split at h
  · obtain ⟨v, rfl, a, xs, rfl, h1, r1⟩ := r.one
    exact ⟨a, xs, rfl, .inr (ok.sqT h1), by rw [r1.len]; exact tellI ok t h⟩
  · obtain ⟨v, rfl, a, xs, rfl, h1, r1⟩ := r.one
    exact ⟨a, xs, rfl, .inl (ok_lst ok h1), by rw [r1.len]; exact tellI ok t h⟩
  · rename_i ns
    obtain ⟨v, rfl, a, rfl, h1⟩ := r.one
    exact ⟨a, ns.map V.int, rfl, .inl (Sub.sqL ok.sub h1), by rw [List.length_map]; exact tellI ok t h⟩
  · exact h.elim
theorem absS : CallS K (fun xs H Q => ∃ i, xs = [.int i] ∧ Q (.int (if i < 0 then -i else i)) H) absM := by
  intro p c F H l vs Q' Q ok r h t
  unfold absM at h
  split at h
  · exact ⟨_, r.int1, tellI ok t h⟩
  · exact h.elim
theorem max2S : CallS K (fun xs H Q => ∃ i j, xs = [.int i, .int j] ∧ Q (.int (if j > i then j else i)) H) max2M := by
  intro p c F H l vs Q' Q ok r h t
  unfold max2M at h
  split at h
  · exact ⟨_, _, r.int2, tellI ok t h⟩
  · exact h.elim
theorem min2S : CallS K (fun xs H Q => ∃ i j, xs = [.int i, .int j] ∧ Q (.int (if j < i then j else i)) H) min2M := by
  intro p c F H l vs Q' Q ok r h t
  unfold min2M at h
  split at h
  · exact ⟨_, _, r.int2, tellI ok t h⟩
  · exact h.elim
theorem intS1 : CallS K (fun xs H Q => (∃ i, xs = [.int i] ∧ Q (.int i) H) ∨ ∃ k, xs = [.bl k] ∧ Q (.int (if k then 1 else 0)) H) intM := by
  intro p c F H l vs Q' Q ok r h t
  unfold intM at h
  split at h
  · exact .inl ⟨_, r.int1, tellI ok t h⟩
  · obtain ⟨v, rfl, e⟩ := r.one
    rename_i b
    cases (show v = .bl b from e)
    exact .inr ⟨b, rfl, tellI ok t h⟩
  · exact h.elim
theorem tupleS : CallS K (fun xs H Q => ∃ p ys, xs = [.ref p] ∧ ((SqL K H p ys ∧ ∀ l, H l = none → Q (.ref l) (upd H l (.tup ys))) ∨ (SqT K H p ys ∧ Q (.ref p) H))) tupleM := by
  intro p c F H l vs Q' Q ok r h t
  unfold tupleM at h
  split at h
  · obtain ⟨v, rfl, a, xs, rfl, h1, r1⟩ := r.one
    exact ⟨a, xs, rfl, .inl ⟨ok_lst ok h1, tellNewT ok t r1 h⟩⟩
  · obtain ⟨v, rfl, a, xs, rfl, h1, r1⟩ := r.one
    exact ⟨a, xs, rfl, .inr ⟨ok.sqT h1, t (.tup _) c _ F H (.refl ..) ok ⟨a, xs, rfl, h1, r1⟩ h⟩⟩
  · exact h.elim
theorem listS : CallS K (fun xs H Q => ∃ p ys, xs = [.ref p] ∧ (SqL K H p ys ∨ SqT K H p ys) ∧ ∀ l, H l = none → Q (.ref l) (upd H l (.lst ys))) listM := by
  intro p c F H l vs Q' Q ok r h t
  unfold listM at h
  split at h
  · obtain ⟨v, rfl, a, xs, rfl, h1, r1⟩ := r.one
    exact ⟨a, xs, rfl, .inl (ok_lst ok h1), tellNew ok t r1 h⟩
  · obtain ⟨v, rfl, a, xs, rfl, h1, r1⟩ := r.one
    exact ⟨a, xs, rfl, .inr (ok.sqT h1), tellNew ok t r1 h⟩
  · exact h.elim
theorem RepL.bls {p : Pn} {F : Hp} : ∀ {l : List D} {xs : List V} {bs : List Bool}, RepL K p F l xs → blsOf l = some bs → xs = bs.map V.bl
  | [], _, _, h, q => by cases q; cases h; rfl
  | d :: l, _, bs, h, q => by
    obtain ⟨x, r, rfl, h1, h2⟩ := h
    unfold blsOf at q
    split at q
    · rename_i e; cases e
    · rename_i b l' e
      cases e
      obtain ⟨bs', e1, rfl⟩ := Option.map_eq_some_iff.mp q
      cases (show x = .bl b from h1)
      rw [RepL.bls h2 e1]
      rfl
    · cases q
theorem RepL.ints {p : Pn} {F : Hp} : ∀ {l : List D} {xs : List V} {bs : List Int}, RepL K p F l xs → intsOf l = some bs → xs = bs.map V.int
  | [], _, _, h, q => by cases q; cases h; rfl
  | d :: l, _, bs, h, q => by
    obtain ⟨x, r, rfl, h1, h2⟩ := h
    unfold intsOf at q
    split at q
    · rename_i e; cases e
    · rename_i b l' e
      cases e
      obtain ⟨bs', e1, rfl⟩ := Option.map_eq_some_iff.mp q
      cases (show x = .int b from h1)
      rw [RepL.ints h2 e1]
      rfl
    · cases q
theorem allS : CallS K (rAll K) allM := by
  intro p c F H l vs Q' Q ok r h t
  unfold allM at h
  split at h
  · split at h
    · rename_i bs e
      obtain ⟨v, rfl, a, xs, rfl, h1, r1⟩ := r.one
      exact ⟨a, bs, rfl, by rw [← r1.bls e]; exact ok_lst ok h1, tellBl ok t h⟩
    · exact h.elim
  · exact h.elim
theorem anyS : CallS K (rAny K) anyM := by
  intro p c F H l vs Q' Q ok r h t
  unfold anyM at h
  split at h
  · split at h
    · rename_i bs e
      obtain ⟨v, rfl, a, xs, rfl, h1, r1⟩ := r.one
      exact ⟨a, bs, rfl, by rw [← r1.bls e]; exact ok_lst ok h1, tellBl ok t h⟩
    · exact h.elim
  · exact h.elim
theorem sumS : CallS K (rSum K) sumM := by
  intro p c F H l vs Q' Q ok r h t
  unfold sumM at h
  split at h
  · split at h
    · rename_i bs e
      obtain ⟨v, rfl, a, xs, rfl, h1, r1⟩ := r.one
      exact ⟨a, bs, rfl, by rw [← r1.ints e]; exact ok_lst ok h1, tellI ok t h⟩
    · exact h.elim
  · exact h.elim
end

/-! ### isinstance -/
section
variable {K : PySem.W.Frag}
theorem Rep.tyX {p : Pn} {c : Nat} {F H : Hp} (ok : Ok3 p c F H) {d : D} {v : V} {n : String} (h : Rep K p F d v) (e : tyName d = some n) : TyX K H v (.type n) := by
  cases d with
  | non => cases e; cases (show _ = V.non from h); exact .base .non
  | bl _ => cases e; cases (show _ = V.bl _ from h); exact .base (.bl _)
  | int _ => cases e; cases (show _ = V.int _ from h); exact .base (.int _)
  | str _ => cases e; cases (show _ = V.str _ from h); exact .base (.str _)
  | tup l =>
    cases e
    obtain ⟨a, xs, rfl, h1, _⟩ := h
    rcases ok.sqT h1 with (h | ⟨o, h⟩) | ⟨o, its, n, h, hc, _⟩
    · exact .base (.tup h)
    · exact .fTuple h
    · exact .kTuple h hc
  | lst l =>
    cases e
    obtain ⟨a, xs, rfl, h1, _⟩ := h
    exact .base (.lst (ok.sub _ _ h1))
  | dic kvs =>
    cases e
    obtain ⟨a, rfl, h1⟩ := h
    exact .base (.dK (ok.sub _ _ h1))
  | ty _ => cases e
  | rf _ => cases e
  | lam _ _ _ => cases e
  | exc _ _ => cases e
  | clo _ _ => cases e
  | dct ks _ =>
    cases ks with
    | k ks =>
      cases e
      obtain ⟨a, o, vs, rfl, h1, ⟨kvs, rfl, _⟩, _⟩ := h
      exact .base (.dK (ok.sub _ _ h1))
    | t ks => cases e
  | pot => cases e
  | scr _ => cases e
theorem kits : (kitB "NoneType" "int" = some false ∧ kitB "NoneType" "bool" = some false ∧ kitB "NoneType" "str" = some false ∧ kitB "NoneType" "tuple" = some false ∧ kitB "NoneType" "list" = some false) ∧
    (kitB "bool" "int" = some true ∧ kitB "bool" "bool" = some true ∧ kitB "bool" "str" = some false ∧ kitB "bool" "tuple" = some false ∧ kitB "bool" "list" = some false) ∧
    (kitB "int" "int" = some true ∧ kitB "int" "bool" = some false ∧ kitB "int" "str" = some false ∧ kitB "int" "tuple" = some false ∧ kitB "int" "list" = some false) ∧
    (kitB "str" "int" = some false ∧ kitB "str" "bool" = some false ∧ kitB "str" "str" = some true ∧ kitB "str" "tuple" = some false ∧ kitB "str" "list" = some false) ∧
    (kitB "tuple" "int" = some false ∧ kitB "tuple" "bool" = some false ∧ kitB "tuple" "str" = some false ∧ kitB "tuple" "tuple" = some true ∧ kitB "tuple" "list" = some false) ∧
    (kitB "list" "int" = some false ∧ kitB "list" "bool" = some false ∧ kitB "list" "str" = some false ∧ kitB "list" "tuple" = some false ∧ kitB "list" "list" = some true) ∧
    (kitB "dict" "int" = some false ∧ kitB "dict" "bool" = some false ∧ kitB "dict" "str" = some false ∧ kitB "dict" "tuple" = some false ∧ kitB "dict" "list" = some false) := by decide +kernel
theorem kit_isi {x : D} {n t : String} (e : tyName x = some n) (ht : t = "int" ∨ t = "bool" ∨ t = "str" ∨ t = "tuple" ∨ t = "list") : kitB n t = some (isiD x t) := by
  obtain ⟨⟨a1, a2, a3, a4, a5⟩, ⟨b1, b2, b3, b4, b5⟩, ⟨c1, c2, c3, c4, c5⟩, ⟨d1, d2, d3, d4, d5⟩, ⟨e1, e2, e3, e4, e5⟩, ⟨f1, f2, f3, f4, f5⟩, ⟨g1, g2, g3, g4, g5⟩⟩ := kits
  cases x with
  | dct ks l => cases ks <;> cases e <;> rcases ht with rfl | rfl | rfl | rfl | rfl <;> (simp only [isiD]; assumption)
  | _ => cases e <;> rcases ht with rfl | rfl | rfl | rfl | rfl <;> (simp only [isiD]; assumption)
theorem isiS : CallS K (rIsi K) isiM := by
  intro p c F H l vs Q' Q ok r h t
  unfold isiM at h
  split at h
  · rename_i x ty
    obtain ⟨h1, h2, h⟩ := h
    obtain ⟨v, u, rfl, r1, r2⟩ := r.two
    cases (show u = .ty ty from r2)
    obtain ⟨n, e⟩ := Option.isSome_iff_exists.mp h1
    exact ⟨v, .ty ty, .type n, .type ty, isiD x ty, rfl, .ty ty, r1.tyX ok e, kit_ty (kit_isi e h2), tellBl ok t h⟩
  · exact h.elim
end
end L3

/-! L3, the rules for statements, targets, loops, comprehensions, defs. -/
namespace L3
open PySem PySem.Spec PyProof.Rows L2
/-- the state a statement meets; F0, H0: the def's entry -/
structure SSt (K : PySem.W.Frag) (p : Pn) (c : Nat) (ρ : Env3) (σ : L2.St) (F H F0 H0 : Hp) : Prop where
  ok : Ok3 p c F H
  ent : Fwd p F0 H0 F H
  len : ρ.length = σ.length
  val : ∀ (i : Nat) (d : D), ρ[i]? = some (SV.val d) → ∃ v, σ[i]? = some (some v) ∧ Rep K p F d v
  own : ∀ (i : Nat) (l : List D), ρ[i]? = some (SV.own l) → ∃ a xs, σ[i]? = some (some (V.ref a)) ∧ H a = some (.lst xs) ∧ F a = none ∧ H0 a = none ∧ p.pot ≠ some a ∧ RepL K p F l xs
  sep : ∀ (i j : Nat) (l m : List D) (a : Addr), ρ[i]? = some (SV.own l) → ρ[j]? = some (SV.own m) → σ[i]? = some (some (V.ref a)) → σ[j]? = some (some (V.ref a)) → i = j
  dic : ∀ (i : Nat) (ks : Ks) (l : List D), ρ[i]? = some (SV.dic ks l) → ∃ (a : Addr) (o : HO) (vs : List V), σ[i]? = some (some (V.ref a)) ∧ H a = some o ∧ F a = none ∧ H0 a = none ∧ p.pot ≠ some a ∧ DicO ks vs o ∧ RepL K p F l vs
  sepd : ∀ (i j : Nat) (ks ks' : Ks) (l m : List D) (a : Addr), ρ[i]? = some (SV.dic ks l) → ρ[j]? = some (SV.dic ks' m) → σ[i]? = some (some (V.ref a)) → σ[j]? = some (some (V.ref a)) → i = j
theorem get3_map (f : SV → Option D) : ∀ (ρ : Env3) (i : Nat) (d : D), get3 (ρ.map f) i = some d ↔ ∃ s, ρ[i]? = some s ∧ f s = some d
  | [], i, d => by simp [get3]
  | x :: r, 0, d => by simp [get3]
  | x :: r, i + 1, d => by
    have := get3_map f r i d
    simpa [get3] using this
section
variable {K : PySem.W.Frag} {p : Pn} {c c' : Nat} {ρ : Env3} {σ : L2.St} {F H F0 H0 F' H' : Hp}
theorem SSt.e (s : SSt K p c ρ σ F H F0 H0) : ESt K p c (ρ.map vA) σ F H where
  ok := s.ok
  slot := fun i d e => by
    obtain ⟨x, e1, e2⟩ := (get3_map vA ρ i d).mp e
    cases x with
    | val d' => cases e2; exact s.val i _ e1
    | own l => cases e2
    | dic _ _ => cases e2
    | no => cases e2
  len := by rw [List.length_map, s.len]
theorem SSt.fwd (s : SSt K p c ρ σ F H F0 H0) (w : Fwd p F H F' H') (ok : Ok3 p c' F' H') : SSt K p c' ρ σ F' H' F0 H0 where
  ok := ok
  ent := s.ent.trans w
  len := s.len
  val := fun i d e => let ⟨v, a, b⟩ := s.val i d e; ⟨v, a, b.mono w.frz⟩
  own := fun i l e => by
    obtain ⟨a, xs, e1, e2, e3, e4, e5, r⟩ := s.own i l e
    refine ⟨a, xs, e1, w.keep a _ e2 e5 (fun _ z => nomatch z), ?_, e4, e5, r.mono w.frz⟩
    cases q : F' a with
    | none => rfl
    | some u =>
      rcases w.new a u q with z | z
      · rw [e3] at z; cases z
      · rcases z with z | ⟨q', z⟩
        · rw [e2] at z; cases z
        · have y := ok.sub a u q
          rw [w.keep a _ e2 e5 (fun _ z => nomatch z)] at y
          exact absurd (z.symm.trans (Option.some.inj y.symm)) codeO_lst
  sep := s.sep
  dic := fun i ks l e => by
    obtain ⟨a, o, xs, e1, e2, e3, e4, e5, e6, r⟩ := s.dic i ks l e
    refine ⟨a, o, xs, e1, w.keep a _ e2 e5 (fun _ z => e6.no (fun _ q => nomatch z.symm.trans q) (fun _ q => nomatch z.symm.trans q)), ?_, e4, e5, e6, r.mono w.frz⟩
    cases q : F' a with
    | none => rfl
    | some u =>
      rcases w.new a u q with z | z
      · rw [e3] at z; cases z
      · rcases z with z | ⟨q', z⟩
        · rw [e2] at z; cases z
        · have y := ok.sub a u q
          rw [w.keep a _ e2 e5 (fun _ z => e6.no (fun _ q => nomatch z.symm.trans q) (fun _ q => nomatch z.symm.trans q))] at y
          rw [Option.some.inj y, z] at e6
          exact absurd e6 codeO_dK
  sepd := s.sepd
theorem set_get {α : Type} {l : List α} {i j : Nat} {x y : α} (h : (l.set i x)[j]? = some y) : (j = i ∧ i < l.length ∧ y = x) ∨ (j ≠ i ∧ l[j]? = some y) := by
  by_cases e : i = j
  · subst e
    by_cases hl : i < l.length
    · rw [List.getElem?_set_self hl] at h
      exact .inl ⟨rfl, hl, (Option.some.inj h).symm⟩
    · rw [List.getElem?_eq_none (by simpa using hl)] at h
      cases h
  · rw [List.getElem?_set_ne e] at h
    exact .inr ⟨fun z => e z.symm, h⟩
theorem SSt.set (s : SSt K p c ρ σ F H F0 H0) (i : Nat) {d : D} {v : V} (r : Rep K p F d v) : SSt K p c (ρ.set i (SV.val d)) (σ.set i (some v)) F H F0 H0 where
  ok := s.ok
  ent := s.ent
  len := by rw [List.length_set, List.length_set, s.len]
  val := fun j d' e => by
    rcases set_get e with ⟨rfl, hl, q⟩ | ⟨n, q⟩
    · cases q
      exact ⟨v, List.getElem?_set_self (by rw [← s.len]; exact hl), r⟩
    · rw [List.getElem?_set_ne (Ne.symm n)]
      exact s.val j d' q
  own := fun j l e => by
    rcases set_get e with ⟨rfl, hl, q⟩ | ⟨n, q⟩
    · cases q
    · rw [List.getElem?_set_ne (Ne.symm n)]
      exact s.own j l q
  sep := fun j k l m a e1 e2 e3 e4 => by
    rcases set_get e1 with ⟨rfl, hl, q⟩ | ⟨n, q⟩
    · cases q
    rcases set_get e2 with ⟨rfl, hl, q2⟩ | ⟨n2, q2⟩
    · cases q2
    rw [List.getElem?_set_ne (Ne.symm n)] at e3
    rw [List.getElem?_set_ne (Ne.symm n2)] at e4
    exact s.sep j k l m a q q2 e3 e4
  dic := fun j ks l e => by
    rcases set_get e with ⟨rfl, hl, q⟩ | ⟨n, q⟩
    · cases q
    · rw [List.getElem?_set_ne (Ne.symm n)]
      exact s.dic j ks l q
  sepd := fun j k ks ks' l m a e1 e2 e3 e4 => by
    rcases set_get e1 with ⟨rfl, hl, q⟩ | ⟨n, q⟩
    · cases q
    rcases set_get e2 with ⟨rfl, hl, q2⟩ | ⟨n2, q2⟩
    · cases q2
    rw [List.getElem?_set_ne (Ne.symm n)] at e3
    rw [List.getElem?_set_ne (Ne.symm n2)] at e4
    exact s.sepd j k ks ks' l m a q q2 e3 e4
/-- a new list of its own -/
theorem SSt.setOwn (s : SSt K p c ρ σ F H F0 H0) (i : Nat) {l : List D} {a : Addr} {xs : List V} (h1 : H a = some (.lst xs)) (h2 : F a = none) (h3 : H0 a = none) (h4 : p.pot ≠ some a) (r : RepL K p F l xs)
    (h5 : ∀ (j : Nat) (m : List D), ρ[j]? = some (SV.own m) → σ[j]? ≠ some (some (V.ref a))) : SSt K p c (ρ.set i (SV.own l)) (σ.set i (some (.ref a))) F H F0 H0 where
  ok := s.ok
  ent := s.ent
  len := by rw [List.length_set, List.length_set, s.len]
  val := fun j d' e => by
    rcases set_get e with ⟨rfl, hl, q⟩ | ⟨n, q⟩
    · cases q
    · rw [List.getElem?_set_ne (Ne.symm n)]
      exact s.val j d' q
  own := fun j l e => by
    rcases set_get e with ⟨rfl, hl, q⟩ | ⟨n, q⟩
    · cases q
      exact ⟨a, xs, List.getElem?_set_self (by rw [← s.len]; exact hl), h1, h2, h3, h4, r⟩
    · rw [List.getElem?_set_ne (Ne.symm n)]
      exact s.own j l q
  sep := fun j k l m b e1 e2 e3 e4 => by
    rcases set_get e1 with ⟨rfl, hl, q⟩ | ⟨n, q⟩
    · rcases set_get e2 with ⟨rfl, hl, q2⟩ | ⟨n2, q2⟩
      · rfl
      · rw [List.getElem?_set_self (by rw [← s.len]; exact hl)] at e3
        rw [List.getElem?_set_ne (Ne.symm n2)] at e4
        cases e3
        exact absurd e4 (h5 k m q2)
    · rw [List.getElem?_set_ne (Ne.symm n)] at e3
      rcases set_get e2 with ⟨rfl, hl, q2⟩ | ⟨n2, q2⟩
      · rw [List.getElem?_set_self (by rw [← s.len]; exact hl)] at e4
        cases e4
        exact absurd e3 (h5 j l q)
      · rw [List.getElem?_set_ne (Ne.symm n2)] at e4
        exact s.sep j k l m b q q2 e3 e4
  dic := fun j ks l e => by
    rcases set_get e with ⟨rfl, hl, q⟩ | ⟨n, q⟩
    · cases q
    · rw [List.getElem?_set_ne (Ne.symm n)]
      exact s.dic j ks l q
  sepd := fun j k ks ks' l m a e1 e2 e3 e4 => by
    rcases set_get e1 with ⟨rfl, hl, q⟩ | ⟨n, q⟩
    · cases q
    rcases set_get e2 with ⟨rfl, hl, q2⟩ | ⟨n2, q2⟩
    · cases q2
    rw [List.getElem?_set_ne (Ne.symm n)] at e3
    rw [List.getElem?_set_ne (Ne.symm n2)] at e4
    exact s.sepd j k ks ks' l m a q q2 e3 e4
theorem tabs_put {p : Pn} {H : Hp} {a : Addr} {xs ys : List V} (t : Tab3 p H) (h : H a = some (.lst xs)) : Tab3 p (upd H a (.lst ys)) := ⟨fun q hq => by
  obtain ⟨ps, h1, h2, h3⟩ := t.tabs q hq
  refine ⟨ps, by rw [upd_ne (ne_of h1 h (fun z => nomatch z))]; exact h1, h2, fun pos cv hc => ?_⟩
  obtain ⟨c, e1, e2⟩ := h3 pos cv hc
  exact ⟨c, e1, by rw [upd_ne (ne_of e2 h (fun z => nomatch z))]; exact e2⟩, fun q hq => by
  have e2 := t.cod q hq
  rw [upd_ne (ne_of e2 h (fun z => nomatch z))]; exact e2⟩
/-- an own list is changed -/
theorem SSt.put (s : SSt K p c ρ σ F H F0 H0) {i : Nat} {l l' : List D} {a : Addr} {xs' : List V} (hi : ρ[i]? = some (SV.own l)) (ha : σ[i]? = some (some (V.ref a))) (r : RepL K p F l' xs') :
    SSt K p c (ρ.set i (SV.own l')) σ F (upd H a (.lst xs')) F0 H0 := by
  obtain ⟨a', xs, e1, e2, e3, e4, e5, r0⟩ := s.own i l hi
  rw [ha] at e1
  cases e1
  have neF : ∀ b o, F b = some o → b ≠ a := fun b o h => ne_of_none h e3
  refine ⟨⟨fun b o h => by rw [upd_ne (neF b o h)]; exact s.ok.sub b o h, fun b hb => ?_, tabs_put s.ok.tab e2, s.ok.nt⟩, ⟨s.ent.frz, fun b o h n t => by rw [upd_ne (ne_of_none h e4)]; exact s.ent.keep b o h n t, s.ent.new, fun b h => ?_⟩, by rw [List.length_set, s.len], fun j d e => ?_, fun j m e => ?_, fun j k m m' b f1 f2 f3 f4 => ?_, fun j ks m e => ?_, fun j k ks ks' m m' b f1 f2 f3 f4 => ?_⟩
  · obtain ⟨⟨x, y, z, q, w⟩, n⟩ := s.ok.pot b hb
    have ne : b ≠ a := fun e => e5 (e ▸ hb)
    exact ⟨⟨x, y, z, by rw [upd_ne ne]; exact q, w⟩, n⟩
  · by_cases e : b = a
    · subst e; exact e4
    · rw [upd_ne e] at h; exact s.ent.there b h
  · rcases set_get e with ⟨rfl, hl, q⟩ | ⟨n, q⟩
    · cases q
    · exact s.val j d q
  · rcases set_get e with ⟨rfl, hl, q⟩ | ⟨n, q⟩
    · cases q
      exact ⟨a, xs', ha, upd_same, e3, e4, e5, r⟩
    · obtain ⟨b, ys, g1, g2, g3, g4, g5, g6⟩ := s.own j m q
      have ne : b ≠ a := fun e => n (s.sep j i m l a q hi (e ▸ g1) ha)
      exact ⟨b, ys, g1, by rw [upd_ne ne]; exact g2, g3, g4, g5, g6⟩
  · have get : ∀ {j : Nat} {m : List D}, (ρ.set i (SV.own l'))[j]? = some (SV.own m) → ∃ m', ρ[j]? = some (SV.own m') := fun {j m} e => by
      rcases set_get e with ⟨rfl, hl, q⟩ | ⟨n, q⟩
      · exact ⟨l, hi⟩
      · exact ⟨m, q⟩
    obtain ⟨_, q1⟩ := get f1
    obtain ⟨_, q2⟩ := get f2
    exact s.sep j k _ _ b q1 q2 f3 f4
  · rcases set_get e with ⟨rfl, hl, q⟩ | ⟨n, q⟩
    · cases q
    · obtain ⟨b, o, ys, g1, g2, g3, g4, g5, g6, g7⟩ := s.dic j ks m q
      have ne : b ≠ a := fun e => by rw [e, e2] at g2; cases g2; exact g6.no (fun _ q => nomatch q) (fun _ q => nomatch q)
      exact ⟨b, o, ys, g1, by rw [upd_ne ne]; exact g2, g3, g4, g5, g6, g7⟩
  · rcases set_get f1 with ⟨rfl, hl, q⟩ | ⟨n, q⟩
    · cases q
    rcases set_get f2 with ⟨rfl, hl, q2⟩ | ⟨n2, q2⟩
    · cases q2
    exact s.sepd j k ks ks' m m' b q q2 f3 f4
/-- an own list is given away -/
theorem SSt.frz (s : SSt K p c ρ σ F H F0 H0) (i : Nat) : ∃ F', SSt K p c (frz3 i ρ) σ F' H F0 H0 := by
  unfold frz3
  split
  · rename_i l hi
    obtain ⟨a, xs, e1, e2, e3, e4, e5, r0⟩ := s.own i l hi
    have neF : ∀ b o, F b = some o → b ≠ a := fun b o h => ne_of_none h e3
    have up : ∀ b o, F b = some o → upd F a (.lst xs) b = some o := fun b o h => by rw [upd_ne (neF b o h)]; exact h
    refine ⟨upd F a (.lst xs), ⟨fun b o h => ?_, fun b hb => ?_, s.ok.tab, nt_upd s.ok.nt a xs e3⟩, ⟨fun b o h => up b o (s.ent.frz b o h), s.ent.keep, fun b o h => ?_, s.ent.there⟩, by rw [List.length_set, s.len], fun j d e => ?_, fun j m e => ?_, fun j k m m' b f1 f2 f3 f4 => ?_, fun j ks m e => ?_, fun j k ks ks' m m' b f1 f2 f3 f4 => ?_⟩
    · by_cases e : b = a
      · subst e; rw [upd_same] at h; cases h; exact e2
      · rw [upd_ne e] at h; exact s.ok.sub b o h
    · obtain ⟨q, n⟩ := s.ok.pot b hb
      have ne : b ≠ a := fun e => e5 (e ▸ hb)
      exact ⟨q, by rw [upd_ne ne]; exact n⟩
    · by_cases e : b = a
      · subst e; exact .inr (.inl e4)
      · rw [upd_ne e] at h; exact s.ent.new b o h
    · rcases set_get e with ⟨rfl, hl, q⟩ | ⟨n, q⟩
      · cases q
        exact ⟨_, e1, a, xs, rfl, upd_same, r0.mono up⟩
      · obtain ⟨v, g1, g2⟩ := s.val j d q
        exact ⟨v, g1, g2.mono up⟩
    · rcases set_get e with ⟨rfl, hl, q⟩ | ⟨n, q⟩
      · cases q
      · obtain ⟨b, ys, g1, g2, g3, g4, g5, g6⟩ := s.own j m q
        have ne : b ≠ a := fun e => n (s.sep j i m l a q hi (e ▸ g1) e1)
        exact ⟨b, ys, g1, g2, by rw [upd_ne ne]; exact g3, g4, g5, g6.mono up⟩
    · rcases set_get f1 with ⟨rfl, hl, q⟩ | ⟨n, q⟩
      · cases q
      rcases set_get f2 with ⟨rfl, hl, q2⟩ | ⟨n2, q2⟩
      · cases q2
      exact s.sep j k m m' b q q2 f3 f4
    · rcases set_get e with ⟨rfl, hl, q⟩ | ⟨n, q⟩
      · cases q
      · obtain ⟨b, o, ys, g1, g2, g3, g4, g5, g6, g7⟩ := s.dic j ks m q
        have ne : b ≠ a := fun e => by rw [e, e2] at g2; cases g2; exact g6.no (fun _ q => nomatch q) (fun _ q => nomatch q)
        exact ⟨b, o, ys, g1, g2, by rw [upd_ne ne]; exact g3, g4, g5, g6, g7.mono up⟩
    · rcases set_get f1 with ⟨rfl, hl, q⟩ | ⟨n, q⟩
      · cases q
      rcases set_get f2 with ⟨rfl, hl, q2⟩ | ⟨n2, q2⟩
      · cases q2
      exact s.sepd j k ks ks' m m' b q q2 f3 f4
  · exact ⟨F, s⟩
open Classical in
/-- all own lists lent to an expression -/
theorem SSt.lend (s : SSt K p c ρ σ F H F0 H0) : ∃ F2, ESt K p c (ρ.map vB) σ F2 H ∧ Fwd p F0 H0 F2 H ∧
    ∀ c' F' H', Fwd p F2 H F' H' → Ok3 p c' F' H' → ∃ F3, SSt K p c' ρ σ F3 H' F0 H0 ∧ Fwd p F H F3 H' ∧ (∀ d v, noLst d = true → Rep K p F' d v → Rep K p F3 d v) ∧ (∀ l xs, noLstL l = true → RepL K p F' l xs → RepL K p F3 l xs) ∧ ∀ b, F' b = none → F3 b = none := by
  let o : Addr → Prop := fun b => (∃ (i : Nat) (l : List D), ρ[i]? = some (SV.own l) ∧ σ[i]? = some (some (V.ref b))) ∨ ∃ (i : Nat) (ks : Ks) (l : List D), ρ[i]? = some (SV.dic ks l) ∧ σ[i]? = some (some (V.ref b))
  have oH : ∀ b, o b → ∃ u, H b = some u ∧ F b = none ∧ H0 b = none ∧ p.pot ≠ some b ∧ ((∃ xs, u = .lst xs) ∨ ∃ ks vs, DicO ks vs u) := fun b hb => by
    rcases hb with ⟨i, l, e1, e2⟩ | ⟨i, ks, l, e1, e2⟩
    · obtain ⟨a, xs, g1, g2, g3, g4, g5, _⟩ := s.own i l e1
      rw [e2] at g1
      cases g1
      exact ⟨_, g2, g3, g4, g5, .inl ⟨xs, rfl⟩⟩
    · obtain ⟨a, o, xs, g1, g2, g3, g4, g5, g6, _⟩ := s.dic i ks l e1
      rw [e2] at g1
      cases g1
      exact ⟨_, g2, g3, g4, g5, .inr ⟨ks, xs, g6⟩⟩
  let F2 : Hp := fun b => if o b then H b else F b
  have F2o : ∀ b, o b → F2 b = H b := fun b h => if_pos h
  have F2n : ∀ b, ¬ o b → F2 b = F b := fun b h => if_neg h
  have up : ∀ b u, F b = some u → F2 b = some u := fun b u h => by
    by_cases q : o b
    · obtain ⟨_, _, z, _⟩ := oH b q
      rw [h] at z; cases z
    · rw [F2n b q]; exact h
  have ok2 : Ok3 p c F2 H := ⟨fun b u h => by
    by_cases q : o b
    · rw [F2o b q] at h; exact h
    · rw [F2n b q] at h; exact s.ok.sub b u h, fun b hb => by
      obtain ⟨q, n⟩ := s.ok.pot b hb
      refine ⟨q, ?_⟩
      by_cases z : o b
      · obtain ⟨_, _, _, _, e, _⟩ := oH b z
        exact absurd hb e
      · rw [F2n b z]; exact n, s.ok.tab, ⟨fun b ps h => by
      by_cases z : o b
      · rw [F2o b z] at h
        obtain ⟨ys, z1, _, _, _, zz⟩ := oH b z
        rw [z1] at h; cases h
        rcases zz with ⟨_, q⟩ | ⟨_, _, q⟩
        · cases q
        · exact q.no (fun _ q => nomatch q) (fun _ q => nomatch q)
      · rw [F2n b z] at h; exact s.ok.nt.t b ps h, fun b u h => up b u (s.ok.nt.f b u h)⟩⟩
  refine ⟨F2, ⟨ok2, fun i d e => ?_, by rw [List.length_map, s.len]⟩, ⟨fun b u h => up b u (s.ent.frz b u h), s.ent.keep, fun b u h => ?_, s.ent.there⟩, fun c' F' H' w ok' => ?_⟩
  · obtain ⟨x, e1, e2⟩ := (get3_map vB ρ i d).mp e
    cases x with
    | no => cases e2
    | val d' =>
      cases e2
      obtain ⟨v, g1, g2⟩ := s.val i _ e1
      exact ⟨v, g1, g2.mono up⟩
    | own l =>
      cases e2
      obtain ⟨a, xs, g1, g2, g3, g4, g5, g6⟩ := s.own i l e1
      exact ⟨_, g1, a, xs, rfl, by rw [F2o a (.inl ⟨i, l, e1, g1⟩)]; exact g2, g6.mono up⟩
    | dic ks l =>
      cases e2
      obtain ⟨a, o, xs, g1, g2, g3, g4, g5, g6, g7⟩ := s.dic i ks l e1
      exact ⟨_, g1, a, o, xs, rfl, by rw [F2o a (.inr ⟨i, ks, l, e1, g1⟩)]; exact g2, g6, g7.mono up⟩
  · by_cases q : o b
    · obtain ⟨_, _, _, z, _⟩ := oH b q
      exact .inr (.inl z)
    · rw [F2n b q] at h; exact s.ent.new b u h
  · let F3 : Hp := fun b => if o b then none else F' b
    have F3o : ∀ b, o b → F3 b = none := fun b h => if_pos h
    have F3n : ∀ b, ¬ o b → F3 b = F' b := fun b h => if_neg h
    have up3 : ∀ b u, F b = some u → F3 b = some u := fun b u h => by
      by_cases q : o b
      · obtain ⟨_, _, z, _⟩ := oH b q
        rw [h] at z; cases z
      · rw [F3n b q]; exact w.frz b u (up b u h)
    have w3 : Fwd p F H F3 H' := ⟨up3, w.keep, fun b u h => by
      by_cases q : o b
      · rw [F3o b q] at h; cases h
      · rw [F3n b q] at h
        rcases w.new b u h with z | z
        · rw [F2n b q] at z; exact .inl z
        · exact .inr z, w.there⟩
    have ok3 : Ok3 p c' F3 H' := ⟨fun b u h => by
      by_cases q : o b
      · rw [F3o b q] at h; cases h
      · rw [F3n b q] at h; exact ok'.sub b u h, fun b hb => by
        obtain ⟨q, n⟩ := ok'.pot b hb
        refine ⟨q, ?_⟩
        by_cases z : o b
        · exact F3o b z
        · rw [F3n b z]; exact n, ok'.tab, ⟨fun b ps h => by
        by_cases z : o b
        · rw [F3o b z] at h; cases h
        · rw [F3n b z] at h; exact ok'.nt.t b ps h, fun b u h => up3 b u (s.ok.nt.f b u h)⟩⟩
    have tups : ∀ a xs, SqT K F' a xs → SqT K F3 a xs := fun a xs h => by
      have no : ∀ u, (∀ ys, u ≠ HO.lst ys) → (∀ ks vs, ¬ DicO ks vs u) → F' a = some u → F3 a = some u := fun u hu hu2 e => by
        rw [F3n a fun q => ?_]
        · exact e
        · obtain ⟨u', z1, _, _, z4, zz⟩ := oH a q
          have := w.keep a _ z1 z4 (fun _ z => by
            rcases zz with ⟨_, rfl⟩ | ⟨_, _, q⟩
            · exact nomatch z
            · exact q.no (fun _ q => nomatch z.symm.trans q) (fun _ q => nomatch z.symm.trans q))
          rw [ok'.sub a u e] at this
          rcases zz with ⟨ys, rfl⟩ | ⟨ks, vs, q⟩
          · exact hu ys (Option.some.inj this)
          · exact hu2 ks vs (by rw [Option.some.inj this]; exact q)
      rcases h with (h | ⟨u, h⟩) | h
      · exact .inl (.inl (no _ (fun _ z => nomatch z) (fun _ _ z => z.no (fun _ q => nomatch q) (fun _ q => nomatch q)) h))
      · exact .inl (.inr ⟨u, no _ (fun _ z => nomatch z) (fun _ _ z => z.no (fun _ q => nomatch q) (fun _ q => nomatch q)) h⟩)
      · exact .inr h
    have noO : ∀ a o, (∀ ys, o ≠ HO.lst ys) → (∀ ks vs, ¬ DicO ks vs o) → F' a = some o → F3 a = some o := fun a u hu hu2 e => by
      rw [F3n a fun q => ?_]
      · exact e
      · obtain ⟨u', z1, _, _, z4, zz⟩ := oH a q
        have := w.keep a _ z1 z4 (fun _ z => by
            rcases zz with ⟨_, rfl⟩ | ⟨_, _, q⟩
            · exact nomatch z
            · exact q.no (fun _ q => nomatch z.symm.trans q) (fun _ q => nomatch z.symm.trans q))
        rw [ok'.sub a u e] at this
        rcases zz with ⟨ys, rfl⟩ | ⟨ks, vs, q⟩
        · exact hu ys (Option.some.inj this)
        · exact hu2 ks vs (by rw [Option.some.inj this]; exact q)
    exact ⟨F3, s.fwd w3 ok3, w3, fun d v n r => r.tups tups noO n, fun l xs n r => r.tups tups noO n, fun b h => by
      by_cases q : o b
      · exact F3o b q
      · rw [F3n b q]; exact h⟩
end
structure TellS (K : PySem.W.Frag) (p : Pn) (F0 H0 : Hp) (E : End3) (D : Ends) : Prop where
  nx : ∀ c ρ σ F H, SSt K p c ρ σ F H F0 H0 → E.nx ρ c → D.nx σ H
  bk : ∀ c ρ σ F H, SSt K p c ρ σ F H F0 H0 → E.bk ρ c → D.bk σ H
  ct : ∀ c ρ σ F H, SSt K p c ρ σ F H F0 H0 → E.ct ρ c → D.ct σ H
  rt : Tell K p F0 H0 E.rt D.rt
def tS (K : PySem.W.Frag) (g : FS) : TS := fun D σ H => ∃ p c ρ F F0 H0 E, SSt K p c ρ σ F H F0 H0 ∧ g E ρ c ∧ TellS K p F0 H0 E D
abbrev SX (X : Cx) (st : Stmt) (g : FS) : Prop := PS X st (tS X.K g)
abbrev BX (X : Cx) (sts : List Stmt) (g : FS) : Prop := PSs X sts (tS X.K g)
/-- a target; is: the slots it stores -/
structure GX (X : Cx) (tg : Expr) (is : List Nat) (g : FG) : Prop where
  ex : ∃ gl, PG X tg gl ∧ ∀ p c ρ σ F H F0 H0 d v k kk, SSt X.K p c ρ σ F H F0 H0 → Rep X.K p F d v → g d ρ k →
    (∀ ρ' σ', SSt X.K p c ρ' σ' F H F0 H0 → σ'.length = σ.length → (∀ j, j ∉ is → σ'[j]? = σ[j]?) → k ρ' → kk σ' H) → gl v σ H kk
structure GsX (X : Cx) (tgs : List Expr) (is : List Nat) (g : FGs) : Prop where
  ex : ∃ gl, PGs X tgs gl ∧ ∀ p c ρ σ F H F0 H0 d v k kk, SSt X.K p c ρ σ F H F0 H0 → RepL X.K p F d v → g d ρ k →
    (∀ ρ' σ', SSt X.K p c ρ' σ' F H F0 H0 → σ'.length = σ.length → (∀ j, j ∉ is → σ'[j]? = σ[j]?) → k ρ' → kk σ' H) → gl v σ H kk
section
variable {X : Cx} {pos : Pos}
theorem gx_name (i : Nat) {x : Str} (hN : X.N.Nodup) (hi : X.N[i]? = some x := by rfl) (hx : Loc X.env.scope x := by first | exact Or.inl rfl | exact Or.inr rfl) (hf : X.fn x = true ∨ X.env.scope.names.lookup x = some .local := by first | exact .inl rfl | exact .inr rfl) : GX X (.Name x pos) [i] (gN i) :=
  ⟨gName i, pg_name hN hi hx hf, fun p c ρ σ F H F0 H0 d v k kk s r h q => q _ _ (s.set i r) (List.length_set ..) (fun j hj => List.getElem?_set_ne (fun e => hj (by simp [e]))) h⟩
theorem gsx_nil : GsX X [] [] gsNil := ⟨gNil, pgs_nil, fun p c ρ σ F H F0 H0 d v k kk s r h q => by
  unfold gsNil at h
  split at h
  · cases r
    exact ⟨rfl, q _ _ s rfl (fun _ _ => rfl) h⟩
  · exact h.elim⟩
theorem gsx_cons {e : Expr} {es : List Expr} {is js : List Nat} {g : FG} {gs : FGs} (h1 : GX X e is g) (h2 : GsX X es js gs)
    (hs : (assignEach (e :: es) X.env).map (·.2) = assign e X.env :: (assignEach es X.env).map (·.2) := by rfl) : GsX X (e :: es) (is ++ js) (gsCons g gs) := by
  obtain ⟨g1, p1, k1⟩ := h1.ex
  obtain ⟨g2, p2, k2⟩ := h2.ex
  refine ⟨gCons g1 g2, pgs_cons p1 p2 hs, fun p c ρ σ F H F0 H0 d v k kk s r h q => ?_⟩
  unfold gsCons at h
  split at h
  · rename_i d ds
    obtain ⟨x, xr, rfl, r1, r2⟩ := r
    refine ⟨x, xr, rfl, k1 p c ρ σ F H F0 H0 _ _ _ _ s r1 h fun ρ' σ' s' l1 e1 h' => ?_⟩
    refine k2 p c ρ' σ' F H F0 H0 _ _ _ _ s' r2 h' fun ρ2 σ2 s2 l2 e2 h2 => ?_
    exact q ρ2 σ2 s2 (l2.trans l1) (fun j hj => (e2 j fun z => hj (List.mem_append_right _ z)).trans (e1 j fun z => hj (List.mem_append_left _ z))) h2
  · exact h.elim
/-! ### statements -/
variable {st : Stmt} {rest : List Stmt} {e : Expr} {fe : FE} {g a b : FS}
theorem bx_nil : BX X [] sNil := PSs.imp pss_nil fun D σ H ⟨p, c, ρ, F, F0, H0, E, s, h, t⟩ => t.nx c ρ σ F H s h
theorem bx_cons (h1 : SX X st a) (h2 : BX X rest b) : BX X (st :: rest) (sSeq a b) := PSs.imp (pss_cons h1 h2) fun D σ H ⟨p, c, ρ, F, F0, H0, E, s, h, t⟩ =>
  ⟨p, c, ρ, F, F0, H0, _, s, h, fun c1 ρ1 σ1 F1 H1 s1 q => ⟨p, c1, ρ1, F1, F0, H0, E, s1, q, t⟩, t.bk, t.ct, t.rt⟩
theorem bx_one (h1 : SX X st a) : BX X [st] a := pss_one h1
theorem bx_never {sts : List Stmt} : BX X sts sNever := PSs.imp pss_never fun D σ H ⟨p, c, ρ, F, F0, H0, E, s, h, t⟩ => h.elim
theorem sx_never : SX X st sNever := PS.imp ps_never fun D σ H ⟨p, c, ρ, F, F0, H0, E, s, h, t⟩ => h.elim
theorem sx_pass : SX X (.Pass pos) sNil := PS.imp ps_pass fun D σ H ⟨p, c, ρ, F, F0, H0, E, s, h, t⟩ => t.nx c ρ σ F H s h
theorem sx_break : SX X (.Break pos) sBreak := PS.imp ps_break fun D σ H ⟨p, c, ρ, F, F0, H0, E, s, h, t⟩ => t.bk c ρ σ F H s h
theorem sx_cont : SX X (.Continue pos) sCont := PS.imp ps_continue fun D σ H ⟨p, c, ρ, F, F0, H0, E, s, h, t⟩ => t.ct c ρ σ F H s h
theorem sx_frz (i : Nat) (h : SX X st g) : SX X st (sFrz i g) := PS.imp h fun D σ H ⟨p, c, ρ, F, F0, H0, E, s, h, t⟩ =>
  let ⟨F', s'⟩ := s.frz i
  ⟨p, c, _, F', F0, H0, E, s', h, t⟩
theorem sx_asg {tg : Expr} {is : List Nat} {gg : FG} (he : EX X e fe) (hg : GX X tg is gg) (hs : swapsWithSole [tg] e pos.line X.env = pure false := by rfl) (hw : swappedStores [tg] e X.env = pure none := by rfl)
    (h1 : (assignEach [tg] X.env).map (·.2) = [assign tg X.env] := by rfl) : SX X (.Assign [tg] e pos) (sAsg gg fe) := by
  obtain ⟨gl, pg, kg⟩ := hg.ex
  refine PS.imp (ps_asg he pg hs hw h1) fun D σ H ⟨p, c, ρ, F, F0, H0, E, s, h, t⟩ => ⟨p, c, _, F, _, s.e, h, fun d c1 v F1 H1 w1 ok1 r1 q1 => ?_⟩
  exact kg p c1 ρ σ F1 H1 F0 H0 d v _ _ (s.fwd w1 ok1) r1 q1 fun ρ' σ' s' _ _ h' => t.nx c1 ρ' σ' F1 H1 s' h'
theorem sx_asgB {tg : Expr} {is : List Nat} {gg : FG} (he : EX X e fe) (hg : GX X tg is gg) (hs : swapsWithSole [tg] e pos.line X.env = pure false := by rfl) (hw : swappedStores [tg] e X.env = pure none := by rfl)
    (h1 : (assignEach [tg] X.env).map (·.2) = [assign tg X.env] := by rfl) : SX X (.Assign [tg] e pos) (sAsgB gg fe) := by
  obtain ⟨gl, pg, kg⟩ := hg.ex
  refine PS.imp (ps_asg he pg hs hw h1) fun D σ H ⟨p, c, ρ, F, F0, H0, E, s, h, t⟩ => ?_
  obtain ⟨F2, es, w2, k⟩ := s.lend
  refine ⟨p, c, _, F2, _, es, h, fun d c1 v F1 H1 w1 ok1 r1 q1 => ?_⟩
  obtain ⟨F3, s3, _, k1, _⟩ := k c1 F1 H1 w1 ok1
  exact kg p c1 ρ σ F3 H1 F0 H0 d v _ _ s3 (k1 d v q1.1 r1) q1.2 fun ρ' σ' s' _ _ h' => t.nx c1 ρ' σ' F3 H1 s' h'
theorem sx_expr (he : EX X e fe) (hs : swapsWith e none pos.line X.env = pure false := by rfl) : SX X (.Expr e pos) (sExpr fe) := PS.imp (ps_expr he hs) fun D σ H ⟨p, c, ρ, F, F0, H0, E, s, h, t⟩ => by
  obtain ⟨F2, es, w2, k⟩ := s.lend
  refine ⟨p, c, _, F2, _, es, h, fun d c1 v F1 H1 w1 ok1 r1 q1 => ?_⟩
  obtain ⟨F3, s3, _⟩ := k c1 F1 H1 w1 ok1
  exact t.nx c1 ρ σ F3 H1 s3 q1
theorem sx_ret (he : EX X e fe) : SX X (.Return (some e) pos) (sRet fe) := PS.imp (ps_ret he) fun D σ H ⟨p, c, ρ, F, F0, H0, E, s, h, t⟩ => by
  obtain ⟨F2, es, w2, k⟩ := s.lend
  exact ⟨p, c, _, F2, _, es, h, t.rt.fwd w2⟩
theorem sx_retN : SX X (.Return none pos) sRetN := PS.imp ps_retN fun D σ H ⟨p, c, ρ, F, F0, H0, E, s, h, t⟩ => t.rt .non c .non F H s.ent s.ok rfl h
theorem sx_if {cd : Expr} {sa sb : List Stmt} {f : FT} (hc : TX X cd f) (ha : BX X sa a) (hb : BX X sb b) : SX X (.If cd sa sb pos) (sIf f a b) := PS.imp (ps_if hc ha hb) fun D σ H ⟨p, c, ρ, F, F0, H0, E, s, h, t⟩ => by
  obtain ⟨F2, es, w2, k⟩ := s.lend
  refine ⟨p, c, _, F2, _, es, h, fun d c1 F1 H1 w1 ok1 q1 => ?_⟩
  obtain ⟨F3, s3, _⟩ := k c1 F1 H1 w1 ok1
  cases d with
  | true => exact ⟨p, c1, ρ, F3, F0, H0, E, s3, q1, t⟩
  | false => exact ⟨p, c1, ρ, F3, F0, H0, E, s3, q1, t⟩
theorem sx_aug (i : Nat) {x : Str} {op : Operator} {r : R2} {g : D → D → Nat → KD → Prop} {pos' : Pos} (ho : OpR X (inplaceOp op) r) (sp : OpS X.K r g) (he : EX X e fe) (hN : X.N.Nodup) (hi : X.N[i]? = some x := by rfl) (hx : Loc X.env.scope x := by first | exact Or.inl rfl | exact Or.inr rfl)
    (hf : X.fn x = true ∨ X.env.scope.names.lookup x = some .local := by first | exact .inl rfl | exact .inr rfl) : SX X (.AugAssign (.Name x pos') op e pos) (sAug i g fe) := PS.imp (ps_aug hN hi hx he (ti := r) ho hf) fun D σ H ⟨p, c, ρ, F, F0, H0, E, s, h, t⟩ => by
  unfold sAug at h
  split at h
  · rename_i x e
    obtain ⟨v, e1, r1⟩ := s.val i x e
    obtain ⟨F2, es, w2, k⟩ := s.lend
    refine ⟨v, e1, p, c, _, F2, _, es, h, fun y c1 u F1 H1 w1 ok1 r2 q1 => ?_⟩
    obtain ⟨F3, s3, w3, k1, _⟩ := k c1 F1 H1 w1 ok1
    refine sp p c1 F3 H1 x y v u _ _ s3.ok (r1.mono w3.frz) (k1 _ _ q1.1 r2) q1.2 fun z c4 v4 F4 H4 w4 ok4 r4 q4 => ?_
    exact t.nx c4 _ _ F4 H4 ((s3.fwd w4 ok4).set i r4) q4.2
  · exact h.elim
end
end L3

/-! L3, own lists, loops, comprehensions, defs. -/
namespace L3
open PySem PySem.Spec PyProof.Rows L2
/-! ### new lists -/
abbrev FL := Rho → Nat → (List D → Nat → Prop) → Prop
def tF (K : PySem.W.Frag) (f : FL) : TE := fun σ H Q => ∃ p c ρ F Q', ESt K p c ρ σ F H ∧ f ρ c Q' ∧
  ∀ l c' a xs F' H', Fwd p F H F' H' → Ok3 p c' F' H' → H a = none → F' a = none → p.pot ≠ some a → H' a = some (.lst xs) → RepL K p F' l xs → Q' l c' → Q (.ref a) H'
abbrev FX (X : Cx) (e : Expr) (f : FL) : Prop := PE X e (tF X.K f)
section
variable {K : PySem.W.Frag} {X : Cx} {e a b : Expr} {es : List Expr} {f : FL} {fa fb : FE} {fr : FA} {pos : Pos}
/-- one new list onto a state -/
theorem layL {p : Pn} {c : Nat} {F H F1 H1 : Hp} (w : Fwd p F H F1 H1) (ok : Ok3 p c F1 H1) {q : Addr} (nq : H1 q = none) (xs : List V) :
    Fwd p F H F1 (upd H1 q (.lst xs)) ∧ Ok3 p c F1 (upd H1 q (.lst xs)) ∧ H q = none ∧ F1 q = none ∧ p.pot ≠ some q := by
  have nF : F1 q = none := by
    cases e : F1 q with
    | none => rfl
    | some u => rw [ok.sub q u e] at nq; cases nq
  have np : p.pot ≠ some q := fun e => by
    obtain ⟨⟨x, y, z, h, _⟩, _⟩ := ok.pot q e
    rw [nq] at h; cases h
  refine ⟨⟨w.frz, fun b u h n t => ?_, w.new, fun b h => ?_⟩, ⟨fun b u h => ?_, fun b e => ?_, ok.tab.ext fun b u h => by rw [upd_ne (ne_of_none h nq)]; exact h, ok.nt⟩, w.there q nq, nF, np⟩
  · have := w.keep b u h n t
    rw [upd_ne (ne_of_none this nq)]; exact this
  · by_cases e : b = q
    · subst e; exact w.there _ nq
    · rw [upd_ne e] at h; exact w.there b h
  · rw [upd_ne (ne_of_none h nF)]; exact ok.sub b u h
  · obtain ⟨⟨x, y, z, h, r⟩, n⟩ := ok.pot b e
    exact ⟨⟨x, y, z, by rw [upd_ne (ne_of_none h nq)]; exact h, r⟩, n⟩
@[simp ↓] def fLst (fa : FA) : FL := fun ρ c Q => fa ρ c fun l c => l.length ≤ 16777216 ∧ Q l c
theorem fx_lst (h : AX X es fr) : FX X (.List es pos) (fLst fr) := PE.imp (pe_lst h) fun σ H Q ⟨p, c, ρ, F, Q', es, h, t⟩ =>
  ⟨p, c, ρ, F, _, es, h, fun l c1 vs F1 H1 w1 ok1 r1 q1 => ⟨by rw [line16, r1.len]; exact q1.1, fun q nq => by
    obtain ⟨w, ok, n1, n2, n3⟩ := layL w1 ok1 nq vs
    exact t l c1 q vs F1 _ w ok n1 n2 n3 upd_same r1 q1.2⟩⟩
/-- list(e) -/
@[simp ↓] def fList (fa : FE) : FL := fun ρ c Q => fa ρ c fun x c => match x with
  | .lst l => Q l c
  | .tup l => Q l c
  | _ => False
theorem fx_list {x : Str} {p : Pos} (hm : X.mg x = none) (hv : bootBuiltins x = some (.type "list")) (ha : EX X e fa) (hg : Gl X x := by rfl) (hn : x ≠ "__name__" := by decide) (hdb : (x == ("__debug__" : Str)) = false := by decide)
    (hs : starEach [e] X.env = (false, eval e X.env) :: starEach [] X.env := by rfl) : FX X (.Call (.Name x p) [e] [] pos) (fList fa) := PE.imp (pe_callTy call_list_of hg hm hv (pa_cons ha pa_nil hs) hn hdb hs rfl) fun σ H Q ⟨p, c, ρ, F, Q', es, h, t⟩ =>
  ⟨p, c, ρ, F, _, es, h, fun d c1 v F1 H1 w1 ok1 r1 q1 => by
    split at q1
    · obtain ⟨b, xs, rfl, h1, rl⟩ := r1
      exact ⟨b, xs, rfl, .inl (.of (ok1.sub _ _ h1)), fun q nq => by
        obtain ⟨w, ok, n1, n2, n3⟩ := layL w1 ok1 nq xs
        exact t _ c1 q xs F1 _ w ok n1 n2 n3 upd_same rl q1⟩
    · obtain ⟨b, xs, rfl, h1, rl⟩ := r1
      exact ⟨b, xs, rfl, .inr (ok1.sqT h1), fun q nq => by
        obtain ⟨w, ok, n1, n2, n3⟩ := layL w1 ok1 nq xs
        exact t _ c1 q xs F1 _ w ok n1 n2 n3 upd_same rl q1⟩
    · exact q1.elim⟩
/-- a + b, lists -/
@[simp ↓] def fCat (fa fb : FE) : FL := fun ρ c Q => fa ρ c fun x c => fb ρ c fun y c => match x, y with
  | .lst l, .lst m => l.length + m.length ≤ 16777216 ∧ Q (l ++ m) c
  | _, _ => False
theorem fx_cat (ha : EX X a fa) (hb : EX X b fb) : FX X (.BinOp a .Add b pos) (fCat fa fb) := PE.imp (pe_op op_cat ha hb) fun σ H Q ⟨p, c, ρ, F, Q', es, h, t⟩ =>
  ⟨p, c, ρ, F, _, es, h, fun x c1 v F1 H1 w1 ok1 r1 q1 => ⟨p, c1, ρ, F1, _, es.fwd w1 ok1, q1, fun y c2 u F2 H2 w2 ok2 r2 q2 => by
    split at q2
    · obtain ⟨b, xs, rfl, h1, rl⟩ := r1.mono w2.frz
      obtain ⟨b', ys, rfl, h2, rl'⟩ := r2
      exact ⟨b, b', xs, ys, rfl, rfl, ok2.sub _ _ h1, ok2.sub _ _ h2, by rw [line16, rl.len, rl'.len]; exact q2.1, fun q nq => by
        obtain ⟨w, ok, n1, n2, n3⟩ := layL (w1.trans w2) ok2 nq (xs ++ ys)
        exact t _ c2 q _ F2 _ w ok n1 n2 n3 upd_same (rl.app rl') q2.2⟩
    · exact q2.elim⟩⟩
/-- e[lo:hi], a list -/
@[simp ↓] def fSl (fe : FE) (lo hi : FO) : FL := fun ρ c Q => fe ρ c fun x c => lo ρ c fun a c => hi ρ c fun b c => match x with | .lst l => Q (cutD l a b) c | _ => False
theorem fx_sl {p2 : Pos} {lo hi : Option Expr} {fl fh : FO} (ha : EX X e fa) (hl : OX X lo fl) (hh : OX X hi fh) : FX X (.Subscript e (.Slice lo hi none p2) pos) (fSl fa fl fh) := by
  obtain ⟨tl, pl, kl⟩ := hl.ex
  obtain ⟨th, ph, kh⟩ := hh.ex
  refine PE.imp (pe_slice sl_list ha pl ph) fun σ H Q ⟨p, c, ρ, F, Q', es, h, t⟩ => ⟨p, c, ρ, F, _, es, h, fun x c1 v F1 H1 w1 ok1 r1 q1 => ?_⟩
  refine kl σ H1 p c1 ρ F1 _ _ (es.fwd w1 ok1) q1 fun i c2 F2 H2 w2 ok2 q2 => ?_
  have w12 := w1.trans w2
  refine kh σ H2 p c2 ρ F2 _ _ (es.fwd w12 ok2) q2 fun j c3 F3 H3 w3 ok3 q3 => ?_
  have w13 := w12.trans w3
  have r3 := (r1.mono w2.frz).mono w3.frz
  split at q3
  · obtain ⟨b, xs, rfl, h1, rl⟩ := r3
    exact ⟨b, xs, rfl, .of (ok3.sub _ _ h1), fun q nq => by
      obtain ⟨w, ok, n1, n2, n3⟩ := layL w13 ok3 nq (cutV xs i j)
      exact t _ c3 q _ F3 _ w ok n1 n2 n3 upd_same (rl.cut i j) q3⟩
  · exact q3.elim
/-- a new list as a value -/
theorem fx_ex {g : FE} (h : FX X e f) (hg : ∀ ρ c Q, g ρ c Q → f ρ c fun l c => Q (.lst l) c) : EX X e g := PE.imp h fun σ H Q ⟨p, c, ρ, F, Q', es, h, t⟩ =>
  ⟨p, c, ρ, F, _, es, hg _ _ _ h, fun l c1 a xs F1 H1 w1 ok1 n1 n2 n3 h1 r1 q1 => by
    have up : ∀ b u, F1 b = some u → upd F1 a (.lst xs) b = some u := fun b u h => by rw [upd_ne (ne_of_none h n2)]; exact h
    refine t (.lst l) c1 (.ref a) (upd F1 a (.lst xs)) H1 ⟨fun b u h => up b u (w1.frz b u h), w1.keep, fun b u h => ?_, w1.there⟩ ⟨fun b u h => ?_, fun b e => ?_, ok1.tab, nt_upd ok1.nt a xs n2⟩ ⟨a, xs, rfl, upd_same, r1.mono up⟩ q1
    · by_cases e : b = a
      · subst e; exact .inr (.inl n1)
      · rw [upd_ne e] at h; exact w1.new b u h
    · by_cases e : b = a
      · subst e; rw [upd_same] at h; cases h; exact h1
      · rw [upd_ne e] at h; exact ok1.sub b u h
    · obtain ⟨z, n⟩ := ok1.pot b e
      have ne : b ≠ a := fun z => n3 (z ▸ e)
      exact ⟨z, by rw [upd_ne ne]; exact n⟩⟩
/-- x = a new list -/
@[simp ↓] def sOwnF (i : Nat) (f : FL) : FS := fun E ρ c => f (ρ.map vA) c fun l c => E.nx (ρ.set i (.own l)) c
@[simp ↓] def sOwnFB (i : Nat) (f : FL) : FS := fun E ρ c => f (ρ.map vB) c fun l c => noLstL l = true ∧ E.nx (ρ.set i (.own l)) c
theorem sx_own (i : Nat) {x : Str} {px : Pos} (h : FX X e f) (hN : X.N.Nodup) (hi : X.N[i]? = some x := by rfl) (hx : Loc X.env.scope x := by first | exact Or.inl rfl | exact Or.inr rfl) (hs : swapsWith e (some (.Name x px)) pos.line X.env = pure false := by rfl)
    (hf : X.fn x = true ∨ X.env.scope.names.lookup x = some .local := by first | exact .inl rfl | exact .inr rfl) : SX X (.Assign [.Name x px] e pos) (sOwnF i f) := PS.imp (ps_set hN hi hx h hs hf) fun D σ H ⟨p, c, ρ, F, F0, H0, E, s, h, t⟩ => ⟨p, c, _, F, _, s.e, h, fun l c1 a xs F1 H1 w1 ok1 n1 n2 n3 h1 r1 q1 => by
  refine t.nx c1 _ _ F1 H1 ((s.fwd w1 ok1).setOwn i h1 n2 (s.ent.there a n1) n3 r1 fun j m e1 e2 => ?_) q1
  obtain ⟨b, ys, g1, g2, _⟩ := s.own j m e1
  rw [e2] at g1
  cases g1
  rw [n1] at g2
  cases g2⟩
theorem sx_ownB (i : Nat) {x : Str} {px : Pos} (h : FX X e f) (hN : X.N.Nodup) (hi : X.N[i]? = some x := by rfl) (hx : Loc X.env.scope x := by first | exact Or.inl rfl | exact Or.inr rfl) (hs : swapsWith e (some (.Name x px)) pos.line X.env = pure false := by rfl)
    (hf : X.fn x = true ∨ X.env.scope.names.lookup x = some .local := by first | exact .inl rfl | exact .inr rfl) : SX X (.Assign [.Name x px] e pos) (sOwnFB i f) := PS.imp (ps_set hN hi hx h hs hf) fun D σ H ⟨p, c, ρ, F, F0, H0, E, s, h, t⟩ => by
  obtain ⟨F2, es, w2, k⟩ := s.lend
  refine ⟨p, c, _, F2, _, es, h, fun l c1 a xs F1 H1 w1 ok1 n1 n2 n3 h1 r1 q1 => ?_⟩
  obtain ⟨F3, s3, w3, _, k2, k3⟩ := k c1 F1 H1 w1 ok1
  have n4 : F3 a = none := k3 a n2
  refine t.nx c1 _ _ F3 H1 (s3.setOwn i h1 n4 (s.ent.there a n1) n3 (k2 l xs q1.1 r1) fun j m e1 e2 => ?_) q1.2
  obtain ⟨b, ys, g1, g2, _⟩ := s.own j m e1
  rw [e2] at g1
  cases g1
  rw [n1] at g2
  cases g2
end

/-! ### append; loops -/
theorem RepL.single {K : PySem.W.Frag} {p : Pn} {F : Hp} {d : D} {v : V} (h : Rep K p F d v) : RepL K p F [d] [v] := ⟨v, [], rfl, h, rfl⟩
theorem Fwd.unfloor {p : Pn} {F0 H0 F1 H1 F H : Hp} (a : Fwd p F1 H0 F H) (w : Fwd p F0 H0 F1 H1) : Fwd p F0 H0 F H := ⟨fun b o h => a.frz b o (w.frz b o h), a.keep, fun b o h => by
  rcases a.new b o h with z | z
  · exact w.new b o z
  · exact .inr z, a.there⟩
theorem Fwd.floor {p : Pn} {F0 H0 F1 H1 F H : Hp} (a : Fwd p F0 H0 F H) (w : Fwd p F0 H0 F1 H1) (up : ∀ b o, F1 b = some o → F b = some o) : Fwd p F1 H0 F H := ⟨up, a.keep, fun b o h => by
  rcases a.new b o h with z | z
  · exact .inl (w.frz b o z)
  · exact .inr z, a.there⟩
theorem SSt.floor {K : PySem.W.Frag} {p : Pn} {c : Nat} {ρ : Env3} {σ : L2.St} {F0 H0 F1 H1 F H : Hp} (s : SSt K p c ρ σ F H F0 H0) (w : Fwd p F0 H0 F1 H1) (up : ∀ b o, F1 b = some o → F b = some o) : SSt K p c ρ σ F H F1 H0 :=
  ⟨s.ok, s.ent.floor w up, s.len, s.val, s.own, s.sep, s.dic, s.sepd⟩
theorem SSt.unfloor {K : PySem.W.Frag} {p : Pn} {c : Nat} {ρ : Env3} {σ : L2.St} {F0 H0 F1 H1 F H : Hp} (s : SSt K p c ρ σ F H F1 H0) (w : Fwd p F0 H0 F1 H1) : SSt K p c ρ σ F H F0 H0 :=
  ⟨s.ok, s.ent.unfloor w, s.len, s.val, s.own, s.sep, s.dic, s.sepd⟩
section
variable {K : PySem.W.Frag} {X : Cx} {e a b : Expr} {es : List Expr} {fa fb : FE} {fr : FA} {pos apos : Pos} {g : FS}
theorem sx_app (i : Nat) (h : PE X e (tBM X.K "list" rAppend (tVar i) (tCons (tE X.K fa) tNil))) (hsw : swapsWith e none pos.line X.env = pure false := by rfl) : SX X (.Expr e pos) (sApp i fa) :=
  PS.imp (ps_expr h hsw) fun D σ H ⟨p, c, ρ, F, F0, H0, E, s, h, t⟩ => by
  unfold sApp at h
  split at h
  · rename_i l hi
    obtain ⟨a, xs, e1, e2, e3, e4, e5, r0⟩ := s.own i l hi
    refine ⟨_, e1, .inl ⟨rfl, _, .inl (.inl e2)⟩, p, c, _, F, _, s.e, h, fun d c1 v F1 H1 w1 ok1 r1 q1 => ?_⟩
    have s1 := s.fwd w1 ok1
    obtain ⟨a', xs', g1, g2, g3, g4, g5, r0'⟩ := s1.own i l hi
    rw [e1] at g1
    cases g1
    refine ⟨a, xs', v, rfl, rfl, g2, by rw [r0'.len, line16]; exact q1.1, t.nx c1 _ _ F1 _ (s1.put hi e1 (r0'.app (RepL.single r1))) q1.2⟩
  · exact h.elim
theorem sx_appB (i : Nat) (h : PE X e (tBM X.K "list" rAppend (tVar i) (tCons (tE X.K fa) tNil))) (hsw : swapsWith e none pos.line X.env = pure false := by rfl) : SX X (.Expr e pos) (sAppB i fa) :=
  PS.imp (ps_expr h hsw) fun D σ H ⟨p, c, ρ, F, F0, H0, E, s, h, t⟩ => by
  unfold sAppB at h
  split at h
  · rename_i l hi
    obtain ⟨a, xs, e1, e2, e3, e4, e5, r0⟩ := s.own i l hi
    obtain ⟨F2, es, w2, k⟩ := s.lend
    refine ⟨_, e1, .inl ⟨rfl, _, .inl (.inl e2)⟩, p, c, _, F2, _, es, h, fun d c1 v F1 H1 w1 ok1 r1 q1 => ?_⟩
    obtain ⟨F3, s1, w3, k1, _⟩ := k c1 F1 H1 w1 ok1
    obtain ⟨a', xs', g1, g2, g3, g4, g5, r0'⟩ := s1.own i l hi
    rw [e1] at g1
    cases g1
    refine ⟨a, xs', v, rfl, rfl, g2, by rw [r0'.len, line16]; exact q1.2.1, t.nx c1 _ _ F3 _ (s1.put hi e1 (r0'.app (RepL.single (k1 _ _ q1.1 r1)))) q1.2.2⟩
  · exact h.elim
/-- a, b = x, y -/
@[simp ↓] def sPar (i j : Nat) (fr : FA) : FS := fun E ρ c => fr (ρ.map vA) c fun l c => match l with | [x, y] => E.nx ((ρ.set i (.val x)).set j (.val y)) c | _ => False
@[simp ↓] def sParB (i j : Nat) (fr : FA) : FS := fun E ρ c => fr (ρ.map vB) c fun l c => noLstL l = true ∧ match l with | [x, y] => E.nx ((ρ.set i (.val x)).set j (.val y)) c | _ => False
theorem sx_par {i j : Nat} {x y : Str} {px py pt : Pos} {kt k2 pt2} (hc : X.calm = true) (hN : X.N.Nodup) (ha : AX X [a, b] fr) (hij : i ≠ j := by decide) (hi : X.N[i]? = some x := by rfl) (hj : X.N[j]? = some y := by rfl)
    (hx : X.env.scope.names.lookup x = some .local := by rfl) (hy : X.env.scope.names.lookup y = some .local := by rfl) (hw : swappedStores [.Tuple [.Name x px, .Name y py] kt pt] (.Tuple [a, b] k2 pt2) X.env = pure (some [x, y]) := by rfl)
    (hs : swapsWithSole [.Tuple [.Name x px, .Name y py] kt pt] (.Tuple [a, b] k2 pt2) pos.line X.env = pure false := by rfl) :
    SX X (.Assign [.Tuple [.Name x px, .Name y py] kt pt] (.Tuple [a, b] k2 pt2) pos) (sPar i j fr) := by
  refine PS.imp (ps_par hc hN hi hj hij hx hy ha hw hs) fun D σ H ⟨p, c, ρ, F, F0, H0, E, s, h, t⟩ => ⟨p, c, _, F, _, s.e, h, fun l c1 vs F1 H1 w1 ok1 r1 q1 => ?_⟩
  split at q1
  · obtain ⟨v, u, rfl, r1, r2⟩ := r1.two
    exact ⟨v, u, rfl, t.nx c1 _ _ F1 H1 (((s.fwd w1 ok1).set i r1).set j r2) q1⟩
  · exact q1.elim
theorem sx_parB {i j : Nat} {x y : Str} {px py pt : Pos} {kt k2 pt2} (hc : X.calm = true) (hN : X.N.Nodup) (ha : AX X [a, b] fr) (hij : i ≠ j := by decide) (hi : X.N[i]? = some x := by rfl) (hj : X.N[j]? = some y := by rfl)
    (hx : X.env.scope.names.lookup x = some .local := by rfl) (hy : X.env.scope.names.lookup y = some .local := by rfl) (hw : swappedStores [.Tuple [.Name x px, .Name y py] kt pt] (.Tuple [a, b] k2 pt2) X.env = pure (some [x, y]) := by rfl)
    (hs : swapsWithSole [.Tuple [.Name x px, .Name y py] kt pt] (.Tuple [a, b] k2 pt2) pos.line X.env = pure false := by rfl) :
    SX X (.Assign [.Tuple [.Name x px, .Name y py] kt pt] (.Tuple [a, b] k2 pt2) pos) (sParB i j fr) := by
  refine PS.imp (ps_par hc hN hi hj hij hx hy ha hw hs) fun D σ H ⟨p, c, ρ, F, F0, H0, E, s, h, t⟩ => ?_
  obtain ⟨F2, es, w2, k⟩ := s.lend
  refine ⟨p, c, _, F2, _, es, h, fun l c1 vs F1 H1 w1 ok1 r1 q1 => ?_⟩
  obtain ⟨F3, s3, w3, k1, k2, _⟩ := k c1 F1 H1 w1 ok1
  have r3 := k2 _ _ q1.1 r1
  have q2 := q1.2
  split at q2
  · obtain ⟨v, u, rfl, r1, r2⟩ := r3.two
    exact ⟨v, u, rfl, t.nx c1 _ _ F3 H1 ((s3.set i r1).set j r2) q2⟩
  · exact q2.elim
/-- what a loop walks: items told -/
def Walks3 (K : PySem.W.Frag) (p : Pn) (J : It) (items : List D) (F1 : Hp) : Prop := items.length ≤ 16777216 ∧ ∀ (i : Nat) (F H : Hp) (c : Nat), (∀ b o, F1 b = some o → F b = some o) → Ok3 p c F H →
  (i < items.length → J.go i H ∧ ∀ x H', J.yld i H x H' → ∃ F' d, items[i]? = some d ∧ Fwd p F H F' H' ∧ Ok3 p c F' H' ∧ Rep K p F' d x) ∧ (i = items.length → J.stop i H)
structure IX (X : Cx) (tg iter : Expr) (fi : FI) : Prop where
  ex : ∃ wi, PI X tg iter wi ∧ ∀ σ H p c ρ F Q' R, ESt X.K p c ρ σ F H → fi ρ c Q' → (∀ items c' F' H' J, Fwd p F H F' H' → Ok3 p c' F' H' → Walks3 X.K p J items F' → Q' items c' → R J H') → wi σ H R
variable {tg : Expr}
theorem walks_list {p : Pn} {a : Addr} {xs : List V} {l : List D} {F1 : Hp} (h : F1 a = some (.lst xs)) (r : RepL K p F1 l xs) (hl : l.length ≤ 16777216) : Walks3 K p (Itl K a) l F1 := ⟨hl, fun i F H c up ok => by
  have hH : SqL K H a xs := .of (ok.sub _ _ (up _ _ h))
  refine ⟨fun hi => ⟨⟨xs, xs[i]'(by rw [r.len]; exact hi), hH, List.getElem?_eq_getElem _⟩, fun x H' y => ?_⟩, fun hi => ⟨xs, hH, by rw [r.len]; exact Nat.le_of_eq hi.symm⟩⟩
  obtain ⟨rfl, y⟩ := y
  obtain ⟨d, e1, e2⟩ := r.back (y xs hH)
  exact ⟨F, d, e1, .refl .., ok, e2.mono up⟩⟩
theorem walks_tup {p : Pn} {a : Addr} {xs : List V} {l : List D} {F1 : Hp} (h : SqT K F1 a xs) (r : RepL K p F1 l xs) (hl : l.length ≤ 16777216) : Walks3 K p (Itt K a) l F1 := ⟨hl, fun i F H c up ok => by
  have hH : SqT K H a xs := ok.sqT (Sub.sqT up h)
  refine ⟨fun hi => ⟨⟨xs, xs[i]'(by rw [r.len]; exact hi), hH, List.getElem?_eq_getElem _⟩, fun x H' y => ?_⟩, fun hi => ⟨xs, hH, by rw [r.len]; exact Nat.le_of_eq hi.symm⟩⟩
  obtain ⟨rfl, y⟩ := y
  obtain ⟨d, e1, e2⟩ := r.back (y xs hH)
  exact ⟨F, d, e1, .refl .., ok, e2.mono up⟩⟩
theorem range_get (lo : Int) (n i : Nat) (h : i < n) : (rangeL lo n)[i]? = some (.int (lo + (i : Nat))) := by
  unfold rangeL
  rw [List.getElem?_map, List.getElem?_range h]
  rfl
theorem range_len (lo : Int) (n : Nat) : (rangeL lo n).length = n := by
  unfold rangeL
  rw [List.length_map, List.length_range]
theorem walks_range {p : Pn} {lo : Int} {n : Nat} {F1 : Hp} (hl : n ≤ 16777216) : Walks3 K p (Itr lo n) (rangeL lo n) F1 := ⟨by rw [range_len]; exact hl, fun i F H c up ok => by
  rw [range_len]
  refine ⟨fun hi => ⟨hi, fun x H' y => ?_⟩, fun hi => Nat.le_of_eq hi.symm⟩
  obtain ⟨rfl, rfl⟩ := y
  exact ⟨F, _, range_get lo n i hi, .refl .., ok, rfl⟩⟩
/-- what is walked is a list's, a tuple's length at most -/
def iL (fe : FE) : FI := fun ρ c Q => fe ρ c fun x c => match x with
  | .lst l => l.length ≤ 16777216 ∧ Q l c
  | _ => False
def iT (fe : FE) : FI := fun ρ c Q => fe ρ c fun x c => match x with
  | .tup l => l.length ≤ 16777216 ∧ Q l c
  | _ => False
theorem ix_lst (h : EX X e fa) : IX X tg e (iL fa) := ⟨_, pi_list h, fun σ H p c ρ F Q' R es h k => ⟨p, c, ρ, F, _, es, h, fun x c1 v F1 H1 w1 ok1 r1 q1 => by
  split at q1
  · obtain ⟨a, xs, rfl, h1, rl⟩ := r1
    exact ⟨a, rfl, ⟨xs, .of (ok1.sub _ _ h1)⟩, k _ c1 F1 H1 _ w1 ok1 (walks_list h1 rl q1.1) q1.2⟩
  · exact q1.elim⟩⟩
theorem ix_tupl (h : EX X e fa) : IX X tg e (iT fa) := ⟨_, pi_tup h, fun σ H p c ρ F Q' R es h k => ⟨p, c, ρ, F, _, es, h, fun x c1 v F1 H1 w1 ok1 r1 q1 => by
  split at q1
  · obtain ⟨a, xs, rfl, h1, rl⟩ := r1
    exact ⟨a, rfl, ⟨xs, ok1.sqT h1⟩, k _ c1 F1 H1 _ w1 ok1 (walks_tup h1 rl q1.1) q1.2⟩
  · exact q1.elim⟩⟩
theorem ix_range1 {a : Expr} {p' pos : Pos} (hm : X.mg "range" = none) (ha : AX X [a] fr) (hg : Gl X "range" := by rfl) (hs : starEach [a] X.env = [(false, eval a X.env)] := by rfl) : IX X tg (.Call (.Name "range" p') [a] [] pos) (iR1 fr) :=
  ⟨_, pi_range1 hg hm ha hs, fun σ H p c ρ F Q' R es h k => ⟨p, c, ρ, F, _, es, h, fun l c1 vs F1 H1 w1 ok1 r1 q1 => by
  split at q1
  · rename_i j
    exact ⟨j, r1.int1, q1.1.1, by omega, k _ c1 F1 H1 _ w1 ok1 (walks_range (by omega)) q1.2⟩
  · exact q1.elim⟩⟩
theorem ix_range2 {a b : Expr} {p' pos : Pos} (hm : X.mg "range" = none) (ha : AX X [a, b] fr) (hg : Gl X "range" := by rfl) (hs : starEach [a, b] X.env = [(false, eval a X.env), (false, eval b X.env)] := by rfl) (hs2 : starEach [b] X.env = [(false, eval b X.env)] := by rfl) : IX X tg (.Call (.Name "range" p') [a, b] [] pos) (iR2 fr) :=
  ⟨_, pi_range2 hg hm ha hs hs2, fun σ H p c ρ F Q' R es h k => ⟨p, c, ρ, F, _, es, h, fun l c1 vs F1 H1 w1 ok1 r1 q1 => by
  split at q1
  · rename_i i j
    exact ⟨i, j, r1.int2, ⟨by omega, by omega, by omega, by omega⟩, k _ c1 F1 H1 _ w1 ok1 (walks_range (by omega)) q1.2⟩
  · exact q1.elim⟩⟩
theorem sx_for {iter : Expr} {body : List Stmt} {fi : FI} {gg : FG} {is : List Nat} (hp : PassesOwn (model X.prog X.w) X.A X.env X.xe) (hc : X.calm = true) (hi : IX X tg iter fi) (hg : GX X tg is gg) (hb : BX X body g) (hs : ∀ x, foldedSetIterable iter X.env x = pure x := by intro _; rfl) :
    SX X (.For tg iter body [] pos) (sFor fi gg g) := by
  obtain ⟨wi, pi, ki⟩ := hi.ex
  obtain ⟨gl, pg, kg⟩ := hg.ex
  refine PS.imp (ps_for hp hc pi pg hb hs) fun D σ H ⟨p, c, ρ, F, F0, H0, E, s, h, t⟩ => ki σ H p c _ F _ _ s.e h fun items c1 F1 H1 J w1 ok1 wk q1 => ?_
  have wf := s.ent.trans w1
  refine ⟨fun i m σ H => m = items.length - i ∧ i ≤ items.length ∧ ∃ c ρ F, SSt X.K p c ρ σ F H F1 H0 ∧ forL gg g E (items.drop i) ρ c, ⟨items.length, rfl, Nat.zero_le _, c1, ρ, F1, (s.fwd w1 ok1).floor wf (fun _ _ h => h), q1⟩, fun i m σ H ⟨em, hi, c, ρ, F, s, h⟩ => ?_⟩
  obtain ⟨go, stop⟩ := wk.2 i F H c s.ent.frz s.ok
  by_cases hlt : i < items.length
  · obtain ⟨hgo, hy⟩ := go hlt
    refine .inr ⟨hgo, fun σ' H' => ∃ c ρ F, SSt X.K p c ρ σ' F H' F1 H0 ∧ forL gg g E (items.drop (i + 1)) ρ c, fun σ' H' ⟨c', ρ', F', s', h'⟩ => ⟨items.length - (i + 1), by omega, rfl, hlt, c', ρ', F', s', h'⟩, fun x H' y => ?_⟩
    obtain ⟨F', d, e1, w', ok', r'⟩ := hy x H' y
    have ed : items.drop i = d :: items.drop (i + 1) := by
      rw [List.drop_eq_getElem_cons hlt]
      rw [List.getElem?_eq_getElem hlt] at e1
      rw [Option.some.inj e1]
    rw [ed] at h
    refine kg p c ρ σ F' H' F1 H0 d x _ _ (s.fwd w' ok') r' h fun ρ2 σ2 s2 _ _ h2 => ?_
    exact ⟨p, c, ρ2, F', F1, H0, _, s2, h2, fun c ρ σ F H s q => ⟨c, ρ, F, s, q⟩, fun c ρ σ F H s q => t.nx c ρ σ F H (s.unfloor wf) q, fun c ρ σ F H s q => ⟨c, ρ, F, s, q⟩,
      fun d c' v F' H' w ok r q => t.rt d c' v F' H' (w.unfloor wf) ok r q⟩
  · have ei : items.drop i = [] := List.drop_eq_nil_of_le (by omega)
    rw [ei] at h
    exact .inl ⟨stop (by omega), t.nx c ρ σ F H (s.unfloor wf) h⟩
theorem sx_while {cd : Expr} {body : List Stmt} {f : FT} (hp : PassesOwn (model X.prog X.w) X.A X.env X.xe) (hc : TX X cd f) (hb : BX X body g) : SX X (.While cd body [] pos) (sWhile f g) := by
  refine PS.imp (ps_while hp hc hb) fun D σ H ⟨p, c, ρ, F, F0, H0, E, s, ⟨n, h⟩, t⟩ => ?_
  refine ⟨fun m σ H => ∃ c ρ F, SSt X.K p c ρ σ F H F0 H0 ∧ whileN f g E m ρ c, ⟨n, c, ρ, F, s, h⟩, fun m σ H ⟨c, ρ, F, s, h⟩ => ?_⟩
  cases m with
  | zero => exact h.elim
  | succ m =>
    obtain ⟨F2, es, w2, k⟩ := s.lend
    refine ⟨p, c, _, F2, _, es, h, fun b c1 F1 H1 w1 ok1 q1 => ?_⟩
    obtain ⟨F3, s3, _⟩ := k c1 F1 H1 w1 ok1
    cases b with
    | true => exact ⟨fun σ' H' => ∃ c ρ F, SSt X.K p c ρ σ' F H' F0 H0 ∧ whileN f g E m ρ c, fun σ' H' ⟨c, ρ, F, s, h⟩ => ⟨m, Nat.lt_succ_self m, c, ρ, F, s, h⟩,
        p, c1, ρ, F3, F0, H0, _, s3, q1, fun c ρ σ F H s q => ⟨c, ρ, F, s, q⟩, fun c ρ σ F H s q => t.nx c ρ σ F H s q, fun c ρ σ F H s q => ⟨c, ρ, F, s, q⟩, t.rt⟩
    | false => exact t.nx c1 ρ σ F3 H1 s3 q1
end
/-! ### a list comprehension -/
/-- a target's reading over the heap -/
structure KG (K : PySem.W.Frag) (is : List Nat) (gg : FG) (gl : TG) : Prop where
  k : ∀ p c ρ σ F H F0 H0 d v k kk, SSt K p c ρ σ F H F0 H0 → Rep K p F d v → gg d ρ k → (∀ ρ' σ', SSt K p c ρ' σ' F H F0 H0 → σ'.length = σ.length → (∀ j, j ∉ is → σ'[j]? = σ[j]?) → k ρ' → kk σ' H) → gl v σ H kk
structure KGs (K : PySem.W.Frag) (is : List Nat) (gg : FGs) (gl : TGs) : Prop where
  k : ∀ p c ρ σ F H F0 H0 d v k kk, SSt K p c ρ σ F H F0 H0 → RepL K p F d v → gg d ρ k → (∀ ρ' σ', SSt K p c ρ' σ' F H F0 H0 → σ'.length = σ.length → (∀ j, j ∉ is → σ'[j]? = σ[j]?) → k ρ' → kk σ' H) → gl v σ H kk
structure KT3 (K : PySem.W.Frag) (ft : FT) (t : TT) : Prop where
  k : ∀ σ H p c ρ F Q' Q, ESt K p c ρ σ F H → ft ρ c Q' → TellB p F H Q' Q → t σ H Q
theorem kt_nil {K : PySem.W.Frag} : KT3 K tYes3 tYes := ⟨fun σ H p c ρ F Q' Q es h t => t true c F H (.refl ..) es.ok h⟩
theorem kt_one {K : PySem.W.Frag} {f : FT} : KT3 K f (tTs K f) := ⟨fun σ H p c ρ F Q' Q es h t => ⟨p, c, ρ, F, Q', es, h, t⟩⟩
theorem kg_name {K : PySem.W.Frag} (i : Nat) : KG K [i] (gN i) (gName i) := ⟨fun p c ρ σ F H F0 H0 d v k kk s r h q => q _ _ (s.set i r) (List.length_set ..) (fun j hj => List.getElem?_set_ne (fun e => hj (by simp [e]))) h⟩
theorem kgs_nil {K : PySem.W.Frag} : KGs K [] gsNil gNil := ⟨fun p c ρ σ F H F0 H0 d v k kk s r h q => by
  unfold gsNil at h
  split at h
  · cases r
    exact ⟨rfl, q _ _ s rfl (fun _ _ => rfl) h⟩
  · exact h.elim⟩
theorem kgs_cons {K : PySem.W.Frag} {is js : List Nat} {g : FG} {gs : FGs} {gl : TG} {gls : TGs} (h1 : KG K is g gl) (h2 : KGs K js gs gls) : KGs K (is ++ js) (gsCons g gs) (gCons gl gls) := ⟨fun p c ρ σ F H F0 H0 d v k kk s r h q => by
  unfold gsCons at h
  split at h
  · rename_i d ds
    obtain ⟨x, xr, rfl, r1, r2⟩ := r
    refine ⟨x, xr, rfl, h1.k p c ρ σ F H F0 H0 _ _ _ _ s r1 h fun ρ' σ' s' l1 e1 h' => ?_⟩
    refine h2.k p c ρ' σ' F H F0 H0 _ _ _ _ s' r2 h' fun ρ2 σ2 s2 l2 e2 h2 => ?_
    exact q ρ2 σ2 s2 (l2.trans l1) (fun j hj => (e2 j fun z => hj (List.mem_append_right _ z)).trans (e1 j fun z => hj (List.mem_append_left _ z))) h2
  · exact h.elim⟩
theorem kg_tup {K : PySem.W.Frag} {is : List Nat} {gs : FGs} {gls : TGs} {n : Nat} (h1 : KGs K is gs gls) : KG K is (gT n gs) (gTup K n gls) := ⟨fun p c ρ σ F H F0 H0 d v k kk s r h q => by
  unfold gT at h
  split at h
  · obtain ⟨a, xs, rfl, e1, r1⟩ := r
    exact ⟨a, xs, rfl, s.ok.sqT e1, by rw [r1.len]; exact h.1, h1.k p c ρ σ F H F0 H0 _ _ _ _ s r1 h.2 q⟩
  · exact h.elim⟩
theorem gx_of {X : Cx} {tg : Expr} {is : List Nat} {g : FG} {gl : TG} (pg : PG X tg gl) (kg : KG X.K is g gl) : GX X tg is g := ⟨gl, pg, kg.k⟩
section
variable {X : Cx} {pos : Pos} {elt tg iter : Expr} {ifs : List Expr} {scope : Scope} {own : List (Str × Nat)} {fi : FI} {gg : FG} {is : List Nat} {fe : FE} {ft : FT}
structure PX (X : Cx) (ifs : List Expr) (f : FT) : Prop where
  ex : ∃ t, PTs X ifs t ∧ ∀ σ H p c ρ F Q' Q, ESt X.K p c ρ σ F H → f ρ c Q' → TellB p F H Q' Q → t σ H Q
theorem px_nil : PX X [] tYes3 := ⟨tYes, pts_nil, fun σ H p c ρ F Q' Q es h t => t true c F H (.refl ..) es.ok h⟩
theorem px_one {c : Expr} {f : FT} (h : TX X c f) : PX X [c] f := ⟨_, pts_one h, fun σ H p c ρ F Q' Q es h t => ⟨p, c, ρ, F, Q', es, h, t⟩⟩
theorem wipe_get (σ : L2.St) : ∀ (vs : List Nat) (i : Nat), i ∉ vs → (wipe σ vs)[i]? = σ[i]?
  | [], i, _ => rfl
  | v :: vs, i, h => by
    unfold wipe
    rw [List.getElem?_set_ne (fun e => h (by simp [e]))]
    exact wipe_get σ vs i (fun z => h (List.mem_cons_of_mem _ z))
theorem wipe_in (σ : L2.St) : ∀ (vs : List Nat) (i : Nat), i ∈ vs → i < σ.length → (wipe σ vs)[i]? = some none
  | v :: vs, i, h, hl => by
    unfold wipe
    by_cases e : v = i
    · subst e
      rw [List.getElem?_set_self (by rw [wipe_length]; exact hl)]
    · rw [List.getElem?_set_ne e]
      exact wipe_in σ vs i ((List.mem_cons.mp h).resolve_left (fun z => e z.symm)) hl
theorem wipe_eq {σ σ' : L2.St} {vs : List Nat} (hl : σ'.length = σ.length) (h : ∀ j, j ∉ vs → σ'[j]? = σ[j]?) : wipe σ' vs = wipe σ vs := by
  apply List.ext_getElem?
  intro i
  by_cases hi : i ∈ vs
  · by_cases hlt : i < σ.length
    · rw [wipe_in σ vs i hi hlt, wipe_in σ' vs i hi (by omega)]
    · rw [List.getElem?_eq_none (by rw [wipe_length]; omega), List.getElem?_eq_none (by rw [wipe_length]; omega)]
  · rw [wipe_get σ vs i hi, wipe_get σ' vs i hi, h i hi]
theorem get3_eq : ∀ (ρ : Rho) (i : Nat) (d : D), get3 ρ i = some d ↔ ρ[i]? = some (some d)
  | [], i, d => by simp [get3]
  | x :: r, 0, d => by simp [get3]
  | x :: r, i + 1, d => by simpa [get3] using get3_eq r i d
theorem wipeD_len (ρ : Rho) : ∀ vs : List Nat, (wipeD ρ vs).length = ρ.length
  | [] => rfl
  | v :: vs => by unfold wipeD; rw [List.length_set, wipeD_len ρ vs]
theorem wipeD_some (ρ : Rho) : ∀ (vs : List Nat) (i : Nat) (d : D), (wipeD ρ vs)[i]? = some (some d) → i ∉ vs ∧ ρ[i]? = some (some d)
  | [], i, d, h => ⟨by simp, h⟩
  | v :: vs, i, d, h => by
    unfold wipeD at h
    rcases set_get h with ⟨rfl, _, q⟩ | ⟨n, q⟩
    · cases q
    · obtain ⟨a, b⟩ := wipeD_some ρ vs i d q
      exact ⟨by simp [n, a], b⟩
/-- the comprehension's list, new -/
@[simp ↓] def fComp (fi : FI) (g : FG) (t : FT) (fe : FE) (vs : List Nat) : FL := fun ρ c Q => fi ρ c fun l c => compL g t fe (wipeD ρ vs) l c Q
theorem comp_w {t : TT} {gl : TG} {wi : TI} {vs : List Nat} (his : ∀ j ∈ is, j ∈ vs) {tE' : TE} (hte : ∀ σ H Q, tE X.K fe σ H Q → tE' σ H Q)
    (ki : ∀ σ H p c ρ F Q' R, ESt X.K p c ρ σ F H → fi ρ c Q' → (∀ items c' F' H' J, Fwd p F H F' H' → Ok3 p c' F' H' → Walks3 X.K p J items F' → Q' items c' → R J H') → wi σ H R)
    (kg : ∀ p c ρ σ F H F0 H0 d v k kk, SSt X.K p c ρ σ F H F0 H0 → Rep X.K p F d v → gg d ρ k → (∀ ρ' σ', SSt X.K p c ρ' σ' F H F0 H0 → σ'.length = σ.length → (∀ j, j ∉ is → σ'[j]? = σ[j]?) → k ρ' → kk σ' H) → gl v σ H kk)
    (kt : ∀ σ H p c ρ F Q' Q, ESt X.K p c ρ σ F H → ft ρ c Q' → TellB p F H Q' Q → t σ H Q) {σ : L2.St} {H : Hp} {Q : VK} (h : tF X.K (fComp fi gg ft fe vs) σ H Q) : tLc wi gl t tE' vs σ H Q := by
  obtain ⟨p, c, ρ, F, Q', es, h, tl⟩ := h
  refine ki σ H p c ρ F _ _ es h fun items c1 F1 H1 J w1 ok1 wk q1 => fun D hD => ?_
  obtain ⟨w0, ok0, n1, n2, n3⟩ := layL (Fwd.refl p F1 H1) ok1 hD []
  refine ⟨fun i m H' => m = items.length - i ∧ i ≤ items.length ∧ ∃ c F acc ds, Fwd p F1 H1 F H' ∧ Ok3 p c F H' ∧ H' D = some (.lst acc) ∧ F D = none ∧ RepL X.K p F ds acc ∧ ds.length ≤ i ∧ compL gg ft fe (wipeD ρ vs) (items.drop i) c (fun ys c => Q' (ds ++ ys) c),
    ⟨items.length, rfl, Nat.zero_le _, c1, F1, [], [], w0, ok0, upd_same, n2, rfl, Nat.zero_le _, q1⟩, fun i m H2 ⟨em, hi, c, F2, acc, ds, w, ok, hDl, nF, r, dl, hc⟩ => ?_⟩
  obtain ⟨go, stop⟩ := wk.2 i F2 H2 c w.frz ok
  by_cases hlt : i < items.length
  · obtain ⟨hgo, hy⟩ := go hlt
    refine .inr ⟨hgo, fun H' => ∃ c F acc ds, Fwd p F1 H1 F H' ∧ Ok3 p c F H' ∧ H' D = some (.lst acc) ∧ F D = none ∧ RepL X.K p F ds acc ∧ ds.length ≤ i + 1 ∧ compL gg ft fe (wipeD ρ vs) (items.drop (i + 1)) c (fun ys c => Q' (ds ++ ys) c),
      fun H' z => ⟨items.length - (i + 1), by omega, rfl, hlt, z⟩, fun x H' y => ?_⟩
    obtain ⟨F', d, e1, w', ok', r'⟩ := hy x H' y
    have ed : items.drop i = d :: items.drop (i + 1) := by
      rw [List.drop_eq_getElem_cons hlt]
      rw [List.getElem?_eq_getElem hlt] at e1
      rw [Option.some.inj e1]
    rw [ed] at hc
    have wF := w1.trans (w.trans w')
    have ss : SSt X.K p c ((wipeD ρ vs).map upS) (wipe σ vs) F' H' F' H' := by
      refine ⟨ok', .refl .., by rw [List.length_map, wipeD_len, wipe_length, es.len], fun j dj ej => ?_, fun j lj ej => ?_, fun j k l m a e1 _ _ _ => ?_, fun j ks lj ej => ?_, fun j k ks ks' l m a e1 _ _ _ => ?_⟩
      · rw [List.getElem?_map] at ej
        obtain ⟨z, ez, eu⟩ := Option.map_eq_some_iff.mp ej
        cases z with
        | none => cases eu
        | some z =>
          cases eu
          obtain ⟨nj, e2⟩ := wipeD_some ρ vs j dj ez
          obtain ⟨v, g1, g2⟩ := es.slot j dj ((get3_eq ρ j dj).mpr e2)
          exact ⟨v, by rw [wipe_get σ vs j nj]; exact g1, g2.mono wF.frz⟩
      · rw [List.getElem?_map] at ej
        obtain ⟨z, ez, eu⟩ := Option.map_eq_some_iff.mp ej
        cases z <;> cases eu
      · rw [List.getElem?_map] at e1
        obtain ⟨z, ez, eu⟩ := Option.map_eq_some_iff.mp e1
        cases z <;> cases eu
      · rw [List.getElem?_map] at ej
        obtain ⟨z, ez, eu⟩ := Option.map_eq_some_iff.mp ej
        cases z <;> cases eu
      · rw [List.getElem?_map] at e1
        obtain ⟨z, ez, eu⟩ := Option.map_eq_some_iff.mp e1
        cases z <;> cases eu
    refine kg p c _ (wipe σ vs) F' H' F' H' d x _ _ ss r' hc fun ρ2 σ2 s2 l2 e2 h2 => ⟨?_, ?_⟩
    · refine wipe_eq (by rw [l2, wipe_length]) fun j hj => ?_
      rw [e2 j fun z => hj (his j z), wipe_get σ vs j hj]
    · refine kt σ2 H' p c _ F' _ _ s2.e h2 fun b c3 F3 H3 w3 ok3 q3 => ?_
      have w23 := w'.trans w3
      have keepD : ∀ {F4 H4 : Hp} {c4 : Nat}, Fwd p F2 H2 F4 H4 → Ok3 p c4 F4 H4 → H4 D = some (.lst acc) ∧ F4 D = none := fun {F4 H4 c4} w4 ok4 => by
        refine ⟨w4.keep D _ hDl n3 (fun _ z => nomatch z), ?_⟩
        cases q : F4 D with
        | none => rfl
        | some u =>
          rcases w4.new D u q with z | z | ⟨q', z⟩
          · rw [nF] at z; cases z
          · rw [hDl] at z; cases z
          · have y := ok4.sub D u q
            rw [w4.keep D _ hDl n3 (fun _ z => nomatch z)] at y
            exact absurd (z.symm.trans (Option.some.inj y.symm)) codeO_lst
      cases b with
      | true =>
        refine hte _ _ _ ⟨p, c3, _, F3, _, s2.e.fwd w3 ok3, q3, fun yd c4 v F4 H4 w4 ok4 r4 q4 => ?_⟩
        have w24 := w23.trans w4
        obtain ⟨d1, d2⟩ := keepD w24 (by assumption)
        have rl := (r.mono w24.frz).app (RepL.single r4)
        have w14 := w.trans w24
        refine ⟨acc, d1, ?_, c4, F4, acc ++ [v], ds ++ [yd], ⟨w14.frz, fun b u hb n tt => ?_, w14.new, fun b hb => ?_⟩, ⟨fun b u hb => ?_, fun b hb => ?_, tabs_put ok4.tab d1, ok4.nt⟩, upd_same, d2, rl, by rw [List.length_append]; exact Nat.succ_le_succ dl, ?_⟩
        · have := r.len
          rw [line16, this]
          have := wk.1
          omega
        · rw [upd_ne (ne_of_none hb n1)]
          exact w14.keep b u hb n tt
        · by_cases e : b = D
          · subst e; exact n1
          · rw [upd_ne e] at hb; exact w14.there b hb
        · rw [upd_ne (ne_of_none hb d2)]
          exact ok4.sub b u hb
        · obtain ⟨⟨x, y, z, h, rr⟩, n⟩ := ok4.pot b hb
          have ne : b ≠ D := fun e => n3 (e ▸ hb)
          exact ⟨⟨x, y, z, by rw [upd_ne ne]; exact h, rr⟩, n⟩
        · have e : (fun ys c => Q' (ds ++ [yd] ++ ys) c) = fun ys c => Q' (ds ++ (yd :: ys)) c := by
            funext ys c
            rw [List.append_assoc]
            rfl
          rw [e]
          exact q4
      | false =>
        obtain ⟨d1, d2⟩ := keepD w23 (by assumption)
        exact ⟨c3, F3, acc, ds, w.trans w23, ok3, d1, d2, r.mono w23.frz, Nat.le_succ_of_le dl, q3⟩
  · have ei : items.drop i = [] := List.drop_eq_nil_of_le (by omega)
    rw [ei] at hc
    have hc' : Q' (ds ++ []) c := hc
    rw [List.append_nil] at hc'
    exact .inl ⟨stop (by omega), tl ds c D acc F2 H2 (w1.trans w) ok (w1.there D n1) nF n3 hDl r hc'⟩
/-- what a comprehension's parts are, whichever block runs them -/
theorem fx_comp (hc : X.calm = true) (hN : X.N.Nodup) (hi : IX X tg iter fi) (ok : BlkOk X.N X.env.scope scope own) {gl : TG}
    (hg : ∀ (s : Shared) (H : Hp) (C : Addr) (cl : List (Str × Addr)) (fp : List Addr), PG (X.blk s H scope (compEnvC scope cl C X.env) fp) tg gl)
    (kg : KG X.K is gg gl)
    {t : TT} (ht : ∀ (s : Shared) (H : Hp) (C : Addr) (cl : List (Str × Addr)) (fp : List Addr), PTs (X.blk s H scope (compEnvC scope cl C X.env) fp) ifs t)
    (kt : KT3 X.K ft t)
    (he : ∀ (s : Shared) (H : Hp) (C : Addr) (cl : List (Str × Addr)) (fp : List Addr), EX (X.blk s H scope (compEnvC scope cl C X.env) fp) elt fe)
    (his : ∀ j ∈ is, j ∈ own.map (·.2)) (hs : ∀ x, foldedSetIterable iter X.env x = pure x := by intro _; rfl) : FX X (.ListComp elt [⟨tg, iter, ifs, 0⟩] scope pos) (fComp fi gg ft fe (own.map (·.2))) := by
  obtain ⟨wi, pi, ki⟩ := hi.ex
  exact PE.imp (pe_lc hc hN pi ok hg ht he hs) fun σ H Q h => comp_w his (fun _ _ _ h => h) ki kg.k kt.k h
end

/-! ### a def -/
theorem start_get {n : Nat} {ds : List D} {i : Nat} {x : SV} (h : (start3 n ds)[i]? = some x) : (∃ d, ds[i]? = some d ∧ x = .val d) ∨ x = .no := by
  unfold start3 at h
  by_cases hi : i < (ds.map SV.val).length
  · rw [List.getElem?_append_left hi, List.getElem?_map] at h
    obtain ⟨d, e1, e2⟩ := Option.map_eq_some_iff.mp h
    exact .inl ⟨d, e1, e2.symm⟩
  · rw [List.getElem?_append_right (by omega), List.getElem?_replicate] at h
    split at h
    · exact .inr (Option.some.inj h).symm
    · cases h
theorem start_ok {K : PySem.W.Frag} {p : Pn} {c : Nat} {F H : Hp} {N : List Str} {ds : List D} {vs : List V} (ok : Ok3 p c F H) (r : RepL K p F ds vs) : SSt K p c (start3 N.length ds) (start N vs) F H F H := by
  have hl := r.len
  refine ⟨ok, .refl .., ?_, fun i d e => ?_, fun i l e => ?_, fun i j l m a e1 _ _ _ => ?_, fun i ks l e => ?_, fun i j ks ks' l m a e1 _ _ _ => ?_⟩
  · unfold start3 L2.start
    simp only [List.length_append, List.length_map, List.length_replicate, hl]
  · rcases start_get e with ⟨d', e1, e2⟩ | e2
    · cases e2
      obtain ⟨v, g1, g2⟩ := r.get e1
      refine ⟨v, ?_, g2⟩
      unfold L2.start
      rw [List.getElem?_append_left (by rw [List.length_map]; exact (List.getElem?_eq_some_iff.mp g1).1), List.getElem?_map, g1]
      rfl
    · cases e2
  · rcases start_get e with ⟨d', e1, e2⟩ | e2 <;> cases e2
  · rcases start_get e1 with ⟨d', _, e2⟩ | e2 <;> cases e2
  · rcases start_get e with ⟨d', e1, e2⟩ | e2 <;> cases e2
  · rcases start_get e1 with ⟨d', _, e2⟩ | e2 <;> cases e2
/-- THE RULE for a def: its body's reading g, and the plain fact that g gives what m says -/
theorem fn3 {P : Program} {w : World} {K : PySem.W.Frag} {mg : Str → Option Value} {base : Heap} {x qual : Str} {st : Stmt} {f : Addr} {fd : FuncData} {N ps : List Str} {k n : Nat} {m : FM} {g : FS}
    (F : Fun K x qual st f fd) (S : FnScope N ps (defScope st)) (hn : ps.length = n) (hp : ∀ ds c Q, m ds c Q → runM N.length g ds c Q)
    (hbody : ∀ (cdv : Value) (A : Around) (outer : List Env) (s : Shared) (H : Hp) (E : XK), Room k (A.deeper (envOfC qual (defScope st) s.heap.objs.size f cdv)) →
      BX (cxOf CX0 P w K mg base N qual (defScope st) f cdv A outer s H E).nox (defBody st) g) : FnOk P w K mg base CX0 (k + 1) f fd ps (spM K n m) := by
  refine Fun.ok3 F S (fun vs H Q E h => h.1.trans hn.symm) fun cdv A outer s H vs Q E _ hr ⟨hl, p, c, F1, ds, Q', ok, r, h, t⟩ => ?_
  refine ⟨_, (hbody cdv A outer s H E hr).nox, p, c, start3 N.length ds, F1, F1, H, _, start_ok ok r, hp ds c Q' h, fun c ρ σ F' H' s q => ?_, fun _ _ _ _ _ _ q => q.elim, fun _ _ _ _ _ _ q => q.elim, t⟩
  exact t .non c .non F' H' s.ent s.ok rfl q
/-- a promise told by another reading -/
theorem fn3_imp {P : Program} {w : World} {K : PySem.W.Frag} {mg : Str → Option Value} {base : Heap} {CX : CXT} {k n : Nat} {f : Addr} {fd : FuncData} {ps : List Str} {m m' : FM} (G : FnOk P w K mg base CX k f fd ps (spM K n m)) (h : ∀ ds c Q, m' ds c Q → m ds c Q) :
    FnOk P w K mg base CX k f fd ps (spM K n m') := G.imp fun vs H Q E ⟨hl, p, c, F1, ds, Q', ok, r, q, t⟩ => ⟨hl, p, c, F1, ds, Q', ok, r, h _ _ _ q, t⟩
end L3

/-! L3, more rules: what is walked. -/
namespace L3
open PySem PySem.Spec PyProof.Rows L2
section
variable {K : PySem.W.Frag} {X : Cx} {e a b tg : Expr} {es : List Expr} {fa fb : FE} {fr : FA} {pos : Pos}
def iSeqW (K : PySem.W.Frag) (tl : TE) : TI := fun σ H R => tl σ H fun x H1 => (∃ a xs, x = .ref a ∧ SqL K H1 a xs ∧ (xs.length ≤ sizeLine → R (Itl K a) H1)) ∨ (∃ a xs, x = .ref a ∧ SqT K H1 a xs ∧ (xs.length ≤ sizeLine → R (Itt K a) H1))
theorem pi_seqW {l : Expr} {tl : TE} (hl : PE X l tl) : PI X tg l (iSeqW X.K tl) := by
  refine ⟨fun pins s σ H R I h => ?_⟩
  refine thn (hl.run pins s σ H _ I h) fun v s1 ⟨x, H1, I1, r1, q1⟩ => ?_
  rcases q1 with ⟨a, xs, e, hq, q⟩ | ⟨a, xs, e, hq, q⟩
  · subst e
    cases r1
    obtain ⟨its, rv, p, hz⟩ := I1.list hq
    refine wpAny_pyIter_list p.isList ?_
    refine ⟨s1.heap.objs.size, [s1.heap.objs.size], _, _, H1, rfl, I1.kept (t' := s1.toks) fun b o e => Heap.get?_push_of_some _ e, turn_list a _, ⟨_, Heap.get?_push_size _ rfl, rfl, rfl⟩, fun b hb => ?_, q hz⟩
    have e : b = s1.heap.objs.size := by simpa using hb
    subst e
    exact I1.fpOk (Nat.le_refl _) (I1.hok.fresh (Nat.le_refl _))
  · subst e
    cases r1
    obtain ⟨its, rv, p, hz⟩ := I1.tuple hq
    refine wpAny_pyIter_tuple (show s1.heap.IsTuple a its.toArray from p) ?_
    refine ⟨s1.heap.objs.size, [s1.heap.objs.size], _, _, H1, rfl, I1.kept (t' := s1.toks) fun b o e => Heap.get?_push_of_some _ e, turn_tuple a _, ⟨_, Heap.get?_push_size _ rfl, rfl, rfl⟩, fun b hb => ?_, q hz⟩
    have e : b = s1.heap.objs.size := by simpa using hb
    subst e
    exact I1.fpOk (Nat.le_refl _) (I1.hok.fresh (Nat.le_refl _))
theorem ix_seq (h : EX X e fa) : IX X tg e (iSeq fa) := ⟨_, pi_seqW h, fun σ H p c ρ F Q' R es h k => ⟨p, c, ρ, F, _, es, h, fun x c1 v F1 H1 w1 ok1 r1 q1 => by
  split at q1
  · obtain ⟨a, xs, rfl, h1, rl⟩ := r1
    exact .inl ⟨a, xs, rfl, .of (ok1.sub _ _ h1), fun hz => k _ c1 F1 H1 _ w1 ok1 (walks_list h1 rl (by rw [line16, rl.len] at hz; exact hz)) q1⟩
  · obtain ⟨a, xs, rfl, h1, rl⟩ := r1
    exact .inr ⟨a, xs, rfl, ok1.sqT h1, fun hz => k _ c1 F1 H1 _ w1 ok1 (walks_tup h1 rl (by rw [line16, rl.len] at hz; exact hz)) q1⟩
  · exact q1.elim⟩⟩
/-! enumerate -/
def IteT (K : PySem.W.Frag) (a : Addr) : It :=
  ⟨fun i H => ∃ (xs : List V) (x : V), SqT K H a xs ∧ xs[i]? = some x, fun i H v H' => ∃ T x, v = .ref T ∧ H T = none ∧ H' = upd H T (.tup [.int (i : Nat), x]) ∧ ∀ xs, SqT K H a xs → xs[i]? = some x, fun i H => ∃ xs : List V, SqT K H a xs ∧ xs.length = i⟩
theorem turn_enumT {P : Program} {w : World} {K : PySem.W.Frag} {elts : List Expr} {kk : Nat} {tpos : Pos} (a e it : Addr) :
    Turn P w K (.Tuple elts kk tpos) (IteT K a) [e, it] e (fun i h => (∃ old, IsEnum h e it ((i : Nat) : Int) old) ∧ h.IsTupleIter it a i ∧ e ≠ it ∧ a ≠ it ∧ e ≠ a) where
  mem := by simp
  obj := fun i h st b hb => by
    obtain ⟨⟨old, he⟩, ⟨o, ho, hc, hd⟩, _⟩ := st
    have e' : b = e ∨ b = it := by simpa using hb
    rcases e' with z | z
    · rw [z]; exact ⟨_, he, fun v q => nomatch q⟩
    · rw [z]; exact ⟨o, ho, fun v q => by rw [hd] at q; cases q⟩
  keep := fun i h h' st k => let ⟨⟨old, he⟩, hi, hne⟩ := st; ⟨⟨old, k e (by simp) _ he⟩, hi.at fun o q => k it (by simp) o q, hne⟩
  item := by
    intro X hP hw hK hc i pins s σ H E I hf st hg
    subst hP hw hK
    obtain ⟨⟨old, he⟩, hit, hne, hna, hea⟩ := st
    obtain ⟨xs, x, hq, hx⟩ := hg
    obtain ⟨its, rv, p, hz⟩ := I.tuple hq
    obtain ⟨u, hu, ru⟩ := rv.get hx
    have hel : e < s.heap.objs.size := Heap.lt_size he
    have hil : it < s.heap.objs.size := by obtain ⟨_, q, _⟩ := hit; exact Heap.lt_size q
    have hi : i < its.toArray.size := by
      have := (List.getElem?_eq_some_iff.mp hu).1
      simpa using this
    refine wpAny_pyNext_enum_itemC (Draws.tuple (A := X.A.in1) (show X.A.in1.handled = none from I.ok.hd hc) it a hna its.toArray) he ⟨hit, p⟩ hi hne (by simp [hne, hea]) fun y h' tk hP ho hs' hT hsz hk => ?_
    have ey : y = u := by
      have hP' : its.toArray[i]? = some y := hP
      rw [show its.toArray[i]? = its[i]? by simp, hu] at hP'
      exact (Option.some.inj hP').symm
    subst ey
    refine ⟨_, rfl, wpAny_letOwnedTupleGo_enum (s := { s with heap := h', toks := tk + 1 }) ho fun h'' he' sb => ?_⟩
    have hT2 : h''.get? s.heap.objs.size = some { cls := .type "tuple", data := .seq #[.int i tk, y] } := (sb.2 _ (Nat.ne_of_gt hel)).trans hT
    have new : ObjOk X.prog X.w (upd H s.heap.objs.size (.tup [.int (i : Nat), x])) h'' s.heap.objs.size (.tup [.int (i : Nat), x]) :=
      ⟨by show 2 ≤ sizeLine; decide, [.int i tk, y], .cons ⟨_, rfl⟩ (.cons ru .nil), ⟨_, hT2, rfl, _, rfl⟩⟩
    have I1 : Inv X pins σ (upd H s.heap.objs.size (.tup [.int (i : Nat), x])) { s with heap := h'', toks := tk + 1 } :=
      I.turnedNew (ch := [e, it]) (fun b ob hb q => (sb.2 b (fun z => hb (by simp [z]))).trans (hk b ob (fun z => hb (by simp [z])) (fun z => hb (by simp [z])) q)) hf (Nat.le_refl _) new
    refine ⟨.ref s.heap.objs.size, _, I1, rfl, ⟨_, x, rfl, I.hok.fresh (Nat.le_refl _), rfl, fun ys hy => by rw [I.tuple_inj hy hq]; exact hx⟩, ⟨⟨y, ?_⟩, hs'.1.at fun o q => (sb.2 it (Ne.symm hne)).trans q, hne, hna, hea⟩, fun b hb => ?_⟩
    · have e1 : ((i + 1 : Nat) : Int) = (i : Int) + 1 := by omega
      rw [e1]; exact he'
    · have hb' : b < s.heap.objs.size := by
        have e' : b = e ∨ b = it := by simpa using hb
        rcases e' with z | z
        · rw [z]; exact hel
        · rw [z]; exact hil
      rw [upd_ne (Nat.ne_of_lt hb')]
      exact (hf b hb).1
  done := by
    intro X hP hw hK hc i pins s σ H E I hf st hg
    subst hP hw hK
    obtain ⟨⟨old, he⟩, hit, hne, hna, hea⟩ := st
    obtain ⟨xs, hq, hx⟩ := hg
    obtain ⟨its, rv, p, hz⟩ := I.tuple hq
    obtain ⟨f0, f1, f2, f3, f4, f5⟩ := hf it (by simp)
    have hl := rv.length
    have en : its.toArray.size = i := by simp; omega
    refine wpAny_pyNext_enum_endD (i := ((i : Nat) : Int)) (Draws.tuple (A := X.A.in1) (show X.A.in1.handled = none from I.ok.hd hc) it a hna its.toArray) he ?_ fun h' eb => ⟨rfl, I.turned (t' := s.toks) (fun b o hb q => eb b o hb q) f0 f1 f3 f4 f5⟩
    rw [en]
    exact ⟨hit, p⟩
  self := fun A i s Q E st h => let ⟨⟨_, he⟩, _⟩ := st; wpAny_pyIter_enum he h
set_option maxHeartbeats 1000000 in
theorem meets_enumerate_newB1 {v : Value} {o : Obj} {H : Heap → Prop} (B : Begins v o H) :
    Meets (Builtin.«enumerate.__new__» ⟨[.type "enumerate", v], []⟩) (fun _ R s => H s.heap ∧
      R (.ok (.ret (.ref (s.heap.push o).objs.size))) { s with heap := (s.heap.push o).push { cls := .type "enumerate", data := .fields #[.none, .bool false, .ref s.heap.objs.size, rawInt 0, .none, .none] } }) :=
  .of_wp fun prog w A R s h => by
    obtain ⟨hp, g, d, tk, os⟩ := s; obtain ⟨h1, h⟩ := h
    have hsub := sub_enumerate
    have q1 : ∀ {A' : Around} {E : Value → Shared → Prop} {Q : Value → Shared → Prop}, Q (.ref hp.objs.size) ⟨hp.push o, g, d, tk, os⟩ → wpAny (model prog w) A' (pyIter v) Q E ⟨hp, g, d, tk, os⟩ :=
      fun q => B.iter prog w _ _ ⟨hp, g, d, tk, os⟩ _ h1 q
    wp_walk using q1
    refine wpAny_stack_any fun st => wpAny_pure ?_
    split
    · rename_i c _ _ _ _ _
      cases (c == Value.type "enumerate")
      · wp_walk using q1
        exact ⟨_, rfl, h⟩
      · wp_walk using q1
        exact ⟨_, rfl, h⟩
    · wp_walk using q1
      exact ⟨_, rfl, h⟩
theorem call_enumerate_B {prog : Program} {w : World} {A : Around} {E : Value → Shared → Prop} {s : Shared} {v : Value} {o : Obj} {H : Heap → Prop} {Q : Value → Shared → Prop} (B : Begins v o H) (h1 : H s.heap)
    (h : ∀ h', IsEnum h' (s.heap.objs.size + 1) s.heap.objs.size 0 .none → h'.get? s.heap.objs.size = some o → h'.objs.size = s.heap.objs.size + 2 →
      (∀ b o, s.heap.get? b = some o → h'.get? b = some o) → Q (.ref (s.heap.objs.size + 1)) { s with heap := h' }) :
    wpAny (model prog w) A (call (.type "enumerate") [v]) Q E s := by
  refine callType_new PySem.F.called_enumerate (by decide) (PySem.F.typeCall_enumerate_1 _) (PySem.F.newCall_enumerate_1 _) (fun obj => PySem.F.args_object_init_2 obj _) PySem.F.entry_enumerate_new
    (meets_enumerate_newB1 B) ⟨h1, ?_⟩
  have hz : (s.heap.push o).objs.size = s.heap.objs.size + 1 := Heap.size_push ..
  show _ ∧ _
  rw [hz]
  have he : IsEnum ((s.heap.push o).push { cls := .type "enumerate", data := .fields #[.none, .bool false, .ref s.heap.objs.size, rawInt 0, .none, .none] }) (s.heap.objs.size + 1) s.heap.objs.size 0 .none := by
    have := Heap.get?_push_size (s.heap.push o) (o := { cls := .type "enumerate", data := .fields #[.none, .bool false, .ref s.heap.objs.size, rawInt 0, .none, .none] }) rfl
    rw [hz] at this; exact this
  refine ⟨⟨_, he, rfl⟩, h _ he (Heap.get?_push_of_some _ (Heap.get?_push_size _ B.free)) (by rw [Heap.size_push, hz]) fun b o x => Heap.get?_push_of_some _ (Heap.get?_push_of_some _ x)⟩
def iEnumT (K : PySem.W.Frag) (ta : TA) : TI := fun σ H R => ta σ H fun vs H1 => ∃ a xs, vs = [.ref a] ∧ ((SqL K H1 a xs ∧ (xs.length ≤ sizeLine → R (Ite K a) H1)) ∨ (SqT K H1 a xs ∧ (xs.length ≤ sizeLine → R (IteT K a) H1)))
theorem pi_enumT {X : Cx} {e : Expr} {ta : TA} {p pos tpos : Pos} {elts : List Expr} {kk : Nat} (hg : Gl X "enumerate") (hm : X.mg "enumerate" = none) (ha : PA X [e] ta) (hs : starEach [e] X.env = [(false, eval e X.env)] := by rfl) :
    PI X (.Tuple elts kk tpos) (.Call (.Name "enumerate" p) [e] [] pos) (iEnumT X.K ta) := by
  refine ⟨fun pins s σ H R I h => ?_⟩
  refine Call_ (ld_blt I hg hm PyProof.Rows.boot_enumerate (PyProof.Rows.callWith_type1 (thn (ha.run pos pins s σ H _ I h) fun us s1 ⟨vs, H1, I1, r1, q1⟩ => ?_) hs rfl))
  obtain ⟨a, xs, ex, q1⟩ := q1
  subst ex
  cases r1 with
  | cons r rr =>
    cases rr
    cases r
    have fresh2 : ∀ b, b ∈ [s1.heap.objs.size + 1, s1.heap.objs.size] → FpOk X pins H1 b := fun b hb => by
      have e' : b = s1.heap.objs.size + 1 ∨ b = s1.heap.objs.size := by simpa using hb
      have hle : s1.heap.objs.size ≤ b := by
        rcases e' with z | z
        · rw [z]; exact Nat.le_add_right _ _
        · rw [z]; exact Nat.le_refl _
      exact I1.fpOk hle (I1.hok.fresh hle)
    rcases q1 with ⟨hq, q⟩ | ⟨hq, q⟩
    · obtain ⟨its, rv, p', hz⟩ := I1.list hq
      refine call_enumerate_list p'.isList fun h' he hit hsz hk => wpAny_pyIter_enum he ?_
      have I2 : Inv X pins σ H1 { s1 with heap := h' } := I1.kept (t' := s1.toks) hk
      exact ⟨s1.heap.objs.size + 1, [s1.heap.objs.size + 1, s1.heap.objs.size], _, _, H1, rfl, I2, turn_enum a (s1.heap.objs.size + 1) s1.heap.objs.size, ⟨⟨.none, he⟩, hit, Nat.succ_ne_self _⟩, fresh2, q hz⟩
    · obtain ⟨its, rv, p', hz⟩ := I1.tuple hq
      have hta : s1.heap.IsTuple a its.toArray := p'
      have hal : a < s1.heap.objs.size := p'.lt
      refine call_enumerate_B (begins_tuple a its.toArray) hta fun h' he hit hsz hk => wpAny_pyIter_enum he ?_
      have I2 : Inv X pins σ H1 { s1 with heap := h' } := I1.kept (t' := s1.toks) hk
      exact ⟨s1.heap.objs.size + 1, [s1.heap.objs.size + 1, s1.heap.objs.size], _, _, H1, rfl, I2, turn_enumT a (s1.heap.objs.size + 1) s1.heap.objs.size, ⟨⟨.none, he⟩, ⟨_, hit, rfl, rfl⟩, Nat.succ_ne_self _, Nat.ne_of_lt hal, Nat.ne_of_gt (Nat.lt_succ_of_lt hal)⟩, fresh2, q hz⟩
def enumL (n : Nat) : List D → List D
  | [] => []
  | d :: l => .tup [.int n, d] :: enumL (n + 1) l
theorem enumL_len : ∀ (n : Nat) (l : List D), (enumL n l).length = l.length
  | _, [] => rfl
  | n, d :: l => by show (enumL (n + 1) l).length + 1 = l.length + 1; rw [enumL_len]
theorem enumL_get : ∀ (n : Nat) (l : List D) (i : Nat) (d : D), l[i]? = some d → (enumL n l)[i]? = some (.tup [.int ((n + i : Nat) : Int), d])
  | _, [], _, _, h => by simp at h
  | n, x :: l, 0, d, h => by
    cases (show some x = some d from h)
    rfl
  | n, x :: l, i + 1, d, h => by
    have := enumL_get (n + 1) l i d h
    rw [show n + 1 + i = n + (i + 1) by omega] at this
    exact this
@[simp ↓] def iEnum3 (fe : FE) : FI := fun ρ c Q => fe ρ c fun x c => match x with
  | .lst l => Q (enumL 0 l) c
  | .tup l => Q (enumL 0 l) c
  | _ => False
theorem pair_new {p : Pn} {c : Nat} {F H : Hp} {T : Addr} {x y : V} {d d' : D} (ok : Ok3 p c F H) (n : H T = none) (r : Rep K p F d x) (r' : Rep K p F d' y) : ∃ F', Fwd p F H F' (upd H T (.tup [x, y])) ∧ Ok3 p c F' (upd H T (.tup [x, y])) ∧ Rep K p F' (.tup [d, d']) (.ref T) := by
  obtain ⟨w, ok'⟩ := Fwd.laid ok n (.tup [x, y])
  exact ⟨_, w, ok', T, [x, y], rfl, .of upd_same, x, [y], rfl, r.mono w.frz, y, [], rfl, r'.mono w.frz, rfl⟩
theorem ix_enum {p' tpos : Pos} {elts : List Expr} {kk : Nat} (hm : X.mg "enumerate" = none) (ha : EX X e fa) (hg : Gl X "enumerate" := by rfl) (hs : starEach [e] X.env = [(false, eval e X.env)] := by rfl) : IX X (.Tuple elts kk tpos) (.Call (.Name "enumerate" p') [e] [] pos) (iEnum3 fa) :=
  ⟨_, pi_enumT hg hm (pa_cons ha pa_nil hs) hs, fun σ H p c ρ F Q' R es h k => ⟨p, c, ρ, F, _, es, h, fun x c1 v F1 H1 w1 ok1 r1 q1 => by
  split at q1
  · rename_i l
    obtain ⟨a, xs, rfl, h1, rl⟩ := r1
    refine ⟨a, xs, rfl, .inl ⟨.of (ok1.sub _ _ h1), fun hz => k _ c1 F1 H1 _ w1 ok1 ⟨by rw [enumL_len, ← rl.len, ← line16]; exact hz, fun i F H c up ok => ?_⟩ q1⟩⟩
    have hH : SqL X.K H a xs := .of (ok.sub _ _ (up _ _ h1))
    rw [enumL_len]
    refine ⟨fun hi => ⟨⟨xs, xs[i]'(by rw [rl.len]; exact hi), hH, List.getElem?_eq_getElem _⟩, fun y H' hy => ?_⟩, fun hi => ⟨xs, hH, by rw [rl.len]; exact Nat.le_of_eq hi.symm⟩⟩
    obtain ⟨T, z, rfl, nT, rfl, hz⟩ := hy
    obtain ⟨d, e1, e2⟩ := rl.back (hz xs hH)
    obtain ⟨F', w', ok', r'⟩ := pair_new (x := V.int ((i : Nat) : Int)) (d := D.int ((0 + i : Nat) : Int)) ok nT (by rw [Nat.zero_add]; rfl) (e2.mono up)
    exact ⟨F', _, enumL_get 0 l i d e1, w', ok', r'⟩
  · rename_i l
    obtain ⟨a, xs, rfl, h1, rl⟩ := r1
    refine ⟨a, xs, rfl, .inr ⟨ok1.sqT h1, fun hz => k _ c1 F1 H1 _ w1 ok1 ⟨by rw [enumL_len, ← rl.len, ← line16]; exact hz, fun i F H c up ok => ?_⟩ q1⟩⟩
    have hH : SqT X.K H a xs := ok.sqT (Sub.sqT up h1)
    rw [enumL_len]
    refine ⟨fun hi => ⟨⟨xs, xs[i]'(by rw [rl.len]; exact hi), hH, List.getElem?_eq_getElem _⟩, fun y H' hy => ?_⟩, fun hi => ⟨xs, hH, by rw [rl.len]; exact hi.symm⟩⟩
    obtain ⟨T, z, rfl, nT, rfl, hz⟩ := hy
    obtain ⟨d, e1, e2⟩ := rl.back (hz xs hH)
    obtain ⟨F', w', ok', r'⟩ := pair_new (x := V.int ((i : Nat) : Int)) (d := D.int ((0 + i : Nat) : Int)) ok nT (by rw [Nat.zero_add]; rfl) (e2.mono up)
    exact ⟨F', _, enumL_get 0 l i d e1, w', ok', r'⟩
  · exact q1.elim⟩⟩
end
end L3

/-! L3, own lists changed; stores of comprehensions; several targets. -/
namespace L3
open PySem PySem.Spec PyProof.Rows L2
section
variable {K : PySem.W.Frag} {X : Cx} {e a b tg : Expr} {es : List Expr} {fa fb : FE} {fr : FA} {pos : Pos} {f f2 : FL}
/-- x = e, x a value that is a new list -/
@[simp ↓] def sValF (i : Nat) (f : FL) : FS := fun E ρ c => f (ρ.map vA) c fun l c => E.nx (ρ.set i (.val (.lst l))) c
@[simp ↓] def eF (f : FL) : FE := fun ρ c Q => f ρ c fun l c => Q (.lst l) c
/-- what a new list may be, once it is given away -/
theorem own_frz {p : Pn} {c : Nat} {F H F1 H1 : Hp} {l : List D} {q : Addr} {xs : List V} (w1 : Fwd p F H F1 H1) (ok1 : Ok3 p c F1 H1) (n1 : H q = none) (n2 : F1 q = none) (n3 : p.pot ≠ some q) (h1 : H1 q = some (.lst xs)) (r1 : RepL K p F1 l xs) :
    ∃ F', Fwd p F H F' H1 ∧ Ok3 p c F' H1 ∧ Rep K p F' (.lst l) (.ref q) := by
  have up : ∀ b u, F1 b = some u → upd F1 q (.lst xs) b = some u := fun b u h => by rw [upd_ne (ne_of_none h n2)]; exact h
  refine ⟨upd F1 q (.lst xs), ⟨fun b u h => up b u (w1.frz b u h), w1.keep, fun b u h => ?_, w1.there⟩, ⟨fun b u h => ?_, fun b e => ?_, ok1.tab, nt_upd ok1.nt q xs n2⟩, q, xs, rfl, upd_same, r1.mono up⟩
  · by_cases e : b = q
    · subst e; exact .inr (.inl n1)
    · rw [upd_ne e] at h; exact w1.new b u h
  · by_cases e : b = q
    · subst e; rw [upd_same] at h; cases h; exact h1
    · rw [upd_ne e] at h; exact ok1.sub b u h
  · obtain ⟨z, n⟩ := ok1.pot b e
    have ne : b ≠ q := fun z => n3 (z ▸ e)
    exact ⟨z, by rw [upd_ne ne]; exact n⟩
section comp
variable {elt iter : Expr} {ifs : List Expr} {scope : Scope} {own : List (Str × Nat)} {fi : FI} {gg : FG} {is : List Nat} {fe : FE} {ft : FT} {y : Str} {py spos : Pos}
theorem ps_setC (i : Nat) (hN0 : X.N.Nodup) (hc : X.calm = true) (hN : X.N.Nodup) (hi : IX X tg iter fi) (ok : BlkOk X.N X.env.scope scope own) {gl : TG}
    (hg : ∀ (s : Shared) (H : Hp) (C : Addr) (cl : List (Str × Addr)) (fp : List Addr), PG (X.blk s H scope (compEnvC scope cl C X.env) fp) tg gl) (kg : KG X.K is gg gl)
    {t : TT} (ht : ∀ (s : Shared) (H : Hp) (C : Addr) (cl : List (Str × Addr)) (fp : List Addr), PTs (X.blk s H scope (compEnvC scope cl C X.env) fp) ifs t) (kt : KT3 X.K ft t)
    (he : ∀ (s : Shared) (H : Hp) (C : Addr) (cl : List (Str × Addr)) (fp : List Addr), EX (X.blk s H scope (compEnvC scope cl C X.env) fp) elt fe)
    (his : ∀ j ∈ is, j ∈ own.map (·.2)) (hs : ∀ x, foldedSetIterable iter X.env x = pure x) (hy : X.N[i]? = some y) (hyl : X.env.scope.names.lookup y = some .local)
    (hsw : swapsWith (.ListComp elt [⟨tg, iter, ifs, 0⟩] scope pos) (some (.Name y py)) spos.line X.env = pure true) :
    PS X (.Assign [.Name y py] (.ListComp elt [⟨tg, iter, ifs, 0⟩] scope pos) spos) (tAsg (tF X.K (fComp fi gg ft fe (own.map (·.2)))) (gName i)) := by
  obtain ⟨wi, pi, ki⟩ := hi.ex
  exact PS.imp (ps_setLc hc hN hy hyl hsw pi ok hg ht he hs) fun D σ H h => comp_w his (fun _ _ _ h => h) ki kg.k kt.k h
theorem sx_ownL (i : Nat) (hN0 : X.N.Nodup) (hc : X.calm = true) (hN : X.N.Nodup) (hi : IX X tg iter fi) (ok : BlkOk X.N X.env.scope scope own) {gl : TG}
    (hg : ∀ (s : Shared) (H : Hp) (C : Addr) (cl : List (Str × Addr)) (fp : List Addr), PG (X.blk s H scope (compEnvC scope cl C X.env) fp) tg gl) (kg : KG X.K is gg gl)
    {t : TT} (ht : ∀ (s : Shared) (H : Hp) (C : Addr) (cl : List (Str × Addr)) (fp : List Addr), PTs (X.blk s H scope (compEnvC scope cl C X.env) fp) ifs t) (kt : KT3 X.K ft t)
    (he : ∀ (s : Shared) (H : Hp) (C : Addr) (cl : List (Str × Addr)) (fp : List Addr), EX (X.blk s H scope (compEnvC scope cl C X.env) fp) elt fe)
    (his : ∀ j ∈ is, j ∈ own.map (·.2)) (hs : ∀ x, foldedSetIterable iter X.env x = pure x := by intro _; rfl) (hy : X.N[i]? = some y := by rfl) (hyl : X.env.scope.names.lookup y = some .local := by rfl)
    (hsw : swapsWith (.ListComp elt [⟨tg, iter, ifs, 0⟩] scope pos) (some (.Name y py)) spos.line X.env = pure true := by exact sw_true rfl rfl rfl (by decide +kernel)) :
    SX X (.Assign [.Name y py] (.ListComp elt [⟨tg, iter, ifs, 0⟩] scope pos) spos) (sOwnF i (fComp fi gg ft fe (own.map (·.2)))) :=
  PS.imp (ps_setC i hN0 hc hN hi ok hg kg ht kt he his hs hy hyl hsw) fun D σ H ⟨p, c, ρ, F, F0, H0, E, s, h, t⟩ => ⟨p, c, _, F, _, s.e, h, fun l c1 a xs F1 H1 w1 ok1 n1 n2 n3 h1 r1 q1 => by
    refine t.nx c1 _ _ F1 H1 ((s.fwd w1 ok1).setOwn i h1 n2 (s.ent.there a n1) n3 r1 fun j m e1 e2 => ?_) q1
    obtain ⟨b, ys, g1, g2, _⟩ := s.own j m e1
    rw [e2] at g1
    cases g1
    rw [n1] at g2
    cases g2⟩
theorem sx_ownBL (i : Nat) (hN0 : X.N.Nodup) (hc : X.calm = true) (hN : X.N.Nodup) (hi : IX X tg iter fi) (ok : BlkOk X.N X.env.scope scope own) {gl : TG}
    (hg : ∀ (s : Shared) (H : Hp) (C : Addr) (cl : List (Str × Addr)) (fp : List Addr), PG (X.blk s H scope (compEnvC scope cl C X.env) fp) tg gl) (kg : KG X.K is gg gl)
    {t : TT} (ht : ∀ (s : Shared) (H : Hp) (C : Addr) (cl : List (Str × Addr)) (fp : List Addr), PTs (X.blk s H scope (compEnvC scope cl C X.env) fp) ifs t) (kt : KT3 X.K ft t)
    (he : ∀ (s : Shared) (H : Hp) (C : Addr) (cl : List (Str × Addr)) (fp : List Addr), EX (X.blk s H scope (compEnvC scope cl C X.env) fp) elt fe)
    (his : ∀ j ∈ is, j ∈ own.map (·.2)) (hs : ∀ x, foldedSetIterable iter X.env x = pure x := by intro _; rfl) (hy : X.N[i]? = some y := by rfl) (hyl : X.env.scope.names.lookup y = some .local := by rfl)
    (hsw : swapsWith (.ListComp elt [⟨tg, iter, ifs, 0⟩] scope pos) (some (.Name y py)) spos.line X.env = pure true := by exact sw_true rfl rfl rfl (by decide +kernel)) :
    SX X (.Assign [.Name y py] (.ListComp elt [⟨tg, iter, ifs, 0⟩] scope pos) spos) (sOwnFB i (fComp fi gg ft fe (own.map (·.2)))) :=
  PS.imp (ps_setC i hN0 hc hN hi ok hg kg ht kt he his hs hy hyl hsw) fun D σ H ⟨p, c, ρ, F, F0, H0, E, s, h, t⟩ => by
    obtain ⟨F2, es, w2, k⟩ := s.lend
    refine ⟨p, c, _, F2, _, es, h, fun l c1 a xs F1 H1 w1 ok1 n1 n2 n3 h1 r1 q1 => ?_⟩
    obtain ⟨F3, s3, w3, _, k2, k3⟩ := k c1 F1 H1 w1 ok1
    refine t.nx c1 _ _ F3 H1 (s3.setOwn i h1 (k3 a n2) (s.ent.there a n1) n3 (k2 l xs q1.1 r1) fun j m e1 e2 => ?_) q1.2
    obtain ⟨b, ys, g1, g2, _⟩ := s.own j m e1
    rw [e2] at g1
    cases g1
    rw [n1] at g2
    cases g2
theorem sx_valL (i : Nat) (hN0 : X.N.Nodup) (hc : X.calm = true) (hN : X.N.Nodup) (hi : IX X tg iter fi) (ok : BlkOk X.N X.env.scope scope own) {gl : TG}
    (hg : ∀ (s : Shared) (H : Hp) (C : Addr) (cl : List (Str × Addr)) (fp : List Addr), PG (X.blk s H scope (compEnvC scope cl C X.env) fp) tg gl) (kg : KG X.K is gg gl)
    {t : TT} (ht : ∀ (s : Shared) (H : Hp) (C : Addr) (cl : List (Str × Addr)) (fp : List Addr), PTs (X.blk s H scope (compEnvC scope cl C X.env) fp) ifs t) (kt : KT3 X.K ft t)
    (he : ∀ (s : Shared) (H : Hp) (C : Addr) (cl : List (Str × Addr)) (fp : List Addr), EX (X.blk s H scope (compEnvC scope cl C X.env) fp) elt fe)
    (his : ∀ j ∈ is, j ∈ own.map (·.2)) (hs : ∀ x, foldedSetIterable iter X.env x = pure x := by intro _; rfl) (hy : X.N[i]? = some y := by rfl) (hyl : X.env.scope.names.lookup y = some .local := by rfl)
    (hsw : swapsWith (.ListComp elt [⟨tg, iter, ifs, 0⟩] scope pos) (some (.Name y py)) spos.line X.env = pure true := by exact sw_true rfl rfl rfl (by decide +kernel)) :
    SX X (.Assign [.Name y py] (.ListComp elt [⟨tg, iter, ifs, 0⟩] scope pos) spos) (sValF i (fComp fi gg ft fe (own.map (·.2)))) :=
  PS.imp (ps_setC i hN0 hc hN hi ok hg kg ht kt he his hs hy hyl hsw) fun D σ H ⟨p, c, ρ, F, F0, H0, E, s, h, t⟩ => ⟨p, c, _, F, _, s.e, h, fun l c1 a xs F1 H1 w1 ok1 n1 n2 n3 h1 r1 q1 => by
    obtain ⟨F', w', ok', r'⟩ := own_frz w1 ok1 n1 n2 n3 h1 r1
    exact t.nx c1 _ _ F' H1 ((s.fwd w' ok').set i r') q1⟩
end comp
/-! methods and stores -/
/-- x.extend(a new list) -/
@[simp ↓] def sExt (i : Nat) (f : FL) : FS := fun E ρ c => match ρ[i]? with
  | some (.own l) => f (ρ.map vA) c fun m c => l.length + m.length ≤ 16777216 ∧ E.nx (ρ.set i (.own (l ++ m))) c
  | _ => False
theorem sx_ext (i : Nat) (h : PE X e (tBM X.K "list" rExtend (tVar i) (tCons (tF X.K f) tNil))) (hsw : swapsWith e none pos.line X.env = pure false := by rfl) : SX X (.Expr e pos) (sExt i f) :=
  PS.imp (ps_expr h hsw) fun D σ H ⟨p, c, ρ, F, F0, H0, E, s, h, t⟩ => by
  unfold sExt at h
  split at h
  · rename_i l hi
    obtain ⟨a, xs, e1, e2, e3, e4, e5, r0⟩ := s.own i l hi
    refine ⟨_, e1, .inl ⟨rfl, _, .inl (.inl e2)⟩, p, c, _, F, _, s.e, h, fun m c1 b ys F1 H1 w1 ok1 n1 n2 n3 h1 r1 q1 => ?_⟩
    have s1 := s.fwd w1 ok1
    obtain ⟨a', xs', g1, g2, g3, g4, g5, r0'⟩ := s1.own i l hi
    rw [e1] at g1
    cases g1
    exact ⟨a, b, xs', ys, rfl, rfl, g2, h1, by rw [line16, r0'.len, r1.len]; exact q1.1, t.nx c1 _ _ F1 _ (s1.put hi e1 (r0'.app r1)) q1.2⟩
  · exact h.elim
def sExtB (i : Nat) (f : FL) : FS := fun E ρ c => match ρ[i]? with
  | some (.own l) => f (ρ.map vB) c fun m c => noLstL m = true ∧ l.length + m.length ≤ 16777216 ∧ E.nx (ρ.set i (.own (l ++ m))) c
  | _ => False
theorem sx_extB (i : Nat) (h : PE X e (tBM X.K "list" rExtend (tVar i) (tCons (tF X.K f) tNil))) (hsw : swapsWith e none pos.line X.env = pure false := by rfl) : SX X (.Expr e pos) (sExtB i f) :=
  PS.imp (ps_expr h hsw) fun D σ H ⟨p, c, ρ, F, F0, H0, E, s, h, t⟩ => by
  unfold sExtB at h
  split at h
  · rename_i l hi
    obtain ⟨a, xs, e1, e2, e3, e4, e5, r0⟩ := s.own i l hi
    obtain ⟨F2, es, w2, k⟩ := s.lend
    refine ⟨_, e1, .inl ⟨rfl, _, .inl (.inl e2)⟩, p, c, _, F2, _, es, h, fun m c1 b ys F1 H1 w1 ok1 n1 n2 n3 h1 r1 q1 => ?_⟩
    obtain ⟨F3, s1, w3, k1, k2, _⟩ := k c1 F1 H1 w1 ok1
    obtain ⟨a', xs', g1, g2, g3, g4, g5, r0'⟩ := s1.own i l hi
    rw [e1] at g1
    cases g1
    exact ⟨a, b, xs', ys, rfl, rfl, g2, h1, by rw [line16, r0'.len, r1.len]; exact q1.2.1, t.nx c1 _ _ F3 _ (s1.put hi e1 (r0'.app (k2 _ _ q1.1 r1))) q1.2.2⟩
  · exact h.elim
/-- x.pop(i) as a statement -/
@[simp ↓] def sPopAt (i : Nat) (fe : FE) : FS := fun E ρ c => match ρ[i]? with
  | some (.own l) => fe (ρ.map vB) c fun d c => match d with
    | .int k => (0 ≤ k ∧ k < l.length ∧ k < 2 ^ 62) ∧ E.nx (ρ.set i (.own (l.eraseIdx k.toNat))) c
    | _ => False
  | _ => False
abbrev sPopAtB := sPopAt
theorem RepL.erase {p : Pn} {F : Hp} : ∀ {l : List D} {xs : List V} (n : Nat), RepL K p F l xs → RepL K p F (l.eraseIdx n) (xs.eraseIdx n)
  | [], _, n, h => by cases h; exact rfl
  | d :: l, _, 0, h => by
    obtain ⟨x, r, rfl, _, h⟩ := h
    exact h
  | d :: l, _, n + 1, h => by
    obtain ⟨x, r, rfl, h1, h⟩ := h
    exact ⟨x, _, rfl, h1, RepL.erase n h⟩
theorem seq_ix {k : Int} {n : Nat} (h0 : 0 ≤ k) (h1 : k < n) : seqIndex? k n = some k.toNat := by
  have : ixN n k = some k.toNat := by
    unfold ixN
    rw [if_pos h0, if_pos h1]
  exact (ixN_seq this).1
theorem sx_popAt (i : Nat) (h : PE X e (tBM X.K "list" rPopAt (tVar i) (tCons (tE X.K fa) tNil))) (hsw : swapsWith e none pos.line X.env = pure false := by rfl) : SX X (.Expr e pos) (sPopAt i fa) :=
  PS.imp (ps_expr h hsw) fun D σ H ⟨p, c, ρ, F, F0, H0, E, s, h, t⟩ => by
  unfold sPopAt at h
  split at h
  · rename_i l hi
    obtain ⟨a, xs, e1, e2, e3, e4, e5, r0⟩ := s.own i l hi
    obtain ⟨F2, es, w2, k⟩ := s.lend
    refine ⟨_, e1, .inl ⟨rfl, _, .inl (.inl e2)⟩, p, c, _, F2, _, es, h, fun d c1 v F1 H1 w1 ok1 r1 q1 => ?_⟩
    obtain ⟨F3, s1, w3, k1, k2, _⟩ := k c1 F1 H1 w1 ok1
    obtain ⟨a', xs', g1, g2, g3, g4, g5, r0'⟩ := s1.own i l hi
    rw [e1] at g1
    cases g1
    split at q1
    · rename_i j
      cases (show v = .int j from r1)
      obtain ⟨⟨j0, j1, j2⟩, q⟩ := q1
      have hl := r0'.len
      have hlt : j.toNat < xs'.length := by omega
      exact ⟨a, xs', j, j.toNat, xs'[j.toNat], rfl, rfl, g2, by omega, by omega, by rw [hl]; exact seq_ix j0 j1, List.getElem?_eq_getElem hlt, t.nx c1 _ _ F3 _ (s1.put hi e1 (r0'.erase _)) q⟩
    · exact q1.elim
  · exact h.elim
/-- x.append(y.pop(i)) -/
@[simp ↓] def sAppPop (i j : Nat) (fe : FE) : FS := fun E ρ c => match ρ[i]?, ρ[j]? with
  | some (.own l), some (.own m) => fe (ρ.map vB) c fun d c => match d with
    | .int k => (0 ≤ k ∧ k < m.length ∧ k < 2 ^ 62 ∧ l.length < 16777216) ∧ ∀ x, m[k.toNat]? = some x → E.nx ((ρ.set j (.own (m.eraseIdx k.toNat))).set i (.own (l ++ [x]))) c
    | _ => False
  | _, _ => False
abbrev sAppPopB := sAppPop
theorem sx_appPop (i j : Nat) (h : PE X e (tBM X.K "list" rAppend (tVar i) (tCons (tBM X.K "list" rPopAt (tVar j) (tCons (tE X.K fa) tNil)) tNil))) (hij : i ≠ j := by decide) (hsw : swapsWith e none pos.line X.env = pure false := by rfl) : SX X (.Expr e pos) (sAppPop i j fa) :=
  PS.imp (ps_expr h hsw) fun D σ H ⟨p, c, ρ, F, F0, H0, E, s, h, t⟩ => by
  unfold sAppPop at h
  split at h
  · rename_i l m hi hj
    obtain ⟨a, xs, e1, e2, e3, e4, e5, r0⟩ := s.own i l hi
    obtain ⟨b, ys, f1, f2, f3, f4, f5, r00⟩ := s.own j m hj
    obtain ⟨F2, es, w2, k⟩ := s.lend
    refine ⟨_, e1, .inl ⟨rfl, _, .inl (.inl e2)⟩, _, f1, .inl ⟨rfl, _, .inl (.inl f2)⟩, p, c, _, F2, _, es, h, fun d c1 v F1 H1 w1 ok1 r1 q1 => ?_⟩
    obtain ⟨F3, s1, w3, k1, k2, _⟩ := k c1 F1 H1 w1 ok1
    obtain ⟨b', ys', g1, g2, g3, g4, g5, r0'⟩ := s1.own j m hj
    rw [f1] at g1
    cases g1
    split at q1
    · rename_i kk
      cases (show v = .int kk from r1)
      obtain ⟨⟨j0, j1, j2, j3⟩, q⟩ := q1
      have hl := r0'.len
      have hlt : kk.toNat < ys'.length := by omega
      obtain ⟨x, m1, m2⟩ := r0'.back (List.getElem?_eq_getElem hlt)
      have s2 := s1.put hj f1 (r0'.erase kk.toNat)
      have hi2 : (ρ.set j (SV.own (m.eraseIdx kk.toNat)))[i]? = some (SV.own l) := by rw [List.getElem?_set_ne (Ne.symm hij)]; exact hi
      obtain ⟨a2, xs2, z1, z2, z3, z4, z5, z6⟩ := s2.own i l hi2
      rw [e1] at z1
      cases z1
      refine ⟨b, ys', kk, kk.toNat, ys'[kk.toNat], rfl, rfl, g2, by omega, by omega, by rw [hl]; exact seq_ix j0 j1, List.getElem?_eq_getElem hlt, ?_⟩
      exact ⟨a, xs2, _, rfl, rfl, z2, by rw [line16, z6.len]; exact j3, t.nx c1 _ _ F3 _ (s2.put hi2 e1 (z6.app (RepL.single m2))) (q x m1)⟩
    · exact q1.elim
  · exact h.elim
/-- x.insert(i, e) -/
@[simp ↓] def sIns (i : Nat) (fi fe : FE) : FS := fun E ρ c => match ρ[i]? with
  | some (.own l) => fi (ρ.map vB) c fun d c => fe (ρ.map vB) c fun y c => match d with
    | .int k => (0 ≤ k ∧ k < 2 ^ 62 ∧ l.length < 16777216) ∧ noLst y = true ∧ E.nx (ρ.set i (.own (l.take k.toNat ++ [y] ++ l.drop k.toNat))) c
    | _ => False
  | _ => False
abbrev rInsert : V → List V → Hp → VK → Prop := fun x vs H Q => ∃ (l : Addr) (xs : List V) (i : Int) (y : V), x = .ref l ∧ vs = [.int i, y] ∧ H l = some (.lst xs) ∧ xs.length < sizeLine ∧ 0 ≤ i ∧ i < 2 ^ 63 ∧ Q .non (upd H l (.lst (xs.take i.toNat ++ [y] ++ xs.drop i.toNat)))
theorem sx_ins (i : Nat) (h : PE X e (tBM X.K "list" rInsert (tVar i) (tCons (tE X.K fa) (tCons (tE X.K fb) tNil)))) (hsw : swapsWith e none pos.line X.env = pure false := by rfl) : SX X (.Expr e pos) (sIns i fa fb) :=
  PS.imp (ps_expr h hsw) fun D σ H ⟨p, c, ρ, F, F0, H0, E, s, h, t⟩ => by
  unfold sIns at h
  split at h
  · rename_i l hi
    obtain ⟨a, xs, e1, e2, e3, e4, e5, r0⟩ := s.own i l hi
    obtain ⟨F2, es, w2, k⟩ := s.lend
    refine ⟨_, e1, .inl ⟨rfl, _, .inl (.inl e2)⟩, p, c, _, F2, _, es, h, fun d c1 v F1 H1 w1 ok1 r1 q1 => ⟨p, c1, _, F1, _, es.fwd w1 ok1, q1, fun y c4 u F4 H4 w4 ok4 r4 q4 => ?_⟩⟩
    obtain ⟨F3, s1, w3, k1, k2, _⟩ := k c4 F4 H4 (w1.trans w4) ok4
    obtain ⟨a', xs', g1, g2, g3, g4, g5, r0'⟩ := s1.own i l hi
    rw [e1] at g1
    cases g1
    split at q4
    · rename_i j
      cases (show v = .int j from r1)
      obtain ⟨⟨j0, j1, j2⟩, nl, q⟩ := q4
      exact ⟨a, xs', j, u, rfl, rfl, g2, by rw [line16, r0'.len]; exact j2, j0, by omega, t.nx c4 _ _ F3 _ (s1.put hi e1 (((r0'.take _).app (RepL.single (k1 _ _ nl r4))).app (r0'.drop _))) q⟩
    · exact q4.elim
  · exact h.elim
/-- x[i] = e -/
@[simp ↓] def sSet (i : Nat) (fe fi : FE) : FS := fun E ρ c => match ρ[i]? with
  | some (.own l) => fe (ρ.map vB) c fun y c => fi (ρ.map vB) c fun d c => match d with
    | .int k => (0 ≤ k ∧ k < l.length) ∧ noLst y = true ∧ E.nx (ρ.set i (.own (l.set k.toNat y))) c
    | _ => False
  | _ => False
abbrev sSetB := sSet
theorem RepL.set {p : Pn} {F : Hp} {d : D} {v : V} (hd : Rep K p F d v) : ∀ {l : List D} {xs : List V} (n : Nat), RepL K p F l xs → RepL K p F (l.set n d) (xs.set n v)
  | [], _, n, h => by cases h; exact rfl
  | _ :: l, _, 0, h => by
    obtain ⟨x, r, rfl, _, h⟩ := h
    exact ⟨v, r, rfl, hd, h⟩
  | _ :: l, _, n + 1, h => by
    obtain ⟨x, r, rfl, h1, h⟩ := h
    exact ⟨x, _, rfl, h1, RepL.set hd n h⟩
theorem sx_setB {st : Stmt} (i : Nat) (h : PS X st (tAsg (tE X.K fa) (gSub (tVar i) (tE X.K fb) rSetL))) : SX X st (sSet i fa fb) := PS.imp h fun D σ H ⟨p, c, ρ, F, F0, H0, E, s, h, t⟩ => by
  unfold sSet at h
  split at h
  · rename_i l hi
    obtain ⟨a, xs, e1, e2, e3, e4, e5, r0⟩ := s.own i l hi
    obtain ⟨F2, es, w2, k⟩ := s.lend
    refine ⟨p, c, _, F2, _, es, h, fun y c1 v F1 H1 w1 ok1 r1 q1 => ⟨_, e1, p, c1, _, F1, _, es.fwd w1 ok1, q1, fun d c4 u F4 H4 w4 ok4 r4 q4 => ?_⟩⟩
    obtain ⟨F3, s1, w3, k1, k2, _⟩ := k c4 F4 H4 (w1.trans w4) ok4
    obtain ⟨a', xs', g1, g2, g3, g4, g5, r0'⟩ := s1.own i l hi
    rw [e1] at g1
    cases g1
    split at q4
    · rename_i j
      cases (show u = .int j from r4)
      obtain ⟨⟨j0, j1⟩, nl, q⟩ := q4
      exact ⟨a, xs', j, j.toNat, rfl, rfl, g2, by rw [r0'.len]; unfold ixN; rw [if_pos j0, if_pos j1], t.nx c4 _ _ F3 _ (s1.put hi e1 (RepL.set (k1 _ _ nl (r1.mono w4.frz)) _ r0')) q⟩
    · exact q4.elim
  · exact h.elim
theorem sx_set {st : Stmt} (i : Nat) (h : PS X st (tAsg (tE X.K fa) (gSub (tVar i) (tE X.K fb) rSetL))) : SX X st (sSet i fa fb) := sx_setB i h
/-- x[i], x[j] = e -/
@[simp ↓] def sSwap (i : Nat) (fe fi fj : FE) : FS := fun E ρ c => match ρ[i]? with
  | some (.own l) => fe (ρ.map vB) c fun y c => match y with
    | .tup [y, z] => fi (ρ.map vB) c fun d c => match d with
      | .int k => (0 ≤ k ∧ k < l.length) ∧ noLst y = true ∧ noLst z = true ∧ fj ((ρ.set i (.own (l.set k.toNat y))).map vB) c fun d c => match d with
        | .int m => (0 ≤ m ∧ m < l.length) ∧ E.nx (ρ.set i (.own ((l.set k.toNat y).set m.toNat z))) c
        | _ => False
      | _ => False
    | _ => False
  | _ => False
theorem sx_swap {st : Stmt} {fj : FE} (i : Nat) (h : PS X st (tAsg (tE X.K fa) (gTup X.K 2 (gCons (gSub (tVar i) (tE X.K fb) rSetL) (gCons (gSub (tVar i) (tE X.K fj) rSetL) gNil))))) : SX X st (sSwap i fa fb fj) := PS.imp h fun D σ H ⟨p, c, ρ, F, F0, H0, E, s, h, t⟩ => by
  unfold sSwap at h
  split at h
  · rename_i l hi
    obtain ⟨a, xs, e1, e2, e3, e4, e5, r0⟩ := s.own i l hi
    obtain ⟨F2, es, w2, k⟩ := s.lend
    refine ⟨p, c, _, F2, _, es, h, fun y c1 v F1 H1 w1 ok1 r1 q1 => ?_⟩
    split at q1
    · rename_i y z
      obtain ⟨tp, tys, rfl, ht, rt⟩ := r1
      obtain ⟨v1, v2, rfl, ry, rz⟩ := rt.two
      refine ⟨tp, [v1, v2], rfl, ok1.sqT ht, rfl, v1, [v2], rfl, _, e1, p, c1, _, F1, _, es.fwd w1 ok1, q1, fun d c4 u F4 H4 w4 ok4 r4 q4 => ?_⟩
      obtain ⟨F3, s1, w3, k1, k2, _⟩ := k c4 F4 H4 (w1.trans w4) ok4
      obtain ⟨a', xs', g1, g2, g3, g4, g5, r0'⟩ := s1.own i l hi
      rw [e1] at g1
      cases g1
      split at q4
      · rename_i j
        cases (show u = .int j from r4)
        obtain ⟨⟨j0, j1⟩, ny, nz, q⟩ := q4
        have hil : i < ρ.length := (List.getElem?_eq_some_iff.mp hi).1
        have s5 := s1.put hi e1 (RepL.set (k1 _ _ ny (ry.mono w4.frz)) j.toNat r0')
        have rz5 := k1 _ _ nz (rz.mono w4.frz)
        refine ⟨a, xs', j, j.toNat, rfl, rfl, g2, by rw [r0'.len]; unfold ixN; rw [if_pos j0, if_pos j1], v2, [], rfl, _, e1, ?_⟩
        obtain ⟨F6, es6, w6, k6⟩ := s5.lend
        refine ⟨p, c4, _, F6, _, es6, q, fun d c7 u F7 H7 w7 ok7 r7 q7 => ?_⟩
        obtain ⟨F8, s8, w8, k8, _⟩ := k6 c7 F7 H7 w7 ok7
        have hi8 : (ρ.set i (SV.own (l.set j.toNat y)))[i]? = some (SV.own (l.set j.toNat y)) := List.getElem?_set_self hil
        obtain ⟨a8, xs8, z1, z2, z3, z4, z5, z6⟩ := s8.own i _ hi8
        rw [e1] at z1
        cases z1
        split at q7
        · rename_i m
          cases (show u = .int m from r7)
          obtain ⟨⟨m0, m1⟩, q⟩ := q7
          have hl8 := z6.len
          rw [List.length_set] at hl8
          refine ⟨a, xs8, m, m.toNat, rfl, rfl, z2, by rw [hl8]; unfold ixN; rw [if_pos m0, if_pos m1], rfl, ?_⟩
          have s9 := s8.put hi8 e1 (RepL.set (rz5.mono w8.frz) m.toNat z6)
          rw [List.set_set] at s9
          exact t.nx c7 _ _ F8 _ s9 q
        · exact q7.elim
      · exact q4.elim
    · exact q1.elim
  · exact h.elim
end
end L3

/-! L3, more built-ins. -/
namespace L3
open PySem PySem.Spec PyProof.Rows L2
section
variable {K : PySem.W.Frag} {X : Cx} {e a b tg : Expr} {es : List Expr} {fa fb : FE} {fr : FA} {pos : Pos} {f f2 : FL}
/-! in, not in: data at any depth -/
@[simp ↓] def inD : D → D → Nat → KD → Prop
  | x, .lst l, c, Q => (pyD 64 x = true ∧ pyDL 63 l = true) ∧ Q (.bl (l.any fun z => eqvD z x)) c
  | x, .tup l, c, Q => (pyD 64 x = true ∧ pyDL 63 l = true) ∧ Q (.bl (l.any fun z => eqvD z x)) c
  | _, _, _, _ => False
@[simp ↓] def ninD : D → D → Nat → KD → Prop
  | x, .lst l, c, Q => (pyD 64 x = true ∧ pyDL 63 l = true) ∧ Q (.bl (!l.any fun z => eqvD z x)) c
  | x, .tup l, c, Q => (pyD 64 x = true ∧ pyDL 63 l = true) ∧ Q (.bl (!l.any fun z => eqvD z x)) c
  | _, _, _, _ => False
theorem any_toPy : ∀ {l : List D} {ds : List PyData} {x : D} {d : PyData}, toPyL l = some ds → toPy x = some d → (ds.any fun z => PyData.eqv z d) = l.any fun z => eqvD z x
  | [], _, _, _, h, _ => by
    simp [toPyL] at h
    subst h
    rfl
  | y :: l, _, x, _, h, hx => by
    unfold toPyL at h
    split at h
    · rename_i e r e1 e2
      cases h
      rw [List.any_cons, List.any_cons, eqv_toPy y x e1 hx, any_toPy e2 hx]
    · cases h
theorem shapedL_of {ds : List PyData} (h1 : PyData.canLayAll0 ds = true) (h2 : PyData.depthAll ds ≤ 63) : SeqAt.shaped (.list ds) = true := shaped_of (by unfold PyData.canLay0; exact h1) (by unfold PyData.depth; omega)
theorem shapedT_of {ds : List PyData} (h1 : PyData.canLayAll0 ds = true) (h2 : PyData.depthAll ds ≤ 63) : SeqAt.shaped (.tuple ds) = true := shaped_of (by unfold PyData.canLay0; exact h1) (by unfold PyData.depth; omega)
def rIn3 (K : PySem.W.Frag) : R2 := fun x y H Q => ∃ d ds, Dp K H x d ∧ (Dp K H y (.list ds) ∧ SeqAt.shaped (.list ds) = true ∨ Dp K H y (.tuple ds) ∧ SeqAt.shaped (.tuple ds) = true) ∧ SeqAt.shaped d = true ∧ Q (.bl (ds.any fun z => PyData.eqv z d)) H
def rNin3 (K : PySem.W.Frag) : R2 := fun x y H Q => ∃ d ds, Dp K H x d ∧ (Dp K H y (.list ds) ∧ SeqAt.shaped (.list ds) = true ∨ Dp K H y (.tuple ds) ∧ SeqAt.shaped (.tuple ds) = true) ∧ SeqAt.shaped d = true ∧ Q (.bl (!ds.any fun z => PyData.eqv z d)) H
theorem room_in_t {d : PyData} {ds : List PyData} {u : Nat} (sd : SeqAt.shaped d = true) (hu : u + 65 < cLine) : u + 1 + min (PyData.depthAll ds) d.depth < cLine := by
  have h : d.depth ≤ 64 := by
    unfold SeqAt.shaped at sd
    rw [Bool.and_eq_true] at sd
    exact of_decide_eq_true sd.2
  have := Nat.min_le_right (PyData.depthAll ds) d.depth
  omega
theorem op_in3 (hu : X.A.units + 65 < cLine) : OpR X (compareOp .In) (rIn3 X.K) := by
  intro pins s σ H x y v u Q I rx ry h
  obtain ⟨d, ds, hd, he, sd, q⟩ := h
  obtain ⟨as, r1⟩ := Dp.reads I d x v hd rx
  rcases he with ⟨he, se⟩ | ⟨he, se⟩
  · obtain ⟨bs, r2⟩ := Dp.reads I (.list ds) y u he ry
    exact SeqAt.in_list_reads r2 r1 (SeqAt.canLay_of_shaped se) (SeqAt.canLay_of_shaped sd) (room_in_t sd hu) ⟨.bl _, H, I, rfl, q⟩
  · obtain ⟨bs, r2⟩ := Dp.reads I (.tuple ds) y u he ry
    exact SeqAt.in_tuple_reads r2 r1 (SeqAt.canLay_of_shaped se) (SeqAt.canLay_of_shaped sd) (room_in_t sd hu) ⟨.bl _, H, I, rfl, q⟩
theorem op_nin3 (hu : X.A.units + 65 < cLine) : OpR X (compareOp .NotIn) (rNin3 X.K) := by
  intro pins s σ H x y v u Q I rx ry h
  obtain ⟨d, ds, hd, he, sd, q⟩ := h
  obtain ⟨as, r1⟩ := Dp.reads I d x v hd rx
  rcases he with ⟨he, se⟩ | ⟨he, se⟩
  · obtain ⟨bs, r2⟩ := Dp.reads I (.list ds) y u he ry
    exact SeqAt.notIn_list_reads r2 r1 (SeqAt.canLay_of_shaped se) (SeqAt.canLay_of_shaped sd) (room_in_t sd hu) ⟨.bl _, H, I, rfl, q⟩
  · obtain ⟨bs, r2⟩ := Dp.reads I (.tuple ds) y u he ry
    exact SeqAt.notIn_tuple_reads r2 r1 (SeqAt.canLay_of_shaped se) (SeqAt.canLay_of_shaped sd) (room_in_t sd hu) ⟨.bl _, H, I, rfl, q⟩
theorem inS : OpS K (rIn3 K) inD := by
  intro p c F H x y v u Q' Q ok rx ry h t
  unfold inD at h
  split at h
  · obtain ⟨⟨p1, p2⟩, h⟩ := h
    obtain ⟨d, h1, a1, a2⟩ := toPy_of p1
    obtain ⟨ds, h2, b1, b2⟩ := toPyL_of p2
    rw [← any_toPy h2 h1] at h
    exact ⟨d, ds, rx.dp ok.sub h1, .inl ⟨ry.dp ok.sub (show toPy (.lst _) = some (.list ds) by unfold toPy; rw [h2]; rfl), shapedL_of b1 b2⟩, shaped_of a1 a2, tellBl ok t h⟩
  · obtain ⟨⟨p1, p2⟩, h⟩ := h
    obtain ⟨d, h1, a1, a2⟩ := toPy_of p1
    obtain ⟨ds, h2, b1, b2⟩ := toPyL_of p2
    rw [← any_toPy h2 h1] at h
    exact ⟨d, ds, rx.dp ok.sub h1, .inr ⟨ry.dp ok.sub (show toPy (.tup _) = some (.tuple ds) by unfold toPy; rw [h2]; rfl), shapedT_of b1 b2⟩, shaped_of a1 a2, tellBl ok t h⟩
  · exact h.elim
theorem ninS : OpS K (rNin3 K) ninD := by
  intro p c F H x y v u Q' Q ok rx ry h t
  unfold ninD at h
  split at h
  · obtain ⟨⟨p1, p2⟩, h⟩ := h
    obtain ⟨d, h1, a1, a2⟩ := toPy_of p1
    obtain ⟨ds, h2, b1, b2⟩ := toPyL_of p2
    rw [← any_toPy h2 h1] at h
    exact ⟨d, ds, rx.dp ok.sub h1, .inl ⟨ry.dp ok.sub (show toPy (.lst _) = some (.list ds) by unfold toPy; rw [h2]; rfl), shapedL_of b1 b2⟩, shaped_of a1 a2, tellBl ok t h⟩
  · obtain ⟨⟨p1, p2⟩, h⟩ := h
    obtain ⟨d, h1, a1, a2⟩ := toPy_of p1
    obtain ⟨ds, h2, b1, b2⟩ := toPyL_of p2
    rw [← any_toPy h2 h1] at h
    exact ⟨d, ds, rx.dp ok.sub h1, .inr ⟨ry.dp ok.sub (show toPy (.tup _) = some (.tuple ds) by unfold toPy; rw [h2]; rfl), shapedT_of b1 b2⟩, shaped_of a1 a2, tellBl ok t h⟩
  · exact h.elim
/-! is True, is False -/
@[simp ↓] def isBD : D → D → Nat → KD → Prop
  | .bl x, .bl y, c, Q => Q (.bl (decide (x = y))) c
  | _, _, _, _ => False
@[simp ↓] def isNotBD : D → D → Nat → KD → Prop
  | .bl x, .bl y, c, Q => Q (.bl (!decide (x = y))) c
  | _, _, _, _ => False
theorem isBS : OpS K rIsB isBD := by
  intro p c F H x y v u Q' Q ok rx ry h t
  unfold isBD at h
  split at h
  · rename_i i j
    cases (show v = .bl i from rx)
    cases (show u = .bl j from ry)
    exact ⟨i, j, rfl, rfl, tellBl ok t h⟩
  · exact h.elim
theorem isNotBS : OpS K rNotB isNotBD := by
  intro p c F H x y v u Q' Q ok rx ry h t
  unfold isNotBD at h
  split at h
  · rename_i i j
    cases (show v = .bl i from rx)
    cases (show u = .bl j from ry)
    exact ⟨i, j, rfl, rfl, tellBl ok t h⟩
  · exact h.elim
/-! three targets -/
@[simp ↓] def sPar3 (i j k : Nat) (fr : FA) : FS := fun E ρ c => fr (ρ.map vA) c fun l c => match l with | [x, y, z] => E.nx (((ρ.set i (.val x)).set j (.val y)).set k (.val z)) c | _ => False
theorem sx_par3 {i j k : Nat} {c : Expr} {x y z : Str} {px py pz pt : Pos} {kt k2 pt2} (hc : X.calm = true) (hN : X.N.Nodup) (ha : AX X [a, b, c] fr) (hij : i ≠ j := by decide) (hil : i ≠ k := by decide) (hjl : j ≠ k := by decide) (hi : X.N[i]? = some x := by rfl) (hj : X.N[j]? = some y := by rfl) (hl : X.N[k]? = some z := by rfl)
    (hx : X.env.scope.names.lookup x = some .local := by rfl) (hy : X.env.scope.names.lookup y = some .local := by rfl) (hz : X.env.scope.names.lookup z = some .local := by rfl)
    (hw : swappedStores [.Tuple [.Name x px, .Name y py, .Name z pz] kt pt] (.Tuple [a, b, c] k2 pt2) X.env = pure (some [x, y, z]) := by rfl)
    (hs : swapsWithSole [.Tuple [.Name x px, .Name y py, .Name z pz] kt pt] (.Tuple [a, b, c] k2 pt2) pos.line X.env = pure false := by rfl) :
    SX X (.Assign [.Tuple [.Name x px, .Name y py, .Name z pz] kt pt] (.Tuple [a, b, c] k2 pt2) pos) (sPar3 i j k fr) := by
  refine PS.imp (ps_par3 hc hN hi hj hl hij hil hjl hx hy hz ha hw hs) fun D σ H ⟨p, c, ρ, F, F0, H0, E, s, h, t⟩ => ⟨p, c, _, F, _, s.e, h, fun l c1 vs F1 H1 w1 ok1 r1 q1 => ?_⟩
  split at q1
  · obtain ⟨v, r, rfl, r1, r2⟩ := r1
    obtain ⟨u, w, rfl, r2, r3⟩ := r2.two
    exact ⟨v, u, w, rfl, t.nx c1 _ _ F1 H1 ((((s.fwd w1 ok1).set i r1).set j r2).set k r3) q1⟩
  · exact q1.elim
/-! a list taken apart -/
theorem pg_lst {es : List Expr} {k : Nat} {t : TGs} {n : Nat} (hc : X.calm = true) (h : PGs X es t) (hn : (assignEach es X.env).length = n := by rfl) (hst : (assignEach es X.env).findIdx? (·.1) = none := by rfl) : PG X (.Tuple es k pos) (gUnl X.K n t) := pg_unl hc h hn hst
theorem kg_lst {is : List Nat} {gs : FGs} {gls : TGs} {n : Nat} (h1 : KGs K is gs gls) : KG K is (gLs n gs) (gUnl K n gls) := ⟨fun p c ρ σ F H F0 H0 d v k kk s r h q => by
  unfold gLs at h
  split at h
  · obtain ⟨a, xs, rfl, e1, r1⟩ := r
    exact ⟨a, xs, rfl, .of (s.ok.sub _ _ e1), by rw [r1.len]; exact h.1, h1.k p c ρ σ F H F0 H0 _ _ _ _ s r1 h.2 q⟩
  · exact h.elim⟩
/-! ranges -/
def rangeC (lo c : Int) (n : Nat) : List D := (List.range n).map fun k => .int (lo + (k : Nat) * c)
theorem rangeC_get (lo c : Int) (n i : Nat) (h : i < n) : (rangeC lo c n)[i]? = some (.int (lo + (i : Nat) * c)) := by
  unfold rangeC
  rw [List.getElem?_map, List.getElem?_range h]
  rfl
theorem rangeC_len (lo c : Int) (n : Nat) : (rangeC lo c n).length = n := by
  unfold rangeC
  rw [List.length_map, List.length_range]
/-- range(i, j, k) -/
def rszL (i j k : Int) : Nat := (Builtin.Range.rangeSize i j k).toNat
theorem rsz_le {i j k : Int} (hi : i.natAbs ≤ 8000000) (hj : j.natAbs ≤ 8000000) : rszL i j k ≤ 16777216 := by
  have := PyProof.Rows.rangeSize_toNat_le i j k
  unfold rszL
  omega
theorem rgc_of {i j k : Int} (k0 : k ≠ 0) (k1 : k.natAbs < 1073741824) (hi : i.natAbs ≤ 8000000) (hj : j.natAbs ≤ 8000000) : RgC i j k (rszL i j k) := by
  have hn := PyProof.Rows.rangeSize_toNat i j k
  have hl := PyProof.Rows.rangeSize_toNat_le i j k
  refine ⟨k0, k1, ?_, hn⟩
  unfold Builtin.Range.small
  generalize Builtin.Range.rangeSize i j k = z at hn hl
  by_cases kp : k > 0
  · simp only [Builtin.Range.rangeFitsLong, Bool.and_eq_true, Bool.or_eq_true, decide_eq_true_eq, beq_iff_eq, if_pos kp]
    omega
  · simp only [Builtin.Range.rangeFitsLong, Bool.and_eq_true, Bool.or_eq_true, decide_eq_true_eq, beq_iff_eq, if_neg kp]
    omega
@[simp ↓] def iR3 (fa : FA) : FI := fun ρ c Q => fa ρ c fun l c => match l with
  | [.int i, .int j, .int k] => (k ≠ 0 ∧ k.natAbs < 1073741824 ∧ i.natAbs ≤ 8000000 ∧ j.natAbs ≤ 8000000) ∧ Q (rangeC i k (rszL i j k)) c
  | _ => False
theorem ix_range3 {a b c : Expr} {p' pos : Pos} (hm : X.mg "range" = none) (ha : AX X [a, b, c] fr) (hg : Gl X "range" := by rfl) (hs : starEach [a, b, c] X.env = (false, eval a X.env) :: starEach [b, c] X.env := by rfl) (hpl : (backTo pos (starEach [b, c] X.env)).any (·.1) = false := by rfl) : IX X tg (.Call (.Name "range" p') [a, b, c] [] pos) (iR3 fr) :=
  ⟨_, pi_range3 hg hm ha hs hpl, fun σ H p c ρ F Q' R es h k => ⟨p, c, ρ, F, _, es, h, fun l c1 vs F1 H1 w1 ok1 r1 q1 => by
  split at q1
  · rename_i i j kk
    obtain ⟨⟨b1, b2, b3, b4⟩, q⟩ := q1
    obtain ⟨v, r, rfl, e1, r2⟩ := r1
    obtain ⟨v2, v3, rfl, e2, e3⟩ := r2.two
    cases (show v = .int i from e1)
    cases (show v2 = .int j from e2)
    cases (show v3 = .int kk from e3)
    refine ⟨i, j, kk, rszL i j kk, rfl, rgc_of b1 b2 b3 b4, k _ c1 F1 H1 _ w1 ok1 ⟨by rw [rangeC_len]; exact rsz_le b3 b4, fun n F H c up ok => ?_⟩ q⟩
    rw [rangeC_len]
    refine ⟨fun hi => ⟨hi, fun x H' y => ?_⟩, fun hi => Nat.le_of_eq hi.symm⟩
    obtain ⟨rfl, rfl⟩ := y
    exact ⟨F, _, rangeC_get i kk _ n hi, .refl .., ok, rfl⟩
  · exact q1.elim⟩⟩
@[simp ↓] def fRange1 (fa : FA) : FL := fun ρ c Q => fa ρ c fun l c => match l with
  | [.int j] => (0 ≤ j ∧ j ≤ 16777216) ∧ Q (rangeL 0 j.toNat) c
  | _ => False
@[simp ↓] def fRange2 (fa : FA) : FL := fun ρ c Q => fa ρ c fun l c => match l with
  | [.int i, .int j] => (0 ≤ i ∧ i ≤ 16777216 ∧ 0 ≤ j ∧ j ≤ 16777216) ∧ Q (rangeL i (j - i).toNat) c
  | _ => False
theorem rep_rg {p : Pn} {F : Hp} (a : Int) : ∀ (l : List Nat), RepL K p F (l.map fun k => D.int (a + (k : Nat))) (l.map fun k => V.int (a + (k : Nat)))
  | [] => rfl
  | k :: l => ⟨_, _, rfl, rfl, rep_rg a l⟩
theorem fx_range1 {x : Expr} {p p2 p3 : Pos} (hm : X.mg "list" = none) (hm2 : X.mg "range" = none) (hx : EX X x fa) (hc : X.calm = true := by rfl) (hg : Gl X "list" := by rfl) (hg2 : Gl X "range" := by rfl)
    (na : starEach [x] X.env = (false, eval x X.env) :: starEach [] X.env := by rfl) (na2 : starEach [.Call (.Name "range" p) [x] [] p2] X.env = (false, eval (.Call (.Name "range" p) [x] [] p2) X.env) :: starEach [] X.env := by rfl) :
    FX X (.Call (.Name "list" p3) [.Call (.Name "range" p) [x] [] p2] [] pos) (fRange1 (aCons fa aNil)) := PE.imp (pe_listRg hc hg hm (prg_1 hg2 hm2 hx na) na2) fun σ H Q ⟨p, c, ρ, F, Q', es, h, t⟩ =>
  ⟨p, c, ρ, F, _, es, h, fun d c1 v F1 H1 w1 ok1 r1 q1 => by
    have q1 : (match [d] with | [.int j] => (0 ≤ j ∧ j ≤ 16777216) ∧ Q' (rangeL 0 j.toNat) c1 | _ => False) := q1
    split at q1
    · rename_i j e
      cases e
      cases (show v = .int j from r1)
      refine ⟨j, rfl, ⟨by decide, by decide, by omega, by omega, by omega⟩, fun q nq => ?_⟩
      obtain ⟨w, ok, n1, n2, n3⟩ := layL w1 ok1 nq (rgV 0 j)
      refine t (rangeL 0 j.toNat) c1 q (rgV 0 j) F1 _ w ok n1 n2 n3 upd_same ?_ q1.2
      unfold rgV rangeL
      rw [show j - 0 = j by omega]
      exact rep_rg 0 _
    · exact q1.elim⟩
/-! zip -/
def zipL : List D → List D → List D
  | x :: l, y :: m => .tup [x, y] :: zipL l m
  | _, _ => []
theorem zipL_len : ∀ l m : List D, (zipL l m).length = min l.length m.length
  | [], _ => by simp [zipL]
  | _ :: _, [] => by simp [zipL]
  | x :: l, y :: m => by
    show (zipL l m).length + 1 = min (l.length + 1) (m.length + 1)
    rw [zipL_len, Nat.add_min_add_right]
theorem zipL_get : ∀ (l m : List D) (i : Nat) (x y : D), l[i]? = some x → m[i]? = some y → (zipL l m)[i]? = some (.tup [x, y])
  | [], _, _, _, _, h, _ => by simp at h
  | _ :: _, [], _, _, _, _, h => by simp at h
  | x :: l, y :: m, 0, _, _, h, h' => by
    cases (show some x = some _ from h)
    cases (show some y = some _ from h')
    rfl
  | x :: l, y :: m, i + 1, _, _, h, h' => zipL_get l m i _ _ h h'
@[simp ↓] def iZip3 (fa fb : FE) : FI := fun ρ c Q => fa ρ c fun x c => fb ρ c fun y c => match x, y with
  | .lst l, .lst m => (l.length ≤ 16777216 ∧ m.length ≤ 16777216) ∧ Q (zipL l m) c
  | .tup l, .tup m => (l.length ≤ 16777216 ∧ m.length ≤ 16777216) ∧ Q (zipL l m) c
  | _, _ => False
theorem ix_zip {p' tpos : Pos} {elts : List Expr} {kk : Nat} (hm : X.mg "zip" = none) (ha : EX X a fa) (hb : EX X b fb) (hg : Gl X "zip" := by rfl) (hs1 : starEach [b] X.env = (false, eval b X.env) :: starEach [] X.env := by rfl) (hs : starEach [a, b] X.env = (false, eval a X.env) :: starEach [b] X.env := by rfl) (hpl : (backTo pos (starEach [b] X.env)).any (·.1) = false := by rfl) :
    IX X (.Tuple elts kk tpos) (.Call (.Name "zip" p') [a, b] [] pos) (iZip3 fa fb) :=
  ⟨_, RZ.pi_zipA hg hm (pa_cons ha (pa_cons hb pa_nil hs1) hs) hs hpl, fun σ H p c ρ F Q' R es h k => ⟨p, c, ρ, F, _, es, h, fun x c1 v F1 H1 w1 ok1 r1 q1 => ⟨p, c1, ρ, F1, _, es.fwd w1 ok1, q1, fun y c2 u F2 H2 w2 ok2 r2 q2 => by
  split at q2
  · rename_i l m
    obtain ⟨a1, xs, rfl, h1, rl⟩ := r1.mono w2.frz
    obtain ⟨a2, ys, rfl, h2, rm⟩ := r2
    refine ⟨a1, a2, xs, ys, rfl, .inl ⟨.of (ok2.sub _ _ h1), .of (ok2.sub _ _ h2), k _ c2 F2 H2 _ (w1.trans w2) ok2 ⟨by rw [zipL_len]; omega, fun i F H c up ok => ?_⟩ q2.2⟩⟩
    have hH1 : SqL X.K H a1 xs := .of (ok.sub _ _ (up _ _ h1))
    have hH2 : SqL X.K H a2 ys := .of (ok.sub _ _ (up _ _ h2))
    rw [zipL_len]
    refine ⟨fun hi => ⟨⟨xs, ys, xs[i]'(by rw [rl.len]; omega), ys[i]'(by rw [rm.len]; omega), hH1, hH2, List.getElem?_eq_getElem _, List.getElem?_eq_getElem _⟩, fun z H' hy => ?_⟩, fun hi => ⟨xs, ys, hH1, hH2, by rw [rl.len, rm.len]; omega⟩⟩
    obtain ⟨T, x1, y1, rfl, nT, rfl, g1, g2⟩ := hy
    obtain ⟨d, e1, e2⟩ := rl.back (g1 xs hH1)
    obtain ⟨d', e3, e4⟩ := rm.back (g2 ys hH2)
    obtain ⟨F', w', ok', r'⟩ := pair_new ok nT (e2.mono up) (e4.mono up)
    exact ⟨F', _, zipL_get l m i d d' e1 e3, w', ok', r'⟩
  · rename_i l m
    obtain ⟨a1, xs, rfl, h1, rl⟩ := r1.mono w2.frz
    obtain ⟨a2, ys, rfl, h2, rm⟩ := r2
    refine ⟨a1, a2, xs, ys, rfl, .inr ⟨ok2.sqT h1, ok2.sqT h2, k _ c2 F2 H2 _ (w1.trans w2) ok2 ⟨by rw [zipL_len]; omega, fun i F H c up ok => ?_⟩ q2.2⟩⟩
    have hH1 : SqT X.K H a1 xs := ok.sqT (Sub.sqT up h1)
    have hH2 : SqT X.K H a2 ys := ok.sqT (Sub.sqT up h2)
    rw [zipL_len]
    refine ⟨fun hi => ⟨⟨xs, ys, xs[i]'(by rw [rl.len]; omega), ys[i]'(by rw [rm.len]; omega), hH1, hH2, List.getElem?_eq_getElem _, List.getElem?_eq_getElem _⟩, fun z H' hy => ?_⟩, fun hi => ⟨xs, ys, hH1, hH2, by rw [rl.len, rm.len]; omega⟩⟩
    obtain ⟨T, x1, y1, rfl, nT, rfl, g1, g2⟩ := hy
    obtain ⟨d, e1, e2⟩ := rl.back (g1 xs hH1)
    obtain ⟨d', e3, e4⟩ := rm.back (g2 ys hH2)
    obtain ⟨F', w', ok', r'⟩ := pair_new ok nT (e2.mono up) (e4.mono up)
    exact ⟨F', _, zipL_get l m i d d' e1 e3, w', ok', r'⟩
  · exact q2.elim⟩⟩⟩
end
end L3

/-! L3, sorted, index, reversed tuples, sets counted, two own lists. -/
namespace HT
open PySem PySem.Spec PyProof.Rows
section
variable {prog : Program} {w : World} {A : Around} {E : Value → Shared → Prop} {s : Shared}
theorem sliceApplied_rev {sl : Addr} {vs : Value} {n : Nat} {Q : Int × Int × Nat → Shared → Prop} (hs : s.heap.IsSliceOf sl .none .none vs) (ps : IsPart vs (some (-1)))
    (h : Q ((n : Int) - 1, -1, n) s) : wpAny (model prog w) A (Builtin.Slice.sliceApplied (.ref sl) (pure (n : Int))) Q E s := by
  obtain ⟨os, hos, hcs, hds⟩ := id hs
  unfold Builtin.Slice.sliceApplied Builtin.Slice.sliceFields
  refine wpAny_bind (wpAny_bind (wpAny_field hos hds (x := .none) rfl (wpAny_bind (wpAny_field hos hds (x := .none) rfl (wpAny_bind (wpAny_field hos hds (x := vs) rfl (wpAny_pure ?_)))))))
  refine wpAny_bind (slicePart_ ps ?_)
  show wpAny _ _ (if ((-1 : Int) == 0) = true then _ else _) _ _ s
  rw [if_neg (by decide)]
  refine wpAny_bind (slicePart_none (wpAny_bind (slicePart_none (wpAny_bind (wpAny_pure ?_)))))
  show wpAny _ _ (pure ((n : Int) - 1, (-1 : Int), Builtin.Slice.slicePlaces ((n : Int) - 1) (-1) (-1))) _ _ s
  have e : Builtin.Slice.slicePlaces ((n : Int) - 1) (-1) (-1) = n := by
    unfold Builtin.Slice.slicePlaces
    have h1 : ¬ ((-1 : Int) > 0) := by omega
    simp only [h1, if_false]
    split
    · have : (-(-1) : Int) = 1 := rfl
      rw [this, Int.ediv_one]
      omega
    · omega
  rw [e]
  exact wpAny_pure h
theorem fm_map {α β : Type} (f : α → Option β) (g : α → β) : ∀ l : List α, (∀ m ∈ l, f m = some (g m)) → l.filterMap f = l.map g
  | [], _ => rfl
  | a :: l, h => by
    rw [List.filterMap_cons, h a (List.mem_cons_self ..), List.map_cons, fm_map f g l fun m hm => h m (List.mem_cons_of_mem _ hm)]
theorem pick_rev (l : List Value) : (List.range l.length).filterMap (fun (m : Nat) => l.toArray[(((l.length : Int) - 1) + (m : Int) * (-1)).toNat]?) = l.reverse := by
  rw [fm_map _ (fun m => (l.reverse)[m]?.getD .none) _ fun m hm => by
    have hm := List.mem_range.mp hm
    have : (((l.length : Int) - 1) + (m : Int) * (-1)).toNat = l.length - 1 - m := by omega
    rw [this, List.getElem?_reverse hm, List.getElem?_toArray, List.getElem?_eq_getElem (by omega)]
    rfl]
  refine List.ext_getElem (by rw [List.length_map, List.length_range, List.length_reverse]) fun i h1 h2 => ?_
  rw [List.getElem_map, List.getElem_range, List.getElem?_eq_getElem h2]
  rfl
theorem getItem_tuple_rev {t sl : Addr} {its : List Value} {vs : Value} {Q : Value → Shared → Prop} (ht : IsTup s.heap t its.toArray) (hs : s.heap.IsSliceOf sl .none .none vs) (ps : IsPart vs (some (-1)))
    (h : Q (.ref s.heap.objs.size) { s with heap := s.heap.push { cls := .type "tuple", data := .seq its.reverse.toArray } })
    (hsz : its.length ≤ sizeLine) : wpAny (model prog w) A (getItem (.ref t) (.ref sl)) Q E s := by
  have htake : sizeOk (.seq its.reverse.toArray) := by
    show its.reverse.toArray.size ≤ sizeLine
    rw [List.size_toArray, List.length_reverse]
    exact hsz
  obtain ⟨os, hos, hcs, hds⟩ := id hs
  have hTs : s.TypeIs (.ref sl) "slice" := ⟨os, hos, hcs⟩
  unfold getItem
  try with_reducible refine wpAny_holding ?_
  first | refine wpAny_bind (wpAny_pure ?_) | skip
  refine wpAny_bind (wpAny_sequenceKey ht.typeIs (by decide) ?_)
  refine wpAny_bind (wpAny_callSpecial?_slot (name := Str.ofString "__getitem__") ht.typeIs PyProof.Rows.slot_tuple_getitem
    (wpAny_call_entry PyProof.Rows.slot_tuple_getitem ht.typeIs entry_tuple_getitem ?_ (args_tuple_getitem _ _)))
  show wpAny _ _ (Builtin.Tuple.tupleItemsOf (.ref t) >>= _) _ _ s
  refine wpAny_bind (tupleItemsOf_ ht ?_)
  refine wpAny_bind (wpAny_typeOf hTs ?_)
  rw [if_pos (by decide)]
  refine wpAny_bind (sliceApplied_rev hs ps ?_)
  have hno : ¬ ((((its.toArray.size : Nat) : Int) - 1 == 0 && (-1 : Int) == 1 && its.toArray.size == its.toArray.size) = true) := by
    intro q
    rw [Bool.and_eq_true, Bool.and_eq_true] at q
    exact absurd q.1.2 (by decide)
  show wpAny _ _ (if ((((its.toArray.size : Nat) : Int) - 1 == 0 && (-1 : Int) == 1 && its.toArray.size == its.toArray.size) = true) then _ else _) _ _ s
  rw [if_neg hno]
  have e : ((List.range its.toArray.size).filterMap fun (m : Nat) => its.toArray[(((its.toArray.size : Nat) : Int) - 1 + (m : Int) * (-1)).toNat]?).toArray = its.reverse.toArray := congrArg List.toArray (pick_rev its)
  rw [e]
  first
    | exact wpAny_bind (m := Builtin.Tuple.tupleExact _) (wpAny_newObj_type (wpAny_pure ⟨_, rfl, wpAny_pure h⟩) htake)
    | exact wpAny_bind (m := Builtin.Tuple.tupleExact _) (wpAny_newObj_type (wpAny_bind (wpAny_pure (wpAny_pure ⟨_, rfl, wpAny_pure h⟩))) htake)
    | exact wpAny_bind (wpAny_bind (m := Builtin.Tuple.tupleExact _) (wpAny_newObj_type (wpAny_pure (wpAny_pure ⟨_, rfl, wpAny_pure h⟩)) htake))
    | exact wpAny_bind (wpAny_bind (m := Builtin.Tuple.tupleExact _) (wpAny_newObj_type (wpAny_pure ⟨_, rfl, wpAny_pure h⟩) htake))
end
end HT
namespace L2
open PySem PySem.Spec PyProof.Rows
section
variable {X : Cx}
def tRevT (K : PySem.W.Frag) (te : TE) : TE := fun σ H Q => te σ H fun x H1 => ∃ a xs, x = .ref a ∧ SqT K H1 a xs ∧ ∀ p, H1 p = none → Q (.ref p) (upd H1 p (.tup xs.reverse))
theorem pe_revT {e : Expr} {te : TE} {k : Nat} {p1 p2 p3 pos : Pos} (he : PE X e te) : PE X (.Subscript e (.Slice none none (some (.UnaryOp .USub (.Constant (.int 1) k p1) p2)) p3) pos) (tRevT X.K te) := by
  refine ⟨fun pins s σ H Q I h => ?_⟩
  refine Subscript_ (thn (he.run pins s σ H _ I h) fun v s1 ⟨x, H1, I1, r1, q1⟩ => ?_)
  obtain ⟨a, xs, ex, hx, q⟩ := q1
  subst ex
  cases r1
  have hst : PO X (some (.UnaryOp .USub (.Constant (.int 1) k p1) p2)) (tPart (tUn (rU fun i => .int (-i)) (tC (.int 1)))) := po_some (pe_un un_neg pe_int)
  refine wpAny_Slice (thn (po_none.run pins s1 σ H1 (fun o H2 => o = none ∧ H2 = H1) I1 ⟨rfl, rfl⟩) fun vl s2 ⟨l, H2, I2, pl, el, e2⟩ => ?_)
  subst el e2
  refine thn (po_none.run pins s2 σ H2 (fun o H3 => o = none ∧ H3 = H2) I2 ⟨rfl, rfl⟩) fun vu s3 ⟨u, H3, I3, pu, eu, e3⟩ => ?_
  subst eu e3
  refine thn (hst.run pins s3 σ H3 (fun o H4 => o = some (-1) ∧ H4 = H3) I3 ⟨1, rfl, -1, rfl, rfl, rfl⟩) fun vs s4 ⟨o, H4, I4, ps, eo, e4⟩ => ?_
  subst eo e4
  cases pl
  cases pu
  have I5 : Inv X pins σ H4 { s4 with heap := s4.heap.push { cls := .type "slice", data := .fields #[.none, .none, vs] } } := I4.kept (t' := s4.toks) fun b ob q => Heap.get?_push_of_some _ q
  obtain ⟨its, r, ht, hz⟩ := I5.tuple hx
  have hlen := r.length
  show wpAny (model X.prog X.w) X.A (subscriptTail e (.Slice none none (some (.UnaryOp .USub (.Constant (.int 1) k p1) p2)) p3) (.ref a) (.ref s4.heap.objs.size)) (EP X pins σ Q) X.xe { s4 with heap := s4.heap.push { cls := .type "slice", data := .fields #[.none, .none, vs] } }
  refine tail_any (ops := [.ref a, .ref s4.heap.objs.size]) ht.typeIs PyProof.Rows.slot_tuple_getitem.lookup ?_ (by with_unfolding_all rfl)
  refine HT.getItem_tuple_rev ht (Heap.IsSliceOf.new _ .none .none vs) ps ?_ (by rw [← hlen]; exact hz)
  refine ⟨.ref _, _, I5.laid (t' := s4.toks) (o := .tup xs.reverse) (fun b ob q => Heap.get?_push_of_some _ q) (Nat.le_refl _) ?_, rfl, q _ (I5.hok.fresh (Nat.le_refl _))⟩
  exact ⟨by rw [List.length_reverse]; exact hz, _, r.reverse, IsTup.new _ _⟩
end
end L2

set_option maxHeartbeats 2000000
/-! L3, a lambda of one parameter handed to a def. -/
namespace L3
open PySem PySem.Spec PyProof.Rows L2
/-- a lambda's names: the one parameter h, captured ones, globals -/
structure LamS1 (sc scope : Scope) (h : Str) : Prop where
  kind : scope.kind = .function
  co : scope.isCoroutine = false
  gen : scope.isGenerator = false
  par : scope.names.lookup h = some .local
  own : ∀ y ∈ scope.names, y.2 ≠ .cell ∧ (y.2 = .local → y.1 = h)
  free : ∀ y ∈ scope.names, y.2 = .free → sc.names.lookup y.1 = some .cell ∨ sc.names.lookup y.1 = some .free
def lamS1B (sc scope : Scope) (h : Str) : Bool :=
  decide (scope.kind = .function) && !scope.isCoroutine && !scope.isGenerator && decide (scope.names.lookup h = some .local) && scope.names.all fun y => !decide (y.2 = .cell) && (!decide (y.2 = .local) || decide (y.1 = h)) && (!decide (y.2 = .free) || decide (sc.names.lookup y.1 = some .cell) || decide (sc.names.lookup y.1 = some .free))
theorem lamS1_of {sc scope : Scope} {h : Str} (q : lamS1B sc scope h = true) : LamS1 sc scope h := by
  unfold lamS1B at q
  simp only [Bool.and_eq_true, Bool.or_eq_true, Bool.not_eq_true', decide_eq_true_eq, decide_eq_false_iff_not, List.all_eq_true] at q
  obtain ⟨⟨⟨⟨h1, h2⟩, h3⟩, h5⟩, h4⟩ := q
  refine ⟨h1, h2, h3, h5, fun y hy => ⟨(h4 y hy).1.1, fun e => ?_⟩, fun y hy e => ?_⟩
  · rcases (h4 y hy).1.2 with z | z
    · exact absurd e z
    · exact z
  · rcases (h4 y hy).2 with (z | z) | z
    · exact absurd e z
    · exact .inl z
    · exact .inr z
/-- the maker's names as the lambda sees them: N2 (its own parameter h not among them), then h -/
def maskB (sc : Scope) (h : Str) : List Str → List Str → Bool
  | [], [] => true
  | a :: l, b :: m => ((decide (b = a) && !decide (b = h)) || decide (sc.names.lookup b = none)) && maskB sc h l m
  | _, _ => false
structure Mask (sc : Scope) (h : Str) (N N2 : List Str) : Prop where
  len : N2.length = N.length
  at_ : ∀ (i : Nat) (y : Str), N2[i]? = some y → Vis sc y → N[i]? = some y ∧ y ≠ h
theorem mask_of {sc : Scope} {h : Str} : ∀ {N N2 : List Str}, maskB sc h N N2 = true → Mask sc h N N2
  | [], [], _ => ⟨rfl, fun i y e => by simp at e⟩
  | a :: l, b :: m, q => by
    unfold maskB at q
    rw [Bool.and_eq_true] at q
    have r := mask_of q.2
    refine ⟨by rw [List.length_cons, List.length_cons, r.len], fun i y e v => ?_⟩
    cases i with
    | zero =>
      cases (show some b = some y from e)
      rcases Bool.or_eq_true_iff.mp q.1 with z | z
      · rw [Bool.and_eq_true] at z
        refine ⟨by rw [of_decide_eq_true z.1]; rfl, fun w => ?_⟩
        have := z.2
        rw [w] at this
        simp at this
      · have z := of_decide_eq_true z
        rcases v with v | v | v <;> rw [z] at v <;> cases v
    | succ i => exact r.at_ i y e v
  | [], b :: m, q => by cases q
  | a :: l, [], q => by cases q
/-- the body's context -/
def lamCx1 (X : Cx) (A : Around) (outer : List Env) (s : Shared) (H : Hp) (E : XK) (scope : Scope) (f c' : Addr) (N2 : List Str) (h : Str) : Cx := { LamX.lamCx X A outer s H E scope f c' with N := N2 ++ [h], xe := fun _ _ => False }
section
variable {X : Cx} {pins : List (Addr × Obj)} {σ : L2.St} {H HZ : Hp} {s s1 : Shared}
theorem lam_begin {A : Around} {outer : List Env} {E : XK} {scope : Scope} {f c' : Addr} {h₁ : Heap} {tk : Nat} {h : Str} {N2 : List Str} {v : V} {u : Value} (I : Inv X pins σ H s) (L : LamS1 X.env.scope scope h) (hnew : Mask scope h X.N N2) (e0 : Env0 X.prog X.w X.K X.mg X.base A outer s1 HZ) (hd : A.handled = none)
    (un : Un (frs X.stack) [] H HZ s.heap s1.heap) (hns : h₁.Ns s1.heap.objs.size fun y => ([(h, u)] : List (Str × Value)).reverse.lookup y) (kp : ∀ b o, s1.heap.get? b = some o → h₁.get? b = some o) (rv : RelV v u) :
    Inv (lamCx1 X A outer s1 HZ E scope f c' N2 h) [] (σ ++ [some v]) HZ { s1 with heap := h₁, toks := tk } := by
  have hasC : ∀ y ∈ scope.names, y.2 = .free → ∃ c, X.env.cells.lookup y.1 = some c := fun y hy e => (L.free y hy e).elim (fun k => I.ok.has _ (.inl k)) (fun k => I.ok.has _ (.inr k))
  have toX : ∀ {y c}, (cloFrom X.env.cells scope.names []).lookup y = some c → X.env.cells.lookup y = some c := fun {y c} e => by
    rcases cloFrom_mem (PySem.mem_of_lookup e) with hm | ⟨h1, h2⟩
    · cases hm
    · obtain ⟨c1, hc⟩ := hasC _ h1 rfl
      simp only at hc h2
      rw [hc] at h2
      rw [h2]
      exact hc
  have ofX : ∀ {y}, scope.names.lookup y = some .free → ∃ c, (cloFrom X.env.cells scope.names []).lookup y = some c := fun {y} hl => mem_lookup (cloFrom_has (cells := X.env.cells) (acc := []) (PySem.mem_of_lookup hl))
  have stays : ∀ {c : Addr} {v : Option Value}, H c = none → s.heap.IsCell c v → h₁.IsCell c v := fun {c v} n ⟨o, ho, hd⟩ => by
    obtain ⟨sl, q⟩ := un.any ho n (by simp)
    exact ⟨_, kp _ _ q, hd⟩
  have none_ : ∀ b : Addr, b ∉ (lamCx1 X A outer s1 HZ E scope f c' N2 h).ex := fun b z => absurd (show b ∈ ([] : List Addr) from z) (by simp)
  refine ⟨⟨e0.mod, L.kind, rfl, rfl, Nat.le_refl _, fun y z c e1 e2 => I.ok.inj y z c (toX e1) (toX e2), fun y hy => ?_, fun y c z _ => ?_, fun _ => hd, Around.frames_deeper e0.frames, .inr ⟨rfl, rfl⟩, fun b z => absurd z (none_ b), e0.bs, e0.bsz, fun b _ _ => none_ b,
      fun b z => absurd z (none_ b), e0.funs, e0.frf⟩,
    rfl, e0.bare, Un.kept kp, ⟨_, hns, fun i y v' e1 e2 e3 => ?_⟩, fun y c e => ?_, e0.hok.fresh (Nat.le_refl _), fun y c e => ?_, fun q hq => absurd (show q ∈ ([] : List (Addr × Obj)) ++ [] from hq) (by simp), e0.hok.kept kp, ?_⟩
  · have hy : scope.names.lookup y = some .cell ∨ scope.names.lookup y = some .free := hy
    rcases hy with hy | hy
    · exact absurd rfl (L.own _ (PySem.mem_of_lookup hy)).1
    · exact ofX hy
  · have z : false = true := z
    cases z
  · have e1 : (N2 ++ [h])[i]? = some y := e1
    have e3 : Vis scope y := e3
    by_cases hi : i < N2.length
    · rw [List.getElem?_append_left hi] at e1
      rw [List.getElem?_append_left (by rw [I.len, ← hnew.len]; exact hi)] at e2
      obtain ⟨e1, hyh⟩ := hnew.at_ i y e1 e3
      rcases e3 with k | k | k
      · have : y = h := (L.own _ (PySem.mem_of_lookup k)).2 rfl
        exact absurd this hyh
      · exact absurd rfl (L.own _ (PySem.mem_of_lookup k)).1
      · obtain ⟨m, hn, hl⟩ := I.loc
        have hvis : Vis X.env.scope y := (L.free _ (PySem.mem_of_lookup k) rfl).elim (fun k => .inr (.inl k)) (fun k => .inr (.inr k))
        obtain ⟨w', r, q⟩ := hl i y v' e1 e2 hvis
        obtain ⟨c2, h2⟩ := ofX k
        refine ⟨w', r, .inr ⟨.inr k, c2, h2, ?_⟩⟩
        have c1 := toX h2
        rcases q with ⟨k', _⟩ | ⟨_, c3, e', z⟩
        · have k' : X.env.scope.names.lookup y = some .local := k'
          rcases L.free _ (PySem.mem_of_lookup k) rfl with k2 | k2 <;> rw [show X.env.scope.names.lookup y = _ from k2] at k' <;> cases k'
        · rw [c1] at e'
          cases e'
          exact stays (I.freeC y _ c1) z
    · have hi2 : i = N2.length := by
        have := (List.getElem?_eq_some_iff.mp e1).1
        rw [List.length_append, List.length_singleton] at this
        omega
      subst hi2
      rw [List.getElem?_append_right (Nat.le_refl _), Nat.sub_self] at e1
      cases e1
      rw [hnew.len, ← I.len, List.getElem?_append_right (Nat.le_refl _), Nat.sub_self] at e2
      cases e2
      refine ⟨u, rv, .inl ⟨L.par, ?_⟩⟩
      show ([(h, u)] : List (Str × Value)).reverse.lookup h = some u
      simp
  · obtain ⟨w', z⟩ := I.cell y c (toX e)
    exact ⟨w', stays (I.freeC y c (toX e)) z⟩
  · obtain ⟨v, o, ho, hd⟩ := I.cell y c (toX e)
    exact un.free c o ho (I.freeC y c (toX e)) (by simp)
  · show (σ ++ [some v]).length = (N2 ++ [h]).length
    rw [List.length_append, List.length_append, I.len, hnew.len]
    rfl
abbrev lamO (X : Cx) (params : Arguments) (body : Expr) (scope : Scope) (pm ctv : Value) (c' : Addr) : Obj := PySem.W.kla_obj "<lambda>" (X.env.qual ++ "<lambda>") params body scope (cloFrom X.env.cells scope.names []) pm c' ctv
theorem pin_new {a : Addr} {o : Obj} (I : Inv X pins σ H s) (n : s.heap.objs.size ≤ a) {h' : Heap} {t' : Nat} (k : ∀ b u, s.heap.get? b = some u → h'.get? b = some u) (e : h'.get? a = some o) (d : ∀ v, o.data ≠ .cell v) : Inv X ((a, o) :: pins) σ H { s with heap := h', toks := t' } := by
  have J : Inv X pins σ H { s with heap := h', toks := t' } := I.kept k
  refine ⟨J.ok, J.os, J.bare, J.base, J.loc, J.cell, J.free, J.freeC, fun q hq => ?_, J.hok, J.len⟩
  rcases List.mem_append.mp hq with z | z
  · exact J.pin q (List.mem_append_left _ z)
  · rcases List.mem_cons.mp z with z | z
    · subst z
      exact ⟨e, I.hok.fresh n, fun z => absurd I.lt (by rw [← z]; exact Nat.not_lt.mpr n), fun z => I.nofs n z, d⟩
    · exact J.pin q (List.mem_append_right _ z)
theorem pin_off {q : Addr × Obj} (I : Inv X (q :: pins) σ H s) : Inv X pins σ H s := ⟨I.ok, I.os, I.bare, I.base, I.loc, I.cell, I.free, I.freeC, fun r hr => I.pin r (by
  rcases List.mem_append.mp hr with z | z
  · exact List.mem_append_left _ z
  · exact List.mem_append_right _ (List.mem_cons_of_mem _ z)), I.hok, I.len⟩
/-- a lambda is made: what is new in the heap is told whole -/
theorem lam_made {T : List (Addr × Str)} {c P : Addr} {params : Arguments} {body : Expr} {scope : Scope} {pos : Pos} {E : Value → Shared → Prop} {Q : Value → Shared → Prop} (I : Inv X pins σ H s) (TB : LamX.TabB X.base X.mg c P) (hcode : X.env.code = .ref c)
    (hm : (P, X.env.qual ++ "<lambda>") ∈ T) (hu : ∀ p ∈ T, p.1 = P → p.2 = X.env.qual ++ "<lambda>") (hT : LamX.Tabs T H) (hdef : defaultsOf params X.env = ([], [])) (hfree : ∀ y ∈ scope.names, y.2 = .free → ∃ c, X.env.cells.lookup y.1 = some c)
    (h : ∀ (f c' : Addr) (pm ctv : Value) (H1 : Hp) (s' : Shared), Inv X ((f, lamO X params body scope pm ctv c') :: pins) σ H1 s' → LamX.ExtN H H1 → (∀ b, H1 b = none → H b = none) → LamX.Tabs T H1 → H1 c' = some (LamX.CodeO c' (X.env.qual ++ "<lambda>")) → Q (.ref f) s') :
    wpAny (model X.prog X.w) X.A (eval (.Lambda params body scope pos) X.env) Q E s := by
  obtain ⟨ps, hP, ht, ha⟩ := hT _ hm
  have bP : s.heap.BuiltinsAt X.mg P := TB.bm.keeps I.bk
  have hP' : s.heap.get? P = some { cls := .none, data := .fields ps } := I.hok P _ hP
  refine PySem.W.kla_eval hdef ?_
  cases hc : codeAmong pos ps.toList with
  | some cv =>
    obtain ⟨c', e, hco⟩ := ha pos cv hc
    subst e
    refine PySem.W.kla_makeFunctionHit (mg := X.mg) (c := c) (P := P) (ps := ps) (closure_ok hfree) I.ok.glob (I.mod.glob.keeps I.bk) hcode (TB.code.keeps I.bk) hP' ht hc bP fun ctv h' tk hx hsz => ?_
    exact h h'.objs.size c' _ ctv H _ (pin_new I hsz (fun b o e => Heap.get?_push_of_some _ (hx b o e)) (Heap.get?_push_size _ rfl) (fun v z => nomatch z)) (LamX.ExtN.refl H) (fun _ z => z) hT hco
  | none =>
    refine PySem.W.kla_makeFunction (mg := X.mg) (c := c) (P := P) (ps := ps) (closure_ok hfree) I.ok.glob (I.mod.glob.keeps I.bk) hcode (TB.code.keeps I.bk) hP' ht hc TB.gP bP fun c' ctv h' tk hx hge hlt hrec htb => ?_
    obtain ⟨c2, oc, vs, t, e2, hoc, hd, hv⟩ := hrec
    cases e2
    have nC : H c' = none := I.hok.fresh hge
    have nPc : P ≠ c' := ne_of_none hP nC
    have J := LamX.inv_table (q := X.env.qual ++ "<lambda>") (t' := tk) (more := #[rawInt pos.line, rawInt pos.col, .ref c']) (h' := h') I hP hx htb hge ⟨oc, vs, t, hoc, hd, hv⟩
    have hE : LamX.ExtN H (upd (upd H P (.tbl (ps ++ #[rawInt pos.line, rawInt pos.col, .ref c']))) c' (LamX.CodeO c' (X.env.qual ++ "<lambda>"))) := fun b o e n => by
      rw [upd_ne (ne_of_none e nC), upd_ne (fun z => n ps (Option.some.inj (e.symm.trans (by rw [z]; exact hP))))]
      exact e
    refine h h'.objs.size c' _ ctv _ _ (pin_new J (Nat.le_refl _) (fun b o e => Heap.get?_push_of_some _ e) (Heap.get?_push_size _ rfl) (fun v z => nomatch z)) hE (fun b z => ?_) (fun p hp => ?_) upd_same
    · by_cases h1 : b = c'
      · rw [h1]; exact nC
      · rw [upd_ne h1] at z
        by_cases h2 : b = P
        · rw [h2, upd_same] at z; cases z
        · rw [upd_ne h2] at z; exact z
    · by_cases hb : p.1 = P
      · rw [hu p hp hb, hb]
        have eL : (ps ++ #[rawInt pos.line, rawInt pos.col, .ref c']).toList = ps.toList ++ [rawInt pos.line, rawInt pos.col, .ref c'] := by simp
        refine ⟨_, by rw [upd_ne nPc, upd_same], by rw [eL]; exact PySem.TriplesOk_snoc _ _ _ _ ht, fun p' cv hcv => ?_⟩
        rw [eL] at hcv
        rcases LamX.among_app _ ht hcv with z | z
        · obtain ⟨c0, e1, e2⟩ := ha p' cv z
          exact ⟨c0, e1, hE _ _ e2 LamX.codeO_ne⟩
        · exact ⟨c', z, upd_same⟩
      · obtain ⟨ps', a1, a2, a3⟩ := hT p hp
        refine ⟨ps', by rw [upd_ne (ne_of_none a1 nC), upd_ne hb]; exact a1, a2, fun p' cv hcv => ?_⟩
        obtain ⟨c0, e1, e2⟩ := a3 p' cv hcv
        exact ⟨c0, e1, hE _ _ e2 LamX.codeO_ne⟩
/-- the lambda called by the def that got it -/
theorem lam_act {Ng : List Str} {qg : Str} {sg : Scope} {g f c' : Addr} {cdg pm ctv : Value} {params : Arguments} {body : Expr} {scope : Scope} {k i : Nat} {a h : Str} {N2 : List Str} {e : Expr} {te tb : TE} {p1 p2 : Pos} {Eg : XK}
    (I : Inv X ((f, lamO X params body scope pm ctv c') :: pins) σ H s) (L : LamS1 X.env.scope scope h) (hnew : Mask scope h X.N N2)
    (hbind : ∀ u : Value, bindArgs (PySem.W.kla_fn "<lambda>" (X.env.qual ++ "<lambda>") params body scope (cloFrom X.env.cells scope.names []) pm (.ref c') ctv) ⟨[u], []⟩ = pure [(h, u)])
    (hr : Room (k + 1) (X.A.deeper (envOfC qg sg s.heap.objs.size g cdg)))
    (hbody : ∀ (A : Around) (outer : List Env) (s : Shared) (H : Hp), Room k (A.deeper (LamX.lamEnv X scope s.heap.objs.size f c')) → PE (lamCx1 X A outer s H C8.E0 scope f c' N2 h) body tb)
    (hN : Ng[i]? = some a) (hv : Vis sg a) (he : PE (cxOf C8.CX0 X.prog X.w X.K X.mg X.base Ng qg sg g cdg X.A X.stack s H Eg).nox e te)
    (hst : starEach [e] (envOfC qg sg s.heap.objs.size g cdg) = (false, eval e (envOfC qg sg s.heap.objs.size g cdg)) :: starEach [] (envOfC qg sg s.heap.objs.size g cdg))
    (hd : (a == ("__debug__" : Str)) = false := by decide) (hcd : (a == ("__classdict__" : Str)) = false := by decide) :
    PE (cxOf C8.CX0 X.prog X.w X.K X.mg X.base Ng qg sg g cdg X.A X.stack s H Eg).nox (.Call (.Name a p1) [e] [] p2)
      (fun σZ HZ Q => σZ[i]? = some (some (.ref f)) ∧ te σZ HZ fun v H1 => H1 c' = some (LamX.CodeO c' (X.env.qual ++ "<lambda>")) ∧ tb (σ ++ [some v]) H1 Q) := by
  refine ⟨fun pinsZ sZ σZ HZ Q IZ ⟨hs, ht⟩ => ?_⟩
  have kf : ∀ {σ' : L2.St} {H' : Hp} {s' : Shared} {pz : List (Addr × Obj)}, Inv (cxOf C8.CX0 X.prog X.w X.K X.mg X.base Ng qg sg g cdg X.A X.stack s H Eg).nox pz σ' H' s' → s'.heap.get? f = some (lamO X params body scope pm ctv c') := fun {σ' H' s' pz} J => by
    obtain ⟨q1, q2, q3, q4, q5⟩ := I.pin (f, lamO X params body scope pm ctv c') (List.mem_append_right _ List.mem_cons_self)
    refine J.base.keep f _ q1 q2 (fun z => ?_) (fun z => nomatch (show f ∈ ([] : List Addr) from z))
    rcases List.mem_cons.mp (I.stkSub f z) with z | z
    · exact q3 z
    · exact q4 z
  refine wpAny_Call_Name_kw (thn ((pe_var (pos := p1) (i := i) hN hv hd hcd).run pinsZ sZ σZ HZ (fun v H1 => v = .ref f ∧ H1 = HZ) IZ ⟨.ref f, hs, rfl, rfl⟩) fun u s1 ⟨v, H1, I1, r1, ev, eH⟩ => ?_)
  subst ev eH
  obtain rfl : u = Value.ref f := r1
  refine PySem.W.callWith_F ⟨_, _, _, _, kf I1⟩ ?_ hst rfl
  show wpAny _ _ (spliced (backTo p2 (starEach [e] (envOfC qg sg s.heap.objs.size g cdg)))) _ _ s1
  rw [hst]
  refine Calls.spliced_cons (thn (he.run pinsZ s1 σZ H1 _ I1 ht) fun u s2 ⟨v, H2, I2, rv, q2⟩ => ?_)
  refine Calls.spliced_nil ⟨⟨_, _, _, _, kf I2⟩, ?_⟩
  obtain ⟨hc, htb⟩ := q2
  obtain ⟨⟨oc, vs, t, hoc, hdc, hvc⟩, _, _⟩ := I2.hok c' _ hc
  have rc : codeAny (model X.prog X.w) (X.A.deeper (envOfC qg sg s.heap.objs.size g cdg)) (.call (.ref f) ⟨[u], []⟩) (CR C8.CX0 (envOfC qg sg s.heap.objs.size g cdg :: X.stack) X.prog X.w H2 s2 Q C8.E0) s2 := by
    refine PySem.W.kla_callFunE hr.depth (kf I2) rfl L.co L.gen rfl ⟨c', oc, vs, t, rfl, hoc, hdc, hvc⟩ ?_
    rw [hbind]
    refine wpAny_pure (wpAny_newFunctionEnv (fun y hy => (L.own y hy).1) (fun y hy => ?_) (fun h₁ hns hsb => ⟨I2.nolimit.fresh _ hsb, ?_⟩) L.kind)
    · rcases List.mem_cons.mp hy with z | z
      · rw [z]; exact L.par
      · exact absurd z (by simp)
    show codeAny _ _ (.expr body (LamX.lamEnv X scope s2.heap.objs.size f c')) _ _
    have kp : ∀ b o, s2.heap.get? b = some o → h₁.get? b = some o := fun b o e => hsb.extBut b o (Nat.ne_of_lt (Heap.lt_size e)) (Heap.get?_push_of_some _ e)
    have un : Un (frs X.stack) [] H H2 s.heap s2.heap := I2.base
    have J := lam_begin (f := f) (c' := c') (A := X.A.deeper (envOfC qg sg s.heap.objs.size g cdg)) (outer := envOfC qg sg s.heap.objs.size g cdg :: X.stack) (E := C8.E0) (tk := s2.toks + ([(h, u)] : List (Str × Value)).length) (pin_off I) L hnew I2.env0 hr.hd un hns kp rv
    refine PySem.W.kla_codeExpr (wpAny_mono ((hbody _ _ s2 H2 (hr.deeper _)).run [] _ _ H2 Q J htb) (fun v s' hq => ?_) fun e s' hq => ?_)
    · obtain ⟨w', H', J', rv, q⟩ := hq
      exact ⟨w', H', J'.os, J'.bare, J'.base, J'.hok, rv, q⟩
    · exact hq.elim
  refine wpAny_call (codeAny_mono rc fun r s' hq => ?_)
  cases r with
  | error e => exact (show False from hq).elim
  | ok fl =>
    cases fl with
    | ret u => exact I2.after hq
    | next => exact False.elim hq
    | brk => exact False.elim hq
    | cont => exact False.elim hq
end
/-! ### over data -/
mutual
theorem Rep.pn {K : PySem.W.Frag} {p p' : Pn} {F : Hp} (e : p'.pot = p.pot) (hc : ∀ x ∈ p.cod, x ∈ p'.cod) : ∀ {d : D} {v : V}, Rep K p F d v → Rep K p' F d v
  | .non, _, h => h
  | .bl _, _, h => h
  | .int _, _, h => h
  | .str _, _, h => h
  | .ty _, _, h => h
  | .rf _, _, h => h
  | .lam .., _, h => ⟨h.1, h.2.1, e.trans h.2.2.1, fun x hx => hc x (h.2.2.2 x hx)⟩
  | .exc .., _, h => by
    obtain ⟨a, dd, w, rfl, h1, h2, h3⟩ := h
    exact ⟨a, dd, w, rfl, h1, h2, Rep.pn e hc h3⟩
  | .clo .., _, h => h
  | .dic _, _, h => h
  | .pot, _, h => by
    obtain ⟨a, h1, rfl⟩ := h
    exact ⟨a, e.trans h1, rfl⟩
  | .scr _, _, h => h
  | .tup l, _, h => by
    obtain ⟨a, xs, rfl, h1, h2⟩ := h
    exact ⟨a, xs, rfl, h1, RepL.pn e hc h2⟩
  | .lst l, _, h => by
    obtain ⟨a, xs, rfl, h1, h2⟩ := h
    exact ⟨a, xs, rfl, h1, RepL.pn e hc h2⟩
  | .dct ks l, _, h => by
    obtain ⟨a, o, xs, rfl, h1, h2, h3⟩ := h
    exact ⟨a, o, xs, rfl, h1, h2, RepL.pn e hc h3⟩
theorem RepL.pn {K : PySem.W.Frag} {p p' : Pn} {F : Hp} (e : p'.pot = p.pot) (hc : ∀ x ∈ p.cod, x ∈ p'.cod) : ∀ {l : List D} {xs : List V}, RepL K p F l xs → RepL K p' F l xs
  | [], _, h => h
  | d :: l, _, h => by
    obtain ⟨x, r, rfl, h1, h2⟩ := h
    exact ⟨x, r, rfl, Rep.pn e hc h1, RepL.pn e hc h2⟩
end
mutual
theorem Rep.pnL {K : PySem.W.Frag} {p p' : Pn} {F : Hp} : ∀ {d : D} {v : V}, noLst d = true → Rep K p F d v → Rep K p' F d v
  | .non, _, _, h => h
  | .bl _, _, _, h => h
  | .int _, _, _, h => h
  | .str _, _, _, h => h
  | .ty _, _, _, h => h
  | .rf _, _, _, h => h
  | .lam .., _, n, h => by simp [noLst] at n
  | .exc .., _, n, h => by
    obtain ⟨a, dd, w, rfl, h1, h2, h3⟩ := h
    exact ⟨a, dd, w, rfl, h1, h2, Rep.pnL (by simpa [noLst] using n) h3⟩
  | .clo .., _, _, h => h
  | .dic _, _, _, h => h
  | .pot, _, n, h => by simp [noLst] at n
  | .scr _, _, n, h => by simp [noLst] at n
  | .tup l, _, n, h => by
    obtain ⟨a, xs, rfl, h1, h2⟩ := h
    exact ⟨a, xs, rfl, h1, RepL.pnL (by simpa [noLst] using n) h2⟩
  | .lst l, _, n, h => by simp [noLst] at n
  | .dct _ _, _, n, h => by simp [noLst] at n
theorem RepL.pnL {K : PySem.W.Frag} {p p' : Pn} {F : Hp} : ∀ {l : List D} {xs : List V}, noLstL l = true → RepL K p F l xs → RepL K p' F l xs
  | [], _, _, h => h
  | d :: l, _, n, h => by
    obtain ⟨x, r, rfl, h1, h2⟩ := h
    have n' : noLst d = true ∧ noLstL l = true := by simpa [noLstL] using n
    exact ⟨x, r, rfl, Rep.pnL n'.1 h1, RepL.pnL n'.2 h2⟩
end
theorem Fwd.pn {p p' : Pn} {F H F' H' : Hp} (e : p'.pot = p.pot) (w : Fwd p F H F' H') : Fwd p' F H F' H' := ⟨w.frz, fun b o h n t => w.keep b o h (by rw [← e]; exact n) t, w.new, w.there⟩
theorem get3_snoc {ρ : Rho} {d : D} : ∀ {i : Nat} {x : D}, get3 (ρ ++ [some d]) i = some x → get3 ρ i = some x ∨ (i = ρ.length ∧ x = d) := by
  induction ρ with
  | nil =>
    intro i x h
    cases i with
    | zero => exact .inr ⟨rfl, (Option.some.inj h).symm⟩
    | succ i => cases i <;> cases h
  | cons r ρ ih =>
    intro i x h
    cases i with
    | zero => exact .inl h
    | succ i =>
      rcases ih (i := i) h with z | ⟨z1, z2⟩
      · exact .inl z
      · exact .inr ⟨by rw [List.length_cons, z1], z2⟩
/-- the lambda dl called on a value: tl tells what it answers -/
@[simp ↓] def eLm (dl : D) (tl : D → Nat → KD → Prop) (fa : FE) : FE := fun ρ c Q => get3 ρ 0 = some dl ∧ fa ρ c fun x c => tl x c Q
/-- x(lambda h: body, es): m tells what x answers where its first argument answers as tl says -/
@[simp ↓] def eLam (m : (D → Nat → KD → Prop) → FM) (fr : FA) (fb : FE) : FE := fun ρ c Q => fr ρ c fun l c => m (fun d c Q => fb (ρ ++ [some d]) c Q) l c fun d c => noLst d = true ∧ Q d c
section
variable {X : Cx} {es : List Expr} {fr : FA} {fb : FE}
theorem ex_lam {x qual a h : Str} {N2 : List Str} {st : Stmt} {g c P : Addr} {fd : FuncData} {k : Nat} {Ng ps : List Str} {params : Arguments} {body : Expr} {scope : Scope} {p1 lpos pos : Pos} {m : (D → Nat → KD → Prop) → FM} {gg : D → (D → Nat → KD → Prop) → FS}
    (G : Fun X.K x qual st g fd) (S : FnScope Ng (a :: ps) (defScope st)) (hb : Binds X.K fd (a :: ps) []) (hm : X.mg x = some (.ref g)) (TB : LamX.TabB X.base X.mg c P) (hcode : X.env.code = .ref c)
    (hmT : (P, X.env.qual ++ "<lambda>") ∈ tabs0) (hu : ∀ p ∈ tabs0, p.1 = P → p.2 = X.env.qual ++ "<lambda>") (hr : Room (k + 2) X.A) (L : LamS1 X.env.scope scope h) (hnew : Mask scope h X.N N2) (hdef : defaultsOf params X.env = ([], []))
    (hbind : ∀ (cl : List (Str × Addr)) (pm cv ctv u : Value), bindArgs (PySem.W.kla_fn "<lambda>" (X.env.qual ++ "<lambda>") params body scope cl pm cv ctv) ⟨[u], []⟩ = pure [(h, u)])
    (hbody : ∀ (A : Around) (outer : List Env) (s : Shared) (H : Hp) (f c' : Addr), Room k (A.deeper (LamX.lamEnv X scope s.heap.objs.size f c')) → EX (lamCx1 X A outer s H C8.E0 scope f c' N2 h) body fb)
    (ha : AX X es fr)
    (hg : ∀ (cdv : Value) (A : Around) (outer : List Env) (s : Shared) (H : Hp) (E : XK) (dl : D) (tl : D → Nat → KD → Prop), Room (k + 1) (A.deeper (envOfC qual (defScope st) s.heap.objs.size g cdv)) →
      (∀ (e : Expr) (fe : FE) (p1 p2 : Pos), starEach [e] (envOfC qual (defScope st) s.heap.objs.size g cdv) = (false, eval e (envOfC qual (defScope st) s.heap.objs.size g cdv)) :: starEach [] (envOfC qual (defScope st) s.heap.objs.size g cdv) →
        EX (cxOf CX0 X.prog X.w X.K X.mg X.base Ng qual (defScope st) g cdv A outer s H E).nox e fe → EX (cxOf CX0 X.prog X.w X.K X.mg X.base Ng qual (defScope st) g cdv A outer s H E).nox (.Call (.Name a p1) [e] [] p2) (eLm dl tl fe)) →
      BX (cxOf CX0 X.prog X.w X.K X.mg X.base Ng qual (defScope st) g cdv A outer s H E).nox (defBody st) (gg dl tl))
    (hp : ∀ dl tl ds c Q, m tl ds c Q → ds.length = ps.length ∧ runM Ng.length (gg dl tl) (dl :: ds) c Q)
    (hgl : Gl X x := by rfl) (hN : Ng[0]? = some a := by rfl) (hva : Vis (defScope st) a := by first | exact Or.inl rfl | exact Or.inr (Or.inl rfl)) (hdb : (x == ("__debug__" : Str)) = false := by decide) (hd : (a == ("__debug__" : Str)) = false := by decide) (hcd : (a == ("__classdict__" : Str)) = false := by decide)
    (hpl : (backTo pos (starEach es X.env)).any (·.1) = false := by rfl) :
    EX X (.Call (.Name x p1) (.Lambda params body scope lpos :: es) [] pos) (eLam m fr fb) := by
  obtain ⟨oc, od, kV, doc, pmg, an, cdv, ct, osl, efd, lk, hcg⟩ := G.ex
  refine ⟨fun pins s σ H Q I ⟨p, c0, ρ, F, Q', est, hq, t⟩ => ?_⟩
  refine wpAny_Call_Name_kw (ld_glob I hgl hm ?_ hdb)
  refine PySem.W.callWith_K (h₀ := X.base) I.ok.mod.kin G.kp ?_ (by rfl) hpl
  show wpAny _ _ (spliced ((false, eval (.Lambda params body scope lpos) X.env) :: backTo pos (starEach es X.env))) _ _ s
  have hasC : ∀ y ∈ scope.names, y.2 = .free → ∃ c, X.env.cells.lookup y.1 = some c := fun y hy e => (L.free y hy e).elim (fun k => I.ok.has _ (.inl k)) (fun k => I.ok.has _ (.inr k))
  refine Calls.spliced_cons (lam_made I TB hcode hmT hu est.ok.tab.tabs hdef hasC fun f c' pm' ctv H1 s' I1 eN th T1 hco => ?_)
  have w1 : Fwd p F H F H1 := ⟨fun _ _ z => z, fun b o z _ t => eN b o z t, fun _ _ z => .inl z, th⟩
  have ok1 : Ok3 p c0 F H1 := ⟨fun b o z => eN b o (est.ok.sub b o z) (fun ps e => est.ok.nt.t b ps (e ▸ z)), fun b z => by
      obtain ⟨⟨x, y, z, q, r⟩, nn⟩ := est.ok.pot b z
      exact ⟨⟨x, y, z, eN _ _ q (fun _ z => nomatch z), r⟩, nn⟩, ⟨T1, fun q hq => eN _ _ (est.ok.tab.cod q hq) LamX.codeO_ne⟩, est.ok.nt⟩
  refine thn (ha.run pos _ s' σ H1 (fun vs H2 => ∃ l c1 F2, Fwd p F H1 F2 H2 ∧ Ok3 p c1 F2 H2 ∧ RepL X.K p F2 l vs ∧ m (fun d c Q => fb (ρ ++ [some d]) c Q) l c1 fun d c => noLst d = true ∧ Q' d c) I1 ⟨p, c0, ρ, F, _, est.fwd w1 ok1, hq, fun l c1 vs F2 H2 w2 ok2 r2 q2 => ⟨l, c1, F2, w2, ok2, r2, q2⟩⟩) fun us s2 ⟨vs, H2, I2, rv, l, c1, F2, w2, ok2, r2, q2⟩ => ?_
  refine ⟨I2.kIn, ?_⟩
  have w12 := w1.trans w2
  have hco2 : H2 c' = some (LamX.CodeO c' (X.env.qual ++ "<lambda>")) := w2.keep _ _ hco (fun e => by
    obtain ⟨⟨x, y, z, q, r⟩, nn⟩ := ok1.pot c' e
    rw [hco] at q
    exact absurd (Option.some.inj q) (by unfold LamX.CodeO; exact fun z => nomatch z)) LamX.codeO_ne
  have est2 := est.fwd w12 ok2
  let p' : Pn := ⟨p.pot, (c', X.env.qual ++ "<lambda>") :: p.cod, p.flo⟩
  have ok2' : Ok3 p' c1 F2 H2 := ⟨ok2.sub, ok2.pot, ⟨ok2.tab.tabs, fun q hq => by
    rcases List.mem_cons.mp hq with z | z
    · rw [z]; exact hco2
    · exact ok2.tab.cod q z⟩, ⟨ok2.nt.t, ok2.nt.f⟩⟩
  let tl : D → Nat → KD → Prop := fun d c Q => fb (ρ ++ [some d]) c Q
  obtain ⟨hlen, hrun⟩ := hp (.lam f F2 p') tl l c1 _ q2
  have rc : codeAny (model X.prog X.w) X.A (.call (.ref g) ⟨.ref f :: us, []⟩) (CR CX0 X.stack X.prog X.w H2 s2 Q E0) s2 := by
    refine LamX.run_ofS (N := Ng) (ps := a :: ps) (us := .ref f :: us) (vs := .ref f :: vs) (efd ▸ lk) hcg S hr.r2 I2.env0 (efd ▸ by
      have z := hb s2 (.ref f :: us) I2.kIn (by rw [List.length_append, List.length_nil, List.length_cons, List.length_cons, ← rv.length, r2.len, hlen])
      rw [List.append_nil] at z
      exact z) (.cons rfl rv) (by rw [List.length_cons, List.length_cons, r2.len, hlen]) fun _ => ?_
    have hr' : Room (k + 1) (X.A.deeper (envOfC qual (defScope st) s2.heap.objs.size g cdv)) := hr.deeper _
    have act : ∀ (e : Expr) (fe : FE) (p1 p2 : Pos), starEach [e] (envOfC qual (defScope st) s2.heap.objs.size g cdv) = (false, eval e (envOfC qual (defScope st) s2.heap.objs.size g cdv)) :: starEach [] (envOfC qual (defScope st) s2.heap.objs.size g cdv) →
        EX (cxOf CX0 X.prog X.w X.K X.mg X.base Ng qual (defScope st) g cdv X.A X.stack s2 H2 E0).nox e fe → EX (cxOf CX0 X.prog X.w X.K X.mg X.base Ng qual (defScope st) g cdv X.A X.stack s2 H2 E0).nox (.Call (.Name a p1) [e] [] p2) (eLm (.lam f F2 p') tl fe) := fun e fe p1 p2 hst he => by
      refine PE.imp (lam_act (i := 0) (tb := tE X.K fb) (p1 := p1) (p2 := p2) I2 L hnew (fun u => hbind _ _ _ _ u) hr' (fun A outer s H hr2 => hbody A outer s H f c' hr2) hN hva he hst hd hcd) fun σZ HZ QZ ⟨pz, cz, ρz, Fz, Qz', ez, ⟨g1, hz⟩, tz⟩ => ?_
      obtain ⟨v0, e1, e2⟩ := ez.slot 0 _ g1
      obtain ⟨rfl, kF, kp, kc⟩ := e2
      refine ⟨e1, pz, cz, ρz, Fz, _, ez, hz, fun d c3 v F3 H3 w3 ok3 r3 q3 => ⟨ok3.tab.cod (c', X.env.qual ++ "<lambda>") (kc _ List.mem_cons_self), ?_⟩⟩
      refine ⟨pz, c3, ρ ++ [some d], F3, _, ⟨ok3, fun i d' hi => ?_, by rw [List.length_append, List.length_append, est2.len]; rfl⟩, q3, tz.fwd w3⟩
      rcases get3_snoc hi with z | ⟨z1, z2⟩
      · obtain ⟨v', y1, y2⟩ := est2.slot i d' z
        refine ⟨v', ?_, ((Rep.pn (p := p) (p' := pz) kp (fun x hx => kc x (List.mem_cons_of_mem _ hx)) y2).mono kF).mono w3.frz⟩
        have : i < σ.length := (List.getElem?_eq_some_iff.mp y1).1
        rw [List.getElem?_append_left this]
        exact y1
      · subst z2
        refine ⟨v, ?_, r3⟩
        rw [z1, est2.len, List.getElem?_append_right (Nat.le_refl _), Nat.sub_self]
        rfl
    have B := hg cdv X.A X.stack s2 H2 E0 (.lam f F2 p') tl hr' act
    have r2' : RepL X.K p' F2 (.lam f F2 p' :: l) (.ref f :: vs) := ⟨_, _, rfl, ⟨rfl, fun _ _ z => z, rfl, fun _ z => z⟩, RepL.pn (p := p) (p' := p') rfl (fun x hx => List.mem_cons_of_mem _ hx) r2⟩
    have back : ∀ (d : D) (c3 : Nat) (v : V) (F3 H3 : Hp), Fwd p' F2 H2 F3 H3 → Ok3 p' c3 F3 H3 → Rep X.K p' F3 d v → noLst d = true ∧ Q' d c3 → Q v H3 := fun d c3 v F3 H3 w3 ok3 r3 q3 =>
      t d c3 v F3 H3 (w12.trans (Fwd.pn (p := p') (p' := p) rfl w3)) ⟨ok3.sub, ok3.pot, ⟨ok3.tab.tabs, fun q hq => ok3.tab.cod q (List.mem_cons_of_mem _ hq)⟩, ⟨ok3.nt.t, ok3.nt.f⟩⟩ (Rep.pnL q3.1 r3) q3.2
    refine ⟨_, PSs.nox B, p', c1, start3 Ng.length (.lam f F2 p' :: l), F2, F2, H2, _, start_ok ok2' r2', hrun, fun c ρ σ F' H' s q => ?_, fun _ _ _ _ _ _ q => q.elim, fun _ _ _ _ _ _ q => q.elim, back⟩
    exact back .non c .non F' H' s.ent s.ok rfl q
  refine wpAny_call (codeAny_mono rc fun r s3 hq => ?_)
  cases r with
  | error e => exact (show False from hq).elim
  | ok fl =>
    cases fl with
    | ret u => 
      obtain ⟨v, H', J, r, q⟩ := I2.after hq
      exact ⟨v, H', pin_off J, r, q⟩
    | next => exact False.elim hq
    | brk => exact False.elim hq
    | cont => exact False.elim hq
end
end L3

/-! L3, sorted, max and min of one sequence, names of built-ins. -/
namespace L3
open PySem PySem.Spec PyProof.Rows L2
section
variable {K : PySem.W.Frag} {X : Cx} {e a b : Expr} {es : List Expr} {fa fb : FE} {fr : FA} {pos : Pos}
/-! sorted -/
def sortedM (l : List D) (Q : List D → Prop) : Prop :=
  (∃ ns, intsOf l = some ns ∧ ns.length < 64 ∧ ∀ ns' : List Int, ns'.Perm ns → ns'.Pairwise (· ≤ ·) → Q (ns'.map .int)) ∨
  (∃ ds, toPyL l = some ds ∧ PySem.W.AllAlike ds ∧ PySem.W.Sortable ds ∧ ds.length ≤ 16777216 ∧ (∀ d ∈ ds, d.depth ≤ 64) ∧ ∀ l' : List D, l'.Perm l → Q l')
/-- three rows beside one another -/
def zip3 : List D → List V → List PyData → List (D × V × PyData)
  | d :: l, v :: vs, x :: xs => (d, v, x) :: zip3 l vs xs
  | _, _, _ => []
theorem zip3_at : ∀ (l : List D) (vs : List V) (xs : List PyData), vs.length = l.length → xs.length = l.length → (zip3 l vs xs).map (·.1) = l ∧ (zip3 l vs xs).map (·.2.1) = vs ∧ (zip3 l vs xs).map (·.2.2) = xs
  | [], [], [], _, _ => ⟨rfl, rfl, rfl⟩
  | d :: l, v :: vs, x :: xs, h1, h2 => by
    obtain ⟨a, b, c⟩ := zip3_at l vs xs (Nat.succ.inj h1) (Nat.succ.inj h2)
    exact ⟨congrArg (d :: ·) a, congrArg (v :: ·) b, congrArg (x :: ·) c⟩
  | [], v :: vs, _, h1, _ => by cases h1
  | [], [], x :: xs, _, h2 => by cases h2
  | d :: l, [], _, h1, _ => by cases h1
  | d :: l, v :: vs, [], _, h2 => by cases h2
theorem zip3_mem {P : D → V → Prop} {R : D → PyData → Prop} : ∀ (l : List D) (vs : List V) (xs : List PyData), (∀ (i : Nat) d v, l[i]? = some d → vs[i]? = some v → P d v) → (∀ (i : Nat) d x, l[i]? = some d → xs[i]? = some x → R d x) → ∀ b ∈ zip3 l vs xs, P b.1 b.2.1 ∧ R b.1 b.2.2
  | d :: l, v :: vs, x :: xs, h1, h2, b, hb => by
    rcases List.mem_cons.mp hb with z | z
    · subst z; exact ⟨h1 0 d v rfl rfl, h2 0 d x rfl rfl⟩
    · exact zip3_mem l vs xs (fun i d v a b => h1 (i + 1) d v a b) (fun i d v a b => h2 (i + 1) d v a b) b z
  | [], _, _, _, _, b, hb => by cases hb
  | _ :: _, [], _, _, _, b, hb => by cases hb
  | _ :: _, _ :: _, [], _, _, b, hb => by cases hb
theorem toPyL_len : ∀ {l : List D} {xs : List PyData}, toPyL l = some xs → xs.length = l.length
  | [], _, h => by unfold toPyL at h; cases h; rfl
  | d :: l, _, h => by
    unfold toPyL at h
    split at h
    · cases h
      rename_i e1 e2
      rw [List.length_cons, List.length_cons, toPyL_len e2]
    · cases h
theorem toPyL_get : ∀ {l : List D} {xs : List PyData} (i : Nat) (d : D) (x : PyData), toPyL l = some xs → l[i]? = some d → xs[i]? = some x → toPy d = some x
  | [], _, i, d, x, _, h, _ => by simp at h
  | e :: l, _, i, d, x, h, h1, h2 => by
    unfold toPyL at h
    split at h
    · cases h
      rename_i e1 e2
      cases i with
      | zero =>
        cases (show some e = some d from h1)
        cases (show some _ = some x from h2)
        exact e1
      | succ i => exact toPyL_get i d x e2 (show l[i]? = some d from h1) h2
    · cases h
/-- data sorted: in some sequence -/
def rSortP (K : PySem.W.Frag) : List V → Hp → VK → Prop := fun vs H Q => ∃ (a : Addr) (bs : List (D × V × PyData)), vs = [V.ref a] ∧ SqL K H a (bs.map (·.2.1)) ∧ (∀ b ∈ bs, Dp K H b.2.1 b.2.2) ∧ PySem.W.AllAlike (bs.map (·.2.2)) ∧ PySem.W.Sortable (bs.map (·.2.2)) ∧
  bs.length ≤ sizeLine ∧ (∀ b ∈ bs, b.2.2.depth ≤ 64) ∧ ∀ (bs' : List (D × V × PyData)) (p : Addr), bs'.Perm bs → H p = none → Q (.ref p) (upd H p (.lst (bs'.map (·.2.1))))
theorem each_of : ∀ {bs : List (D × V × PyData)} {us : List Value}, Vals (bs.map (·.2.1)) us → PySem.W.EachIs (fun v (b : D × V × PyData) => RelV b.2.1 v) us bs
  | [], _, .nil => .nil
  | b :: bs, _, .cons r t => .cons r (each_of t)
theorem vals_each : ∀ {bs : List (D × V × PyData)} {us : List Value}, PySem.W.EachIs (fun v (b : D × V × PyData) => RelV b.2.1 v) us bs → Vals (bs.map (·.2.1)) us
  | [], _, .nil => .nil
  | b :: bs, _, .cons r t => .cons r (vals_each t)
theorem cr_sortP (hu : X.A.units + 66 < cLine) : CallR X (.builtin "sorted") (rSortP X.K) := by
  intro pins s σ H vs us Q I r h
  obtain ⟨a, bs, rfl, hs, hd, hal, hk, hlen, hdep, q⟩ := h
  obtain ⟨its, rv, hl, _⟩ := I.list hs
  rw [Vals.ref1 r]
  have e := each_of rv
  have er : PySem.W.EachIs (fun v (b : D × V × PyData) => ∃ as, Reads s.heap v b.2.2 as) its bs := PySem.W.EachIs.of_zip e.length fun p hp => by
    have h2 := e.zip p hp
    exact Dp.reads I _ _ _ (hd p.2 (List.of_mem_zip hp).2) h2
  refine PySem.W.sorted_data (enc := fun b => b.2.2) hl.isList e er hal hk hlen (fun b hb => by have := hdep b hb; omega) fun out ho eo => ?_
  obtain ⟨ep, he'⟩ := PyProof.Rows.sortedAll_at s.heap its out.toArray
  have hp := List.mergeSort_perm bs (PySem.W.dataLe false fun b => b.2.2)
  refine ⟨.ref _, upd H (s.heap.objs.size + 1) (.lst ((bs.mergeSort (PySem.W.dataLe false fun b => b.2.2)).map (·.2.1))), I.laid (t' := s.toks) (fun _ _ => PyProof.Rows.sortedAll_old) (Nat.le_succ _) ⟨by rw [List.length_map, hp.length_eq]; exact hlen, out, ep, vals_each eo, he'⟩, rfl, q _ _ hp (I.hok.fresh (Nat.le_succ _))⟩
@[simp ↓] def fSorted (fa : FE) : FL := fun ρ c Q => fa ρ c fun x c => match x with
  | .lst l => sortedM l fun l' => Q l' c
  | _ => False
theorem RepL.ofMap {p : Pn} {F : Hp} : ∀ (bs : List (D × V × PyData)), (∀ b ∈ bs, Rep K p F b.1 b.2.1) → RepL K p F (bs.map (·.1)) (bs.map (·.2.1))
  | [], _ => rfl
  | b :: bs, h => ⟨_, _, rfl, h b List.mem_cons_self, RepL.ofMap bs fun x hx => h x (List.mem_cons_of_mem _ hx)⟩
theorem fx_sorted (hu : X.A.units + 66 < cLine) (hm : X.mg "sorted" = none) (ha : EX X e fa) (hg : Gl X "sorted" := by rfl) (hs : starEach [e] X.env = (false, eval e X.env) :: starEach [] X.env := by rfl) {p : Pos} :
    FX X (.Call (.Name "sorted" p) [e] [] pos) (fSorted fa) := PE.imp (pe_callB (CallR.or cr_sorted (cr_sortP hu)) hg hm (by decide +kernel) (pa_cons ha pa_nil hs) (by decide) (by decide) hs rfl) fun σ H Q ⟨p, c, ρ, F, Q', es, h, t⟩ =>
  ⟨p, c, ρ, F, _, es, h, fun d c1 v F1 H1 w1 ok1 r1 q1 => by
    split at q1
    · obtain ⟨a, xs, rfl, h1, rl⟩ := r1
      rcases q1 with ⟨ns, e1, e2, e3⟩ | ⟨ds, e1, e2, e3, e4, e5, e6⟩
      · refine .inl ⟨a, ns, rfl, by rw [← RepL.ints rl e1]; exact .of (ok1.sub _ _ h1), e2, fun ns' q hp hs nq => ?_⟩
        obtain ⟨w, ok, n1, n2, n3⟩ := layL w1 ok1 nq (ns'.map V.int)
        exact t _ c1 q _ F1 _ w ok n1 n2 n3 upd_same (rep_ints ns') (e3 ns' hp hs)
      · rename_i l
        obtain ⟨z1, z2, z3⟩ := zip3_at l xs ds rl.len (toPyL_len e1)
        have hm := zip3_mem (P := fun d v => Rep X.K p F1 d v) (R := fun d x => toPy d = some x) l xs ds (fun i d v g1 g2 => by
          obtain ⟨v', y1, y2⟩ := rl.get g1
          rw [g2] at y1
          cases y1
          exact y2) (fun i d x g1 g2 => toPyL_get i d x e1 g1 g2)
        refine .inr ⟨a, zip3 l xs ds, rfl, by rw [z2]; exact .of (ok1.sub _ _ h1), fun b hb => (hm b hb).1.dp ok1.sub (hm b hb).2, by rw [z3]; exact e2, by rw [z3]; exact e3, ?_, fun b hb => e5 _ (by rw [← z3]; exact List.mem_map.mpr ⟨b, hb, rfl⟩), fun bs' q hp nq => ?_⟩
        · have := congrArg List.length z3
          rw [List.length_map] at this
          rw [this, line16]; exact e4
        · obtain ⟨w, ok, n1, n2, n3⟩ := layL w1 ok1 nq (bs'.map (·.2.1))
          refine t (bs'.map (·.1)) c1 q _ F1 _ w ok n1 n2 n3 upd_same (RepL.ofMap bs' fun b hb => (hm b (hp.mem_iff.mp hb)).1) (e6 _ ?_)
          have := hp.map (·.1)
          rw [z1] at this
          exact this
    · exact q1.elim⟩
/-! max, min of one sequence of ints -/
@[simp ↓] def maxM : FM := fun l c Q => match l with
  | [.tup m] => (match intsOf m with | some (n :: ns) => Q (.int (ns.foldl max n)) c | _ => False)
  | [.lst m] => (match intsOf m with | some (n :: ns) => Q (.int (ns.foldl max n)) c | _ => False)
  | _ => False
@[simp ↓] def minM : FM := fun l c Q => match l with
  | [.tup m] => (match intsOf m with | some (n :: ns) => Q (.int (ns.foldl min n)) c | _ => False)
  | [.lst m] => (match intsOf m with | some (n :: ns) => Q (.int (ns.foldl min n)) c | _ => False)
  | _ => False
def rOne (K : PySem.W.Frag) (f : Int → List Int → Int) : List V → Hp → VK → Prop := fun vs H Q => ∃ (a : Addr) (n : Int) (ns : List Int), vs = [V.ref a] ∧ (SqL K H a ((n :: ns).map V.int) ∨ SqT K H a ((n :: ns).map V.int)) ∧ Q (.int (f n ns)) H
theorem reads_ints {h : Heap} : ∀ {ns : List Int} {us : List Value}, Vals (ns.map V.int) us → ReadsAll h us (ns.map .int) []
  | [], _, .nil => .nil
  | n :: ns, _, .cons r t => by
    obtain ⟨k, rfl⟩ := r
    exact .cons (.int n k) (reads_ints t)
theorem depth_ints : ∀ ns : List Int, PyData.depthAll (ns.map .int) = 0
  | [] => rfl
  | n :: ns => by
    show max (PyData.depth (.int n)) (PyData.depthAll (ns.map .int)) = 0
    rw [depth_ints ns]
    rfl
theorem alike_all (n : Int) (ns : List Int) : PySem.W.AlikeAll (PyData.int n :: ns.map .int) := by
  have h : ∀ x ∈ (n :: ns).map PyData.int, ∃ i, x = .int i := fun x hx => by
    obtain ⟨i, _, rfl⟩ := List.mem_map.mp hx
    exact ⟨i, rfl⟩
  refine ⟨fun x hx y hy => ?_, fun x hx => ?_⟩
  · obtain ⟨i, rfl⟩ := h x hx
    obtain ⟨j, rfl⟩ := h y hy
    rfl
  · obtain ⟨i, rfl⟩ := h x hx
    exact fun z => nomatch z
theorem maxR (hc : X.calm = true) (hu : X.A.units + 2 < cLine) : CallR X (.builtin "max") (rOne X.K fun n ns => ns.foldl max n) := by
  intro pins s σ H vs us Q I r h
  obtain ⟨a, n, ns, rfl, hs, q⟩ := h
  rw [Vals.ref1 r]
  have fin : ∀ (its : List Value), Vals ((n :: ns).map V.int) its → ∀ (i : Nat) (v : Value) (h' : Heap) (tk : Nat) (bs : List Addr), its.toArray[i]? = some v → Reads h' v (PySem.W.maxD (.int n) (ns.map .int)) bs → (∀ b o, s.heap.get? b = some o → h'.get? b = some o) → EP X pins σ Q v { s with heap := h', toks := tk } := fun its rv i v h' tk bs e rd k => by
    rw [PySem.W.maxD_ints] at rd
    cases rd
    exact ⟨.int (ns.foldl max n), H, I.kept k, ⟨_, rfl⟩, q⟩
  have hdep : X.A.units + 1 + PyData.depthAll (PyData.int n :: ns.map .int) < cLine := by
    have := depth_ints (n :: ns)
    rw [show PyData.int n :: ns.map .int = (n :: ns).map .int from rfl, this]
    omega
  rcases hs with hs | hs
  · obtain ⟨its, rv, hl, _⟩ := I.list hs
    exact PySem.W.max_list_data (I.ok.hd hc) hl.isList (by simpa using reads_ints rv) (alike_all n ns) hdep (fin its rv)
  · obtain ⟨its, rv, hl, _⟩ := I.tuple hs
    exact PySem.W.max_tuple_data (I.ok.hd hc) hl (by simpa using reads_ints rv) (alike_all n ns) hdep (fin its rv)
theorem minR (hc : X.calm = true) (hu : X.A.units + 2 < cLine) : CallR X (.builtin "min") (rOne X.K fun n ns => ns.foldl min n) := by
  intro pins s σ H vs us Q I r h
  obtain ⟨a, n, ns, rfl, hs, q⟩ := h
  rw [Vals.ref1 r]
  have fin : ∀ (its : List Value), Vals ((n :: ns).map V.int) its → ∀ (i : Nat) (v : Value) (h' : Heap) (tk : Nat) (bs : List Addr), its.toArray[i]? = some v → Reads h' v (PySem.W.minD (.int n) (ns.map .int)) bs → (∀ b o, s.heap.get? b = some o → h'.get? b = some o) → EP X pins σ Q v { s with heap := h', toks := tk } := fun its rv i v h' tk bs e rd k => by
    rw [PySem.W.minD_ints] at rd
    cases rd
    exact ⟨.int (ns.foldl min n), H, I.kept k, ⟨_, rfl⟩, q⟩
  have hdep : X.A.units + 1 + PyData.depthAll (PyData.int n :: ns.map .int) < cLine := by
    have := depth_ints (n :: ns)
    rw [show PyData.int n :: ns.map .int = (n :: ns).map .int from rfl, this]
    omega
  rcases hs with hs | hs
  · obtain ⟨its, rv, hl, _⟩ := I.list hs
    exact PySem.W.min_list_data (I.ok.hd hc) hl.isList (by simpa using reads_ints rv) (alike_all n ns) hdep (fin its rv)
  · obtain ⟨its, rv, hl, _⟩ := I.tuple hs
    exact PySem.W.min_tuple_data (I.ok.hd hc) hl (by simpa using reads_ints rv) (alike_all n ns) hdep (fin its rv)

theorem maxS : CallS K (rOne K fun n ns => ns.foldl max n) maxM := by
  intro p c F H l vs Q' Q ok r h t
  unfold maxM at h
  split at h
  · obtain ⟨v, rfl, r1⟩ := r.one
    obtain ⟨a, xs, rfl, h1, rl⟩ := r1
    split at h
    · rename_i n ns e
      exact ⟨a, n, ns, rfl, .inr (by rw [← RepL.ints rl e]; exact ok.sqT h1), tellI ok t h⟩
    · exact h.elim
  · obtain ⟨v, rfl, r1⟩ := r.one
    obtain ⟨a, xs, rfl, h1, rl⟩ := r1
    split at h
    · rename_i n ns e
      exact ⟨a, n, ns, rfl, .inl (by rw [← RepL.ints rl e]; exact .of (ok.sub _ _ h1)), tellI ok t h⟩
    · exact h.elim
  · exact h.elim
theorem minS : CallS K (rOne K fun n ns => ns.foldl min n) minM := by
  intro p c F H l vs Q' Q ok r h t
  unfold minM at h
  split at h
  · obtain ⟨v, rfl, r1⟩ := r.one
    obtain ⟨a, xs, rfl, h1, rl⟩ := r1
    split at h
    · rename_i n ns e
      exact ⟨a, n, ns, rfl, .inr (by rw [← RepL.ints rl e]; exact ok.sqT h1), tellI ok t h⟩
    · exact h.elim
  · obtain ⟨v, rfl, r1⟩ := r.one
    obtain ⟨a, xs, rfl, h1, rl⟩ := r1
    split at h
    · rename_i n ns e
      exact ⟨a, n, ns, rfl, .inl (by rw [← RepL.ints rl e]; exact .of (ok.sub _ _ h1)), tellI ok t h⟩
    · exact h.elim
  · exact h.elim
end
/-! names of built-ins -/
theorem boot_len3 : bootBuiltins "len" = some (.builtin "len") := by decide +kernel
theorem boot_abs3 : bootBuiltins "abs" = some (.builtin "abs") := by decide +kernel
theorem boot_all3 : bootBuiltins "all" = some (.builtin "all") := by decide +kernel
theorem boot_any3 : bootBuiltins "any" = some (.builtin "any") := by decide +kernel
theorem boot_sum3 : bootBuiltins "sum" = some (.builtin "sum") := by decide +kernel
theorem boot_max3 : bootBuiltins "max" = some (.builtin "max") := by decide +kernel
theorem boot_min3 : bootBuiltins "min" = some (.builtin "min") := by decide +kernel
theorem boot_isinstance3 : bootBuiltins "isinstance" = some (.builtin "isinstance") := by decide +kernel
theorem boot_int3 : bootBuiltins "int" = some (.type "int") := by decide +kernel
theorem boot_bool3 : bootBuiltins "bool" = some (.type "bool") := by decide +kernel
theorem boot_str3 : bootBuiltins "str" = some (.type "str") := by decide +kernel
theorem boot_tuple3 : bootBuiltins "tuple" = some (.type "tuple") := by decide +kernel
theorem boot_list3 : bootBuiltins "list" = some (.type "list") := by decide +kernel
end L3

/-! L3, the pot: a list of three ints that a law draws from. -/
namespace L3
open PySem PySem.Spec PyProof.Rows L2
theorem u66 {k : Nat} {A : Around} (r : Room k A) {n : Nat} (h : n ≤ 200 := by decide) : A.units + n < cLine := by
  have := r.un
  omega
section
variable {K : PySem.W.Frag} {X : Cx} {e a b : Expr} {es : List Expr} {fa fb fe : FE} {fr : FA} {pos p2 : Pos}
/-- pot[k] -/
@[simp ↓] def ePot (i : Nat) (k : Int) : FE := fun ρ c Q => get3 ρ i = some .pot ∧ ((k = 0 ∧ ∀ x : Int, 0 ≤ x → Q (.int x) c) ∨ (k = 1 ∧ ∀ y : Int, 0 ≤ y → y < 2 ^ 61 → Q (.int y) c) ∨ (k = 2 ∧ ∀ z : Int, 0 ≤ z → z ≤ c → Q (.int z) c))
theorem ex_pot (i : Nat) {x : Str} {px pk : Pos} {k : Int} {j : Nat} (hN : X.N[i]? = some x := by rfl) (hv : Vis X.env.scope x := by first | exact Or.inl rfl | exact Or.inr (Or.inl rfl) | exact Or.inr (Or.inr rfl)) (hd : (x == ("__debug__" : Str)) = false := by decide)
    (hcd : (x == ("__classdict__" : Str)) = false := by decide) : EX X (.Subscript (.Name x px) (.Constant (.int k) j pk) pos) (ePot i k) := PE.imp (pe_ix L2.ix_seq (pe_var (i := i) hN hv hd hcd) pe_int (fun _ _ => rfl)) fun σ H Q ⟨p, c, ρ, F, Q', es, ⟨g, h⟩, t⟩ => by
  obtain ⟨v, e1, r⟩ := es.slot i _ g
  obtain ⟨a, e2, rfl⟩ := r
  obtain ⟨⟨x, y, z, hH, x0, y0, y1, z0, z1⟩, nF⟩ := es.ok.pot a e2
  refine ⟨_, e1, ?_⟩
  have hL : SqL X.K H a [.int x, .int y, .int z] := .of hH
  rcases h with ⟨rfl, h⟩ | ⟨rfl, h⟩ | ⟨rfl, h⟩
  · exact .inl ⟨a, _, 0, .int x, rfl, rfl, hL, rfl, tellI es.ok t (h x x0)⟩
  · exact .inl ⟨a, _, 1, .int y, rfl, rfl, hL, rfl, tellI es.ok t (h y y0 y1)⟩
  · exact .inl ⟨a, _, 2, .int z, rfl, rfl, hL, rfl, tellI es.ok t (h z z0 z1)⟩
/-- pot[k] = e -/
@[simp ↓] def sPot (i : Nat) (k : Int) (fe : FE) : FS := fun E ρ c => fe (ρ.map vA) c fun d c => match d with
  | .int v => ρ[i]? = some (.val .pot) ∧ ((k = 0 ∧ 0 ≤ v ∧ E.nx ρ (c + 1)) ∨ (k = 2 ∧ 0 ≤ v ∧ v ≤ (c : Int) + 1 ∧ E.nx ρ (c + 1)))
  | _ => False
theorem sx_pot {i : Nat} {k : Int} {st : Stmt} (h : PS X st (tAsg (tE X.K fa) (gSub (tVar i) (tC (.int k)) rSetL))) : SX X st (sPot i k fa) := PS.imp h fun D σ H ⟨p, c, ρ, F, F0, H0, E, s, h, t⟩ => by
  refine ⟨p, c, _, F, _, s.e, h, fun d c1 v F1 H1 w1 ok1 r1 q1 => ?_⟩
  split at q1
  · rename_i n
    cases (show v = .int n from r1)
    obtain ⟨g, q⟩ := q1
    have s1 := s.fwd w1 ok1
    obtain ⟨u, e1, r⟩ := s1.val i _ g
    obtain ⟨a, e2, rfl⟩ := r
    obtain ⟨⟨x, y, z, hH, x0, y0, y1, z0, z1⟩, nF⟩ := ok1.pot a e2
    have put : ∀ x' z' : Int, 0 ≤ x' → 0 ≤ z' → z' ≤ (c1 : Int) + 1 → SSt X.K p (c1 + 1) ρ σ F1 (upd H1 a (.lst [.int x', .int y, .int z'])) F0 H0 := fun x' z' h1 h2 h3 => by
      refine s1.fwd ⟨fun _ _ z => z, fun b o hb n _ => ?_, fun _ _ z => .inl z, fun b hb => ?_⟩ ⟨fun b o hb => ?_, fun b hb => ?_, tabs_put ok1.tab hH, ok1.nt⟩
      · rw [upd_ne (fun z => n (by rw [z]; exact e2))]; exact hb
      · by_cases z : b = a
        · rw [z, upd_same] at hb; cases hb
        · rw [upd_ne z] at hb; exact hb
      · rw [upd_ne (ne_of_none hb nF)]; exact ok1.sub b o hb
      · rw [e2] at hb
        cases hb
        exact ⟨⟨x', y, z', upd_same, h1, y0, y1, h2, by omega⟩, nF⟩
    refine ⟨_, e1, ?_⟩
    rcases q with ⟨rfl, q1, q2⟩ | ⟨rfl, q1, q2, q3⟩
    · exact ⟨a, _, 0, 0, rfl, rfl, hH, rfl, t.nx _ ρ σ F1 _ (put n z q1 z0 (by omega)) q2⟩
    · exact ⟨a, _, 2, 2, rfl, rfl, hH, rfl, t.nx _ ρ σ F1 _ (put x n x0 q1 q2) q3⟩
  · exact q1.elim
/-! a def that hands out a list of its own -/
abbrev FSF := (List D → Nat → Prop) → Env3 → Nat → Prop
def TellF (K : PySem.W.Frag) (p : Pn) (F0 H0 : Hp) (Q' : List D → Nat → Prop) (Q : VK) : Prop := ∀ l c' a xs F' H', Fwd p F0 H0 F' H' → Ok3 p c' F' H' → H0 a = none → F' a = none → p.pot ≠ some a → H' a = some (.lst xs) → RepL K p F' l xs → Q' l c' → Q (.ref a) H'
def tSF (K : PySem.W.Frag) (s : FSF) : TS := fun D σ H => ∃ p c ρ F F0 H0 Q', SSt K p c ρ σ F H F0 H0 ∧ s Q' ρ c ∧ TellF K p F0 H0 Q' D.rt
@[simp ↓] def sRetF (f : FL) : FSF := fun Q ρ c => f (ρ.map vA) c Q
@[simp ↓] def sThenF (g : FS) (h : FSF) : FSF := fun Q ρ c => g { nx := fun ρ c => h Q ρ c, rt := fun _ _ => False } ρ c
theorem bf_ret {f : FL} (h : FX X e f) : PSs X [.Return (some e) pos] (tSF X.K (sRetF f)) := PSs.imp (pss_one (ps_ret h)) fun D σ H ⟨p, c, ρ, F, F0, H0, Q', s, h, t⟩ =>
  ⟨p, c, _, F, Q', s.e, h, fun l c' a xs F' H' w ok n1 n2 n3 h1 r q => t l c' a xs F' H' (s.ent.trans w) ok (s.ent.there a n1) n2 n3 h1 r q⟩
theorem bf_cons {st : Stmt} {rest : List Stmt} {g : FS} {f : FSF} (h1 : SX X st g) (h2 : PSs X rest (tSF X.K f)) : PSs X (st :: rest) (tSF X.K (sThenF g f)) := PSs.imp (pss_cons h1 h2) fun D σ H ⟨p, c, ρ, F, F0, H0, Q', s, h, t⟩ =>
  ⟨p, c, ρ, F, F0, H0, _, s, h, fun c1 ρ1 σ1 F1 H1 s1 q => ⟨p, c1, ρ1, F1, F0, H0, Q', s1, q, t⟩, fun _ _ _ _ _ _ q => q.elim, fun _ _ _ _ _ _ q => q.elim, fun _ _ _ _ _ _ _ _ q => q.elim⟩
abbrev FMF := List D → Nat → (List D → Nat → Prop) → Prop
def spF (K : PySem.W.Frag) (n : Nat) (m : FMF) : Sp := fun vs H Q _ => vs.length = n ∧ ∃ p c F ds Q', Ok3 p c F H ∧ RepL K p F ds vs ∧ m ds c Q' ∧ TellF K p F H Q' Q
theorem fn3F {P : Program} {w : World} {mg : Str → Option Value} {base : Heap} {x qual : Str} {st : Stmt} {f : Addr} {fd : FuncData} {N ps : List Str} {k n : Nat} {m : FMF} {g : FSF}
    (F : Fun K x qual st f fd) (S : FnScope N ps (defScope st)) (hn : ps.length = n) (hp : ∀ ds c Q, m ds c Q → g Q (start3 N.length ds) c)
    (hbody : ∀ (cdv : Value) (A : Around) (outer : List Env) (s : Shared) (H : Hp) (E : XK), Room k (A.deeper (envOfC qual (defScope st) s.heap.objs.size f cdv)) →
      PSs (cxOf CX0 P w K mg base N qual (defScope st) f cdv A outer s H E).nox (defBody st) (tSF K g)) : FnOk P w K mg base CX0 (k + 1) f fd ps (spF K n m) := by
  refine Fun.ok3 F S (fun vs H Q E h => h.1.trans hn.symm) fun cdv A outer s H vs Q E _ hr ⟨hl, p, c, F1, ds, Q', ok, r, h, t⟩ => ?_
  exact ⟨_, (hbody cdv A outer s H E hr).nox, p, c, start3 N.length ds, F1, F1, H, _, start_ok ok r, hp ds c Q' h, t⟩
/-- right(pot(es)): a new pot, drawn from by right -/
@[simp ↓] def ePotCall (mp : FMF) (mr : FM) (fr : FA) : FE := fun ρ c Q => fr ρ c fun l c => mp l c fun l' c => ∃ x y : Int, l' = [.int x, .int y, .int 0] ∧ 0 ≤ x ∧ 0 ≤ y ∧ y < 2 ^ 61 ∧ mr [.pot] 0 fun d _ => noLst d = true ∧ Q d c
theorem ex_potcall {k k2 n : Nat} {f f2 : Addr} {fd fd2 : FuncData} {ps ps2 : List Str} {mp : FMF} {mr : FM} {x y : Str} {p1 p2 : Pos} (G : FnOk X.prog X.w X.K X.mg X.base CX0 k f fd ps (spF X.K n mp)) (G2 : FnOk X.prog X.w X.K X.mg X.base CX0 k2 f2 fd2 ps2 (spM X.K 1 mr)) (hr : Room k X.A) (hr2 : Room k2 X.A)
    (hm : X.mg x = some (.ref f)) (hk : PySem.W.keepIn X.K (.ref f) = true) (hb : Binds X.K fd ps []) (hm2 : X.mg y = some (.ref f2)) (hk2 : PySem.W.keepIn X.K (.ref f2) = true) (hb2 : Binds X.K fd2 ps2 []) (ha : AX X (a :: es) fr) (hl : ∀ l c Q, mp l c Q → l.length = n)
    (hg : Gl X x := by rfl) (hg2 : Gl X y := by rfl) (hdb : (x == ("__debug__" : Str)) = false := by decide) (hdb2 : (y == ("__debug__" : Str)) = false := by decide) (he : starEach (a :: es) X.env = (false, eval a X.env) :: starEach es X.env := by rfl) (hpl : (backTo p2 (starEach es X.env)).any (·.1) = false := by rfl)
    (he2 : starEach [.Call (.Name x p1) (a :: es) [] p2] X.env = (false, eval (.Call (.Name x p1) (a :: es) [] p2) X.env) :: starEach [] X.env := by rfl) {p3 : Pos} :
    EX X (.Call (.Name y p3) [.Call (.Name x p1) (a :: es) [] p2] [] pos) (ePotCall mp mr fr) := PE.imp (pe_call (dvs := []) (E := E0) G2 hr2 hg2 hm2 hk2 hb2 .nil pass0 (pa_cons (pe_call (dvs := []) (E := E0) G hr hg hm hk hb .nil pass0 ha hdb he hpl) pa_nil he2) hdb2 he2 rfl) fun σ H Q ⟨p, c, ρ, F, Q', es, h, t⟩ =>
  ⟨p, c, ρ, F, _, es, h, fun l c1 vs F1 H1 w1 ok1 r1 q1 => ⟨by rw [List.append_nil, r1.len]; exact hl _ _ _ q1, p, c1, F1, l, _, ok1, by rw [List.append_nil]; exact r1, q1, fun l' c2 a xs F2 H2 w2 ok2 n1 n2 n3 h1 r2 q2 => by
    obtain ⟨x, y, rfl, x0, y0, y1, q2⟩ := q2
    obtain ⟨v1, vs1, rfl, e1, r3⟩ := r2
    obtain ⟨v2, v3, rfl, e2, e3⟩ := r3.two
    cases (show v1 = .int x from e1)
    cases (show v2 = .int y from e2)
    cases (show v3 = .int 0 from e3)
    have w12 := w1.trans w2
    have nH : H a = none := w1.there a n1
    refine ⟨rfl, ⟨some a, p.cod, p.flo⟩, 0, F2, [.pot], _, ⟨ok2.sub, fun b hb => ?_, ⟨ok2.tab.tabs, ok2.tab.cod⟩, ⟨ok2.nt.t, ok2.nt.f⟩⟩, ⟨_, _, rfl, ⟨a, rfl, rfl⟩, rfl⟩, q2, fun d c3 v F3 H3 w3 ok3 r3 q3 => ?_⟩
    · cases hb
      exact ⟨⟨x, y, 0, h1, x0, y0, y1, Int.le_refl _, Int.le_refl _⟩, n2⟩
    · have kp : ∀ b o, H2 b = some o → b ≠ a → (∀ ps, o ≠ HO.tbl ps) → H3 b = some o := fun b o h n t => w3.keep b o h (fun z => n (Option.some.inj z).symm) t
      refine t d c2 v F3 H3 ⟨fun b o z => w3.frz b o (w12.frz b o z), fun b o hb n t => ?_, fun b o hb => ?_, fun b hb => w12.there b (w3.there b hb)⟩ ⟨ok3.sub, fun b hb => ?_, ⟨ok3.tab.tabs, ok3.tab.cod⟩, ⟨ok3.nt.t, ok3.nt.f⟩⟩ (Rep.pnL q3.1 r3) q3.2
      · exact kp b o (w12.keep b o hb n t) (ne_of_none hb nH) t
      · rcases w3.new b o hb with z | z
        · exact w12.new b o z
        · rcases z with z | z
          · exact .inr (.inl (w12.there b z))
          · exact .inr (.inr z)
      · obtain ⟨⟨x', y', z', g1, g2⟩, g3⟩ := ok2.pot b hb
        refine ⟨⟨x', y', z', kp b _ g1 (fun z => n3 (z ▸ hb)) (fun _ z => nomatch z), g2⟩, ?_⟩
        cases z : F3 b with
        | none => rfl
        | some o =>
          rcases w3.new b o z with q | q | ⟨q', q⟩
          · rw [g3] at q; cases q
          · rw [g1] at q; cases q
          · have y2 := ok3.sub b o z
            rw [kp b _ g1 (fun z => n3 (z ▸ hb)) (fun _ z => nomatch z)] at y2
            exact absurd (q.symm.trans (Option.some.inj y2.symm)) codeO_lst⟩⟩
end
/-- a def that makes a lambda: its code object is told -/
theorem fn3L {P : Program} {w : World} {K : PySem.W.Frag} {mg : Str → Option Value} {base : Heap} {x qual : Str} {st : Stmt} {f : Addr} {fd : FuncData} {N ps : List Str} {k n : Nat} {m : FM} {g : FS}
    (F : Fun K x qual st f fd) (S : FnScope N ps (defScope st)) (hn : ps.length = n) (hp : ∀ ds c Q, m ds c Q → runM N.length g ds c Q)
    (hbody : ∀ (cdv : Value) (A : Around) (outer : List Env) (s : Shared) (H : Hp) (E : XK), fd.code = cdv → Room k (A.deeper (envOfC qual (defScope st) s.heap.objs.size f cdv)) →
      BX (cxOf CX0 P w K mg base N qual (defScope st) f cdv A outer s H E).nox (defBody st) g) : FnOk P w K mg base CX0 (k + 1) f fd ps (spM K n m) := by
  refine Fun.ok3 F S (fun vs H Q E h => h.1.trans hn.symm) fun cdv A outer s H vs Q E hcd hr ⟨hl, p, c, F1, ds, Q', ok, r, h, t⟩ => ?_
  refine ⟨_, (hbody cdv A outer s H E hcd hr).nox, p, c, start3 N.length ds, F1, F1, H, _, start_ok ok r, hp ds c Q' h, fun c ρ σ F' H' s q => ?_, fun _ _ _ _ _ _ q => q.elim, fun _ _ _ _ _ _ q => q.elim, t⟩
  exact t .non c .non F' H' s.ent s.ok rfl q
end L3

/-! L3, plain rules: loops and comprehensions as invariants. -/
namespace L3
open PySem PySem.Spec PyProof.Rows L2
theorem while_n {t : FT} {b : FS} {E : End3} (I : Env3 → Nat → Nat → Prop)
    (step : ∀ μ ρ c, I ρ c μ → ∀ N : Env3 → Nat → Prop, (∀ ρ' c' μ', μ' < μ → I ρ' c' μ' → N ρ' c') → t (ρ.map vB) c fun k c' => if k = true then b { E with nx := N, ct := N, bk := E.nx } ρ c' else E.nx ρ c') :
    ∀ n μ ρ c, μ < n → I ρ c μ → whileN t b E n ρ c
  | 0, _, _, _, h, _ => absurd h (Nat.not_lt_zero _)
  | n + 1, μ, ρ, c, h, i => step μ ρ c i (whileN t b E n) fun ρ' c' μ' h' i' => while_n I step n μ' ρ' c' (Nat.lt_of_lt_of_le h' (Nat.le_of_lt_succ h)) i'
theorem while_rule {t : FT} {b : FS} {E : End3} (I : Env3 → Nat → Nat → Prop) {ρ : Env3} {c μ : Nat} (i : I ρ c μ)
    (step : ∀ μ ρ c, I ρ c μ → ∀ N : Env3 → Nat → Prop, (∀ ρ' c' μ', μ' < μ → I ρ' c' μ' → N ρ' c') → t (ρ.map vB) c fun k c' => if k = true then b { E with nx := N, ct := N, bk := E.nx } ρ c' else E.nx ρ c') : sWhile t b E ρ c :=
  ⟨μ + 1, while_n I step (μ + 1) μ ρ c (Nat.lt_succ_self _) i⟩
theorem for_rule {g : FG} {b : FS} {E : End3} (I : List D → Env3 → Nat → Prop)
    (step : ∀ d l ρ c, I (d :: l) ρ c → ∀ N : Env3 → Nat → Prop, (∀ ρ' c', I l ρ' c' → N ρ' c') → g d ρ fun ρ => b { E with nx := N, ct := N, bk := E.nx } ρ c)
    (fin : ∀ ρ c, I [] ρ c → E.nx ρ c) : ∀ (l : List D) (ρ : Env3) (c : Nat), I l ρ c → forL g b E l ρ c
  | [], ρ, c, i => fin ρ c i
  | d :: l, ρ, c, i => step d l ρ c i (fun ρ c => forL g b E l ρ c) fun ρ' c' i' => for_rule I step fin l ρ' c' i'
theorem comp_rule {g : FG} {fe : FE} {ρ : Rho} (P : D → Prop) (k C : Nat) : ∀ (l : List D) (c : Nat) (Q : List D → Nat → Prop),
    (∀ d ∈ l, ∀ c (K : KD), c + k ≤ C → (∀ y, P y → K y (c + k)) → g d (ρ.map upS) fun ρ' => fe (ρ'.map vA) c K) → c + k * l.length ≤ C → (∀ ys, ys.length = l.length → (∀ y ∈ ys, P y) → Q ys (c + k * l.length)) → compL g tYes3 fe ρ l c Q
  | [], c, Q, _, _, q => q [] rfl (fun _ h => absurd h List.not_mem_nil)
  | d :: l, c, Q, step, hc, q => by
    have e : c + k * (d :: l).length = c + k + k * l.length := by
      rw [List.length_cons, Nat.mul_succ]
      omega
    rw [e] at hc q
    show g d (ρ.map upS) fun ρ' => fe (ρ'.map vA) c fun y c => compL g tYes3 fe ρ l c fun ys c => Q (y :: ys) c
    refine step d List.mem_cons_self c _ (by omega) fun y py => comp_rule P k C l (c + k) _ (fun d hd => step d (List.mem_cons_of_mem _ hd)) hc fun ys h1 h2 => q (y :: ys) (by rw [List.length_cons, List.length_cons, h1]) fun z hz => ?_
    rcases List.mem_cons.mp hz with e | e
    · rw [e]; exact py
    · exact h2 z e
/-- each by its own: no draws -/
theorem comp_map {g : FG} {fe : FE} {ρ : Rho} (f : D → D) {c : Nat} : ∀ (l : List D) (Q : List D → Nat → Prop),
    (∀ d ∈ l, ∀ (K : KD), K (f d) c → g d (ρ.map upS) fun ρ' => fe (ρ'.map vA) c K) → Q (l.map f) c → compL g tYes3 fe ρ l c Q
  | [], Q, _, q => q
  | d :: l, Q, step, q => by
    show g d (ρ.map upS) fun ρ' => fe (ρ'.map vA) c fun y c => compL g tYes3 fe ρ l c fun ys c => Q (y :: ys) c
    exact step d List.mem_cons_self _ (comp_map f l _ (fun d hd => step d (List.mem_cons_of_mem _ hd)) q)
theorem bls_true (l : List D) : blsOf (l.map fun _ => .bl true) = some (l.map fun _ => true) := by
  induction l with
  | nil => rfl
  | cons d l ih =>
    show (blsOf (l.map fun _ => .bl true)).map (true :: ·) = _
    rw [ih]
    rfl
theorem all_true {α : Type} (l : List α) : (l.map fun _ => true).all id = true := by
  induction l with
  | nil => rfl
  | cons d l ih => exact ih
theorem ints_of (ns : List Int) : intsOf (ns.map .int) = some ns := by
  induction ns with
  | nil => rfl
  | cons n ns ih =>
    show (intsOf (ns.map .int)).map (n :: ·) = _
    rw [ih]
    rfl
/-- drawn ints -/
theorem ints_drawn {m : Int} : ∀ {ys : List D}, (∀ y ∈ ys, ∃ d, y = .int d ∧ 0 ≤ d ∧ d < m) → ∃ ds : List Int, ys = ds.map .int ∧ ∀ d ∈ ds, 0 ≤ d ∧ d < m
  | [], _ => ⟨[], rfl, fun _ h => absurd h List.not_mem_nil⟩
  | y :: ys, h => by
    obtain ⟨d, rfl, h1, h2⟩ := h y List.mem_cons_self
    obtain ⟨ds, rfl, h3⟩ := ints_drawn fun z hz => h z (List.mem_cons_of_mem _ hz)
    refine ⟨d :: ds, rfl, fun z hz => ?_⟩
    rcases List.mem_cons.mp hz with e | e
    · rw [e]; exact ⟨h1, h2⟩
    · exact h3 z e
/-- with a test -/
theorem comp_filter {g : FG} {t : FT} {fe : FE} {ρ : Rho} (P : D → Bool) (f : D → D) {c : Nat} : ∀ (l : List D) (Q : List D → Nat → Prop),
    (∀ d ∈ l, ∀ (A : KD) (B : Nat → Prop), (P d = true → A (f d) c) → (P d = false → B c) → g d (ρ.map upS) fun ρ' => t (ρ'.map vA) c fun b c => if b = true then fe (ρ'.map vA) c A else B c) → Q ((l.filter P).map f) c → compL g t fe ρ l c Q
  | [], Q, _, q => q
  | d :: l, Q, step, q => by
    show g d (ρ.map upS) fun ρ' => t (ρ'.map vA) c fun b c => if b = true then fe (ρ'.map vA) c (fun y c => compL g t fe ρ l c fun ys c => Q (y :: ys) c) else compL g t fe ρ l c Q
    have st : ∀ e ∈ l, _ := fun e he => step e (List.mem_cons_of_mem _ he)
    refine step d List.mem_cons_self _ _ (fun h => ?_) fun h => ?_
    · refine comp_filter P f l _ st ?_
      rw [List.filter_cons_of_pos h] at q
      exact q
    · refine comp_filter P f l _ st ?_
      rw [List.filter_cons_of_neg (by rw [h]; decide)] at q
      exact q
theorem rangeL0 (n : Nat) : rangeL 0 n = (List.range n).map fun k => D.int (k : Nat) := by
  unfold rangeL
  refine List.map_congr_left fun k _ => ?_
  rw [Int.zero_add]
end L3

/-! L3C: plain helpers that all laws share. -/
namespace L3
open PySem PySem.Spec PyProof.Rows L2
theorem five_at (z : Int) (hz : 0 ≤ z) {a b c d e : Int} (h : 0 < a ∧ 0 < b ∧ 0 < c ∧ 0 < d ∧ 0 < e) (h' : a < 4294967296 ∧ b < 4294967296 ∧ c < 4294967296 ∧ d < 4294967296 ∧ e < 4294967296) : ∃ p, atI [D.int a, D.int b, D.int c, D.int d, D.int e] (z % 5) = some (.int p) ∧ 0 < p ∧ p < 4294967296 := by
  have : z % 5 = 0 ∨ z % 5 = 1 ∨ z % 5 = 2 ∨ z % 5 = 3 ∨ z % 5 = 4 := by omega
  rcases this with q | q | q | q | q <;> rw [q]
  · exact ⟨a, rfl, h.1, h'.1⟩
  · exact ⟨b, rfl, h.2.1, h'.2.1⟩
  · exact ⟨c, rfl, h.2.2.1, h'.2.2.1⟩
  · exact ⟨d, rfl, h.2.2.2.1, h'.2.2.2.1⟩
  · exact ⟨e, rfl, h.2.2.2.2, h'.2.2.2.2⟩
def isIntB (lo hi : Int) : D → Bool
  | .int v => decide (lo ≤ v ∧ v ≤ hi)
  | _ => false
def areIntsB (lo hi : Int) : D → Bool
  | .tup l => l.all fun d => isIntB lo hi d
  | _ => false
/-- a value that isinstance may ask, its items too if it is a tuple -/
def tyAll : D → Bool
  | .tup l => l.all fun d => (tyName d).isSome
  | d => (tyName d).isSome
theorem tyAll_ints (vs : List Int) : tyAll (.tup (vs.map .int)) = true := List.all_eq_true.mpr fun d hd => by
  obtain ⟨v, _, rfl⟩ := List.mem_map.mp hd
  rfl
theorem areInts_ok {vs : List Int} {lo hi : Int} (h : ∀ v ∈ vs, lo ≤ v ∧ v ≤ hi) : areIntsB lo hi (.tup (vs.map .int)) = true := List.all_eq_true.mpr fun d hd => by
  obtain ⟨v, hv, rfl⟩ := List.mem_map.mp hd
  exact decide_eq_true (h v hv)
theorem bls_map {α : Type} (f : α → Bool) : ∀ l : List α, blsOf (l.map fun d => .bl (f d)) = some (l.map f)
  | [] => rfl
  | d :: l => by
    show (blsOf (l.map fun d => .bl (f d))).map (f d :: ·) = _
    rw [bls_map f l]
    rfl
theorem map_all {α : Type} (f : α → Bool) (l : List α) : (l.map f).all id = l.all f := by
  rw [List.all_map]
  rfl
theorem bls_yes : ∀ {ys : List D}, (∀ y ∈ ys, y = .bl true) → blsOf ys = some (ys.map fun _ => true)
  | [], _ => rfl
  | y :: ys, h => by
    rw [h y List.mem_cons_self]
    show (blsOf ys).map (true :: ·) = _
    rw [bls_yes fun z hz => h z (List.mem_cons_of_mem _ hz)]
    rfl
theorem cut_one (ns : List Int) : cutD (ns.map .int) none (some 1) = (ns.take 1).map D.int := by
  cases ns with
  | nil => rfl
  | cons x r => simp [cutD, HT.sIx]
theorem erase_permD {α : Type} {m r : List α} {f : List α} {k : Nat} {x : α} (h : m[k]? = some x) (p : (f ++ m).Perm r) : (f ++ [x] ++ m.eraseIdx k).Perm r := by
  obtain ⟨hk, hx⟩ := List.getElem?_eq_some_iff.mp h
  have e : (x :: m.eraseIdx k).Perm m := by
    rw [List.eraseIdx_eq_take_drop_succ]
    refine List.perm_middle.symm.trans (List.Perm.of_eq ?_)
    rw [← hx, ← List.drop_eq_getElem_cons hk, List.take_append_drop]
  rw [List.append_assoc]
  exact ((List.Perm.append_left f e).trans p)
theorem get3_set_eq {x : Option D} : ∀ {ρ : Rho} {i : Nat}, i < ρ.length → get3 (ρ.set i x) i = x
  | [], _, h => absurd h (Nat.not_lt_zero _)
  | _ :: _, 0, _ => rfl
  | _ :: ρ, i + 1, h => get3_set_eq (ρ := ρ) (Nat.lt_of_succ_lt_succ h)
theorem get3_set_ne {x : Option D} : ∀ {i j : Nat} (ρ : Rho), i ≠ j → get3 (ρ.set i x) j = get3 ρ j
  | _, _, [], _ => rfl
  | 0, 0, _ :: _, h => absurd rfl h
  | 0, j + 1, _ :: _, _ => rfl
  | i + 1, 0, _ :: _, _ => rfl
  | i + 1, j + 1, _ :: ρ, h => get3_set_ne (i := i) (j := j) ρ (fun e => h (by rw [e]))
theorem vA_upS (ρ : Rho) : ρ.map (vA ∘ upS) = ρ := by
  refine (List.map_congr_left fun x _ => ?_).trans (List.map_id _)
  cases x <;> rfl
theorem comp_le {g : FG} {fe : FE} {ρ : Rho} (P : D → Prop) (k C : Nat) : ∀ (l : List D) (c : Nat) (Q : List D → Nat → Prop),
    (∀ d ∈ l, ∀ c (K : KD), c + k ≤ C → (∀ y c', P y → c' ≤ c + k → K y c') → g d (ρ.map upS) fun ρ' => fe (ρ'.map vA) c K) → c + k * l.length ≤ C → (∀ ys c', ys.length = l.length → (∀ y ∈ ys, P y) → c' ≤ c + k * l.length → Q ys c') → compL g tYes3 fe ρ l c Q
  | [], c, Q, _, _, q => q [] c rfl (fun _ h => absurd h List.not_mem_nil) (Nat.le_add_right _ _)
  | d :: l, c, Q, step, hc, q => by
    have e : c + k * (d :: l).length = c + k + k * l.length := by
      rw [List.length_cons, Nat.mul_succ]
      omega
    rw [e] at hc q
    show g d (ρ.map upS) fun ρ' => fe (ρ'.map vA) c fun y c => compL g tYes3 fe ρ l c fun ys c => Q (y :: ys) c
    refine step d List.mem_cons_self c _ (by omega) fun y c1 py hc1 => comp_le P k C l c1 _ (fun d hd => step d (List.mem_cons_of_mem _ hd)) (by omega) fun ys c2 h1 h2 h3 => q (y :: ys) c2 (by rw [List.length_cons, List.length_cons, h1]) (fun z hz => ?_) (by omega)
    rcases List.mem_cons.mp hz with e | e
    · rw [e]; exact py
    · exact h2 z e
theorem cutD_from {l : List D} (k : Nat) : cutD l (some (k : Int)) none = l.drop k := by
  unfold cutD
  rw [HT.sIx_none, HT.sIx_nat]
  by_cases h : k ≤ l.length
  · rw [Nat.min_eq_left h, List.take_of_length_le (by rw [List.length_drop]; omega)]
  · rw [Nat.min_eq_right (by omega), List.drop_eq_nil_of_le (by omega : l.length ≤ k), List.drop_eq_nil_of_le (Nat.le_refl _)]
    exact List.take_nil
theorem cutD_to {l : List D} (k : Nat) : cutD l none (some (k : Int)) = l.take k := by
  unfold cutD
  rw [HT.sIx_none, HT.sIx_nat, List.drop_zero, Nat.sub_zero]
  by_cases h : k ≤ l.length
  · rw [Nat.min_eq_left h]
  · rw [Nat.min_eq_right (by omega), List.take_of_length_le (Nat.le_refl _), List.take_of_length_le (by omega)]
theorem cutD_both {l : List D} (j k : Nat) (h : j ≤ k) : cutD l (some (j : Int)) (some (k : Int)) = (l.drop j).take (k - j) := by
  unfold cutD
  rw [HT.sIx_nat, HT.sIx_nat]
  by_cases h1 : j ≤ l.length
  · rw [Nat.min_eq_left h1]
    by_cases h2 : k ≤ l.length
    · rw [Nat.min_eq_left h2]
    · rw [Nat.min_eq_right (by omega), List.take_of_length_le (by rw [List.length_drop]; omega), List.take_of_length_le (by rw [List.length_drop]; omega)]
  · rw [Nat.min_eq_right (show l.length ≤ j by omega), Nat.min_eq_right (by omega), List.drop_eq_nil_of_le (show l.length ≤ j by omega), List.drop_eq_nil_of_le (Nat.le_refl _)]
    simp
theorem cutD_but1 {l : List D} : cutD l none (some (-1)) = l.take (l.length - 1) := by
  unfold cutD
  rw [HT.sIx_none, List.drop_zero, Nat.sub_zero]
  have e : HT.sIx l.length l.length (some (-1)) = l.length - 1 := by
    show (if (-1 : Int) < 0 then ((-1 : Int) + (l.length : Int)).toNat else min (-1 : Int).toNat l.length) = _
    rw [if_pos (by decide)]
    omega
  rw [e]
theorem atI_last {α : Type} {l : List α} {x : α} (h : l[l.length - 1]? = some x) : atI l (-1) = some x := by
  have hl : 0 < l.length := by
    have := (List.getElem?_eq_some_iff.mp h).1
    omega
  unfold atI
  rw [← h]
  have e : ixN l.length (-1) = some (l.length - 1) := by
    unfold ixN
    rw [if_neg (by decide), if_pos (by omega)]
    congr 1
    omega
  rw [e]
  rfl
theorem zipL_mem : ∀ {l m : List D} {d : D}, d ∈ zipL l m → ∃ (i : Nat) (x y : D), l[i]? = some x ∧ m[i]? = some y ∧ d = .tup [x, y]
  | [], _, _, h => by simp [zipL] at h
  | _ :: _, [], _, h => by simp [zipL] at h
  | x :: l, y :: m, d, h => by
    rcases List.mem_cons.mp (show d ∈ .tup [x, y] :: zipL l m from h) with e | e
    · exact ⟨0, x, y, rfl, rfl, e⟩
    · obtain ⟨i, a, b, h1, h2, h3⟩ := zipL_mem e
      exact ⟨i + 1, a, b, h1, h2, h3⟩
theorem rangeL_succ (lo : Int) (n : Nat) : rangeL lo (n + 1) = .int lo :: rangeL (lo + 1) n := by
  unfold rangeL
  rw [List.range_succ_eq_map, List.map_cons, List.map_map]
  congr 1
  · simp
  · refine List.map_congr_left fun k _ => ?_
    show D.int (lo + ((k + 1 : Nat) : Int)) = D.int (lo + 1 + (k : Int))
    congr 1
    omega
/-! numbers as data; == -/
abbrev nD (n : Nat) : D := .int (n : Nat)
theorem map_nD (S : List Nat) : S.map nD = (S.map fun n : Nat => (n : Int)).map D.int := by rw [List.map_map]; rfl
theorem at_map {α : Type} {f : α → D} {S : List α} {i : Nat} (h : i < S.length) : atI (S.map f) (i : Int) = some (f S[i]) := by
  refine atI_nat ?_
  rw [List.getElem?_map, List.getElem?_eq_getElem h]
  rfl
theorem intsOf_nD (o : List Nat) : intsOf (o.map nD) = some (o.map fun n : Nat => (n : Int)) := by
  have := ints_of (o.map fun n : Nat => (n : Int))
  rw [List.map_map] at this
  exact this
theorem sum_nD (o : List Nat) : (o.map fun n : Nat => (n : Int)).sum = ((o.sum : Nat) : Int) := by
  induction o with
  | nil => rfl
  | cons n o ih => rw [List.map_cons, List.sum_cons, List.sum_cons, ih]; omega
theorem noLstL_map {α : Type} {f : α → D} : ∀ {l : List α}, (∀ x ∈ l, noLst (f x) = true) → noLstL (l.map f) = true
  | [], _ => rfl
  | x :: l, h => by
    show (noLst (f x) && noLstL (l.map f)) = true
    rw [h x List.mem_cons_self, noLstL_map fun y hy => h y (List.mem_cons_of_mem _ hy)]
    rfl
theorem pyDL_map {α : Type} {f : α → D} {n : Nat} : ∀ {l : List α}, (∀ x ∈ l, pyD n (f x) = true) → pyDL n (l.map f) = true
  | [], _ => by unfold pyDL; rfl
  | x :: l, h => by
    rw [List.map_cons]
    unfold pyDL
    rw [h x List.mem_cons_self, pyDL_map fun y hy => h y (List.mem_cons_of_mem _ hy)]
    rfl
theorem pyDL_of {n : Nat} : ∀ {l : List D}, (∀ x ∈ l, pyD n x = true) → pyDL n l = true
  | [], _ => by unfold pyDL; rfl
  | x :: l, h => by
    unfold pyDL
    rw [h x List.mem_cons_self, pyDL_of fun y hy => h y (List.mem_cons_of_mem _ hy)]
    rfl
theorem pyD_int {n : Nat} {i : Int} : pyD n (.int i) = true := by unfold pyD; rfl
theorem pyD_non {n : Nat} : pyD n .non = true := by unfold pyD; rfl
theorem pyD_bl {n : Nat} {b : Bool} : pyD n (.bl b) = true := by unfold pyD; rfl
theorem eqvDL_nil (l : List D) : eqvDL l [] = l.isEmpty := by
  cases l <;> rfl
mutual
theorem eqvD_refl : ∀ {n : Nat} {d : D}, pyD n d = true → eqvD d d = true
  | _, .non, _ => rfl
  | _, .int i, _ => by simp [eqvD]
  | _, .bl i, _ => by simp [eqvD]
  | _, .str x, h => by simp [eqvD]
  | n + 1, .tup l, h => by
    unfold pyD at h
    unfold eqvD
    exact eqvDL_refl h
  | n + 1, .lst l, h => by
    unfold pyD at h
    unfold eqvD
    exact eqvDL_refl h
  | 0, .tup l, h => by simp [pyD] at h
  | 0, .lst l, h => by simp [pyD] at h
  | _, .ty _, h => by simp [pyD] at h
  | _, .rf _, h => by simp [pyD] at h
  | _, .pot, h => by simp [pyD] at h
  | _, .scr _, h => by simp [pyD] at h
  | _, .lam .., h => by simp [pyD] at h
  | _, .exc .., h => by simp [pyD] at h
  | _, .clo .., h => by simp [pyD] at h
  | _, .dic _, h => by simp [pyD] at h
theorem eqvDL_refl : ∀ {n : Nat} {l : List D}, pyDL n l = true → eqvDL l l = true
  | _, [], _ => rfl
  | n, d :: l, h => by
    unfold pyDL at h
    obtain ⟨h1, h2⟩ := Bool.and_eq_true_iff.mp h
    unfold eqvDL
    rw [eqvD_refl h1, eqvDL_refl h2]
    rfl
end
mutual
/-- no bools within -/
def nbD : D → Bool
  | .non => true
  | .int _ => true
  | .str _ => true
  | .tup l => nbDL l
  | .lst l => nbDL l
  | _ => false
def nbDL : List D → Bool
  | [] => true
  | d :: l => nbD d && nbDL l
end
mutual
theorem eqvD_iff : ∀ {x y : D}, nbD x = true → nbD y = true → (eqvD x y = true ↔ x = y)
  | .non, y, _, hy => by cases y <;> simp [nbD, eqvD] at hy ⊢
  | .int i, y, _, hy => by cases y <;> simp [nbD, eqvD] at hy ⊢
  | .str i, y, _, hy => by cases y <;> simp [nbD, eqvD] at hy ⊢
  | .tup l, y, hx, hy => by
    cases y with
    | tup m =>
      unfold nbD at hx hy
      unfold eqvD
      rw [eqvDL_iff hx hy, D.tup.injEq]
    | _ => simp [nbD, eqvD] at hy ⊢
  | .lst l, y, hx, hy => by
    cases y with
    | lst m =>
      unfold nbD at hx hy
      unfold eqvD
      rw [eqvDL_iff hx hy, D.lst.injEq]
    | _ => simp [nbD, eqvD] at hy ⊢
  | .bl _, _, h, _ => by simp [nbD] at h
  | .ty _, _, h, _ => by simp [nbD] at h
  | .rf _, _, h, _ => by simp [nbD] at h
  | .pot, _, h, _ => by simp [nbD] at h
  | .scr _, _, h, _ => by simp [nbD] at h
  | .lam .., _, h, _ => by simp [nbD] at h
  | .exc .., _, h, _ => by simp [nbD] at h
  | .clo .., _, h, _ => by simp [nbD] at h
  | .dic _, _, h, _ => by simp [nbD] at h
  | .dct _ _, _, h, _ => by simp [nbD] at h
theorem eqvDL_iff : ∀ {l m : List D}, nbDL l = true → nbDL m = true → (eqvDL l m = true ↔ l = m)
  | [], [], _, _ => by simp [eqvDL]
  | [], _ :: _, _, _ => by simp [eqvDL]
  | _ :: _, [], _, _ => by simp [eqvDL]
  | x :: l, y :: m, hx, hy => by
    unfold nbDL at hx hy
    obtain ⟨h1, h2⟩ := Bool.and_eq_true_iff.mp hx
    obtain ⟨g1, g2⟩ := Bool.and_eq_true_iff.mp hy
    unfold eqvDL
    rw [Bool.and_eq_true, eqvD_iff h1 g1, eqvDL_iff h2 g2, List.cons.injEq]
end
theorem nbDL_map {α : Type} {f : α → D} : ∀ {l : List α}, (∀ x ∈ l, nbD (f x) = true) → nbDL (l.map f) = true
  | [], _ => by unfold nbDL; rfl
  | x :: l, h => by
    rw [List.map_cons]
    unfold nbDL
    rw [h x List.mem_cons_self, nbDL_map fun y hy => h y (List.mem_cons_of_mem _ hy)]
    rfl
open Classical in
theorem eqvD_dec {x y : D} (hx : nbD x = true) (hy : nbD y = true) : eqvD x y = decide (x = y) := by
  by_cases h : x = y
  · rw [decide_eq_true h]; exact (eqvD_iff hx hy).mpr h
  · rw [decide_eq_false h]
    cases e : eqvD x y with
    | false => rfl
    | true => exact absurd ((eqvD_iff hx hy).mp e) h
theorem rangeL_app (lo : Int) : ∀ (a b : Nat), rangeL lo (a + b) = rangeL lo a ++ rangeL (lo + a) b
  | 0, b => by rw [Nat.zero_add]; show _ = rangeL (lo + ((0 : Nat) : Int)) b; rw [show lo + ((0 : Nat) : Int) = lo by omega]
  | a + 1, b => by
    rw [show a + 1 + b = (a + b) + 1 by omega, rangeL_succ, rangeL_succ, rangeL_app (lo + 1) a b, show lo + 1 + (a : Int) = lo + ((a + 1 : Nat) : Int) by omega]
    rfl
theorem mem_rangeL {lo : Int} {n : Nat} {d : D} (h : d ∈ rangeL lo n) : ∃ k : Nat, k < n ∧ d = .int (lo + k) := by
  obtain ⟨k, hk, rfl⟩ := List.mem_map.mp h
  exact ⟨k, List.mem_range.mp hk, rfl⟩
theorem atI_lastD {l : List D} (h : l ≠ []) : ∃ x ∈ l, atI l (-1) = some x := by
  have hl := List.length_pos_iff.mpr h
  exact ⟨l[l.length - 1], List.getElem_mem _, atI_last (List.getElem?_eq_getElem (by omega))⟩
theorem mem_enumL : ∀ {n : Nat} {l : List D} {d : D}, d ∈ enumL n l → ∃ (i : Nat) (x : D), l[i]? = some x ∧ d = .tup [.int ((n + i : Nat) : Int), x]
  | _, [], _, h => by cases h
  | n, x :: l, d, h => by
    rcases List.mem_cons.mp (show d ∈ .tup [.int n, x] :: enumL (n + 1) l from h) with e | e
    · exact ⟨0, x, rfl, e⟩
    · obtain ⟨i, y, h1, h2⟩ := mem_enumL e
      exact ⟨i + 1, y, h1, by rw [h2, show n + 1 + i = n + (i + 1) by omega]⟩
@[simp] theorem atI_0 {α : Type} (x : α) (l : List α) : atI (x :: l) 0 = some x := atI_nat (j := 0) rfl
@[simp] theorem atI_1 {α : Type} (x y : α) (l : List α) : atI (x :: y :: l) 1 = some y := atI_nat (j := 1) rfl
@[simp] theorem atI_2 {α : Type} (x y z : α) (l : List α) : atI (x :: y :: z :: l) 2 = some z := atI_nat (j := 2) rfl
@[simp] theorem atI_3 {α : Type} (x y z u : α) (l : List α) : atI (x :: y :: z :: u :: l) 3 = some u := atI_nat (j := 3) rfl
end L3

set_option maxHeartbeats 2000000
/-! L3, sorted by a lambda's keys. -/
namespace L3
open PySem PySem.Spec PyProof.Rows L2
/-! ### reading data off a heap -/
mutual
theorem reads_nil {h : Heap} : ∀ (d : D) {p : PyData} {u : Value} {as : List Addr}, noLst d = true → toPy d = some p → Reads h u p as → as = []
  | .non, _, _, _, _, e, r => by cases e; cases r; rfl
  | .bl _, _, _, _, _, e, r => by cases e; cases r; rfl
  | .int _, _, _, _, _, e, r => by cases e; cases r; rfl
  | .str _, _, _, _, _, e, r => by cases e; cases r; rfl
  | .ty _, _, _, _, _, e, _ => by cases e
  | .rf _, _, _, _, _, e, _ => by cases e
  | .lam .., _, _, _, _, e, _ => by cases e
  | .exc .., _, _, _, _, e, _ => by cases e
  | .clo .., _, _, _, _, e, _ => by cases e
  | .dic _, _, _, _, _, e, _ => by cases e
  | .dct _ _, _, _, _, _, e, _ => by cases e
  | .pot, _, _, _, _, e, _ => by cases e
  | .scr _, _, _, _, _, e, _ => by cases e
  | .lst _, _, _, _, n, _, _ => by simp [noLst] at n
  | .tup l, _, _, _, n, e, r => by
    unfold toPy at e
    cases q : toPyL l with
    | none => rw [q] at e; cases e
    | some ps =>
      rw [q] at e
      cases e
      cases r with
      | tuple _ _ _ ra => exact readsL_nil l (by simpa [noLst] using n) q ra
theorem readsL_nil {h : Heap} : ∀ (l : List D) {ps : List PyData} {us : List Value} {as : List Addr}, noLstL l = true → toPyL l = some ps → ReadsAll h us ps as → as = []
  | [], _, _, _, _, e, r => by unfold toPyL at e; cases e; cases r; rfl
  | d :: l, _, _, _, n, e, r => by
    unfold toPyL at e
    have n' : noLst d = true ∧ noLstL l = true := by simpa [noLstL] using n
    split at e
    · rename_i e1 e2
      cases e
      cases r with
      | cons r1 r2 =>
        rw [reads_nil d n'.1 e1 r1, readsL_nil l n'.2 e2 r2]
        rfl
    · cases e
end
/-! ### expressions that only read: from any heap that has h0 in it -/
section
variable {prog : Program} {w : World} {A : Around} {env : Env} {h0 : Heap}
def Up (h h' : Heap) : Prop := ∀ b o, h.get? b = some o → h'.get? b = some o
def PV (prog : Program) (w : World) (A : Around) (env : Env) (h0 : Heap) (e : Expr) (d : PyData) : Prop := ∀ (s : Shared), Up h0 s.heap → ∀ (Q E : Value → Shared → Prop),
  (∀ v h' tk, Up s.heap h' → Reads h' v d [] → Q v { s with heap := h', toks := tk }) → wpAny (model prog w) A (eval e env) Q E s
theorem pv_local {x : Str} {pos : Pos} {m : Str → Option Value} {u : Value} {d : PyData} (hk : env.scope.kind = .function) (hl : env.kindOf x = some .local) (hn : h0.Ns env.locals m) (hv : m x = some u) (hr : Reads h0 u d []) (hd : (x == ("__debug__" : Str)) = false := by decide) : PV prog w A env h0 (.Name x pos) d :=
  fun s k Q E q => wpAny_Name (wpAny_loadName_local hk hl (hn.keeps k) hv (q u s.heap s.toks (fun _ _ e => e) (PyProof.Rows.Reads.keeps k hr))) hd
theorem pv_free {x : Str} {pos : Pos} {c : Addr} {u : Value} {d : PyData} (hk : env.scope.kind = .function) (hl : env.kindOf x = some .free) (hc : env.cells.lookup x = some c) (hv : h0.IsCell c (some u)) (hr : Reads h0 u d []) (hd : (x == ("__debug__" : Str)) = false := by decide) (hcd : (x == ("__classdict__" : Str)) = false := by decide) : PV prog w A env h0 (.Name x pos) d :=
  fun s k Q E q => wpAny_Name (wpAny_loadName_free hk hl hc (let ⟨o, ho, hd⟩ := hv; ⟨o, k _ _ ho, hd⟩) (q u s.heap s.toks (fun _ _ e => e) (PyProof.Rows.Reads.keeps k hr)) hcd) hd
theorem pv_int {i : Int} {j : Nat} {pos : Pos} : PV prog w A env h0 (.Constant (.int i) j pos) (.int i) := fun s k Q E q => wpAny_Constant_int (q _ s.heap _ (fun _ _ e => e) (.int i _))
theorem pv_neg {e : Expr} {pos : Pos} {i : Int} (h : PV prog w A env h0 e (.int i)) : PV prog w A env h0 (.UnaryOp .USub e pos) (.int (-i)) := fun s k Q E q =>
  UnaryOp_ (h s k _ _ fun v h' tk k' r => by
    cases r
    exact PyProof.Rows.neg_int (q _ h' _ k' (.int _ _)))
theorem rd_len3 {h : Heap} : ∀ {us : List Value} {ps : List PyData} {as : List Addr}, ReadsAll h us ps as → us.length = ps.length
  | _, _, _, .nil => rfl
  | _, _, _, .cons _ r => by rw [List.length_cons, List.length_cons, rd_len3 r]
theorem rd_at3 {h : Heap} : ∀ {us : List Value} {ps : List PyData} {as : List Addr} {n : Nat} {d : PyData}, ReadsAll h us ps as → as = [] → ps[n]? = some d → ∃ u, us[n]? = some u ∧ Reads h u d []
  | _, _, _, n, d, .nil, _, e => by simp at e
  | u :: us, p :: ps, _, n, d, .cons r1 r2, z, e => by
    obtain ⟨z1, z2⟩ := List.append_eq_nil_iff.mp z
    cases n with
    | zero =>
      cases (show some p = some d from e)
      exact ⟨u, rfl, z1 ▸ r1⟩
    | succ n =>
      obtain ⟨u', h2, h3⟩ := rd_at3 r2 z2 (n := n) (d := d) (show ps[n]? = some d from e)
      exact ⟨u', h2, h3⟩
theorem rd_ix3 {h : Heap} {us : List Value} {ps : List PyData} {n : Nat} {d : PyData} (r : ReadsAll h us ps []) (e : ps[n]? = some d) : us.length = ps.length ∧ ∃ u, us[n]? = some u ∧ Reads h u d [] := ⟨rd_len3 r, rd_at3 r rfl e⟩
theorem pv_ix {a b : Expr} {pos : Pos} {ds : List PyData} {i : Int} {d : PyData} (ha : PV prog w A env h0 a (.tuple ds)) (hb : PV prog w A env h0 b (.int i)) (hl : ds.length < 2 ^ 63) (hi : atI ds i = some d)
    (hs : ∀ t u, subscripted b false (.ref t) (.int i u) = operate [.ref t, .int i u] (getItem (.ref t) (.int i u)) := by intro _ _; with_unfolding_all rfl) : PV prog w A env h0 (.Subscript a b pos) d := fun s k Q E q => by
  refine Subscript_ (ha s k _ _ fun v h1 t1 k1 r1 => ?_)
  refine hb { s with heap := h1, toks := t1 } (fun b o e => k1 b o (k b o e)) _ _ fun u h2 t2 k2 r2 => ?_
  cases r2
  have r3 := PyProof.Rows.Reads.keeps k2 r1
  cases r3 with
  | tuple ho hc hd ra =>
    rename_i o vs n
    obtain ⟨j, h3, h4, h5, h6, h7⟩ := atI_get hi
    obtain ⟨hlen, x, hx, rx⟩ := rd_ix3 ra h4
    have ht : IsTup h2 _ vs := ⟨_, ho, hc, _, hd⟩
    exact tail_any (s := { s with heap := h2, toks := t2 }) (ops := [.ref _, .int i _]) ht.typeIs PyProof.Rows.slot_tuple_getitem.lookup (PyProof.Rows.getItem_tuple ht (by omega) (by omega) (by rw [← Array.length_toList, hlen]; exact h3) (by rw [← Array.getElem?_toList]; exact hx) (q x h2 t2 (fun b o e => k2 b o (k1 b o e)) rx)) (hs _ _)
theorem pv_pair {a b : Expr} {k : Nat} {pos : Pos} {c d : PyData} (ha : PV prog w A env h0 a c) (hb : PV prog w A env h0 b d) (hs : starEach [a, b] env = (false, eval a env) :: starEach [b] env := by rfl) (hs2 : starEach [b] env = (false, eval b env) :: starEach [] env := by rfl) : PV prog w A env h0 (.Tuple [a, b] k pos) (.tuple [c, d]) := fun s kk Q E q => by
  refine wpAny_Tuple_spliced ?_
  rw [hs, hs2]
  refine Calls.spliced_cons (ha s kk _ _ fun v h1 t1 k1 r1 => ?_)
  refine Calls.spliced_cons (hb { s with heap := h1, toks := t1 } (fun b o e => k1 b o (kk b o e)) _ _ fun u h2 t2 k2 r2 => ?_)
  refine Calls.spliced_nil ⟨by show 2 ≤ sizeLine; decide, ?_⟩
  have k3 : Up h2 (h2.push { cls := .type "tuple", data := .seq [v, u].toArray }) := fun b o e => Heap.get?_push_of_some _ e
  refine q _ _ t2 (fun b o e => k3 b o (k2 b o (k1 b o e))) ?_
  have ra : ReadsAll (h2.push { cls := .type "tuple", data := .seq [v, u].toArray }) [v, u] [c, d] ([] ++ ([] ++ [])) := .cons (PyProof.Rows.Reads.keeps (fun b o e => k3 b o (k2 b o e)) r1) (.cons (PyProof.Rows.Reads.keeps k3 r2) .nil)
  exact .tuple (Heap.get?_push_size _ rfl) rfl rfl ra
end
/-! ### keys over data -/
abbrev FK := Rho → Option PyData
def pyOf (d : D) : Option PyData := if noLst d = true then toPy d else none
def kVar (i : Nat) : FK := fun ρ => (get3 ρ i).bind pyOf
def kInt (i : Int) : FK := fun _ => some (.int i)
def kNeg (k : FK) : FK := fun ρ => match k ρ with | some (.int i) => some (.int (-i)) | _ => none
def kIx (a b : FK) : FK := fun ρ => match a ρ, b ρ with | some (.tuple ds), some (.int i) => (if ds.length ≤ 16777216 then atI ds i else none) | _, _ => none
def kPair (a b : FK) : FK := fun ρ => match a ρ, b ρ with | some c, some d => some (.tuple [c, d]) | _, _ => none
/-- what the names are worth at h0 -/
def NR (N : List Str) (scope : Scope) (cl : List (Str × Addr)) (L : Addr) (h0 : Heap) (ρ : Rho) : Prop := ∀ i y d p, N[i]? = some y → get3 ρ i = some d → pyOf d = some p →
  (scope.names.lookup y = some .local → ∃ m u, h0.Ns L m ∧ m y = some u ∧ Reads h0 u p []) ∧ (scope.names.lookup y = some .free → ∃ c u, cl.lookup y = some c ∧ h0.IsCell c (some u) ∧ Reads h0 u p [])
def KX (X : Cx) (N2 : List Str) (scope : Scope) (h : Str) (e : Expr) (k : FK) : Prop := ∀ (A : Around) (L f c' : Addr) (h0 : Heap) (ρ : Rho) (d : PyData), scope.kind = .function → NR (N2 ++ [h]) scope (cloFrom X.env.cells scope.names []) L h0 ρ → k ρ = some d → PV X.prog X.w A (LamX.lamEnv X scope L f c') h0 e d
section
variable {X : Cx} {N2 : List Str} {scope : Scope} {h : Str} {a b : Expr} {ka kb : FK} {pos : Pos}
theorem kx_var (i : Nat) {x : Str} (hN : (N2 ++ [h])[i]? = some x := by rfl) (hv : scope.names.lookup x = some .local ∨ scope.names.lookup x = some .free := by first | exact .inl rfl | exact .inr rfl) (hd : (x == ("__debug__" : Str)) = false := by decide) (hcd : (x == ("__classdict__" : Str)) = false := by decide) : KX X N2 scope h (.Name x pos) (kVar i) := by
  intro A L f c' h0 ρ d hk nr hkd
  unfold kVar at hkd
  obtain ⟨d0, e1, e2⟩ := Option.bind_eq_some_iff.mp hkd
  obtain ⟨n1, n2⟩ := nr i x d0 d hN e1 e2
  rcases hv with hv | hv
  · obtain ⟨m, u, g1, g2, g3⟩ := n1 hv
    exact pv_local hk hv g1 g2 g3 hd
  · obtain ⟨c, u, g1, g2, g3⟩ := n2 hv
    exact pv_free hk hv g1 g2 g3 hd hcd
theorem kx_int {i : Int} {j : Nat} : KX X N2 scope h (.Constant (.int i) j pos) (kInt i) := by
  intro A L f c' h0 ρ d hk nr hkd
  cases hkd
  exact pv_int
theorem kx_neg (ha : KX X N2 scope h a ka) : KX X N2 scope h (.UnaryOp .USub a pos) (kNeg ka) := by
  intro A L f c' h0 ρ d hk nr hkd
  unfold kNeg at hkd
  split at hkd
  · rename_i i e
    cases hkd
    exact pv_neg (ha A L f c' h0 ρ _ hk nr e)
  · cases hkd
theorem kx_ix (ha : KX X N2 scope h a ka) (hb : KX X N2 scope h b kb) (hs : ∀ t i u, subscripted b false (.ref t) (.int i u) = operate [.ref t, .int i u] (getItem (.ref t) (.int i u)) := by intro _ _ _; with_unfolding_all rfl) :
    KX X N2 scope h (.Subscript a b pos) (kIx ka kb) := by
  intro A L f c' h0 ρ d hk nr hkd
  unfold kIx at hkd
  split at hkd
  · rename_i ds i e1 e2
    split at hkd
    · exact pv_ix (ha A L f c' h0 ρ _ hk nr e1) (hb A L f c' h0 ρ _ hk nr e2) (by omega) hkd (fun t u => hs t i u)
    · cases hkd
  · cases hkd
theorem kx_pair {n : Nat} (ha : KX X N2 scope h a ka) (hb : KX X N2 scope h b kb) (hs : ∀ env, starEach [a, b] env = (false, eval a env) :: starEach [b] env := by intro _; rfl) (hs2 : ∀ env, starEach [b] env = (false, eval b env) :: starEach [] env := by intro _; rfl) : KX X N2 scope h (.Tuple [a, b] n pos) (kPair ka kb) := by
  intro A L f c' h0 ρ d hk nr hkd
  unfold kPair at hkd
  split at hkd
  · rename_i c d' e1 e2
    cases hkd
    exact pv_pair (ha A L f c' h0 ρ _ hk nr e1) (hb A L f c' h0 ρ _ hk nr e2) (hs _) (hs2 _)
  · cases hkd
/-- the lambda called on one item: the heap grows, the key is read -/
theorem key_run {pins : List (Addr × Obj)} {σ : L2.St} {H : Hp} {s : Shared} {f c' : Addr} {pm ctv : Value} {params : Arguments} {body : Expr} {k : FK} {p : Pn} {c : Nat} {ρ : Rho} {F : Hp} {A : Around} {d : D} {v : V} {u : Value} {q : PyData}
    (I : Inv X ((f, lamO X params body scope pm ctv c') :: pins) σ H s) (L : LamS1 X.env.scope scope h) (hnew : Mask scope h X.N N2) (est : ESt X.K p c ρ σ F H) (hco : H c' = some (LamX.CodeO c' (X.env.qual ++ "<lambda>")))
    (hbind : ∀ u : Value, bindArgs (PySem.W.kla_fn "<lambda>" (X.env.qual ++ "<lambda>") params body scope (cloFrom X.env.cells scope.names []) pm (.ref c') ctv) ⟨[u], []⟩ = pure [(h, u)])
    (hroom : A.depth < recursionLimit) (kx : KX X N2 scope h body k) (rd : Rep X.K p F d v) (rv : RelV v u) (nl : noLst d = true) (hkd : k (ρ ++ [some d]) = some q) {pd : PyData} (hpd : toPy d = some pd) (g : Heap) (tk : Nat) (up : Up s.heap g) :
    wpAny (model X.prog X.w) A (call (.ref f) [u]) (PySem.W.KeyPure q { s with heap := g, toks := tk }) (fun _ _ => False) { s with heap := g, toks := tk } := by
  obtain ⟨q1, q2, q3, q4, q5⟩ := I.pin (f, lamO X params body scope pm ctv c') (List.mem_append_right _ List.mem_cons_self)
  obtain ⟨⟨oc, vs, t, hoc, hdc, hvc⟩, _, _⟩ := I.hok c' _ hco
  have hasC : ∀ y ∈ scope.names, y.2 = .free → ∃ c, X.env.cells.lookup y.1 = some c := fun y hy e => (L.free y hy e).elim (fun k => I.ok.has _ (.inl k)) (fun k => I.ok.has _ (.inr k))
  have rc : codeAny (model X.prog X.w) A (.call (.ref f) ⟨[u], []⟩) (fun r s'' => match r with | .ok (.ret v) => PySem.W.KeyPure q { s with heap := g, toks := tk } v s'' | _ => False) { s with heap := g, toks := tk } := by
    refine PySem.W.kla_callFunE hroom (up _ _ q1) rfl L.co L.gen rfl ⟨c', oc, vs, t, rfl, up _ _ hoc, hdc, hvc⟩ ?_
    rw [hbind]
    refine wpAny_pure (wpAny_newFunctionEnv (fun y hy => (L.own y hy).1) (fun y hy => ?_) (fun h₁ hns hsb => ⟨(I.nolimit.keeps up).fresh _ hsb, ?_⟩) L.kind)
    · rcases List.mem_cons.mp hy with z | z
      · rw [z]; exact L.par
      · exact absurd z (by simp)
    show codeAny _ _ (.expr body (LamX.lamEnv X scope g.objs.size f c')) _ _
    have kp : Up g h₁ := fun b o e => hsb.extBut b o (Nat.ne_of_lt (Heap.lt_size e)) (Heap.get?_push_of_some _ e)
    have kp0 : Up s.heap h₁ := fun b o e => kp b o (up b o e)
    have nr : NR (N2 ++ [h]) scope (cloFrom X.env.cells scope.names []) g.objs.size h₁ (ρ ++ [some d]) := by
      intro i y d' p' hN hg hp
      have hp' : noLst d' = true ∧ toPy d' = some p' := by
        unfold pyOf at hp
        split at hp
        · exact ⟨by assumption, hp⟩
        · cases hp
      by_cases hi : i < N2.length
      · rw [List.getElem?_append_left hi] at hN
        have hl : ρ.length = N2.length := (est.len.trans I.len).trans hnew.len.symm
        have hg' : get3 ρ i = some d' := by
          rcases get3_snoc hg with z | ⟨z, _⟩
          · exact z
          · omega
        obtain ⟨v', e1, r'⟩ := est.slot i d' hg'
        refine ⟨fun hl => absurd ((L.own _ (PySem.mem_of_lookup hl)).2 rfl) (hnew.at_ i y hN (.inl hl)).2, fun hf => ?_⟩
        have hN := (hnew.at_ i y hN (.inr (.inr hf))).1
        obtain ⟨m, hn, hlk⟩ := I.loc
        have hvis : Vis X.env.scope y := (L.free _ (PySem.mem_of_lookup hf) rfl).elim (fun k => .inr (.inl k)) (fun k => .inr (.inr k))
        obtain ⟨w', rw', lk⟩ := hlk i y v' hN e1 hvis
        obtain ⟨as, ra⟩ := Dp.reads I _ _ _ (r'.dp est.ok.sub hp'.2) rw'
        have z := reads_nil d' hp'.1 hp'.2 ra
        subst z
        have hcl : ∃ c2, (cloFrom X.env.cells scope.names []).lookup y = some c2 ∧ X.env.cells.lookup y = some c2 := by
          obtain ⟨c2, h2⟩ := mem_lookup (cloFrom_has (cells := X.env.cells) (acc := []) (PySem.mem_of_lookup hf))
          refine ⟨c2, h2, ?_⟩
          rcases cloFrom_mem (PySem.mem_of_lookup h2) with hm | ⟨x1, x2⟩
          · cases hm
          · obtain ⟨c1, hc⟩ := hasC _ x1 rfl
            simp only at hc x2
            rw [hc] at x2
            rw [x2]
            exact hc
        obtain ⟨c2, h2, h3⟩ := hcl
        rcases lk with ⟨k', _⟩ | ⟨_, c3, e', ⟨o, ho, hd⟩⟩
        · have k' : X.env.scope.names.lookup y = some .local := k'
          rcases L.free _ (PySem.mem_of_lookup hf) rfl with k2 | k2 <;> rw [show X.env.scope.names.lookup y = _ from k2] at k' <;> cases k'
        · rw [h3] at e'
          cases e'
          exact ⟨c2, w', h2, ⟨o, kp0 _ _ ho, hd⟩, PyProof.Rows.Reads.keeps kp0 ra⟩
      · have hi2 : i = N2.length := by
          have := (List.getElem?_eq_some_iff.mp hN).1
          rw [List.length_append, List.length_singleton] at this
          omega
        subst hi2
        rw [List.getElem?_append_right (Nat.le_refl _), Nat.sub_self] at hN
        cases hN
        have hl : ρ.length = N2.length := (est.len.trans I.len).trans hnew.len.symm
        have hg' : d' = d := by
          rcases get3_snoc hg with z | ⟨_, z⟩
          · obtain ⟨v', e1, _⟩ := est.slot _ _ z
            have := (List.getElem?_eq_some_iff.mp e1).1
            rw [← est.len] at this
            omega
          · exact z
        subst hg'
        obtain ⟨as, ra⟩ := Dp.reads I _ _ _ (rd.dp est.ok.sub hp'.2) rv
        have z := reads_nil d' hp'.1 hp'.2 ra
        subst z
        refine ⟨fun _ => ⟨_, u, hns, ?_, PyProof.Rows.Reads.keeps kp0 ra⟩, fun hf => ?_⟩
        · show ([(h, u)] : List (Str × Value)).reverse.lookup h = some u
          simp
        · rw [L.par] at hf
          cases hf
    have pv := kx (A.deeper (LamX.lamEnv X scope g.objs.size f c')) g.objs.size f c' h₁ _ q L.kind nr hkd
    refine PySem.W.kla_codeExpr (pv { s with heap := h₁, toks := tk + ([(h, u)] : List (Str × Value)).length } (fun _ _ e => e) _ _ fun v h' tk' k' r => ?_)
    exact ⟨h', tk', rfl, fun b o e => k' b o (kp b o e), r⟩
  refine wpAny_call (codeAny_mono rc fun r s' hq => ?_)
  cases r with
  | error e => exact hq.elim
  | ok fl =>
    cases fl with
    | ret u => exact hq
    | next => exact hq.elim
    | brk => exact hq.elim
    | cont => exact hq.elim
end
/-- sorted(e, key=lambda h: ..) -/
def fSortK (fa : FE) (k : FK) : FL := fun ρ c Q => fa ρ c fun x c => match x with
  | .lst l => ∃ key : D → PyData, (∀ d ∈ l, noLst d = true ∧ (toPy d).isSome = true ∧ k (ρ ++ [some d]) = some (key d) ∧ (key d).depth ≤ 64) ∧ PySem.W.AllAlike (l.map key) ∧ PySem.W.Sortable (l.map key) ∧ l.length ≤ 16777216 ∧ Q (l.mergeSort (PySem.W.dataLe false key)) c
  | _ => False
def zipV : List D → List V → List (D × V)
  | d :: l, v :: vs => (d, v) :: zipV l vs
  | _, _ => []
theorem zipV_of {K : PySem.W.Frag} {p : Pn} {F : Hp} : ∀ {l : List D} {vs : List V}, RepL K p F l vs → (zipV l vs).map (·.1) = l ∧ (zipV l vs).map (·.2) = vs ∧ ∀ b ∈ zipV l vs, Rep K p F b.1 b.2
  | [], _, r => by
    cases r
    exact ⟨rfl, rfl, fun b h => by cases h⟩
  | d :: l, _, r => by
    obtain ⟨x, r', rfl, h1, h2⟩ := r
    obtain ⟨e1, e2, e3⟩ := zipV_of h2
    refine ⟨congrArg (d :: ·) e1, congrArg (x :: ·) e2, fun b h => ?_⟩
    rcases List.mem_cons.mp h with z | z
    · rw [z]; exact h1
    · exact e3 b z
theorem eachV : ∀ {bs : List (D × V)} {us : List Value}, Vals (bs.map (·.2)) us → PySem.W.EachIs (fun v (b : D × V) => RelV b.2 v) us bs
  | [], _, .nil => .nil
  | b :: bs, _, .cons r t => .cons r (eachV t)
theorem valsV : ∀ {bs : List (D × V)} {us : List Value}, PySem.W.EachIs (fun v (b : D × V) => RelV b.2 v) us bs → Vals (bs.map (·.2)) us
  | [], _, .nil => .nil
  | b :: bs, _, .cons r t => .cons r (valsV t)
theorem repV {K : PySem.W.Frag} {p : Pn} {F : Hp} : ∀ (bs : List (D × V)), (∀ b ∈ bs, Rep K p F b.1 b.2) → RepL K p F (bs.map (·.1)) (bs.map (·.2))
  | [], _ => rfl
  | b :: bs, h => ⟨_, _, rfl, h b List.mem_cons_self, repV bs fun x hx => h x (List.mem_cons_of_mem _ hx)⟩
section
variable {X : Cx} {e : Expr} {fa : FE} {k : FK} {h : Str} {N2 : List Str}
theorem boot_sorted3 : bootBuiltins "sorted" = some (.builtin "sorted") := by decide +kernel
theorem fx_sortK {c0 P : Addr} {params : Arguments} {body : Expr} {scope : Scope} {p1 lpos kpos pos : Pos} (hm : X.mg "sorted" = none) (ha : EX X e fa) (TB : LamX.TabB X.base X.mg c0 P) (hcode : X.env.code = .ref c0)
    (hmT : (P, X.env.qual ++ "<lambda>") ∈ tabs0) (hu : ∀ p ∈ tabs0, p.1 = P → p.2 = X.env.qual ++ "<lambda>") (hroom : X.A.depth < recursionLimit) (hun : X.A.units + 66 < cLine) (L : LamS1 X.env.scope scope h) (hnew : Mask scope h X.N N2) (hdef : defaultsOf params X.env = ([], []))
    (hbind : ∀ (cl : List (Str × Addr)) (pm cv ctv u : Value), bindArgs (PySem.W.kla_fn "<lambda>" (X.env.qual ++ "<lambda>") params body scope cl pm cv ctv) ⟨[u], []⟩ = pure [(h, u)])
    (kx : KX X N2 scope h body k) (hg : Gl X "sorted" := by rfl) (hs : starEach [e] X.env = (false, eval e X.env) :: starEach [] X.env := by rfl)
    (he : backTo pos (starEach [e] X.env) = (false, eval e X.env) :: backTo pos (starEach [] X.env) := by rfl) (hpl : (backTo pos (starEach [e] X.env)).any (·.1) = false := by rfl)
    (hkw : backToKw pos (keywordEach [⟨some "key", .Lambda params body scope lpos, kpos⟩] X.env) = [(some (Str.ofString "key"), do let v ← eval (.Lambda params body scope lpos) X.env; standAt pos; pure v)] := by rfl) :
    FX X (.Call (.Name "sorted" p1) [e] [⟨some "key", .Lambda params body scope lpos, kpos⟩] pos) (fSortK fa k) := by
  refine ⟨fun pins s σ H Q I ⟨p, c, ρ, F, Q', est, hq, t⟩ => ?_⟩
  refine wpAny_Call_Name_kw (ld_blt I hg hm boot_sorted3 ?_)
  refine PyProof.Rows.callWith_kw (thn ((pa_cons ha pa_nil hs).run pos pins s σ H (fun vs H1 => ∃ d c1 F1 v, vs = [v] ∧ Fwd p F H F1 H1 ∧ Ok3 p c1 F1 H1 ∧ Rep X.K p F1 d v ∧ (match d with
      | .lst l => ∃ key : D → PyData, (∀ d ∈ l, noLst d = true ∧ (toPy d).isSome = true ∧ k (ρ ++ [some d]) = some (key d) ∧ (key d).depth ≤ 64) ∧ PySem.W.AllAlike (l.map key) ∧ PySem.W.Sortable (l.map key) ∧ l.length ≤ 16777216 ∧ Q' (l.mergeSort (PySem.W.dataLe false key)) c1
      | _ => False)) I ⟨p, c, ρ, F, _, est, hq, fun d c1 v F1 H1 w1 ok1 r1 q1 => ⟨d, c1, F1, v, rfl, w1, ok1, r1, q1⟩⟩) fun us s1 ⟨vs, H1, I1, rv, d, c1, F1, v, ev, w1, ok1, r1, q1⟩ => ?_) he hpl (by rw [hkw]; rfl) (by rw [hkw]; rfl)
  subst ev
  rw [hkw]
  have hasC : ∀ y ∈ scope.names, y.2 = .free → ∃ c, X.env.cells.lookup y.1 = some c := fun y hy e => (L.free y hy e).elim (fun k => I.ok.has _ (.inl k)) (fun k => I.ok.has _ (.inr k))
  show wpAny _ _ (evalAll [do let v ← eval (.Lambda params body scope lpos) X.env; standAt pos; pure v]) _ _ s1
  refine wpAny_evalAll_cons (wpAny_bind (lam_made I1 TB hcode hmT hu ok1.tab.tabs hdef hasC fun f c' pm ctv H2 s2 I2 eN th T1 hco => wpAny_bind (wpAny_standAt (wpAny_pure (wpAny_evalAll_nil ?_)))))
  have w2 : Fwd p F1 H1 F1 H2 := ⟨fun _ _ z => z, fun b o z _ t => eN b o z t, fun _ _ z => .inl z, th⟩
  have ok2 : Ok3 p c1 F1 H2 := ⟨fun b o z => eN b o (ok1.sub b o z) (fun ps e => ok1.nt.t b ps (e ▸ z)), fun b z => by
      obtain ⟨⟨x, y, z, q, r⟩, nn⟩ := ok1.pot b z
      exact ⟨⟨x, y, z, eN _ _ q (fun _ z => nomatch z), r⟩, nn⟩, ⟨T1, fun q hq => eN _ _ (ok1.tab.cod q hq) LamX.codeO_ne⟩, ok1.nt⟩
  split at q1
  · rename_i l
    obtain ⟨key, hk, hal, hso, hlen, q1⟩ := q1
    obtain ⟨a, xs, rfl, h1, rl⟩ := r1
    obtain ⟨z1, z2, z3⟩ := zipV_of rl
    have est2 := est.fwd (w1.trans w2) ok2
    rw [Vals.ref1 rv]
    obtain ⟨its, rits, hl, hz⟩ := I2.list (.of (ok2.sub _ _ h1) : SqL X.K H2 a xs)
    have rits' : Vals ((zipV l xs).map (·.2)) its := by rw [z2]; exact rits
    have e := eachV rits'
    have ek : (zipV l xs).map (fun b => key b.1) = l.map key := by
      rw [← z1, List.map_map, z1]
      rfl
    show wpAny _ _ (call (.builtin "sorted") [.ref a] [(Str.ofString "key", .ref f)]) _ _ s2
    refine PySem.W.sorted_key_data (b := false) (fun b : D × V => key b.1) hl.isList e (by rw [ek]; exact hal) (by rw [ek]; exact hso) ?_ (fun b hb => ?_) (PyProof.Rows.ksk_s1 _ _) (fun _ => PyProof.Rows.ksk_l1 _ _) (fun _ => PyProof.Rows.ksk_t1 _ _) (fun u b ru hb g tk up => ?_) fun out cc h' tk up hfr hD hlo eo => ?_
    · have := congrArg List.length z1
      rw [List.length_map] at this
      rw [this, line16]
      exact hlen
    · have hb' : b.1 ∈ l := by rw [← z1]; exact List.mem_map.mpr ⟨b, hb, rfl⟩
      have := (hk _ hb').2.2.2
      omega
    · have hb' : b.1 ∈ l := by rw [← z1]; exact List.mem_map.mpr ⟨b, hb, rfl⟩
      obtain ⟨k1, k2, k3, _⟩ := hk _ hb'
      obtain ⟨pd, hpd⟩ := Option.isSome_iff_exists.mp k2
      exact key_run (A := X.A.in1.in1) I2 L hnew est2 hco (fun u => hbind _ _ _ _ u) hroom kx (z3 b hb) ru k1 k3 hpd g tk up
    · have ds : ((zipV l xs).mergeSort (PySem.W.dataLe false fun b => key b.1)).map (·.1) = l.mergeSort (PySem.W.dataLe false key) := by
        have q := List.map_mergeSort (f := fun b : D × V => b.1) (r := PySem.W.dataLe false fun b : D × V => key b.1) (s := PySem.W.dataLe false key) (l := zipV l xs) (fun _ _ _ _ => rfl)
        rw [z1] at q
        exact q
      have nH : H2 (s2.heap.objs.size + 1) = none := I2.hok.fresh (Nat.le_succ _)
      obtain ⟨w3, ok3, n1, n2, n3⟩ := layL (w1.trans w2) ok2 nH (((zipV l xs).mergeSort (PySem.W.dataLe false fun b => key b.1)).map (·.2))
      have J := I2.laid (t' := tk) (o := .lst (((zipV l xs).mergeSort (PySem.W.dataLe false fun b => key b.1)).map (·.2))) up (Nat.le_succ _) ⟨by
        rw [List.length_map, (List.mergeSort_perm _ _).length_eq]
        have := congrArg List.length z1
        rw [List.length_map] at this
        rw [this, line16]
        exact hlen, out, cc, valsV eo, hD⟩
      refine ⟨.ref _, _, pin_off J, rfl, ?_⟩
      refine t (l.mergeSort (PySem.W.dataLe false key)) c1 _ _ F1 _ w3 ok3 n1 n2 n3 upd_same ?_ q1
      rw [← ds]
      exact repV _ fun b hb => z3 b ((List.mergeSort_perm _ _).mem_iff.mp hb)
  · exact q1.elim
end
end L3

set_option maxHeartbeats 2000000
/-! L3, reversed tuples, sets counted, two new lists at once, += of ints. -/
namespace L3
open PySem PySem.Spec PyProof.Rows L2
section
variable {K : PySem.W.Frag} {X : Cx} {e a b : Expr} {es : List Expr} {fa fb : FE} {fr : FA} {f f2 : FL} {pos : Pos}
@[simp ↓] def revD : D → Nat → KD → Prop
  | .tup l, c, Q => Q (.tup l.reverse) c
  | _, _, _ => False
theorem RepL.rev {p : Pn} {F : Hp} : ∀ {l : List D} {xs : List V}, RepL K p F l xs → RepL K p F l.reverse xs.reverse
  | [], _, h => by cases h; exact rfl
  | d :: l, _, h => by
    obtain ⟨x, r, rfl, h1, h2⟩ := h
    rw [List.reverse_cons, List.reverse_cons]
    exact RepL.app (RepL.rev h2) ⟨x, [], rfl, h1, rfl⟩
theorem ex_rev {k : Nat} {p1 p2 p3 : Pos} (ha : EX X a fa) : EX X (.Subscript a (.Slice none none (some (.UnaryOp .USub (.Constant (.int 1) k p1) p2)) p3) pos) (eUn revD fa) := PE.imp (pe_revT ha) fun σ H Q ⟨p, c, ρ, F, Q', es, h, t⟩ =>
  ⟨p, c, ρ, F, _, es, h, fun d c1 v F1 H1 w1 ok1 r1 q1 => by
    unfold revD at q1
    split at q1
    · obtain ⟨b, xs, rfl, h1, rl⟩ := r1
      exact ⟨b, xs, rfl, ok1.sqT h1, tellNewT ok1 (t.fwd w1) rl.rev q1⟩
    · exact q1.elim⟩
/-! len(set(t)), t a tuple of ints -/
@[simp ↓] def lenSetD : D → Nat → KD → Prop
  | .tup l, c, Q => ∃ ns, intsOf l = some ns ∧ ns.length ≤ 4000 ∧ ∀ m : List Int, m.Nodup → (∀ k, k ∈ m ↔ k ∈ ns) → Q (.int m.length) c
  | _, _, _ => False
def tLenSetT (K : PySem.W.Frag) (ta : TE) : TE := fun σ H Q => ta σ H fun x H1 => ∃ (l : Addr) (ns : List Int), x = .ref l ∧ SqT K H1 l (ns.map V.int) ∧ ns.length ≤ 4000 ∧ ∀ m : List Int, m.Nodup → (∀ k, k ∈ m ↔ k ∈ ns) → Q (.int m.length) H1
theorem pe_lenSetT {ta : TE} {p p2 q : Pos} (hg : Gl X "len") (hm : X.mg "len" = none) (hg2 : Gl X "set") (hm2 : X.mg "set" = none) (ha : PE X a ta) (hc : X.calm = true := by rfl)
    (na : starEach [a] X.env = (false, eval a X.env) :: starEach [] X.env := by rfl) : PE X (.Call (.Name "len" p) [.Call (.Name "set" p2) [a] [] q] [] pos) (tLenSetT X.K ta) := by
  refine ⟨fun pins s σ H Q I h => ?_⟩
  refine Call_ (ld_blt I hg hm boot_len3 ?_)
  refine PyProof.Rows.callWith_builtin1 (PyProof.Rows.args_cons ?_ rfl) rfl rfl
  refine Call_ (ld_blt I hg2 hm2 (by decide +kernel : bootBuiltins "set" = some (.type "set")) ?_)
  refine PyProof.Rows.callWith_type1 (PyProof.Rows.args_cons (thn (ha.run pins s σ H _ I h) fun v s1 ⟨x, H1, I1, r1, q1⟩ => PyProof.Rows.args_nil ?_) na) na rfl
  obtain ⟨l, ns, rfl, hq, hl, q1⟩ := q1
  cases r1
  obtain ⟨its, r, pl, hz⟩ := I1.tuple hq
  have hi : IntsAre its.toArray.toList ns := by simpa using RZ.intsAre_vals r
  refine call_set_tupI ns (I1.ok.hd hc) (show s1.heap.IsTuple l its.toArray from pl) hi (by unfold scanBound; omega) fun h' tk c R1 hcn k => ?_
  refine PyProof.Rows.args_nil ?_
  obtain ⟨o, es, ep, t, ho, hex, hdt, g, nd, hm3, hb, hf, hn, hr, hl2⟩ := R1
  have I2 : Inv X pins σ H1 { s1 with heap := h', toks := tk } := I1.kept fun b o e => k b o e
  refine call_len_set ho hex hdt hf (by unfold scanBound at hb; omega) ⟨.int es.size, H1, I2.tok _, ⟨_, rfl⟩, ?_⟩
  have := q1 (es.toList.map keyOf) nd fun z => (hm3 z).symm.trans (decide_eq_true_iff)
  rw [List.length_map, Array.length_toList] at this
  exact this
theorem ex_lenSet {p p2 q : Pos} (hm : X.mg "len" = none) (hm2 : X.mg "set" = none) (ha : EX X a fa) (hg : Gl X "len" := by rfl) (hg2 : Gl X "set" := by rfl) (hc : X.calm = true := by rfl) (na : starEach [a] X.env = (false, eval a X.env) :: starEach [] X.env := by rfl) :
    EX X (.Call (.Name "len" p) [.Call (.Name "set" p2) [a] [] q] [] pos) (eUn lenSetD fa) := PE.imp (pe_lenSetT hg hm hg2 hm2 ha hc na) fun σ H Q ⟨p, c, ρ, F, Q', es, h, t⟩ =>
  ⟨p, c, ρ, F, _, es, h, fun d c1 v F1 H1 w1 ok1 r1 q1 => by
    unfold lenSetD at q1
    split at q1
    · obtain ⟨b, xs, rfl, h1, rl⟩ := r1
      obtain ⟨ns, e, hl, q⟩ := q1
      exact ⟨b, ns, rfl, by rw [← RepL.ints rl e]; exact ok1.sqT h1, hl, fun m h1 h2 => tellI ok1 (t.fwd w1) (q m h1 h2)⟩
    · exact q1.elim⟩
/-! += of ints -/
@[simp ↓] def addI : D → D → Nat → KD → Prop
  | .int i, .int j, c, Q => Q (.int (i + j)) c
  | _, _, _, _ => False
theorem iaddS : OpS K (rI0 fun i j => .int (i + j)) addI := by
  intro p c F H x y v u Q' Q ok rx ry h t
  unfold addI at h
  split at h
  · rename_i i j
    cases (show v = .int i from rx)
    cases (show u = .int j from ry)
    exact ⟨i, j, rfl, rfl, tellI ok t h⟩
  · exact h.elim
/-! two names at once, of new lists -/
@[simp ↓] def sParOO (i j : Nat) (f f2 : FL) : FS := fun E ρ c => f (ρ.map vA) c fun l c => f2 (ρ.map vA) c fun m c => E.nx ((ρ.set i (.own l)).set j (.own m)) c
theorem sx_parOO {i j : Nat} {x y : Str} {px py pt : Pos} {kt k2 pt2} (hc : X.calm = true) (hN : X.N.Nodup) (ha : FX X a f) (hb : FX X b f2) (hij : i ≠ j := by decide) (hi : X.N[i]? = some x := by rfl) (hj : X.N[j]? = some y := by rfl)
    (hx : X.env.scope.names.lookup x = some .local := by rfl) (hy : X.env.scope.names.lookup y = some .local := by rfl) (hw : swappedStores [.Tuple [.Name x px, .Name y py] kt pt] (.Tuple [a, b] k2 pt2) X.env = pure (some [x, y]) := by rfl)
    (hs : swapsWithSole [.Tuple [.Name x px, .Name y py] kt pt] (.Tuple [a, b] k2 pt2) pos.line X.env = pure false := by rfl) (hs1 : starEach [b] X.env = (false, eval b X.env) :: starEach [] X.env := by rfl) (hs2 : starEach [a, b] X.env = (false, eval a X.env) :: starEach [b] X.env := by rfl) :
    SX X (.Assign [.Tuple [.Name x px, .Name y py] kt pt] (.Tuple [a, b] k2 pt2) pos) (sParOO i j f f2) := by
  refine PS.imp (ps_par hc hN hi hj hij hx hy (pa_cons ha (pa_cons hb pa_nil hs1) hs2) hw hs) fun En σ H ⟨p, c, ρ, F, F0, H0, E, s, h, t⟩ => ?_
  refine ⟨p, c, _, F, _, s.e, h, fun l c1 q1 xs F1 H1 w1 ok1 n1 n2 n3 h1 r1 g1 => ?_⟩
  refine ⟨p, c1, _, F1, _, s.e.fwd w1 ok1, g1, fun m c2 q2 ys F2 H2 w2 ok2 m1 m2 m3 h2 r2 g2 => ?_⟩
  refine ⟨.ref q1, .ref q2, rfl, ?_⟩
  have k1 : H2 q1 = some (.lst xs) := w2.keep _ _ h1 n3 (fun _ z => nomatch z)
  have f1 : F2 q1 = none := by
    cases z : F2 q1 with
    | none => rfl
    | some o =>
      rcases w2.new q1 o z with y | y | ⟨q', y⟩
      · rw [n2] at y; cases y
      · rw [h1] at y; cases y
      · have y2 := ok2.sub q1 o z
        rw [k1] at y2
        exact absurd (y.symm.trans (Option.some.inj y2.symm)) codeO_lst
  have ne : q1 ≠ q2 := fun z => by rw [z, m1] at h1; cases h1
  have e1 : H0 q1 = none := s.ent.there q1 n1
  have e2 : H0 q2 = none := s.ent.there q2 (w1.there q2 m1)
  have own : ∀ (k : Nat) (z : List D), ρ[k]? = some (SV.own z) → ∃ b, σ[k]? = some (some (V.ref b)) ∧ ∃ u, H b = some (.lst u) := fun k z hk => by
    obtain ⟨b, u, g1, g2, _⟩ := s.own k z hk
    exact ⟨b, g1, u, g2⟩
  have s2 := (s.fwd (w1.trans w2) ok2).setOwn i k1 f1 e1 n3 (r1.mono w2.frz) fun k z hk hb => by
    obtain ⟨b, g1, u, g2⟩ := own k z hk
    rw [hb] at g1
    cases g1
    rw [n1] at g2
    cases g2
  refine t.nx c2 _ _ F2 H2 (s2.setOwn j h2 m2 e2 m3 r2 fun k z hk hb => ?_) g2
  rcases set_get hk with ⟨rfl, hl, q⟩ | ⟨n, q⟩
  · have hl2 : k < σ.length := by rw [← s.len]; exact hl
    rw [List.getElem?_set_self hl2] at hb
    cases hb
    exact ne rfl
  · rw [List.getElem?_set_ne (Ne.symm n)] at hb
    obtain ⟨b, g1, u, g3⟩ := own k z q
    rw [hb] at g1
    cases g1
    rw [w1.there q2 m1] at g3
    cases g3
end
end L3

/-! L3: x[e] += v on an own list of ints. -/
namespace L3
open PySem PySem.Spec PyProof.Rows L2
section
variable {X : Cx} {fa fb : FE}
def rGetN (K : PySem.W.Frag) : V → V → Hp → VK → Prop := fun x y H Q => ∃ p xs i v, x = .ref p ∧ y = .int i ∧ SqL K H p xs ∧ 0 ≤ i ∧ xs[i.toNat]? = some v ∧ Q v H
theorem get_listN : PGet X (rGetN X.K) := by
  intro pins s σ H x y v u Q I rx ry h
  obtain ⟨p, xs, i, z, rfl, rfl, hq, i0, he, q⟩ := h
  cases rx
  obtain ⟨t, rfl⟩ := ry
  obtain ⟨its, r, pl, hz⟩ := I.list hq
  obtain ⟨w, ew, rw'⟩ := r.get he
  have hl := r.length
  have hn := line63
  have lt : i.toNat < its.length := (List.getElem?_eq_some_iff.mp ew).1
  exact PyProof.Rows.getItem_listL (l := its) pl.isList i0 (by omega) ew ⟨z, H, I, rw', q⟩
/-- x[e] += v -/
@[simp ↓] def sAugS (i : Nat) (fi fe : FE) : FS := fun E ρ c => match ρ[i]? with
  | some (.own l) => fi (ρ.map vB) c fun d c => match d with
    | .int k => (0 ≤ k ∧ k < l.length) ∧ match l[k.toNat]? with
      | some (.int x) => fe (ρ.map vB) c fun y c => match y with
        | .int y => E.nx (ρ.set i (.own (l.set k.toNat (.int (x + y))))) c
        | _ => False
      | _ => False
    | _ => False
  | _ => False
theorem RepL.at' {K : PySem.W.Frag} {p : Pn} {F : Hp} : ∀ {l : List D} {xs : List V} {n : Nat} {d : D}, RepL K p F l xs → l[n]? = some d → ∃ v, xs[n]? = some v ∧ Rep K p F d v
  | [], _, _, _, _, e => by simp at e
  | _ :: l, _, 0, d, h, e => by
    obtain ⟨x, r, rfl, h1, h2⟩ := h
    simp at e
    subst e
    exact ⟨x, rfl, h1⟩
  | _ :: l, _, n + 1, d, h, e => by
    obtain ⟨x, r, rfl, h1, h2⟩ := h
    exact RepL.at' (n := n) h2 (by simpa using e)
theorem sx_augS {st : Stmt} (i : Nat) (h : PS X st (tAugS (tVar i) (tE X.K fa) (tE X.K fb) (rGetN X.K) (ipI fun i j => i + j) rSetL)) : SX X st (sAugS i fa fb) := PS.imp h fun D σ H ⟨p, c, ρ, F, F0, H0, E, s, h, t⟩ => by
  unfold sAugS at h
  split at h
  · rename_i l hi
    obtain ⟨a, xs, e1, e2, e3, e4, e5, r0⟩ := s.own i l hi
    obtain ⟨F2, es, w2, k⟩ := s.lend
    refine ⟨_, e1, p, c, _, F2, _, es, h, fun d c1 v F1 H1 w1 ok1 r1 q1 => ?_⟩
    obtain ⟨F3, s1, w3, k1, k2, _⟩ := k c1 F1 H1 w1 ok1
    obtain ⟨a', xs', g1, g2, g3, g4, g5, r0'⟩ := s1.own i l hi
    rw [e1] at g1
    cases g1
    split at q1
    · rename_i j
      cases (show v = .int j from r1)
      obtain ⟨⟨j0, j1⟩, q⟩ := q1
      split at q
      · rename_i z hz
        obtain ⟨v, hv, rv⟩ := RepL.at' r0' hz
        cases (show v = .int z from rv)
        refine ⟨a, xs', j, .int z, rfl, rfl, .inl (.inl g2), j0, hv, p, c1, _, F1, _, es.fwd w1 ok1, q, fun y c4 u F4 H4 w4 ok4 r4 q4 => ?_⟩
        obtain ⟨F5, s2, w5, k3, k4, _⟩ := k c4 F4 H4 (w1.trans w4) ok4
        obtain ⟨a2, xs2, y1, y2, y3, y4, y5, r2⟩ := s2.own i l hi
        rw [e1] at y1
        cases y1
        split at q4
        · rename_i m
          cases (show u = .int m from r4)
          refine ⟨z, m, rfl, rfl, a, xs2, j, j.toNat, rfl, rfl, y2, by rw [r2.len]; unfold ixN; rw [if_pos j0, if_pos j1], t.nx c4 _ _ F5 _ (s2.put hi e1 (RepL.set (show Rep X.K p F5 (.int (z + m)) (.int (z + m)) from rfl) _ r2)) q4⟩
        · exact q4.elim
      · exact q.elim
    · exact q1.elim
  · exact h.elim
/-! sorted(set(t)), t a tuple of few ints -/
@[simp ↓] def fSortSet (fa : FE) : FL := fun ρ c Q => fa ρ c fun x c => match x with
  | .tup l => ∃ ns, intsOf l = some ns ∧ ns.length < 64 ∧ ∀ m : List Int, m.Pairwise (· < ·) → (∀ k, k ∈ m ↔ k ∈ ns) → Q (m.map .int) c
  | _ => False
def tSortSet (K : PySem.W.Frag) (ta : TE) : TE := fun σ H Q => ta σ H fun x H1 => ∃ (l : Addr) (ns : List Int), x = .ref l ∧ SqT K H1 l (ns.map V.int) ∧ ns.length < 64 ∧ ∀ (m : List Int) (q : Addr), m.Pairwise (· < ·) → (∀ k, k ∈ m ↔ k ∈ ns) → H1 q = none → Q (.ref q) (upd H1 q (.lst (m.map V.int)))
theorem pe_sortSet {a : Expr} {ta : TE} {p p2 q pos : Pos} (hg : Gl X "sorted") (hm : X.mg "sorted" = none) (hg2 : Gl X "set") (hm2 : X.mg "set" = none) (ha : PE X a ta) (hc : X.calm = true := by rfl)
    (na : starEach [a] X.env = (false, eval a X.env) :: starEach [] X.env := by rfl) : PE X (.Call (.Name "sorted" p) [.Call (.Name "set" p2) [a] [] q] [] pos) (tSortSet X.K ta) := by
  refine ⟨fun pins s σ H Q I h => ?_⟩
  refine Call_ (ld_blt I hg hm (by decide +kernel : bootBuiltins "sorted" = some (.builtin "sorted")) ?_)
  refine PyProof.Rows.callWith_builtin1 (PyProof.Rows.args_cons ?_ rfl) rfl rfl
  refine Call_ (ld_blt I hg2 hm2 (by decide +kernel : bootBuiltins "set" = some (.type "set")) ?_)
  refine PyProof.Rows.callWith_type1 (PyProof.Rows.args_cons (thn (ha.run pins s σ H _ I h) fun v s1 ⟨x, H1, I1, r1, q1⟩ => PyProof.Rows.args_nil ?_) na) na rfl
  obtain ⟨l, ns, rfl, hq, hl, q1⟩ := q1
  cases r1
  obtain ⟨its, r, pl, hz⟩ := I1.tuple hq
  have hi : IntsAre its.toArray.toList ns := by simpa using RZ.intsAre_vals r
  refine call_set_tupI ns (I1.ok.hd hc) (show s1.heap.IsTuple l its.toArray from pl) hi (by unfold scanBound; omega) fun h' tk c R1 hcn k => ?_
  refine PyProof.Rows.args_nil ?_
  have I2 : Inv X pins σ H1 { s1 with heap := h', toks := tk } := I1.kept fun b o e => k b o e
  refine sorted_set (s := { s1 with heap := h', toks := tk }) R1 (I1.ok.hd hc) (by omega) fun s' p' out c' ms k2 g o hp hgo hI hs hmm hl2 => ?_
  have hlen : (ms.map V.int).length ≤ sizeLine := by rw [List.length_map, hl2, sizeLine_eq]; omega
  have hn : H1 p' = none := I2.hok.fresh hp
  have J : Inv X pins σ (upd H1 p' (.lst (ms.map V.int))) { s1 with heap := s'.heap, gens := s'.gens, drawn := s'.drawn, toks := s'.toks } :=
    L2.Inv.call (s := { s1 with heap := h', toks := tk }) I2 (ch := []) (Un.laid k2 hp hn) (I2.hok.laid k2 hp ⟨hlen, out.toList, c', vals_of_ints hI, hgo⟩) (by rw [g]; exact I2.bare) (fun _ z => nomatch z)
  have e : s' = { s1 with heap := s'.heap, gens := s'.gens, drawn := s'.drawn, toks := s'.toks } := by
    cases s'
    cases s1
    cases o
    rfl
  rw [e]
  exact ⟨.ref p', _, J, rfl, q1 ms p' hs (fun z => (hmm z).trans decide_eq_true_iff) hn⟩
theorem fx_sortSet {e : Expr} {p p2 q pos : Pos} (hm : X.mg "sorted" = none) (hm2 : X.mg "set" = none) (ha : EX X e fa) (hg : Gl X "sorted" := by rfl) (hg2 : Gl X "set" := by rfl) (hc : X.calm = true := by rfl) (na : starEach [e] X.env = (false, eval e X.env) :: starEach [] X.env := by rfl) :
    FX X (.Call (.Name "sorted" p) [.Call (.Name "set" p2) [e] [] q] [] pos) (fSortSet fa) := PE.imp (pe_sortSet hg hm hg2 hm2 ha hc na) fun σ H Q ⟨p, c, ρ, F, Q', es, h, t⟩ =>
  ⟨p, c, ρ, F, _, es, h, fun d c1 v F1 H1 w1 ok1 r1 q1 => by
    split at q1
    · obtain ⟨b, xs, rfl, h1, rl⟩ := r1
      obtain ⟨ns, e1, hl, q⟩ := q1
      refine ⟨b, ns, rfl, by rw [← RepL.ints rl e1]; exact ok1.sqT h1, hl, fun m a hp hs nq => ?_⟩
      obtain ⟨w, ok, n1, n2, n3⟩ := layL w1 ok1 nq (m.map V.int)
      exact t _ c1 a _ F1 _ w ok n1 n2 n3 upd_same (rep_ints m) (q m hp hs)
    · exact q1.elim⟩
/-! three names, the third of a new list -/
@[simp ↓] def sPar3O (i j k : Nat) (fa fb : FE) (f : FL) : FS := fun E ρ c => fa (ρ.map vA) c fun x c => fb (ρ.map vA) c fun y c => f (ρ.map vA) c fun l c => E.nx (((ρ.set i (.val x)).set j (.val y)).set k (.own l)) c
theorem sx_par3O {i j k : Nat} {a b c : Expr} {f : FL} {x y z : Str} {px py pz pt pos : Pos} {kt k2 pt2} (hc : X.calm = true) (hN : X.N.Nodup) (ha : EX X a fa) (hb : EX X b fb) (hf : FX X c f) (hij : i ≠ j := by decide) (hil : i ≠ k := by decide) (hjl : j ≠ k := by decide) (hi : X.N[i]? = some x := by rfl) (hj : X.N[j]? = some y := by rfl) (hl : X.N[k]? = some z := by rfl)
    (hx : X.env.scope.names.lookup x = some .local := by rfl) (hy : X.env.scope.names.lookup y = some .local := by rfl) (hz : X.env.scope.names.lookup z = some .local := by rfl)
    (hw : swappedStores [.Tuple [.Name x px, .Name y py, .Name z pz] kt pt] (.Tuple [a, b, c] k2 pt2) X.env = pure (some [x, y, z]) := by rfl)
    (hs : swapsWithSole [.Tuple [.Name x px, .Name y py, .Name z pz] kt pt] (.Tuple [a, b, c] k2 pt2) pos.line X.env = pure false := by rfl)
    (hs1 : starEach [c] X.env = (false, eval c X.env) :: starEach [] X.env := by rfl) (hs2 : starEach [b, c] X.env = (false, eval b X.env) :: starEach [c] X.env := by rfl) (hs3 : starEach [a, b, c] X.env = (false, eval a X.env) :: starEach [b, c] X.env := by rfl) :
    SX X (.Assign [.Tuple [.Name x px, .Name y py, .Name z pz] kt pt] (.Tuple [a, b, c] k2 pt2) pos) (sPar3O i j k fa fb f) := by
  refine PS.imp (ps_par3 hc hN hi hj hl hij hil hjl hx hy hz (pa_cons ha (pa_cons hb (pa_cons hf pa_nil hs1) hs2) hs3) hw hs) fun En σ H ⟨p, c, ρ, F, F0, H0, E, s, h, t⟩ => ?_
  refine ⟨p, c, _, F, _, s.e, h, fun d1 c1 v1 F1 H1 w1 ok1 r1 g1 => ?_⟩
  refine ⟨p, c1, _, F1, _, s.e.fwd w1 ok1, g1, fun d2 c2 v2 F2 H2 w2 ok2 r2 g2 => ?_⟩
  refine ⟨p, c2, _, F2, _, s.e.fwd (w1.trans w2) ok2, g2, fun m c3 q3 ys F3 H3 w3 ok3 m1 m2 m3 h3 r3 g3 => ?_⟩
  refine ⟨v1, v2, .ref q3, rfl, ?_⟩
  have w12 := w1.trans w2
  have e2 : H0 q3 = none := s.ent.there q3 (w12.there q3 m1)
  have s3 := ((s.fwd (w12.trans w3) ok3).set i (r1.mono (w2.trans w3).frz)).set j (r2.mono w3.frz)
  refine t.nx c3 _ _ F3 H3 (s3.setOwn k h3 m2 e2 m3 r3 fun n l hk hb => ?_) g3
  rcases set_get hk with ⟨_, _, q⟩ | ⟨n1, q⟩
  · cases q
  rcases set_get q with ⟨_, _, q'⟩ | ⟨n2, q'⟩
  · cases q'
  rw [List.getElem?_set_ne (Ne.symm n1), List.getElem?_set_ne (Ne.symm n2)] at hb
  obtain ⟨b', u, g4, g5, _⟩ := s.own n l q'
  rw [hb] at g4
  cases g4
  rw [w12.there q3 m1] at g5
  cases g5
/-! a list times an int -/
@[simp ↓] def fRep (fa fb : FE) : FL := fun ρ c Q => fa ρ c fun x c => fb ρ c fun y c => match x, y with
  | .lst l, .int k => ((-(2 ^ 63) ≤ k ∧ k < 2 ^ 63) ∧ l.length * k.toNat ≤ 16777216) ∧ Q (List.replicate k.toNat l).flatten c
  | _, _ => False
theorem RepL.repL {K : PySem.W.Frag} {p : Pn} {F : Hp} {l : List D} {xs : List V} (h : RepL K p F l xs) : ∀ n : Nat, RepL K p F (List.replicate n l).flatten (List.replicate n xs).flatten
  | 0 => rfl
  | n + 1 => by
    rw [List.replicate_succ, List.replicate_succ, List.flatten_cons, List.flatten_cons]
    exact h.app (RepL.repL h n)
theorem fx_rep {a b : Expr} {pos : Pos} (ha : EX X a fa) (hb : EX X b fb) : FX X (.BinOp a .Mult b pos) (fRep fa fb) := PE.imp (pe_op op_rep ha hb) fun σ H Q ⟨p, c, ρ, F, Q', es, h, t⟩ =>
  ⟨p, c, ρ, F, _, es, h, fun x c1 v F1 H1 w1 ok1 r1 q1 => ⟨p, c1, ρ, F1, _, es.fwd w1 ok1, q1, fun y c2 u F2 H2 w2 ok2 r2 q2 => by
    split at q2
    · rename_i k
      obtain ⟨b, xs, rfl, h1, rl⟩ := r1.mono w2.frz
      cases (show u = .int k from r2)
      exact ⟨b, k, xs, rfl, rfl, ok2.sub _ _ h1, q2.1.1.1, q2.1.1.2, by rw [line16, rl.len]; exact q2.1.2, fun q nq => by
        obtain ⟨w, ok, n1, n2, n3⟩ := layL (w1.trans w2) ok2 nq (List.replicate k.toNat xs).flatten
        exact t _ c2 q _ F2 _ w ok n1 n2 n3 upd_same (RepL.repL rl _) q2.2⟩
    · exact q2.elim⟩⟩
end
end L3

/-! L3D: several names at once, values and new lists in any mix. -/
namespace L3
open PySem PySem.Spec PyProof.Rows L2
inductive AK where
  | e (f : FE)
  | f (f : FL)
@[simp ↓] def parRun : List AK → Rho → Nat → (List SV → Nat → Prop) → Prop
  | [], _, c, Q => Q [] c
  | .e f :: r, ρ, c, Q => f ρ c fun d c => parRun r ρ c fun m c => Q (.val d :: m) c
  | .f f :: r, ρ, c, Q => f ρ c fun l c => parRun r ρ c fun m c => Q (.own l :: m) c
@[simp ↓] def setAll : List Nat → List SV → Env3 → Env3
  | i :: is, v :: vs, ρ => setAll is vs (ρ.set i v)
  | _, _, ρ => ρ
def setAllV : List Nat → List V → L2.St → L2.St
  | i :: is, v :: vs, σ => setAllV is vs (σ.set i (some v))
  | _, _, σ => σ
@[simp ↓] def putAll : List Nat → List SV → Env3 → (Env3 → Prop) → Prop
  | [], [], ρ, k => k ρ
  | i :: is, v :: vs, ρ, k => putAll is vs (ρ.set i v) k
  | _, _, _, _ => False
theorem putAll_is : ∀ {is : List Nat} {svs : List SV} {ρ : Env3} {k : Env3 → Prop}, putAll is svs ρ k → svs.length = is.length ∧ k (setAll is svs ρ)
  | [], [], _, _, h => ⟨rfl, h⟩
  | i :: is, v :: vs, _, _, h => by
    obtain ⟨h1, h2⟩ := putAll_is (is := is) (svs := vs) h
    exact ⟨by rw [List.length_cons, List.length_cons, h1], h2⟩
  | [], _ :: _, _, _, h => h.elim
  | _ :: _, [], _, _, h => h.elim
@[simp ↓] def sParN (is : List Nat) (ks : List AK) : FS := fun E ρ c => parRun ks (ρ.map vA) c fun vs c => putAll is vs ρ fun ρ => E.nx ρ c
@[simp ↓] def okSV : List SV → Bool
  | [] => true
  | .val d :: r => noLst d && okSV r
  | .own l :: r => noLstL l && okSV r
  | .no :: r => okSV r
  | .dic _ _ :: r => okSV r
@[simp ↓] def sParNB (is : List Nat) (ks : List AK) : FS := fun E ρ c => parRun ks (ρ.map vB) c fun vs c => okSV vs = true ∧ putAll is vs ρ fun ρ => E.nx ρ c
def RepSV (K : PySem.W.Frag) (p : Pn) (F H : Hp) : Hp → List SV → List V → Prop
  | _, [], vs => vs = []
  | Hs, .val d :: r, vs => ∃ v w, vs = v :: w ∧ Rep K p F d v ∧ RepSV K p F H Hs r w
  | Hs, .own l :: r, vs => ∃ a w xs H1, vs = .ref a :: w ∧ H a = some (.lst xs) ∧ F a = none ∧ Hs a = none ∧ p.pot ≠ some a ∧ RepL K p F l xs ∧ H1 a ≠ none ∧ (∀ b, H1 b = none → Hs b = none) ∧ RepSV K p F H H1 r w
  | _, .no :: _, _ => False
  | _, .dic _ _ :: _, _ => False
section
variable {K : PySem.W.Frag} {p : Pn} {F H : Hp}
theorem RepSV.mono : ∀ {svs : List SV} {vs : List V} {Hs Hs' : Hp}, (∀ b, Hs' b = none → Hs b = none) → RepSV K p F H Hs' svs vs → RepSV K p F H Hs svs vs
  | [], _, _, _, _, h => h
  | .val d :: r, _, _, _, e, h => by
    obtain ⟨v, w, rfl, h1, h2⟩ := h
    exact ⟨v, w, rfl, h1, RepSV.mono e h2⟩
  | .own l :: r, _, _, _, e, h => by
    obtain ⟨a, w, xs, H1, rfl, h1, h2, h3, h4, h5, h6, h7, h8⟩ := h
    exact ⟨a, w, xs, H1, rfl, h1, h2, e a h3, h4, h5, h6, fun b hb => e b (h7 b hb), h8⟩
  | .no :: _, _, _, _, _, h => h
  | .dic _ _ :: _, _, _, _, _, h => h
theorem RepSV.move {F' H' : Hp} (e : ∀ b u, F b = some u → F' b = some u) (eo : ∀ a xs, H a = some (.lst xs) → F a = none → p.pot ≠ some a → H' a = some (.lst xs) ∧ F' a = none) : ∀ {svs : List SV} {vs : List V} {Hs : Hp}, RepSV K p F H Hs svs vs → RepSV K p F' H' Hs svs vs
  | [], _, _, h => h
  | .val d :: r, _, _, h => by
    obtain ⟨v, w, rfl, h1, h2⟩ := h
    exact ⟨v, w, rfl, h1.mono e, RepSV.move e eo h2⟩
  | .own l :: r, _, _, h => by
    obtain ⟨a, w, xs, H1, rfl, h1, h2, h3, h4, h5, h6, h7, h8⟩ := h
    obtain ⟨g1, g2⟩ := eo a xs h1 h2 h4
    exact ⟨a, w, xs, H1, rfl, g1, g2, h3, h4, h5.mono e, h6, h7, RepSV.move e eo h8⟩
  | .no :: _, _, _, h => h
  | .dic _ _ :: _, _, _, h => h
theorem RepSV.lent {F3 : Hp} (k1 : ∀ d v, noLst d = true → Rep K p F d v → Rep K p F3 d v) (k2 : ∀ l xs, noLstL l = true → RepL K p F l xs → RepL K p F3 l xs) (k3 : ∀ b, F b = none → F3 b = none) : ∀ {svs : List SV} {vs : List V} {Hs : Hp}, okSV svs = true → RepSV K p F H Hs svs vs → RepSV K p F3 H Hs svs vs
  | [], _, _, _, h => h
  | .val d :: r, _, _, n, h => by
    obtain ⟨v, w, rfl, h1, h2⟩ := h
    have n' : noLst d = true ∧ okSV r = true := by simpa [okSV] using n
    exact ⟨v, w, rfl, k1 _ _ n'.1 h1, RepSV.lent k1 k2 k3 n'.2 h2⟩
  | .own l :: r, _, _, n, h => by
    obtain ⟨a, w, xs, H1, rfl, h1, h2, h3, h4, h5, h6, h7, h8⟩ := h
    have n' : noLstL l = true ∧ okSV r = true := by simpa [okSV] using n
    exact ⟨a, w, xs, H1, rfl, h1, k3 a h2, h3, h4, k2 _ _ n'.1 h5, h6, h7, RepSV.lent k1 k2 k3 n'.2 h8⟩
  | .no :: _, _, _, _, h => h
  | .dic _ _ :: _, _, _, _, h => h
theorem RepSV.len : ∀ {svs : List SV} {vs : List V} {Hs : Hp}, RepSV K p F H Hs svs vs → vs.length = svs.length
  | [], _, _, h => by cases h; rfl
  | .val d :: r, _, _, h => by
    obtain ⟨v, w, rfl, h1, h2⟩ := h
    rw [List.length_cons, List.length_cons, RepSV.len h2]
  | .own l :: r, _, _, h => by
    obtain ⟨a, w, xs, H1, rfl, h1, h2, h3, h4, h5, h6, h7, h8⟩ := h
    rw [List.length_cons, List.length_cons, RepSV.len h8]
  | .no :: _, _, _, h => h.elim
  | .dic _ _ :: _, _, _, h => h.elim
/-- all are stored -/
theorem SSt.setAll {c : Nat} {F0 H0 : Hp} : ∀ {is : List Nat} {svs : List SV} {vs : List V} {Hs : Hp} {ρ : Env3} {σ : L2.St}, SSt K p c ρ σ F H F0 H0 → RepSV K p F H Hs svs vs → (∀ b, Hs b = none → H0 b = none) →
    (∀ (j : Nat) (m : List D) (b : Addr), ρ[j]? = some (SV.own m) → σ[j]? = some (some (V.ref b)) → Hs b ≠ none) → SSt K p c (L3.setAll is svs ρ) (setAllV is vs σ) F H F0 H0
  | [], svs, vs, _, _, _, s, h, _, _ => by
    cases svs <;> cases vs <;> exact s
  | i :: is, [], vs, _, _, _, s, h, _, _ => by
    cases h
    exact s
  | i :: is, .val d :: r, _, Hs, _, _, s, h, e0, eo => by
    obtain ⟨v, w, rfl, h1, h2⟩ := h
    refine SSt.setAll (is := is) (svs := r) (vs := w) (s.set i h1) h2 e0 fun j m b g1 g2 => ?_
    rcases set_get g1 with ⟨rfl, hl, q⟩ | ⟨n, q⟩
    · cases q
    · rw [List.getElem?_set_ne (Ne.symm n)] at g2
      exact eo j m b q g2
  | i :: is, .own l :: r, _, Hs, ρ, σ, s, h, e0, eo => by
    obtain ⟨a, w, xs, H1, rfl, h1, h2, h3, h4, h5, h6, h7, h8⟩ := h
    refine SSt.setAll (is := is) (svs := r) (vs := w) (s.setOwn i h1 h2 (e0 a h3) h4 h5 fun j m g1 g2 => eo j m a g1 g2 h3) h8 (fun b hb => e0 b (h7 b hb)) fun j m b g1 g2 => ?_
    rcases set_get g1 with ⟨rfl, hl, q⟩ | ⟨n, q⟩
    · rw [List.getElem?_set_self (by rw [← s.len]; exact hl)] at g2
      cases g2
      exact h6
    · rw [List.getElem?_set_ne (Ne.symm n)] at g2
      exact fun z => eo j m b q g2 (h7 b z)
  | _ :: _, .no :: _, _, _, _, _, _, h, _, _ => h.elim
  | _ :: _, .dic _ _ :: _, _, _, _, _, _, h, _, _ => h.elim
end
section
variable {X : Cx} {e a b d : Expr} {es : List Expr} {f : FL} {fe : FE} {ks : List AK} {pos : Pos}
def tPk (K : PySem.W.Frag) (ks : List AK) : TA := fun σ H Q => ∃ p c ρ F Q', ESt K p c ρ σ F H ∧ parRun ks ρ c Q' ∧ ∀ svs c' vs F' H', Fwd p F H F' H' → Ok3 p c' F' H' → RepSV K p F' H' H svs vs → Q' svs c' → Q vs H'
abbrev JX (X : Cx) (es : List Expr) (ks : List AK) : Prop := PA X es (tPk X.K ks)
theorem jx_nil : JX X [] [] := PA.imp pa_nil fun σ H Q ⟨p, c, ρ, F, Q', es, h, t⟩ => t [] c [] F H (.refl ..) es.ok rfl h
theorem jx_e (he : EX X e fe) (hr : JX X es ks) (hs : starEach (e :: es) X.env = (false, eval e X.env) :: starEach es X.env := by rfl) : JX X (e :: es) (.e fe :: ks) := PA.imp (pa_cons he hr hs) fun σ H Q ⟨p, c, ρ, F, Q', es, h, t⟩ =>
  ⟨p, c, ρ, F, _, es, h, fun d c1 v F1 H1 w1 ok1 r1 q1 => ⟨p, c1, ρ, F1, _, es.fwd w1 ok1, q1, fun svs c2 vs F2 H2 w2 ok2 r2 q2 =>
    t (.val d :: svs) c2 (v :: vs) F2 H2 (w1.trans w2) ok2 ⟨v, vs, rfl, r1.mono w2.frz, r2.mono w1.there⟩ q2⟩⟩
theorem jx_f (he : FX X e f) (hr : JX X es ks) (hs : starEach (e :: es) X.env = (false, eval e X.env) :: starEach es X.env := by rfl) : JX X (e :: es) (.f f :: ks) := PA.imp (pa_cons he hr hs) fun σ H Q ⟨p, c, ρ, F, Q', es, h, t⟩ =>
  ⟨p, c, ρ, F, _, es, h, fun l c1 a xs F1 H1 w1 ok1 n1 n2 n3 h1 r1 q1 => ⟨p, c1, ρ, F1, _, es.fwd w1 ok1, q1, fun svs c2 vs F2 H2 w2 ok2 r2 q2 => by
    have k1 : H2 a = some (.lst xs) := w2.keep _ _ h1 n3 (fun _ z => nomatch z)
    have f1 : F2 a = none := by
      cases z : F2 a with
      | none => rfl
      | some o =>
        rcases w2.new a o z with y | y | ⟨q', y⟩
        · rw [n2] at y; cases y
        · rw [h1] at y; cases y
        · have y2 := ok2.sub a o z
          rw [k1] at y2
          exact absurd (y.symm.trans (Option.some.inj y2.symm)) codeO_lst
    exact t (.own l :: svs) c2 (.ref a :: vs) F2 H2 (w1.trans w2) ok2 ⟨a, vs, xs, H1, rfl, k1, f1, n1, n3, r1.mono w2.frz, by rw [h1]; exact nofun, w1.there, r2⟩ q2⟩⟩
theorem SSt.ownThere {K : PySem.W.Frag} {p : Pn} {c : Nat} {ρ : Env3} {σ : L2.St} {F H F0 H0 : Hp} (s : SSt K p c ρ σ F H F0 H0) : ∀ (j : Nat) (m : List D) (b : Addr), ρ[j]? = some (SV.own m) → σ[j]? = some (some (V.ref b)) → H b ≠ none := fun j m b g1 g2 z => by
  obtain ⟨b', u, e1, e2, _⟩ := s.own j m g1
  rw [g2] at e1
  cases e1
  rw [z] at e2
  cases e2
theorem parW {is : List Nat} {σ : L2.St} {H : Hp} {D : Ends} {R : List V → Hp → Prop} (hR : ∀ vs H', vs.length = is.length → D.nx (setAllV is vs σ) H' → R vs H') (h : tS X.K (sParN is ks) D σ H) : tPk X.K ks σ H R := by
  obtain ⟨p, c, ρ, F, F0, H0, E, s, h, t⟩ := h
  refine ⟨p, c, _, F, _, s.e, h, fun svs c1 vs F1 H1 w1 ok1 r1 q1 => ?_⟩
  obtain ⟨hl, q⟩ := putAll_is q1
  exact hR _ _ (r1.len.trans hl) (t.nx c1 _ _ F1 H1 (SSt.setAll (s.fwd w1 ok1) r1 s.ent.there s.ownThere) q)
theorem parWB {is : List Nat} {σ : L2.St} {H : Hp} {D : Ends} {R : List V → Hp → Prop} (hR : ∀ vs H', vs.length = is.length → D.nx (setAllV is vs σ) H' → R vs H') (h : tS X.K (sParNB is ks) D σ H) : tPk X.K ks σ H R := by
  obtain ⟨p, c, ρ, F, F0, H0, E, s, h, t⟩ := h
  obtain ⟨F2, es, w2, k⟩ := s.lend
  refine ⟨p, c, _, F2, _, es, h, fun svs c1 vs F1 H1 w1 ok1 r1 q1 => ?_⟩
  obtain ⟨F3, s3, w3, k1, k2, k3⟩ := k c1 F1 H1 w1 ok1
  obtain ⟨hl, q⟩ := putAll_is q1.2
  exact hR _ _ (r1.len.trans hl) (t.nx c1 _ _ F3 H1 (SSt.setAll s3 (r1.lent k1 k2 k3 q1.1) s.ent.there s.ownThere) q)
theorem two_of {vs : List V} (h : vs.length = 2) : ∃ v w, vs = [v, w] := by
  match vs, h with
  | [v, w], _ => exact ⟨v, w, rfl⟩
theorem three_of {vs : List V} (h : vs.length = 3) : ∃ u v w, vs = [u, v, w] := by
  match vs, h with
  | [u, v, w], _ => exact ⟨u, v, w, rfl⟩
section
variable {i j k : Nat} {x y z : Str} {px py pz pt : Pos} {kt k2 pt2}
theorem sx_parN2 (hc : X.calm = true) (hN : X.N.Nodup) (ha : JX X [a, b] ks) (hij : i ≠ j := by decide) (hi : X.N[i]? = some x := by rfl) (hj : X.N[j]? = some y := by rfl)
    (hx : X.env.scope.names.lookup x = some .local := by rfl) (hy : X.env.scope.names.lookup y = some .local := by rfl) (hw : swappedStores [.Tuple [.Name x px, .Name y py] kt pt] (.Tuple [a, b] k2 pt2) X.env = pure (some [x, y]) := by rfl)
    (hs : swapsWithSole [.Tuple [.Name x px, .Name y py] kt pt] (.Tuple [a, b] k2 pt2) pos.line X.env = pure false := by rfl) :
    SX X (.Assign [.Tuple [.Name x px, .Name y py] kt pt] (.Tuple [a, b] k2 pt2) pos) (sParN [i, j] ks) := PS.imp (ps_par hc hN hi hj hij hx hy ha hw hs) fun D σ H h => parW (is := [i, j]) (fun vs H' hl q => by
    obtain ⟨v, w, rfl⟩ := two_of hl
    exact ⟨v, w, rfl, q⟩) h
theorem sx_parN2B (hc : X.calm = true) (hN : X.N.Nodup) (ha : JX X [a, b] ks) (hij : i ≠ j := by decide) (hi : X.N[i]? = some x := by rfl) (hj : X.N[j]? = some y := by rfl)
    (hx : X.env.scope.names.lookup x = some .local := by rfl) (hy : X.env.scope.names.lookup y = some .local := by rfl) (hw : swappedStores [.Tuple [.Name x px, .Name y py] kt pt] (.Tuple [a, b] k2 pt2) X.env = pure (some [x, y]) := by rfl)
    (hs : swapsWithSole [.Tuple [.Name x px, .Name y py] kt pt] (.Tuple [a, b] k2 pt2) pos.line X.env = pure false := by rfl) :
    SX X (.Assign [.Tuple [.Name x px, .Name y py] kt pt] (.Tuple [a, b] k2 pt2) pos) (sParNB [i, j] ks) := PS.imp (ps_par hc hN hi hj hij hx hy ha hw hs) fun D σ H h => parWB (is := [i, j]) (fun vs H' hl q => by
    obtain ⟨v, w, rfl⟩ := two_of hl
    exact ⟨v, w, rfl, q⟩) h
theorem sx_parN3 (hc : X.calm = true) (hN : X.N.Nodup) (ha : JX X [a, b, d] ks) (hij : i ≠ j := by decide) (hil : i ≠ k := by decide) (hjl : j ≠ k := by decide) (hi : X.N[i]? = some x := by rfl) (hj : X.N[j]? = some y := by rfl) (hl : X.N[k]? = some z := by rfl)
    (hx : X.env.scope.names.lookup x = some .local := by rfl) (hy : X.env.scope.names.lookup y = some .local := by rfl) (hz : X.env.scope.names.lookup z = some .local := by rfl)
    (hw : swappedStores [.Tuple [.Name x px, .Name y py, .Name z pz] kt pt] (.Tuple [a, b, d] k2 pt2) X.env = pure (some [x, y, z]) := by rfl)
    (hs : swapsWithSole [.Tuple [.Name x px, .Name y py, .Name z pz] kt pt] (.Tuple [a, b, d] k2 pt2) pos.line X.env = pure false := by rfl) :
    SX X (.Assign [.Tuple [.Name x px, .Name y py, .Name z pz] kt pt] (.Tuple [a, b, d] k2 pt2) pos) (sParN [i, j, k] ks) := PS.imp (ps_par3 hc hN hi hj hl hij hil hjl hx hy hz ha hw hs) fun D σ H h => parW (is := [i, j, k]) (fun vs H' hl q => by
    obtain ⟨u, v, w, rfl⟩ := three_of hl
    exact ⟨u, v, w, rfl, q⟩) h
theorem sx_parN3B (hc : X.calm = true) (hN : X.N.Nodup) (ha : JX X [a, b, d] ks) (hij : i ≠ j := by decide) (hil : i ≠ k := by decide) (hjl : j ≠ k := by decide) (hi : X.N[i]? = some x := by rfl) (hj : X.N[j]? = some y := by rfl) (hl : X.N[k]? = some z := by rfl)
    (hx : X.env.scope.names.lookup x = some .local := by rfl) (hy : X.env.scope.names.lookup y = some .local := by rfl) (hz : X.env.scope.names.lookup z = some .local := by rfl)
    (hw : swappedStores [.Tuple [.Name x px, .Name y py, .Name z pz] kt pt] (.Tuple [a, b, d] k2 pt2) X.env = pure (some [x, y, z]) := by rfl)
    (hs : swapsWithSole [.Tuple [.Name x px, .Name y py, .Name z pz] kt pt] (.Tuple [a, b, d] k2 pt2) pos.line X.env = pure false := by rfl) :
    SX X (.Assign [.Tuple [.Name x px, .Name y py, .Name z pz] kt pt] (.Tuple [a, b, d] k2 pt2) pos) (sParNB [i, j, k] ks) := PS.imp (ps_par3 hc hN hi hj hl hij hil hjl hx hy hz ha hw hs) fun D σ H h => parWB (is := [i, j, k]) (fun vs H' hl q => by
    obtain ⟨u, v, w, rfl⟩ := three_of hl
    exact ⟨u, v, w, rfl, q⟩) h
end
/-! by a tuple, taken apart -/
def gAll : List Nat → TGs
  | [] => gNil
  | i :: is => gCons (gName i) (gAll is)
theorem gAll_k : ∀ {is : List Nat} {vs : List V} {σ : L2.St} {H : Hp} {kk : L2.St → Hp → Prop}, vs.length = is.length → kk (setAllV is vs σ) H → gAll is vs σ H kk
  | [], [], _, _, _, _, h => ⟨rfl, h⟩
  | i :: is, v :: vs, _, _, _, hl, h => ⟨v, vs, rfl, gAll_k (is := is) (by simpa using hl) h⟩
theorem Fwd.upH {p : Pn} {F H F1 H1 : Hp} (w : Fwd p F H F1 H1) {q : Addr} (nq : H1 q = none) (o : HO) : Fwd p F H F1 (upd H1 q o) := ⟨w.frz, fun b u h n t => by
    have := w.keep b u h n t
    rw [upd_ne (ne_of_none this nq)]; exact this, w.new, fun b h => by
    by_cases e : b = q
    · subst e; exact w.there _ nq
    · rw [upd_ne e] at h; exact w.there b h⟩
theorem Ok3.upH {p : Pn} {c : Nat} {F H : Hp} (ok : Ok3 p c F H) {q : Addr} (nq : H q = none) (o : HO) : Ok3 p c F (upd H q o) := ⟨fun b u h => by
    rw [upd_ne (ne_of_none (ok.sub b u h) nq)]; exact ok.sub b u h, fun b e => by
    obtain ⟨⟨x, y, z, h, r⟩, n⟩ := ok.pot b e
    exact ⟨⟨x, y, z, by rw [upd_ne (ne_of_none h nq)]; exact h, r⟩, n⟩, ok.tab.ext fun b u h => by rw [upd_ne (ne_of_none h nq)]; exact h, ok.nt⟩
theorem sx_parT {tgs es : List Expr} {is : List Nat} {kt pt k2 pt2} (ha : JX X es ks) (hg : PGs X tgs (gAll is)) (hl16 : is.length ≤ 16777216 := by decide) {n : Nat} (hn : is.length = n := by rfl) (hpg : ∀ g, PGs X tgs g → PG X (.Tuple tgs kt pt) (gTup X.K n g))
    (hs : swapsWithSole [.Tuple tgs kt pt] (.Tuple es k2 pt2) pos.line X.env = pure false := by rfl) (hw : swappedStores [.Tuple tgs kt pt] (.Tuple es k2 pt2) X.env = pure none := by rfl) (h1 : (assignEach [.Tuple tgs kt pt] X.env).map (·.2) = [assign (.Tuple tgs kt pt) X.env] := by rfl) :
    SX X (.Assign [.Tuple tgs kt pt] (.Tuple es k2 pt2) pos) (sParN is ks) := PS.imp (ps_asg (pe_tup ha) (hpg _ hg) hs hw h1) fun D σ H h => by
  obtain ⟨p, c, ρ, F, F0, H0, E, s, h, t⟩ := h
  refine ⟨p, c, _, F, _, s.e, h, fun svs c1 vs F1 H1 w1 ok1 r1 q1 => ?_⟩
  obtain ⟨hl, q⟩ := putAll_is q1
  have hv := r1.len.trans hl
  refine ⟨by rw [hv, line16]; exact hl16, fun a na => ⟨a, vs, rfl, .of upd_same, hv.trans hn, ?_⟩⟩
  refine gAll_k hv (t.nx c1 _ _ F1 _ (SSt.setAll (s.fwd (w1.upH na _) (ok1.upH na _)) (r1.move (fun _ _ h => h) fun b xs h1 h2 h3 => ⟨by rw [upd_ne (ne_of_none h1 na)]; exact h1, h2⟩) s.ent.there s.ownThere) q)
theorem sx_parTB {tgs es : List Expr} {is : List Nat} {kt pt k2 pt2} (ha : JX X es ks) (hg : PGs X tgs (gAll is)) (hl16 : is.length ≤ 16777216 := by decide) {n : Nat} (hn : is.length = n := by rfl) (hpg : ∀ g, PGs X tgs g → PG X (.Tuple tgs kt pt) (gTup X.K n g))
    (hs : swapsWithSole [.Tuple tgs kt pt] (.Tuple es k2 pt2) pos.line X.env = pure false := by rfl) (hw : swappedStores [.Tuple tgs kt pt] (.Tuple es k2 pt2) X.env = pure none := by rfl) (h1 : (assignEach [.Tuple tgs kt pt] X.env).map (·.2) = [assign (.Tuple tgs kt pt) X.env] := by rfl) :
    SX X (.Assign [.Tuple tgs kt pt] (.Tuple es k2 pt2) pos) (sParNB is ks) := PS.imp (ps_asg (pe_tup ha) (hpg _ hg) hs hw h1) fun D σ H h => by
  obtain ⟨p, c, ρ, F, F0, H0, E, s, h, t⟩ := h
  obtain ⟨F2, es, w2, k⟩ := s.lend
  refine ⟨p, c, _, F2, _, es, h, fun svs c1 vs F1 H1 w1 ok1 r1 q1 => ?_⟩
  obtain ⟨hl, q⟩ := putAll_is q1.2
  have hv := r1.len.trans hl
  refine ⟨by rw [hv, line16]; exact hl16, fun a na => ⟨a, vs, rfl, .of upd_same, hv.trans hn, ?_⟩⟩
  obtain ⟨F3, s3, w3, k1, k2, k3⟩ := k c1 F1 _ (w1.upH na (.tup vs)) (ok1.upH na (.tup vs))
  refine gAll_k hv (t.nx c1 _ _ F3 _ (SSt.setAll s3 ((r1.lent k1 k2 k3 q1.1).move (fun _ _ h => h) fun b xs h1 h2 h3 => ⟨by rw [upd_ne (ne_of_none h1 na)]; exact h1, h2⟩) s.ent.there s.ownThere) q)
end
section comp
variable {X : Cx} {tg elt iter : Expr} {ifs : List Expr} {scope : Scope} {own : List (Str × Nat)} {fi : FI} {gg : FG} {is : List Nat} {fe : FE} {ft : FT} {y : Str} {py spos pos : Pos}
/-- x = [..], own lists read within -/
@[simp ↓] def sValFB (i : Nat) (f : FL) : FS := fun E ρ c => f (ρ.map vB) c fun l c => noLstL l = true ∧ E.nx (ρ.set i (.val (.lst l))) c
theorem sx_valBL (i : Nat) (hN0 : X.N.Nodup) (hc : X.calm = true) (hN : X.N.Nodup) (hi : IX X tg iter fi) (ok : BlkOk X.N X.env.scope scope own) {gl : TG}
    (hg : ∀ (s : Shared) (H : Hp) (C : Addr) (cl : List (Str × Addr)) (fp : List Addr), PG (X.blk s H scope (compEnvC scope cl C X.env) fp) tg gl) (kg : KG X.K is gg gl)
    {t : TT} (ht : ∀ (s : Shared) (H : Hp) (C : Addr) (cl : List (Str × Addr)) (fp : List Addr), PTs (X.blk s H scope (compEnvC scope cl C X.env) fp) ifs t) (kt : KT3 X.K ft t)
    (he : ∀ (s : Shared) (H : Hp) (C : Addr) (cl : List (Str × Addr)) (fp : List Addr), EX (X.blk s H scope (compEnvC scope cl C X.env) fp) elt fe)
    (his : ∀ j ∈ is, j ∈ own.map (·.2)) (hs : ∀ x, foldedSetIterable iter X.env x = pure x := by intro _; rfl) (hy : X.N[i]? = some y := by rfl) (hyl : X.env.scope.names.lookup y = some .local := by rfl)
    (hsw : swapsWith (.ListComp elt [⟨tg, iter, ifs, 0⟩] scope pos) (some (.Name y py)) spos.line X.env = pure true := by exact sw_true rfl rfl rfl (by decide +kernel)) :
    SX X (.Assign [.Name y py] (.ListComp elt [⟨tg, iter, ifs, 0⟩] scope pos) spos) (sValFB i (fComp fi gg ft fe (own.map (·.2)))) :=
  PS.imp (ps_setC i hN0 hc hN hi ok hg kg ht kt he his hs hy hyl hsw) fun D σ H ⟨p, c, ρ, F, F0, H0, E, s, h, t⟩ => by
    obtain ⟨F2, es, w2, k⟩ := s.lend
    refine ⟨p, c, _, F2, _, es, h, fun l c1 a xs F1 H1 w1 ok1 n1 n2 n3 h1 r1 q1 => ?_⟩
    obtain ⟨F3, s3, w3, _, k2, k3⟩ := k c1 F1 H1 w1 ok1
    obtain ⟨F', w', ok', r'⟩ := own_frz w3 s3.ok n1 (k3 a n2) n3 h1 (k2 l xs q1.1 r1)
    exact t.nx c1 _ _ F' H1 ((s.fwd w' ok').set i r') q1.2
end comp
end L3

set_option maxHeartbeats 4000000
/-! L3G: sorted(set(l)) of a list of ints of any length; x[e] -= v. -/
namespace L2
open PySem PySem.Spec PyProof.Rows PySem.Calls PySem.W
section
variable {P : Program} {w : World} {A : Around} {E : Value → Shared → Prop} {s : Shared} {a : Addr}
theorem set_of_list {l : Addr} {items : Array Value} (ns : List Int) {Q : Value → Shared → Prop} (hh : A.handled = none) (hl : s.heap.IsList l items) (hit : IntsAre items.toList ns) (hb : ns.length + 1 < scanBound)
    (h : ∀ (h' : Heap) (tk c : Nat), SetR w h' s.heap.objs.size (fun j => decide (j ∈ ns)) c → c ≤ ns.length → (∀ b o, s.heap.get? b = some o → h'.get? b = some o) → Q (.ref s.heap.objs.size) { s with heap := h', toks := tk }) :
    wpAny (model P w) A (call (.type "set") [.ref l]) Q E s := by
  have hisz : items.size = ns.length := by
    have q := IntsAre.length hit
    rw [Array.length_toList] at q
    exact q
  obtain ⟨c, tl, hmro⟩ := F.called_set.mro
  have hmade := F.called_set.made
  have hsub := F.called_set.sub
  refine wpAny_call (codeAny_of_tree ?_)
  show wpAny _ _ (callAny (.type "set") _) _ _ _
  refine wpAny_pure ⟨Code.quiet_builtin _ (by decide +kernel), codeAny_builtin F.entry_type_call ?_⟩
  rw [Around.under_plain (weight_type_call_type "set" [.ref l] []) rfl]
  have h1 := F.called_set.notType
  have h2 := F.called_set.canCreate
  have hct := F.typeCall_set_1 (.ref l)
  repeat (any_goals (first | assumption | wp_step))

  refine codeAny_mono (code_set_led1 (.ref l) (E := E) (Q₁ := fun obj s₁ => obj = .ref s.heap.objs.size ∧ s₁ = { s with heap := s.heap.push { cls := .type "set", dict := none, data := .set #[] 0 (.fresh 0 0 (!w.params.followText "set-order")) } }) ⟨rfl, rfl⟩) fun r s₁ hr => ?_
  cases r with
  | error e => exact hr
  | ok fl =>
    cases fl with
    | ret obj =>
      obtain ⟨rfl, rfl⟩ := hr
      have hS : (s.heap.push { cls := .type "set", dict := none, data := .set #[] 0 (.fresh 0 0 (!w.params.followText "set-order")) }).get? s.heap.objs.size = some { cls := .type "set", dict := none, data := .set #[] 0 (.fresh 0 0 (!w.params.followText "set-order")) } := Heap.get?_push_size _ rfl
      have hT : Shared.TypeIs { s with heap := s.heap.push { cls := .type "set", dict := none, data := .set #[] 0 (.fresh 0 0 (!w.params.followText "set-order")) } } (.ref s.heap.objs.size) "set" := ⟨_, hS, rfl⟩
      have hli := F.called_set.init.lookup
      have hbi := F.called_set.init.bind (.ref s.heap.objs.size)
      repeat (any_goals (first | assumption | wp_step))

      refine codeAny_mono (codeAny_call_builtin (R := wants (fun r s₂ => r = .none ∧ ∃ h' tk c, s₂ = { s with heap := h', toks := tk } ∧ SetR w h' s.heap.objs.size (fun j => decide (j ∈ ns)) c ∧ c ≤ ns.length ∧
          (∀ b o, s.heap.get? b = some o → h'.get? b = some o)) E) F.called_set.init.plain F.entry_set_init (check_set_init_1 hT ?_)) fun r₂ s₂ hr₂ => ?_
      · obtain ⟨ol, hol, hcl, nl, hdl⟩ := hl
        obtain ⟨ocls, odict, odata, oslots⟩ := ol
        simp only at hcl hdl
        subst hcl; subst hdl
        have hol' : (s.heap.push { cls := .type "set", dict := none, data := .set #[] 0 (.fresh 0 0 (!w.params.followText "set-order")) }).get? l = some { cls := .type "list", dict := odict, data := .seq items nl, slots := oslots } := Heap.get?_push_of_some _ hol
        have hsls := F.sub_list_set
        have hslf := F.sub_list_frozenset
        have hne : (Value.type "list" == Value.type "dict") = false := by decide
        have hl1 : (s.heap.push { cls := .type "set", dict := none, data := .set #[] 0 (.fresh 0 0 (!w.params.followText "set-order")) }).IsList l items := ⟨_, hol', rfl, nl, rfl⟩
        unfold Builtin.«set.__init__» noKeywords Builtin.Frozenset.updateFrom
        generalize hPI : pyIter = PI
        wp_walk
        subst hPI

        refine wpAny_pyIter_list hl1 ?_
        refine wpAny_bind (wpAny_runValue ?_)
        have hlS : l < s.heap.objs.size := Heap.lt_size hol
        have hh3 : A.in1.in1.in1.handled = none := by simp [hh]
        have hz1 : (s.heap.push { cls := .type "set", dict := none, data := .set #[] 0 (.fresh 0 0 (!w.params.followText "set-order")) }).objs.size = s.heap.objs.size + 1 := Heap.size_push ..
        have hneI : l ≠ (s.heap.push { cls := .type "set", dict := none, data := .set #[] 0 (.fresh 0 0 (!w.params.followText "set-order")) }).objs.size := by
          rw [Heap.size_push]; exact Nat.ne_of_lt (Nat.lt_succ_of_lt hlS)
        have hSf : s.heap.objs.size ∉ [(s.heap.push { cls := .type "set", dict := none, data := .set #[] 0 (.fresh 0 0 (!w.params.followText "set-order")) }).objs.size, l] := by
          rw [Heap.size_push]; simp only [List.mem_cons, List.mem_singleton, List.not_mem_nil, or_false, not_or]
          exact ⟨Nat.ne_of_lt (Nat.lt_succ_self _), Nat.ne_of_gt hlS⟩
        have hval : ∀ (i : Nat) (v : Value), items[i]? = some v → ∃ k t, ns[i]? = some k ∧ v = .int k t := fun i v hv => by
          have hi : i < ns.length := by rw [← hisz]; exact (Array.getElem?_eq_some_iff.mp hv).1
          obtain ⟨t, e⟩ := PyProof.Rows.IntsAre.int_at hit i v (by rw [Array.getElem?_toList]; exact hv)
          refine ⟨ns[i], t, List.getElem?_eq_getElem hi, ?_⟩
          rw [e, List.getD_eq_getElem?_getD, List.getElem?_eq_getElem hi] <;> rfl
        refine set_update_ints ((Walks.list hh3 _ l hneI items).toS) s.heap.objs.size
          hSf ns hisz hb hval (items.size - 0) 0 _ (by omega) (Nat.zero_le _)
          ⟨⟨_, Heap.get?_push_size _ rfl, rfl, rfl⟩, (hl1.push _)⟩ ?hS0 ?hR
        case hS0 =>
          have hget : ((s.heap.push { cls := .type "set", dict := none, data := .set #[] 0 (.fresh 0 0 (!w.params.followText "set-order")) }).push { cls := .type "list_iterator", data := .fields #[.ref l, .int 0 0] }).get? s.heap.objs.size
              = some { cls := .type "set", dict := none, data := .set #[] 0 (.fresh 0 0 (!w.params.followText "set-order")) } := Heap.get?_push_of_some _ hS
          exact ⟨0, Nat.le_refl 0, setR_new_at hget⟩
        case hR =>
          intro s' c' hm hc' hS'
          obtain ⟨h', g2, d', tk', os'⟩ := s'
          have eg : g2 = s.gens := hm.gens
          have ed : d' = s.drawn := hm.drawn
          have eo : os' = s.os := hm.os
          subst eg; subst ed; subst eo
          show wpAny _ _ _ _ _ _
          refine wpAny_pure ?_
          show wpAny _ _ (ret Value.none) _ _ _
          rw [hisz] at hc'
          refine wpAny_pure ⟨rfl, h', tk', c', rfl, hS', hc', fun b o e => ?_⟩
          have hb0 : b < s.heap.objs.size := Heap.lt_size e
          have hb1 : b ≠ s.heap.objs.size := Nat.ne_of_lt hb0
          have hb2 : b ≠ (s.heap.push { cls := .type "set", dict := none, data := .set #[] 0 (.fresh 0 0 (!w.params.followText "set-order")) }).objs.size := by
            rw [Heap.size_push]; exact Nat.ne_of_lt (Nat.lt_succ_of_lt hb0)
          exact hm.heap b o (by simp only [List.mem_cons, List.mem_singleton, List.not_mem_nil, or_false, not_or]; exact ⟨hb1, hb2⟩) (Heap.get?_push_of_some _ (Heap.get?_push_of_some _ e))

      · cases r₂ with
        | error e => exact hr₂
        | ok fl₂ =>
          cases fl₂ with
          | ret r =>
            obtain ⟨rfl, h', tk, c', rfl, hS', hc', hk'⟩ := hr₂
            repeat (any_goals (first | assumption | wp_step))
            exact h _ _ _ hS' hc' hk'
          | _ => exact hr₂.elim
    | _ => exact hr.elim

theorem sorted_of_set {S : Int → Bool} {n : Nat} {Q : Value → Shared → Prop} (R : SetR w s.heap a S n) (hh : A.handled = none) (h64 : n < scanBound)
    (hQ : ∀ s' p (out : Array Value) (c : Nat) (ns : List Int), (∀ b o, s.heap.get? b = some o → s'.heap.get? b = some o) → s'.gens = s.gens → s'.os = s.os → s.heap.objs.size ≤ p →
      s'.heap.get? p = some (seqObj "list" out c) → IntsAre out.toList ns → ns.Pairwise (· < ·) → (∀ k, k ∈ ns ↔ S k = true) → ns.length = n → Q (.ref p) s') :
    wpAny (model P w) A (call (.builtin "sorted") [.ref a]) Q E s := by
  obtain ⟨o, es, ep, t, ho, hex, hd, g, nd, hm, hb, hf, hn, hr, hl⟩ := R
  refine Calls.call_function_entry kind_sorted plain_sorted entry_sorted (args_sorted1 _) ?_
  unfold Builtin.«sorted»
  refine wpAny_bind (m := checkCount "sorted" 1 1 _) (wpAny_pure ?_)
  refine wpAny_bind (collect_set (A := A.in1) hh ⟨o, ho, hex.1, hd⟩ hf hb hr hl fun s1 vs k1 hz g1 o1 pm => ?_)
  have hvl : vs.length = n := by rw [pm.length_eq, List.length_map, Array.length_toList]; exact hn
  have hI : IntsAre vs (vs.map Builtin.Re.reRawOf) := ints_of vs fun v hv => by
    obtain ⟨e, he, q⟩ := List.mem_map.mp (pm.mem_iff.mp hv)
    obtain ⟨k, tk, h1, _⟩ := g e he
    exact ⟨k, tk, by rw [← q]; exact h1⟩
  have pk : (vs.map Builtin.Re.reRawOf).Perm (es.toList.map keyOf) := by
    have q := pm.map Builtin.Re.reRawOf
    rw [List.map_map] at q
    exact q
  refine wpAny_bind (wpAny_newList ?_ (by rw [hvl, sizeLine_eq]; unfold scanBound at h64; omega))
  have hoL : (s1.heap.push (seqObj "list" vs.toArray 0)).get? s1.heap.objs.size = some (seqObj "list" vs.toArray 0) := Heap.get?_push_size _ rfl
  refine wpAny_bind (wpAny_holding (wpAny_call_entry slot_list_sort ⟨_, hoL, rfl⟩ entry_list_sort (SrtO.list_sort_ord SrtO.swo_int hoL (by rw [hvl, sizeLine_eq]; unfold scanBound at h64; omega) (fun h2 => SrtO.ints_sortable hI h2) fun out h1 h2 => ⟨_, rfl, ?_⟩) (args_list_sort _)))
  obtain ⟨a1, a2, a3⟩ := SrtO.ints_out hI h1 h2
  obtain ⟨c, hc⟩ := sortedHeap_at (vs := vs) (out := out.toArray) hoL
  have pn : (out.map SrtO.iv).Perm (es.toList.map keyOf) := a2.trans pk
  refine wpAny_pure ⟨_, rfl, hQ _ s1.heap.objs.size out.toArray c (out.map SrtO.iv) (fun b u e => ?_) g1 o1 hz hc a1 (lt_of_le_nodup _ a3 (pn.nodup_iff.mpr nd)) (fun k => by rw [pn.mem_iff, ← hm k]) ?_⟩
  · have q := k1 b u e
    have hlt := Heap.lt_size q
    show (sortedHeap (s1.heap.push (seqObj "list" vs.toArray 0)) s1.heap.objs.size vs out.toArray).get? b = some u
    rw [sortedHeap_old (Nat.ne_of_lt hlt) (by rw [size_push']; exact Nat.lt_succ_of_lt hlt)]
    exact Heap.get?_push_of_some _ q
  · rw [pn.length_eq, List.length_map, Array.length_toList]; exact hn
end
end L2

set_option maxHeartbeats 2000000
/-! L3O: sorted(set(l)), x[e] -= v as readings. -/
namespace L3
open PySem PySem.Spec PyProof.Rows L2
section
variable {K : PySem.W.Frag} {X : Cx} {e a b : Expr} {es : List Expr} {fa fb : FE} {fr : FA} {f f2 : FL} {pos : Pos}
/-- x[e] -= v -/
@[simp ↓] def sAugM (i : Nat) (fi fe : FE) : FS := fun E ρ c => match ρ[i]? with
  | some (.own l) => fi (ρ.map vB) c fun d c => match d with
    | .int k => (0 ≤ k ∧ k < l.length) ∧ match l[k.toNat]? with
      | some (.int x) => fe (ρ.map vB) c fun y c => match y with
        | .int y => E.nx (ρ.set i (.own (l.set k.toNat (.int (x - y))))) c
        | _ => False
      | _ => False
    | _ => False
  | _ => False
theorem sx_augM {st : Stmt} (i : Nat) (h : PS X st (tAugS (tVar i) (tE X.K fa) (tE X.K fb) (rGetN X.K) (ipI fun i j => i - j) rSetL)) : SX X st (sAugM i fa fb) := PS.imp h fun D σ H ⟨p, c, ρ, F, F0, H0, E, s, h, t⟩ => by
  unfold sAugM at h
  split at h
  · rename_i l hi
    obtain ⟨a, xs, e1, e2, e3, e4, e5, r0⟩ := s.own i l hi
    obtain ⟨F2, es, w2, k⟩ := s.lend
    refine ⟨_, e1, p, c, _, F2, _, es, h, fun d c1 v F1 H1 w1 ok1 r1 q1 => ?_⟩
    obtain ⟨F3, s1, w3, k1, k2, _⟩ := k c1 F1 H1 w1 ok1
    obtain ⟨a', xs', g1, g2, g3, g4, g5, r0'⟩ := s1.own i l hi
    rw [e1] at g1
    cases g1
    split at q1
    · rename_i j
      cases (show v = .int j from r1)
      obtain ⟨⟨j0, j1⟩, q⟩ := q1
      split at q
      · rename_i z hz
        obtain ⟨v, hv, rv⟩ := RepL.at' r0' hz
        cases (show v = .int z from rv)
        refine ⟨a, xs', j, .int z, rfl, rfl, .inl (.inl g2), j0, hv, p, c1, _, F1, _, es.fwd w1 ok1, q, fun y c4 u F4 H4 w4 ok4 r4 q4 => ?_⟩
        obtain ⟨F5, s2, w5, k3, k4, _⟩ := k c4 F4 H4 (w1.trans w4) ok4
        obtain ⟨a2, xs2, y1, y2, y3, y4, y5, r2⟩ := s2.own i l hi
        rw [e1] at y1
        cases y1
        split at q4
        · rename_i m
          cases (show u = .int m from r4)
          refine ⟨z, m, rfl, rfl, a, xs2, j, j.toNat, rfl, rfl, y2, by rw [r2.len]; unfold ixN; rw [if_pos j0, if_pos j1], t.nx c4 _ _ F5 _ (s2.put hi e1 (RepL.set (show Rep X.K p F5 (.int (z - m)) (.int (z - m)) from rfl) _ r2)) q4⟩
        · exact q4.elim
      · exact q.elim
    · exact q1.elim
  · exact h.elim
/-- sorted(set(l)), l a list of ints -/
@[simp ↓] def fSortSetL (fa : FE) : FL := fun ρ c Q => fa ρ c fun x c => match x with
  | .lst l => ∃ ns, intsOf l = some ns ∧ ns.length ≤ 4000 ∧ ∀ m : List Int, m.Pairwise (· < ·) → (∀ k, k ∈ m ↔ k ∈ ns) → Q (m.map .int) c
  | _ => False
def tSortSetL (K : PySem.W.Frag) (ta : TE) : TE := fun σ H Q => ta σ H fun x H1 => ∃ (l : Addr) (ns : List Int), x = .ref l ∧ SqL K H1 l (ns.map V.int) ∧ ns.length ≤ 4000 ∧ ∀ (m : List Int) (q : Addr), m.Pairwise (· < ·) → (∀ k, k ∈ m ↔ k ∈ ns) → H1 q = none → Q (.ref q) (upd H1 q (.lst (m.map V.int)))
theorem pe_sortSetL {a : Expr} {ta : TE} {p p2 q pos : Pos} (hg : Gl X "sorted") (hm : X.mg "sorted" = none) (hg2 : Gl X "set") (hm2 : X.mg "set" = none) (ha : PE X a ta) (hc : X.calm = true := by rfl)
    (na : starEach [a] X.env = (false, eval a X.env) :: starEach [] X.env := by rfl) : PE X (.Call (.Name "sorted" p) [.Call (.Name "set" p2) [a] [] q] [] pos) (tSortSetL X.K ta) := by
  refine ⟨fun pins s σ H Q I h => ?_⟩
  refine Call_ (ld_blt I hg hm (by decide +kernel : bootBuiltins "sorted" = some (.builtin "sorted")) ?_)
  refine PyProof.Rows.callWith_builtin1 (PyProof.Rows.args_cons ?_ rfl) rfl rfl
  refine Call_ (ld_blt I hg2 hm2 (by decide +kernel : bootBuiltins "set" = some (.type "set")) ?_)
  refine PyProof.Rows.callWith_type1 (PyProof.Rows.args_cons (thn (ha.run pins s σ H _ I h) fun v s1 ⟨x, H1, I1, r1, q1⟩ => PyProof.Rows.args_nil ?_) na) na rfl
  obtain ⟨l, ns, rfl, hq, hl, q1⟩ := q1
  cases r1
  obtain ⟨its, r, pl, hz⟩ := I1.list hq
  have hi : IntsAre its.toArray.toList ns := by simpa using RZ.intsAre_vals r
  refine set_of_list ns (I1.ok.hd hc) pl.isList hi (by unfold scanBound; omega) fun h' tk c R1 hcn k => ?_
  refine PyProof.Rows.args_nil ?_
  have I2 : Inv X pins σ H1 { s1 with heap := h', toks := tk } := I1.kept fun b o e => k b o e
  refine sorted_of_set (s := { s1 with heap := h', toks := tk }) R1 (I1.ok.hd hc) (by unfold scanBound; omega) fun s' p' out c' ms k2 g o hp hgo hI hs hmm hl2 => ?_
  have hlen : (ms.map V.int).length ≤ sizeLine := by rw [List.length_map, hl2, sizeLine_eq]; omega
  have hn : H1 p' = none := I2.hok.fresh hp
  have J : Inv X pins σ (upd H1 p' (.lst (ms.map V.int))) { s1 with heap := s'.heap, gens := s'.gens, drawn := s'.drawn, toks := s'.toks } :=
    L2.Inv.call (s := { s1 with heap := h', toks := tk }) I2 (ch := []) (Un.laid k2 hp hn) (I2.hok.laid k2 hp ⟨hlen, out.toList, c', vals_of_ints hI, hgo⟩) (by rw [g]; exact I2.bare) (fun _ z => nomatch z)
  have e : s' = { s1 with heap := s'.heap, gens := s'.gens, drawn := s'.drawn, toks := s'.toks } := by
    cases s'
    cases s1
    cases o
    rfl
  rw [e]
  exact ⟨.ref p', _, J, rfl, q1 ms p' hs (fun z => (hmm z).trans decide_eq_true_iff) hn⟩
theorem fx_sortSetL {e : Expr} {p p2 q pos : Pos} (hm : X.mg "sorted" = none) (hm2 : X.mg "set" = none) (ha : EX X e fa) (hg : Gl X "sorted" := by rfl) (hg2 : Gl X "set" := by rfl) (hc : X.calm = true := by rfl) (na : starEach [e] X.env = (false, eval e X.env) :: starEach [] X.env := by rfl) :
    FX X (.Call (.Name "sorted" p) [.Call (.Name "set" p2) [e] [] q] [] pos) (fSortSetL fa) := PE.imp (pe_sortSetL hg hm hg2 hm2 ha hc na) fun σ H Q ⟨p, c, ρ, F, Q', es, h, t⟩ =>
  ⟨p, c, ρ, F, _, es, h, fun d c1 v F1 H1 w1 ok1 r1 q1 => by
    split at q1
    · obtain ⟨b, xs, rfl, h1, rl⟩ := r1
      obtain ⟨ns, e1, hl, q⟩ := q1
      refine ⟨b, ns, rfl, by rw [← RepL.ints rl e1]; exact .of (ok1.sub _ _ h1), hl, fun m a hp hs nq => ?_⟩
      obtain ⟨w, ok, n1, n2, n3⟩ := layL w1 ok1 nq (m.map V.int)
      exact t _ c1 a _ F1 _ w ok n1 n2 n3 upd_same (rep_ints m) (q m hp hs)
    · exact q1.elim⟩
/-- sum(t), t a list or a tuple of ints -/
def rSumT (K : PySem.W.Frag) : List V → Hp → VK → Prop := fun vs H Q => ∃ (a : Addr) (ns : List Int), vs = [V.ref a] ∧ SqT K H a (ns.map V.int) ∧ Q (.int ns.sum) H
theorem cr_sumT (hc : X.calm = true) : CallR X (.builtin "sum") (rSumT X.K) := by
  intro pins s σ H vs us Q I r h
  obtain ⟨a, ns, rfl, hs, q⟩ := h
  obtain ⟨its, rv, hl, _⟩ := I.tuple hs
  rw [Vals.ref1 r]
  have hi := rv.ints
  obtain ⟨xs, e⟩ := hi.allInts.items
  have hn : numsOf (intItems xs).toList = ns := by rw [← e]; exact hi.numsOf
  rw [nums_intItems] at hn
  have hl : s.heap.IsTuple a its.toArray := hl
  rw [e] at hl
  refine PySem.W.ktm_sumG (I.ok.hd hc) hl fun h' tk t' hk => ?_
  rw [preSum_eq, List.take_of_length_le (by simp), hn]
  exact ⟨.int _, H, I.kept hk, ⟨_, rfl⟩, q⟩
theorem cr_sum2 (hc : X.calm = true) : CallR X (.builtin "sum") fun vs H Q => rSum X.K vs H Q ∨ rSumT X.K vs H Q := CallR.or (cr_sum hc) (cr_sumT hc)
@[simp ↓] def sum2M : FM := fun l c Q => match l with
  | [.lst m] => (match intsOf m with | some ns => Q (.int ns.sum) c | none => False)
  | [.tup m] => (match intsOf m with | some ns => Q (.int ns.sum) c | none => False)
  | _ => False
theorem sum2S : CallS K (fun vs H Q => rSum K vs H Q ∨ rSumT K vs H Q) sum2M := by
  intro p c F H l vs Q' Q ok r h t
  unfold sum2M at h
  split at h
  · split at h
    · rename_i bs e
      obtain ⟨v, rfl, a, xs, rfl, h1, r1⟩ := r.one
      exact .inl ⟨a, bs, rfl, by rw [← r1.ints e]; exact ok_lst ok h1, tellI ok t h⟩
    · exact h.elim
  · split at h
    · rename_i bs e
      obtain ⟨v, rfl, a, xs, rfl, h1, r1⟩ := r.one
      exact .inr ⟨a, bs, rfl, by rw [← r1.ints e]; exact ok.sqT h1, tellI ok t h⟩
    · exact h.elim
  · exact h.elim
/-- x[i] = e, i also from the end -/
@[simp ↓] def sSetN (i : Nat) (fe fi : FE) : FS := fun E ρ c => match ρ[i]? with
  | some (.own l) => fe (ρ.map vB) c fun y c => fi (ρ.map vB) c fun d c => match d with
    | .int k => (match ixN l.length k with
      | some j => noLst y = true ∧ E.nx (ρ.set i (.own (l.set j y))) c
      | none => False)
    | _ => False
  | _ => False
theorem sx_setN {st : Stmt} (i : Nat) (h : PS X st (tAsg (tE X.K fa) (gSub (tVar i) (tE X.K fb) rSetL))) : SX X st (sSetN i fa fb) := PS.imp h fun D σ H ⟨p, c, ρ, F, F0, H0, E, s, h, t⟩ => by
  unfold sSetN at h
  split at h
  · rename_i l hi
    obtain ⟨a, xs, e1, e2, e3, e4, e5, r0⟩ := s.own i l hi
    obtain ⟨F2, es, w2, k⟩ := s.lend
    refine ⟨p, c, _, F2, _, es, h, fun y c1 v F1 H1 w1 ok1 r1 q1 => ⟨_, e1, p, c1, _, F1, _, es.fwd w1 ok1, q1, fun d c4 u F4 H4 w4 ok4 r4 q4 => ?_⟩⟩
    obtain ⟨F3, s1, w3, k1, k2, _⟩ := k c4 F4 H4 (w1.trans w4) ok4
    obtain ⟨a', xs', g1, g2, g3, g4, g5, r0'⟩ := s1.own i l hi
    rw [e1] at g1
    cases g1
    split at q4
    · rename_i j
      cases (show u = .int j from r4)
      split at q4
      · rename_i k hk
        obtain ⟨nl, q⟩ := q4
        exact ⟨a, xs', j, k, rfl, rfl, g2, by rw [r0'.len]; exact hk, t.nx c4 _ _ F3 _ (s1.put hi e1 (RepL.set (k1 _ _ nl (r1.mono w4.frz)) _ r0')) q⟩
      · exact q4.elim
    · exact q4.elim
  · exact h.elim
end
end L3

set_option maxHeartbeats 2000000
/-! L3A: dicts of a def's own, their keys ints or texts. -/
namespace L3
open PySem PySem.Spec PyProof.Rows L2
def keyD : D → Option Key
  | .int i => some (.inl i)
  | .str x => some (.inr x)
  | _ => none
def keysD : List D → Option (List Key)
  | [] => some []
  | d :: l => match keyD d, keysD l with
    | some k, some ks => some (k :: ks)
    | _, _ => none
section
variable {κ : Type} [DecidableEq κ]
def hasK (ks : List κ) (k : κ) : Bool := ks.any fun a => decide (a = k)
def putKs (ks : List κ) (k : κ) : List κ := if hasK ks k = true then ks else ks ++ [k]
def putDs (ks : List κ) (l : List D) (k : κ) (d : D) : List D := if hasK ks k = true then List.zipWith (fun a x => if a = k then d else x) ks l else l ++ [d]
def getDs : List κ → List D → κ → Option D
  | a :: r, x :: l, k => if a = k then some x else getDs r l k
  | _, _, _ => none
variable {K : PySem.W.Frag} {p : Pn} {F : Hp}
theorem rep_getD : ∀ {kvs : List (κ × V)} {l : List D} {k : κ} {d : D}, RepL K p F l (kvs.map (·.2)) → getDs (kvs.map (·.1)) l k = some d → ∃ v, valV kvs k = some v ∧ Rep K p F d v
  | [], l, k, d, _, e => by cases l <;> cases e
  | kv :: kvs, [], k, d, r, e => by cases e
  | kv :: kvs, x :: l, k, d, r, e => by
    obtain ⟨v, w, e1, r1, r2⟩ := r
    cases e1
    by_cases h : kv.1 = k
    · have e : (if kv.1 = k then some x else getDs (kvs.map (·.1)) l k) = some d := e
      rw [if_pos h] at e
      cases e
      exact ⟨kv.2, valV_pos h, r1⟩
    · have e : (if kv.1 = k then some x else getDs (kvs.map (·.1)) l k) = some d := e
      rw [if_neg h] at e
      obtain ⟨v, g1, g2⟩ := rep_getD r2 e
      exact ⟨v, (valV_neg h).trans g1, g2⟩
theorem any_mem (k : κ) : ∀ kvs : List (κ × V), (kvs.any fun kv => decide (kv.1 = k)) = hasK (kvs.map (·.1)) k
  | [] => rfl
  | kv :: kvs => by
    show (decide (kv.1 = k) || kvs.any fun kv => decide (kv.1 = k)) = (decide (kv.1 = k) || hasK (kvs.map (·.1)) k)
    rw [any_mem k kvs]
theorem rep_putD {kvs : List (κ × V)} {l : List D} {k : κ} {d : D} {v : V} (r : RepL K p F l (kvs.map (·.2))) (rd : Rep K p F d v) : (putK kvs k v).map (·.1) = putKs (kvs.map (·.1)) k ∧ RepL K p F (putDs (kvs.map (·.1)) l k d) ((putK kvs k v).map (·.2)) := by
  unfold putK putKs putDs
  rw [any_mem]
  by_cases h : hasK (kvs.map (·.1)) k = true
  · rw [if_pos h, if_pos h, if_pos h]
    clear h
    constructor
    · rw [List.map_map]
      refine List.map_congr_left fun kv _ => ?_
      show (if kv.1 = k then (kv.1, v) else kv).1 = kv.1
      split <;> rfl
    · induction kvs generalizing l with
      | nil => cases l with
        | nil => exact rfl
        | cons x l => obtain ⟨_, _, e, _⟩ := r; cases e
      | cons kv kvs ih =>
        cases l with
        | nil => cases (show _ = _ from r)
        | cons x l =>
          obtain ⟨y, w, e, r1, r2⟩ := r
          cases e
          refine ⟨_, _, rfl, ?_, ih r2⟩
          show Rep K p F (if kv.1 = k then d else x) (if kv.1 = k then (kv.1, v) else kv).2
          split
          · exact rd
          · exact r1
  · rw [if_neg h, if_neg h, if_neg h, List.map_append, List.map_append]
    exact ⟨rfl, r.app ⟨v, [], rfl, rd, rfl⟩⟩
end
section
variable {K : PySem.W.Frag} {p : Pn} {F : Hp}
theorem Rep.key {d : D} {v : V} {k : Key} (r : Rep K p F d v) (e : keyD d = some k) : v = kV k := by
  cases d <;> cases e
  · exact r
  · exact r
theorem RepL.keys : ∀ {l : List D} {vs : List V} {ks : List Key}, RepL K p F l vs → keysD l = some ks → vs = ks.map kV
  | [], vs, ks, r, e => by cases e; exact r
  | d :: l, vs, ks, r, e => by
    obtain ⟨v, w, rfl, r1, r2⟩ := r
    unfold keysD at e
    split at e
    · rename_i k ks' e1 e2
      cases e
      rw [r1.key e1, RepL.keys r2 e2]
      rfl
    · cases e
end
/-- what a dict holds at a key -/
def getKs (ks : Ks) (l : List D) (x : D) : Option D := match ks with
  | .k ks => (keyD x).bind fun k => getDs ks l k
  | .t ks => match x with
    | .tup xs => (keysD xs).bind fun k => getDs ks l k
    | _ => none
/-- a dict with one more entry, or another one -/
def puKs (ks : Ks) (l : List D) (x d : D) : Option (Ks × List D) := match ks with
  | .k ks => (keyD x).map fun k => (.k (putKs ks k), putDs ks l k d)
  | .t ks => match x with
    | .tup xs => (keysD xs).map fun k => (.t (putKs ks k), putDs ks l k d)
    | _ => none
section
variable {K : PySem.W.Frag} {p : Pn} {c c' : Nat} {ρ : Env3} {σ : L2.St} {F H F0 H0 F' H' : Hp}
/-- a new dict of its own -/
theorem SSt.setDic (s : SSt K p c ρ σ F H F0 H0) (i : Nat) {ks : Ks} {l : List D} {a : Addr} {o : HO} {vs : List V} (h1 : H a = some o) (h2 : F a = none) (h3 : H0 a = none) (h4 : p.pot ≠ some a) (hk : DicO ks vs o) (r : RepL K p F l vs)
    (h5 : ∀ (j : Nat) (ks : Ks) (m : List D), j ≠ i → ρ[j]? = some (SV.dic ks m) → σ[j]? ≠ some (some (V.ref a))) : SSt K p c (ρ.set i (SV.dic ks l)) (σ.set i (some (.ref a))) F H F0 H0 where
  ok := s.ok
  ent := s.ent
  len := by rw [List.length_set, List.length_set, s.len]
  val := fun j d' e => by
    rcases set_get e with ⟨rfl, hl, q⟩ | ⟨n, q⟩
    · cases q
    · rw [List.getElem?_set_ne (Ne.symm n)]
      exact s.val j d' q
  own := fun j l e => by
    rcases set_get e with ⟨rfl, hl, q⟩ | ⟨n, q⟩
    · cases q
    · rw [List.getElem?_set_ne (Ne.symm n)]
      exact s.own j l q
  sep := fun j k l m a e1 e2 e3 e4 => by
    rcases set_get e1 with ⟨rfl, hl, q⟩ | ⟨n, q⟩
    · cases q
    rcases set_get e2 with ⟨rfl, hl, q2⟩ | ⟨n2, q2⟩
    · cases q2
    rw [List.getElem?_set_ne (Ne.symm n)] at e3
    rw [List.getElem?_set_ne (Ne.symm n2)] at e4
    exact s.sep j k l m a q q2 e3 e4
  dic := fun j ks' l' e => by
    rcases set_get e with ⟨rfl, hl, q⟩ | ⟨n, q⟩
    · cases q
      exact ⟨a, o, vs, List.getElem?_set_self (by rw [← s.len]; exact hl), h1, h2, h3, h4, hk, r⟩
    · rw [List.getElem?_set_ne (Ne.symm n)]
      exact s.dic j ks' l' q
  sepd := fun j k ks1 ks2 l m b e1 e2 e3 e4 => by
    rcases set_get e1 with ⟨rfl, hl, q⟩ | ⟨n, q⟩
    · rcases set_get e2 with ⟨rfl, hl, q2⟩ | ⟨n2, q2⟩
      · rfl
      · rw [List.getElem?_set_self (by rw [← s.len]; exact hl)] at e3
        rw [List.getElem?_set_ne (Ne.symm n2)] at e4
        cases e3
        exact absurd e4 (h5 k ks2 m n2 q2)
    · rw [List.getElem?_set_ne (Ne.symm n)] at e3
      rcases set_get e2 with ⟨rfl, hl, q2⟩ | ⟨n2, q2⟩
      · rw [List.getElem?_set_self (by rw [← s.len]; exact hl)] at e4
        cases e4
        exact absurd e3 (h5 j ks1 l n q)
      · rw [List.getElem?_set_ne (Ne.symm n2)] at e4
        exact s.sepd j k ks1 ks2 l m b q q2 e3 e4
theorem tabs_putD {p : Pn} {H : Hp} {a : Addr} {ks : Ks} {vs : List V} {o o2 : HO} (t : Tab3 p H) (h : H a = some o) (hd : DicO ks vs o) : Tab3 p (upd H a o2) := ⟨fun q hq => by
  obtain ⟨ps, h1, h2, h3⟩ := t.tabs q hq
  refine ⟨ps, by rw [upd_ne (ne_of h1 h (fun z => hd.no (fun _ q => nomatch z.trans q) (fun _ q => nomatch z.trans q)))]; exact h1, h2, fun pos cv hc => ?_⟩
  obtain ⟨c, e1, e2⟩ := h3 pos cv hc
  exact ⟨c, e1, by rw [upd_ne (ne_of e2 h (fun z => hd.no (fun _ q => nomatch z.trans q) (fun _ q => nomatch z.trans q)))]; exact e2⟩, fun q hq => by
  have e2 := t.cod q hq
  rw [upd_ne (ne_of e2 h (fun z => hd.no (fun _ q => nomatch z.trans q) (fun _ q => nomatch z.trans q)))]; exact e2⟩
/-- an own dict is changed -/
theorem SSt.putDic (s : SSt K p c ρ σ F H F0 H0) {i : Nat} {ks ks' : Ks} {l l' : List D} {a : Addr} {o' : HO} {vs' : List V} (hi : ρ[i]? = some (SV.dic ks l)) (ha : σ[i]? = some (some (V.ref a))) (hk : DicO ks' vs' o') (r : RepL K p F l' vs') :
    SSt K p c (ρ.set i (SV.dic ks' l')) σ F (upd H a o') F0 H0 := by
  obtain ⟨a', oo, xs, e1, e2, e3, e4, e5, e6, r0⟩ := s.dic i ks l hi
  rw [ha] at e1
  cases e1
  have neF : ∀ b o, F b = some o → b ≠ a := fun b o h => ne_of_none h e3
  refine ⟨⟨fun b o h => by rw [upd_ne (neF b o h)]; exact s.ok.sub b o h, fun b hb => ?_, tabs_putD s.ok.tab e2 e6, s.ok.nt⟩, ⟨s.ent.frz, fun b o h n t => by rw [upd_ne (ne_of_none h e4)]; exact s.ent.keep b o h n t, s.ent.new, fun b h => ?_⟩, by rw [List.length_set, s.len], fun j d e => ?_, fun j m e => ?_, fun j k m m' b f1 f2 f3 f4 => ?_, fun j ks1 m e => ?_, fun j k ks1 ks2 m m' b f1 f2 f3 f4 => ?_⟩
  · obtain ⟨⟨x, y, z, q, w⟩, n⟩ := s.ok.pot b hb
    have ne : b ≠ a := fun e => e5 (e ▸ hb)
    exact ⟨⟨x, y, z, by rw [upd_ne ne]; exact q, w⟩, n⟩
  · by_cases e : b = a
    · subst e; exact e4
    · rw [upd_ne e] at h; exact s.ent.there b h
  · rcases set_get e with ⟨rfl, hl, q⟩ | ⟨n, q⟩
    · cases q
    · exact s.val j d q
  · rcases set_get e with ⟨rfl, hl, q⟩ | ⟨n, q⟩
    · cases q
    · obtain ⟨b, ys, g1, g2, g3, g4, g5, g6⟩ := s.own j m q
      have ne : b ≠ a := fun e => by rw [e, e2] at g2; cases g2; exact e6.no (fun _ q => nomatch q) (fun _ q => nomatch q)
      exact ⟨b, ys, g1, by rw [upd_ne ne]; exact g2, g3, g4, g5, g6⟩
  · rcases set_get f1 with ⟨rfl, hl, q⟩ | ⟨n, q⟩
    · cases q
    rcases set_get f2 with ⟨rfl, hl, q2⟩ | ⟨n2, q2⟩
    · cases q2
    exact s.sep j k m m' b q q2 f3 f4
  · rcases set_get e with ⟨rfl, hl, q⟩ | ⟨n, q⟩
    · cases q
      exact ⟨a, o', vs', ha, upd_same, e3, e4, e5, hk, r⟩
    · obtain ⟨b, ob, ys, g1, g2, g3, g4, g5, g6, g7⟩ := s.dic j ks1 m q
      have ne : b ≠ a := fun e => n (s.sepd j i ks1 ks m l a q hi (e ▸ g1) ha)
      exact ⟨b, ob, ys, g1, by rw [upd_ne ne]; exact g2, g3, g4, g5, g6, g7⟩
  · have get : ∀ {j : Nat} {ks1 : Ks} {m : List D}, (ρ.set i (SV.dic ks' l'))[j]? = some (SV.dic ks1 m) → ∃ ks2 m', ρ[j]? = some (SV.dic ks2 m') := fun {j ks1 m} e => by
      rcases set_get e with ⟨rfl, hl, q⟩ | ⟨n, q⟩
      · exact ⟨ks, l, hi⟩
      · exact ⟨ks1, m, q⟩
    obtain ⟨_, _, q1⟩ := get f1
    obtain ⟨_, _, q2⟩ := get f2
    exact s.sepd j k _ _ _ _ b q1 q2 f3 f4
/-- nothing is known of a slot any more -/
theorem SSt.drop (s : SSt K p c ρ σ F H F0 H0) (i : Nat) : SSt K p c (ρ.set i SV.no) σ F H F0 H0 :=
  ⟨s.ok, s.ent, by rw [List.length_set, s.len], fun j d e => (set_get e).elim (fun ⟨_, _, q⟩ => nomatch q) fun ⟨_, q⟩ => s.val j d q, fun j d e => (set_get e).elim (fun ⟨_, _, q⟩ => nomatch q) fun ⟨_, q⟩ => s.own j d q,
    fun j k l m a e1 e2 e3 e4 => (set_get e1).elim (fun ⟨_, _, q⟩ => nomatch q) fun ⟨_, q⟩ => (set_get e2).elim (fun ⟨_, _, q⟩ => nomatch q) fun ⟨_, q2⟩ => s.sep j k l m a q q2 e3 e4,
    fun j ks d e => (set_get e).elim (fun ⟨_, _, q⟩ => nomatch q) fun ⟨_, q⟩ => s.dic j ks d q,
    fun j k ks ks' l m a e1 e2 e3 e4 => (set_get e1).elim (fun ⟨_, _, q⟩ => nomatch q) fun ⟨_, q⟩ => (set_get e2).elim (fun ⟨_, _, q⟩ => nomatch q) fun ⟨_, q2⟩ => s.sepd j k ks ks' l m a q q2 e3 e4⟩
end
abbrev FD := Rho → Nat → (Ks → List D → Nat → Prop) → Prop
/-- an expression whose value is a new dict -/
def tD (K : PySem.W.Frag) (f : FD) : TE := fun σ H Q => ∃ p c ρ F Q', ESt K p c ρ σ F H ∧ f ρ c Q' ∧
  ∀ ks l c' a o vs F' H', Fwd p F H F' H' → Ok3 p c' F' H' → H a = none → F' a = none → p.pot ≠ some a → H' a = some o → DicO ks vs o → RepL K p F' l vs → Q' ks l c' → Q (.ref a) H'
abbrev DX (X : Cx) (e : Expr) (f : FD) : Prop := PE X e (tD X.K f)
section
variable {K : PySem.W.Frag} {X : Cx} {e a b o i v : Expr} {f : FD} {fa fb fo fi fe : FE} {pos pos' : Pos}
theorem layD {p : Pn} {c : Nat} {F H F1 H1 : Hp} (w : Fwd p F H F1 H1) (ok : Ok3 p c F1 H1) {q : Addr} (nq : H1 q = none) (o : HO) :
    Fwd p F H F1 (upd H1 q o) ∧ Ok3 p c F1 (upd H1 q o) ∧ H q = none ∧ F1 q = none ∧ p.pot ≠ some q := by
  have nF : F1 q = none := by
    cases e : F1 q with
    | none => rfl
    | some u => rw [ok.sub q u e] at nq; cases nq
  have np : p.pot ≠ some q := fun e => by
    obtain ⟨⟨x, y, z, h, _⟩, _⟩ := ok.pot q e
    rw [nq] at h; cases h
  refine ⟨⟨w.frz, fun b u h n t => ?_, w.new, fun b h => ?_⟩, ⟨fun b u h => ?_, fun b e => ?_, ok.tab.ext fun b u h => by rw [upd_ne (ne_of_none h nq)]; exact h, ok.nt⟩, w.there q nq, nF, np⟩
  · have := w.keep b u h n t
    rw [upd_ne (ne_of_none this nq)]; exact this
  · by_cases e : b = q
    · subst e; exact w.there _ nq
    · rw [upd_ne e] at h; exact w.there b h
  · rw [upd_ne (ne_of_none h nF)]; exact ok.sub b u h
  · obtain ⟨⟨x, y, z, h, r⟩, n⟩ := ok.pot b e
    exact ⟨⟨x, y, z, by rw [upd_ne (ne_of_none h nq)]; exact h, r⟩, n⟩
@[simp ↓] def dNew : FD := fun _ c Q => Q (.k []) [] c
theorem dx_new : DX X (.Dict [] [] pos) dNew := PE.imp pe_dnewK fun σ H Q ⟨p, c, ρ, F, Q', es, h, t⟩ q nq => by
  obtain ⟨w, ok, n1, n2, n3⟩ := layD (Fwd.refl p F H) es.ok nq (.dK [])
  exact t (.k []) [] c q _ [] F _ w ok n1 n2 n3 upd_same ⟨[], rfl, rfl, rfl⟩ rfl h
/-- .. whose keys will be tuples -/
@[simp ↓] def dNewT : FD := fun _ c Q => Q (.t []) [] c
theorem dx_newT : DX X (.Dict [] [] pos) dNewT := PE.imp pe_dnewT fun σ H Q ⟨p, c, ρ, F, Q', es, h, t⟩ q nq => by
  obtain ⟨w, ok, n1, n2, n3⟩ := layD (Fwd.refl p F H) es.ok nq (.dT [])
  exact t (.t []) [] c q _ [] F _ w ok n1 n2 n3 upd_same ⟨[], rfl, rfl, rfl⟩ rfl h
/-- x = a new dict -/
@[simp ↓] def sDic (n : Nat) (f : FD) : FS := fun E ρ c => f (ρ.map vB) c fun ks l c => noLstL l = true ∧ E.nx (ρ.set n (.dic ks l)) c
theorem sx_dic (n : Nat) {x : Str} {px : Pos} (h : DX X e f) (hN : X.N.Nodup) (hi : X.N[n]? = some x := by rfl) (hx : Loc X.env.scope x := by first | exact Or.inl rfl | exact Or.inr rfl) (hs : swapsWith e (some (.Name x px)) pos.line X.env = pure false := by rfl)
    (hf : X.fn x = true ∨ X.env.scope.names.lookup x = some .local := by first | exact .inl rfl | exact .inr rfl) : SX X (.Assign [.Name x px] e pos) (sDic n f) := PS.imp (ps_set hN hi hx h hs hf) fun D σ H ⟨p, c, ρ, F, F0, H0, E, s, h, t⟩ => by
  obtain ⟨F2, es, w2, k⟩ := s.lend
  refine ⟨p, c, _, F2, _, es, h, fun ks l c1 a o vs F1 H1 w1 ok1 n1 n2 n3 h1 hk r1 q1 => ?_⟩
  obtain ⟨F3, s3, w3, _, k2, k3⟩ := k c1 F1 H1 w1 ok1
  have n4 : F3 a = none := k3 a n2
  refine t.nx c1 _ _ F3 H1 (s3.setDic n h1 n4 (s.ent.there a n1) n3 hk (k2 l _ q1.1 r1) fun j ks m _ e1 e2 => ?_) q1.2
  obtain ⟨b, ob, ys, g1, g2, _⟩ := s.dic j ks m e1
  rw [e2] at g1
  cases g1
  rw [n1] at g2
  cases g2
/-- o[i], o a dict -/
@[simp ↓] def dgD : D → D → Nat → KD → Prop
  | .dct ks l, x, c, Q => (match getKs ks l x with
    | some d => Q d c
    | none => False)
  | _, _, _, _ => False
theorem DicO.get {K : PySem.W.Frag} {p : Pn} {F : Hp} {ks : Ks} {l : List D} {vs : List V} {o : HO} {x d : D} {v : V} (h : DicO ks vs o) (rl : RepL K p F l vs) (rx : Rep K p F x v) (e : getKs ks l x = some d) :
    ∃ w, Rep K p F d w ∧ ((∃ kvs k, o = .dK kvs ∧ v = kV k ∧ valV kvs k = some w) ∨ ∃ kvs k b, o = .dT kvs ∧ v = .ref b ∧ SqT K F b (k.map kV) ∧ valV kvs k = some w) := by
  cases ks with
  | k ks =>
    obtain ⟨kvs, h1, h2, h3⟩ := h
    obtain ⟨k, ek, e⟩ := Option.bind_eq_some_iff.mp e
    subst h2 h3
    obtain ⟨w, g1, g2⟩ := rep_getD rl e
    exact ⟨w, g2, .inl ⟨kvs, k, h1, rx.key ek, g1⟩⟩
  | t ks =>
    obtain ⟨kvs, h1, h2, h3⟩ := h
    cases x with
    | tup xs =>
      obtain ⟨k, ek, e⟩ := Option.bind_eq_some_iff.mp e
      subst h2 h3
      obtain ⟨w, g1, g2⟩ := rep_getD rl e
      obtain ⟨b, ys, r1, r2, r3⟩ := rx
      rw [r3.keys ek] at r2
      exact ⟨w, g2, .inr ⟨kvs, k, b, h1, r1, r2, g1⟩⟩
    | _ => cases e
/-- .. and the hand layer's reading of it, the key any tuple -/
def DGetS (K : PySem.W.Frag) (H : Hp) (a : Addr) (y : V) (r : Option V) : Prop :=
  (∃ kvs k, H a = some (.dK kvs) ∧ y = kV k ∧ r = valV kvs k) ∨ ∃ kvs k b, H a = some (.dT kvs) ∧ y = .ref b ∧ SqT K H b (k.map kV) ∧ r = valV kvs k
def tDGetS (K : PySem.W.Frag) (td ty : TE) : TE := fun σ H Q => td σ H fun x H1 => ty σ H1 fun y H2 => ∃ a v, x = .ref a ∧ DGetS K H2 a y (some v) ∧ Q v H2
theorem key_ofS {pins : List (Addr × Obj)} {σ : L2.St} {H : Hp} {s : Shared} {a : Addr} {ks : List Key} (I : Inv X pins σ H s) (e : SqT X.K H a (ks.map kV)) : (tupleKind (mixKind X.prog X.w)).is s.heap ks a := by
  obtain ⟨its, r, ⟨o, h1, h2, n, h3⟩, _⟩ := I.tuple e
  exact ⟨o, its.toArray, n, h1, h2, h3, by simpa using items_are r⟩
theorem pe_dgetS {td ty : TE} (hu : X.A.units + 1 < cLine) (ho : PE X o td) (hi : PE X i ty) (hs : NoSl i) : PE X (.Subscript o i pos) (tDGetS X.K td ty) := by
  refine ⟨fun pins s σ H Q I h => ?_⟩
  refine subD_of PySem.F.slot_dict_getitem.lookup hs (thn (ho.run pins s σ H _ I h) fun u s1 ⟨x, H1, I1, rx, q1⟩ => thn (hi.run pins s1 σ H1 _ I1 q1) fun iv s2 ⟨y, H2, I2, ry, a, v, ex, g, q2⟩ => ?_)
  subst ex
  obtain rfl : u = Value.ref a := rx
  rcases g with ⟨kvs, k, e, ey, l⟩ | ⟨kvs, k, b, e, ey, eb, l⟩
  · have g : DGet H2 a y (some v) := by rw [ey, l]; exact DGet.k e
    exact ⟨dict_typeIs I2 g, d_getItem hu I2 g ry fun w' s3 I3 rw' => ⟨v, H2, I3, rw', q2⟩⟩
  · subst ey
    cases (show iv = Value.ref b from ry)
    obtain ⟨z, hd, xs, rel, dd⟩ := dt_rd I2.hok (.inl e)
    refine ⟨let ⟨o, _, _, hq, hc, _⟩ := dd; ⟨o, hq, hc.1⟩, ?_⟩
    obtain ⟨w', hw, rw'⟩ := RelO.some_of (v := v) (o := (atKey xs k).map (·.2)) (by rw [l]; exact rel.val k)
    obtain ⟨p, hp, hp2⟩ := Option.map_eq_some_iff.mp hw
    refine wpAny_getItem_heap (tupleKind_room_in1 hu) (key_ofS I2 eb) dd hp ?_
    rw [hp2]
    exact ⟨v, H2, I2.tok _, rw', q2⟩
theorem ex_dget (hu : X.A.units + 1 < cLine) (ho : EX X o fo) (hi : EX X i fi) (hs : NoSl i) : EX X (.Subscript o i pos) (eOp dgD fo fi) := PE.imp (pe_dgetS hu ho hi hs) fun σ H Q ⟨p, c, ρ, F, Q', es, h, t⟩ => by
  refine ⟨p, c, ρ, F, _, es, h, fun x c1 u F1 H1 w1 ok1 r1 q1 => ⟨p, c1, ρ, F1, _, es.fwd w1 ok1, q1, fun y c2 v F2 H2 w2 ok2 r2 q2 => ?_⟩⟩
  have r1' := r1.mono w2.frz
  unfold dgD at q2
  split at q2
  · obtain ⟨a, o, vs, rfl, h1, hk, rl⟩ := r1'
    split at q2
    · rename_i d ed
      obtain ⟨w, g2, g⟩ := hk.get rl r2 ed
      refine ⟨a, w, rfl, ?_, (t.fwd w1).fwd w2 _ _ _ _ _ (Fwd.refl ..) ok2 g2 q2⟩
      have h2 := ok2.sub _ _ h1
      rcases g with ⟨kvs, k, rfl, e1, e2⟩ | ⟨kvs, k, b, rfl, e1, e2, e3⟩
      · exact .inl ⟨kvs, k, h2, e1, e2.symm⟩
      · exact .inr ⟨kvs, k, b, h2, e1, Sub.sqT ok2.sub e2, e3.symm⟩
    · exact q2.elim
  · exact q2.elim
/-- x[i] = e, x an own dict, its keys no tuples -/
@[simp ↓] def sDput (n : Nat) (fe fi : FE) : FS := fun E ρ c => match ρ[n]? with
  | some (.dic (.k ks) l) => fe (ρ.map vB) c fun d c => fi (ρ.map vB) c fun x c => (match keyD x with
    | some k => (noLst d = true ∧ l.length < 16777216) ∧ E.nx (ρ.set n (.dic (.k (putKs ks k)) (putDs ks l k d))) c
    | none => False)
  | _ => False
theorem sx_dput (n : Nat) {value : Expr} {p1 : Pos} {x : Str} (hu : X.A.units + 1 < cLine) (hv : EX X value fe) (hi : EX X i fi) (pv : PE X (.Name x p1) (tVar n)) (hs : swapsWith value (some (.Subscript (.Name x p1) i pos')) pos.line X.env = pure false := by rfl) :
    SX X (.Assign [.Subscript (.Name x p1) i pos'] value pos) (sDput n fe fi) := PS.imp (ps_dput hu pv hi hv hs) fun D σ H ⟨p, c, ρ, F, F0, H0, E, s, h, t⟩ => by
  unfold sDput at h
  split at h
  · rename_i ks l hn
    obtain ⟨a, o, vs, e1, e2, e3, e4, e5, e6, r0⟩ := s.dic n (.k ks) l hn
    obtain ⟨F2, es, w2, k⟩ := s.lend
    refine ⟨p, c, _, F2, _, es, h, fun y c1 v F1 H1 w1 ok1 r1 q1 => ⟨_, e1, p, c1, _, F1, _, es.fwd w1 ok1, q1, fun d c4 u F4 H4 w4 ok4 r4 q4 => ?_⟩⟩
    obtain ⟨F3, s1, w3, k1, k2, _⟩ := k c4 F4 H4 (w1.trans w4) ok4
    obtain ⟨a', o', vs', g1, g2, g3, g4, g5, g6, r0'⟩ := s1.dic n (.k ks) l hn
    rw [e1] at g1
    cases g1
    obtain ⟨kvs, rfl, g6, g7⟩ := g6
    split at q4
    · rename_i kk ek
      obtain ⟨⟨nl, hl⟩, q⟩ := q4
      rw [← g7] at r0'
      obtain ⟨z1, z2⟩ := rep_putD (k := kk) r0' (k1 _ _ nl (r1.mono w4.frz))
      rw [g6] at z1 z2
      refine ⟨a, _, rfl, ?_, t.nx c4 _ _ F3 _ (s1.putDic (ks' := .k _) (o' := .dK (putK kvs kk v)) hn e1 ⟨_, rfl, z1, rfl⟩ z2) q⟩
      rw [r4.key ek]
      refine DPut.k g2 ?_
      have := r0'.len
      rw [List.length_map] at this
      rw [line16, this]
      exact hl
    · exact q4.elim
  · exact h.elim
/-- x[i, j] = e, x an own dict, its keys tuples, the key told there -/
@[simp ↓] def sDputT (n : Nat) (fe : FE) (fr : FA) : FS := fun E ρ c => match ρ[n]? with
  | some (.dic (.t ks) l) => fe (ρ.map vB) c fun d c => fr (ρ.map vB) c fun x c => (match keysD x with
    | some k => ((noLst d = true ∧ x.length ≤ 16777216) ∧ l.length < 16777216) ∧ E.nx (ρ.set n (.dic (.t (putKs ks k)) (putDs ks l k d))) c
    | none => False)
  | _ => False
theorem sx_dputT (n : Nat) {value : Expr} {p1 : Pos} {x : Str} {es : List Expr} {x1} {tpos : Pos} {fr : FA} (hu : X.A.units + 1 < cLine) (hv : EX X value fe) (hi : AX X es fr) (pv : PE X (.Name x p1) (tVar n)) (hs : swapsWith value (some (.Subscript (.Name x p1) (.Tuple es x1 tpos) pos')) pos.line X.env = pure false := by rfl) :
    SX X (.Assign [.Subscript (.Name x p1) (.Tuple es x1 tpos) pos'] value pos) (sDputT n fe fr) := PS.imp (ps_dput hu pv (pe_tup hi) hv hs) fun D σ H ⟨p, c, ρ, F, F0, H0, E, s, h, t⟩ => by
  unfold sDputT at h
  split at h
  · rename_i ks l hn
    obtain ⟨a, o, vs, e1, e2, e3, e4, e5, e6, r0⟩ := s.dic n (.t ks) l hn
    obtain ⟨F2, es, w2, k⟩ := s.lend
    refine ⟨p, c, _, F2, _, es, h, fun y c1 v F1 H1 w1 ok1 r1 q1 => ⟨_, e1, p, c1, _, F1, _, es.fwd w1 ok1, q1, fun d c4 u F4 H4 w4 ok4 r4 q4 => ?_⟩⟩
    split at q4
    · rename_i kk ek
      obtain ⟨⟨⟨nl, hx⟩, hl⟩, q⟩ := q4
      refine ⟨by rw [line16, r4.len]; exact hx, fun b nb => ?_⟩
      obtain ⟨w5, ok5⟩ := Fwd.laid ok4 nb (.tup u)
      obtain ⟨F3, s1, w3, k1, k2, _⟩ := k c4 _ _ ((w1.trans w4).trans w5) ok5
      obtain ⟨a', o', vs', g1, g2, g3, g4, g5, g6, r0'⟩ := s1.dic n (.t ks) l hn
      rw [e1] at g1
      cases g1
      obtain ⟨kvs, rfl, g6, g7⟩ := g6
      rw [← g7] at r0'
      obtain ⟨z1, z2⟩ := rep_putD (k := kk) r0' (k1 _ _ nl ((r1.mono w4.frz).mono w5.frz))
      rw [g6] at z1 z2
      refine ⟨a, _, rfl, ?_, t.nx c4 _ _ F3 _ (s1.putDic (ks' := .t _) (o' := .dT (putK kvs kk v)) hn e1 ⟨_, rfl, z1, rfl⟩ z2) q⟩
      refine DPut.t (b := b) g2 ?_ ?_
      · rw [upd_same, r4.keys ek]
      · have := r0'.len
        rw [List.length_map] at this
        rw [line16, this]
        exact hl
    · exact q4.elim
  · exact h.elim
/-- x = y, y an own dict: it is x's from now on -/
@[simp ↓] def sMove (n m : Nat) : FS := fun E ρ c => match ρ[m]? with
  | some (.dic ks l) => E.nx ((ρ.set m .no).set n (.dic ks l)) c
  | _ => False
theorem sx_move (n m : Nat) {x y : Str} {px py : Pos} (pv : PE X (.Name y py) (tVar m)) (hN : X.N.Nodup) (hi : X.N[n]? = some x := by rfl) (hx : Loc X.env.scope x := by first | exact Or.inl rfl | exact Or.inr rfl) (hs : swapsWith (.Name y py) (some (.Name x px)) pos.line X.env = pure false := by rfl)
    (hf : X.fn x = true ∨ X.env.scope.names.lookup x = some .local := by first | exact .inl rfl | exact .inr rfl) : SX X (.Assign [.Name x px] (.Name y py) pos) (sMove n m) := PS.imp (ps_set hN hi hx pv hs hf) fun D σ H ⟨p, c, ρ, F, F0, H0, E, s, h, t⟩ => by
  unfold sMove at h
  split at h
  · rename_i ks l hn
    obtain ⟨a, o, vs, e1, e2, e3, e4, e5, e6, r0⟩ := s.dic m ks l hn
    refine ⟨_, e1, t.nx c _ _ F H ((s.drop m).setDic n e2 e3 e4 e5 e6 r0 fun j ks' l' nj g1 g2 => ?_) h⟩
    rcases set_get g1 with ⟨_, _, q⟩ | ⟨nm, q⟩
    · cases q
    · exact nm (s.sepd j m ks' ks l' l a q hn g2 e1)
  · exact h.elim
/-- a comprehension of a dict -/
@[simp ↓] def compD (g : FG) (t : FT) (fk fe : FE) (ρ : Rho) : List D → Nat → List Key → List D → (List Key → List D → Nat → Prop) → Prop
  | [], c, ks, vs, Q => Q ks vs c
  | d :: l, c, ks, vs, Q => g d (ρ.map upS) fun ρ' => t (ρ'.map vA) c fun b c =>
      if b = true then fk (ρ'.map vA) c fun x c => fe (ρ'.map vA) c fun y c => (match keyD x with
        | some k => vs.length < 16777216 ∧ compD g t fk fe ρ l c (putKs ks k) (putDs ks vs k y) Q
        | none => False)
      else compD g t fk fe ρ l c ks vs Q
@[simp ↓] def dComp (fi : FI) (g : FG) (t : FT) (fk fe : FE) (vs : List Nat) : FD := fun ρ c Q => fi ρ c fun l c => compD g t fk fe (wipeD ρ vs) l c [] [] fun ks l c => Q (.k ks) l c
end
section
variable {X : Cx} {tg iter kx vx : Expr} {ifs : List Expr} {scope : Scope} {own : List (Str × Nat)} {pos : Pos} {is : List Nat} {fi : FI} {gg : FG} {ft : FT} {fk fe : FE}
theorem dcomp_w {t : TT} {gl : TG} {wi : TI} {vs : List Nat} (his : ∀ j ∈ is, j ∈ vs)
    (ki : ∀ σ H p c ρ F Q' R, ESt X.K p c ρ σ F H → fi ρ c Q' → (∀ items c' F' H' J, Fwd p F H F' H' → Ok3 p c' F' H' → Walks3 X.K p J items F' → Q' items c' → R J H') → wi σ H R)
    (kg : ∀ p c ρ σ F H F0 H0 d v k kk, SSt X.K p c ρ σ F H F0 H0 → Rep X.K p F d v → gg d ρ k → (∀ ρ' σ', SSt X.K p c ρ' σ' F H F0 H0 → σ'.length = σ.length → (∀ j, j ∉ is → σ'[j]? = σ[j]?) → k ρ' → kk σ' H) → gl v σ H kk)
    (kt : ∀ σ H p c ρ F Q' Q, ESt X.K p c ρ σ F H → ft ρ c Q' → TellB p F H Q' Q → t σ H Q) {σ : L2.St} {H : Hp} {Q : VK} (h : tD X.K (dComp fi gg ft fk fe vs) σ H Q) : tDc wi gl t (tE X.K fk) (tE X.K fe) vs σ H Q := by
  obtain ⟨p, c, ρ, F, Q', es, h, tl⟩ := h
  refine ki σ H p c ρ F _ _ es h fun items c1 F1 H1 J w1 ok1 wk q1 => fun D hD => ?_
  obtain ⟨w0, ok0, n1, n2, n3⟩ := layD (Fwd.refl p F1 H1) ok1 hD (.dK [])
  refine ⟨fun i m H' => m = items.length - i ∧ i ≤ items.length ∧ ∃ c F acc ks ds, Fwd p F1 H1 F H' ∧ Ok3 p c F H' ∧ H' D = some (.dK acc) ∧ F D = none ∧ acc.map (·.1) = ks ∧ RepL X.K p F ds (acc.map (·.2)) ∧ compD gg ft fk fe (wipeD ρ vs) (items.drop i) c ks ds (fun ks l c => Q' (.k ks) l c),
    ⟨items.length, rfl, Nat.zero_le _, c1, F1, [], [], [], w0, ok0, upd_same, n2, rfl, rfl, q1⟩, fun i m H2 ⟨em, hi, c, F2, acc, ks, ds, w, ok, hDl, nF, hk, r, hc⟩ => ?_⟩
  obtain ⟨go, stop⟩ := wk.2 i F2 H2 c w.frz ok
  by_cases hlt : i < items.length
  · obtain ⟨hgo, hy⟩ := go hlt
    refine .inr ⟨hgo, fun H' => ∃ c F acc ks ds, Fwd p F1 H1 F H' ∧ Ok3 p c F H' ∧ H' D = some (.dK acc) ∧ F D = none ∧ acc.map (·.1) = ks ∧ RepL X.K p F ds (acc.map (·.2)) ∧ compD gg ft fk fe (wipeD ρ vs) (items.drop (i + 1)) c ks ds (fun ks l c => Q' (.k ks) l c),
      fun H' z => ⟨items.length - (i + 1), by omega, rfl, hlt, z⟩, fun x H' y => ?_⟩
    obtain ⟨F', d, e1, w', ok', r'⟩ := hy x H' y
    have ed : items.drop i = d :: items.drop (i + 1) := by
      rw [List.drop_eq_getElem_cons hlt]
      rw [List.getElem?_eq_getElem hlt] at e1
      rw [Option.some.inj e1]
    rw [ed] at hc
    have wF := w1.trans (w.trans w')
    have ss : SSt X.K p c ((wipeD ρ vs).map upS) (wipe σ vs) F' H' F' H' := by
      refine ⟨ok', .refl .., by rw [List.length_map, wipeD_len, wipe_length, es.len], fun j dj ej => ?_, fun j lj ej => ?_, fun j k l m a e1 _ _ _ => ?_, fun j ks lj ej => ?_, fun j k ks ks' l m a e1 _ _ _ => ?_⟩
      · rw [List.getElem?_map] at ej
        obtain ⟨z, ez, eu⟩ := Option.map_eq_some_iff.mp ej
        cases z with
        | none => cases eu
        | some z =>
          cases eu
          obtain ⟨nj, e2⟩ := wipeD_some ρ vs j dj ez
          obtain ⟨v, g1, g2⟩ := es.slot j dj ((get3_eq ρ j dj).mpr e2)
          exact ⟨v, by rw [wipe_get σ vs j nj]; exact g1, g2.mono wF.frz⟩
      · rw [List.getElem?_map] at ej
        obtain ⟨z, ez, eu⟩ := Option.map_eq_some_iff.mp ej
        cases z <;> cases eu
      · rw [List.getElem?_map] at e1
        obtain ⟨z, ez, eu⟩ := Option.map_eq_some_iff.mp e1
        cases z <;> cases eu
      · rw [List.getElem?_map] at ej
        obtain ⟨z, ez, eu⟩ := Option.map_eq_some_iff.mp ej
        cases z <;> cases eu
      · rw [List.getElem?_map] at e1
        obtain ⟨z, ez, eu⟩ := Option.map_eq_some_iff.mp e1
        cases z <;> cases eu
    refine kg p c _ (wipe σ vs) F' H' F' H' d x _ _ ss r' hc fun ρ2 σ2 s2 l2 e2 h2 => ⟨?_, ?_⟩
    · refine wipe_eq (by rw [l2, wipe_length]) fun j hj => ?_
      rw [e2 j fun z => hj (his j z), wipe_get σ vs j hj]
    · refine kt σ2 H' p c _ F' _ _ s2.e h2 fun b c3 F3 H3 w3 ok3 q3 => ?_
      have w23 := w'.trans w3
      have keepD : ∀ {F4 H4 : Hp} {c4 : Nat}, Fwd p F2 H2 F4 H4 → Ok3 p c4 F4 H4 → H4 D = some (.dK acc) ∧ F4 D = none := fun {F4 H4 c4} w4 ok4 => by
        refine ⟨w4.keep D _ hDl n3 (fun _ z => nomatch z), ?_⟩
        cases q : F4 D with
        | none => rfl
        | some u =>
          rcases w4.new D u q with z | z | ⟨q', z⟩
          · rw [nF] at z; cases z
          · rw [hDl] at z; cases z
          · have y := ok4.sub D u q
            rw [w4.keep D _ hDl n3 (fun _ z => nomatch z)] at y
            have y2 := z.symm.trans (Option.some.inj y.symm)
            unfold LamX.CodeO at y2
            cases y2
      cases b with
      | true =>
        refine ⟨p, c3, _, F3, _, s2.e.fwd w3 ok3, q3, fun xd c4 u F4 H4 w4 ok4 r4 q4 => ⟨p, c4, _, F4, _, (s2.e.fwd w3 ok3).fwd w4 ok4, q4, fun yd c5 v F5 H5 w5 ok5 r5 q5 => ?_⟩⟩
        split at q5
        · rename_i kk ek
          have w24 := (w23.trans w4).trans w5
          obtain ⟨d1, d2⟩ := keepD w24 (by assumption)
          have w14 := w.trans w24
          obtain ⟨z1, z2⟩ := rep_putD (k := kk) (r.mono w24.frz) r5
          rw [hk] at z1 z2
          have rl := r.len
          rw [List.length_map] at rl
          refine ⟨acc, kk, r4.key ek, d1, by rw [line16, rl]; exact q5.1, c5, F5, putK acc kk v, _, _, ⟨w14.frz, fun b u hb n tt => ?_, w14.new, fun b hb => ?_⟩, ⟨fun b u hb => ?_, fun b hb => ?_, tabs_putD (ks := .k _) (vs := acc.map (·.2)) ok5.tab d1 ⟨acc, rfl, rfl, rfl⟩, ok5.nt⟩, upd_same, d2, z1, z2, q5.2⟩
          · rw [upd_ne (ne_of_none hb n1)]
            exact w14.keep b u hb n tt
          · by_cases e : b = D
            · subst e; exact n1
            · rw [upd_ne e] at hb; exact w14.there b hb
          · rw [upd_ne (ne_of_none hb d2)]
            exact ok5.sub b u hb
          · obtain ⟨⟨x, y, z, h, rr⟩, n⟩ := ok5.pot b hb
            have ne : b ≠ D := fun e => n3 (e ▸ hb)
            exact ⟨⟨x, y, z, by rw [upd_ne ne]; exact h, rr⟩, n⟩
        · exact q5.elim
      | false =>
        obtain ⟨d1, d2⟩ := keepD w23 (by assumption)
        exact ⟨c3, F3, acc, ks, ds, w.trans w23, ok3, d1, d2, hk, r.mono w23.frz, q3⟩
  · have ei : items.drop i = [] := List.drop_eq_nil_of_le (by omega)
    rw [ei] at hc
    exact .inl ⟨stop (by omega), tl (.k ks) ds c D _ (acc.map (·.2)) F2 H2 (w1.trans w) ok (w1.there D n1) nF n3 hDl ⟨acc, rfl, hk, rfl⟩ r hc⟩
theorem dx_comp (hc : X.calm = true) (hN : X.N.Nodup) (hi : IX X tg iter fi) (ok : BlkOk X.N X.env.scope scope own) {gl : TG}
    (hg : ∀ (s : Shared) (H : Hp) (C : Addr) (cl : List (Str × Addr)) (fp : List Addr), PG (X.blk s H scope (compEnvC scope cl C X.env) fp) tg gl)
    (kg : KG X.K is gg gl)
    {t : TT} (ht : ∀ (s : Shared) (H : Hp) (C : Addr) (cl : List (Str × Addr)) (fp : List Addr), PTs (X.blk s H scope (compEnvC scope cl C X.env) fp) ifs t)
    (kt : KT3 X.K ft t)
    (hk : ∀ (s : Shared) (H : Hp) (C : Addr) (cl : List (Str × Addr)) (fp : List Addr), EX (X.blk s H scope (compEnvC scope cl C X.env) fp) kx fk)
    (he : ∀ (s : Shared) (H : Hp) (C : Addr) (cl : List (Str × Addr)) (fp : List Addr), EX (X.blk s H scope (compEnvC scope cl C X.env) fp) vx fe)
    (his : ∀ j ∈ is, j ∈ own.map (·.2)) (hs : ∀ x, foldedSetIterable iter X.env x = pure x := by intro _; rfl) : DX X (.DictComp kx vx [⟨tg, iter, ifs, 0⟩] scope pos) (dComp fi gg ft fk fe (own.map (·.2))) := by
  obtain ⟨wi, pi, ki⟩ := hi.ex
  exact PE.imp (pe_dc hc hN pi ok hg ht hk he hs) fun σ H Q h => dcomp_w his ki kg.k kt.k h
end
end L3

set_option maxHeartbeats 2000000
/-! L3B: min of a list of data. -/
namespace L3
open PySem PySem.Spec PyProof.Rows L2
def rMinP (K : PySem.W.Frag) : List V → Hp → VK → Prop := fun vs H Q => ∃ (a : Addr) (ws : List V) (x : PyData) (xs : List PyData), vs = [V.ref a] ∧ SqL K H a ws ∧ DpAll K H ws (x :: xs) ∧ PySem.W.AlikeAll (x :: xs) ∧ PyData.depthAll (x :: xs) ≤ 64 ∧
  ∀ (i : Nat) (w : V), ws[i]? = some w → (x :: xs)[i]? = some (PySem.W.minD x xs) → Q w H
theorem readsAll_get {h : Heap} : ∀ {us : List Value} {ds : List PyData} {as : List Addr} {i : Nat} {u : Value}, ReadsAll h us ds as → us[i]? = some u → ∃ d bs, ds[i]? = some d ∧ Reads h u d bs
  | _, _, _, i, u, .nil, e => by simp at e
  | _, _, _, 0, u, .cons r t, e => by
    simp at e
    subst e
    exact ⟨_, _, rfl, r⟩
  | _, _, _, i + 1, u, .cons r t, e => by
    obtain ⟨d, bs, h1, h2⟩ := readsAll_get (i := i) t (by simpa using e)
    exact ⟨d, bs, by simpa using h1, h2⟩
section
variable {K : PySem.W.Frag} {X : Cx}
theorem minPR (hc : X.calm = true) (hu : X.A.units + 66 < cLine) : CallR X (.builtin "min") (rMinP X.K) := by
  intro pins s σ H vs us Q I r h
  obtain ⟨a, ws, x, xs, rfl, hs, hd, al, dep, q⟩ := h
  rw [Vals.ref1 r]
  obtain ⟨its, rv, hl, _⟩ := I.list hs
  obtain ⟨as, ra⟩ := Dp.readsAll I _ _ _ hd rv
  refine PySem.W.min_list_data (I.ok.hd hc) hl.isList (by simpa using ra) al (by omega) fun i v h' tk bs e rd k => ?_
  have e' : its[i]? = some v := by simpa using e
  obtain ⟨d, cs, g1, g2⟩ := readsAll_get ra e'
  have hlen := rv.length
  have hi := (List.getElem?_eq_some_iff.mp e').1
  have hw : ws[i]? = some ws[i] := List.getElem?_eq_getElem (by omega)
  obtain ⟨u, eu, ru⟩ := rv.get hw
  rw [e'] at eu
  cases eu
  have same : d = PySem.W.minD x xs := (Reads.unique (PySem.W.reads_keeps k g2) _ _ rd).1
  subst same
  exact ⟨ws[i], H, I.kept k, ru, q i _ hw g1⟩
def minPs (m : List D) (Q : D → Prop) : Prop := ∃ x xs, toPyL m = some (x :: xs) ∧ PySem.W.AlikeAll (x :: xs) ∧ PyData.depthAll (x :: xs) ≤ 64 ∧ ∀ d ∈ m, toPy d = some (PySem.W.minD x xs) → Q d
@[simp ↓] def minPM : FM := fun l c Q => match l with
  | [.lst m] => minPs m fun d => Q d c
  | _ => False
theorem minPS : CallS K (rMinP K) minPM := by
  intro p c F H l vs Q' Q ok r h t
  unfold minPM at h
  split at h
  · rename_i m
    obtain ⟨v, rfl, a, ws, rfl, h1, rl⟩ := r.one
    obtain ⟨x, xs, e, al, dep, q⟩ := h
    refine ⟨a, ws, x, xs, rfl, .of (ok.sub _ _ h1), RepL.dp ok.sub rl e, al, dep, fun i w e1 e2 => ?_⟩
    have hi := (List.getElem?_eq_some_iff.mp e1).1
    have hi2 : i < m.length := by rw [← rl.len]; exact hi
    have hm : m[i]? = some m[i] := List.getElem?_eq_getElem hi2
    obtain ⟨w', y1, y2⟩ := rl.get hm
    rw [e1] at y1
    cases y1
    exact t _ c _ F H (Fwd.refl ..) ok y2 (q _ (List.mem_of_getElem? hm) (toPyL_get i _ _ e hm e2))
  · exact h.elim
end
abbrev ppD (p : Int × Int) : D := .tup [.int p.1, .int p.2]
theorem pairs_toPy : ∀ ps : List (Int × Int), toPyL (ps.map ppD) = some (ps.map fun p => PyData.tuple [.int p.1, .int p.2])
  | [] => rfl
  | p :: ps => by
    rw [List.map_cons, List.map_cons]
    simp only [toPyL, pairs_toPy ps]
    rfl
theorem minD_pairs : ∀ (ps : List (Int × Int)) (p : Int × Int), ∃ r ∈ p :: ps, PySem.W.minD (.tuple [.int p.1, .int p.2]) (ps.map fun p => PyData.tuple [.int p.1, .int p.2]) = .tuple [.int r.1, .int r.2] ∧ ∀ q ∈ p :: ps, r.1 < q.1 ∨ (r.1 = q.1 ∧ r.2 ≤ q.2)
  | [], p => ⟨p, List.mem_cons_self .., rfl, fun q hq => by simp at hq; subst hq; exact .inr ⟨rfl, Int.le_refl _⟩⟩
  | b :: ps, p => by
    have step : PySem.W.minD (.tuple [.int p.1, .int p.2]) ((b :: ps).map fun p => PyData.tuple [.int p.1, .int p.2]) = PySem.W.minD (if PySem.W.dataLt (.tuple [.int b.1, .int b.2]) (.tuple [.int p.1, .int p.2]) then .tuple [.int b.1, .int b.2] else .tuple [.int p.1, .int p.2]) (ps.map fun p => PyData.tuple [.int p.1, .int p.2]) := rfl
    rw [step, PySem.W.dataLt_ii]
    by_cases h : b.1 < p.1 ∨ (b.1 = p.1 ∧ b.2 < p.2)
    · rw [if_pos (decide_eq_true h)]
      obtain ⟨r, h1, h2, h3⟩ := minD_pairs ps b
      refine ⟨r, List.mem_cons_of_mem _ h1, h2, fun q hq => ?_⟩
      rcases List.mem_cons.mp hq with rfl | hq
      · have := h3 b (List.mem_cons_self ..)
        omega
      · exact h3 q hq
    · rw [if_neg (by simpa using h)]
      obtain ⟨r, h1, h2, h3⟩ := minD_pairs ps p
      refine ⟨r, (List.mem_cons.mp h1).elim (fun e => e ▸ List.mem_cons_self ..) fun z => List.mem_cons_of_mem _ (List.mem_cons_of_mem _ z), h2, fun q hq => ?_⟩
      rcases List.mem_cons.mp hq with rfl | hq
      · exact h3 q (List.mem_cons_self ..)
      · rcases List.mem_cons.mp hq with rfl | hq
        · have := h3 p (List.mem_cons_self ..)
          omega
        · exact h3 q (List.mem_cons_of_mem _ hq)
theorem minPs_pairs {p : Int × Int} {ps : List (Int × Int)} {Q : D → Prop} (q : ∀ r ∈ p :: ps, (∀ q ∈ p :: ps, r.1 < q.1 ∨ (r.1 = q.1 ∧ r.2 ≤ q.2)) → Q (ppD r)) : minPs ((p :: ps).map ppD) Q := by
  refine ⟨_, _, pairs_toPy (p :: ps), ?_, ?_, fun d hd e => ?_⟩
  · have h : ∀ x ∈ (p :: ps).map (fun p => PyData.tuple [.int p.1, .int p.2]), ∃ a b : Int, x = .tuple [.int a, .int b] := fun x hx => by
      obtain ⟨i, _, rfl⟩ := List.mem_map.mp hx
      exact ⟨_, _, rfl⟩
    refine ⟨fun x hx y hy => ?_, fun x hx => ?_⟩
    · obtain ⟨_, _, rfl⟩ := h x hx
      obtain ⟨_, _, rfl⟩ := h y hy
      rfl
    · obtain ⟨_, _, rfl⟩ := h x hx
      exact fun z => nomatch z
  · have : ∀ l : List (Int × Int), PyData.depthAll (l.map fun p => PyData.tuple [.int p.1, .int p.2]) ≤ 1 := by
      intro l
      induction l with
      | nil => exact Nat.zero_le _
      | cons a l ih =>
        show max (PyData.depth (.tuple [.int a.1, .int a.2])) (PyData.depthAll (l.map _)) ≤ 1
        have : PyData.depth (.tuple [.int a.1, .int a.2]) = 1 := by simp [PyData.depth, PyData.depthAll]
        omega
    exact Nat.le_trans (this (p :: ps)) (by decide)
  · obtain ⟨r, h1, h2, h3⟩ := minD_pairs ps p
    obtain ⟨b, hb, rfl⟩ := List.mem_map.mp hd
    have e : some (PyData.tuple [.int b.1, .int b.2]) = some (PySem.W.minD _ (ps.map _)) := e
    rw [h2] at e
    obtain ⟨b1, b2⟩ := b
    obtain ⟨r1, r2⟩ := r
    cases e
    exact q _ h1 h3
theorem u1_of {n : Nat} (h : n + 66 < cLine) : n + 1 < cLine := by omega
end L3

set_option maxHeartbeats 2000000
/-! L3F: min and max of three ints; sorted(ints, reverse=True). -/
namespace L3
open PySem PySem.Spec PyProof.Rows L2
@[simp ↓] def min3M : FM := fun l c Q => match l with
  | [.int i, .int j, .int k] => Q (.int (if k < (if j < i then j else i) then k else (if j < i then j else i))) c
  | _ => False
@[simp ↓] def max3M : FM := fun l c Q => match l with
  | [.int i, .int j, .int k] => Q (.int (if (if i < j then j else i) < k then k else (if i < j then j else i))) c
  | _ => False
section
variable {K : PySem.W.Frag} {X : Cx} {e : Expr} {fa : FE} {pos : Pos}
theorem RepL.int3 {p : Pn} {F : Hp} {i j k : Int} {vs : List V} (h : RepL K p F [.int i, .int j, .int k] vs) : vs = [.int i, .int j, .int k] := by
  obtain ⟨v, r, rfl, h1, h⟩ := h
  have := h.int2
  subst this
  cases (show v = .int i from h1)
  rfl
theorem min3S : CallS K (rNuC3 nuMin3) min3M := by
  intro p c F H l vs Q' Q ok r h t
  unfold min3M at h
  split at h
  · rename_i i j k
    refine ⟨_, _, _, V.int (if k < (if j < i then j else i) then k else (if j < i then j else i)), r.int3, ?_, tellI ok t h⟩
    show ((some (decide (j < i))).map fun c => if c = true then V.int j else V.int i).bind (fun m => nuMin2 m (.int k)) = _
    by_cases h1 : j < i
    · rw [decide_eq_true h1, if_pos h1]
      show (some (decide (k < j))).map (fun c => if c = true then V.int k else V.int j) = _
      by_cases h2 : k < j
      · rw [decide_eq_true h2, if_pos h2]; rfl
      · rw [decide_eq_false h2, if_neg h2]; rfl
    · rw [decide_eq_false h1, if_neg h1]
      show (some (decide (k < i))).map (fun c => if c = true then V.int k else V.int i) = _
      by_cases h2 : k < i
      · rw [decide_eq_true h2, if_pos h2]; rfl
      · rw [decide_eq_false h2, if_neg h2]; rfl
  · exact h.elim
theorem max3S : CallS K (rNuC3 nuMax3) max3M := by
  intro p c F H l vs Q' Q ok r h t
  unfold max3M at h
  split at h
  · rename_i i j k
    refine ⟨_, _, _, V.int (if (if i < j then j else i) < k then k else (if i < j then j else i)), r.int3, ?_, tellI ok t h⟩
    show ((some (decide (i < j))).map fun c => if c = true then V.int j else V.int i).bind (fun m => nuMax2 m (.int k)) = _
    by_cases h1 : i < j
    · rw [decide_eq_true h1, if_pos h1]
      show (some (decide (j < k))).map (fun c => if c = true then V.int k else V.int j) = _
      by_cases h2 : j < k
      · rw [decide_eq_true h2, if_pos h2]; rfl
      · rw [decide_eq_false h2, if_neg h2]; rfl
    · rw [decide_eq_false h1, if_neg h1]
      show (some (decide (i < k))).map (fun c => if c = true then V.int k else V.int i) = _
      by_cases h2 : i < k
      · rw [decide_eq_true h2, if_pos h2]; rfl
      · rw [decide_eq_false h2, if_neg h2]; rfl
  · exact h.elim
@[simp ↓] def fSortR (fa : FE) : FL := fun ρ c Q => fa ρ c fun x c => match x with
  | .lst l => ∃ ns, intsOf l = some ns ∧ ∀ ns' : List Int, ns'.Perm ns → ns'.Pairwise (· ≥ ·) → Q (ns'.map D.int) c
  | _ => False
theorem fx_sortR (hm : X.mg "sorted" = none) (ha : EX X e fa) {bp kp : Pos} {kk : Nat} (hg : Gl X "sorted" := by rfl) (hs : starEach [e] X.env = (false, eval e X.env) :: starEach [] X.env := by rfl)
    (he : backTo pos (starEach [e] X.env) = (false, eval e X.env) :: backTo pos (starEach [] X.env) := by rfl) (hpl : (backTo pos (starEach [e] X.env)).any (·.1) = false := by rfl)
    (hall : (backToKw pos (keywordEach [⟨some "reverse", .Constant (.bool true) kk bp, kp⟩] X.env)).all (·.1.isSome) = true := by rfl) (hnone : (backToKw pos (keywordEach [⟨some "reverse", .Constant (.bool true) kk bp, kp⟩] X.env)).any (·.1.isNone) = false := by rfl) (hks : (backToKw pos (keywordEach [⟨some "reverse", .Constant (.bool true) kk bp, kp⟩] X.env)).filterMap (·.1) = [Str.ofString "reverse"] := by rfl) {p : Pos} :
    FX X (.Call (.Name "sorted" p) [e] [⟨some "reverse", .Constant (.bool true) kk bp, kp⟩] pos) (fSortR fa) := PE.imp (pe_callBK cr_sortedRev hg hm (by decide +kernel) (pa_cons ha pa_nil hs) (pk_cons pe_bl pk_nil) (by decide) (by decide) he hpl hall hnone hks) fun σ H Q ⟨p, c, ρ, F, Q', es, h, t⟩ =>
  ⟨p, c, ρ, F, _, es, h, fun d c1 v F1 H1 w1 ok1 r1 q1 => by
    split at q1
    · obtain ⟨a, xs, rfl, h1, rl⟩ := r1
      obtain ⟨ns, e1, e3⟩ := q1
      refine ⟨a, ns, rfl, rfl, by rw [← RepL.ints rl e1]; exact .of (ok1.sub _ _ h1), fun ns' q hp hs nq => ?_⟩
      obtain ⟨w, ok, n1, n2, n3⟩ := layL w1 ok1 nq (ns'.map V.int)
      exact t _ c1 q _ F1 _ w ok n1 n2 n3 upd_same (rep_ints ns') (e3 ns' hp hs)
    · exact q1.elim⟩
end
end L3

set_option maxHeartbeats 2000000
/-! L4A: sorted of a tuple: ints, data, by a key. -/
namespace L4
open PySem PySem.W PySem.Calls PyProof.Rows
section
variable {prog : Program} {w : World} {A : Around} {E : Value → Shared → Prop} {s : Shared}
theorem collect_tup {t : Addr} {its : List Value} {Q : List Value → Shared → Prop} (ht : IsTup s.heap t its.toArray) (hz : its.length ≤ sizeLine)
    (h : Q its { s with heap := (s.heap.push (seqObj "list" #[] 0)).update s.heap.objs.size (Obj.mapSeq (· ++ its.toArray)) }) : wpAny (model prog w) A (collect (.ref t)) Q E s := by
  obtain ⟨ob, g1, g2, m, g3⟩ := id ht
  have g1' : (s.heap.push (seqObj "list" #[] 0)).get? t = some ob := Heap.get?_push_of_some _ g1
  have new : (s.heap.push (seqObj "list" #[] 0)).get? s.heap.objs.size = some (seqObj "list" #[] 0) := Heap.get?_push_size _ rfl
  unfold collect
  refine wpAny_bind (wpAny_runValue (codeAny_builtin entry_proto_collect' ?_))
  change wpAny _ _ (do again (.builtin "list.__iadd__" ⟨[← newList [], .ref t], []⟩)) _ _ s
  refine wpAny_bind (wpAny_newList (wpAny_pure ⟨Code.quiet_builtin _ (by decide +kernel), codeAny_builtin entry_list_iadd' ?_⟩))
  change wpAny _ _ (Builtin.List.listExtendWith (.ref s.heap.objs.size) (.ref t) (.ref s.heap.objs.size)) _ _ { s with heap := s.heap.push (seqObj "list" #[] 0) }
  unfold Builtin.List.listExtendWith
  refine wpAny_bind (wpAny_typeOf (T := "tuple") ⟨ob, g1', g2⟩ ?_)
  rw [if_pos (by rw [show (Value.type "tuple" == Value.type "tuple") = true by rfl]; simp)]
  refine wpAny_bind (listItems_at g1' g3 (wpAny_bind (listItems_at (xs := #[]) (n := 0) new rfl ?_)))
  rw [if_neg (by simp)]
  refine wpAny_bind (listUpdate_at (xs := #[]) (n := 0) new rfl ?_ (Nat.zero_le _) (by change (#[] ++ its.toArray).size ≤ sizeLine + 1; simp only [Array.size_append, List.size_toArray, List.length_nil]; omega))
  refine wpAny_pure ?_
  change wpAny (model prog w) A (do let o ← load s.heap.objs.size; match o.data with | .seq xs _ => pure xs.toList | _ => unsupported "internal:collect") Q E { s with heap := (s.heap.push (seqObj "list" #[] 0)).update s.heap.objs.size (Obj.mapSeq (· ++ its.toArray)) }
  refine wpAny_bind (wpAny_load (get?_update_seq new _) ?_)
  change wpAny _ _ (pure ((#[] : Array Value) ++ its.toArray).toList) Q E _
  rw [show ((#[] : Array Value) ++ its.toArray).toList = its by simp]
  exact wpAny_pure h
theorem sorted_tup {t : Addr} {its : List Value} {kw : List (Str × Value)} {Q : Value → Shared → Prop} (ht : IsTup s.heap t its.toArray) (hz : its.length ≤ sizeLine) (ha1 : argsOk "sorted" ⟨[.ref t], kw⟩) (ha2 : ∀ x, argsOk "list.sort" ⟨[.ref x], kw⟩)
    (body : ∀ E' : Value → Shared → Prop, wpAny (model prog w) A.in1.in1 (Builtin.«list.sort» ⟨[.ref (s.heap.objs.size + 1)], kw⟩) (fun f s' => f = .done (.ret .none) ∧ Q (.ref (s.heap.objs.size + 1)) s') E' { s with heap := copyHeap s.heap its }) :
    wpAny (model prog w) A (call (.builtin "sorted") [.ref t] kw) Q E s := by
  refine call_function_entry_kw kind_sorted plain_sorted entry_sorted ha1 ?_
  unfold Builtin.«sorted»
  refine wpAny_bind (m := checkCount "sorted" 1 1 _) (wpAny_pure (wpAny_bind (collect_tup ht hz (wpAny_bind (wpAny_newList ?_ hz)))))
  have z : ((s.heap.push (seqObj "list" #[] 0)).update s.heap.objs.size (Obj.mapSeq (· ++ its.toArray))).objs.size = s.heap.objs.size + 1 := by rw [Heap.size_update, size_push']
  change wpAny _ _ _ _ _ { s with heap := copyHeap s.heap its }
  rw [z]
  refine wpAny_bind (wpAny_holding (wpAny_call_entry_kw slot_list_sort ⟨_, copyHeap_at s.heap its, rfl⟩ entry_list_sort (wpAny_mono (body _) (fun f s' hf => ?_) fun _ _ e => e) (ha2 _)))
  obtain ⟨e, q⟩ := hf
  subst e
  exact ⟨_, rfl, wpAny_pure ⟨_, rfl, q⟩⟩
end
section
variable {prog : Program} {w : World} {A : Around} {E : Value → Shared → Prop} {s : Shared} {β : Type} {vs : List Value} {bs : List β} {R : Value → β → Prop}
/-- sorted(t, key=f), t a tuple -/
theorem sorted_key_tup {t : Addr} {f : Value} {kw : List (Str × Value)} {b : Bool} {Q : Value → Shared → Prop} (k : β → PyData) (ht : IsTup s.heap t vs.toArray) (e : EachIs R vs bs) (hal : AllAlike (bs.map k)) (hk : Sortable (bs.map k)) (hL : bs.length ≤ sizeLine)
    (hu : ∀ x, x ∈ bs → A.units + 2 + (k x).depth < cLine) (ha1 : argsOk "sorted" ⟨[.ref t], kw⟩) (ha2 : ∀ x, argsOk "list.sort" ⟨[.ref x], kw⟩) (hs : ∀ x, Builtin.«list.sort» ⟨[.ref x], kw⟩ = ksk_tree x f b)
    (turn : ∀ (v : Value) (x : β), R v x → x ∈ bs → ∀ (h : Heap) (tk : Nat), (∀ b o, s.heap.get? b = some o → h.get? b = some o) → wpAny (model prog w) A.in1.in1 (call f [v]) (KeyPure (k x) { s with heap := h, toks := tk }) (fun _ _ => False) { s with heap := h, toks := tk })
    (h : ∀ out c h' tk, (∀ b o, s.heap.get? b = some o → h'.get? b = some o) → s.heap.get? (s.heap.objs.size + 1) = none → h'.get? (s.heap.objs.size + 1) = some (seqObj "list" (List.toArray out) c) → out.length = bs.length → EachIs R out (bs.mergeSort (dataLe b k)) → Q (.ref (s.heap.objs.size + 1)) { s with heap := h', toks := tk }) :
    wpAny (model prog w) A (call (.builtin "sorted") [.ref t] kw) Q E s := by
  have new : s.heap.get? (s.heap.objs.size + 1) = none := Heap.get?_none_of_le (Nat.le_succ _)
  have up : ∀ {g : Heap}, KeepsBut (s.heap.objs.size + 1) (copyHeap s.heap vs) g → ∀ b o, s.heap.get? b = some o → g.get? b = some o := fun {g} kp b o q => kp b o (Nat.ne_of_lt (Nat.lt_succ_of_lt (Heap.lt_size q))) (copyHeap_old q)
  have el := e.length
  have el2 : (bs.map k).length = vs.length := by rw [List.length_map, el]
  refine sorted_tup ht (by rw [el]; exact hL) ha1 ha2 fun E' => (hs _ ▸ ?_)
  refine keyH_tree (kz := bs.map k) (s := { s with heap := copyHeap s.heap vs }) (copyHeap_at s.heap vs) el2 (by rw [el]; exact hL) hal hk (bound_map (A := A.in1.in1) hu) (keyH_turns (s := { s with heap := copyHeap s.heap vs }) e fun v x hR hx h tk kp => turn v x hR hx h tk (up kp)) fun h' tk out c kp hD ko => ⟨rfl, ?_⟩
  exact h out c h' tk (up kp) new hD ((ko.length el2).trans el) (keyedOut_each k ko e)
/-- sorted(t), t a tuple -/
theorem sorted_data_tup {t : Addr} {enc : β → PyData} {Q : Value → Shared → Prop} (ht : IsTup s.heap t vs.toArray) (e : EachIs R vs bs) (er : EachIs (fun v b => ∃ as, Reads s.heap v (enc b) as) vs bs) (hal : AllAlike (bs.map enc)) (hk : Sortable (bs.map enc)) (hL : bs.length ≤ sizeLine)
    (hu : ∀ b, b ∈ bs → A.units + 2 + (enc b).depth < cLine) (h : ∀ out, out.length = bs.length → EachIs R out (bs.mergeSort (dataLe false enc)) → Q (.ref (s.heap.objs.size + 1)) { s with heap := sortedAll s.heap vs (List.toArray out) }) : wpAny (model prog w) A (call (.builtin "sorted") [.ref t]) Q E s := by
  have er' : EachIs (fun v b => ∃ as, Reads (sortingHeap (copyHeap s.heap vs) (s.heap.objs.size + 1) vs) v (enc b) as) vs bs := er.mono fun _ _ ⟨as, r⟩ => ⟨as, PyProof.Rows.Reads.keeps (fun _ _ => sorting_copy_old) r⟩
  have S := SortsAt.data (prog := prog) (w := w) (A := A.in1.in1) (s := { s with heap := sortingHeap (copyHeap s.heap vs) (s.heap.objs.size + 1) vs }) (each_map (R := fun v d => ∃ as, Reads (sortingHeap (copyHeap s.heap vs) (s.heap.objs.size + 1) vs) v d as) enc er') hal hk (bound_map hu)
  have hz : vs.length ≤ sizeLine := by rw [e.length]; exact hL
  have hq := h _ (by rw [sortVals_length false rfl]; exact e.length) (sortVals_data false e er' hal)
  exact sorted_tup ht hz (args_sorted1 _) (fun _ => args_list_sort _) fun _ => list_sort_vals (s := { s with heap := copyHeap s.heap vs }) (copyHeap_at s.heap vs) S hz ⟨rfl, hq⟩
end
end L4
namespace L3
open PySem PySem.Spec PyProof.Rows L2
def fSortKT (fa : FE) (k : FK) : FL := fun ρ c Q => fa ρ c fun x c => match x with
  | .tup l => ∃ key : D → PyData, (∀ d ∈ l, noLst d = true ∧ (toPy d).isSome = true ∧ k (ρ ++ [some d]) = some (key d) ∧ (key d).depth ≤ 64) ∧ PySem.W.AllAlike (l.map key) ∧ PySem.W.Sortable (l.map key) ∧ l.length ≤ 16777216 ∧ Q (l.mergeSort (PySem.W.dataLe false key)) c
  | _ => False
section
variable {X : Cx} {e : Expr} {fa : FE} {k : FK} {h : Str} {N2 : List Str}
theorem fx_sortKT {c0 P : Addr} {params : Arguments} {body : Expr} {scope : Scope} {p1 lpos kpos pos : Pos} (hm : X.mg "sorted" = none) (ha : EX X e fa) (TB : LamX.TabB X.base X.mg c0 P) (hcode : X.env.code = .ref c0)
    (hmT : (P, X.env.qual ++ "<lambda>") ∈ tabs0) (hu : ∀ p ∈ tabs0, p.1 = P → p.2 = X.env.qual ++ "<lambda>") (hroom : X.A.depth < recursionLimit) (hun : X.A.units + 66 < cLine) (L : LamS1 X.env.scope scope h) (hnew : Mask scope h X.N N2) (hdef : defaultsOf params X.env = ([], []))
    (hbind : ∀ (cl : List (Str × Addr)) (pm cv ctv u : Value), bindArgs (PySem.W.kla_fn "<lambda>" (X.env.qual ++ "<lambda>") params body scope cl pm cv ctv) ⟨[u], []⟩ = pure [(h, u)])
    (kx : KX X N2 scope h body k) (hg : Gl X "sorted" := by rfl) (hs : starEach [e] X.env = (false, eval e X.env) :: starEach [] X.env := by rfl)
    (he : backTo pos (starEach [e] X.env) = (false, eval e X.env) :: backTo pos (starEach [] X.env) := by rfl) (hpl : (backTo pos (starEach [e] X.env)).any (·.1) = false := by rfl)
    (hkw : backToKw pos (keywordEach [⟨some "key", .Lambda params body scope lpos, kpos⟩] X.env) = [(some (Str.ofString "key"), do let v ← eval (.Lambda params body scope lpos) X.env; standAt pos; pure v)] := by rfl) :
    FX X (.Call (.Name "sorted" p1) [e] [⟨some "key", .Lambda params body scope lpos, kpos⟩] pos) (fSortKT fa k) := by
  refine ⟨fun pins s σ H Q I ⟨p, c, ρ, F, Q', est, hq, t⟩ => ?_⟩
  refine wpAny_Call_Name_kw (ld_blt I hg hm boot_sorted3 ?_)
  refine PyProof.Rows.callWith_kw (thn ((pa_cons ha pa_nil hs).run pos pins s σ H (fun vs H1 => ∃ d c1 F1 v, vs = [v] ∧ Fwd p F H F1 H1 ∧ Ok3 p c1 F1 H1 ∧ Rep X.K p F1 d v ∧ (match d with
      | .tup l => ∃ key : D → PyData, (∀ d ∈ l, noLst d = true ∧ (toPy d).isSome = true ∧ k (ρ ++ [some d]) = some (key d) ∧ (key d).depth ≤ 64) ∧ PySem.W.AllAlike (l.map key) ∧ PySem.W.Sortable (l.map key) ∧ l.length ≤ 16777216 ∧ Q' (l.mergeSort (PySem.W.dataLe false key)) c1
      | _ => False)) I ⟨p, c, ρ, F, _, est, hq, fun d c1 v F1 H1 w1 ok1 r1 q1 => ⟨d, c1, F1, v, rfl, w1, ok1, r1, q1⟩⟩) fun us s1 ⟨vs, H1, I1, rv, d, c1, F1, v, ev, w1, ok1, r1, q1⟩ => ?_) he hpl (by rw [hkw]; rfl) (by rw [hkw]; rfl)
  subst ev
  rw [hkw]
  have hasC : ∀ y ∈ scope.names, y.2 = .free → ∃ c, X.env.cells.lookup y.1 = some c := fun y hy e => (L.free y hy e).elim (fun k => I.ok.has _ (.inl k)) (fun k => I.ok.has _ (.inr k))
  show wpAny _ _ (evalAll [do let v ← eval (.Lambda params body scope lpos) X.env; standAt pos; pure v]) _ _ s1
  refine wpAny_evalAll_cons (wpAny_bind (lam_made I1 TB hcode hmT hu ok1.tab.tabs hdef hasC fun f c' pm ctv H2 s2 I2 eN th T1 hco => wpAny_bind (wpAny_standAt (wpAny_pure (wpAny_evalAll_nil ?_)))))
  have w2 : Fwd p F1 H1 F1 H2 := ⟨fun _ _ z => z, fun b o z _ t => eN b o z t, fun _ _ z => .inl z, th⟩
  have ok2 : Ok3 p c1 F1 H2 := ⟨fun b o z => eN b o (ok1.sub b o z) (fun ps e => ok1.nt.t b ps (e ▸ z)), fun b z => by
      obtain ⟨⟨x, y, z, q, r⟩, nn⟩ := ok1.pot b z
      exact ⟨⟨x, y, z, eN _ _ q (fun _ z => nomatch z), r⟩, nn⟩, ⟨T1, fun q hq => eN _ _ (ok1.tab.cod q hq) LamX.codeO_ne⟩, ok1.nt⟩
  split at q1
  · rename_i l
    obtain ⟨key, hk, hal, hso, hlen, q1⟩ := q1
    obtain ⟨a, xs, rfl, h1, rl⟩ := r1
    obtain ⟨z1, z2, z3⟩ := zipV_of rl
    have est2 := est.fwd (w1.trans w2) ok2
    rw [Vals.ref1 rv]
    obtain ⟨its, rits, hl, hz⟩ := I2.tuple (ok2.sqT h1)
    have rits' : Vals ((zipV l xs).map (·.2)) its := by rw [z2]; exact rits
    have e := eachV rits'
    have ek : (zipV l xs).map (fun b => key b.1) = l.map key := by
      rw [← z1, List.map_map, z1]
      rfl
    show wpAny _ _ (call (.builtin "sorted") [.ref a] [(Str.ofString "key", .ref f)]) _ _ s2
    refine L4.sorted_key_tup (b := false) (fun b : D × V => key b.1) hl e (by rw [ek]; exact hal) (by rw [ek]; exact hso) ?_ (fun b hb => ?_) (PyProof.Rows.ksk_s1 _ _) (fun _ => PyProof.Rows.ksk_l1 _ _) (fun _ => PyProof.Rows.ksk_t1 _ _) (fun u b ru hb g tk up => ?_) fun out cc h' tk up hfr hD hlo eo => ?_
    · have := congrArg List.length z1
      rw [List.length_map] at this
      rw [this, line16]
      exact hlen
    · have hb' : b.1 ∈ l := by rw [← z1]; exact List.mem_map.mpr ⟨b, hb, rfl⟩
      have := (hk _ hb').2.2.2
      omega
    · have hb' : b.1 ∈ l := by rw [← z1]; exact List.mem_map.mpr ⟨b, hb, rfl⟩
      obtain ⟨k1, k2, k3, _⟩ := hk _ hb'
      obtain ⟨pd, hpd⟩ := Option.isSome_iff_exists.mp k2
      exact key_run (A := X.A.in1.in1) I2 L hnew est2 hco (fun u => hbind _ _ _ _ u) hroom kx (z3 b hb) ru k1 k3 hpd g tk up
    · have ds : ((zipV l xs).mergeSort (PySem.W.dataLe false fun b => key b.1)).map (·.1) = l.mergeSort (PySem.W.dataLe false key) := by
        have q := List.map_mergeSort (f := fun b : D × V => b.1) (r := PySem.W.dataLe false fun b : D × V => key b.1) (s := PySem.W.dataLe false key) (l := zipV l xs) (fun _ _ _ _ => rfl)
        rw [z1] at q
        exact q
      have nH : H2 (s2.heap.objs.size + 1) = none := I2.hok.fresh (Nat.le_succ _)
      obtain ⟨w3, ok3, n1, n2, n3⟩ := layL (w1.trans w2) ok2 nH (((zipV l xs).mergeSort (PySem.W.dataLe false fun b => key b.1)).map (·.2))
      have J := I2.laid (t' := tk) (o := .lst (((zipV l xs).mergeSort (PySem.W.dataLe false fun b => key b.1)).map (·.2))) up (Nat.le_succ _) ⟨by
        rw [List.length_map, (List.mergeSort_perm _ _).length_eq]
        have := congrArg List.length z1
        rw [List.length_map] at this
        rw [this, line16]
        exact hlen, out, cc, valsV eo, hD⟩
      refine ⟨.ref _, _, pin_off J, rfl, ?_⟩
      refine t (l.mergeSort (PySem.W.dataLe false key)) c1 _ _ F1 _ w3 ok3 n1 n2 n3 upd_same ?_ q1
      rw [← ds]
      exact repV _ fun b hb => z3 b ((List.mergeSort_perm _ _).mem_iff.mp hb)
  · exact q1.elim
/-- tuple(range(n)) -/
@[simp ↓] def eTupR (fa : FA) : FE := fun ρ c Q => fa ρ c fun l c => match l with
  | [.int j] => (0 ≤ j ∧ j ≤ 16777216) ∧ Q (.tup (rangeL 0 j.toNat)) c
  | _ => False
theorem ex_tupR {x : Expr} {p p2 p3 pos : Pos} (hm : X.mg "tuple" = none) (hm2 : X.mg "range" = none) (hx : EX X x fa) (hc : X.calm = true := by rfl) (hg : Gl X "tuple" := by rfl) (hg2 : Gl X "range" := by rfl)
    (na : starEach [x] X.env = (false, eval x X.env) :: starEach [] X.env := by rfl) (na2 : starEach [.Call (.Name "range" p) [x] [] p2] X.env = (false, eval (.Call (.Name "range" p) [x] [] p2) X.env) :: starEach [] X.env := by rfl) :
    EX X (.Call (.Name "tuple" p3) [.Call (.Name "range" p) [x] [] p2] [] pos) (eTupR (aCons fa aNil)) := PE.imp (pe_tupRg hc hg hm (prg_1 hg2 hm2 hx na) na2) fun σ H Q ⟨p, c, ρ, F, Q', es, h, t⟩ =>
  ⟨p, c, ρ, F, _, es, h, fun d c1 v F1 H1 w1 ok1 r1 q1 => by
    have q1 : (match [d] with | [.int j] => (0 ≤ j ∧ j ≤ 16777216) ∧ Q' (.tup (rangeL 0 j.toNat)) c1 | _ => False) := q1
    split at q1
    · rename_i j e
      cases e
      cases (show v = .int j from r1)
      refine ⟨j, rfl, ⟨by decide, by decide, by omega, by omega, by omega⟩, ?_⟩
      refine tellNewT ok1 (t.fwd w1) ?_ q1.2
      unfold rgV rangeL
      rw [show j - 0 = j by omega]
      exact rep_rg 0 _
    · exact q1.elim⟩
end
end L3

set_option maxHeartbeats 2000000
/-! L4B: min of two data. -/
namespace L4
open PySem PySem.W
section
variable {prog : Program} {w : World} {A : Around} {E : Value → Shared → Prop} {s : Shared}
theorem call_min_twoH {a b : Value} {Q : Value → Shared → Prop}
    (h : wpAny (model prog w) A.in1 (pyIter (.ref s.heap.objs.size)) (fun it s₂ => ∃ I fp wr G n P St H bt, it = .ref I ∧ WalksS prog w A.in1 I fp wr G n P St ∧ St 0 s₂ ∧ (∀ b ∈ fp, b < s₂.heap.objs.size) ∧ 0 < n ∧
      (∀ b o, H.get? b = some o → b ∉ wr) ∧ (∀ b o, H.get? b = some o → s₂.heap.get? b = some o) ∧ CmpIn prog w A.in1 .Lt H P bt ∧ ∀ v s', P (argBest bt (n - 1)) v → Moved wr G s₂ s' → Q v s') E { s with heap := s.heap.push { cls := .type "tuple", data := .seq #[a, b] } }) :
    wpAny (model prog w) A (call (.builtin "min") [a, b]) Q E s := by
  have hname : (toString "min" ++ toString ".loop" : String) = "min.loop" := by decide
  refine call_function_tree F.kind_min F.plain_min F.entry_min (F.args_min2 _ _) ?_
  show wpAny _ A.in1 (Builtin.Builtins.bindParams "min" ["key", "default"] 0 ⟨[], []⟩ >>= _) _ _ s
  refine wpAny_bind (wpAny_of_eq (show Builtin.Builtins.bindParams "min" ["key", "default"] 0 ⟨[], []⟩ = pure [none, none] from rfl) ?_)
  show wpAny _ A.in1 (newTuple [a, b] >>= _) _ _ s
  refine wpAny_bind (wpAny_newObj_type ?_)
  refine wpAny_bind (wpAny_mono h (fun it s₂ h₂ => ?_) fun _ _ e => e)
  obtain ⟨I, fp, wr, G, n, P, St, H, bt, rfl, W, hst, hfp, hn, hw, hkeep, hcmp, hQ⟩ := h₂
  refine wpAny_bind (wpAny_newObj_type ?_)
  have hSf : s₂.heap.objs.size ∉ fp := fun hm => Nat.lt_irrefl _ (hfp _ hm)
  rw [hname]
  refine wpAny_pure ⟨plainId_quiet F.plain_min_loop _, codeAny_min_loop_firstH W H hw bt hcmp s₂.heap.objs.size hSf (fresh_in hkeep) _ hn (fun b o e => Heap.get?_push_of_some _ (hkeep b o e)) (W.frame 0 s₂ _ s₂.toks hst (Nat.le_refl _) fun b _ o e => Heap.get?_push_of_some _ e) (Heap.get?_push_size _ rfl) fun v s' hP hm => ?_⟩
  exact hQ v s' hP (Moved.drop_new (tk := s₂.toks) hm (Nat.le_refl _))
theorem min_two_data {a b : Value} {x y : PyData} {as : List Addr} {Q : Value → Shared → Prop} (hh : A.handled = none) (hr : ReadsAll s.heap [a, b] [x, y] as) (ha : AlikeAll [x, y]) (hu : A.units + 1 + PyData.depthAll [x, y] < cLine)
    (h : ∀ h' tk, (∀ b o, s.heap.get? b = some o → h'.get? b = some o) → Q (if dataLt y x then b else a) { s with heap := h', toks := tk }) :
    wpAny (model prog w) A (call (.builtin "min") [a, b]) Q E s := by
  have hk0 : ∀ c o, s.heap.get? c = some o → (s.heap.push { cls := .type "tuple", data := .seq #[a, b] }).get? c = some o := fun c o e => Heap.get?_push_of_some _ e
  have hT : (s.heap.push { cls := .type "tuple", data := .seq #[a, b] }).IsTuple s.heap.objs.size #[a, b] := ⟨_, Heap.get?_push_size _ rfl, rfl, 0, rfl⟩
  refine call_min_twoH (iter_tupleW (A := A.in1) (s := { s with heap := s.heap.push { cls := .type "tuple", data := .seq #[a, b] } }) hh hT fun s₂ e W st hfp hw hk => ?_)
  have hr' : ReadsAll (s.heap.push { cls := .type "tuple", data := .seq #[a, b] }) #[a, b].toList [x, y] as := PyProof.Rows.ReadsAll.keeps hk0 hr
  refine ⟨_, _, _, _, _, _, _, _, _, rfl, W, st, hfp, (by show 0 < 2; decide), hw, hk, cmpIn_lt (A := A.in1) hr' ha (by show A.units + 1 + _ < _; exact hu), fun v s' hP m => ?_⟩
  obtain ⟨h', tk, rfl, hk'⟩ := moved_old e rfl m
  have hv : v = if dataLt y x then b else a := by
    have hP' : #[a, b][argBest (fun i j => dataLt ([x, y].getD i .none) ([x, y].getD j .none)) 1]? = some v := hP
    by_cases hb : dataLt y x = true
    · have e1 : argBest (fun i j => dataLt ([x, y].getD i .none) ([x, y].getD j .none)) 1 = 1 := by simp [argBest, hb]
      rw [e1] at hP'
      rw [if_pos hb]
      exact (by simpa using hP'.symm)
    · have e1 : argBest (fun i j => dataLt ([x, y].getD i .none) ([x, y].getD j .none)) 1 = 0 := by simp [argBest, hb]
      rw [e1] at hP'
      rw [if_neg hb]
      exact (by simpa using hP'.symm)
  rw [hv]
  exact h h' tk fun c o e => hk' c o (hk0 c o e)
end
end L4
namespace L3
open PySem PySem.Spec PyProof.Rows L2
def rMin2D (K : PySem.W.Frag) : List V → Hp → VK → Prop := fun vs H Q => ∃ (a b : V) (x y : PyData), vs = [a, b] ∧ DpAll K H [a, b] [x, y] ∧ PySem.W.AlikeAll [x, y] ∧ PyData.depthAll [x, y] ≤ 64 ∧ Q (if PySem.W.dataLt y x then b else a) H
section
variable {K : PySem.W.Frag} {X : Cx}
theorem min2DR (hc : X.calm = true) (hu : X.A.units + 66 < cLine) : CallR X (.builtin "min") (rMin2D X.K) := by
  intro pins s σ H vs us Q I r h
  obtain ⟨a, b, x, y, rfl, hd, al, dep, q⟩ := h
  obtain ⟨u, w', rfl, ru, rw'⟩ := vals2 r
  obtain ⟨as, ra⟩ := Dp.readsAll I _ _ _ hd r
  refine L4.min_two_data (I.ok.hd hc) ra al (by omega) fun h' tk k => ⟨_, H, I.kept k, ?_, q⟩
  by_cases hb : PySem.W.dataLt y x = true
  · rw [if_pos hb, if_pos hb]; exact rw'
  · rw [if_neg hb, if_neg hb]; exact ru
@[simp ↓] def min2DM : FM := fun l c Q => match l with
  | [x, y] => ∃ p q, toPy x = some p ∧ toPy y = some q ∧ PySem.W.AlikeAll [p, q] ∧ PyData.depthAll [p, q] ≤ 64 ∧ Q (if PySem.W.dataLt q p then y else x) c
  | _ => False
theorem min2DS : CallS K (rMin2D K) min2DM := by
  intro p c F H l vs Q' Q ok r h t
  unfold min2DM at h
  split at h
  · rename_i x y
    obtain ⟨p', q', e1, e2, al, dep, q⟩ := h
    obtain ⟨va, vb, rfl, ra, rb⟩ := r.two
    refine ⟨va, vb, p', q', rfl, RepL.dp ok.sub r (by unfold toPyL; rw [e1]; unfold toPyL; rw [e2]; rfl), al, dep, ?_⟩
    by_cases hb : PySem.W.dataLt q' p' = true
    · rw [if_pos hb] at q ⊢
      exact t _ c _ F H (Fwd.refl ..) ok rb q
    · rw [if_neg hb] at q ⊢
      exact t _ c _ F H (Fwd.refl ..) ok ra q
  · exact h.elim
end
end L3
namespace L3
open PySem PySem.Spec PyProof.Rows L2
/-! l.index(x): data at any depth -/
section
variable {K : PySem.W.Frag} {X : Cx} {o e : Expr} {fa fb : FE} {pos apos : Pos}
def indexAt (l : List D) (x : D) (c : Nat) (Q : KD) : Prop := (pyD 64 x = true ∧ pyDL 63 l = true) ∧ ∃ j : Nat, (∃ z, l[j]? = some z ∧ eqvD z x = true) ∧ (∀ (m : Nat) (z : D), m < j → l[m]? = some z → eqvD z x = false) ∧ Q (.int (j : Nat)) c
@[simp ↓] def eIndex (fa fb : FE) : FE := fun ρ c Q => fa ρ c fun x c => match x with
  | .lst l => fb ρ c fun y c => indexAt l y c Q
  | _ => False
theorem toPyL_at : ∀ {l : List D} {ds : List PyData} {j : Nat} {z : PyData}, toPyL l = some ds → ds[j]? = some z → ∃ d, l[j]? = some d ∧ toPy d = some z
  | [], _, j, z, h, e => by
    simp [toPyL] at h
    subst h
    simp at e
  | y :: l, _, j, z, h, e => by
    unfold toPyL at h
    split at h
    · rename_i e1 r a1 a2
      cases h
      cases j with
      | zero =>
        have : e1 = z := by simpa using e
        subst this
        exact ⟨y, rfl, a1⟩
      | succ j => exact toPyL_at (l := l) (j := j) a2 (by simpa using e)
    · cases h
theorem toPyL_fwd : ∀ {l : List D} {ds : List PyData} {j : Nat} {d : D}, toPyL l = some ds → l[j]? = some d → ∃ z, ds[j]? = some z ∧ toPy d = some z
  | [], _, j, z, h, e => by simp at e
  | y :: l, _, j, z, h, e => by
    unfold toPyL at h
    split at h
    · rename_i e1 r a1 a2
      cases h
      cases j with
      | zero =>
        have : y = z := by simpa using e
        subst this
        exact ⟨e1, rfl, a1⟩
      | succ j => exact toPyL_fwd (l := l) (j := j) a2 (by simpa using e)
    · cases h
theorem ex_index (hu : X.A.units + 65 < cLine) (ho : EX X o fa) (ha : EX X e fb)
    (hbase : attributeBase o "index" X.env (eval o X.env) = eval o X.env := by rfl)
    (hfew : ((backTo pos (starEach [e] X.env)).all (fun x => !x.1) && (backToKw pos (keywordEach [] X.env)).all (fun x => x.1.isSome)
      && decide (([e] : List Expr).length + ([] : List Keyword).length + (if ([] : List Keyword).isEmpty then 0 else 1) < 30)) = true := by rfl)
    (hline : (apos.endLine == pos.line) = true := by rfl) (hs : starEach [e] X.env = (false, eval e X.env) :: starEach [] X.env := by rfl) :
    EX X (.Call (.Attribute o "index" apos) [e] [] pos) (eIndex fa fb) :=
  PE.imp (pe_bm PySem.F.plainAttrs_list PySem.F.slot_list_index PySem.F.type_list_index (mt_indexD hu) ho (pa_cons ha pa_nil (hs := hs)) hbase hfew hline hs) fun σ H Q ⟨p, c, ρ, F, Q', es, h, t⟩ =>
  ⟨p, c, ρ, F, _, es, h, fun x c1 v F1 H1 w1 ok1 r1 q1 => by
    split at q1
    · rename_i l
      obtain ⟨a, xs, rfl, e1, rl⟩ := r1
      refine ⟨.inl ⟨rfl, xs, ok_lst ok1 e1⟩, p, c1, ρ, F1, _, es.fwd w1 ok1, q1, fun y c2 u F2 H2 w2 ok2 r2 q2 => ?_⟩
      obtain ⟨⟨p1, p2⟩, j, ⟨z, hz, hzx⟩, hno, q⟩ := q2
      obtain ⟨d, g1, a1, a2⟩ := toPy_of p1
      obtain ⟨ds, g2, b1, b2⟩ := toPyL_of p2
      have rl2 : Rep X.K p F2 (.lst l) (.ref a) := Rep.mono w2.frz (show Rep X.K p F1 (.lst l) (.ref a) from ⟨a, xs, rfl, e1, rl⟩)
      obtain ⟨z', k1, k2⟩ := toPyL_fwd g2 hz
      refine ⟨a, u, d, ds, j, z', rfl, rfl, rl2.dp ok2.sub (show toPy (.lst _) = some (.list ds) by unfold toPy; rw [g2]; rfl), r2.dp ok2.sub g1, shapedL_of b1 b2, shaped_of a1 a2, k1, ?_, fun m w hm hw => ?_, tellI ok2 (t.fwd (w1.trans w2)) q⟩
      · rw [eqv_toPy z y k2 g1]
        exact hzx
      · obtain ⟨d', m1, m2⟩ := toPyL_at g2 hw
        rw [eqv_toPy d' y m2 g1]
        exact hno m d' hm m1
    · exact q1.elim⟩
end
end L3

set_option maxHeartbeats 4000000
/-! L4C: sorted(set(t)) of a tuple of ints of any length. -/
namespace L2
open PySem PySem.Spec PyProof.Rows PySem.Calls PySem.W
section
variable {P : Program} {w : World} {A : Around} {E : Value → Shared → Prop} {s : Shared} {a : Addr}
theorem set_of_tuple {l : Addr} {items : Array Value} (ns : List Int) {Q : Value → Shared → Prop} (hh : A.handled = none) (hl : s.heap.IsTuple l items) (hit : IntsAre items.toList ns) (hb : ns.length + 1 < scanBound)
    (h : ∀ (h' : Heap) (tk c : Nat), SetR w h' s.heap.objs.size (fun j => decide (j ∈ ns)) c → c ≤ ns.length → (∀ b o, s.heap.get? b = some o → h'.get? b = some o) → Q (.ref s.heap.objs.size) { s with heap := h', toks := tk }) :
    wpAny (model P w) A (call (.type "set") [.ref l]) Q E s := by
  have hisz : items.size = ns.length := by
    have q := IntsAre.length hit
    rw [Array.length_toList] at q
    exact q
  obtain ⟨c, tl, hmro⟩ := F.called_set.mro
  have hmade := F.called_set.made
  have hsub := F.called_set.sub
  refine wpAny_call (codeAny_of_tree ?_)
  show wpAny _ _ (callAny (.type "set") _) _ _ _
  refine wpAny_pure ⟨Code.quiet_builtin _ (by decide +kernel), codeAny_builtin F.entry_type_call ?_⟩
  rw [Around.under_plain (weight_type_call_type "set" [.ref l] []) rfl]
  have h1 := F.called_set.notType
  have h2 := F.called_set.canCreate
  have hct := F.typeCall_set_1 (.ref l)
  repeat (any_goals (first | assumption | wp_step))

  refine codeAny_mono (code_set_led1 (.ref l) (E := E) (Q₁ := fun obj s₁ => obj = .ref s.heap.objs.size ∧ s₁ = { s with heap := s.heap.push { cls := .type "set", dict := none, data := .set #[] 0 (.fresh 0 0 (!w.params.followText "set-order")) } }) ⟨rfl, rfl⟩) fun r s₁ hr => ?_
  cases r with
  | error e => exact hr
  | ok fl =>
    cases fl with
    | ret obj =>
      obtain ⟨rfl, rfl⟩ := hr
      have hS : (s.heap.push { cls := .type "set", dict := none, data := .set #[] 0 (.fresh 0 0 (!w.params.followText "set-order")) }).get? s.heap.objs.size = some { cls := .type "set", dict := none, data := .set #[] 0 (.fresh 0 0 (!w.params.followText "set-order")) } := Heap.get?_push_size _ rfl
      have hT : Shared.TypeIs { s with heap := s.heap.push { cls := .type "set", dict := none, data := .set #[] 0 (.fresh 0 0 (!w.params.followText "set-order")) } } (.ref s.heap.objs.size) "set" := ⟨_, hS, rfl⟩
      have hli := F.called_set.init.lookup
      have hbi := F.called_set.init.bind (.ref s.heap.objs.size)
      repeat (any_goals (first | assumption | wp_step))

      refine codeAny_mono (codeAny_call_builtin (R := wants (fun r s₂ => r = .none ∧ ∃ h' tk c, s₂ = { s with heap := h', toks := tk } ∧ SetR w h' s.heap.objs.size (fun j => decide (j ∈ ns)) c ∧ c ≤ ns.length ∧
          (∀ b o, s.heap.get? b = some o → h'.get? b = some o)) E) F.called_set.init.plain F.entry_set_init (check_set_init_1 hT ?_)) fun r₂ s₂ hr₂ => ?_
      · obtain ⟨ol, hol, hcl, nl, hdl⟩ := hl
        obtain ⟨ocls, odict, odata, oslots⟩ := ol
        simp only at hcl hdl
        subst hcl; subst hdl
        have hol' : (s.heap.push { cls := .type "set", dict := none, data := .set #[] 0 (.fresh 0 0 (!w.params.followText "set-order")) }).get? l = some { cls := .type "tuple", dict := odict, data := .seq items nl, slots := oslots } := Heap.get?_push_of_some _ hol
        have hsls := F.sub_tuple_set
        have hslf := F.sub_tuple_frozenset
        have hne : (Value.type "tuple" == Value.type "dict") = false := by decide
        have hl1 : (s.heap.push { cls := .type "set", dict := none, data := .set #[] 0 (.fresh 0 0 (!w.params.followText "set-order")) }).IsTuple l items := ⟨_, hol', rfl, nl, rfl⟩
        unfold Builtin.«set.__init__» noKeywords Builtin.Frozenset.updateFrom
        generalize hPI : pyIter = PI
        wp_walk
        subst hPI

        refine wpAny_pyIter_tuple hl1 ?_
        refine wpAny_bind (wpAny_runValue ?_)
        have hlS : l < s.heap.objs.size := Heap.lt_size hol
        have hh3 : A.in1.in1.in1.handled = none := by simp [hh]
        have hz1 : (s.heap.push { cls := .type "set", dict := none, data := .set #[] 0 (.fresh 0 0 (!w.params.followText "set-order")) }).objs.size = s.heap.objs.size + 1 := Heap.size_push ..
        have hneI : l ≠ (s.heap.push { cls := .type "set", dict := none, data := .set #[] 0 (.fresh 0 0 (!w.params.followText "set-order")) }).objs.size := by
          rw [Heap.size_push]; exact Nat.ne_of_lt (Nat.lt_succ_of_lt hlS)
        have hSf : s.heap.objs.size ∉ [(s.heap.push { cls := .type "set", dict := none, data := .set #[] 0 (.fresh 0 0 (!w.params.followText "set-order")) }).objs.size, l] := by
          rw [Heap.size_push]; simp only [List.mem_cons, List.mem_singleton, List.not_mem_nil, or_false, not_or]
          exact ⟨Nat.ne_of_lt (Nat.lt_succ_self _), Nat.ne_of_gt hlS⟩
        have hval : ∀ (i : Nat) (v : Value), items[i]? = some v → ∃ k t, ns[i]? = some k ∧ v = .int k t := fun i v hv => by
          have hi : i < ns.length := by rw [← hisz]; exact (Array.getElem?_eq_some_iff.mp hv).1
          obtain ⟨t, e⟩ := PyProof.Rows.IntsAre.int_at hit i v (by rw [Array.getElem?_toList]; exact hv)
          refine ⟨ns[i], t, List.getElem?_eq_getElem hi, ?_⟩
          rw [e, List.getD_eq_getElem?_getD, List.getElem?_eq_getElem hi] <;> rfl
        refine set_update_ints ((Walks.tuple hh3 _ l hneI items).toS) s.heap.objs.size
          hSf ns hisz hb hval (items.size - 0) 0 _ (by omega) (Nat.zero_le _)
          ⟨⟨_, Heap.get?_push_size _ rfl, rfl, rfl⟩, (hl1.push _)⟩ ?hS0 ?hR
        case hS0 =>
          have hget : ((s.heap.push { cls := .type "set", dict := none, data := .set #[] 0 (.fresh 0 0 (!w.params.followText "set-order")) }).push { cls := .type "tuple_iterator", data := .fields #[.ref l, .int 0 0] }).get? s.heap.objs.size
              = some { cls := .type "set", dict := none, data := .set #[] 0 (.fresh 0 0 (!w.params.followText "set-order")) } := Heap.get?_push_of_some _ hS
          exact ⟨0, Nat.le_refl 0, setR_new_at hget⟩
        case hR =>
          intro s' c' hm hc' hS'
          obtain ⟨h', g2, d', tk', os'⟩ := s'
          have eg : g2 = s.gens := hm.gens
          have ed : d' = s.drawn := hm.drawn
          have eo : os' = s.os := hm.os
          subst eg; subst ed; subst eo
          show wpAny _ _ _ _ _ _
          refine wpAny_pure ?_
          show wpAny _ _ (ret Value.none) _ _ _
          rw [hisz] at hc'
          refine wpAny_pure ⟨rfl, h', tk', c', rfl, hS', hc', fun b o e => ?_⟩
          have hb0 : b < s.heap.objs.size := Heap.lt_size e
          have hb1 : b ≠ s.heap.objs.size := Nat.ne_of_lt hb0
          have hb2 : b ≠ (s.heap.push { cls := .type "set", dict := none, data := .set #[] 0 (.fresh 0 0 (!w.params.followText "set-order")) }).objs.size := by
            rw [Heap.size_push]; exact Nat.ne_of_lt (Nat.lt_succ_of_lt hb0)
          exact hm.heap b o (by simp only [List.mem_cons, List.mem_singleton, List.not_mem_nil, or_false, not_or]; exact ⟨hb1, hb2⟩) (Heap.get?_push_of_some _ (Heap.get?_push_of_some _ e))

      · cases r₂ with
        | error e => exact hr₂
        | ok fl₂ =>
          cases fl₂ with
          | ret r =>
            obtain ⟨rfl, h', tk, c', rfl, hS', hc', hk'⟩ := hr₂
            repeat (any_goals (first | assumption | wp_step))
            exact h _ _ _ hS' hc' hk'
          | _ => exact hr₂.elim
    | _ => exact hr.elim

end
end L2
namespace L3
open PySem PySem.Spec PyProof.Rows L2
section
variable {K : PySem.W.Frag} {X : Cx} {fa : FE}
@[simp ↓] def fSortSetT (fa : FE) : FL := fun ρ c Q => fa ρ c fun x c => match x with
  | .tup l => ∃ ns, intsOf l = some ns ∧ ns.length ≤ 4000 ∧ ∀ m : List Int, m.Pairwise (· < ·) → (∀ k, k ∈ m ↔ k ∈ ns) → Q (m.map .int) c
  | _ => False
def tSortSetT (K : PySem.W.Frag) (ta : TE) : TE := fun σ H Q => ta σ H fun x H1 => ∃ (l : Addr) (ns : List Int), x = .ref l ∧ SqT K H1 l (ns.map V.int) ∧ ns.length ≤ 4000 ∧ ∀ (m : List Int) (q : Addr), m.Pairwise (· < ·) → (∀ k, k ∈ m ↔ k ∈ ns) → H1 q = none → Q (.ref q) (upd H1 q (.lst (m.map V.int)))
theorem pe_sortSetT {a : Expr} {ta : TE} {p p2 q pos : Pos} (hg : Gl X "sorted") (hm : X.mg "sorted" = none) (hg2 : Gl X "set") (hm2 : X.mg "set" = none) (ha : PE X a ta) (hc : X.calm = true := by rfl)
    (na : starEach [a] X.env = (false, eval a X.env) :: starEach [] X.env := by rfl) : PE X (.Call (.Name "sorted" p) [.Call (.Name "set" p2) [a] [] q] [] pos) (tSortSetT X.K ta) := by
  refine ⟨fun pins s σ H Q I h => ?_⟩
  refine Call_ (ld_blt I hg hm (by decide +kernel : bootBuiltins "sorted" = some (.builtin "sorted")) ?_)
  refine PyProof.Rows.callWith_builtin1 (PyProof.Rows.args_cons ?_ rfl) rfl rfl
  refine Call_ (ld_blt I hg2 hm2 (by decide +kernel : bootBuiltins "set" = some (.type "set")) ?_)
  refine PyProof.Rows.callWith_type1 (PyProof.Rows.args_cons (thn (ha.run pins s σ H _ I h) fun v s1 ⟨x, H1, I1, r1, q1⟩ => PyProof.Rows.args_nil ?_) na) na rfl
  obtain ⟨l, ns, rfl, hq, hl, q1⟩ := q1
  cases r1
  obtain ⟨its, r, pl, hz⟩ := I1.tuple hq
  have hi : IntsAre its.toArray.toList ns := by simpa using RZ.intsAre_vals r
  refine set_of_tuple ns (I1.ok.hd hc) pl hi (by unfold scanBound; omega) fun h' tk c R1 hcn k => ?_
  refine PyProof.Rows.args_nil ?_
  have I2 : Inv X pins σ H1 { s1 with heap := h', toks := tk } := I1.kept fun b o e => k b o e
  refine sorted_of_set (s := { s1 with heap := h', toks := tk }) R1 (I1.ok.hd hc) (by unfold scanBound; omega) fun s' p' out c' ms k2 g o hp hgo hI hs hmm hl2 => ?_
  have hlen : (ms.map V.int).length ≤ sizeLine := by rw [List.length_map, hl2, sizeLine_eq]; omega
  have hn : H1 p' = none := I2.hok.fresh hp
  have J : Inv X pins σ (upd H1 p' (.lst (ms.map V.int))) { s1 with heap := s'.heap, gens := s'.gens, drawn := s'.drawn, toks := s'.toks } :=
    L2.Inv.call (s := { s1 with heap := h', toks := tk }) I2 (ch := []) (Un.laid k2 hp hn) (I2.hok.laid k2 hp ⟨hlen, out.toList, c', vals_of_ints hI, hgo⟩) (by rw [g]; exact I2.bare) (fun _ z => nomatch z)
  have e : s' = { s1 with heap := s'.heap, gens := s'.gens, drawn := s'.drawn, toks := s'.toks } := by
    cases s'
    cases s1
    cases o
    rfl
  rw [e]
  exact ⟨.ref p', _, J, rfl, q1 ms p' hs (fun z => (hmm z).trans decide_eq_true_iff) hn⟩
theorem fx_sortSetT {e : Expr} {p p2 q pos : Pos} (hm : X.mg "sorted" = none) (hm2 : X.mg "set" = none) (ha : EX X e fa) (hg : Gl X "sorted" := by rfl) (hg2 : Gl X "set" := by rfl) (hc : X.calm = true := by rfl) (na : starEach [e] X.env = (false, eval e X.env) :: starEach [] X.env := by rfl) :
    FX X (.Call (.Name "sorted" p) [.Call (.Name "set" p2) [e] [] q] [] pos) (fSortSetT fa) := PE.imp (pe_sortSetT hg hm hg2 hm2 ha hc na) fun σ H Q ⟨p, c, ρ, F, Q', es, h, t⟩ =>
  ⟨p, c, ρ, F, _, es, h, fun d c1 v F1 H1 w1 ok1 r1 q1 => by
    split at q1
    · obtain ⟨b, xs, rfl, h1, rl⟩ := r1
      obtain ⟨ns, e1, hl, q⟩ := q1
      refine ⟨b, ns, rfl, by rw [← RepL.ints rl e1]; exact ok1.sqT h1, hl, fun m a hp hs nq => ?_⟩
      obtain ⟨w, ok, n1, n2, n3⟩ := layL w1 ok1 nq (m.map V.int)
      exact t _ c1 a _ F1 _ w ok n1 n2 n3 upd_same (rep_ints m) (q m hp hs)
    · exact q1.elim⟩
end
end L3

/-! L3E: errors that leave a def. -/
namespace L3
open PySem PySem.Spec PyProof.Rows L2
abbrev KXD := Str → D → Nat → Prop
abbrev FMX := List D → Nat → KD → KXD → Prop
abbrev FEX := Rho → Nat → KD → KXD → Prop
/-- what is told of an error: its class, its value -/
def TellX (K : PySem.W.Frag) (p : Pn) (F H : Hp) (QX : KXD) (W : XK) : Prop := ∀ n d c' v dd F' H', Fwd p F H F' H' → Ok3 p c' F' H' → F' dd = some (.xd [("value", v)]) → Rep K p F' d v → QX n d c' → W (.ref (He.ga K n)) (some dd) H'
theorem TellX.fwd {K : PySem.W.Frag} {p : Pn} {F H F1 H1 : Hp} {QX : KXD} {W : XK} (t : TellX K p F H QX W) (w : Fwd p F H F1 H1) : TellX K p F1 H1 QX W := fun n d c' v dd F' H' fw ok e r q => t n d c' v dd F' H' (w.trans fw) ok e r q
def tSX (K : PySem.W.Frag) (W : XK) (g : FS) : TS := fun D σ H => ∃ p c ρ F F0 H0 E, SSt K p c ρ σ F H F0 H0 ∧ g E ρ c ∧ TellS K p F0 H0 E D ∧ TellX K p F0 H0 E.xx W
abbrev SY (X : Cx) (W : XK) (st : Stmt) (g : FS) : Prop := PS X st (tSX X.K W g)
abbrev BY (X : Cx) (W : XK) (sts : List Stmt) (g : FS) : Prop := PSs X sts (tSX X.K W g)
def tEX (K : PySem.W.Frag) (W : XK) (f : FEX) : TE := fun σ H Q => ∃ p c ρ F Q' QX, ESt K p c ρ σ F H ∧ f ρ c Q' QX ∧ Tell K p F H Q' Q ∧ TellX K p F H QX W
abbrev EY (X : Cx) (W : XK) (e : Expr) (f : FEX) : Prop := PE X e (tEX X.K W f)
/-- a def's promise, with the errors that it may let out -/
def spX (K : PySem.W.Frag) (n : Nat) (m : FMX) : Sp := fun vs H Q E => vs.length = n ∧ ∃ p c F ds Q' QX, Ok3 p c F H ∧ RepL K p F ds vs ∧ m ds c Q' QX ∧ Tell K p F H Q' Q ∧ TellX K p F H QX E
/-- what it says where no error is let out -/
def m0 (m : FMX) : FM := fun ds c Q => m ds c Q fun _ _ _ => False
theorem fnX0 {P : Program} {w : World} {K : PySem.W.Frag} {mg : Str → Option Value} {base : Heap} {k n : Nat} {f : Addr} {fd : FuncData} {ps : List Str} {m : FMX} (F : FnOk P w K mg base (L2.CX P w) k f fd ps (spX K n m)) (hn : ps.length = n) :
    FnOk P w K mg base CX0 k f fd ps (spM K n (m0 m)) := ⟨fun vs H Q E h => h.1.trans hn.symm, fun A outer s H args us vs Q E hr he hb hv ⟨hl, p, c, F1, ds, Q', ok, r, h, t⟩ =>
  codeAny_mono (F.run A outer s H args us vs Q (fun _ _ _ => False) hr he hb hv ⟨hl, p, c, F1, ds, Q', _, ok, r, h, t, fun _ _ _ _ _ _ _ _ _ _ _ z => z.elim⟩) fun r s' hq => by
    cases r with
    | error e =>
      obtain ⟨_, _, _, _, _, _, _, _, _, _, _, _, z⟩ := hq
      exact z.elim
    | ok fl => cases fl <;> exact hq⟩
section
variable {X : Cx} {W : XK} {st : Stmt} {rest : List Stmt} {e a : Expr} {es : List Expr} {fe : FE} {fx : FEX} {fr : FA} {g b : FS} {pos : Pos}
theorem sy_of (h : SX X st g) : SY X W st g := PS.imp h fun D σ H ⟨p, c, ρ, F, F0, H0, E, s, h, t, _⟩ => ⟨p, c, ρ, F, F0, H0, E, s, h, t⟩
theorem by_of {sts : List Stmt} (h : BX X sts g) : BY X W sts g := PSs.imp h fun D σ H ⟨p, c, ρ, F, F0, H0, E, s, h, t, _⟩ => ⟨p, c, ρ, F, F0, H0, E, s, h, t⟩
theorem by_nil : BY X W [] sNil := by_of bx_nil
theorem by_cons (h1 : SY X W st g) (h2 : BY X W rest b) : BY X W (st :: rest) (sSeq g b) := PSs.imp (pss_cons h1 h2) fun D σ H ⟨p, c, ρ, F, F0, H0, E, s, h, t, tx⟩ =>
  ⟨p, c, ρ, F, F0, H0, _, s, h, ⟨fun c1 ρ1 σ1 F1 H1 s1 q => ⟨p, c1, ρ1, F1, F0, H0, E, s1, q, t, tx⟩, t.bk, t.ct, t.rt⟩, tx⟩
theorem by_one (h1 : SY X W st g) : BY X W [st] g := pss_one h1
theorem sy_frz (i : Nat) (h : SY X W st g) : SY X W st (sFrz i g) := PS.imp h fun D σ H ⟨p, c, ρ, F, F0, H0, E, s, h, t, tx⟩ =>
  let ⟨F', s'⟩ := s.frz i
  ⟨p, c, _, F', F0, H0, E, s', h, t, tx⟩
theorem sy_if {cd : Expr} {sa sb : List Stmt} {f : FT} (hc : TX X cd f) (ha : BY X W sa g) (hb : BY X W sb b) : SY X W (.If cd sa sb pos) (sIf f g b) := PS.imp (ps_if hc ha hb) fun D σ H ⟨p, c, ρ, F, F0, H0, E, s, h, t, tx⟩ => by
  obtain ⟨F2, es, w2, k⟩ := s.lend
  refine ⟨p, c, _, F2, _, es, h, fun d c1 F1 H1 w1 ok1 q1 => ?_⟩
  obtain ⟨F3, s3, _⟩ := k c1 F1 H1 w1 ok1
  cases d with
  | true => exact ⟨p, c1, ρ, F3, F0, H0, E, s3, q1, t, tx⟩
  | false => exact ⟨p, c1, ρ, F3, F0, H0, E, s3, q1, t, tx⟩
theorem TellX.unfloor {K : PySem.W.Frag} {p : Pn} {F0 H0 F1 H1 : Hp} {QX : KXD} (t : TellX K p F0 H0 QX W) (w : Fwd p F0 H0 F1 H1) : TellX K p F1 H0 QX W := fun n d c' v dd F' H' fw ok e r q => t n d c' v dd F' H' (fw.unfloor w) ok e r q
theorem sy_for {iter tg : Expr} {body : List Stmt} {fi : FI} {gg : FG} {is : List Nat} (hp : PassesOwn (model X.prog X.w) X.A X.env X.xe) (hc : X.calm = true) (hi : IX X tg iter fi) (hg : GX X tg is gg) (hb : BY X W body g) (hs : ∀ x, foldedSetIterable iter X.env x = pure x := by intro _; rfl) :
    SY X W (.For tg iter body [] pos) (sFor fi gg g) := by
  obtain ⟨wi, pi, ki⟩ := hi.ex
  obtain ⟨gl, pg, kg⟩ := hg.ex
  refine PS.imp (ps_for hp hc pi pg hb hs) fun D σ H ⟨p, c, ρ, F, F0, H0, E, s, h, t, tx⟩ => ki σ H p c _ F _ _ s.e h fun items c1 F1 H1 J w1 ok1 wk q1 => ?_
  have wf := s.ent.trans w1
  refine ⟨fun i m σ H => m = items.length - i ∧ i ≤ items.length ∧ ∃ c ρ F, SSt X.K p c ρ σ F H F1 H0 ∧ forL gg g E (items.drop i) ρ c, ⟨items.length, rfl, Nat.zero_le _, c1, ρ, F1, (s.fwd w1 ok1).floor wf (fun _ _ h => h), q1⟩, fun i m σ H ⟨em, hi, c, ρ, F, s, h⟩ => ?_⟩
  obtain ⟨go, stop⟩ := wk.2 i F H c s.ent.frz s.ok
  by_cases hlt : i < items.length
  · obtain ⟨hgo, hy⟩ := go hlt
    refine .inr ⟨hgo, fun σ' H' => ∃ c ρ F, SSt X.K p c ρ σ' F H' F1 H0 ∧ forL gg g E (items.drop (i + 1)) ρ c, fun σ' H' ⟨c', ρ', F', s', h'⟩ => ⟨items.length - (i + 1), by omega, rfl, hlt, c', ρ', F', s', h'⟩, fun x H' y => ?_⟩
    obtain ⟨F', d, e1, w', ok', r'⟩ := hy x H' y
    have ed : items.drop i = d :: items.drop (i + 1) := by
      rw [List.drop_eq_getElem_cons hlt]
      rw [List.getElem?_eq_getElem hlt] at e1
      rw [Option.some.inj e1]
    rw [ed] at h
    refine kg p c ρ σ F' H' F1 H0 d x _ _ (s.fwd w' ok') r' h fun ρ2 σ2 s2 _ _ h2 => ?_
    exact ⟨p, c, ρ2, F', F1, H0, _, s2, h2, ⟨fun c ρ σ F H s q => ⟨c, ρ, F, s, q⟩, fun c ρ σ F H s q => t.nx c ρ σ F H (s.unfloor wf) q, fun c ρ σ F H s q => ⟨c, ρ, F, s, q⟩,
      fun d c' v F' H' w ok r q => t.rt d c' v F' H' (w.unfloor wf) ok r q⟩, tx.unfloor wf⟩
  · have ei : items.drop i = [] := List.drop_eq_nil_of_le (by omega)
    rw [ei] at h
    exact .inl ⟨stop (by omega), t.nx c ρ σ F H (s.unfloor wf) h⟩
theorem sy_while {cd : Expr} {body : List Stmt} {f : FT} (hp : PassesOwn (model X.prog X.w) X.A X.env X.xe) (hc : TX X cd f) (hb : BY X W body g) : SY X W (.While cd body [] pos) (sWhile f g) := by
  refine PS.imp (ps_while hp hc hb) fun D σ H ⟨p, c, ρ, F, F0, H0, E, s, ⟨n, h⟩, t, tx⟩ => ?_
  refine ⟨fun m σ H => ∃ c ρ F, SSt X.K p c ρ σ F H F0 H0 ∧ whileN f g E m ρ c, ⟨n, c, ρ, F, s, h⟩, fun m σ H ⟨c, ρ, F, s, h⟩ => ?_⟩
  cases m with
  | zero => exact h.elim
  | succ m =>
    obtain ⟨F2, es, w2, k⟩ := s.lend
    refine ⟨p, c, _, F2, _, es, h, fun b c1 F1 H1 w1 ok1 q1 => ?_⟩
    obtain ⟨F3, s3, _⟩ := k c1 F1 H1 w1 ok1
    cases b with
    | true => exact ⟨fun σ' H' => ∃ c ρ F, SSt X.K p c ρ σ' F H' F0 H0 ∧ whileN f g E m ρ c, fun σ' H' ⟨c, ρ, F, s, h⟩ => ⟨m, Nat.lt_succ_self m, c, ρ, F, s, h⟩,
        p, c1, ρ, F3, F0, H0, _, s3, q1, ⟨fun c ρ σ F H s q => ⟨c, ρ, F, s, q⟩, fun c ρ σ F H s q => t.nx c ρ σ F H s q, fun c ρ σ F H s q => ⟨c, ρ, F, s, q⟩, t.rt⟩, tx⟩
    | false => exact t.nx c1 ρ σ F3 H1 s3 q1
/-! expressions that may raise: calls -/
@[simp ↓] def yCall (m : FMX) (fa : FA) : FEX := fun ρ c Q QX => fa ρ c fun l c => m l c Q QX
theorem ey_of (h : EX X e fe) : EY X W e (fun ρ c Q _ => fe ρ c Q) := PE.imp h fun σ H Q ⟨p, c, ρ, F, Q', _, es, h, t, _⟩ => ⟨p, c, ρ, F, Q', es, h, t⟩
theorem ey_call {k n : Nat} {f : Addr} {fd : FuncData} {ps : List Str} {m : FMX} {x : Str} {p : Pos} (G : FnOk X.prog X.w X.K X.mg X.base (L2.CX X.prog X.w) k f fd ps (spX X.K n m)) (hr : Room k X.A) (hm : X.mg x = some (.ref f)) (hk : PySem.W.keepIn X.K (.ref f) = true) (hb : Binds X.K fd ps []) (tk : Takes X (fun cls d _ H => W cls d H))
    (ha : AX X (a :: es) fr) (hl : ∀ l c Q QX, m l c Q QX → l.length = n) (hg : Gl X x := by rfl) (hdb : (x == ("__debug__" : Str)) = false := by decide) (he : starEach (a :: es) X.env = (false, eval a X.env) :: starEach es X.env := by rfl) (hpl : (backTo pos (starEach es X.env)).any (·.1) = false := by rfl) :
    EY X W (.Call (.Name x p) (a :: es) [] pos) (yCall m fr) := PE.imp (pe_call (dvs := []) (E := W) G hr hg hm hk hb .nil (passes_call tk fun _ _ _ _ h => h) ha hdb he hpl) fun σ H Q ⟨p, c, ρ, F, Q', QX, es, h, t, tx⟩ =>
  ⟨p, c, ρ, F, _, es, h, fun l c1 vs F1 H1 w1 ok1 r1 q1 => ⟨by rw [List.append_nil, r1.len]; exact hl _ _ _ _ q1, p, c1, F1, l, Q', QX, ok1, by rw [List.append_nil]; exact r1, q1, t.fwd w1, tx.fwd w1⟩⟩
/-! statements over them -/
@[simp ↓] def yExpr (fx : FEX) : FS := fun E ρ c => fx (ρ.map vB) c (fun _ c => E.nx ρ c) E.xx
@[simp ↓] def yRet (fx : FEX) : FS := fun E ρ c => fx (ρ.map vB) c E.rt E.xx
@[simp ↓] def yAsg (g : FG) (fx : FEX) : FS := fun E ρ c => fx (ρ.map vA) c (fun d c => g d ρ fun ρ => E.nx ρ c) E.xx
theorem sy_expr (he : EY X W e fx) (hs : swapsWith e none pos.line X.env = pure false := by rfl) : SY X W (.Expr e pos) (yExpr fx) := PS.imp (ps_expr he hs) fun D σ H ⟨p, c, ρ, F, F0, H0, E, s, h, t, tx⟩ => by
  obtain ⟨F2, es, w2, k⟩ := s.lend
  refine ⟨p, c, _, F2, _, _, es, h, fun d c1 v F1 H1 w1 ok1 r1 q1 => ?_, tx.fwd w2⟩
  obtain ⟨F3, s3, _⟩ := k c1 F1 H1 w1 ok1
  exact t.nx c1 ρ σ F3 H1 s3 q1
theorem sy_ret (he : EY X W e fx) : SY X W (.Return (some e) pos) (yRet fx) := PS.imp (ps_ret he) fun D σ H ⟨p, c, ρ, F, F0, H0, E, s, h, t, tx⟩ => by
  obtain ⟨F2, es, w2, k⟩ := s.lend
  exact ⟨p, c, _, F2, _, _, es, h, t.rt.fwd w2, tx.fwd w2⟩
theorem sy_asg {tg : Expr} {is : List Nat} {gg : FG} (he : EY X W e fx) (hg : GX X tg is gg) (hs : swapsWithSole [tg] e pos.line X.env = pure false := by rfl) (hw : swappedStores [tg] e X.env = pure none := by rfl)
    (h1 : (assignEach [tg] X.env).map (·.2) = [assign tg X.env] := by rfl) : SY X W (.Assign [tg] e pos) (yAsg gg fx) := by
  obtain ⟨gl, pg, kg⟩ := hg.ex
  refine PS.imp (ps_asg he pg hs hw h1) fun D σ H ⟨p, c, ρ, F, F0, H0, E, s, h, t, tx⟩ => ⟨p, c, _, F, _, _, s.e, h, fun d c1 v F1 H1 w1 ok1 r1 q1 => ?_, tx.fwd s.ent⟩
  exact kg p c1 ρ σ F1 H1 F0 H0 d v _ _ (s.fwd w1 ok1) r1 q1 fun ρ' σ' s' _ _ h' => t.nx c1 ρ' σ' F1 H1 s' h'
end
/-! raise X(e) -/
/-- super() of BindError's __init__ finds ValueError's -/
structure SupC (K : PySem.W.Frag) (C : Addr) : Prop where
  mro : PySem.W.mroIn K C (.ref (He.ga K "BindError")) = some true
  sup : PySem.W.ks_superIn K C (He.ga K "BindError") "__init__" = some (some (.builtin "ValueError.__init__"))
  sub : PySem.W.subIn K (.ref C) (.type "ValueError") = some true
/-- what BindError's __init__ keeps: the value is stored -/
def spInit (K : PySem.W.Frag) : Sp := fun vs H Q _ => ∃ (a C : Addr) (v : V), vs = [.ref a, v] ∧ OexC K C ∧ H a = some (exo a C none) ∧ PySem.W.findIn K (.ref C) "value" = some none ∧ SupC K C ∧
  ∀ dx, H dx = none → dx ≠ a → Q .non (upd (upd H dx (exd dx [("value", v)])) a (exo a C (some dx)))
/-- what the head says of an error class -/
structure ErrC (K : PySem.W.Frag) (mg : Str → Option Value) (n : Str) (fI : Addr) : Prop where
  g : mg n = some (.ref (He.ga K n))
  oex : OexC K (He.ga K n)
  ini : PySem.W.findIn K (.ref (He.ga K n)) "__init__" = some (some (.ref fI))
  no : PySem.W.findIn K (.ref (He.ga K n)) "value" = some none
  sup : SupC K (He.ga K n)
section
variable {X : Cx} {W : XK} {e : Expr} {fe : FE} {pos p1 p2 : Pos} {n : Str} {fI : Addr} {fdI : FuncData} {k : Nat}
@[simp ↓] def sRaise (n : Str) (fe : FE) : FS := fun E ρ c => fe (ρ.map vB) c fun d c => E.xx n d c
theorem raise_heap {H1 : Hp} {a dx C : Addr} {v : V} (na : H1 a = none) (nd : dx ≠ a) : upd (L2.del (upd (upd (upd H1 a (exo a C none)) dx (exd dx [("value", v)])) a (exo a C (some dx))) a) dx (.xd [("value", v)]) = upd H1 dx (.xd [("value", v)]) := by
  funext b
  by_cases e : b = dx
  · rw [e, upd_same, upd_same]
  · rw [upd_ne e, upd_ne e]
    by_cases e2 : b = a
    · rw [e2, del_same, na]
    · rw [del_ne e2, upd_ne e2, upd_ne e, upd_ne e2]
theorem sy_raise (T : ErrC X.K X.mg n fI) (tI : PySem.W.typeIn X.K (.ref fI) = some (.type "function")) (F1 : L2.FnOk X.prog X.w X.K X.mg X.base (L2.CX X.prog X.w) k fI fdI ["self", "value"] (spInit X.K)) (hb : Binds X.K fdI ["self", "value"] []) (hr : Room (k + 1) X.A) (tk : Takes X (fun cls d _ H => W cls d H)) (he : EX X e fe)
    (hc : X.calm = true := by rfl) (hg : Gl X n := by rfl) (hdb : (n == ("__debug__" : Str)) = false := by decide) (hs : starEach [e] X.env = (false, eval e X.env) :: starEach [] X.env := by rfl) : SY X W (.Raise (some (.Call (.Name n p1) [e] [] p2)) none pos) (sRaise n fe) := by
  refine PS.imp (ps_raise hc tk (pmk_oex (dvs := []) T.oex T.ini tI F1 hr.r2 hb .nil passL hg T.g (pa_cons he pa_nil hs) hdb hs rfl)) fun D σ H ⟨p, c, ρ, F, F0, H0, E, s, h, t, tx⟩ => ?_
  obtain ⟨F2, es, w2, k⟩ := s.lend
  refine ⟨p, c, _, F2, _, es, h, fun d c1 v F3 H1 w1 ok1 r1 q1 => ⟨by show 1 ≤ 1000; decide, fun a na => ?_⟩⟩
  refine ⟨a, _, v, rfl, T.oex, upd_same, T.no, T.sup, fun dx nx nd => ⟨rfl, dx, [("value", v)], upd_same, ?_, ?_, ?_⟩⟩
  · rw [upd_ne nd, upd_same]
  · rw [upd_ne nd] at nx; exact nx
  · rw [upd_ne nd] at nx
    rw [raise_heap na nd]
    obtain ⟨w, ok⟩ := Fwd.laid ok1 nx (.xd [("value", v)])
    exact tx n d c1 v dx _ _ (w2.trans (w1.trans w)) ok upd_same (r1.mono w.frz) q1
end
/-! a def that may raise -/
theorem fn3X {P : Program} {w : World} {K : PySem.W.Frag} {mg : Str → Option Value} {base : Heap} {x qual : Str} {st : Stmt} {f : Addr} {fd : FuncData} {N ps : List Str} {k n : Nat} {m : FMX} {g : FS}
    (F : Fun K x qual st f fd) (S : FnScope N ps (defScope st)) (hn : ps.length = n) (hp : ∀ ds c Q QX, m ds c Q QX → g { nx := fun _ c => Q .non c, rt := Q, xx := QX } (start3 N.length ds) c)
    (hbody : ∀ (cdv : Value) (A : Around) (outer : List Env) (s : Shared) (H : Hp) (E : XK), Room k (A.deeper (envOfC qual (defScope st) s.heap.objs.size f cdv)) → Takes (cxOf (L2.CX P w) P w K mg base N qual (defScope st) f cdv A outer s H E) (fun cls d _ H => E cls d H) →
      PassesOwn (model P w) (A.deeper (envOfC qual (defScope st) s.heap.objs.size f cdv)) (envOfC qual (defScope st) s.heap.objs.size f cdv) (cxOf (L2.CX P w) P w K mg base N qual (defScope st) f cdv A outer s H E).xe → BY (cxOf (L2.CX P w) P w K mg base N qual (defScope st) f cdv A outer s H E) E (defBody st) g) : FnOk P w K mg base (L2.CX P w) (k + 1) f fd ps (spX K n m) := by
  refine Fun.ok3 F S (fun vs H Q E h => h.1.trans hn.symm) fun cdv A outer s H vs Q E _ hr ⟨hl, p, c, F1, ds, Q', QX, ok, r, h, t, tx⟩ => ?_
  refine ⟨_, hbody cdv A outer s H E hr (takes_of rfl rfl rfl rfl) (passes_of rfl), p, c, start3 N.length ds, F1, F1, H, _, start_ok ok r, hp ds c Q' QX h, ⟨fun c ρ σ F' H' s q => ?_, fun _ _ _ _ _ _ q => q.elim, fun _ _ _ _ _ _ q => q.elim, t⟩, tx⟩
  exact t .non c .non F' H' s.ent s.ok rfl q
end L3

/-! L3I: an error class whose __init__ says super().__init__(value); self.value = value. -/
namespace L3
open PySem PySem.Spec PyProof.Rows L2
section
open PySem.W PySem.Calls
variable {prog : Program} {w : World} {M : Model} {A : Around} {E : Value → Shared → Prop} {h : Heap} {g : Array GenState} {d : Drawn} {t : Nat} {os : OsState}
variable {nm q : Str} {C N : Addr} {bs bm : List Value} {hdct : Bool} {sn : List Str} {sub : List Value} {ab : Bool} {col : Option Bool} {dd : Option Addr} {k0 k1 k2 k3 k5 : Option Value}
theorem call_mw {u e t0 : Addr} {rest : List Value} {Q : Value → Shared → Prop}
    (hC : h.get? C = some (excClassObj nm q C N bs bm hdct sn sub ab col dd k0 k1 k2 k3 k5 "ValueError.__new__")) (he : h.get? e = some (HandSPX.excO C t0)) (hu : h.get? u = some (kxs_mw "ValueError.__init__" e)) (hrest : rest.length ≤ sizeLine)
    (hq : ∀ h' t1, (∀ b o, b ≠ e → h.get? b = some o → h'.get? b = some o) → h'.get? e = some (HandSPX.excO C t1) → Q .none ⟨h', g, d, t, os⟩) :
    wpAny (model prog w) A (call (.ref u) rest) Q E ⟨h, g, d, t, os⟩ := by
  refine wpAny_call (codeAny_of_tree ?_)
  show wpAny _ A.in1 (callAny (.ref u) ⟨rest, []⟩) _ _ _
  simp only [callAny]
  refine wpAny_bind (wpAny_load hu ?_)
  simp only [kxs_mw, show (Value.type "method-wrapper" == Value.type "method" || Value.type "method-wrapper" == Value.type "builtin_function_or_method" || Value.type "method-wrapper" == Value.type "method-wrapper") = true by decide, if_true]
  refine W.KFB.if_so (by decide) ?_
  refine wpAny_bind (ESX.check_bound F.excBase_ValueError hC he rfl ?_)
  refine wpAny_bind (wpAny_pure (wpAny_pure ?_))
  refine ⟨Code.quiet_builtin _ (by decide +kernel), codeAny_builtin F.excBase_ValueError.initEntry ?_⟩
  rw [Around.under_plainId F.excBase_ValueError.init.plain _]
  wp_walk
  refine hq _ h.objs.size (fun b o hb ho => ?_) ?_
  · rw [Heap.get?_update_other _ _ (Ne.symm hb)]
    exact Heap.get?_push_of_some _ ho
  · rw [Heap.get?_update_self _ (Heap.get?_push_of_some _ he) rfl]
    rfl
end
theorem mc_eval {p0 p1 p2 p3 p4 : Pos} {env : Env} (hl : (p2.endLine == p4.line) = true) : eval ((((Expr.Name (Str.ofString "super") p0).Call [] [] p1).Attribute (Str.ofString "__init__") p2).Call
        [Expr.Name (Str.ofString "value") p3] [] p4) env = (do
        let ov ← attributeBase (((Expr.Name (Str.ofString "super") p0).Call [] [] p1)) "__init__" env (eval ((Expr.Name (Str.ofString "super") p0).Call [] [] p1) env)
        standAt p2.atName
        let (f, first) ← holding [ov] (getMethod ov "__init__" (do return (← importBound (((Expr.Name (Str.ofString "super") p0).Call [] [] p1)) env).getD true))
        callWith p4 f first (backTo p4 (starEach [Expr.Name (Str.ofString "value") p3] env)) []) := by
  rw [show eval ((((Expr.Name (Str.ofString "super") p0).Call [] [] p1).Attribute (Str.ofString "__init__") p2).Call
        [Expr.Name (Str.ofString "value") p3] [] p4) env = (do
        let ov ← attributeBase (((Expr.Name (Str.ofString "super") p0).Call [] [] p1)) "__init__" env (eval ((Expr.Name (Str.ofString "super") p0).Call [] [] p1) env)
        standAt p2.atName
        methodCall (((Expr.Name (Str.ofString "super") p0).Call [] [] p1)) "__init__" p2 p4 env ov 1 (backTo p4 (starEach [Expr.Name (Str.ofString "value") p3] env)) (backToKw p4 (keywordEach [] env))) from rfl]
  unfold methodCall methodCallPos
  rw [show methodCallForm 1 (backTo p4 (starEach [Expr.Name (Str.ofString "value") p3] env)) (backToKw p4 (keywordEach [] env)) = true from rfl]
  simp only [Bool.not_true, Bool.false_or, hl, if_true]
  rfl
/-- what the head says of BindError's __init__ -/
structure InitH (P : Program) (K : PySem.W.Frag) (mg : Str → Option Value) (fI : Addr) where
  oc : Value
  od : Option Addr
  osl : Array (Option Value)
  params : Arguments
  scope : Scope
  dV : Value
  kV : Value
  doc : Value
  pm : Value
  an : Option Addr
  cda : Addr
  ct : Value
  cc : Addr
  p0 : Pos
  p1 : Pos
  p2 : Pos
  p3 : Pos
  p4 : Pos
  p5 : Pos
  p6 : Pos
  p7 : Pos
  p8 : Pos
  p9 : Pos
  hln : (p2.endLine == p4.line) = true
  lk : K.lookup fI = some ⟨oc, od, .func (PySem.W.ksFn "__init__" "BindError.__init__" params [.Expr (.Call (.Attribute (.Call (.Name "super" p0) [] [] p1) "__init__" p2) [.Name "value" p3] [] p4) p5, .Assign [.Attribute (.Name "self" p6) "value" p7] (.Name "value" p8) p9] scope dV kV doc pm an (.ref cda) ct cc), osl⟩
  hcd : PySem.W.codeIn K (.ref cda) "BindError.__init__" = true
  ccl : Value
  cdd : Option Addr
  vs : Array Value
  ccs : Array (Option Value)
  file : Str
  tf : Tok
  lkc : K.lookup cda = some ⟨ccl, cdd, .fields vs, ccs⟩
  hvs : vs[2]? = some (.str file tf)
  hfile : ((P.main.file : Str) == file) = true
  cl : Value
  cld : Option Addr
  csl : Array (Option Value)
  lkk : K.lookup cc = some ⟨cl, cld, .cell (some (.ref (He.ga K "BindError"))), csl⟩
  cdD : ClassData
  hD : PySem.W.clsIn K (He.ga K "BindError") = some cdD
  hsup : mg "super" = none
  K2 : PySem.W.Frag
  hop : PySem.W.nsIn K2 cStatics "thirdparty.any" = some none
  htop : (P.main.scope.names.lookup ("super" : Str)).isSome = false
  ar : Arg
  hpar : (params.posonlyargs ++ params.args).head? = some ar
  har : ar.arg = ("self" : Str)
  kind : scope.kind = .function
  co : scope.isCoroutine = false
  gen : scope.isGenerator = false
  cell : ∀ x ∈ scope.names, x.2 ≠ .cell
  nself : scope.names.lookup ("self" : Str) = some .local
  nval : scope.names.lookup ("value" : Str) = some .local
  nsup : scope.names.lookup ("super" : Str) = some .globalImplicit
  ncls : scope.names.lookup ("__class__" : Str) = some .free
  nfree : ∀ y, scope.names.lookup y = some .free → y = ("__class__" : Str)
def InitH.fn {P : Program} {K : PySem.W.Frag} {mg : Str → Option Value} {fI : Addr} (T : InitH P K mg fI) : FuncData := PySem.W.ksFn "__init__" "BindError.__init__" T.params [.Expr (.Call (.Attribute (.Call (.Name "super" T.p0) [] [] T.p1) "__init__" T.p2) [.Name "value" T.p3] [] T.p4) T.p5, .Assign [.Attribute (.Name "self" T.p6) "value" T.p7] (.Name "value" T.p8) T.p9] T.scope T.dV T.kV T.doc T.pm T.an (.ref T.cda) T.ct T.cc
section
variable {P : Program} {w : World} {K : PySem.W.Frag} {mg : Str → Option Value} {base : Heap} {fI : Addr}
/-- the context of its body -/
def iniCx (P : Program) (w : World) (K : PySem.W.Frag) (mg : Str → Option Value) (base : Heap) (scope : Scope) (fI cda cc : Addr) (A : Around) (outer : List Env) (s : Shared) (H : Hp) (E : XK) : Cx where
  prog := P
  w := w
  K := K
  mg := mg
  base := base
  A := A.deeper (PySem.W.ksEnv "BindError.__init__" scope s.heap.objs.size fI (.ref cda) cc)
  N := ["self", "value"]
  s_0 := s
  H_0 := H
  env := PySem.W.ksEnv "BindError.__init__" scope s.heap.objs.size fI (.ref cda) cc
  outer := outer
  stack := PySem.W.ksEnv "BindError.__init__" scope s.heap.objs.size fI (.ref cda) cc :: outer
  ex := []
  fn := fun _ => false
  calm := true
  pn := []
  xe := fun e s' => wpAny (model P w) (A.deeper (PySem.W.ksEnv "BindError.__init__" scope s.heap.objs.size fI (.ref cda) cc)) (leaving (PySem.W.ksEnv "BindError.__init__" scope s.heap.objs.size fI (.ref cda) cc) e) (fun _ s'' => L2.CX P w outer H s E e s'') (fun e' s'' => L2.CX P w outer H s E e' s'') s'
theorem ini_start (T : InitH P K mg fI) {A : Around} {outer : List Env} {s : Shared} {H : Hp} {E : XK} {x : V} {v : V} {ux u : Value} (hd : A.handled = none) (e0 : Env0 P w K mg base A outer s H) (rx : RelV x ux) (rv : RelV v u) {h₁ : Heap} {tk : Nat}
    (hns : h₁.Ns s.heap.objs.size fun y => ([("self", ux), ("value", u)] : List (Str × Value)).reverse.lookup y) (kp : ∀ b o, s.heap.get? b = some o → h₁.get? b = some o) :
    Inv (iniCx P w K mg base T.scope fI T.cda T.cc A outer s H E) [] [some x, some v] H { s with heap := h₁, toks := tk } := by
  have KX : K.In s.heap := e0.mod.kin.keeps fun b o e => (e0.bs b o e).1
  have noA : ∀ b : Addr, b ∉ (iniCx P w K mg base T.scope fI T.cda T.cc A outer s H E).ex := fun b z => absurd (show b ∈ ([] : List Addr) from z) (by simp)
  have look : ∀ {y c}, (iniCx P w K mg base T.scope fI T.cda T.cc A outer s H E).env.cells.lookup y = some c → y = "__class__" ∧ c = T.cc := fun {y c} e => by
    have e : ([("__class__", T.cc)] : List (Str × Addr)).lookup y = some c := e
    simp only [List.lookup] at e
    split at e
    · rename_i q
      cases e
      exact ⟨by simpa using q, rfl⟩
    · cases e
  have nc : H T.cc = none := (e0.bs T.cc _ (e0.mod.kin _ _ T.lkk)).2
  have hc : h₁.IsCell T.cc (some (.ref (He.ga K "BindError"))) := ⟨_, kp _ _ (KX _ _ T.lkk), rfl⟩
  refine ⟨⟨e0.mod, T.kind, rfl, rfl, Nat.le_refl _, fun y z c e1 e2 => (look e1).1.trans (look e2).1.symm, fun y hy => ?_, fun y c z _ => ?_, fun _ => hd, Around.frames_deeper e0.frames, .inr ⟨rfl, rfl⟩, fun b z => absurd z (noA b), e0.bs, e0.bsz, fun b _ _ => noA b,
      fun b z => absurd z (noA b), e0.funs, e0.frf⟩,
    rfl, e0.bare, Un.kept kp, ⟨_, hns, fun i y v' e1 e2 e3 => ?_⟩, fun y c e => ?_, e0.hok.fresh (Nat.le_refl _), fun y c e => ?_, fun q hq => absurd (show q ∈ ([] : List (Addr × Obj)) ++ [] from hq) (by simp), e0.hok.kept kp, rfl⟩
  · have hy : T.scope.names.lookup y = some .cell ∨ T.scope.names.lookup y = some .free := hy
    rcases hy with hy | hy
    · exact absurd rfl (T.cell _ (PySem.mem_of_lookup hy))
    · rw [T.nfree y hy]
      exact ⟨T.cc, rfl⟩
  · have z : false = true := z
    cases z
  · match i, e1, e2 with
    | 0, e1, e2 =>
      cases e1
      cases e2
      exact ⟨ux, rx, .inl ⟨T.nself, rfl⟩⟩
    | 1, e1, e2 =>
      cases e1
      cases e2
      exact ⟨u, rv, .inl ⟨T.nval, rfl⟩⟩
    | i + 2, e1, e2 => cases e2
  · rw [(look e).2]
    exact ⟨_, hc⟩
  · rw [(look e).2]
    exact nc
/-- BindError's __init__ keeps its promise -/
theorem init_ok (T : InitH P K mg fI) (hk2 : T.K2.In base) : L2.FnOk P w K mg base (L2.CX P w) 1 fI T.fn ["self", "value"] (spInit K) := by
  refine ⟨fun vs H Q E h => ?_, fun A outer s H args us vs Q E hr e0 hb rv ⟨a, C, v, ev, oex, ha, hno, hsup, hq⟩ => ?_⟩
  · obtain ⟨a, C, v, rfl, _⟩ := h
    rfl
  subst ev
  obtain ⟨u, rfl, ru⟩ : ∃ u, us = [.ref a, u] ∧ RelV v u := by
    cases rv with
    | cons r1 r2 =>
      cases r2 with
      | cons r3 r4 =>
        cases r4
        cases (show _ = Value.ref a from r1)
        exact ⟨_, rfl, r3⟩
  have KX : K.In s.heap := e0.mod.kin.keeps fun b o e => (e0.bs b o e).1
  have lim : s.heap.NoLimit := e0.mod.nolimit.keeps fun b o e => (e0.bs b o e).1
  have hloc : ∀ y ∈ (["self", "value"] : List Str).zip [Value.ref a, u], T.scope.names.lookup y.1 = some .local := fun y hy => by
    rcases List.mem_cons.mp hy with rfl | hy
    · exact T.nself
    · rcases List.mem_cons.mp hy with rfl | hy
      · exact T.nval
      · cases hy
  refine ks_codeAny_call_defAt (binds := (["self", "value"] : List Str).zip [Value.ref a, u]) hr.depth (KX _ _ T.lk) rfl lim (PySem.W.codeRec_of KX T.hcd) rfl hb T.cell hloc (fun h₁ hns kp => ?_) T.co T.gen T.kind
  have J0 : Inv (iniCx P w K mg base T.scope fI T.cda T.cc A outer s H E) [] [some (.ref a), some v] H { s with heap := h₁, toks := s.toks + ((["self", "value"] : List Str).zip [Value.ref a, u]).length } := ini_start (x := .ref a) T hr.hd e0 rfl ru hns kp
  obtain ⟨oD, hD1, hD2⟩ : ∃ oD, h₁.get? (He.ga K "BindError") = some oD ∧ oD.data = .cls T.cdD := by
    have hD := T.hD
    unfold PySem.W.clsIn at hD
    split at hD
    · rename_i c d cd' sl ho
      cases hD
      exact ⟨_, J0.kIn _ _ ho, rfl⟩
    · cases hD
  obtain ⟨mb, b1, b2⟩ := J0.mod.blt
  obtain ⟨t1, hoa⟩ := exo_at J0.hok ha
  refine PySem.ks_wpAt_execs_cons (PySem.ks_wpAt_Expr_any (PySem.ks_wpAt_MethodCall (PySem.ks_wpAt_super_base T.nsup T.ncls (by decide) rfl (J0.kIn _ _ T.lk) rfl T.hpar rfl (J0.kIn _ _ T.lkc) rfl T.hvs T.hfile T.htop ?_) (mc_eval T.hln)) J0.quiet)
  refine PySem.W.ks_loadName_global T.kind T.nsup (PySem.Calls.loadGlobal_builtin (J0.mod.glob.keeps J0.bk) T.hsup (b1.keeps J0.bk) ((b2 _ (by decide)).trans PyProof.Rows.Boot.«super») ⟨rfl, ?_⟩)
  refine wpAny_loadName_free T.kind T.ncls rfl ⟨_, J0.kIn _ _ T.lkk, rfl⟩ ?_
  refine wpAny_loadName_local T.kind (by rw [T.har]; exact T.nself) hns (v := .ref a) (by rw [T.har]; rfl) ?_
  refine PySem.ks_wpAny_isType_cls hD1 hD2 ⟨rfl, ?_⟩
  refine PySem.ks_wpAny_call_super hD1 hD2 hoa rfl (fun c e => by cases e) (PySem.W.looks_mroIn J0.kIn hsup.mro) (fun h2 hso k2 => ?_)
  have J2 := J0.kept (t' := s.toks + ((["self", "value"] : List Str).zip [Value.ref a, u]).length) k2
  obtain ⟨t2, hoa2⟩ := exo_at J2.hok ha
  have hs := hsup.sup
  cases hc : PySem.W.clsIn K C with
  | none => unfold PySem.W.ks_superIn at hs; rw [hc] at hs; cases hs
  | some cd =>
    unfold PySem.W.ks_superIn at hs
    rw [hc] at hs
    have hac : a ≠ C := fun z => by
      unfold PySem.W.clsIn at hc
      split at hc
      · rename_i c d cd' sl ho
        have y := J2.kIn _ _ ho
        rw [← z, hoa2] at y
        cases y
      · cases hc
    have hI : PySem.W.Looks (model P w) h2 (typeOf (.ref a)) (.ref C) := (PySem.W.Looks.ld hoa2).andThen .now
    refine PySem.W.kxs_getMethod PySem.W.kxs_ValueError hso (PySem.W.looks_opaque (hk2.keeps J2.bk) T.hop) (l₀ := cd.mro) (fun A Q E s k q => wpAny_bind ((PySem.W.looks_clsIn J2.kIn hc) A _ E s k (wpAny_pure q))) rfl J2.kIn hs (hI.andThen (PySem.W.looks_subIn J2.kIn hsup.sub)) hac (by decide) ?_
    have k3 : ∀ b o, h2.get? b = some o → (h2.push (PySem.W.kxs_mw "ValueError.__init__" a)).get? b = some o := fun b o e => Heap.get?_push_of_some _ e
    have J3 := J2.kept (t' := s.toks + ((["self", "value"] : List Str).zip [Value.ref a, u]).length + 1) k3
    have hn : H h2.objs.size = none := J2.hok.fresh (Nat.le_refl _)
    have J4 := J3.pins_of (pins' := [(h2.objs.size, PySem.W.kxs_mw "ValueError.__init__" a)]) fun p hp => by
      rcases List.mem_cons.mp hp with rfl | hp
      · exact ⟨Heap.get?_push_at rfl rfl, hn, Nat.ne_of_gt J2.lt, J2.nofs (Nat.le_refl _), fun v z => by cases z⟩
      · cases hp
    have vv : Vis (iniCx P w K mg base T.scope fI T.cda T.cc A outer s H E).env.scope "value" := .inl T.nval
    have pv : PA (iniCx P w K mg base T.scope fI T.cda T.cc A outer s H E) [.Name "value" T.p3] (tCons (tVar 1) tNil) := pa_cons (pe_var rfl vv) pa_nil
    refine PySem.W.kxs_callWith (i := "ValueError.__init__") (x := a) rfl (PySem.Calls.evalArgs_plain (thn (pv.run T.p4 _ _ [some (.ref a), some v] H (fun vs H1 => vs = [v] ∧ H1 = H) J4 ?_) fun us s1 ⟨vs, H1, J5, r1, ev, eH⟩ => ?_))
    · exact ⟨v, rfl, rfl, rfl⟩
    · subst ev
      rw [eH] at J5
      cases r1 with
      | cons rv5 r0 =>
        cases r0
        obtain ⟨nm, q, N, bs, bm, sn, sub, ab, col, dd, k0, k1, k2', k3', k5, hC, hbm⟩ := oex.cls
        obtain ⟨t5, hoa5⟩ := exo_at J5.hok ha
        have hu := (J5.pin _ (List.mem_append_right _ (List.mem_cons_self ..))).1
        refine ⟨hu, ?_⟩
        obtain ⟨hp5, g5, d5, tk5, os5⟩ := s1
        refine call_mw (J5.kIn _ _ hC) hoa5 hu (by show 1 ≤ sizeLine; rw [sizeLine_eq]; decide) (fun h6 t6 k6 hx => ?_)
        have J6 := J5.write (t' := tk5) (x := a) (e := a) (o := exo a C none) (by rw [ha]; exact True.intro) (.inl rfl) k6 ⟨_, hx⟩ (exo_ok hx)
        have eu : upd H a (exo a C none) = H := by
          funext b
          by_cases hb : b = a
          · rw [hb, upd_same, ha]
          · rw [upd_ne hb]
        rw [eu] at J6
        have vs : Vis (iniCx P w K mg base T.scope fI T.cda T.cc A outer s H E).env.scope "self" := .inl T.nself
        have st2 := (pss_one (ps_ost (f := "value") (p' := T.p7) (pos := T.p9) (pe_var (i := 0) (pos := T.p6) rfl vs) (pe_var (i := 1) (pos := T.p8) rfl vv) rfl)).run _ _ _ _ { nx := fun σ H => Q .non H, rt := Q } J6 ⟨v, rfl, .ref a, rfl, a, C, rfl, oex, hno, .inl ⟨ha, fun dx nx nd => hq dx nx nd⟩⟩
        refine wpAt_of_wpAny (wpAny_mono st2 (fun f s7 h7 => ?_) fun e s7 h7 => h7)
        cases f with
        | next =>
          obtain ⟨σ', H', J, q⟩ := h7
          exact ⟨.non, H', J.os, J.bare, J.base, J.hok, rfl, q⟩
        | brk => obtain ⟨_, _, _, z⟩ := h7; exact z.elim
        | cont => obtain ⟨_, _, _, z⟩ := h7; exact z.elim
        | ret u' =>
          obtain ⟨v', σ', H', J, r, q⟩ := h7
          exact ⟨v', H', J.os, J.bare, J.base, J.hok, r, q⟩
end
end L3

set_option maxHeartbeats 2000000
/-! L4E: closures as data. A lambda's object is frozen; what calling it answers is told over a base that holds its cells. -/
namespace L3
open PySem PySem.Spec PyProof.Rows L2
/-- what closures answer: which data are such, what a call tells -/
structure TLs where
  dom : D → Prop
  tl : D → List D → Nat → KD → KXD → Prop
def FnData (o : Obj) : Prop := ∃ cls dict fd sl, o = ⟨cls, dict, .func fd, sl⟩
def ActsB (P : Program) (w : World) (K : PySem.W.Frag) (mg : Str → Option Value) (base : Heap) (k : Nat) (T : TLs) : Prop :=
  ∀ d, T.dom d → ∃ f F0 p0 o, d = .lam f F0 p0 ∧ F0 f = some (FunO f o) ∧ FnData o ∧
    ∀ (A : Around) (outer : List Env) (s : Shared) (H : Hp), Room k A → Env0 P w K mg base A outer s H → ∀ (ds : List D) (us : List Value) (vs : List V) (p : Pn) (c : Nat) (F : Hp) (Q : VK) (Q' : KD) (QX : KXD) (W : XK),
      Ok3 p c F H → Rep K p F d (.ref f) → RepL K p F ds vs → Vals vs us → T.tl d ds c Q' QX → Tell K p F H Q' Q → TellX K p F H QX W →
      codeAny (model P w) A (.call (.ref f) ⟨us, []⟩) (CR (L2.CX P w) outer P w H s Q W) s
/-! ### a lambda's names -/
structure LamN (sc scope : Scope) (ps : List Str) : Prop where
  kind : scope.kind = .function
  co : scope.isCoroutine = false
  gen : scope.isGenerator = false
  par : ∀ h ∈ ps, scope.names.lookup h = some .local
  own : ∀ y ∈ scope.names, y.2 ≠ .cell ∧ (y.2 = .local → y.1 ∈ ps)
  free : ∀ y ∈ scope.names, y.2 = .free → sc.names.lookup y.1 = some .cell ∨ sc.names.lookup y.1 = some .free
def lamNB (sc scope : Scope) (ps : List Str) : Bool :=
  decide (scope.kind = .function) && !scope.isCoroutine && !scope.isGenerator && (ps.all fun h => decide (scope.names.lookup h = some .local)) &&
    scope.names.all fun y => !decide (y.2 = .cell) && (!decide (y.2 = .local) || decide (y.1 ∈ ps)) && (!decide (y.2 = .free) || decide (sc.names.lookup y.1 = some .cell) || decide (sc.names.lookup y.1 = some .free))
theorem lamN_of {sc scope : Scope} {ps : List Str} (q : lamNB sc scope ps = true) : LamN sc scope ps := by
  unfold lamNB at q
  simp only [Bool.and_eq_true, Bool.or_eq_true, Bool.not_eq_true', decide_eq_true_eq, decide_eq_false_iff_not, List.all_eq_true] at q
  obtain ⟨⟨⟨⟨h1, h2⟩, h3⟩, h5⟩, h4⟩ := q
  refine ⟨h1, h2, h3, h5, fun y hy => ⟨(h4 y hy).1.1, fun e => ?_⟩, fun y hy e => ?_⟩
  · rcases (h4 y hy).1.2 with z | z
    · exact absurd e z
    · exact z
  · rcases (h4 y hy).2 with (z | z) | z
    · exact absurd e z
    · exact .inl z
    · exact .inr z
def maskNB (sc : Scope) (ps : List Str) : List Str → List Str → Bool
  | [], [] => true
  | a :: l, b :: m => ((decide (b = a) && !decide (b ∈ ps)) || decide (sc.names.lookup b = none)) && maskNB sc ps l m
  | _, _ => false
structure MaskN (sc : Scope) (ps N N2 : List Str) : Prop where
  len : N2.length = N.length
  at_ : ∀ (i : Nat) (y : Str), N2[i]? = some y → Vis sc y → N[i]? = some y ∧ y ∉ ps
theorem maskN_of {sc : Scope} {ps : List Str} : ∀ {N N2 : List Str}, maskNB sc ps N N2 = true → MaskN sc ps N N2
  | [], [], _ => ⟨rfl, fun i y e => by simp at e⟩
  | a :: l, b :: m, q => by
    unfold maskNB at q
    rw [Bool.and_eq_true] at q
    have r := maskN_of q.2
    refine ⟨by rw [List.length_cons, List.length_cons, r.len], fun i y e v => ?_⟩
    cases i with
    | zero =>
      cases (show some b = some y from e)
      rcases Bool.or_eq_true_iff.mp q.1 with z | z
      · rw [Bool.and_eq_true] at z
        refine ⟨by rw [of_decide_eq_true z.1]; rfl, fun w => ?_⟩
        have := z.2
        rw [decide_eq_true w] at this
        cases this
      · have z := of_decide_eq_true z
        rcases v with v | v | v <;> rw [z] at v <;> cases v
    | succ i => exact r.at_ i y e v
  | [], b :: m, q => by cases q
  | a :: l, [], q => by cases q
abbrev lamCxN (X : Cx) (A : Around) (outer : List Env) (s : Shared) (H : Hp) (E : XK) (scope : Scope) (f c' : Addr) (N2 ps : List Str) : Cx := { LamX.lamCx X A outer s H E scope f c' with N := N2 ++ ps }
theorem zip_one {ps : List Str} {us : List Value} {y : Str} {u u' : Value} (nd : ps.Nodup) (h1 : (y, u) ∈ ps.zip us) (h2 : (y, u') ∈ ps.zip us) : u = u' := by
  induction ps generalizing us with
  | nil => simp at h1
  | cons a ps ih =>
    cases us with
    | nil => simp at h1
    | cons b us =>
      rw [List.nodup_cons] at nd
      rw [List.zip_cons_cons, List.mem_cons] at h1 h2
      rcases h1 with h1 | h1 <;> rcases h2 with h2 | h2
      · cases h1; cases h2; rfl
      · cases h1; exact absurd (List.of_mem_zip h2).1 nd.1
      · cases h2; exact absurd (List.of_mem_zip h1).1 nd.1
      · exact ih nd.2 h1 h2
theorem zip_look {ps : List Str} {us : List Value} {y : Str} {u : Value} {j : Nat} (nd : ps.Nodup) (h1 : ps[j]? = some y) (h2 : us[j]? = some u) : (ps.zip us).reverse.lookup y = some u := by
  have hm : (y, u) ∈ ps.zip us := List.mem_of_getElem? (i := j) (by rw [List.getElem?_zip_eq_some]; exact ⟨h1, h2⟩)
  obtain ⟨u', e⟩ := mem_lookup (List.mem_reverse.mpr hm)
  rw [e, zip_one nd hm (List.mem_reverse.mp (PySem.mem_of_lookup e))]
theorem vals_at {vs : List V} {us : List Value} (r : Vals vs us) : ∀ {j : Nat} {v : V}, vs[j]? = some v → ∃ u, us[j]? = some u ∧ RelV v u := by
  induction r with
  | nil => intro j v h; simp at h
  | cons r t ih =>
    intro j v h
    cases j with
    | zero => cases h; exact ⟨_, rfl, r⟩
    | succ j => exact ih (by simpa using h)
section
variable {X : Cx} {pins : List (Addr × Obj)} {σ : L2.St} {H HZ : Hp} {s s1 : Shared}
theorem lamN_begin {A : Around} {outer : List Env} {E : XK} {scope : Scope} {f c' : Addr} {h₁ : Heap} {tk : Nat} {ps N2 : List Str} {vs : List V} {us : List Value} (I : Inv X pins σ H s) (L : LamN X.env.scope scope ps) (hnew : MaskN scope ps X.N N2)
    (e0 : Env0 X.prog X.w X.K X.mg X.base A outer s1 HZ) (hd : A.handled = none) (hcell : ∀ y c, X.env.cells.lookup y = some c → ∀ o, s.heap.get? c = some o → s1.heap.get? c = some o ∧ HZ c = none)
    (hns : h₁.Ns s1.heap.objs.size fun y => (ps.zip us).reverse.lookup y) (kp : ∀ b o, s1.heap.get? b = some o → h₁.get? b = some o) (rv : Vals vs us) (hl : vs.length = ps.length) (nd : ps.Nodup) :
    Inv (lamCxN X A outer s1 HZ E scope f c' N2 ps) [] (σ ++ vs.map some) HZ { s1 with heap := h₁, toks := tk } := by
  have hasC : ∀ y ∈ scope.names, y.2 = .free → ∃ c, X.env.cells.lookup y.1 = some c := fun y hy e => (L.free y hy e).elim (fun k => I.ok.has _ (.inl k)) (fun k => I.ok.has _ (.inr k))
  have toX : ∀ {y c}, (cloFrom X.env.cells scope.names []).lookup y = some c → X.env.cells.lookup y = some c := fun {y c} e => by
    rcases cloFrom_mem (PySem.mem_of_lookup e) with hm | ⟨h1, h2⟩
    · cases hm
    · obtain ⟨c1, hc⟩ := hasC _ h1 rfl
      simp only at hc h2
      rw [hc] at h2
      rw [h2]
      exact hc
  have ofX : ∀ {y}, scope.names.lookup y = some .free → ∃ c, (cloFrom X.env.cells scope.names []).lookup y = some c := fun {y} hl => mem_lookup (cloFrom_has (cells := X.env.cells) (acc := []) (PySem.mem_of_lookup hl))
  have stays : ∀ {y : Str} {c : Addr} {v : Option Value}, X.env.cells.lookup y = some c → s.heap.IsCell c v → h₁.IsCell c v := fun {y c v} n ⟨o, ho, hd⟩ => ⟨_, kp _ _ (hcell y c n o ho).1, hd⟩
  have none_ : ∀ b : Addr, b ∉ (lamCxN X A outer s1 HZ E scope f c' N2 ps).ex := fun b z => absurd (show b ∈ ([] : List Addr) from z) (by simp)
  refine ⟨⟨e0.mod, L.kind, rfl, rfl, Nat.le_refl _, fun y z c e1 e2 => I.ok.inj y z c (toX e1) (toX e2), fun y hy => ?_, fun y c z _ => ?_, fun _ => hd, Around.frames_deeper e0.frames, .inr ⟨rfl, rfl⟩, fun b z => absurd z (none_ b), e0.bs, e0.bsz, fun b _ _ => none_ b,
      fun b z => absurd z (none_ b), e0.funs, e0.frf⟩,
    rfl, e0.bare, Un.kept kp, ⟨_, hns, fun i y v' e1 e2 e3 => ?_⟩, fun y c e => ?_, e0.hok.fresh (Nat.le_refl _), fun y c e => ?_, fun q hq => absurd (show q ∈ ([] : List (Addr × Obj)) ++ [] from hq) (by simp), e0.hok.kept kp, ?_⟩
  · have hy : scope.names.lookup y = some .cell ∨ scope.names.lookup y = some .free := hy
    rcases hy with hy | hy
    · exact absurd rfl (L.own _ (PySem.mem_of_lookup hy)).1
    · exact ofX hy
  · have z : false = true := z
    cases z
  · have e1 : (N2 ++ ps)[i]? = some y := e1
    have e3 : Vis scope y := e3
    by_cases hi : i < N2.length
    · rw [List.getElem?_append_left hi] at e1
      rw [List.getElem?_append_left (by rw [I.len, ← hnew.len]; exact hi)] at e2
      obtain ⟨e1, hyh⟩ := hnew.at_ i y e1 e3
      rcases e3 with k | k | k
      · exact absurd ((L.own _ (PySem.mem_of_lookup k)).2 rfl) hyh
      · exact absurd rfl (L.own _ (PySem.mem_of_lookup k)).1
      · obtain ⟨m, hn, hl⟩ := I.loc
        have hvis : Vis X.env.scope y := (L.free _ (PySem.mem_of_lookup k) rfl).elim (fun k => .inr (.inl k)) (fun k => .inr (.inr k))
        obtain ⟨w', r, q⟩ := hl i y v' e1 e2 hvis
        obtain ⟨c2, h2⟩ := ofX k
        refine ⟨w', r, .inr ⟨.inr k, c2, h2, ?_⟩⟩
        have c1 := toX h2
        rcases q with ⟨k', _⟩ | ⟨_, c3, e', z⟩
        · have k' : X.env.scope.names.lookup y = some .local := k'
          rcases L.free _ (PySem.mem_of_lookup k) rfl with k2 | k2 <;> rw [show X.env.scope.names.lookup y = _ from k2] at k' <;> cases k'
        · rw [c1] at e'
          cases e'
          exact stays c1 z
    · rw [List.getElem?_append_right (Nat.le_of_not_lt hi)] at e1
      have hs : σ.length = N2.length := by rw [I.len, hnew.len]
      rw [List.getElem?_append_right (by rw [hs]; exact Nat.le_of_not_lt hi), hs, List.getElem?_map] at e2
      cases e4 : vs[i - N2.length]? with
      | none => rw [e4] at e2; cases e2
      | some v0 =>
        rw [e4] at e2
        cases e2
        obtain ⟨u, g1, g2⟩ := vals_at rv e4
        exact ⟨u, g2, .inl ⟨L.par y (List.mem_of_getElem? e1), zip_look nd e1 g1⟩⟩
  · obtain ⟨w', z⟩ := I.cell y c (toX e)
    exact ⟨w', stays (toX e) z⟩
  · obtain ⟨v, o, ho, hd⟩ := I.cell y c (toX e)
    exact (hcell y c (toX e) o ho).2
  · show (σ ++ vs.map some).length = (N2 ++ ps).length
    rw [List.length_append, List.length_append, I.len, hnew.len, List.length_map, hl]
/-- the base grown by the cells of a def's own frame -/
theorem grow (I : Inv X pins σ H s) (hfn : ∀ y, X.fn y = true) (hst : X.stack = X.env :: X.outer) (hfr : X.env.frame = some X.env.locals) : ∃ B : Heap, X.base.objs.size ≤ B.objs.size ∧ (∀ b o, X.base.get? b = some o → B.get? b = some o) ∧ (∀ y c, X.env.cells.lookup y = some c → ∀ o, s.heap.get? c = some o → B.get? c = some o) ∧ Env0 X.prog X.w X.K X.mg B X.A X.stack s H := by
  have e0 := I.env0
  let pb : Addr → Bool := fun b => (X.base.get? b).isSome || X.env.cells.any fun q => decide (X.env.cells.lookup q.1 = some b)
  let l := (List.range s.heap.objs.size).filter fun b => !pb b
  have inl : ∀ b, b < s.heap.objs.size → pb b = false → b ∈ l := fun b h1 h2 => List.mem_filter.mpr ⟨List.mem_range.mpr h1, by simp [h2]⟩
  have nil : ∀ b, pb b = true → b ∉ l := fun b h hm => by
    have := (List.mem_filter.mp hm).2
    rw [h] at this
    cases this
  have pc : ∀ y c, X.env.cells.lookup y = some c → pb c = true := fun y c e => by
    show ((X.base.get? c).isSome || X.env.cells.any fun q => decide (X.env.cells.lookup q.1 = some c)) = true
    rw [Bool.or_eq_true]
    exact .inr (List.any_eq_true.mpr ⟨(y, c), PySem.mem_of_lookup e, decide_eq_true e⟩)
  have up : ∀ b o, X.base.get? b = some o → (PySem.W.hideAll s.heap l).get? b = some o := fun b o e => PySem.W.hideAll_get l (e0.bs b o e).1 (nil b (by
    show ((X.base.get? b).isSome || X.env.cells.any fun q => decide (X.env.cells.lookup q.1 = some b)) = true
    rw [e]; rfl))
  have yes : ∀ b o, (PySem.W.hideAll s.heap l).get? b = some o → pb b = true ∧ s.heap.get? b = some o := fun b o e => by
    have z := PySem.W.of_hideAll l e
    refine ⟨?_, z⟩
    cases q : pb b with
    | true => rfl
    | false => rw [PySem.W.hideAll_none l (inl b (Heap.lt_size z) q)] at e; cases e
  have src : ∀ b, pb b = true → (∃ o, X.base.get? b = some o) ∨ ∃ y, X.env.cells.lookup y = some b := fun b h => by
    have h : ((X.base.get? b).isSome || X.env.cells.any fun q => decide (X.env.cells.lookup q.1 = some b)) = true := h
    rw [Bool.or_eq_true] at h
    rcases h with h | h
    · exact .inl (Option.isSome_iff_exists.mp h)
    · obtain ⟨q, _, e⟩ := List.any_eq_true.mp h
      exact .inr ⟨q.1, of_decide_eq_true e⟩
  refine ⟨PySem.W.hideAll s.heap l, by rw [PySem.W.hideAll_size]; exact e0.bsz, up, fun y c e o ho => PySem.W.hideAll_get l ho (nil c (pc y c e)), e0.frames, ⟨e0.mod.kin.keeps up, e0.mod.glob.keeps up, ?_, e0.mod.nolimit.keeps up⟩, fun b o e => ?_, ?_, ?_, e0.frf, e0.hok, e0.bare⟩
  · obtain ⟨mb, b1, b2⟩ := e0.mod.blt
    exact ⟨mb, b1.keeps up, b2⟩
  · obtain ⟨h1, h2⟩ := yes b o e
    refine ⟨h2, ?_⟩
    rcases src b h1 with ⟨o', z⟩ | ⟨y, z⟩
    · exact (e0.bs b o' z).2
    · exact I.freeC y b z
  · rw [PySem.W.hideAll_size]
    exact Nat.le_refl _
  · refine funFrames_none e0.funs fun L hL => ?_
    cases e : (PySem.W.hideAll s.heap l).get? L with
    | none => rfl
    | some o =>
      obtain ⟨h1, h2⟩ := yes L o e
      rcases src L h1 with ⟨o', z⟩ | ⟨y, z⟩
      · have := (e0.funs.mem hL).1
        rw [z] at this
        cases this
      · exfalso
        have ge : X.s_0.heap.objs.size ≤ L := I.ok.cab y L (hfn y) z
        rw [hst] at hL
        obtain ⟨env, he, q⟩ := List.mem_filterMap.mp hL
        rcases List.mem_cons.mp he with rfl | he
        · rw [hfr] at q
          exact I.cne y L z (Option.some.inj q).symm
        · obtain ⟨_, o', e', _⟩ := I.ok.funs.mem (List.mem_filterMap.mpr ⟨env, he, q⟩)
          exact absurd (Heap.lt_size e') (Nat.not_lt.mpr ge)
end
end L3

set_option maxHeartbeats 2000000
/-! L4F: a lambda made, its call, a def that gets it. -/
namespace L3
open PySem PySem.Spec PyProof.Rows L2
/-- a lambda of this frame: n parameters, its reading -/
def LamOk (X : Cx) (k : Nat) (o : Obj) (n : Nat) (fx : FEX) : Prop := ∃ (params : Arguments) (body : Expr) (scope : Scope) (pm ctv : Value) (c' : Addr) (ps N2 : List Str), o = lamO X params body scope pm ctv c' ∧ ps.length = n ∧ ps.Nodup ∧ LamN X.env.scope scope ps ∧ MaskN scope ps X.N N2 ∧
  (∀ (pm cv ctv : Value) (us : List Value), us.length = ps.length → bindArgs (PySem.W.kla_fn "<lambda>" (X.env.qual ++ "<lambda>") params body scope (cloFrom X.env.cells scope.names []) pm cv ctv) ⟨us, []⟩ = pure (ps.zip us)) ∧
  ∀ (A : Around) (outer : List Env) (s : Shared) (H : Hp) (E : XK) (f c' : Addr), Room k (A.deeper (LamX.lamEnv X scope s.heap.objs.size f c')) → EY (lamCxN X A outer s H E scope f c' N2 ps) E body fx
@[simp ↓] def eMk (is : Nat → Obj → Prop) (j : Nat) : FE := fun _ c Q => ∀ f o, is j o → Q (.clo f o) c
theorem lamO_code {X : Cx} {params : Arguments} {body : Expr} {scope : Scope} {pm ctv : Value} {c' : Addr} : codeOf (lamO X params body scope pm ctv c') = some (c', X.env.qual ++ "<lambda>") := rfl
section
variable {X : Cx} {pins : List (Addr × Obj)} {σ : L2.St} {H HZ : Hp} {s s1 : Shared}
theorem funO_ok {h : Heap} {f : Addr} {o : Obj} {P : Program} {w : World} {H : Hp} (e : h.get? f = some o) : ObjOk P w H h f (FunO f o) := ⟨e, ⟨_, e⟩, fun _ _ p k => k _ p⟩
/-- a lambda is made: its object is known from now on -/
theorem lam_madeT {T : List (Addr × Str)} {c P : Addr} {params : Arguments} {body : Expr} {scope : Scope} {pos : Pos} {E : Value → Shared → Prop} {Q : Value → Shared → Prop} (I : Inv X pins σ H s) (TB : LamX.TabB X.base X.mg c P) (hcode : X.env.code = .ref c)
    (hm : (P, X.env.qual ++ "<lambda>") ∈ T) (hu : ∀ p ∈ T, p.1 = P → p.2 = X.env.qual ++ "<lambda>") (hT : LamX.Tabs T H) (hdef : defaultsOf params X.env = ([], [])) (hfree : ∀ y ∈ scope.names, y.2 = .free → ∃ c, X.env.cells.lookup y.1 = some c)
    (h : ∀ (f c' : Addr) (pm ctv : Value) (H1 : Hp) (s' : Shared), Inv X pins σ (upd H1 f (FunO f (lamO X params body scope pm ctv c'))) s' → H1 f = none → LamX.ExtN H H1 → (∀ b, H1 b = none → H b = none) → LamX.Tabs T H1 → H1 c' = some (LamX.CodeO c' (X.env.qual ++ "<lambda>")) → Q (.ref f) s') :
    wpAny (model X.prog X.w) X.A (eval (.Lambda params body scope pos) X.env) Q E s := by
  obtain ⟨ps, hP, ht, ha⟩ := hT _ hm
  have bP : s.heap.BuiltinsAt X.mg P := TB.bm.keeps I.bk
  have hP' : s.heap.get? P = some { cls := .none, data := .fields ps } := I.hok P _ hP
  refine PySem.W.kla_eval hdef ?_
  cases hc : codeAmong pos ps.toList with
  | some cv =>
    obtain ⟨c', e, hco⟩ := ha pos cv hc
    subst e
    refine PySem.W.kla_makeFunctionHit (mg := X.mg) (c := c) (P := P) (ps := ps) (closure_ok hfree) I.ok.glob (I.mod.glob.keeps I.bk) hcode (TB.code.keeps I.bk) hP' ht hc bP fun ctv h' tk hx hsz => ?_
    have J := I.laid (t' := tk) (h' := h'.push (lamO X params body scope ((X.mg "__name__").getD .none) ctv c')) (a := h'.objs.size) (o := FunO h'.objs.size (lamO X params body scope ((X.mg "__name__").getD .none) ctv c')) (fun b o e => Heap.get?_push_of_some _ (hx b o e)) hsz (funO_ok (Heap.get?_push_size _ rfl))
    exact h h'.objs.size c' _ ctv H _ J (I.hok.fresh hsz) (LamX.ExtN.refl H) (fun _ z => z) hT hco
  | none =>
    refine PySem.W.kla_makeFunction (mg := X.mg) (c := c) (P := P) (ps := ps) (closure_ok hfree) I.ok.glob (I.mod.glob.keeps I.bk) hcode (TB.code.keeps I.bk) hP' ht hc TB.gP bP fun c' ctv h' tk hx hge hlt hrec htb => ?_
    obtain ⟨c2, oc, vs, t, e2, hoc, hd, hv⟩ := hrec
    cases e2
    have nC : H c' = none := I.hok.fresh hge
    have nPc : P ≠ c' := ne_of_none hP nC
    have J := LamX.inv_table (q := X.env.qual ++ "<lambda>") (t' := tk) (more := #[rawInt pos.line, rawInt pos.col, .ref c']) (h' := h') I hP hx htb hge ⟨oc, vs, t, hoc, hd, hv⟩
    have hE : LamX.ExtN H (upd (upd H P (.tbl (ps ++ #[rawInt pos.line, rawInt pos.col, .ref c']))) c' (LamX.CodeO c' (X.env.qual ++ "<lambda>"))) := fun b o e n => by
      rw [upd_ne (ne_of_none e nC), upd_ne (fun z => n ps (Option.some.inj (e.symm.trans (by rw [z]; exact hP))))]
      exact e
    have J2 := J.laid (t' := tk) (h' := h'.push (lamO X params body scope ((X.mg "__name__").getD .none) ctv c')) (a := h'.objs.size) (o := FunO h'.objs.size (lamO X params body scope ((X.mg "__name__").getD .none) ctv c')) (fun b o e => Heap.get?_push_of_some _ e) (Nat.le_refl _) (funO_ok (Heap.get?_push_size _ rfl))
    refine h h'.objs.size c' _ ctv _ _ J2 (J.hok.fresh (Nat.le_refl _)) hE (fun b z => ?_) (fun p hp => ?_) upd_same
    · by_cases h1 : b = c'
      · rw [h1]; exact nC
      · rw [upd_ne h1] at z
        by_cases h2 : b = P
        · rw [h2, upd_same] at z; cases z
        · rw [upd_ne h2] at z; exact z
    · by_cases hb : p.1 = P
      · rw [hu p hp hb, hb]
        have eL : (ps ++ #[rawInt pos.line, rawInt pos.col, .ref c']).toList = ps.toList ++ [rawInt pos.line, rawInt pos.col, .ref c'] := by simp
        refine ⟨_, by rw [upd_ne nPc, upd_same], by rw [eL]; exact PySem.TriplesOk_snoc _ _ _ _ ht, fun p' cv hcv => ?_⟩
        rw [eL] at hcv
        rcases LamX.among_app _ ht hcv with z | z
        · obtain ⟨c0, e1, e2⟩ := ha p' cv z
          exact ⟨c0, e1, hE _ _ e2 LamX.codeO_ne⟩
        · exact ⟨c', z, upd_same⟩
      · obtain ⟨ps', a1, a2, a3⟩ := hT p hp
        refine ⟨ps', by rw [upd_ne (ne_of_none a1 nC), upd_ne hb]; exact a1, a2, fun p' cv hcv => ?_⟩
        obtain ⟨c0, e1, e2⟩ := a3 p' cv hcv
        exact ⟨c0, e1, hE _ _ e2 LamX.codeO_ne⟩
end
section
variable {X : Cx}
/-- lambda ps: body, as a value -/
theorem ex_mk {is : Nat → Obj → Prop} {j n kk : Nat} {fx : FEX} {c P : Addr} {params : Arguments} {body : Expr} {scope : Scope} {pos : Pos} {ps N2 : List Str} (hj : ∀ o, LamOk X kk o n fx → is j o)
    (TB : LamX.TabB X.base X.mg c P) (hcode : X.env.code = .ref c) (hmT : (P, X.env.qual ++ "<lambda>") ∈ tabs0) (hu : ∀ p ∈ tabs0, p.1 = P → p.2 = X.env.qual ++ "<lambda>") (hdef : defaultsOf params X.env = ([], []))
    (hn : ps.length = n) (nd : ps.Nodup) (L : LamN X.env.scope scope ps) (hnew : MaskN scope ps X.N N2)
    (hbind : ∀ (pm cv ctv : Value) (us : List Value), us.length = ps.length → bindArgs (PySem.W.kla_fn "<lambda>" (X.env.qual ++ "<lambda>") params body scope (cloFrom X.env.cells scope.names []) pm cv ctv) ⟨us, []⟩ = pure (ps.zip us))
    (hbody : ∀ (A : Around) (outer : List Env) (s : Shared) (H : Hp) (E : XK) (f c' : Addr), Room kk (A.deeper (LamX.lamEnv X scope s.heap.objs.size f c')) → EY (lamCxN X A outer s H E scope f c' N2 ps) E body fx) :
    EX X (.Lambda params body scope pos) (eMk is j) := by
  refine ⟨fun pins s σ H Q I ⟨p, c0, ρ, F, Q', est, hq, t⟩ => ?_⟩
  have hasC : ∀ y ∈ scope.names, y.2 = .free → ∃ c, X.env.cells.lookup y.1 = some c := fun y hy e => (L.free y hy e).elim (fun k => I.ok.has _ (.inl k)) (fun k => I.ok.has _ (.inr k))
  refine lam_madeT I TB hcode hmT hu est.ok.tab.tabs hdef hasC fun f c' pm ctv H1 s' J nf eN th T1 hco => ?_
  generalize ho : lamO X params body scope pm ctv c' = o at J
  have hcd : codeOf o = some (c', X.env.qual ++ "<lambda>") := by rw [← ho]; rfl
  have nfH : H f = none := th f nf
  have nfc : f ≠ c' := fun z => by rw [z, hco] at nf; cases nf
  have hF1 : ∀ b u, F b = some u → H1 b = some u := fun b u e => eN b u (est.ok.sub b u e) (fun ps z => est.ok.nt.t b ps (z ▸ e))
  have hF : ∀ b u, F b = some u → upd (upd F c' (LamX.CodeO c' (X.env.qual ++ "<lambda>"))) f (FunO f o) b = some u := fun b u e => by
    have h1 := hF1 b u e
    rw [upd_ne (ne_of_none h1 nf)]
    by_cases e2 : b = c'
    · subst e2
      rw [upd_same]
      exact hco.symm.trans h1
    · rw [upd_ne e2]; exact e
  have w : Fwd p F H (upd (upd F c' (LamX.CodeO c' (X.env.qual ++ "<lambda>"))) f (FunO f o)) (upd H1 f (FunO f o)) := by
    refine ⟨hF, fun b u e _ tb => ?_, fun b u e => ?_, fun b e => ?_⟩
    · have h1 := eN b u e tb
      rw [upd_ne (ne_of_none h1 nf)]
      exact h1
    · by_cases e1 : b = f
      · subst e1; exact .inr (.inl nfH)
      · rw [upd_ne e1] at e
        by_cases e2 : b = c'
        · subst e2
          rw [upd_same] at e
          cases e
          exact .inr (.inr ⟨_, rfl⟩)
        · rw [upd_ne e2] at e; exact .inl e
    · by_cases e1 : b = f
      · subst e1; exact nfH
      · rw [upd_ne e1] at e; exact th b e
  have ok : Ok3 p c0 (upd (upd F c' (LamX.CodeO c' (X.env.qual ++ "<lambda>"))) f (FunO f o)) (upd H1 f (FunO f o)) := by
    refine ⟨fun b u e => ?_, fun a e => ?_, ⟨?_, fun q hq => ?_⟩, ⟨fun b ps e => ?_, fun b u e => hF b u (est.ok.nt.f b u e)⟩⟩
    · by_cases e1 : b = f
      · subst e1; rw [upd_same] at e ⊢; exact e
      · rw [upd_ne e1] at e ⊢
        by_cases e2 : b = c'
        · subst e2; rw [upd_same] at e; cases e; exact hco
        · rw [upd_ne e2] at e; exact hF1 b u e
    · obtain ⟨⟨x, y, z, q, r⟩, nn⟩ := est.ok.pot a e
      have q1 := eN a _ q (fun _ z => nomatch z)
      have n1 : a ≠ f := ne_of_none q1 nf
      have n2 : a ≠ c' := fun z => by rw [z, hco] at q1; exact absurd (Option.some.inj q1) codeO_lst
      exact ⟨⟨x, y, z, by rw [upd_ne n1]; exact q1, r⟩, by rw [upd_ne n1, upd_ne n2]; exact nn⟩
    · exact T1.ext fun b u e => by rw [upd_ne (ne_of_none e nf)]; exact e
    · have h1 := eN _ _ (est.ok.tab.cod q hq) LamX.codeO_ne
      rw [upd_ne (ne_of_none h1 nf)]; exact h1
    · by_cases e1 : b = f
      · subst e1; rw [upd_same] at e; unfold FunO at e; cases e
      · rw [upd_ne e1] at e
        by_cases e2 : b = c'
        · subst e2; rw [upd_same] at e; unfold LamX.CodeO at e; cases e
        · rw [upd_ne e2] at e; exact est.ok.nt.t b ps e
  refine ⟨.ref f, _, J, rfl, t (.clo f o) c0 (.ref f) _ _ w ok ⟨rfl, upd_same, c', _, hcd, by rw [upd_ne (Ne.symm nfc), upd_same]⟩ (hq f o (hj o ⟨params, body, scope, pm, ctv, c', ps, N2, ho.symm, hn, nd, L, hnew, hbind, hbody⟩))⟩
end
end L3

set_option maxHeartbeats 2000000
/-! L4G: closures called; defs that get closures. -/
namespace L3
open PySem PySem.Spec PyProof.Rows L2
/-- closures of a frame as its callees see them -/
def tlsG (is : Nat → Obj → Prop) (here : Addr → Obj → Prop) (cv : Addr → Obj → D) (tab : Nat → Nat × FEX) (ρ : Rho) : TLs :=
  ⟨fun d => ∃ j f o, is j o ∧ here f o ∧ d = cv f o, fun d ds c Q QX => ∃ j f o, is j o ∧ here f o ∧ d = cv f o ∧ (tab j).1 = ds.length ∧ (tab j).2 (ρ ++ ds.map some) c Q QX⟩
def cvE (cv : Addr → Obj → D) : D → D
  | .clo f o => cv f o
  | d => d
def cvD (cv : Addr → Obj → D) : D → D
  | .clo f o => cv f o
  | .lst l => .lst (l.map (cvE cv))
  | d => d
def OccL (l : List D) (f : Addr) (o : Obj) : Prop := .clo f o ∈ l ∨ ∃ m, .lst m ∈ l ∧ .clo f o ∈ m
@[simp ↓] def eCallG (is : Nat → Obj → Prop) (tab : Nat → Nat × FEX) (m : TLs → FM) (fr : FA) : FE := fun ρ c Q => fr ρ c fun l c => ∀ (here : Addr → Obj → Prop) (cv : Addr → Obj → D), (∀ f o, OccL l f o → here f o) → m (tlsG is here cv tab ρ) (l.map (cvD cv)) c Q
theorem get3_app {ρ : Rho} {ds : List D} : ∀ {i : Nat} {d : D}, get3 (ρ ++ ds.map some) i = some d → get3 ρ i = some d ∨ ∃ j, i = ρ.length + j ∧ ds[j]? = some d := by
  induction ρ with
  | nil =>
    intro i d h
    rw [List.nil_append] at h
    refine .inr ⟨i, (Nat.zero_add i).symm, ?_⟩
    induction ds generalizing i with
    | nil => cases h
    | cons x ds ih =>
      cases i with
      | zero => exact h
      | succ i => simpa using ih h
  | cons r ρ ih =>
    intro i d h
    cases i with
    | zero => exact .inl h
    | succ i =>
      rcases ih (i := i) h with z | ⟨j, z1, z2⟩
      · exact .inl z
      · exact .inr ⟨j, by rw [List.length_cons, z1, Nat.add_right_comm], z2⟩
section
variable {K : PySem.W.Frag} {p : Pn} {F : Hp}
def HereF (F : Hp) (f : Addr) (o : Obj) : Prop := F f = some (FunO f o) ∧ ∃ c q, codeOf o = some (c, q) ∧ F c = some (LamX.CodeO c q)
theorem cvE_rep : ∀ {d : D} {v : V}, Rep K p F d v → Rep K p F (cvE (fun f _ => .lam f F p) d) v
  | .clo f o, _, h => ⟨h.1, fun _ _ z => z, rfl, fun _ z => z⟩
  | .non, _, h => h | .bl _, _, h => h | .int _, _, h => h | .str _, _, h => h | .ty _, _, h => h | .rf _, _, h => h | .lam .., _, h => h | .exc .., _, h => h | .dic _, _, h => h
  | .pot, _, h => h | .scr _, _, h => h | .tup _, _, h => h | .lst _, _, h => h | .dct .., _, h => h
theorem cvE_repL : ∀ {l : List D} {xs : List V}, RepL K p F l xs → RepL K p F (l.map (cvE fun f _ => .lam f F p)) xs
  | [], _, h => h
  | d :: l, _, h => by
    obtain ⟨x, r, rfl, h1, h2⟩ := h
    exact ⟨x, r, rfl, cvE_rep h1, cvE_repL h2⟩
theorem cvD_rep : ∀ {d : D} {v : V}, Rep K p F d v → Rep K p F (cvD (fun f _ => .lam f F p) d) v
  | .clo f o, _, h => ⟨h.1, fun _ _ z => z, rfl, fun _ z => z⟩
  | .lst l, _, h => by
    obtain ⟨a, xs, rfl, h1, h2⟩ := h
    exact ⟨a, xs, rfl, h1, cvE_repL h2⟩
  | .non, _, h => h | .bl _, _, h => h | .int _, _, h => h | .str _, _, h => h | .ty _, _, h => h | .rf _, _, h => h | .lam .., _, h => h | .exc .., _, h => h | .dic _, _, h => h
  | .pot, _, h => h | .scr _, _, h => h | .tup _, _, h => h | .dct .., _, h => h
theorem cvD_repL : ∀ {l : List D} {xs : List V}, RepL K p F l xs → RepL K p F (l.map (cvD fun f _ => .lam f F p)) xs
  | [], _, h => h
  | d :: l, _, h => by
    obtain ⟨x, r, rfl, h1, h2⟩ := h
    exact ⟨x, r, rfl, cvD_rep h1, cvD_repL h2⟩
theorem rep_here {f : Addr} {o : Obj} {v : V} (h : Rep K p F (.clo f o) v) : HereF F f o := ⟨h.2.1, h.2.2⟩
theorem repL_mem : ∀ {l : List D} {xs : List V} {d : D}, RepL K p F l xs → d ∈ l → ∃ v, Rep K p F d v
  | [], _, d, h, hm => by cases hm
  | e :: l, _, d, h, hm => by
    obtain ⟨x, r, rfl, h1, h2⟩ := h
    rcases List.mem_cons.mp hm with z | z
    · subst z; exact ⟨x, h1⟩
    · exact repL_mem h2 z
theorem occ_here {l : List D} {xs : List V} {f : Addr} {o : Obj} (h : RepL K p F l xs) (hm : OccL l f o) : HereF F f o := by
  rcases hm with z | ⟨m, z1, z2⟩
  · obtain ⟨v, r⟩ := repL_mem h z
    exact rep_here r
  · obtain ⟨v, r⟩ := repL_mem h z1
    obtain ⟨a, xs, rfl, h1, h2⟩ := r
    obtain ⟨v, r⟩ := repL_mem h2 z2
    exact rep_here r
end
section
variable {X : Cx} {pins : List (Addr × Obj)} {σ : L2.St} {H : Hp} {s : Shared}
theorem acts_of {kk : Nat} {B : Heap} {p : Pn} {c1 : Nat} {ρ : Rho} {F : Hp} {is : Nat → Obj → Prop} {tab : Nat → Nat × FEX} (I : Inv X pins σ H s) (hsz : X.base.objs.size ≤ B.objs.size) (hB : ∀ b o, X.base.get? b = some o → B.get? b = some o)
    (hcell : ∀ y c, X.env.cells.lookup y = some c → ∀ o, s.heap.get? c = some o → B.get? c = some o) (est : ESt X.K p c1 ρ σ F H) (his : ∀ j o, is j o → LamOk X kk o (tab j).1 (tab j).2) :
    ActsB X.prog X.w X.K X.mg B (kk + 1) (tlsG is (HereF F) (fun f _ => .lam f F p) tab ρ) := by
  intro d ⟨j, f, o, hj, hh, hd⟩
  subst hd
  refine ⟨f, F, p, o, rfl, hh.1, ?_, fun A outer s3 H3 hr e3 ds us vs p3 c3 F3 Q Q' QX W ok3 rd rds rv htl tell tellx => ?_⟩
  · obtain ⟨params, body, scope, pm, ctv, c', ps, N2, ho, _⟩ := his j o hj
    exact ⟨_, _, _, _, ho⟩
  obtain ⟨j', f', o', hj', hh', hd', hlen, hfx⟩ := htl
  cases hd'
  obtain ⟨params, body, scope, pm, ctv, c', ps, N2, ho, hn, nd, L, hnew, hbind, hbody⟩ := his j' o' hj'
  obtain ⟨_, kF, kp, kc⟩ := rd
  obtain ⟨hf, c2, q2, hc1, hc2⟩ := hh'
  rw [ho, lamO_code] at hc1
  cases hc1
  have of3 : s3.heap.get? f = some (lamO X params body scope pm ctv c') := by
    have := (e3.hok f _ (ok3.sub _ _ (kF _ _ hf))).1
    rw [ho] at this
    exact this
  obtain ⟨⟨oc, vs0, t, hoc, hdc, hvc⟩, _, _⟩ := e3.hok c' _ (ok3.sub _ _ (kF _ _ hc2))
  have hus : us.length = ps.length := by rw [← rv.length, rds.len, hn, hlen]
  refine PySem.W.kla_callFunE hr.depth of3 rfl L.co L.gen rfl ⟨c', oc, vs0, t, rfl, hoc, hdc, hvc⟩ ?_
  rw [hbind _ _ _ us hus]
  refine wpAny_pure (wpAny_newFunctionEnv (fun y hy => (L.own y hy).1) (fun y hy => L.par y.1 (List.of_mem_zip hy).1) (fun h₁ hns hsb => ⟨(e3.mod.nolimit.keeps fun b o e => (e3.bs b o e).1).fresh _ hsb, ?_⟩) L.kind)
  show codeAny _ _ (.expr body (LamX.lamEnv X scope s3.heap.objs.size f c')) _ _
  have kp1 : ∀ b o, s3.heap.get? b = some o → h₁.get? b = some o := fun b o e => hsb.extBut b o (Nat.ne_of_lt (Heap.lt_size e)) (Heap.get?_push_of_some _ e)
  have e4 : Env0 X.prog X.w X.K X.mg X.base A outer s3 H3 := ⟨e3.frames, I.ok.mod, fun b o e => e3.bs b o (hB b o e), ?_, funFrames_none e3.funs fun L hL => ?_, e3.frf, e3.hok, e3.bare⟩
  · have J := lamN_begin (f := f) (c' := c') (A := A) (outer := outer) (E := W) (tk := s3.toks + (ps.zip us).length) I L hnew e4 hr.hd (fun y c e o ho => e3.bs c o (hcell y c e o ho)) hns kp1 rv (by rw [rv.length, hus]) nd
    refine PySem.W.kla_codeExpr (wpAny_mono ((hbody A outer s3 H3 W f c' (hr.deeper _)).run [] _ _ H3 Q J ⟨p3, c3, ρ ++ ds.map some, F3, Q', QX, ⟨ok3, fun i d' hi => ?_, ?_⟩, hfx, tell, tellx⟩) (fun v s' hq => ?_) fun e s' hq => hq)
    · rcases get3_app hi with z | ⟨i2, z1, z2⟩
      · obtain ⟨v', y1, y2⟩ := est.slot i d' z
        refine ⟨v', ?_, (Rep.pn (p := p) (p' := p3) kp kc y2).mono kF⟩
        rw [List.getElem?_append_left (List.getElem?_eq_some_iff.mp y1).1]
        exact y1
      · obtain ⟨v', y1, y2⟩ := rds.get z2
        refine ⟨v', ?_, y2⟩
        rw [z1, est.len, List.getElem?_append_right (Nat.le_add_right _ _), Nat.add_sub_cancel_left, List.getElem?_map, y1]
        rfl
    · rw [List.length_append, List.length_append, est.len, List.length_map, List.length_map, rds.len]
    · obtain ⟨w', H', J', rv', q⟩ := hq
      exact ⟨w', H', J'.os, J'.bare, J'.base, J'.hok, rv', q⟩
  · exact Nat.le_trans hsz e3.bsz
  · cases e : X.base.get? L with
    | none => rfl
    | some o =>
      have := (e3.funs.mem hL).1
      rw [hB L o e] at this
      cases this

/-- x(es), x a def that gets closures of this frame -/
theorem ex_callG {k kk n : Nat} {f : Addr} {fd : FuncData} {ps : List Str} {m : TLs → FM} {x : Str} {q1 pos : Pos} {e : Expr} {es : List Expr} {fr : FA} {is : Nat → Obj → Prop} {tab : Nat → Nat × FEX}
    (G : ∀ B : Heap, (∀ b o, X.base.get? b = some o → B.get? b = some o) → ∀ T, ActsB X.prog X.w X.K X.mg B (kk + 1) T → FnOk X.prog X.w X.K X.mg B CX0 k f fd ps (spM X.K n (m T)))
    (his : ∀ j o, is j o → LamOk X kk o (tab j).1 (tab j).2) (hr : Room k X.A) (hm : X.mg x = some (.ref f)) (hk : PySem.W.keepIn X.K (.ref f) = true) (hb : Binds X.K fd ps []) (hn : ps.length = n)
    (hfn : ∀ y, X.fn y = true) (hst : X.stack = X.env :: X.outer) (hfr : X.env.frame = some X.env.locals)
    (ha : AX X (e :: es) fr) (hg : Gl X x := by rfl) (hdb : (x == ("__debug__" : Str)) = false := by decide) (he : starEach (e :: es) X.env = (false, eval e X.env) :: starEach es X.env := by rfl) (hpl : (backTo pos (starEach es X.env)).any (·.1) = false := by rfl)
    (hl : ∀ T l c Q, m T l c Q → l.length = n) : EX X (.Call (.Name x q1) (e :: es) [] pos) (eCallG is tab m fr) := by
  refine ⟨fun pins s σ H Q I ⟨p, c0, ρ, F, Q', est, hq, t⟩ => ?_⟩
  refine wpAny_Call_Name_kw (ld_glob I hg hm ?_ hdb)
  refine PySem.W.callWith_K (h₀ := X.base) I.ok.mod.kin hk (thn (ha.run pos pins s σ H (fun vs H1 => ∃ l c1 F1, Fwd p F H F1 H1 ∧ Ok3 p c1 F1 H1 ∧ RepL X.K p F1 l vs ∧ ∀ (here : Addr → Obj → Prop) (cv : Addr → Obj → D), (∀ f o, OccL l f o → here f o) → m (tlsG is here cv tab ρ) (l.map (cvD cv)) c1 Q') I
    ⟨p, c0, ρ, F, _, est, hq, fun l c1 vs F1 H1 w1 ok1 r1 q1 => ⟨l, c1, F1, w1, ok1, r1, q1⟩⟩) fun us s1 ⟨vs, H1, I1, rv, l, c1, F1, w1, ok1, rl, q2⟩ => ⟨I1.kIn, ?_⟩) he hpl
  obtain ⟨B, hsz, hB, hcell, e0⟩ := grow I1 hfn hst hfr
  have q3 := q2 (HereF F1) (fun f _ => .lam f F1 p) fun f o hm => occ_here rl hm
  have hlen : vs.length = n := by rw [rl.len]; have := hl _ _ _ _ q3; rwa [List.length_map] at this
  have hb1 : BindsTo s1 fd ⟨us, []⟩ (ps.zip us) := by
    have z := hb s1 us I1.kIn (by rw [List.append_nil, ← rv.length, hlen, hn])
    rw [List.append_nil] at z
    exact z
  have rc := (G B hB _ (acts_of I1 hsz hB hcell (est.fwd w1 ok1) his)).run X.A X.stack s1 H1 ⟨us, []⟩ us vs Q E0 hr e0 hb1 rv ⟨hlen, p, c1, F1, l.map (cvD fun f _ => .lam f F1 p), Q', ok1, cvD_repL rl, q3, t.fwd w1⟩
  refine wpAny_call (codeAny_mono rc fun r s3 hq => ?_)
  cases r with
  | error e => exact (show False from hq).elim
  | ok fl =>
    cases fl with
    | ret u => exact I1.after hq
    | next => exact False.elim hq
    | brk => exact False.elim hq
    | cont => exact False.elim hq
/-! ### in a def that got them -/
@[simp ↓] def yAct (T : TLs) (fe : FE) (fr : FA) : FEX := fun ρ c Q QX => fe ρ c fun d c => T.dom d ∧ fr ρ c fun ds c => T.tl d ds c Q QX
@[simp ↓] def eAct (T : TLs) (fe : FE) (fr : FA) : FE := fun ρ c Q => yAct T fe fr ρ c Q fun _ _ _ => False
theorem rel_ref {a : Addr} {u : Value} (r : RelV (V.ref a) u) : u = .ref a := r
theorem fnAt_of {K : PySem.W.Frag} {P : Program} {w : World} {p : Pn} {c : Nat} {F H : Hp} {s : Shared} {f : Addr} {F0 : Hp} {p0 : Pn} {o : Obj} {v : V} (hok : HOk P w H s.heap) (ok : Ok3 p c F H) (hf : F0 f = some (FunO f o)) (fo : FnData o) (r : Rep K p F (.lam f F0 p0) v) : PySem.W.FnAt f s.heap := by
  obtain ⟨cls, dict, fd, sl, rfl⟩ := fo
  exact ⟨cls, dict, fd, sl, (hok f _ (ok.sub _ _ (r.2.1 _ _ hf))).1⟩
/-- an expression that may raise, the slots told -/
def tEs (K : PySem.W.Frag) (W : WX) (f : FEX) : TE := fun σ H Q => ∃ p c ρ F Q' QX, ESt K p c ρ σ F H ∧ f ρ c Q' QX ∧ Tell K p F H Q' Q ∧ TellX K p F H QX (fun cls d H' => W cls d σ H')
abbrev ES (X : Cx) (W : WX) (e : Expr) (f : FEX) : Prop := PE X e (tEs X.K W f)
theorem es_act0 {k i : Nat} {T : TLs} {W : WX} {a : Str} {p1 p2 : Pos} (ha : ActsB X.prog X.w X.K X.mg X.base k T) (hr : Room k X.A) (tk : Takes X W) (hN : X.N[i]? = some a := by rfl) (hv : Vis X.env.scope a := by first | exact Or.inl rfl | exact Or.inr (Or.inl rfl) | exact Or.inr (Or.inr rfl))
    (hd : (a == ("__debug__" : Str)) = false := by decide) (hcd : (a == ("__classdict__" : Str)) = false := by decide) : ES X W (.Call (.Name a p1) [] [] p2) (yAct T (eVar i) aNil) := by
  refine ⟨fun pins s σ H Q I ⟨p, c0, ρ, F, Q', QX, est, hq, t, tx⟩ => ?_⟩
  have hq : ∃ d, get3 ρ i = some d ∧ T.dom d ∧ T.tl d [] c0 Q' QX := by
    unfold yAct eVar aNil at hq
    split at hq
    · rename_i d e; exact ⟨d, e, hq.1, hq.2⟩
    · exact hq.elim
  obtain ⟨d, e1, hdom, htl⟩ := hq
  obtain ⟨v, e2, rd⟩ := est.slot i d e1
  obtain ⟨f, F0, p0, o, rfl, hf, hfo, run⟩ := ha d hdom
  have ev : v = .ref f := rd.1
  subst ev
  refine wpAny_Call_Name_kw (thn ((pe_var (pos := p1) (i := i) hN hv hd hcd).run pins s σ H (fun v H1 => v = .ref f ∧ H1 = H) I ⟨.ref f, e2, rfl, rfl⟩) fun u s1 ⟨v, H1, I1, r1, ev, eH⟩ => ?_)
  subst ev eH
  obtain rfl := rel_ref r1
  refine PySem.W.callWith_F0 (fnAt_of I1.hok est.ok hf hfo rd) ?_
  refine wpAny_call (codeAny_mono (run X.A X.stack s1 H1 hr I1.env0 [] [] [] p c0 F Q Q' QX (fun cls d H' => W cls d σ H') est.ok rd rfl .nil htl t tx) fun r s' hq => ?_)
  cases r with
  | error e => exact tk e s' (XE.of_call I1 (fun _ _ _ h => h) hq)
  | ok fl =>
    cases fl with
    | ret u => exact I1.after hq
    | next => exact False.elim hq
    | brk => exact False.elim hq
    | cont => exact False.elim hq
theorem es_act1 {k i : Nat} {T : TLs} {W : WX} {a : Str} {p1 p2 : Pos} {e : Expr} {fe : FE} (ha : ActsB X.prog X.w X.K X.mg X.base k T) (hr : Room k X.A) (tk : Takes X W) (he : EX X e fe) (hst : starEach [e] X.env = (false, eval e X.env) :: starEach [] X.env := by rfl) (hN : X.N[i]? = some a := by rfl) (hv : Vis X.env.scope a := by first | exact Or.inl rfl | exact Or.inr (Or.inl rfl) | exact Or.inr (Or.inr rfl))
    (hd : (a == ("__debug__" : Str)) = false := by decide) (hcd : (a == ("__classdict__" : Str)) = false := by decide) : ES X W (.Call (.Name a p1) [e] [] p2) (yAct T (eVar i) (aCons fe aNil)) := by
  refine ⟨fun pins s σ H Q I ⟨p, c0, ρ, F, Q', QX, est, hq, t, tx⟩ => ?_⟩
  have hq : ∃ d, get3 ρ i = some d ∧ T.dom d ∧ fe ρ c0 fun x c => T.tl d [x] c Q' QX := by
    unfold yAct eVar at hq
    split at hq
    · rename_i d e; exact ⟨d, e, hq.1, hq.2⟩
    · exact hq.elim
  obtain ⟨d, e1, hdom, htl⟩ := hq
  obtain ⟨v, e2, rd⟩ := est.slot i d e1
  obtain ⟨f, F0, p0, o, rfl, hf, hfo, run⟩ := ha d hdom
  have ev : v = .ref f := rd.1
  subst ev
  refine wpAny_Call_Name_kw (thn ((pe_var (pos := p1) (i := i) hN hv hd hcd).run pins s σ H (fun v H1 => v = .ref f ∧ H1 = H) I ⟨.ref f, e2, rfl, rfl⟩) fun u s1 ⟨v, H1, I1, r1, ev, eH⟩ => ?_)
  subst ev eH
  obtain rfl := rel_ref r1
  refine PySem.W.callWith_F (fnAt_of I1.hok est.ok hf hfo rd) ?_ hst rfl
  show wpAny _ _ (spliced (backTo p2 (starEach [e] X.env))) _ _ s1
  rw [hst]
  refine Calls.spliced_cons (thn (he.run pins s1 σ H1 (fun y H2 => ∃ x c1 F1, Fwd p F H1 F1 H2 ∧ Ok3 p c1 F1 H2 ∧ Rep X.K p F1 x y ∧ T.tl (.lam f F0 p0) [x] c1 Q' QX) I1 ⟨p, c0, ρ, F, _, est, htl, fun x c1 y F1 H2 w1 ok1 r1 q1 => ⟨x, c1, F1, w1, ok1, r1, q1⟩⟩) fun u2 s2 ⟨y, H2, I2, r2, x, c1, F1, w1, ok1, rx, q2⟩ => ?_)
  have rd2 := rd.mono w1.frz
  refine Calls.spliced_nil ⟨fnAt_of I2.hok ok1 hf hfo rd2, ?_⟩
  refine wpAny_call (codeAny_mono (run X.A X.stack s2 H2 hr I2.env0 [x] [u2] [y] p c1 F1 Q Q' QX (fun cls d H' => W cls d σ H') ok1 rd2 ⟨_, _, rfl, rx, rfl⟩ (.cons r2 .nil) q2 (t.fwd w1) (tx.fwd w1)) fun r s' hq => ?_)
  cases r with
  | error e => exact tk e s' (XE.of_call I2 (fun _ _ _ h => h) hq)
  | ok fl =>
    cases fl with
    | ret u => exact I2.after hq
    | next => exact False.elim hq
    | brk => exact False.elim hq
    | cont => exact False.elim hq
/-- where no error is let out -/
theorem ex_of_ey {e : Expr} {fx : FEX} (h : ∀ W : XK, Takes X (fun cls d _ H => W cls d H) → EY X W e fx) : EX X e (fun ρ c Q => fx ρ c Q fun _ _ _ => False) :=
  PE.imp (h (fun _ _ _ => False) fun _ _ x => by
    obtain ⟨_, _, _, _, _, _, _, _, _, _, _, _, _, _, _, _, z⟩ := x
    exact z.elim) fun σ H Q ⟨p, c, ρ, F, Q', es, h, t⟩ => ⟨p, c, ρ, F, Q', _, es, h, t, fun _ _ _ _ _ _ _ _ _ _ _ z => z.elim⟩
end
end L3

set_option maxHeartbeats 2000000
/-! L4H: try: .. except C as n: .., the error caught is known afterwards. -/
namespace L3
open PySem PySem.Spec PyProof.Rows L2
section
variable {X : Cx} {pins : List (Addr × Obj)} {σ : L2.St} {H : Hp} {s : Shared}
/-- an object that stands there becomes known -/
theorem inv_track {a : Addr} {oa : Obj} {o : HO} (I : Inv X pins σ H s) (ha : s.heap.get? a = some oa) (hn : H a = none) (h0 : X.s_0.heap.get? a = none) (hl : a ≠ X.env.locals) (hd : ∀ v, oa.data ≠ .cell v) (hp : ∀ q ∈ X.pn ++ pins, q.1 ≠ a)
    (ok : ObjOk X.prog X.w (upd H a o) s.heap a o) : Inv X pins σ (upd H a o) s := by
  have nb : ∀ b u, X.s_0.heap.get? b = some u → b ≠ a := fun b u e z => by rw [z, h0] at e; cases e
  refine ⟨I.ok, I.os, I.bare, ⟨I.base.keep, I.base.slot, fun b u e n hx => by rw [upd_ne (nb b u e)]; exact I.base.free b u e n hx, I.base.there, fun b xs e => ?_, fun b u v e => ?_, fun b qs e => ?_⟩, I.loc, I.cell, by rw [upd_ne (Ne.symm hl)]; exact I.free, fun y c e => ?_, fun q hq => ?_, fun b u e => ?_, I.len⟩
  · have z := I.base.tups b xs e
    rw [upd_ne (ne_of_none z hn)]; exact z
  · have z := I.base.frzs b u v e
    rw [upd_ne (ne_of_none z hn)]; exact z
  · obtain ⟨more, z⟩ := I.base.tbls b qs e
    exact ⟨more, by rw [upd_ne (ne_of_none z hn)]; exact z⟩
  · have : c ≠ a := fun z => by
      obtain ⟨v, oc, e1, e2⟩ := I.cell y c e
      rw [z, ha] at e1
      cases e1
      exact hd _ e2
    rw [upd_ne this]
    exact I.freeC y c e
  · obtain ⟨h1, h2, h3⟩ := I.pin q hq
    exact ⟨h1, by rw [upd_ne (hp q hq)]; exact h2, h3⟩
  · by_cases z : b = a
    · subst z
      rw [upd_same] at e
      cases e
      exact ok
    · rw [upd_ne z] at e
      exact (I.hok b u e).stay (fun _ _ _ q => q) (fun c q => by rw [upd_ne (ne_of_none q hn)]; exact q) fun c xs q => by rw [upd_ne (ne_of_none q hn)]; exact q
end
/-- what is wished of an error that the clause catches: its class C, its dict dd -/
def wAsE (K : PySem.W.Frag) (c : Value) (i : Nat) (ts : Addr → Value → Option Addr → TS) (D : Ends) : WX := fun cls d σ H =>
  ∃ C dd, cls = .ref C ∧ d = some dd ∧ PySem.W.exmOne K cls c = some true ∧ ∀ a, H a = none →
    ts a cls d { nx := fun σ' H' => H' a = none ∧ D.nx (σ'.set i none) (upd H' a (ExcO a C dd)), rt := fun _ _ => False, bk := fun _ _ => False, ct := fun _ _ => False } (σ.set i (some (.ref a))) H
section
variable {X : Cx} {x n : Str} {c : Value} {i : Nat} {body suite : List Stmt} {b0 : Stmt} {np pos pos' : Pos} {tb : WX → TS} {ts : Addr → Value → Option Addr → TS}
theorem ps_tryE (est : X.stack = X.env :: X.outer) (efr : X.env.frame = some X.env.locals) (nd : X.N.Nodup) (ix : X.N[i]? = some n) (kn : X.env.kindOf n = some .local) (hex : X.ex = []) (nm : Names X x c)
    (bodyOk : ∀ (W : WX) (pn : List (Addr × Obj)) (xe : Value → Shared → Prop), Takes (X.tr pn xe) W → PassesOwn (model X.prog X.w) X.A X.env xe → PSs (X.tr pn xe) body (tb W))
    (suiteOk : ∀ (a : Addr) (oe : Obj) (cls : Value) (d : Option Addr) (pn : List (Addr × Obj)), Zc cls d oe → (∃ vs, oe.data = .fields vs) → PSs (X.suite a ((a, oe) :: pn)) (b0 :: suite) (ts a cls d)) :
    PS X (.Try body [.ExceptHandler (some (.Name x np)) (some n) (b0 :: suite) pos'] [] [] pos) (fun D σ H => tb (wAsE X.K c i ts D) D σ H) := by
  refine ⟨fun pins s σ H D J0 wish => ?_⟩
  have okX := J0.ok
  have frA : X.A.frames = some (X.env :: X.outer) := by rw [okX.frames, est]
  refine wpAny_Try_except ?_
  let xe' : Value → Shared → Prop := fun er t1 => wpAny (model X.prog X.w) X.A (noteFrame er X.env) (fun _ t2 => wpAny (model X.prog X.w) X.A (setFlight er none) (fun _ t3 =>
      wpAny (model X.prog X.w) X.A (handleBy er X.env [.ExceptHandler (some (.Name x np)) (some n) (b0 :: suite) pos']) (SP X pins D) X.xe t3) X.xe t2) X.xe t1
  have takes : Takes (X.tr (X.pn ++ pins) xe') (wAsE X.K c i ts D) := by
    intro u t ⟨a, G, tI, pz, τ, Hz, cls, d, eu, Jz, toG, slots, sky, free_a, eos, gens, C, dd, eC, ed, em, go⟩
    subst eu
    have Jx : Inv X pins τ Hz tI := Jz.ofTry okX
    have sky2 : Sky G (X.env :: X.outer) a (Zc cls d) X.env.locals t.heap := by rw [← est]; exact sky
    show wpAny (model X.prog X.w) X.A (noteFrame (.ref a) X.env) _ _ _
    refine Sky.land Zc.steady frA efr sky2 fun k3 fly3 ups3 => ?_
    have J3 : Inv X pins τ Hz { t with heap := k3 } := Jx.landed toG fly3.1 (slots.trans ups3) eos gens
    obtain ⟨ob3, vs3, at3, z3, dat3⟩ := fly3.there
    have apart : ∀ {h : Heap} {u : Obj} {vs : Array Value}, h.FunFrames G (X.env :: X.outer) → h.get? a = some u → u.data = .fields vs → a ∉ frs (X.env :: X.outer) := fun {h u vs} ff e1 e2 mem => by
      obtain ⟨_, u', e3, nf⟩ := ff.mem mem
      rw [e1] at e3
      cases e3
      exact nf _ e2
    have aFr := apart fly3.2.2.1 at3 dat3
    have aL : a ≠ X.env.locals := fun z => aFr (List.mem_filterMap.mpr ⟨X.env, List.mem_cons_self, by rw [efr, z]⟩)
    have aF : a ∉ X.fs := fun mem => by
      obtain ⟨en, m1, m2⟩ := List.mem_filterMap.mp mem
      exact aFr (List.mem_filterMap.mpr ⟨en, List.mem_cons_of_mem _ m1, m2⟩)
    have aI : tI.heap.get? a = none := by
      cases e : tI.heap.get? a with
      | none => rfl
      | some u =>
        have := toG a u e (by rw [est]; exact aFr)
        rw [fly3.2.1] at this
        cases this
    have a0 : X.s_0.heap.get? a = none := by
      cases e : X.s_0.heap.get? a with
      | none => rfl
      | some u =>
        obtain ⟨u', e'⟩ := Jx.base.there a u e (by rw [hex]; simp)
        rw [aI] at e'
        cases e'
    have aP : ∀ q ∈ X.pn ++ pins, q.1 ≠ a := fun q hq z => by
      have := (Jx.pin q hq).1
      rw [z, aI] at this
      cases this
    have S3 := J3.suite at3 dat3 free_a aL aF
    refine wpAny_handleBy_cons (codeAny_handlers_test ?_) (by intro q; cases q)
    have tyA : PySem.W.Looks (model X.prog X.w) k3 (typeOf (.ref a)) cls := fun A' Q' E' s' k' q' => wpAny_typeOf_ref (k' _ _ at3) (by rw [z3.1]; exact q')
    have mat := PySem.W.exm_one (M := model X.prog X.w) J3.kIn tyA em
    have named : ∀ {Q' : Value → Shared → Prop} {E' : Value → Shared → Prop}, Q' c { t with heap := k3 } → wpAny (model X.prog X.w) (X.A.mark (some (.ref a))) (eval (.Name x np) X.env) Q' E' { t with heap := k3 } := fun {Q' E'} q' => by
      obtain ⟨g1, g2, g3 | ⟨g3, g4, g5⟩⟩ := nm
      · exact ld_glob (X := X.suite a ((a, ob3) :: (X.pn ++ pins))) S3 g1 g3 q' g2
      · exact ld_blt (X := X.suite a ((a, ob3) :: (X.pn ++ pins))) S3 g1 g3 g4 q' g5 g2
    refine named (mat.here ?_)
    refine codeAny_handlers_suite_as ?_
    refine HandSPX.lands_againZ fly3 fun k4 fly4 ups4 => ?_
    have J4 : Inv X pins τ Hz { t with heap := k4 } := Jx.landed toG fly4.1 ((slots.trans ups3).trans ups4) eos gens
    obtain ⟨ob4, vs4, at4, z4, dat4⟩ := fly4.there
    have S4 := J4.suite at4 dat4 free_a aL aF
    refine store_ok (X := X.suite a ((a, ob4) :: (X.pn ++ pins))) (v := .ref a) S4 nd ix (.inl kn) rfl (fun t5 S5 => ?_) (.inr kn)
    refine wpAny_mono ((suiteOk a ob4 cls d (X.pn ++ pins) z4 ⟨_, dat4⟩).run [] t5 _ Hz _ S5 (go a free_a)) (fun fl t6 left => ?_) (fun _ _ z => False.elim z)
    cases fl with
    | next =>
      obtain ⟨τ6, H6, S6, h6, q6⟩ := left
      have L6 : Inv X ((a, ob4) :: pins) τ6 H6 t6 := ⟨okX, S6.os, S6.bare, S6.base, S6.loc, S6.cell, S6.free, S6.freeC, fun q hq => S6.pin q (by
        show q ∈ ((a, ob4) :: (X.pn ++ pins)) ++ []
        rw [List.append_nil]
        rcases List.mem_append.mp hq with z | z
        · exact List.mem_cons_of_mem _ (List.mem_append_left _ z)
        · rcases List.mem_cons.mp z with z | z
          · rw [z]; exact List.mem_cons_self
          · exact List.mem_cons_of_mem _ (List.mem_append_right _ z)), S6.hok, S6.len⟩
      refine gone_ok L6 nd ix kn fun t7 L7 => ?_
      have at7 := (L7.pin (a, ob4) (List.mem_append_right _ List.mem_cons_self)).1
      refine ⟨_, _, inv_track (pin_off L7) at7 h6 a0 aL (fun v z => by rw [dat4] at z; cases z) aP ?_, q6⟩
      subst eC ed
      exact ⟨⟨ob4, vs4, at7, z4.1, z4.2, dat4⟩, ⟨_, at7⟩, fun h1 h2 ⟨oe, vs, e1, e2⟩ k => ⟨oe, vs, k _ e1, e2⟩⟩
    | brk => obtain ⟨_, _, _, z⟩ := left; exact z.elim
    | cont => obtain ⟨_, _, _, z⟩ := left; exact z.elim
    | ret u => obtain ⟨_, _, _, _, _, z⟩ := left; exact z.elim
  refine wpAny_mono ((bodyOk (wAsE X.K c i ts D) (X.pn ++ pins) xe' takes PassesOwn.looking).run [] s σ H D (J0.toTry _) wish) (fun fl t1 left => ?_) (fun e1 t1 bad => bad)
  cases fl with
  | next =>
    obtain ⟨τ, Hz, Jz, q⟩ := left
    exact wpAny_execs_nil ⟨τ, Hz, Jz.ofTry okX, q⟩
  | brk =>
    obtain ⟨τ, Hz, Jz, q⟩ := left
    exact ⟨τ, Hz, Jz.ofTry okX, q⟩
  | cont =>
    obtain ⟨τ, Hz, Jz, q⟩ := left
    exact ⟨τ, Hz, Jz.ofTry okX, q⟩
  | ret u =>
    obtain ⟨v, τ, Hz, Jz, r, q⟩ := left
    exact ⟨v, τ, Hz, Jz.ofTry okX, r, q⟩
end
end L3

set_option maxHeartbeats 2000000
/-! L4I: try: g = call() / except C as n: cn = n. -/
namespace L3
open PySem PySem.Spec PyProof.Rows L2
theorem SSt.setNo {K : PySem.W.Frag} {p : Pn} {c : Nat} {ρ : Env3} {σ : L2.St} {F H F0 H0 : Hp} (s : SSt K p c ρ σ F H F0 H0) (i : Nat) : SSt K p c (ρ.set i .no) (σ.set i none) F H F0 H0 := by
  have back : ∀ {j : Nat} {x : SV}, (ρ.set i .no)[j]? = some x → x ≠ .no → j ≠ i ∧ ρ[j]? = some x := fun {j x} e n => by
    rcases set_get e with ⟨_, _, z⟩ | z
    · exact absurd z n
    · exact z
  have fw : ∀ {j : Nat}, j ≠ i → (σ.set i none)[j]? = σ[j]? := fun {j} n => List.getElem?_set_ne (Ne.symm n)
  refine ⟨s.ok, s.ent, by rw [List.length_set, List.length_set, s.len], fun j d e => ?_, fun j l e => ?_, fun j k l m a e1 e2 e3 e4 => ?_, fun j ks l e => ?_, fun j k ks ks' l m a e1 e2 e3 e4 => ?_⟩
  · obtain ⟨n, e⟩ := back e nofun
    rw [fw n]; exact s.val j d e
  · obtain ⟨n, e⟩ := back e nofun
    rw [fw n]; exact s.own j l e
  · obtain ⟨n1, e1⟩ := back e1 nofun
    obtain ⟨n2, e2⟩ := back e2 nofun
    rw [fw n1] at e3
    rw [fw n2] at e4
    exact s.sep j k l m a e1 e2 e3 e4
  · obtain ⟨n, e⟩ := back e nofun
    rw [fw n]; exact s.dic j ks l e
  · obtain ⟨n1, e1⟩ := back e1 nofun
    obtain ⟨n2, e2⟩ := back e2 nofun
    rw [fw n1] at e3
    rw [fw n2] at e4
    exact s.sepd j k ks ks' l m a e1 e2 e3 e4
@[simp ↓] def sTryC (errs : List Str) (ie ic : Nat) (gg : FG) (fx : FEX) : FS := fun E ρ c => ie < ρ.length ∧ fx (ρ.map vA) c (fun d c => gg d ρ fun ρ => E.nx ρ c) (fun n d c => errs.contains n = true ∧ E.nx ((ρ.set ic (.val (.exc n d))).set ie .no) c)
section
variable {X : Cx} {x n cn : Str} {c : Value} {ie ic : Nat} {is : List Nat} {gg : FG} {fx : FEX} {call tg : Expr} {errs : List Str} {np p3 p4 p5 apos pos pos' : Pos}
theorem sx_tryC (hx : ∀ m, errs.contains m = true → PySem.W.exmOne X.K (.ref (He.ga X.K m)) c = some true) (nm : Names X x c) (he : ∀ (W : WX) (pn : List (Addr × Obj)) (xe : Value → Shared → Prop), Takes (X.tr pn xe) W → ES (X.tr pn xe) W call fx) (hg : ∀ (pn : List (Addr × Obj)) (xe : Value → Shared → Prop), GX (X.tr pn xe) tg is gg)
    (nd : X.N.Nodup) (hst : X.stack = X.env :: X.outer := by rfl) (hfr : X.env.frame = some X.env.locals := by rfl) (hie : X.N[ie]? = some n := by rfl) (hic : X.N[ic]? = some cn := by rfl) (hne : ie ≠ ic := by decide) (kn : X.env.scope.names.lookup n = some .local := by rfl) (kc : X.env.scope.names.lookup cn = some .local := by rfl) (hex : X.ex = [] := by rfl)
    (hd : (n == ("__debug__" : Str)) = false := by decide) (hcd : (n == ("__classdict__" : Str)) = false := by decide)
    (hs : swapsWithSole [tg] call apos.line X.env = pure false := by rfl) (hw : swappedStores [tg] call X.env = pure none := by rfl) (h1 : (assignEach [tg] X.env).map (·.2) = [assign tg X.env] := by rfl)
    (hs2 : swapsWithSole [.Name cn p3] (.Name n p4) p5.line X.env = pure false := by rfl) (hw2 : swappedStores [.Name cn p3] (.Name n p4) X.env = pure none := by rfl) (h2 : (assignEach [.Name cn p3] X.env).map (·.2) = [assign (.Name cn p3) X.env] := by rfl) :
    SX X (.Try [.Assign [tg] call apos] [.ExceptHandler (some (.Name x np)) (some n) [.Assign [.Name cn p3] (.Name n p4) p5] pos'] [] [] pos) (sTryC errs ie ic gg fx) := by
  refine PS.imp (ps_tryE (tb := fun W D σ H => ∃ p c ρ F F0 H0 E QX, SSt X.K p c ρ σ F H F0 H0 ∧ fx (ρ.map vA) c (fun d c => gg d ρ fun ρ => End3.nx E ρ c) QX ∧ TellS X.K p F0 H0 E D ∧ TellX X.K p F H QX (fun cls d H' => W cls d σ H')) (ts := fun _ _ _ => tAsg (tVar ie) (gName ic))
    hst hfr nd hie kn hex nm (fun W pn xe tk _ => pss_one ?_) (fun a oe cls d pn _ _ => pss_one (ps_asg (pe_var hie (.inl kn) hd hcd) (pg_name nd hic (.inl kc) (.inr kc)) hs2 hw2 h2))) fun D σ H ⟨p, c, ρ, F, F0, H0, E, s, ⟨hlt, h⟩, t⟩ => ?_
  · obtain ⟨gl, pg, kg⟩ := (hg pn xe).ex
    exact PS.imp (ps_asg (he W pn xe tk) pg hs hw h1) fun D σ H ⟨p, c, ρ, F, F0, H0, E, QX, s, h, t, tx⟩ => ⟨p, c, _, F, _, _, s.e, h, fun d c1 v F1 H1 w1 ok1 r1 q1 =>
      kg p c1 ρ σ F1 H1 F0 H0 d v _ _ (s.fwd w1 ok1) r1 q1 fun ρ' σ' s' _ _ h' => t.nx c1 ρ' σ' F1 H1 s' h', tx⟩
  · refine ⟨p, c, ρ, F, F0, H0, E, _, s, h, t, fun m d c' v dd F' H' fw ok e r ⟨hm, q⟩ => ?_⟩
    refine ⟨He.ga X.K m, dd, rfl, rfl, hx m hm, fun a na => ⟨.ref a, ?_, na, ?_⟩⟩
    · rw [List.getElem?_set_self (by rw [← s.len]; exact hlt)]
    · obtain ⟨w2, ok2⟩ := Fwd.laid ok na (ExcO a (He.ga X.K m) dd) (fun ps z => by unfold ExcO at z; cases z)
      have rx : Rep X.K p (upd F' a (ExcO a (He.ga X.K m) dd)) (.exc m d) (.ref a) := ⟨a, dd, v, rfl, upd_same, w2.frz _ _ e, r.mono w2.frz⟩
      have s2 := (((s.fwd fw ok).fwd w2 ok2).set ic rx).setNo ie
      have eσ : ((σ.set ie (some (V.ref a))).set ic (some (V.ref a))).set ie none = (σ.set ic (some (V.ref a))).set ie none := by
        rw [List.set_comm _ _ hne, List.set_set]
      show D.nx (((σ.set ie (some (V.ref a))).set ic (some (V.ref a))).set ie none) _
      rw [eσ]
      exact t.nx c' _ _ _ _ s2 q
end
end L3

set_option maxHeartbeats 2000000
/-! L4J: errors looked at: isinstance, value; repr of data compared. -/
namespace L4J
open PySem PySem.W PySem.Calls PyProof.Rows
section
variable {prog : Program} {w : World} {A : Around} {E : Value → Shared → Prop} {s : Shared} {K : Frag} {x D : Addr} {ox : Obj} {od : Option Obj}
theorem find_cls {C : Addr} {nm : Str} {a g : Value} (h1 : (clsIn K C).isSome = true) (h2 : findIn K (.ref C) nm = some (some a)) (h3 : specialIn K a "__get__" = some (some g)) (h4 : takesIn K a = some true) : findObj K C od nm = some (.bind g a) := by
  obtain ⟨cd, h1⟩ := Option.isSome_iff_exists.mp h1
  unfold findObj
  simp [h1, h2, h3, h4]
/-- e.__class__ of an error, its own dict left aside -/
theorem get_cls {Q : Option Value → Shared → Prop} (T : L2.ExcC K D) (X : K.In s.heap) (I : InstAt s.heap x ox D od) (h : Q (some (.ref D)) { s with toks := s.toks + 1 }) : wpAny (model prog w) A (getAttr? (.ref x) "__class__") Q E s := by
  have fo : findObj K D od "__class__" = some (.bind (.builtin "getset_descriptor.__get__") (.builtin "object.__class__")) := find_cls (by obtain ⟨cd, hc, _⟩ := any_some T.hd; rw [hc]; rfl) T.ha T.hn T.ht
  obtain ⟨hh, gg, dr, tk, os⟩ := s
  have ty := I.type (M := model prog w)
  have ga := looks_findIn (M := model prog w) X T.hg
  have gk := looks_findIn (M := model prog w) X T.hk
  have fd := looks_find (M := model prog w) X I fo
  have be : Looks (model prog w) hh (isInstance (.ref x) (.type "BaseException")) true := ty.andThen (looks_subIn X T.hs)
  have n1 : (Value.builtin "BaseException.__getattribute__" == Value.builtin "object.__getattribute__") = false := by decide +kernel
  have n2 : (onTheHeap (Value.ref D) && Value.builtin "BaseException.__getattribute__" == Value.builtin "object.__getattribute__") = false := by rw [n1]; rfl
  have n3 : (false && onTheHeap (Value.builtin "BaseException.__getattribute__")) = false := rfl
  unfold getAttr? getAttrBy? getAttrBy; refine wpAny_bind (wpAny_mkText (wpAny_bind (wpAny_attempt (wpAny_holding (wpAny_bind (ty.at (wpAny_bind (ga.at ?_))))))))
  show wpAny _ _ (if (onTheHeap (Value.ref D) && Value.builtin "BaseException.__getattribute__" == Value.builtin "object.__getattribute__") = true then _ else _) _ _ _ ; rw [n2, if_neg Bool.false_ne_true]
  unfold getAttrByItsOwn hookBefore; refine wpAny_bind ?_
  rw [if_pos (show onTheHeap (Value.ref D) = true from rfl)]; refine gk.at ?_
  refine wpAny_bind (wpAny_attempt (wpAny_holding ?_))
  unfold callGetattribute; rw [n3, if_neg Bool.false_ne_true]
  unfold boundAndCalled; rw [PySem.F.excAttr_ValueError.ga.bind (.ref x)]
  refine wpAny_bind (wpAny_pure ?_)
  show wpAny _ _ (call (.builtin "BaseException.__getattribute__") [.ref x, .str "__class__" tk]) _ _ _ ; refine wpAny_call (codeAny_call_builtin PySem.F.excAttr_ValueError.ga.plain PySem.F.entry_bexc_ga ?_)
  refine @check_slot (model prog w) _ _ ⟨hh, gg, dr, tk + 1, os⟩ "BaseException.__getattribute__" "BaseException" "__getattribute__" (.ref x) [.str "__class__" tk] [] _ (by decide +kernel) (by decide +kernel) be (PySem.F.args_bexc_ga (.ref x) (.str "__class__" tk)) ?_
  unfold Builtin.«object.__getattribute__»; refine wpAny_bind (wpAny_of_eq (a := ((Value.ref x : Value), [Value.str "__class__" tk])) (by first | rfl | (simp only [slotArgs]; rfl)) ?_)
  refine wpAny_bind (wpAny_pure (wpAny_bind (ty.at (wpAny_bind (fd.at ?_)))))
  show wpAny _ _ (holding [Value.builtin "object.__class__"] (call (.builtin "getset_descriptor.__get__") [.builtin "object.__class__", .ref x, .ref D]) >>= ret) _ _ _ ; refine wpAny_bind (wpAny_holding (wpAny_call (class_get (s := ⟨hh, gg, dr, tk + 1, os⟩) (ox := ox) (od := od) X I T.hm ?_)))
  refine wpAny_pure ?_
  show wpAny _ _ (handedOut (.ref D)) _ _ _ ; rw [handedOut_of (v := .ref D) rfl]
  first
    | exact wpAny_pure (wpAny_pure h)
    | exact wpAny_pure h
    | exact wpAny_pure (wpAny_bind (wpAny_pure (wpAny_pure h)))
theorem kit_err (T : L2.ExcC K D) : KitX K (.ref x) (.ref D) (fun h => InstAt h x ox D od) where
  ty := fun _ _ _ I => I.type
  it := fun _ _ X _ => by
    obtain ⟨cdD, e, _⟩ := any_some T.hd
    unfold clsIn at e
    split at e
    · rename_i c' d' cd' sl' ho
      intro A' Q' E' s' k q; unfold isType loadHead
      exact wpAny_bind (wpAny_loadPart (k _ _ (X _ _ ho)) (wpAny_pure q))
    · cases e
  ne := fun h tp dd its n sl X htp => by
    obtain ⟨cdD, e, _⟩ := any_some T.hd
    refine Bool.eq_false_iff.mpr fun q => ?_
    have e2 : D = tp := Value.ref.inj (beq_iff_eq.mp q)
    subst e2
    unfold clsIn at e
    split at e
    · rename_i c' d' cd' sl' ho
      have z := (X _ _ ho).symm.trans htp
      cases z
    · cases e
  ca := fun X I k => get_cls T X I k
end
end L4J

set_option maxHeartbeats 2000000
/-! L4K: isinstance of errors, their value, repr of data. -/
namespace L3
open PySem PySem.Spec PyProof.Rows L2
/-- what is known of an error class -/
structure ErrF (K : PySem.W.Frag) (n : Str) : Prop where
  ex : L2.ExcC K (He.ga K n)
  xf : XfC K (He.ga K n)
  no : PySem.W.findIn K (.ref (He.ga K n)) "value" = some none
  be : PySem.W.kitOne K (.ref (He.ga K n)) (.ref (He.ga K "BindError")) = some true
  ve : PySem.W.kitOne K (.ref (He.ga K n)) (.type "ValueError") = some true
theorem excO_get {P : Program} {w : World} {H : Hp} {h : Heap} {a C dd : Addr} {fs : List (Str × V)} (hok : HOk P w H h) (h1 : H a = some (ExcO a C dd)) (h2 : H dd = some (.xd fs)) :
    ∃ (oe od : Obj) (mA : Str → Option Value), PySem.W.InstAt h a oe C (some od) ∧ (∀ n, PySem.W.lookIn n od = some (mA n)) ∧ ∀ n, RelO (fs.lookup n) (mA n) := by
  obtain ⟨⟨oe, vs, e1, e2, e3, e4⟩, _⟩ := hok a _ h1
  obtain ⟨mA, hns, hr⟩ := hok dd _ h2
  obtain ⟨od, ho, hl⟩ := lookIn_ns hns
  exact ⟨oe, od, mA, ⟨e1, e2, by unfold PySem.W.notCls; rw [e4], by rw [e3]; exact ho⟩, hl, hr⟩
def rIsX (K : PySem.W.Frag) : List V → Hp → VK → Prop := fun xs H Q => ∃ (a D dd : Addr) (fs : List (Str × V)) (c : V) (u : Value) (b : Bool), xs = [.ref a, c] ∧ ClsV c u ∧ H a = some (ExcO a D dd) ∧ H dd = some (.xd fs) ∧ L2.ExcC K D ∧ PySem.W.kitOne K (.ref D) u = some b ∧ Q (.bl b) H
section
variable {X : Cx} {e : Expr} {fe : FE} {errs : List Str}
theorem call_isX : CallR X (.builtin "isinstance") (rIsX X.K) := by
  intro pins s σ H xs us Q I r h
  obtain ⟨a, D, dd, fs, c, u, b, rfl, hc, h1, h2, T, e, q⟩ := h
  obtain ⟨u1, u2, rfl, r1, r2⟩ := vals2 r
  obtain rfl := rel_ref r1
  have e2 := hc.eq r2
  subst e2
  obtain ⟨oe, od, mA, J, _, _⟩ := excO_get I.hok h1 h2
  exact PySem.W.kia_one (L4J.kit_err T) I.kIn J e (fun z => nomatch z) fun tk => ⟨.bl b, H, I.kept (t' := tk) fun _ _ z => z, rfl, q⟩
/-- isinstance(e, n), e an error, n the class it is of, or the base of all -/
@[simp ↓] def eIsX (errs : List Str) (n : Str) (fe : FE) : FE := fun ρ c Q => fe ρ c fun d c => match d with | .exc m _ => (errs.contains m = true ∧ (m = n ∨ n = "BindError")) ∧ Q (.bl true) c | _ => False
@[simp ↓] def eIsV (errs : List Str) (fe : FE) : FE := fun ρ c Q => fe ρ c fun d c => match d with | .exc m _ => errs.contains m = true ∧ Q (.bl true) c | _ => False
theorem ex_isX {n : Str} {p p2 pos : Pos} (hF : ∀ m, errs.contains m = true → ErrF X.K m) (hm : X.mg "isinstance" = none) (hn : X.mg n = some (.ref (He.ga X.K n))) (he : EX X e fe) (hg : Gl X "isinstance" := by rfl) (hgn : Gl X n := by rfl) (hdb : (n == ("__debug__" : Str)) = false := by decide)
    (hs : starEach [e, .Name n p2] X.env = (false, eval e X.env) :: starEach [.Name n p2] X.env := by rfl) (hs2 : starEach [.Name n p2] X.env = (false, eval (.Name n p2) X.env) :: starEach [] X.env := by rfl) (hpl : (backTo pos (starEach [.Name n p2] X.env)).any (·.1) = false := by rfl) :
    EX X (.Call (.Name "isinstance" p) [e, .Name n p2] [] pos) (eIsX errs n fe) := PE.imp (pe_callB call_isX hg hm (by decide +kernel) (pa_cons he (pa_cons (pe_glob (v := .ref (He.ga X.K n)) hgn hn rfl hdb) pa_nil hs2) hs) (by decide) (by decide) hs hpl) fun σ H Q ⟨p, c, ρ, F, Q', es, h, t⟩ =>
  ⟨p, c, ρ, F, _, es, h, fun d c1 v F1 H1 w1 ok1 r1 q1 => by
    split at q1
    · rename_i m d
      obtain ⟨⟨hm, hmn⟩, q⟩ := q1
      obtain ⟨a, dd, w, rfl, g1, g2, g3⟩ := r1
      have T := hF m hm
      refine ⟨a, _, dd, _, _, _, true, rfl, .own _, ok1.sub _ _ g1, ok1.sub _ _ g2, T.ex, ?_, tell0 ok1 (t.fwd w1) (show Rep X.K p F1 (.bl true) (.bl true) from rfl) q⟩
      rcases hmn with rfl | rfl
      · unfold PySem.W.kitOne
        rw [if_pos (beq_self_eq_true _)]
      · exact T.be
    · exact q1.elim⟩
theorem ex_isV {p p2 pos : Pos} (hF : ∀ m, errs.contains m = true → ErrF X.K m) (hm : X.mg "isinstance" = none) (hn : X.mg "ValueError" = none) (he : EX X e fe) (hg : Gl X "isinstance" := by rfl) (hgn : Gl X "ValueError" := by rfl)
    (hs : starEach [e, .Name "ValueError" p2] X.env = (false, eval e X.env) :: starEach [.Name "ValueError" p2] X.env := by rfl) (hs2 : starEach [.Name "ValueError" p2] X.env = (false, eval (.Name "ValueError" p2) X.env) :: starEach [] X.env := by rfl) (hpl : (backTo pos (starEach [.Name "ValueError" p2] X.env)).any (·.1) = false := by rfl) :
    EX X (.Call (.Name "isinstance" p) [e, .Name "ValueError" p2] [] pos) (eIsV errs fe) := PE.imp (pe_callB call_isX hg hm (by decide +kernel) (pa_cons he (pa_cons (pe_bltn (v := .ty "ValueError") hgn hn (by decide +kernel : bootBuiltins "ValueError" = some (.type "ValueError")) rfl) pa_nil hs2) hs) (by decide) (by decide) hs hpl) fun σ H Q ⟨p, c, ρ, F, Q', es, h, t⟩ =>
  ⟨p, c, ρ, F, _, es, h, fun d c1 v F1 H1 w1 ok1 r1 q1 => by
    split at q1
    · rename_i m d
      obtain ⟨hm, q⟩ := q1
      obtain ⟨a, dd, w, rfl, g1, g2, g3⟩ := r1
      have T := hF m hm
      exact ⟨a, _, dd, _, _, _, true, rfl, .ty _, ok1.sub _ _ g1, ok1.sub _ _ g2, T.ex, T.ve, tell0 ok1 (t.fwd w1) (show Rep X.K p F1 (.bl true) (.bl true) from rfl) q⟩
    · exact q1.elim⟩
/-- e.value, e an error -/
@[simp ↓] def eVal (errs : List Str) (fe : FE) : FE := fun ρ c Q => fe ρ c fun d c => match d with | .exc m d => errs.contains m = true ∧ Q d c | _ => False
theorem ex_val {pos : Pos} (hF : ∀ m, errs.contains m = true → ErrF X.K m) (he : EX X e fe) (hb : attributeBase e "value" X.env (eval e X.env) = eval e X.env := by rfl) : EX X (.Attribute e "value" pos) (eVal errs fe) := by
  refine ⟨fun pins s σ H Q I ⟨p, c, ρ, F, Q', es, h, t⟩ => ?_⟩
  refine attr_of hb (thn (he.run pins s σ H (fun v H1 => ∃ d c1 F1, Fwd p F H F1 H1 ∧ Ok3 p c1 F1 H1 ∧ Rep X.K p F1 d v ∧ match d with | .exc m d => errs.contains m = true ∧ Q' d c1 | _ => False) I ⟨p, c, ρ, F, _, es, h, fun d c1 v F1 H1 w1 ok1 r1 q1 => ⟨d, c1, F1, w1, ok1, r1, q1⟩⟩) fun u s1 ⟨v, H1, I1, r, d, c1, F1, w1, ok1, r1, q1⟩ => ?_)
  split at q1
  · rename_i m d
    obtain ⟨hm, q⟩ := q1
    obtain ⟨a, dd, w, rfl, g1, g2, g3⟩ := r1
    obtain rfl := rel_ref r
    have T := hF m hm
    obtain ⟨oe, od, mA, J, hl, hr⟩ := excO_get I1.hok (ok1.sub _ _ g1) (ok1.sub _ _ g2)
    obtain ⟨u, hu, ru⟩ := RelO.some_of (v := w) (o := mA "value") (hr "value")
    exact HandSPX.exc_get I1.kIn J T.xf.ga T.xf.gg T.xf.exC (PySem.W.findObj_own T.xf.hdC T.no rfl (by rw [hl, hu])) (handed_of ru) ⟨w, H1, I1.tok _, ru, tell0 ok1 (t.fwd w1) g3 q⟩
  · exact q1.elim
/-! repr -/
def ShowP (x : D) (y : PyData) : Prop := toPy x = some y ∧ y.showable = true ∧ y.hasDict = false ∧ y.shown.length ≤ sizeLine ∧ y.depth ≤ 64
@[simp ↓] def reprD : D → Nat → KD → Prop := fun x c Q => ∃ y, ShowP x y ∧ Q (.str y.shown) c
end
end L3

set_option maxHeartbeats 2000000
/-! L4L: repr of data. -/
namespace L3
open PySem PySem.Spec PyProof.Rows L2
def rRepr (K : PySem.W.Frag) : List V → Hp → VK → Prop := fun xs H Q => ∃ (v : V) (y : PyData), xs = [v] ∧ Dp K H v y ∧ y.showable = true ∧ y.hasDict = false ∧ y.shown.length ≤ sizeLine ∧ y.depth ≤ 64 ∧ Q (.str y.shown) H
section
variable {X : Cx} {e : Expr} {fe : FE}
theorem call_reprD (hc : X.A.guards = some []) (hu : X.A.units + 66 < cLine) : CallR X (.builtin "repr") (rRepr X.K) := by
  intro pins s σ H xs us Q I r h
  obtain ⟨v, y, rfl, hd, h1, h2, h3, h4, q⟩ := h
  obtain ⟨u, rfl, ru⟩ := vals1 r
  obtain ⟨as, rd⟩ := Dp.reads I _ _ _ hd ru
  have fin : ∀ (h' : Heap) (tk : Nat) (t : Tok), (∀ b o, s.heap.get? b = some o → h'.get? b = some o) → EP X pins σ Q (.str y.shown t) { s with heap := h', toks := tk } := fun h' tk t k => ⟨.str y.shown, H, I.kept k, ⟨_, rfl⟩, q⟩
  cases rd with
  | none => exact PySem.P.repr_of_none (fin s.heap _ _ fun _ _ z => z)
  | bool b =>
    have e : (PyData.bool b).shown = (if b then "True" else "False" : Str) := PyData.shown_bool b
    rw [e] at fin
    exact PySem.P.repr_of_bool (fin s.heap _ _ fun _ _ z => z)
  | int i t =>
    have e : (PyData.int i).shown = ((toString i : String) : Str) := PyData.shown_int i
    rw [e] at fin
    exact PySem.P.repr_of_int (of_decide_eq_true (by simpa [PyData.showable] using h1)) (fin s.heap _ _ fun _ _ z => z)
  | str x t =>
    have e : (PyData.str x).shown = reprText x := PyData.shown_str x
    rw [e] at fin h3
    exact PySem.P.repr_of_str (fin s.heap _ _ fun _ _ z => z) h3
  | list e1 e2 e3 e4 => exact PySem.repr_of_reads' (h₀ := s.heap) (.list e1 e2 e3 e4) h1 (fun z => by rw [h2] at z; cases z) hc (by omega) (fun _ _ z => z) (fun h' u tk k => fin h' tk u k) h3
  | tuple e1 e2 e3 e4 => exact PySem.repr_of_reads' (h₀ := s.heap) (.tuple e1 e2 e3 e4) h1 (fun z => by rw [h2] at z; cases z) hc (by omega) (fun _ _ z => z) (fun h' u tk k => fin h' tk u k) h3
  | dict => cases h2
theorem ex_repr {p pos : Pos} (hm : X.mg "repr" = none) (hc : X.A.guards = some []) (hu : X.A.units + 66 < cLine) (he : EX X e fe) (hg : Gl X "repr" := by rfl) (hs : starEach [e] X.env = (false, eval e X.env) :: starEach [] X.env := by rfl) (hpl : (backTo pos (starEach [] X.env)).any (·.1) = false := by rfl) :
    EX X (.Call (.Name "repr" p) [e] [] pos) (eUn reprD fe) := PE.imp (pe_callB (call_reprD hc hu) hg hm (by decide +kernel) (pa_cons he pa_nil hs) (by decide) (by decide) hs hpl) fun σ H Q ⟨p, c, ρ, F, Q', es, h, t⟩ =>
  ⟨p, c, ρ, F, _, es, h, fun d c1 v F1 H1 w1 ok1 r1 ⟨y, ⟨g1, g2, g3, g4, g5⟩, q⟩ => ⟨v, y, rfl, r1.dp ok1.sub g1, g2, g3, g4, g5, tell0 ok1 (t.fwd w1) (show Rep X.K p F1 (.str y.shown) (.str y.shown) from rfl) q⟩⟩
end
end L3

/-! L3, the end: facts of the head as what the walk asks. -/
namespace L3
open PySem PySem.Spec PyProof.Rows L2
section
variable {K : PySem.W.Frag}
theorem fun_of {x : Str} {st : Stmt} {f : Addr} {fd : FuncData} (F : FunD K x x (defArgs st) (defBody st) (defScope st) [] [] f fd) : Fun K x x st f fd := by
  obtain ⟨oc, od, dV, kV, doc, pm, an, cdv, ct, osl, e, lk, hcd, hD, _⟩ := F.ex
  rcases hD with ⟨_, rfl⟩ | ⟨z, _⟩
  · exact ⟨⟨oc, od, kV, doc, pm, an, cdv, ct, osl, e, lk, hcd⟩, F.kp⟩
  · exact absurd rfl z
theorem code_of {x q : Str} {pr : Arguments} {b : List Stmt} {sc : Scope} {dvs : List V} {kws : List (Str × V)} {p : Str × Option Str} {fd : FuncData} (F : FunD K x q pr b sc dvs kws (He.fAd K p) fd) : fd.code = .ref (He.cT K p).1 := by
  obtain ⟨oc, od, dV, kV, doc, pm, an, cdv, ct, osl, rfl, lk, hcd, _, _⟩ := F.ex
  obtain ⟨c, rfl⟩ := He.codeIn_ref hcd
  have e : He.codeOf K p = c := He.codeOf_eq lk rfl
  show Value.ref c = .ref (He.codeOf K p)
  rw [e]
theorem law_sp {m : FM} {H : Hp} {a : Addr} {ns : List Int} {E : XK} (ht : LamX.Tabs tabs0 H) (hS : SqL K H a (ns.map V.int)) (h : m [.scr ns] 0 fun d _ => d = .bl true) : spM K 1 m [.ref a] H (fun v _ => v = .bl true) E := by
  have go : ∀ F : Hp, (∀ b o, F b = some o → H b = some o) → (∀ b ps, F b ≠ some (.tbl ps)) → SqL K F a (ns.map V.int) → spM K 1 m [.ref a] H (fun v _ => v = .bl true) E := fun F h1 h2 h3 =>
    ⟨rfl, ⟨none, [], fun _ => none⟩, 0, F, [.scr ns], _, ⟨h1, fun _ z => (nomatch z), ⟨ht, fun _ z => absurd z List.not_mem_nil⟩, ⟨h2, fun _ _ z => nomatch z⟩⟩, ⟨_, _, rfl, ⟨a, rfl, h3⟩, rfl⟩, h, fun d c v F' H' _ _ r q => by
      subst q
      exact r⟩
  have one : ∀ u : HO, H a = some u → (∀ ps, u ≠ .tbl ps) → (∀ F : Hp, F a = some u → SqL K F a (ns.map V.int)) → spM K 1 m [.ref a] H (fun v _ => v = .bl true) E := fun u e n k => by
    refine go (fun b => if b = a then some u else none) (fun b o z => ?_) (fun b ps z => ?_) (k _ (if_pos rfl))
    · by_cases q : b = a
      · rw [q]
        exact e.trans ((if_pos q).symm.trans z)
      · exact nomatch (if_neg q).symm.trans z
    · by_cases q : b = a
      · exact n ps (Option.some.inj ((if_pos q).symm.trans z))
      · exact nomatch (if_neg q).symm.trans z
  rcases hS with (hS | ⟨o, hS⟩) | hS
  · exact one _ hS (fun _ z => nomatch z) fun F e => .inl (.inl e)
  · exact one _ hS (fun _ z => nomatch z) fun F e => .inl (.inr ⟨o, e⟩)
  · exact go (fun _ => none) (fun _ _ z => nomatch z) (fun _ _ z => nomatch z) (.inr hS)
end
end L3

set_option maxHeartbeats 2000000
/-! L4T: the law's own call, by a promise of this layer (no repr under way). -/
namespace L3
open PySem PySem.Spec PyProof.Rows L2 LamX
abbrev tabO : Obj := { cls := .none, data := .fields #[] }
section
variable {P : Program} {w : World} {K : PySem.W.Frag} {mg mb : Str → Option Value} {CX : CXT} {k : Nat} {fa a : Addr} {cs : List (Addr × Addr)} {fd : FuncData} {x : Str} {sp : Sp} {S : Shared} {vs : List Value} {ns : List Int}
/-- what is tracked at the law's call: the tables, and the script where it is not of the written part -/
def topH (K : PySem.W.Frag) (cs : List (Addr × Addr)) (a : Addr) (la : Obj) (ns : List Int) : Hp := fun b => if b ∈ cs.map (·.2) then some (.tbl #[]) else if b = a ∧ K.lookup a = none then some (.frz la (.lst (ns.map V.int))) else none
theorem topH_cases {la : Obj} {b : Addr} {u : HO} (e : topH K cs a la ns b = some u) : (b ∈ cs.map (·.2) ∧ u = .tbl #[]) ∨ (b = a ∧ K.lookup a = none ∧ u = .frz la (.lst (ns.map V.int))) := by
  unfold topH at e
  split at e
  · rename_i h; cases e; exact .inl ⟨h, rfl⟩
  · split at e
    · rename_i h; cases e; exact .inr ⟨h.1, h.2, rfl⟩
    · cases e
theorem law_callG (KX : K.In S.heap) (hns : S.heap.Ns mainGlobals mg) (hbn : S.heap.Ns builtinsNs mb) (hbb : ∀ x : Str, x ≠ "__name__" → mb x = bootBuiltins x) (hlim : S.heap.NoLimit) (hgn : S.gens = #[]) (hT : ∀ p ∈ cs, S.heap.get? p.2 = some tabO) (nT : ∀ p ∈ cs, K.lookup p.2 = none) (C : ∀ p ∈ cs, PySem.W.CodeHd S.heap p.1 p.2)
    (hbm : ∃ (bm : Addr) (ob : Obj), mg "__builtins__" = some (.ref bm) ∧ bm ≠ builtinsNs ∧ S.heap.get? bm = some ob ∧ ob.cls = .type "module" ∧ ob.dict = some builtinsNs ∧ ob.data = .plain) (ha : S.heap.get? a = some { cls := .type "list", data := .seq vs.toArray }) (hi : IntsAre vs ns) (hl : ns.length ≤ sizeLine)
    (hr : Room k callerA) {K2 : PySem.W.Frag} (hK2 : K2.In S.heap) (hd2 : ∀ b o, K2.lookup b = some o → ∃ es ep, o.data = .dict es ep) (F : ∀ base : Heap, K.In base → base.Ns mainGlobals mg → (∀ p ∈ cs, TabB base mg p.1 p.2) → K2.In base → FnOk P w K mg base CX k fa fd [x] sp) (hbind : ∀ (s : Shared) (u : Value), BindsTo s fd ⟨[u], []⟩ [(x, u)])
    (hsp : ∀ H : Hp, (∀ p ∈ cs, H p.2 = some (.tbl #[])) → SqL K H a (ns.map V.int) → sp [.ref a] H (fun v _ => v = .bl true) fun _ _ _ => False) (hCX : ∀ H e s', CX [] H S (fun _ _ _ => False) e s' → False) :
    codeAny (model P w) callerA (.call (.ref fa) ⟨[.ref a], []⟩) (fun r s' => r = .ok (.ret (.bool true)) ∧ OldK S.heap s'.heap ∧ s'.os = S.os ∧ AllBare s'.gens) S := by
  have rv := vals_ints hi
  have tabAt : ∀ b ∈ cs.map (·.2), S.heap.get? b = some tabO := fun b hb => by
    obtain ⟨p, hp, rfl⟩ := List.mem_map.mp hb
    exact hT p hp
  have notTab : a ∉ cs.map (·.2) := fun hm => by
    have z := (tabAt a hm).symm.trans ha
    cases z
  generalize hHe : topH K cs a { cls := .type "list", data := .seq vs.toArray } ns = H
  have what : ∀ {b u}, H b = some u → (b ∈ cs.map (·.2) ∧ u = .tbl #[]) ∨ (b = a ∧ K.lookup a = none ∧ u = .frz { cls := .type "list", data := .seq vs.toArray } (.lst (ns.map V.int))) := fun {b u} e => topH_cases (by rw [hHe]; exact e)
  have atTab : ∀ p ∈ cs, H p.2 = some (.tbl #[]) := fun p hp => by
    rw [← hHe]
    exact if_pos (List.mem_map.mpr ⟨p, hp, rfl⟩)
  have free : ∀ {b : Addr} {o : Obj}, S.heap.get? b = some o → (∀ xs n, o.data ≠ .seq xs n) → o.data ≠ .fields #[] → H b = none := fun {b o} e h1 h2 => by
    cases q : H b with
    | none => rfl
    | some u =>
      rcases what q with ⟨m, _⟩ | ⟨m, _, _⟩
      · rw [tabAt b m] at e; cases e; exact (h2 rfl).elim
      · rw [m, ha] at e; cases e; exact (h1 _ _ rfl).elim
  have freeD : ∀ {b : Addr} {o : Obj} {es : Array DictEntry} {ep : Nat}, S.heap.get? b = some o → o.data = .dict es ep → H b = none := fun {b o es ep} e d => free e (fun xs n z => by rw [d] at z; cases z) fun z => by rw [d] at z; cases z
  have low : ∀ {b : Addr} {o : Obj}, S.heap.get? b = some o → H b = none → (hidT S.heap H).get? b = some o := fun e n => hidT_get e n
  have lowNs : ∀ {b : Addr} {m : Str → Option Value}, S.heap.Ns b m → (hidT S.heap H).Ns b m := fun {b m} ⟨o, es, ep, e, d, r⟩ => ⟨o, es, ep, low e (freeD e d), d, r⟩
  have hS : SqL K H a (ns.map V.int) := by
    cases hk : K.lookup a with
    | some o =>
      have e := KX a o hk
      rw [ha] at e
      cases e
      exact .inr ⟨_, vs.toArray, _, hk, rfl, rfl, rfl, by rw [List.size_toArray, hi.length]; exact hl, by simpa using rv⟩
    | none =>
      refine .inl (.inr ⟨{ cls := .type "list", data := .seq vs.toArray }, ?_⟩)
      rw [← hHe]
      exact (if_neg notTab).trans (if_pos ⟨rfl, hk⟩)
  have hok : HOk P w H S.heap := fun b u e => by
    rcases what e with ⟨m, rfl⟩ | ⟨rfl, _, rfl⟩
    · exact tabAt b m
    · exact ⟨ha, by rw [List.length_map]; exact hl, vs, _, rv, ha⟩
  have kB : K.In (hidT S.heap H) := fun b o e => low (KX b o e) (by
    cases q : H b with
    | none => rfl
    | some u =>
      rcases what q with ⟨m, _⟩ | ⟨m, n, _⟩
      · obtain ⟨p, hp, ep⟩ := List.mem_map.mp m
        rw [← ep, nT p hp] at e; cases e
      · rw [m, n] at e; cases e)
  have kB2 : K2.In (hidT S.heap H) := fun b o e => low (hK2 b o e) (let ⟨_, _, d⟩ := hd2 b o e; freeD (hK2 b o e) d)
  have modB : L2.Mod K mg (hidT S.heap H) := ⟨kB, lowNs hns, ⟨mb, lowNs hbn, hbb⟩, let ⟨mc, h1, h2⟩ := hlim; ⟨mc, lowNs h1, h2⟩⟩
  have tabs : ∀ p ∈ cs, TabB (hidT S.heap H) mg p.1 p.2 := fun p hp => by
    have here := hT p hp
    obtain ⟨oG, eG, pG, atG, dG, rG⟩ := hns
    refine ⟨?_, ?_, fun z => by rw [z, here] at atG; cases atG; cases dG⟩
    · obtain ⟨o, us, file, tf, flags, tg, inF, text, tt, e1, r1, r2, r3, rest⟩ := C p hp
      exact ⟨o, us, file, tf, flags, tg, inF, text, tt, low e1 (free e1 (fun xs n z => by rw [r2] at z; cases z) fun z => by rw [r2] at z; cases z; simp at r3), r1, r2, r3, rest⟩
    · obtain ⟨bm, ob, b1, b2, b3, b4, b5, b6⟩ := hbm
      have n1 : bm ≠ mainGlobals := fun q => by
        have z := b3
        rw [q, atG] at z; cases z
        rw [dG] at b6; cases b6
      have n2 : bm ≠ p.2 := fun q => by
        have z := b3
        rw [q, here] at z; cases z
        cases b6
      exact ⟨bm, ob, b1, b2, n1, n2, low b3 (free b3 (fun xs n z => by rw [b6] at z; cases z) fun z => by rw [b6] at z; cases z), b4, b5, b6⟩
  have env0 : Env0 P w K mg (hidT S.heap H) callerA [] S H := ⟨rfl, modB, fun b o e => of_hidT e, Nat.le_of_eq (hidT_size _ _), trivial, fun b hb => absurd (show b ∈ ([] : List Addr) from hb) (by simp), hok, .of_eq hgn⟩
  refine codeAny_mono ((F _ kB (lowNs hns) tabs kB2).run callerA [] S H ⟨[.ref a], []⟩ [.ref a] [.ref a] _ _ hr env0 (hbind S (.ref a)) (.cons rfl .nil) (hsp H atTab hS)) fun r s' h => ?_
  cases r with
  | error e => exact (hCX H e s' h).elim
  | ok fl =>
    cases fl with
    | ret u =>
      obtain ⟨v, H', eos, gens, un, hok', rel, q⟩ := h
      obtain rfl : v = .bl true := q
      obtain rfl : u = Value.bool true := rel
      have same : ∀ b o, b ∉ cs.map (·.2) → S.heap.get? b = some o → s'.heap.get? b = some o := fun b o nb e => by
        cases q : H b with
        | none => exact un.keep b o e q (fun z => absurd (show b ∈ ([] : List Addr) from z) (by simp)) (by simp)
        | some u =>
          rcases what q with ⟨m, _⟩ | ⟨_, _, rfl⟩
          · exact absurd m nb
          · obtain ⟨e1, _⟩ := hok b _ q
            obtain ⟨e2, _⟩ := hok' b _ (un.frzs b _ _ q)
            rw [e] at e1
            cases e1
            exact e2
      have more : ∀ p ∈ cs, ∃ qs : Array Value, s'.heap.get? p.2 = some { cls := .none, data := .fields qs } := fun p hp => by
        obtain ⟨qs, z⟩ := un.tbls p.2 #[] (atTab p hp)
        exact ⟨_, hok' p.2 _ z⟩
      refine ⟨rfl, ⟨fun b o e => ?_, fun b o e => ?_⟩, eos, gens⟩ <;> by_cases hm : b ∈ cs.map (·.2)
      · obtain ⟨p, hp, rfl⟩ := List.mem_map.mp hm
        obtain ⟨qs, hq⟩ := more p hp
        have e := (hT p hp).symm.trans e
        cases e
        exact .inr (.inl ⟨((C p hp).tab (hT p hp)).isCodeTable, rfl, #[], qs, rfl, by rw [Array.empty_append]; exact hq⟩)
      · exact .inl (same b o hm e)
      · obtain ⟨p, hp, rfl⟩ := List.mem_map.mp hm
        obtain ⟨qs, hq⟩ := more p hp
        exact ⟨_, hq⟩
      · exact ⟨o, same b o hm e⟩
    | next => exact False.elim h
    | brk => exact False.elim h
    | cont => exact False.elim h
end
/-- what is known of the law's promise at the head's heap -/
def LawG (l : PySem.W.OpenLaw) (w : World) (K : PySem.W.Frag) (CX : CXT) (k n : Nat) (x : Str) (mg : Str → Option Value) (fa : Addr) (h : Heap) : Prop :=
  ∃ (fd : FuncData) (cs : List (Addr × Addr)) (sp : Sp), (∀ p ∈ cs, h.get? p.2 = some tabO) ∧ (∀ p ∈ cs, K.lookup p.2 = none) ∧ (∀ p ∈ cs, PySem.W.CodeHd h p.1 p.2) ∧ (∀ (s : Shared) (u : Value), BindsTo s fd ⟨[u], []⟩ [(x, u)]) ∧
    (∀ (H : Hp) (a : Addr) (ns : List Int), ns.length ≤ n → (∀ z ∈ ns, Builtin.Int.intBits z ≤ 1048576) → (∀ p ∈ cs, H p.2 = some (.tbl #[])) → SqL K H a (ns.map V.int) → sp [.ref a] H (fun v _ => v = .bl true) fun _ _ _ => False) ∧
    ∃ K2 : PySem.W.Frag, K2.In h ∧ (∀ b o, K2.lookup b = some o → ∃ es ep, o.data = .dict es ep) ∧ ∀ base : Heap, K.In base → base.Ns mainGlobals mg → (∀ p ∈ cs, TabB base mg p.1 p.2) → K2.In base → FnOk l.prog w K mg base CX k fa fd [x] sp
theorem walk_G {l : PySem.W.OpenLaw} {n k : Nat} {q : Program} {loose : List Str} {XP : (Str → Option Value) → Heap → Prop} {YP : World → Heap → Prop} {d : DefRec} {CX : World → CXT} {x : Str}
    (hn : l.most = some n) (hn2 : n ≤ sizeLine) (hdf : d.params.defaults = []) (hr : L2.Room k callerA)
    (F : ∀ (w : World) (mg : Str → Option Value) (fa : Addr) (h : Heap), YP w h → h.Ns mainGlobals mg → mg d.name = some (.ref fa) → ∃ K : PySem.W.Frag, K.In h ∧ LawG l w K (CX w) k n x mg fa h)
    (hCX : ∀ (w : World) (H : Hp) (s : Shared) (e : Value) (s' : Shared), CX w [] H s (fun _ _ _ => False) e s' → False) : PySem.W.WalkO q loose XP YP l.row.toRowW d [] (fun f vs => PySem.call f vs) := by
  refine Att.attach_callB hn hdf fun w s0 S mg mb fa o pm cd doc a vs ns G Y ho hd hcd hmg hobj hints hlen hbits hg => ?_
  obtain ⟨K, KX, fd, cs, sp, t1, t2, t3, hb, hsp, K2, k1, k2, hF⟩ := F w mg fa _ Y G.T.g hmg
  exact law_callG KX G.T.g G.T.b G.T.builtins G.T.nolimit hg t1 t2 t3 G.T.bmain hobj hints (Nat.le_trans hlen hn2) ⟨hr, rfl⟩ k1 k2 hF hb (fun H hH hS => hsp H a ns hlen hbits hH hS) fun H e s' => hCX w H S e s'
end L3

set_option maxHeartbeats 2000000
/-! L4N: what the head is asked about the error classes. -/
namespace L3
open PySem PySem.Spec PyProof.Rows L2
abbrev atI : Str × Option Str := ("BindError", some "__init__")
def oexB (K : PySem.W.Frag) (C : Addr) : Bool := match K.lookup C with
  | some ⟨.type "type", _, .cls cd, sl⟩ => (match cd.mro, sl.toList with
    | .ref C' :: bm, [_, _, _, _, some (.builtin n), _] => C' == C && (n == "ValueError.__new__" && (!cd.hasDel && (cd.hasDict && PySem.HandSPX.refsVE bm)))
    | _, _ => false)
  | _ => false
theorem oexB_ok {K : PySem.W.Frag} {C : Addr} (q : oexB K C = true) : ∃ nm q N bs bm sn sub ab col dd k0 k1 k2 k3 k5, K.lookup C = some (excClassObj nm q C N bs bm true sn sub ab col dd k0 k1 k2 k3 k5 "ValueError.__new__") ∧ PySem.HandSPX.refsVE bm = true := by
  unfold oexB at q
  split at q
  · rename_i dd cd sl ho
    split at q
    · rename_i C' bm k0 k1 k2 k3 n k5 hm hs
      simp only [Bool.and_eq_true, beq_iff_eq, Bool.not_eq_true'] at q
      obtain ⟨rfl, rfl, hdel, hdc, ht⟩ := q
      obtain ⟨nm, bs, mro, ns, qn, hd, sn, sub, ab, col, del⟩ := cd
      dsimp only at hm hdel hdc
      subst hm hdel hdc
      obtain ⟨l⟩ := sl
      simp only at hs
      subst hs
      exact ⟨nm, qn, ns, bs, bm, sn, sub, ab, col, dd, k0, k1, k2, k3, k5, ho, ht⟩
    · cases q
  · cases q
def errB (K : PySem.W.Frag) (n : Str) : Bool :=
  oexB K (He.ga K n) && (decide (PySem.W.findIn K (.ref (He.ga K n)) "__setattr__" = some (some (.builtin "object.__setattr__"))) && (decide (PySem.W.subIn K (.ref (He.ga K n)) (.type "BaseException") = some true) && (decide (PySem.W.typeIn K (.ref (He.ga K n)) = some (.type "type")) && (PySem.W.keepIn K (.ref (He.ga K n)) &&
  (decide (PySem.W.findIn K (.ref (He.ga K n)) "__init__" = some (some (.ref (He.fAd K atI)))) && (decide (PySem.W.findIn K (.ref (He.ga K n)) "value" = some none) && (decide (PySem.W.mroIn K (He.ga K n) (.ref (He.ga K "BindError")) = some true) &&
  (decide (PySem.W.ks_superIn K (He.ga K n) (He.ga K "BindError") "__init__" = some (some (.builtin "ValueError.__init__"))) && (decide (PySem.W.subIn K (.ref (He.ga K n)) (.type "ValueError") = some true) && (xfB K (He.ga K n) &&
  (decide (PySem.W.findIn K (.ref (He.ga K n)) "__class__" = some (some (.builtin "object.__class__"))) && (decide (PySem.W.specialIn K (.builtin "object.__class__") "__get__" = some (some (.builtin "getset_descriptor.__get__"))) && (decide (PySem.W.takesIn K (.builtin "object.__class__") = some true) &&
  (decide (PySem.W.mroIn K (He.ga K n) (.type "object") = some true) && (decide (PySem.W.kitOne K (.ref (He.ga K n)) (.ref (He.ga K "BindError")) = some true) && (decide (PySem.W.kitOne K (.ref (He.ga K n)) (.type "ValueError") = some true) && decide (PySem.W.exmOne K (.ref (He.ga K n)) (.ref (He.ga K "BindError")) = some true)))))))))))))))))
theorem errB_ok {K : PySem.W.Frag} {mg : Str → Option Value} {n : Str} (q : errB K n = true) (g : mg n = some (.ref (He.ga K n))) : ErrC K mg n (He.fAd K atI) ∧ ErrF K n ∧ PySem.W.exmOne K (.ref (He.ga K n)) (.ref (He.ga K "BindError")) = some true := by
  unfold errB at q
  simp only [Bool.and_eq_true, decide_eq_true_eq] at q
  obtain ⟨h1, h2, h3, h4, h5, h6, h7, h8, h9, h10, h11, h12, h13, h14, h15, h16, h17, h18⟩ := q
  have x := xfB_ok h11
  exact ⟨⟨g, ⟨oexB_ok h1, h2, h3, h4, h5⟩, h6, h7, ⟨h8, h9, h10⟩⟩, ⟨⟨x.ga, x.gg, x.exC, x.hdC, h12, h13, h14, h15⟩, x, h7, h16, h17⟩, h18⟩
/-! BindError's __init__ -/
def dvNone (K : PySem.W.Frag) : Bool := match K.lookup (He.fAd K atI) with
  | some ⟨_, _, .func fd, _⟩ => (match fd.defaults with
    | .none => true
    | _ => false)
  | _ => false
def initB (P : Program) (K : PySem.W.Frag) (CC : Addr) : Bool := (match K.lookup (He.fAd K atI) with
  | some ⟨_, _, .func fd, _⟩ => (match fd.code with
    | .ref cda => PySem.W.codeIn K (.ref cda) "BindError.__init__" && (match K.lookup cda with
      | some ⟨_, _, .fields (vs : Array Value), _⟩ => (match (vs[2]? : Option Value) with
        | some (Value.str file _) => P.main.file == file
        | _ => false)
      | _ => false)
    | _ => false)
  | _ => false) && ((match K.lookup CC with
  | some ⟨_, _, .cell (some (.ref b)), _⟩ => b == He.ga K "BindError"
  | _ => false) && ((PySem.W.clsIn K (He.ga K "BindError")).isSome && (dvNone K && decide (PySem.W.typeIn K (.ref (He.fAd K atI)) = some (.type "function")))))
/-- the value that the head tells of it -/
abbrev initV (params : Arguments) (body : List Stmt) (scope : Scope) (CC : Addr) : He.FnW := some ("__init__", "BindError.__init__", params, .stmts body, scope, mainGlobals, [("__class__", CC)], builtinsNs)
theorem initH_of {P : Program} {K : PySem.W.Frag} {mg : Str → Option Value} {params : Arguments} {body : List Stmt} {scope : Scope} {CC : Addr} {p0 p1 p2 p3 p4 p5 p6 p7 p8 p9 : Pos} (e : He.fnW K atI = initV params body scope CC) (b : initB P K CC = true) (hsup : mg "super" = none) {K2 : PySem.W.Frag} (b4 : PySem.W.nsIn K2 cStatics "thirdparty.any" = some none)
    (hbd : body = [.Expr (.Call (.Attribute (.Call (.Name "super" p0) [] [] p1) "__init__" p2) [.Name "value" p3] [] p4) p5, .Assign [.Attribute (.Name "self" p6) "value" p7] (.Name "value" p8) p9]) (hln : (p2.endLine == p4.line) = true)
    (htop : (P.main.scope.names.lookup ("super" : Str)).isSome = false) {ar : Arg} (hpar : (params.posonlyargs ++ params.args).head? = some ar) (har : ar.arg = ("self" : Str)) (kind : scope.kind = .function) (co : scope.isCoroutine = false) (gen : scope.isGenerator = false) (cell : ∀ x ∈ scope.names, x.2 ≠ .cell)
    (nself : scope.names.lookup ("self" : Str) = some .local) (nval : scope.names.lookup ("value" : Str) = some .local) (nsup : scope.names.lookup ("super" : Str) = some .globalImplicit) (ncls : scope.names.lookup ("__class__" : Str) = some .free) (nfree : ∀ y, scope.names.lookup y = some .free → y = ("__class__" : Str)) :
    ∃ T : InitH P K mg (He.fAd K atI), T.params = params ∧ T.dV = .none ∧ T.K2 = K2 ∧ PySem.W.typeIn K (.ref (He.fAd K atI)) = some (.type "function") := by
  unfold initB at b
  simp only [Bool.and_eq_true, decide_eq_true_eq] at b
  obtain ⟨b1, b2, b3, bd, b5⟩ := b
  unfold dvNone at bd
  unfold He.fnW at e
  cases hl : K.lookup (He.fAd K atI) with
  | none => rw [hl] at e; cases e
  | some o =>
    obtain ⟨oc, od, dt, osl⟩ := o
    rw [hl] at e b1 bd
    cases dt with
    | func fd =>
      obtain ⟨f1, f2, f3, f4, f5, f6, f7, f8, f9, f10, f11, f12, f13, f14, f15⟩ := fd
      simp only [initV, Option.some.injEq, Prod.mk.injEq] at e
      simp only at b1 bd
      have hdv : f8 = Value.none := by
        cases f8 <;> first | rfl | cases bd
      subst hdv
      split at b1
      · rename_i _ cda
        simp only [Bool.and_eq_true] at b1
        obtain ⟨b6, b7⟩ := b1
        obtain ⟨rfl, rfl, rfl, rfl, rfl, rfl, rfl, rfl⟩ := e
        subst hbd
        split at b7
        · rename_i ccl cdd vs ccs hlc
          split at b7
          · rename_i file tf hvs
            split at b2
            · rename_i cl cld bb csl hlk
              have hb := eq_of_beq b2
              subst hb
              obtain ⟨cdD, hD⟩ := Option.isSome_iff_exists.mp b3
              exact ⟨⟨oc, od, osl, _, _, _, _, _, _, _, cda, _, CC, p0, p1, p2, p3, p4, p5, p6, p7, p8, p9, hln, hl, b6, ccl, cdd, vs, ccs, file, tf, hlc, hvs, b7, cl, cld, csl, hlk, cdD, hD, hsup, K2, b4, htop, ar, hpar, har, kind, co, gen, cell, nself, nval, nsup, ncls, nfree⟩, rfl, rfl, rfl, b5⟩
            · cases b2
          · cases b7
        · cases b7
      · cases b1
    | _ => cases e
end L3

set_option maxHeartbeats 2000000
/-! L4M: defs that make closures; calls with keywords; the hook for errors. -/
namespace L3
open PySem PySem.Spec PyProof.Rows L2
abbrev isM (X : Cx) (kk : Nat) (tab : Nat → Nat × FEX) : Nat → Obj → Prop := fun j o => LamOk X kk o (tab j).1 (tab j).2
/-- a def that makes closures -/
theorem fn3M {P : Program} {w : World} {K : PySem.W.Frag} {mg : Str → Option Value} {base : Heap} {x qual : Str} {st : Stmt} {f : Addr} {fd : FuncData} {N ps : List Str} {k n : Nat} {m : FM} {g : (Nat → Obj → Prop) → FS} (kk : Nat) (tab : Nat → Nat × FEX)
    (F : Fun K x qual st f fd) (S : FnScope N ps (defScope st)) (hn : ps.length = n) (hp : ∀ ds c Q, m ds c Q → ∀ is, runM N.length (g is) ds c Q)
    (hbody : ∀ (cdv : Value) (A : Around) (outer : List Env) (s : Shared) (H : Hp) (E : XK), fd.code = cdv → Room k (A.deeper (envOfC qual (defScope st) s.heap.objs.size f cdv)) →
      BX (cxOf CX0 P w K mg base N qual (defScope st) f cdv A outer s H E).nox (defBody st) (g (isM (cxOf CX0 P w K mg base N qual (defScope st) f cdv A outer s H E).nox kk tab))) : FnOk P w K mg base CX0 (k + 1) f fd ps (spM K n m) := by
  refine Fun.ok3 F S (fun vs H Q E h => h.1.trans hn.symm) fun cdv A outer s H vs Q E hcd hr ⟨hl, p, c, F1, ds, Q', ok, r, h, t⟩ => ?_
  refine ⟨_, (hbody cdv A outer s H E hcd hr).nox, p, c, start3 N.length ds, F1, F1, H, _, start_ok ok r, hp ds c Q' h _, fun c ρ σ F' H' s q => ?_, fun _ _ _ _ _ _ q => q.elim, fun _ _ _ _ _ _ q => q.elim, t⟩
  exact t .non c .non F' H' s.ent s.ok rfl q
theorem tabB_up {base B : Heap} {mg : Str → Option Value} {c P : Addr} (T : LamX.TabB base mg c P) (k : ∀ b o, base.get? b = some o → B.get? b = some o) : LamX.TabB B mg c P := ⟨T.code.keeps k, T.bm.keeps k, T.gP⟩
/-! keywords -/
/-- how a call with keywords binds: first those by place, then those by name, in the parameters' sequence -/
def KwOk (K : PySem.W.Frag) (fd : FuncData) (ps ks : List Str) : Prop := ∀ (s : Shared) (us ws : List Value), K.In s.heap → us.length + ws.length = ps.length → ws.length = ks.length → BindsTo s fd ⟨us, ks.zip ws⟩ (ps.zip (us ++ ws))
theorem KwOk.all {K : PySem.W.Frag} {fd : FuncData} {ps ks : List Str} (h : ∀ us ws : List Value, us.length + ws.length = ps.length → ws.length = ks.length → bindArgs fd ⟨us, ks.zip ws⟩ = pure (ps.zip (us ++ ws))) : KwOk K fd ps ks := fun s us ws _ h1 h2 => .of_eq (h us ws h1 h2)
abbrev KWX (X : Cx) (kws : List Keyword) (fr : FA) : Prop := PK X kws (tAr X.K fr)
theorem PK.imp {X : Cx} {kws : List Keyword} {t t' : TA} (h : PK X kws t) (w : ∀ σ H Q, t' σ H Q → t σ H Q) : PK X kws t' := ⟨fun pos pins s σ H Q I q => h.run pos pins s σ H Q I (w σ H Q q)⟩
section
variable {X : Cx} {e : Expr} {es : List Expr} {kws : List Keyword} {fa : FE} {fr fk : FA} {kpos pos : Pos} {nm : Option Str}
theorem kx_nil : KWX X [] aNil := PK.imp pk_nil fun σ H Q ⟨p, c, ρ, F, Q', es, h, t⟩ => t [] c [] F H (.refl ..) es.ok rfl h
theorem kx_cons (ha : EX X e fa) (hr : KWX X kws fr) : KWX X (⟨nm, e, kpos⟩ :: kws) (aCons fa fr) := PK.imp (pk_cons ha hr) fun σ H Q ⟨p, c, ρ, F, Q', es, h, t⟩ =>
  ⟨p, c, ρ, F, _, es, h, fun d c1 v F1 H1 w1 ok1 r1 q1 => ⟨p, c1, ρ, F1, _, es.fwd w1 ok1, q1, fun l c2 vs F2 H2 w2 ok2 r2 q2 => t (d :: l) c2 (v :: vs) F2 H2 (w1.trans w2) ok2 ⟨v, vs, rfl, r1.mono w2.frz, r2⟩ q2⟩⟩
@[simp ↓] def eCallK (kn : Nat) (m : FM) (fr fk : FA) : FE := fun ρ c Q => fr ρ c fun l c => fk ρ c fun l2 c => l2.length = kn ∧ m (l ++ l2) c Q
@[simp ↓] def yCallK (kn : Nat) (m : FMX) (fr fk : FA) : FEX := fun ρ c Q QX => fr ρ c fun l c => fk ρ c fun l2 c => l2.length = kn ∧ m (l ++ l2) c Q QX
variable {CX : CXT} {k n : Nat} {f : Addr} {fd : FuncData} {ps ks : List Str} {x : Str} {p1 : Pos}
theorem RepL.two_ap {K : PySem.W.Frag} {p : Pn} {F : Hp} : ∀ {l : List D} {xs : List V} {l2 : List D} {ys : List V}, RepL K p F l xs → RepL K p F l2 ys → RepL K p F (l ++ l2) (xs ++ ys)
  | [], _, _, _, h, h2 => by cases h; exact h2
  | d :: l, _, _, _, h, h2 => by
    obtain ⟨x, r, rfl, a, b⟩ := h
    exact ⟨x, _, rfl, a, RepL.two_ap b h2⟩
/-- f(e, .., k = v, ..), f raises nothing here -/
theorem ex_callK {m : FM} {E : XK} (G : FnOk X.prog X.w X.K X.mg X.base CX k f fd ps (spM X.K n m)) (hr : Room k X.A) (hm : X.mg x = some (.ref f)) (hk : PySem.W.keepIn X.K (.ref f) = true) (hb : KwOk X.K fd ps ks) (hn : ps.length = n) (ha : AX X (e :: es) fr) (hkw : KWX X kws fk) (hx : Passes CX X E) (hks : (backToKw pos (keywordEach kws X.env)).filterMap (·.1) = ks := by rfl) (hkl : ks.length = kws.length := by rfl)
    (hall : (backToKw pos (keywordEach kws X.env)).all (·.1.isSome) = true := by rfl) (hg : Gl X x := by rfl) (hdb : (x == ("__debug__" : Str)) = false := by decide) (he : starEach (e :: es) X.env = (false, eval e X.env) :: starEach es X.env := by rfl)
    (hpl : ((backTo pos (starEach (e :: es) X.env)).any (·.1) || (backToKw pos (keywordEach kws X.env)).any (·.1.isNone)) = false := by rfl) (hl : ∀ l c Q, m l c Q → l.length = n) : EX X (.Call (.Name x p1) (e :: es) kws pos) (eCallK ks.length m fr fk) := by
  refine ⟨fun pins s σ H Q I ⟨p, c0, ρ, F, Q', est, hq, t⟩ => ?_⟩
  refine wpAny_Call_Name_kw (ld_glob I hg hm ?_ hdb)
  refine PySem.W.callWith_KW (h₀ := X.base) I.ok.mod.kin hk hall (thn (ha.run pos pins s σ H (fun vs H1 => ∃ l c1 F1, Fwd p F H F1 H1 ∧ Ok3 p c1 F1 H1 ∧ RepL X.K p F1 l vs ∧ fk ρ c1 fun l2 c => l2.length = ks.length ∧ m (l ++ l2) c Q') I ⟨p, c0, ρ, F, _, est, hq, fun l c1 vs F1 H1 w1 ok1 r1 q1 => ⟨l, c1, F1, w1, ok1, r1, q1⟩⟩) fun us s1 ⟨vs, H1, I1, rv, l, c1, F1, w1, ok1, rl, q1⟩ => ?_) hpl he
  refine thn (hkw.run pos pins s1 σ H1 (fun zs H2 => ∃ l2 c2 F2, Fwd p F1 H1 F2 H2 ∧ Ok3 p c2 F2 H2 ∧ RepL X.K p F2 l2 zs ∧ l2.length = ks.length ∧ m (l ++ l2) c2 Q') I1 ⟨p, c1, ρ, F1, _, est.fwd w1 ok1, q1, fun l2 c2 zs F2 H2 w2 ok2 r2 q2 => ⟨l2, c2, F2, w2, ok2, r2, q2⟩⟩) fun ws s2 ⟨zs, H2, I2, rz, l2, c2, F2, w2, ok2, rl2, hz, q2⟩ => ⟨I2.kIn, ?_⟩
  rw [hks]
  have hlen := hl _ _ _ q2
  have rall := RepL.two_ap (rl.mono w2.frz) rl2
  have e1 : us.length + ws.length = ps.length := by rw [hn, ← hlen, List.length_append, ← rv.length, ← rz.length, rl.len, rl2.len]
  exact of_ran (args := ⟨us, ks.zip ws⟩) (ran G hr hx I2 (hb s2 us ws I2.kIn e1 (by rw [← rz.length, rl2.len, hz])) (rv.append rz) ⟨by rw [rall.len]; exact hlen, p, c2, F2, l ++ l2, Q', ok2, rall, q2, t.fwd (w1.trans w2)⟩)
/-- f(k = v, ..), f raises nothing here -/
theorem ex_callK0 {m : FM} {E : XK} (G : FnOk X.prog X.w X.K X.mg X.base CX k f fd ps (spM X.K n m)) (hr : Room k X.A) (hm : X.mg x = some (.ref f)) (hk : PySem.W.keepIn X.K (.ref f) = true) (hb : KwOk X.K fd ps ks) (hn : ps.length = n) (hkw : KWX X kws fk) (hx : Passes CX X E) (hks : (backToKw pos (keywordEach kws X.env)).filterMap (·.1) = ks := by rfl) (hkl : ks.length = kws.length := by rfl)
    (hall : (backToKw pos (keywordEach kws X.env)).all (·.1.isSome) = true := by rfl) (hg : Gl X x := by rfl) (hdb : (x == ("__debug__" : Str)) = false := by decide)
    (hpl : ((backTo pos (starEach [] X.env)).any (·.1) || (backToKw pos (keywordEach kws X.env)).any (·.1.isNone)) = false := by rfl) (hl : ∀ l c Q, m l c Q → l.length = n) : EX X (.Call (.Name x p1) [] kws pos) (eCallK ks.length m aNil fk) := by
  refine ⟨fun pins s σ H Q I ⟨p, c0, ρ, F, Q', est, hq, t⟩ => ?_⟩
  refine wpAny_Call_Name_kw (ld_glob I hg hm ?_ hdb)
  refine PySem.W.callWith_KW0 (h₀ := X.base) I.ok.mod.kin hk hall ?_ hpl
  refine thn (hkw.run pos pins s σ H (fun zs H2 => ∃ l2 c2 F2, Fwd p F H F2 H2 ∧ Ok3 p c2 F2 H2 ∧ RepL X.K p F2 l2 zs ∧ l2.length = ks.length ∧ m ([] ++ l2) c2 Q') I ⟨p, c0, ρ, F, _, est, hq, fun l2 c2 zs F2 H2 w2 ok2 r2 q2 => ⟨l2, c2, F2, w2, ok2, r2, q2⟩⟩) fun ws s2 ⟨zs, H2, I2, rz, l2, c2, F2, w2, ok2, rl2, hz, q2⟩ => ⟨I2.kIn, ?_⟩
  rw [hks]
  have hlen := hl _ _ _ q2
  have e1 : ([] : List Value).length + ws.length = ps.length := by rw [hn, ← hlen, List.length_append, ← rz.length, rl2.len]; rfl
  exact of_ran (args := ⟨[], ks.zip ws⟩) (ran G hr hx I2 (hb s2 [] ws I2.kIn e1 (by rw [← rz.length, rl2.len, hz])) rz ⟨by rw [rl2.len]; exact hlen, p, c2, F2, l2, Q', ok2, rl2, q2, t.fwd w2⟩)
end
end L3

set_option maxHeartbeats 2000000
/-! L4O: the hook that tells BindError's __init__, too; errors' facts put together. -/
namespace L3
open PySem PySem.Spec PyProof.Rows L2
def isDic (o : Obj) : Bool := match o.data with
  | .dict _ _ => true
  | _ => false
def opq (g : Addr → Option Obj) : Bool := match g cStatics with
  | some o => isDic o && decide (PySem.W.nsIn [(cStatics, o)] cStatics "thirdparty.any" = some none)
  | none => false
def Opq (h : Heap) : Prop := ∃ K2 : PySem.W.Frag, K2.In h ∧ (∀ b o, K2.lookup b = some o → ∃ es ep, o.data = .dict es ep) ∧ PySem.W.nsIn K2 cStatics "thirdparty.any" = some none
theorem opq_ok {h : Heap} (e : opq h.get? = true) : Opq h := by
  unfold opq at e
  split at e
  · rename_i o ho
    obtain ⟨e1, e2⟩ := Bool.and_eq_true_iff.mp e
    have one : ∀ b u, List.lookup b [(cStatics, o)] = some u → b = cStatics ∧ u = o := fun b u q => by
      unfold List.lookup at q
      split at q
      · rename_i hb
        cases q
        exact ⟨eq_of_beq hb, rfl⟩
      · cases q
    refine ⟨[(cStatics, o)], fun b u q => ?_, fun b u q => ?_, of_decide_eq_true e2⟩
    · obtain ⟨rfl, rfl⟩ := one b u q
      exact ho
    · obtain ⟨rfl, rfl⟩ := one b u q
      unfold isDic at e1
      split at e1
      · rename_i es ep hd
        exact ⟨es, ep, hd⟩
      · cases e1
  · cases e
def hookE (n : Nat) (fa : List He.Fa) (fn : List He.DefD) (tf : List He.Defn) (ex : PySem.W.Frag → Bool) (v : He.FnW) : PySem.W.Hook where
  α := He.AlX × He.FnW × Bool
  obs := fun s => (He.obsX n fa fn [] tf ex s.heap.get?, He.fnW (He.frT s.heap.get? (He.asD s.heap.get? n)) atI, opq s.heap.get?)
  val := fun w => (He.valX fn [] w, v, true)
  says := fun w h => ∃ K : PySem.W.Frag, K.In h ∧ He.SaysX fa fn [] tf ex w h K ∧ He.fnW K atI = v ∧ Opq h
  of := fun _ _ e => ⟨_, He.frT_in, He.saysX_of (congrArg (fun z : He.AlX × He.FnW × Bool => z.1) e), congrArg (fun z : He.AlX × He.FnW × Bool => z.2.1) e, opq_ok (congrArg (fun z : He.AlX × He.FnW × Bool => z.2.2) e)⟩
  keeps := fun _ _ _ ⟨K, hK, c, d, K2, a, a2, b⟩ k => ⟨K, PySem.W.Frag.In.keeps hK k, ⟨c.t, c.more, c.hd, c.out, fun p hp => k _ _ (c.empty p hp)⟩, d, K2, PySem.W.Frag.In.keeps a k, a2, b⟩
abbrev obE (n : Nat) (fa : List He.Fa) (fn : List He.DefD) (tf : List He.Defn) (ex : PySem.W.Frag → Bool) (g : Addr → Option Obj) : He.AlX × He.FnW × Bool := (He.obsX n fa fn [] tf ex g, He.fnW (He.frT g (He.asD g n)) atI, opq g)
theorem obE_eq {n : Nat} {fa : List He.Fa} {fn : List He.DefD} {tf : List He.Defn} {ex : PySem.W.Frag → Bool} {v : He.FnW} {g : Addr → Option Obj} {s : Shared} (h : ∀ a, g a = s.heap.get? a) : obE n fa fn tf ex g = (hookE n fa fn tf ex v).obs s := by
  have e : g = s.heap.get? := funext h
  rw [e] <;> rfl
/-- all that is known of one error class -/
structure Err1 (K : PySem.W.Frag) (mg : Str → Option Value) (n : Str) : Prop where
  c : ErrC K mg n (He.fAd K atI)
  f : ErrF K n
  x : PySem.W.exmOne K (.ref (He.ga K n)) (.ref (He.ga K "BindError")) = some true
theorem err1_ok {K : PySem.W.Frag} {mg : Str → Option Value} {n : Str} (q : errB K n = true) (g : mg n = some (.ref (He.ga K n))) : Err1 K mg n := let ⟨a, b, c⟩ := errB_ok q g; ⟨a, b, c⟩
theorem errs_all {K : PySem.W.Frag} {mg : Str → Option Value} : ∀ {errs : List Str}, (∀ n ∈ errs, Err1 K mg n) → ∀ m, errs.contains m = true → Err1 K mg m := fun h m e => h m (by simpa using e)
theorem Fun.kw {K : PySem.W.Frag} {x qual : Str} {st : Stmt} {f : Addr} {fd : FuncData} {ps ks : List Str} (F : Fun K x qual st f fd)
    (h : ∀ (kV doc pm : Value) (an : Option Addr) (cdv ct : Value) (us ws : List Value), us.length + ws.length = ps.length → ws.length = ks.length → bindArgs (PySem.W.fnOf x qual (defArgs st) (defBody st) (defScope st) .none kV doc pm an cdv ct) ⟨us, ks.zip ws⟩ = pure (ps.zip (us ++ ws))) : KwOk K fd ps ks := by
  obtain ⟨oc, od, kV, doc, pm, an, cdv, ct, osl, rfl, lk, hcd⟩ := F.ex
  exact KwOk.all (h kV doc pm an cdv ct)
end L3

set_option maxHeartbeats 2000000
/-! L4P: dict displays as data, str of an int, slices of texts, upper. -/
namespace L3
open PySem PySem.Spec PyProof.Rows L2
section
variable {X : Cx} {e : Expr} {es : List Expr} {fe : FE} {pos p2 : Pos}
theorem ex_dct0 : EX X (.Dict [] [] pos) (eC (.dct (.k []) [])) := PE.imp pe_dnewK fun σ H Q ⟨p, c, ρ, F, Q', es, h, t⟩ q nq => by
  obtain ⟨w, ok⟩ := Fwd.laid es.ok nq (.dK []) (fun _ z => nomatch z)
  exact t (.dct (.k []) []) c (.ref q) _ _ w ok ⟨q, _, [], rfl, upd_same, ⟨[], rfl, rfl, rfl⟩, rfl⟩ h
/-- {'a': 1} -/
theorem ex_dct1 {x : Str} {i : Int} {j1 j2 : Nat} {pk pv : Pos} : EX X (.Dict [some (.Constant (.str x) j1 pk)] [.Constant (.int i) j2 pv] pos) (eC (.dct (.k [.inr x]) [.int i])) :=
  PE.imp (pe_disp (pps_cons pe_str pe_int pps_nil) rfl rfl (by simp) (by simp)) fun σ H Q ⟨p, c, ρ, F, Q', es, h, t⟩ q nq => by
    obtain ⟨w, ok⟩ := Fwd.laid es.ok nq (.dK [(.inr x, .int i)]) (fun _ z => nomatch z)
    refine ⟨upd_same, [(.inr x, .int i)], rfl, by simp, ?_⟩
    rw [upd_upd]
    exact t (.dct (.k [.inr x]) [.int i]) c (.ref q) _ _ w ok ⟨q, _, [.int i], rfl, upd_same, ⟨[(.inr x, .int i)], rfl, rfl, rfl⟩, ⟨_, _, rfl, rfl, rfl⟩⟩ h
@[simp ↓] def strIM : FM := fun l c Q => match l with
  | [.int i] => i.natAbs.log2 < 1920 ∧ Q (.str (toString i : String)) c
  | _ => False
theorem strIS {K : PySem.W.Frag} : CallS K (fun xs H Q => ∃ i, xs = [V.int i] ∧ i.natAbs.log2 < 1920 ∧ Q (.str (toString i : String)) H) strIM := by
  intro p c F H l vs Q' Q ok r h t
  unfold strIM at h
  split at h
  · rename_i i
    obtain ⟨v, rfl, r1⟩ := r.one
    cases r1
    exact ⟨i, rfl, h.1, t (.str (toString i : String)) c _ F H (Fwd.refl ..) ok rfl h.2⟩
  · exact h.elim
@[simp ↓] def eSlS (fe : FE) (lo hi : FO) : FE := fun ρ c Q => fe ρ c fun x c => lo ρ c fun a c => hi ρ c fun b c => match x with | .str z => z.length ≤ 16777216 ∧ Q (.str (cutS z a b)) c | _ => False
theorem ex_slS {lo hi : Option Expr} {fl fh : FO} (ha : EX X e fe) (hl : OX X lo fl) (hh : OX X hi fh) : EX X (.Subscript e (.Slice lo hi none p2) pos) (eSlS fe fl fh) := by
  obtain ⟨tl, pl, kl⟩ := hl.ex
  obtain ⟨th, ph, kh⟩ := hh.ex
  refine PE.imp (pe_slice sl_str ha pl ph) fun σ H Q ⟨p, c, ρ, F, Q', es, h, t⟩ => ⟨p, c, ρ, F, _, es, h, fun x c1 v F1 H1 w1 ok1 r1 q1 => ?_⟩
  refine kl σ H1 p c1 ρ F1 _ _ (es.fwd w1 ok1) q1 fun i c2 F2 H2 w2 ok2 q2 => ?_
  have w12 := w1.trans w2
  refine kh σ H2 p c2 ρ F2 _ _ (es.fwd w12 ok2) q2 fun j c3 F3 H3 w3 ok3 q3 => ?_
  have w13 := w12.trans w3
  split at q3
  · rename_i z
    cases r1
    exact ⟨z, rfl, by rw [sizeLine_eq]; exact q3.1, t (.str (cutS z i j)) c3 _ F3 H3 w13 ok3 rfl q3.2⟩
  · exact q3.elim
@[simp ↓] def upperD : D → Nat → KD → Prop
  | .str z, c, Q => z.length ≤ 5592405 ∧ Q (.str (Txt.upper z)) c
  | _, _, _ => False
theorem ex_upper {p1 : Pos} (he : EX X e fe) (hbase : attributeBase e "upper" X.env (eval e X.env) = eval e X.env := by rfl) (hline : (p1.endLine == p2.line) = true := by rfl) : EX X (.Call (.Attribute e "upper" p1) [] [] p2) (eUn upperD fe) := by
  refine ⟨fun pins s σ H Q I ⟨p, c, ρ, F, Q', es, h, t⟩ => ?_⟩
  refine J1.ev_upper hbase hline (thn (he.run pins s σ H (fun v H1 => ∃ d c1 F1, Fwd p F H F1 H1 ∧ Ok3 p c1 F1 H1 ∧ Rep X.K p F1 d v ∧ upperD d c1 Q') I ⟨p, c, ρ, F, _, es, h, fun d c1 v F1 H1 w1 ok1 r1 q1 => ⟨d, c1, F1, w1, ok1, r1, q1⟩⟩) fun u s1 ⟨v, H1, I1, r, d, c1, F1, w1, ok1, r1, q1⟩ => ?_)
  unfold upperD at q1
  split at q1
  · rename_i z
    cases r1
    obtain ⟨tz, rfl⟩ := r
    exact ⟨z, tz, rfl, q1.1, fun t' k => ⟨.str _, H1, I1.tok _, ⟨_, rfl⟩, t (.str (Txt.upper z)) c1 _ F1 H1 w1 ok1 rfl q1.2⟩⟩
  · exact q1.elim
end
end L3

set_option maxHeartbeats 2000000
/-! L4Q: a tuple times an int of any size that is not below 0. -/
namespace L3
open PySem PySem.Spec PyProof.Rows L2
theorem tuple_mul0 (l : Addr) (items : Array Value) (n : Nat) (dd : Option Addr) (sl : Array (Option Value)) (x : Int) (u : Tok) (c0 : (decide (x < -(2 ^ 63)) || decide (x ≥ 2 ^ 63)) = false) (c1 : (items.isEmpty || x == 1) = false) (c2 : (decide (x ≤ 0) || items.isEmpty) = true) :
    Meets (Builtin.«tuple.__mul__» ⟨[.ref l, .int x u], []⟩) (fun _ R s => s.heap.get? l = some { cls := .type "tuple", dict := dd, data := .seq items n, slots := sl } ∧
      R (.ok (.ret (Value.ref s.heap.objs.size))) { s with heap := s.heap.push { cls := Value.type "tuple", data := Data.seq #[] }, toks := s.toks }) :=
  .of_wp fun prog w A R s h => by
    obtain ⟨hp, g, d, tk, os⟩ := s
    obtain ⟨hl, h⟩ := h
    have f1 := AutoSeq1.idx_int
    wp_walk using wpAny_loadPart' hl
    repeat (first
      | (refine wpAny_ite_false (decide_eq_false (by rw [c0]; exact Bool.false_ne_true)) ?_; wp_walk using wpAny_loadPart' hl)
      | (refine wpAny_ite_false (decide_eq_false (by rw [c1]; exact Bool.false_ne_true)) ?_; wp_walk using wpAny_loadPart' hl)
      | (refine wpAny_ite_true (decide_eq_true c2) ?_; wp_walk using wpAny_loadPart' hl))
    exact ⟨_, rfl, h⟩
theorem tuple_mul1 (l : Addr) (items : Array Value) (n : Nat) (dd : Option Addr) (sl : Array (Option Value)) (x : Int) (u : Tok) (c0 : (decide (x < -(2 ^ 63)) || decide (x ≥ 2 ^ 63)) = false) (c1 : (items.isEmpty || x == 1) = true) :
    Meets (Builtin.«tuple.__mul__» ⟨[.ref l, .int x u], []⟩) (fun _ R s => s.heap.get? l = some { cls := .type "tuple", dict := dd, data := .seq items n, slots := sl } ∧ R (.ok (.ret (Value.ref l))) s) :=
  .of_wp fun prog w A R s h => by
    obtain ⟨hp, g, d, tk, os⟩ := s
    obtain ⟨hl, h⟩ := h
    have f1 := AutoSeq1.idx_int
    wp_walk using wpAny_loadPart' hl
    repeat (first
      | (refine wpAny_ite_false (decide_eq_false (by rw [c0]; exact Bool.false_ne_true)) ?_; wp_walk using wpAny_loadPart' hl)
      | (refine wpAny_ite_true (decide_eq_true c1) ?_; wp_walk using wpAny_loadPart' hl))
    exact ⟨_, rfl, h⟩
def rMulT (K : PySem.W.Frag) : R2 := fun x y H Q => ∃ l k xs, x = .ref l ∧ y = .int k ∧ SqT K H l xs ∧ xs ≠ [] ∧ 0 ≤ k ∧ k ≤ 1000 ∧ xs.length ≤ 1000 ∧ (k = 1 → Q (.ref l) H) ∧ (k ≠ 1 → ∀ p, H p = none → Q (.ref p) (upd H p (.tup (List.replicate k.toNat xs).flatten)))
section
variable {X : Cx} {a b : Expr} {fa fb : FE} {pos : Pos}
theorem op_mulT : OpR X (binaryOp .Mult) (rMulT X.K) := by
  intro pins s σ H x y v u Q I rx ry h
  obtain ⟨l, k, xs, rfl, rfl, hT, hne, h1, h2, hz, q1, q2⟩ := h
  by_cases k2 : 2 ≤ k
  · exact op_repT pins s σ H _ _ v u Q I rx ry ⟨l, k, xs, rfl, rfl, hT, hne, k2, h2, hz, q2 (by omega)⟩
  · cases rx
    obtain ⟨t, rfl⟩ := ry
    obtain ⟨its, r, ⟨⟨cls, dd, data, sl⟩, ho, hc, n, hd⟩, hs⟩ := I.tuple hT
    simp only at hc hd
    subst hc hd
    have ne : its.toArray.isEmpty = false := by
      cases its with
      | nil => cases r; exact absurd rfl hne
      | cons a b => rfl
    have c0 : (decide (k < -(2 ^ 63)) || decide (k ≥ 2 ^ 63)) = false := by rw [decide_eq_false (by omega), decide_eq_false (by omega)] <;> rfl
    by_cases k1 : k = 1
    · have c1 : (its.toArray.isEmpty || k == 1) = true := by rw [k1]; simp
      refine wpAny_binaryOp_repeat_ref (T := "tuple") (U := "int") (by decide) ⟨_, ho, rfl⟩ (fun s' => typeIs_int s' k t) noFill_tuple_mul F.fills_int_mul F.slot_int_rmul repeat_tuple F.slot_int_index.lookup
        (call_meets F.slot_int_rmul (typeIs_int s k t) F.entry_int_rmul (F.args_int_rmul_2 _ _) (int_rmul_tuple k t l its.toArray n dd sl) ⟨ho, rfl, ⟨_, ho, rfl⟩, call_meets F.slot_tuple_mul ⟨_, ho, rfl⟩ F.entry_tuple_mul (F.args_tuple_mul_2 _ _) (tuple_mul1 l its.toArray n dd sl k t c0 c1) ⟨ho, ?_⟩⟩)
      exact ⟨.ref l, H, I, rfl, q1 k1⟩
    · have c1 : (its.toArray.isEmpty || k == 1) = false := by rw [ne, Bool.false_or]; exact beq_eq_false_iff_ne.mpr k1
      have k0 : k = 0 := by omega
      have c2 : (decide (k ≤ 0) || its.toArray.isEmpty) = true := by rw [decide_eq_true (by omega)]; rfl
      refine wpAny_binaryOp_repeat_ref (T := "tuple") (U := "int") (by decide) ⟨_, ho, rfl⟩ (fun s' => typeIs_int s' k t) noFill_tuple_mul F.fills_int_mul F.slot_int_rmul repeat_tuple F.slot_int_index.lookup
        (call_meets F.slot_int_rmul (typeIs_int s k t) F.entry_int_rmul (F.args_int_rmul_2 _ _) (int_rmul_tuple k t l its.toArray n dd sl) ⟨ho, rfl, ⟨_, ho, rfl⟩, call_meets F.slot_tuple_mul ⟨_, ho, rfl⟩ F.entry_tuple_mul (F.args_tuple_mul_2 _ _) (tuple_mul0 l its.toArray n dd sl k t c0 c1 c2) ⟨ho, ?_⟩⟩)
      have hq := q2 k1 s.heap.objs.size (I.hok.fresh (Nat.le_refl _))
      rw [k0] at hq
      exact ⟨.ref s.heap.objs.size, _, I.laid (t' := s.toks) (o := .tup []) (fun b ob q => Heap.get?_push_of_some _ q) (Nat.le_refl _) ⟨Nat.zero_le _, [], .nil, IsTup.new _ _⟩, rfl, hq⟩
@[simp ↓] def mulTD : D → D → Nat → KD → Prop
  | .tup l, .int k, c, Q => (l ≠ [] ∧ 0 ≤ k ∧ k ≤ 1000 ∧ l.length ≤ 1000) ∧ Q (.tup (List.replicate k.toNat l).flatten) c
  | _, _, _, _ => False
theorem mulTS {K : PySem.W.Frag} : OpS K (rMulT K) mulTD := by
  intro p c F H x y v u Q' Q ok rx ry h t
  unfold mulTD at h
  split at h
  · rename_i l k
    obtain ⟨a, xs, rfl, h1, r1⟩ := rx
    cases (show u = .int k from ry)
    obtain ⟨⟨k0, k1, k2, k3⟩, q⟩ := h
    refine ⟨a, k, xs, rfl, rfl, ok.sqT h1, fun z => k0 (by rw [z] at r1; exact List.eq_nil_of_length_eq_zero r1.len.symm), k1, k2, by rw [r1.len]; exact k3, fun e => ?_, fun _ => tellNewT ok t (r1.rep _) q⟩
    rw [e] at q
    have e1 : (List.replicate (1 : Int).toNat l).flatten = l := by simp
    rw [e1] at q
    exact t (.tup l) c (.ref a) F H (Fwd.refl ..) ok ⟨a, xs, rfl, h1, r1⟩ q
  · exact h.elim
theorem ex_mulT (ha : EX X a fa) (hb : EX X b fb) : EX X (.BinOp a .Mult b pos) (eOp mulTD fa fb) := ex_op op_mulT mulTS ha hb
end
end L3

set_option maxHeartbeats 2000000
/-! L4R: sorted of a tuple of ints; sorted of a list of data, the sequence told. -/
namespace L3
open PySem PySem.Spec PyProof.Rows L2
section
variable {K : PySem.W.Frag} {X : Cx} {e : Expr} {fa : FE} {pos : Pos}
abbrev srtI (ns : List Int) : List Int := ns.mergeSort fun a b => decide (a ≤ b)
def rSortTI (K : PySem.W.Frag) : List V → Hp → VK → Prop := fun vs H Q => ∃ (a : Addr) (ns : List Int), vs = [V.ref a] ∧ SqT K H a (ns.map V.int) ∧ ns.length ≤ 16777216 ∧ ∀ p : Addr, H p = none → Q (.ref p) (upd H p (.lst ((srtI ns).map V.int)))
theorem eachI : ∀ {ns : List Int} {us : List Value}, Vals (ns.map V.int) us → PySem.W.EachIs (fun v (n : Int) => RelV (V.int n) v) us ns
  | [], _, .nil => .nil
  | b :: bs, _, .cons r t => .cons r (eachI t)
theorem valsI : ∀ {ns : List Int} {us : List Value}, PySem.W.EachIs (fun v (n : Int) => RelV (V.int n) v) us ns → Vals (ns.map V.int) us
  | [], _, .nil => .nil
  | b :: bs, _, .cons r t => .cons r (valsI t)
theorem cr_sortTI (hu : X.A.units + 66 < cLine) : CallR X (.builtin "sorted") (rSortTI X.K) := by
  intro pins s σ H vs us Q I r h
  obtain ⟨a, ns, rfl, hs, hlen, q⟩ := h
  obtain ⟨its, rv, hl, _⟩ := I.tuple hs
  rw [Vals.ref1 r]
  have e := eachI rv
  have er : PySem.W.EachIs (fun v (n : Int) => ∃ as, Reads s.heap v (PyData.int n) as) its ns := PySem.W.EachIs.of_zip e.length fun p hp => by
    obtain ⟨k, hk⟩ := e.zip p hp
    rw [hk]
    exact ⟨_, Reads.int _ k⟩
  refine L4.sorted_data_tup (enc := fun n : Int => PyData.int n) hl e er (PySem.W.AllAlike.of fun a b => rfl) (PySem.W.Sortable.others fun b => ⟨nofun, fun _ => nofun⟩) (by rw [line16]; exact hlen) (fun b hb => by show _ + 2 + PyData.depth (PyData.int b) < cLine; rw [show PyData.depth (PyData.int b) = 0 from rfl]; omega) fun out ho eo => ?_
  obtain ⟨ep, he'⟩ := PyProof.Rows.sortedAll_at s.heap its out.toArray
  rw [PySem.W.dataLe_int] at eo
  refine ⟨.ref _, upd H (s.heap.objs.size + 1) (.lst ((srtI ns).map V.int)), I.laid (t' := s.toks) (fun _ _ => PyProof.Rows.sortedAll_old) (Nat.le_succ _) ⟨by rw [List.length_map, (List.mergeSort_perm _ _).length_eq, line16]; exact hlen, out, ep, valsI eo, he'⟩, rfl, q _ (I.hok.fresh (Nat.le_succ _))⟩
@[simp ↓] def fSortedT (fa : FE) : FL := fun ρ c Q => fa ρ c fun x c => match x with
  | .tup l => ∃ ns, intsOf l = some ns ∧ ns.length ≤ 16777216 ∧ Q ((srtI ns).map .int) c
  | _ => False
theorem fx_sortedT (hu : X.A.units + 66 < cLine) (hm : X.mg "sorted" = none) (ha : EX X e fa) (hg : Gl X "sorted" := by rfl) (hs : starEach [e] X.env = (false, eval e X.env) :: starEach [] X.env := by rfl) {p : Pos} :
    FX X (.Call (.Name "sorted" p) [e] [] pos) (fSortedT fa) := PE.imp (pe_callB (cr_sortTI hu) hg hm (by decide +kernel) (pa_cons ha pa_nil hs) (by decide) (by decide) hs rfl) fun σ H Q ⟨p, c, ρ, F, Q', es, h, t⟩ =>
  ⟨p, c, ρ, F, _, es, h, fun d c1 v F1 H1 w1 ok1 r1 q1 => by
    split at q1
    · obtain ⟨a, xs, rfl, h1, rl⟩ := r1
      obtain ⟨ns, e1, e2, q1⟩ := q1
      refine ⟨a, ns, rfl, by rw [← RepL.ints rl e1]; exact ok1.sqT h1, e2, fun q nq => ?_⟩
      obtain ⟨w, ok, n1, n2, n3⟩ := layL w1 ok1 nq ((srtI ns).map V.int)
      exact t _ c1 q _ F1 _ w ok n1 n2 n3 upd_same (rep_ints _) q1
    · exact q1.elim⟩
/-! sorted of a list of data -/
def rSortE (K : PySem.W.Frag) : List V → Hp → VK → Prop := fun vs H Q => ∃ (a : Addr) (bs : List (D × V)) (enc : D → PyData), vs = [V.ref a] ∧ SqL K H a (bs.map (·.2)) ∧ (∀ b ∈ bs, Dp K H b.2 (enc b.1)) ∧ PySem.W.AllAlike (bs.map fun b => enc b.1) ∧ PySem.W.Sortable (bs.map fun b => enc b.1) ∧
  bs.length ≤ sizeLine ∧ (∀ b ∈ bs, (enc b.1).depth ≤ 64) ∧ ∀ p : Addr, H p = none → Q (.ref p) (upd H p (.lst ((bs.mergeSort (PySem.W.dataLe false fun b => enc b.1)).map (·.2))))
theorem cr_sortE (hu : X.A.units + 66 < cLine) : CallR X (.builtin "sorted") (rSortE X.K) := by
  intro pins s σ H vs us Q I r h
  obtain ⟨a, bs, enc, rfl, hs, hd, hal, hk, hlen, hdep, q⟩ := h
  obtain ⟨its, rv, hl, _⟩ := I.list hs
  rw [Vals.ref1 r]
  have e := eachV rv
  have er : PySem.W.EachIs (fun v (b : D × V) => ∃ as, Reads s.heap v (enc b.1) as) its bs := PySem.W.EachIs.of_zip e.length fun p hp => by
    have h2 := e.zip p hp
    exact Dp.reads I _ _ _ (hd p.2 (List.of_mem_zip hp).2) h2
  refine PySem.W.sorted_data (enc := fun b : D × V => enc b.1) hl.isList e er hal hk hlen (fun b hb => by have := hdep b hb; omega) fun out ho eo => ?_
  obtain ⟨ep, he'⟩ := PyProof.Rows.sortedAll_at s.heap its out.toArray
  have hp := List.mergeSort_perm bs (PySem.W.dataLe false fun b => enc b.1)
  refine ⟨.ref _, upd H (s.heap.objs.size + 1) (.lst ((bs.mergeSort (PySem.W.dataLe false fun b => enc b.1)).map (·.2))), I.laid (t' := s.toks) (fun _ _ => PyProof.Rows.sortedAll_old) (Nat.le_succ _) ⟨by rw [List.length_map, hp.length_eq]; exact hlen, out, ep, valsV eo, he'⟩, rfl, q _ (I.hok.fresh (Nat.le_succ _))⟩
@[simp ↓] def fSortE (fa : FE) : FL := fun ρ c Q => fa ρ c fun x c => match x with
  | .lst l => ∃ enc : D → PyData, (∀ d ∈ l, toPy d = some (enc d) ∧ (enc d).depth ≤ 64) ∧ PySem.W.AllAlike (l.map enc) ∧ PySem.W.Sortable (l.map enc) ∧ l.length ≤ 16777216 ∧ Q (l.mergeSort (PySem.W.dataLe false enc)) c
  | _ => False
theorem fx_sortE (hu : X.A.units + 66 < cLine) (hm : X.mg "sorted" = none) (ha : EX X e fa) (hg : Gl X "sorted" := by rfl) (hs : starEach [e] X.env = (false, eval e X.env) :: starEach [] X.env := by rfl) {p : Pos} :
    FX X (.Call (.Name "sorted" p) [e] [] pos) (fSortE fa) := PE.imp (pe_callB (cr_sortE hu) hg hm (by decide +kernel) (pa_cons ha pa_nil hs) (by decide) (by decide) hs rfl) fun σ H Q ⟨p, c, ρ, F, Q', es, h, t⟩ =>
  ⟨p, c, ρ, F, _, es, h, fun d c1 v F1 H1 w1 ok1 r1 q1 => by
    split at q1
    · rename_i l
      obtain ⟨a, xs, rfl, h1, rl⟩ := r1
      obtain ⟨enc, hk, hal, hso, hlen, q1⟩ := q1
      obtain ⟨z1, z2, z3⟩ := zipV_of rl
      have ek : (zipV l xs).map (fun b => enc b.1) = l.map enc := by
        rw [← z1, List.map_map, z1]
        rfl
      have hin : ∀ b ∈ zipV l xs, b.1 ∈ l := fun b hb => by
        rw [← z1]
        exact List.mem_map.mpr ⟨b, hb, rfl⟩
      have hl : (zipV l xs).length = l.length := by
        have := congrArg List.length z1
        rw [List.length_map] at this
        exact this
      refine ⟨a, zipV l xs, enc, rfl, by rw [z2]; exact .of (ok1.sub _ _ h1), fun b hb => (z3 b hb).dp ok1.sub (hk _ (hin b hb)).1, by rw [ek]; exact hal, by rw [ek]; exact hso, by rw [hl, line16]; exact hlen, fun b hb => (hk _ (hin b hb)).2, fun q nq => ?_⟩
      have ds : ((zipV l xs).mergeSort (PySem.W.dataLe false fun b => enc b.1)).map (·.1) = l.mergeSort (PySem.W.dataLe false enc) := by
        have q := List.map_mergeSort (f := fun b : D × V => b.1) (r := PySem.W.dataLe false fun b : D × V => enc b.1) (s := PySem.W.dataLe false enc) (l := zipV l xs) (fun _ _ _ _ => rfl)
        rw [z1] at q
        exact q
      obtain ⟨w, ok, n1, n2, n3⟩ := layL w1 ok1 nq (((zipV l xs).mergeSort (PySem.W.dataLe false fun b => enc b.1)).map (·.2))
      refine t (l.mergeSort (PySem.W.dataLe false enc)) c1 q _ F1 _ w ok n1 n2 n3 upd_same ?_ q1
      rw [← ds]
      exact repV _ fun b hb => z3 b ((List.mergeSort_perm _ _).mem_iff.mp hb)
    · exact q1.elim⟩
end
end L3

set_option maxHeartbeats 2000000
/-! L5C: a new list, one of two. -/
namespace L3
open PySem PySem.Spec PyProof.Rows L2
section
variable {X : Cx} {a b c : Expr} {f g : FL} {ft : FT} {pos : Pos}
@[simp ↓] def fIf3 (t : FT) (f g : FL) : FL := fun ρ c Q => t ρ c fun b c => if b = true then f ρ c Q else g ρ c Q
theorem fx_if (hc : TX X c ft) (ha : FX X a f) (hb : FX X b g) : FX X (.IfExp c a b pos) (fIf3 ft f g) := PE.imp (pe_ifExp hc ha hb) fun σ H Q ⟨p, c, ρ, F, Q', es, h, t⟩ =>
  ⟨p, c, ρ, F, _, es, h, fun k c1 F1 H1 w1 ok1 q1 => by
    have up : ∀ l c' a xs F' H', Fwd p F1 H1 F' H' → Ok3 p c' F' H' → H1 a = none → F' a = none → p.pot ≠ some a → H' a = some (.lst xs) → RepL X.K p F' l xs → Q' l c' → Q (.ref a) H' := fun l c' a xs F' H' w ok n1 n2 n3 h' r q =>
      t l c' a xs F' H' (w1.trans w) ok (w1.there a n1) n2 n3 h' r q
    cases k with
    | true => exact ⟨p, c1, ρ, F1, Q', es.fwd w1 ok1, q1, up⟩
    | false => exact ⟨p, c1, ρ, F1, Q', es.fwd w1 ok1, q1, up⟩⟩
end
end L3

/-! L5D: // by a great positive divisor, * of great ints. -/
namespace L3
open PySem PySem.Spec PyProof.Rows L2
section
variable {K : PySem.W.Frag} {X : Cx} {a b : Expr} {fa fb : FE} {pos : Pos}
@[simp ↓] def fdivWD : D → D → Nat → KD → Prop
  | .int i, .int j, c, Q => (0 < j ∧ j.natAbs.log2 < 9000) ∧ Q (.int (i / j)) c
  | _, _, _, _ => False
theorem fdivWS : OpS K (rI CDivW fun i j => .int (i / j)) fdivWD := intCS fun x y c Q h => by
  unfold fdivWD at h
  split at h
  · exact ⟨_, _, rfl, rfl, h.1, h.2⟩
  · exact h.elim
theorem ex_fdivW (ha : EX X a fa) (hb : EX X b fb) : EX X (.BinOp a .FloorDiv b pos) (eOp fdivWD fa fb) := ex_op op_fdivW fdivWS ha hb
@[simp ↓] def mulWD : D → D → Nat → KD → Prop
  | .int i, .int j, c, Q => (i.natAbs.log2 + j.natAbs.log2 < 1000000) ∧ Q (.int (i * j)) c
  | _, _, _, _ => False
theorem mulWS : OpS K (rI CMulW fun i j => .int (i * j)) mulWD := intCS fun x y c Q h => by
  unfold mulWD at h
  split at h
  · exact ⟨_, _, rfl, rfl, h.1, h.2⟩
  · exact h.elim
theorem ex_mulW (ha : EX X a fa) (hb : EX X b fb) : EX X (.BinOp a .Mult b pos) (eOp mulWD fa fb) := ex_op op_mulW mulWS ha hb
end
end L3

set_option maxHeartbeats 4000000
namespace Law67
open PySem PySem.Spec PyProof.Rows
open L2 hiding FnOk Room
open L3
def topS (i : Nat) : Stmt := PySem.Challenge.pw_foldedandsewn_k67_whole_presses_side_by.main.body.getD i (.Pass ⟨0, 0, 0, 0⟩)
/-- _law_take(pot, upto) -/
def m_law_take : FM := fun ds c Q => match ds with | [.pot, .int n] => (0 < n ∧ n < 1073741824 ∧ c < 1000000) ∧ ∀ d, 0 ≤ d → d < n → Q (.int d) (c + 1) | _ => False
theorem l_law_take : ∀ ds c Q, m_law_take ds c Q → ds.length = 2 := fun ds c Q h => by
  unfold m_law_take at h
  split at h
  · rfl
  · exact h.elim
def errs : List Str := ["BadJobs", "BadInt"]
@[simp] theorem errs_BadJobs : errs.contains ("BadJobs" : Str) = true := by decide
@[simp] theorem errs_BadInt : errs.contains ("BadInt" : Str) = true := by decide
abbrev PW : Program := PySem.Challenge.pw_foldedandsewn_k67_whole_presses_side_by
def initS : Stmt := match topS 1 with
  | .ClassDef (body := body) .. => body.getD 0 (.Pass ⟨0, 0, 0, 0⟩)
  | s => s
abbrev s_is_int : Stmt := topS 5
theorem sc_is_int : FnScope ["value", "low", "high"] ["value", "low", "high"] (defScope s_is_int) := ⟨rfl, rfl, rfl, by decide +kernel, rfl, by decide +kernel, by decide +kernel⟩
def g_is_int : FS :=
  (sRet (eAnd (eB isiM (aCons (eVar 0) (aCons (eC (.ty "int")) aNil))) (eAnd (eNot (eB isiM (aCons (eVar 0) (aCons (eC (.ty "bool")) aNil)))) (eCh leD leD (eVar 1) (eVar 0) (eVar 2)))))
structure m_is_int (ds : List D) (c : Nat) (Q : KD) : Prop where
  len : ds.length = 3
  run : runM 3 g_is_int ds c Q
theorem p_is_int : ∀ ds c Q, m_is_int ds c Q → runM 3 g_is_int ds c Q := fun _ _ _ h => h.2
theorem l_is_int : ∀ ds c Q, m_is_int ds c Q → ds.length = 3 := fun _ _ _ h => h.1
abbrev s_is_whole : Stmt := topS 6
theorem sc_is_whole : FnScope ["value"] ["value"] (defScope s_is_whole) := ⟨rfl, rfl, rfl, by decide +kernel, rfl, by decide +kernel, by decide +kernel⟩
def g_is_whole : FS :=
  (sRet (eAnd (eB isiM (aCons (eVar 0) (aCons (eC (.ty "int")) aNil))) (eNot (eB isiM (aCons (eVar 0) (aCons (eC (.ty "bool")) aNil))))))
structure m_is_whole (ds : List D) (c : Nat) (Q : KD) : Prop where
  len : ds.length = 1
  run : runM 1 g_is_whole ds c Q
theorem p_is_whole : ∀ ds c Q, m_is_whole ds c Q → runM 1 g_is_whole ds c Q := fun _ _ _ h => h.2
theorem l_is_whole : ∀ ds c Q, m_is_whole ds c Q → ds.length = 1 := fun _ _ _ h => h.1
abbrev s_are_ints : Stmt := topS 7
theorem sc_are_ints : FnScope ["value", "low", "high", "one"] ["value", "low", "high"] (defScope s_are_ints) := ⟨rfl, rfl, rfl, by decide +kernel, rfl, by decide +kernel, by decide +kernel⟩
def g_are_ints : FS :=
  (sRet (eAnd (eB isiM (aCons (eVar 0) (aCons (eC (.ty "tuple")) aNil))) (eB allM (aCons (eF (fComp (iSeq (eVar 0)) (gN 3) tYes3 (eCall m_is_int (aCons (eVar 3) (aCons (eVar 1) (aCons (eVar 2) aNil)))) [3])) aNil))))
structure m_are_ints (ds : List D) (c : Nat) (Q : KD) : Prop where
  len : ds.length = 3
  run : runM 4 g_are_ints ds c Q
theorem p_are_ints : ∀ ds c Q, m_are_ints ds c Q → runM 4 g_are_ints ds c Q := fun _ _ _ h => h.2
theorem l_are_ints : ∀ ds c Q, m_are_ints ds c Q → ds.length = 3 := fun _ _ _ h => h.1
abbrev s_common_int : Stmt := topS 15
theorem sc_common_int : FnScope ["one", "other"] ["one", "other"] (defScope s_common_int) := ⟨rfl, rfl, rfl, by decide +kernel, rfl, by decide +kernel, by decide +kernel⟩
def g_common_int : FS :=
  (sSeq (sWhile (tV (eOp neD (eVar 1) (eC (.int 0))))
  (sPar 0 1 (aCons (eVar 1) (aCons (eOp modD (eVar 0) (eVar 1)) aNil))))
  (sRet (eVar 0)))
structure m_common_int (ds : List D) (c : Nat) (Q : KD) : Prop where
  len : ds.length = 2
  run : runM 2 g_common_int ds c Q
theorem p_common_int : ∀ ds c Q, m_common_int ds c Q → runM 2 g_common_int ds c Q := fun _ _ _ h => h.2
theorem l_common_int : ∀ ds c Q, m_common_int ds c Q → ds.length = 2 := fun _ _ _ h => h.1
abbrev s_lowest : Stmt := topS 16
theorem sc_lowest : FnScope ["top", "bottom", "less"] ["top", "bottom"] (defScope s_lowest) := ⟨rfl, rfl, rfl, by decide +kernel, rfl, by decide +kernel, by decide +kernel⟩
def g_lowest : FS :=
  (sSeq (sAsg (gN 2) (eCall m_common_int (aCons (eVar 0) (aCons (eVar 1) aNil))))
  (sRet (eTup (aCons (eOp fdivWD (eVar 0) (eVar 2)) (aCons (eOp fdivWD (eVar 1) (eVar 2)) aNil)))))
structure m_lowest (ds : List D) (c : Nat) (Q : KD) : Prop where
  len : ds.length = 2
  run : runM 3 g_lowest ds c Q
theorem p_lowest : ∀ ds c Q, m_lowest ds c Q → runM 3 g_lowest ds c Q := fun _ _ _ h => h.2
theorem l_lowest : ∀ ds c Q, m_lowest ds c Q → ds.length = 2 := fun _ _ _ h => h.1
abbrev s_plus : Stmt := topS 17
theorem sc_plus : FnScope ["one", "other"] ["one", "other"] (defScope s_plus) := ⟨rfl, rfl, rfl, by decide +kernel, rfl, by decide +kernel, by decide +kernel⟩
def g_plus : FS :=
  (sRet (eCall m_lowest (aCons (eOp addD (eOp mulD (eOp ixD (eVar 0) (eC (.int 0))) (eOp ixD (eVar 1) (eC (.int 1)))) (eOp mulD (eOp ixD (eVar 1) (eC (.int 0))) (eOp ixD (eVar 0) (eC (.int 1))))) (aCons (eOp mulD (eOp ixD (eVar 0) (eC (.int 1))) (eOp ixD (eVar 1) (eC (.int 1)))) aNil))))
structure m_plus (ds : List D) (c : Nat) (Q : KD) : Prop where
  len : ds.length = 2
  run : runM 2 g_plus ds c Q
theorem p_plus : ∀ ds c Q, m_plus ds c Q → runM 2 g_plus ds c Q := fun _ _ _ h => h.2
theorem l_plus : ∀ ds c Q, m_plus ds c Q → ds.length = 2 := fun _ _ _ h => h.1
abbrev s_is_below : Stmt := topS 18
theorem sc_is_below : FnScope ["one", "other"] ["one", "other"] (defScope s_is_below) := ⟨rfl, rfl, rfl, by decide +kernel, rfl, by decide +kernel, by decide +kernel⟩
def g_is_below : FS :=
  (sRet (eOp ltD (eOp mulD (eOp ixD (eVar 0) (eC (.int 0))) (eOp ixD (eVar 1) (eC (.int 1)))) (eOp mulD (eOp ixD (eVar 1) (eC (.int 0))) (eOp ixD (eVar 0) (eC (.int 1))))))
structure m_is_below (ds : List D) (c : Nat) (Q : KD) : Prop where
  len : ds.length = 2
  run : runM 2 g_is_below ds c Q
theorem p_is_below : ∀ ds c Q, m_is_below ds c Q → runM 2 g_is_below ds c Q := fun _ _ _ h => h.2
theorem l_is_below : ∀ ds c Q, m_is_below ds c Q → ds.length = 2 := fun _ _ _ h => h.1
abbrev s_is_tick : Stmt := topS 19
theorem sc_is_tick : FnScope ["value"] ["value"] (defScope s_is_tick) := ⟨rfl, rfl, rfl, by decide +kernel, rfl, by decide +kernel, by decide +kernel⟩
def g_is_tick : FS :=
  (sSeq (sIf (tO3 (tN3 (tV (eB isiM (aCons (eVar 0) (aCons (eC (.ty "tuple")) aNil))))) (tO3 (tV (eOp neD (eB lenM (aCons (eVar 0) aNil)) (eC (.int 2)))) (tO3 (tN3 (tV (eCall m_is_whole (aCons (eOp ixD (eVar 0) (eC (.int 0))) aNil)))) (tN3 (tV (eCall m_is_whole (aCons (eOp ixD (eVar 0) (eC (.int 1))) aNil)))))))
  (sRet (eC (.bl false)))
  sNil)
  (sRet (eAnd (eOp geD (eOp ixD (eVar 0) (eC (.int 0))) (eC (.int 0))) (eAnd (eOp geD (eOp ixD (eVar 0) (eC (.int 1))) (eC (.int 1))) (eOp eqD (eCall m_common_int (aCons (eOp ixD (eVar 0) (eC (.int 0))) (aCons (eOp ixD (eVar 0) (eC (.int 1))) aNil))) (eC (.int 1)))))))
structure m_is_tick (ds : List D) (c : Nat) (Q : KD) : Prop where
  len : ds.length = 1
  run : runM 1 g_is_tick ds c Q
theorem p_is_tick : ∀ ds c Q, m_is_tick ds c Q → runM 1 g_is_tick ds c Q := fun _ _ _ h => h.2
theorem l_is_tick : ∀ ds c Q, m_is_tick ds c Q → ds.length = 1 := fun _ _ _ h => h.1
abbrev s_look_at_times : Stmt := topS 20
theorem sc_look_at_times : FnScope ["times", "presses"] ["times", "presses"] (defScope s_look_at_times) := ⟨rfl, rfl, rfl, by decide +kernel, rfl, by decide +kernel, by decide +kernel⟩
def g_look_at_times : FS :=
  (sSeq (sIf (tO3 (tN3 (tV (eCall m_are_ints (aCons (eVar 0) (aCons (eC (.int 0)) (aCons (eC (.int 1000000000000)) aNil)))))) (tN3 (tV (eCh leD leD (eC (.int 1)) (eB lenM (aCons (eVar 0) aNil)) (eC (.int 24))))))
  (sRaise "BadJobs" (eVar 0))
  sNil)
  (sIf (tN3 (tV (eCall m_is_int (aCons (eVar 1) (aCons (eC (.int 1)) (aCons (eC (.int 12)) aNil))))))
  (sRaise "BadInt" (eVar 1))
  sNil))
structure m_look_at_times (ds : List D) (c : Nat) (Q : KD) (QX : KXD) : Prop where
  len : ds.length = 2
  run : g_look_at_times { nx := fun _ c => Q .non c, rt := Q, xx := QX } (start3 2 ds) c
theorem p_look_at_times : ∀ ds c Q QX, m_look_at_times ds c Q QX → g_look_at_times { nx := fun _ c => Q .non c, rt := Q, xx := QX } (start3 2 ds) c := fun _ _ _ _ h => h.2
theorem l_look_at_times : ∀ ds c Q QX, m_look_at_times ds c Q QX → ds.length = 2 := fun _ _ _ _ h => h.1
theorem l0_look_at_times : ∀ ds c Q, m0 m_look_at_times ds c Q → ds.length = 2 := fun _ _ _ h => h.1
abbrev s_told_soonest : Stmt := topS 21
theorem sc_told_soonest : FnScope ["times", "presses", "whole", "longest"] ["times", "presses"] (defScope s_told_soonest) := ⟨rfl, rfl, rfl, by decide +kernel, rfl, by decide +kernel, by decide +kernel⟩
def g_told_soonest : FS :=
  (sSeq (sPar 2 3 (aCons (eCall m_lowest (aCons (eB sum2M (aCons (eVar 0) aNil)) (aCons (eVar 1) aNil))) (aCons (eTup (aCons (eB maxM (aCons (eVar 0) aNil)) (aCons (eC (.int 1)) aNil))) aNil)))
  (sRet (eIf3 (tV (eCall m_is_below (aCons (eVar 2) (aCons (eVar 3) aNil)))) (eVar 3) (eVar 2))))
structure m_told_soonest (ds : List D) (c : Nat) (Q : KD) : Prop where
  len : ds.length = 2
  run : runM 4 g_told_soonest ds c Q
theorem p_told_soonest : ∀ ds c Q, m_told_soonest ds c Q → runM 4 g_told_soonest ds c Q := fun _ _ _ h => h.2
theorem l_told_soonest : ∀ ds c Q, m_told_soonest ds c Q → ds.length = 2 := fun _ _ _ h => h.1
abbrev s_soonest : Stmt := topS 22
theorem sc_soonest : FnScope ["times", "presses"] ["times", "presses"] (defScope s_soonest) := ⟨rfl, rfl, rfl, by decide +kernel, rfl, by decide +kernel, by decide +kernel⟩
def g_soonest : FS :=
  (sSeq (yExpr (yCall m_look_at_times (aCons (eVar 0) (aCons (eVar 1) aNil))))
  (sRet (eCall m_told_soonest (aCons (eVar 0) (aCons (eVar 1) aNil)))))
structure m_soonest (ds : List D) (c : Nat) (Q : KD) (QX : KXD) : Prop where
  len : ds.length = 2
  run : g_soonest { nx := fun _ c => Q .non c, rt := Q, xx := QX } (start3 2 ds) c
theorem p_soonest : ∀ ds c Q QX, m_soonest ds c Q QX → g_soonest { nx := fun _ c => Q .non c, rt := Q, xx := QX } (start3 2 ds) c := fun _ _ _ _ h => h.2
theorem l_soonest : ∀ ds c Q QX, m_soonest ds c Q QX → ds.length = 2 := fun _ _ _ _ h => h.1
theorem l0_soonest : ∀ ds c Q, m0 m_soonest ds c Q → ds.length = 2 := fun _ _ _ h => h.1
abbrev s_parted : Stmt := topS 23
theorem sc_parted : FnScope ["times", "presses", "end", "found", "press", "here", "job", "time", "left", "until", "piece"] ["times", "presses"] (defScope s_parted) := ⟨rfl, rfl, rfl, by decide +kernel, rfl, by decide +kernel, by decide +kernel⟩
def g_parted : FS :=
  (sSeq (yExpr (yCall m_look_at_times (aCons (eVar 0) (aCons (eVar 1) aNil))))
  (sSeq (sParN [2, 3] [.e (eCall m_told_soonest (aCons (eVar 0) (aCons (eVar 1) aNil))), .f (fLst aNil)])
  (sSeq (sAsg (gT 2 (gsCons (gN 4) (gsCons (gN 5) gsNil))) (eTup (aCons (eC (.int 0)) (aCons (eTup (aCons (eC (.int 0)) (aCons (eC (.int 1)) aNil))) aNil))))
  (sSeq (sFor (iEnum3 (eVar 0)) (gT 2 (gsCons (gN 6) (gsCons (gN 7) gsNil)))
  (sSeq (sAsg (gN 8) (eTup (aCons (eVar 7) (aCons (eC (.int 1)) aNil))))
  (sSeq (sWhile (tV (eOp gtD (eOp ixD (eVar 8) (eC (.int 0))) (eC (.int 0))))
  (sSeq (sAsg (gN 9) (eCall m_plus (aCons (eVar 5) (aCons (eVar 8) aNil))))
  (sIf (tV (eCall m_is_below (aCons (eVar 2) (aCons (eVar 9) aNil))))
  (sSeq (sApp 3 (eTup (aCons (eVar 4) (aCons (eVar 5) (aCons (eVar 2) (aCons (eVar 6) aNil))))))
  (sSeq (sAsg (gN 8) (eCall m_lowest (aCons (eOp subD (eOp mulD (eOp ixD (eVar 9) (eC (.int 0))) (eOp ixD (eVar 2) (eC (.int 1)))) (eOp mulD (eOp ixD (eVar 2) (eC (.int 0))) (eOp ixD (eVar 9) (eC (.int 1))))) (aCons (eOp mulD (eOp ixD (eVar 9) (eC (.int 1))) (eOp ixD (eVar 2) (eC (.int 1)))) aNil))))
  (sPar 4 5 (aCons (eOp addD (eVar 4) (eC (.int 1))) (aCons (eTup (aCons (eC (.int 0)) (aCons (eC (.int 1)) aNil))) aNil)))))
  (sSeq (sApp 3 (eTup (aCons (eVar 4) (aCons (eVar 5) (aCons (eVar 9) (aCons (eVar 6) aNil))))))
  (sPar 8 5 (aCons (eTup (aCons (eC (.int 0)) (aCons (eC (.int 1)) aNil))) (aCons (eVar 9) aNil)))))))
  (sIf (tV (eOp eqD (eVar 5) (eVar 2)))
  (sPar 4 5 (aCons (eOp addD (eVar 4) (eC (.int 1))) (aCons (eTup (aCons (eC (.int 0)) (aCons (eC (.int 1)) aNil))) aNil)))
  sNil))))
  (sRet (eB tupleM (aCons (eF (fSorted (eF (fComp (iSeq (eVar 3)) (gN 10) (tV (eOp neD (eOp ixD (eVar 10) (eC (.int 1))) (eOp ixD (eVar 10) (eC (.int 2))))) (eVar 10) [10])))) aNil)))))))
structure m_parted (ds : List D) (c : Nat) (Q : KD) (QX : KXD) : Prop where
  len : ds.length = 2
  run : g_parted { nx := fun _ c => Q .non c, rt := Q, xx := QX } (start3 11 ds) c
theorem p_parted : ∀ ds c Q QX, m_parted ds c Q QX → g_parted { nx := fun _ c => Q .non c, rt := Q, xx := QX } (start3 11 ds) c := fun _ _ _ _ h => h.2
theorem l_parted : ∀ ds c Q QX, m_parted ds c Q QX → ds.length = 2 := fun _ _ _ _ h => h.1
theorem l0_parted : ∀ ds c Q, m0 m_parted ds c Q → ds.length = 2 := fun _ _ _ h => h.1
abbrev s_is_piece : Stmt := topS 24
theorem sc_is_piece : FnScope ["value", "jobs", "presses"] ["value", "jobs", "presses"] (defScope s_is_piece) := ⟨rfl, rfl, rfl, by decide +kernel, rfl, by decide +kernel, by decide +kernel⟩
def g_is_piece : FS :=
  (sSeq (sIf (tO3 (tN3 (tV (eB isiM (aCons (eVar 0) (aCons (eC (.ty "tuple")) aNil))))) (tO3 (tV (eOp neD (eB lenM (aCons (eVar 0) aNil)) (eC (.int 4)))) (tN3 (tV (eCall m_is_int (aCons (eOp ixD (eVar 0) (eC (.int 0))) (aCons (eC (.int 0)) (aCons (eOp subD (eVar 2) (eC (.int 1))) aNil))))))))
  (sRet (eC (.bl false)))
  sNil)
  (sSeq (sIf (tO3 (tN3 (tV (eCall m_is_tick (aCons (eOp ixD (eVar 0) (eC (.int 1))) aNil)))) (tO3 (tN3 (tV (eCall m_is_tick (aCons (eOp ixD (eVar 0) (eC (.int 2))) aNil)))) (tN3 (tV (eCall m_is_int (aCons (eOp ixD (eVar 0) (eC (.int 3))) (aCons (eC (.int 0)) (aCons (eOp subD (eVar 1) (eC (.int 1))) aNil))))))))
  (sRet (eC (.bl false)))
  sNil)
  (sRet (eCall m_is_below (aCons (eOp ixD (eVar 0) (eC (.int 1))) (aCons (eOp ixD (eVar 0) (eC (.int 2))) aNil))))))
structure m_is_piece (ds : List D) (c : Nat) (Q : KD) : Prop where
  len : ds.length = 3
  run : runM 3 g_is_piece ds c Q
theorem p_is_piece : ∀ ds c Q, m_is_piece ds c Q → runM 3 g_is_piece ds c Q := fun _ _ _ h => h.2
theorem l_is_piece : ∀ ds c Q, m_is_piece ds c Q → ds.length = 3 := fun _ _ _ h => h.1
abbrev s_do_meet : Stmt := topS 25
theorem sc_do_meet : FnScope ["one", "other"] ["one", "other"] (defScope s_do_meet) := ⟨rfl, rfl, rfl, by decide +kernel, rfl, by decide +kernel, by decide +kernel⟩
def g_do_meet : FS :=
  (sRet (eAnd (eCall m_is_below (aCons (eOp ixD (eVar 0) (eC (.int 1))) (aCons (eOp ixD (eVar 1) (eC (.int 2))) aNil))) (eCall m_is_below (aCons (eOp ixD (eVar 1) (eC (.int 1))) (aCons (eOp ixD (eVar 0) (eC (.int 2))) aNil)))))
structure m_do_meet (ds : List D) (c : Nat) (Q : KD) : Prop where
  len : ds.length = 2
  run : runM 2 g_do_meet ds c Q
theorem p_do_meet : ∀ ds c Q, m_do_meet ds c Q → runM 2 g_do_meet ds c Q := fun _ _ _ h => h.2
theorem l_do_meet : ∀ ds c Q, m_do_meet ds c Q → ds.length = 2 := fun _ _ _ h => h.1
abbrev s_shows_parted : Stmt := topS 26
theorem sc_shows_parted : FnScope ["times", "presses", "value", "piece", "end", "done", "job", "at", "other", "top", "bottom", "time"] ["times", "presses", "value"] (defScope s_shows_parted) := ⟨rfl, rfl, rfl, by decide +kernel, rfl, by decide +kernel, by decide +kernel⟩
def g_shows_parted : FS :=
  (sSeq (yExpr (yCall m_look_at_times (aCons (eVar 0) (aCons (eVar 1) aNil))))
  (sSeq (sIf (tO3 (tN3 (tV (eB isiM (aCons (eVar 2) (aCons (eC (.ty "tuple")) aNil))))) (tV (eOp gtD (eB lenM (aCons (eVar 2) aNil)) (eC (.int 100)))))
  (sRet (eC (.bl false)))
  sNil)
  (sSeq (sIf (tN3 (tV (eB allM (aCons (eF (fComp (iSeq (eVar 2)) (gN 3) tYes3 (eCall m_is_piece (aCons (eVar 3) (aCons (eB lenM (aCons (eVar 0) aNil)) (aCons (eVar 1) aNil)))) [3])) aNil))))
  (sRet (eC (.bl false)))
  sNil)
  (sSeq (sParN [4, 5] [.e (eCall m_told_soonest (aCons (eVar 0) (aCons (eVar 1) aNil))), .f (fComp (iSeq (eVar 0)) (gN 6) tYes3 (eTup (aCons (eC (.int 0)) (aCons (eC (.int 1)) aNil))) [6])])
  (sSeq (sFor (iEnum3 (eVar 2)) (gT 2 (gsCons (gN 7) (gsCons (gN 3) gsNil)))
  (sSeq (sIf (tV (eCall m_is_below (aCons (eVar 4) (aCons (eOp ixD (eVar 3) (eC (.int 2))) aNil))))
  (sRet (eC (.bl false)))
  sNil)
  (sSeq (sFor (iSeq (eSl (eVar 2) oNone (oSome (eVar 7)))) (gN 8)
  (sIf (tA3 (tV (eCall m_do_meet (aCons (eVar 3) (aCons (eVar 8) aNil)))) (tO3 (tV (eOp eqD (eOp ixD (eVar 3) (eC (.int 0))) (eOp ixD (eVar 8) (eC (.int 0))))) (tV (eOp eqD (eOp ixD (eVar 3) (eC (.int 3))) (eOp ixD (eVar 8) (eC (.int 3)))))))
  (sRet (eC (.bl false)))
  sNil))
  (sSeq (sParB 9 10 (aCons (eOp subD (eOp mulD (eOp ixD (eOp ixD (eVar 3) (eC (.int 2))) (eC (.int 0))) (eOp ixD (eOp ixD (eVar 3) (eC (.int 1))) (eC (.int 1)))) (eOp mulD (eOp ixD (eOp ixD (eVar 3) (eC (.int 1))) (eC (.int 0))) (eOp ixD (eOp ixD (eVar 3) (eC (.int 2))) (eC (.int 1))))) (aCons (eOp mulD (eOp ixD (eOp ixD (eVar 3) (eC (.int 1))) (eC (.int 1))) (eOp ixD (eOp ixD (eVar 3) (eC (.int 2))) (eC (.int 1)))) aNil)))
  (sSetB 5 (eCall m_plus (aCons (eOp ixD (eVar 5) (eOp ixD (eVar 3) (eC (.int 3)))) (aCons (eCall m_lowest (aCons (eVar 9) (aCons (eVar 10) aNil))) aNil))) (eOp ixD (eVar 3) (eC (.int 3))))))))
  (sRet (eOp eqD (eVar 5) (eF (fComp (iSeq (eVar 0)) (gN 11) tYes3 (eTup (aCons (eVar 11) (aCons (eC (.int 1)) aNil))) [11])))))))))
structure m_shows_parted (ds : List D) (c : Nat) (Q : KD) (QX : KXD) : Prop where
  len : ds.length = 3
  run : g_shows_parted { nx := fun _ c => Q .non c, rt := Q, xx := QX } (start3 12 ds) c
theorem p_shows_parted : ∀ ds c Q QX, m_shows_parted ds c Q QX → g_shows_parted { nx := fun _ c => Q .non c, rt := Q, xx := QX } (start3 12 ds) c := fun _ _ _ _ h => h.2
theorem l_shows_parted : ∀ ds c Q QX, m_shows_parted ds c Q QX → ds.length = 3 := fun _ _ _ _ h => h.1
theorem l0_shows_parted : ∀ ds c Q, m0 m_shows_parted ds c Q → ds.length = 3 := fun _ _ _ h => h.1
abbrev s_presses_for : Stmt := topS 27
theorem sc_presses_for : FnScope ["times", "tick", "many"] ["times", "tick"] (defScope s_presses_for) := ⟨rfl, rfl, rfl, by decide +kernel, rfl, by decide +kernel, by decide +kernel⟩
def g_presses_for : FS :=
  (sSeq (yExpr (yCall m_look_at_times (aCons (eVar 0) (aCons (eC (.int 1)) aNil))))
  (sSeq (sIf (tN3 (tV (eCall m_is_int (aCons (eVar 1) (aCons (eC (.int 0)) (aCons (eOp mulD (eC (.int 1000000000000)) (eC (.int 24))) aNil))))))
  (sRaise "BadInt" (eVar 1))
  sNil)
  (sSeq (sIf (tV (eOp gtD (eB maxM (aCons (eVar 0) aNil)) (eVar 1)))
  (sRet (eC .non))
  sNil)
  (sSeq (sAsg (gN 2) (eIf3 (tV (eOp gtD (eVar 1) (eC (.int 0)))) (eB max2M (aCons (eC (.int 1)) (aCons (eUn negD (eOp fdivD (eUn negD (eB sum2M (aCons (eVar 0) aNil))) (eVar 1))) aNil))) (eC (.int 1))))
  (sRet (eIf3 (tV (eOp leD (eVar 2) (eC (.int 12)))) (eVar 2) (eC .non)))))))
structure m_presses_for (ds : List D) (c : Nat) (Q : KD) (QX : KXD) : Prop where
  len : ds.length = 2
  run : g_presses_for { nx := fun _ c => Q .non c, rt := Q, xx := QX } (start3 3 ds) c
theorem p_presses_for : ∀ ds c Q QX, m_presses_for ds c Q QX → g_presses_for { nx := fun _ c => Q .non c, rt := Q, xx := QX } (start3 3 ds) c := fun _ _ _ _ h => h.2
theorem l_presses_for : ∀ ds c Q QX, m_presses_for ds c Q QX → ds.length = 2 := fun _ _ _ _ h => h.1
theorem l0_presses_for : ∀ ds c Q, m0 m_presses_for ds c Q → ds.length = 2 := fun _ _ _ h => h.1
abbrev s_law_pot : Stmt := topS 29
theorem sc_law_pot : FnScope ["script", "place", "cell", "own", "small"] ["script", "place"] (defScope s_law_pot) := ⟨rfl, rfl, rfl, by decide +kernel, rfl, by decide +kernel, by decide +kernel⟩
def g_law_pot : FSF :=
  (sThenF (sAsg (gN 2) (eIf3 (tV (eOp ltD (eVar 1) (eB lenM (aCons (eVar 0) aNil)))) (eOp ixD (eVar 0) (eVar 1)) (eOp addD (eOp addD (eOp modD (eB intM (aCons (eB sum2M (aCons (eSl (eVar 0) oNone (oSome (eC (.int 1)))) aNil)) aNil)) (eC (.int 1000211))) (eOp mulD (eC (.int 4639)) (eVar 1))) (eC (.int 3163)))))
  (sThenF (sAsg (gN 3) (eOp mulD (eOp modD (eB intM (aCons (eB absM (aCons (eVar 2) aNil)) aNil)) (eOp powD (eOp powD (eC (.int 10)) (eC (.int 60))) (eC (.int 5)))) (eB intM (aCons (eOp geD (eB absM (aCons (eVar 2) aNil)) (eOp powD (eC (.int 10)) (eC (.int 18)))) aNil))))
  (sThenF (sAsg (gN 4) (eOp modD (eB intM (aCons (eVar 2) aNil)) (eC (.int 2305843009213693951))))
  (sRetF (fLst (aCons (eVar 3) (aCons (eOp modD (eB intM (aCons (eOp addD (eOp addD (eOp mulD (eVar 4) (eC (.int 72161))) (eOp mulD (eOp mulD (eC (.int 10853)) (eVar 1)) (eVar 1))) (eC (.int 2843))) aNil)) (eC (.int 2305843009213693921))) (aCons (eC (.int 0)) aNil))))))))
structure m_law_pot (ds : List D) (c : Nat) (Q : List D → Nat → Prop) : Prop where
  len : ds.length = 2
  run : g_law_pot Q (start3 5 ds) c
theorem p_law_pot : ∀ ds c Q, m_law_pot ds c Q → g_law_pot Q (start3 5 ds) c := fun _ _ _ h => h.2
theorem l_law_pot : ∀ ds c Q, m_law_pot ds c Q → ds.length = 2 := fun _ _ _ h => h.1
abbrev s_law_take : Stmt := topS 30
theorem sc_law_take : FnScope ["pot", "upto", "digit", "prime", "blend"] ["pot", "upto"] (defScope s_law_take) := ⟨rfl, rfl, rfl, by decide +kernel, rfl, by decide +kernel, by decide +kernel⟩
def g_law_take : FS :=
  (sSeq (sIf (tV (eOp gtD (ePot 0 0) (eC (.int 0))))
  (sSeq (sAsg (gN 2) (eOp modD (eB intM (aCons (ePot 0 0) aNil)) (eVar 1)))
  (sSeq (sPot 0 0 (eOp fdivD (ePot 0 0) (eVar 1)))
  (sRet (eVar 2))))
  sNil)
  (sSeq (sPot 0 2 (eOp addD (ePot 0 2) (eC (.int 1))))
  (sSeq (sAsg (gN 3) (eOp ixD (eLst (aCons (eC (.int 2147483647)) (aCons (eC (.int 2147483629)) (aCons (eC (.int 2147483587)) (aCons (eC (.int 2147483579)) (aCons (eC (.int 2147483563)) aNil)))))) (eOp modD (eB intM (aCons (ePot 0 2) aNil)) (eC (.int 5)))))
  (sSeq (sAsg (gN 4) (eOp modD (eB intM (aCons (eOp powD (eB intM (aCons (eOp addD (eOp addD (ePot 0 1) (eOp mulD (eOp mulD (eC (.int 95257)) (ePot 0 2)) (ePot 0 2))) (eC (.int 3163))) aNil)) (eC (.int 3))) aNil)) (eVar 3)))
  (sSeq (sAsg (gN 4) (eOp modD (eB intM (aCons (eOp mulD (eVar 4) (eOp addD (eOp modD (eB intM (aCons (eVar 4) aNil)) (eC (.int 13441))) (eOp mulD (eC (.int 419)) (ePot 0 2)))) aNil)) (eC (.int 2305843009213693907))))
  (sRet (eOp modD (eB intM (aCons (eOp fdivD (eVar 4) (eC (.int 229))) aNil)) (eVar 1))))))))
abbrev s_law_of : Stmt := topS 31
theorem sc_law_of : FnScope ["pot", "some"] ["pot", "some"] (defScope s_law_of) := ⟨rfl, rfl, rfl, by decide +kernel, rfl, by decide +kernel, by decide +kernel⟩
def g_law_of : FS :=
  (sRet (eOp ixD (eVar 1) (eCall m_law_take (aCons (eVar 0) (aCons (eB lenM (aCons (eVar 1) aNil)) aNil)))))
structure m_law_of (ds : List D) (c : Nat) (Q : KD) : Prop where
  len : ds.length = 2
  run : runM 2 g_law_of ds c Q
theorem p_law_of : ∀ ds c Q, m_law_of ds c Q → runM 2 g_law_of ds c Q := fun _ _ _ h => h.2
theorem l_law_of : ∀ ds c Q, m_law_of ds c Q → ds.length = 2 := fun _ _ _ h => h.1
abbrev s_law_cells : Stmt := topS 32
theorem sc_law_cells : FnScope ["script", "most"] ["script", "most"] (defScope s_law_cells) := ⟨rfl, rfl, rfl, by decide +kernel, rfl, by decide +kernel, by decide +kernel⟩
def g_law_cells : FS :=
  (sRet (eF (fRange1 (aCons (eB max2M (aCons (eC (.int 1)) (aCons (eB min2M (aCons (eVar 1) (aCons (eB lenM (aCons (eVar 0) aNil)) aNil))) aNil))) aNil))))
structure m_law_cells (ds : List D) (c : Nat) (Q : KD) : Prop where
  len : ds.length = 2
  run : runM 2 g_law_cells ds c Q
theorem p_law_cells : ∀ ds c Q, m_law_cells ds c Q → runM 2 g_law_cells ds c Q := fun _ _ _ h => h.2
theorem l_law_cells : ∀ ds c Q, m_law_cells ds c Q → ds.length = 2 := fun _ _ _ h => h.1
abbrev s_law_heard : Stmt := topS 33
theorem sc_law_heard : FnScope ["call", "caught", "gave", "error"] ["call"] (defScope s_law_heard) := ⟨rfl, rfl, rfl, by decide +kernel, rfl, by decide +kernel, by decide +kernel⟩
def g_law_heard (TT : TLs) : FS :=
  (sSeq (sAsg (gT 2 (gsCons (gN 1) (gsCons (gN 2) gsNil))) (eTup (aCons (eC .non) (aCons (eC .non) aNil))))
  (sSeq (sTryC errs 3 1 (gN 2) (yAct TT (eVar 0) aNil))
  (sRet (eTup (aCons (eVar 1) (aCons (eVar 2) aNil))))))
structure m_law_heard (TT : TLs) (ds : List D) (c : Nat) (Q : KD) : Prop where
  len : ds.length = 1
  run : runM 4 (g_law_heard TT) ds c Q
theorem p_law_heard (TT : TLs) : ∀ ds c Q, m_law_heard TT ds c Q → runM 4 (g_law_heard TT) ds c Q := fun _ _ _ h => h.2
theorem l_law_heard (TT : TLs) : ∀ ds c Q, m_law_heard TT ds c Q → ds.length = 1 := fun _ _ _ h => h.1
abbrev s_law_odd : Stmt := topS 34
theorem sc_law_odd : FnScope ["pot", "some"] ["pot"] (defScope s_law_odd) := ⟨rfl, rfl, rfl, by decide +kernel, rfl, by decide +kernel, by decide +kernel⟩
def g_law_odd : FS :=
  (sSeq (sAsg (gN 1) (eLst (aCons (eC .non) (aCons (eC (.bl true)) (aCons (eC (.bl false)) (aCons (eC (.int 0)) (aCons (eC (.int 1)) (aCons (eUn negD (eC (.int 1))) (aCons (eC (.int 33)) (aCons (eOp powD (eC (.int 10)) (eC (.int 20))) (aCons (eC (.str "")) (aCons (eC (.str "a")) (aCons (eC (.str "order")) (aCons (eC (.str "crowd")) (aCons (eTup aNil) (aCons (eLst aNil) (aCons (eC (.dct (.k []) [])) (aCons (eTup (aCons (eC (.int 0)) aNil)) (aCons (eTup (aCons (eTup aNil) aNil)) (aCons (eLst (aCons (eC (.int 1)) aNil)) (aCons (eTup (aCons (eC (.int 1)) (aCons (eC (.int 0)) aNil))) aNil)))))))))))))))))))))
  (sSeq (sAsg (gN 1) (eOp addD (eVar 1) (eLst (aCons (eTup (aCons (eC (.int 0)) (aCons (eC (.int 1)) aNil))) (aCons (eTup (aCons (eC .non) aNil)) (aCons (eC (.dct (.k [.inr "a"]) [.int 1])) (aCons (eTup (aCons (eTup (aCons (eC (.int 1)) aNil)) (aCons (eTup (aCons (eC (.int 2)) aNil)) aNil))) (aCons (eTup (aCons (eC (.int 2)) (aCons (eC (.int 1)) aNil))) (aCons (eTup (aCons (eC (.int 1)) (aCons (eC (.int 1)) (aCons (eC (.int 1)) aNil)))) (aCons (eTup (aCons (eTup (aCons (eC (.bl true)) aNil)) aNil)) (aCons (eTup (aCons (eC (.str "crowd")) (aCons (eC (.int 0)) aNil))) (aCons (eTup (aCons (eC (.int 2)) (aCons (eC (.int 1)) (aCons (eC (.int 0)) aNil)))) aNil))))))))))))
  (sRet (eCall m_law_of (aCons (eVar 0) (aCons (eVar 1) aNil))))))
structure m_law_odd (ds : List D) (c : Nat) (Q : KD) : Prop where
  len : ds.length = 1
  run : runM 2 g_law_odd ds c Q
theorem p_law_odd : ∀ ds c Q, m_law_odd ds c Q → runM 2 g_law_odd ds c Q := fun _ _ _ h => h.2
theorem l_law_odd : ∀ ds c Q, m_law_odd ds c Q → ds.length = 1 := fun _ _ _ h => h.1
abbrev s_law_is_int : Stmt := topS 35
theorem sc_law_is_int : FnScope ["value", "low", "high"] ["value", "low", "high"] (defScope s_law_is_int) := ⟨rfl, rfl, rfl, by decide +kernel, rfl, by decide +kernel, by decide +kernel⟩
def g_law_is_int : FS :=
  (sRet (eAnd (eB isiM (aCons (eVar 0) (aCons (eC (.ty "int")) aNil))) (eAnd (eNot (eB isiM (aCons (eVar 0) (aCons (eC (.ty "bool")) aNil)))) (eCh leD leD (eVar 1) (eVar 0) (eVar 2)))))
structure m_law_is_int (ds : List D) (c : Nat) (Q : KD) : Prop where
  len : ds.length = 3
  run : runM 3 g_law_is_int ds c Q
theorem p_law_is_int : ∀ ds c Q, m_law_is_int ds c Q → runM 3 g_law_is_int ds c Q := fun _ _ _ h => h.2
theorem l_law_is_int : ∀ ds c Q, m_law_is_int ds c Q → ds.length = 3 := fun _ _ _ h => h.1
abbrev s_law_bent : Stmt := topS 36
theorem sc_law_bent : FnScope ["pot", "value", "at"] ["pot", "value"] (defScope s_law_bent) := ⟨rfl, rfl, rfl, by decide +kernel, rfl, by decide +kernel, by decide +kernel⟩
def g_law_bent (mr : FM) : FS :=
  (sSeq (sIf (tA3 (tV (eB isiM (aCons (eVar 1) (aCons (eC (.ty "tuple")) aNil)))) (tA3 (tV (eOp neD (eVar 1) (eTup aNil))) (tV (eOp gtD (eCall m_law_take (aCons (eVar 0) (aCons (eC (.int 5)) aNil))) (eC (.int 0))))))
  (sSeq (sAsg (gN 2) (eCall m_law_take (aCons (eVar 0) (aCons (eB lenM (aCons (eVar 1) aNil)) aNil))))
  (sRet (eOp addD (eOp addD (eSl (eVar 1) oNone (oSome (eVar 2))) (eTup (aCons (eCall mr (aCons (eVar 0) (aCons (eOp ixD (eVar 1) (eVar 2)) aNil))) aNil))) (eSl (eVar 1) (oSome (eOp addD (eVar 2) (eC (.int 1)))) oNone))))
  sNil)
  (sSeq (sIf (tV (eB isiM (aCons (eVar 1) (aCons (eC (.ty "tuple")) aNil))))
  (sRet (eCall m_law_of (aCons (eVar 0) (aCons (eLst (aCons (eF (fList (eVar 1))) (aCons (eSl (eVar 1) (oSome (eC (.int 1))) oNone) (aCons (eSl (eVar 1) oNone (oSome (eUn negD (eC (.int 1))))) (aCons (eOp addD (eVar 1) (eSl (eVar 1) (oSome (eUn negD (eC (.int 1)))) oNone)) (aCons (eUn revD (eVar 1)) (aCons (eTup aNil) (aCons (eC .non) aNil)))))))) aNil))))
  sNil)
  (sSeq (sIf (tV (eB isiM (aCons (eVar 1) (aCons (eC (.ty "bool")) aNil))))
  (sRet (eCall m_law_of (aCons (eVar 0) (aCons (eLst (aCons (eNot (eVar 1)) (aCons (eB intM (aCons (eVar 1) aNil)) (aCons (eC .non) aNil)))) aNil))))
  sNil)
  (sSeq (sIf (tV (eB isiM (aCons (eVar 1) (aCons (eC (.ty "int")) aNil))))
  (sRet (eCall m_law_of (aCons (eVar 0) (aCons (eLst (aCons (eOp addD (eVar 1) (eC (.int 1))) (aCons (eOp subD (eVar 1) (eC (.int 1))) (aCons (eOp subD (eUn negD (eVar 1)) (eC (.int 1))) (aCons (eB strIM (aCons (eVar 1) aNil)) (aCons (eOp eqD (eVar 1) (eC (.int 1))) (aCons (eC .non) (aCons (eTup (aCons (eVar 1) aNil)) (aCons (eOp powD (eC (.int 10)) (eC (.int 9))) aNil))))))))) aNil))))
  sNil)
  (sSeq (sIf (tV (eB isiM (aCons (eVar 1) (aCons (eC (.ty "str")) aNil))))
  (sRet (eCall m_law_of (aCons (eVar 0) (aCons (eLst (aCons (eOp addD (eVar 1) (eC (.str "a"))) (aCons (eSlS (eVar 1) (oSome (eC (.int 1))) oNone) (aCons (eUn upperD (eVar 1)) (aCons (eC (.str "")) (aCons (eC .non) (aCons (eC (.int 0)) aNil))))))) aNil))))
  sNil)
  (sRet (eCall m_law_odd (aCons (eVar 0) aNil))))))))
def m_law_bent : Nat → FM
  | 0 => fun _ _ _ => False
  | n + 1 => fun ds c Q => ds.length = 2 ∧ runM 3 (g_law_bent (m_law_bent n)) ds c Q
theorem l_law_bent : ∀ (n : Nat) ds c Q, m_law_bent n ds c Q → ds.length = 2
  | 0, _, _, _, h => h.elim
  | _ + 1, _, _, _, h => h.1
abbrev s_law_is_bool : Stmt := topS 37
theorem sc_law_is_bool : FnScope ["told", "due"] ["told", "due"] (defScope s_law_is_bool) := ⟨rfl, rfl, rfl, by decide +kernel, rfl, by decide +kernel, by decide +kernel⟩
def g_law_is_bool : FS :=
  (sRet (eAnd (eB isiM (aCons (eVar 0) (aCons (eC (.ty "bool")) aNil))) (eOp eqD (eVar 0) (eVar 1))))
structure m_law_is_bool (ds : List D) (c : Nat) (Q : KD) : Prop where
  len : ds.length = 2
  run : runM 2 g_law_is_bool ds c Q
theorem p_law_is_bool : ∀ ds c Q, m_law_is_bool ds c Q → runM 2 g_law_is_bool ds c Q := fun _ _ _ h => h.2
theorem l_law_is_bool : ∀ ds c Q, m_law_is_bool ds c Q → ds.length = 2 := fun _ _ _ h => h.1
abbrev s_law_all_refused : Stmt := topS 38
theorem sc_law_all_refused : FnScope ["looks", "is_it", "value", "caught", "look", "miss"] ["looks", "is_it", "value"] (defScope s_law_all_refused) := ⟨rfl, rfl, rfl, by decide +kernel, rfl, by decide +kernel, by decide +kernel⟩
def g_law_all_refused (TT : TLs) : FS :=
  (sSeq (sValF 3 (fComp (iSeq (eVar 0)) (gN 4) tYes3 (eOp ixD (eCall (m_law_heard TT) (aCons (eVar 4) aNil)) (eC (.int 0))) [4]))
  (sRet (eB allM (aCons (eF (fComp (iSeq (eVar 3)) (gN 5) tYes3 (eAnd (eAct TT (eVar 1) (aCons (eVar 5) aNil)) (eAnd (eIsV errs (eVar 5)) (eOp eqD (eUn reprD (eVal errs (eVar 5))) (eUn reprD (eVar 2))))) [5])) aNil))))
structure m_law_all_refused (TT : TLs) (ds : List D) (c : Nat) (Q : KD) : Prop where
  len : ds.length = 3
  run : runM 6 (g_law_all_refused TT) ds c Q
theorem p_law_all_refused (TT : TLs) : ∀ ds c Q, m_law_all_refused TT ds c Q → runM 6 (g_law_all_refused TT) ds c Q := fun _ _ _ h => h.2
theorem l_law_all_refused (TT : TLs) : ∀ ds c Q, m_law_all_refused TT ds c Q → ds.length = 3 := fun _ _ _ h => h.1
abbrev s_law_gcd : Stmt := topS 39
theorem sc_law_gcd : FnScope ["one", "other"] ["one", "other"] (defScope s_law_gcd) := ⟨rfl, rfl, rfl, by decide +kernel, rfl, by decide +kernel, by decide +kernel⟩
def g_law_gcd : FS :=
  (sSeq (sWhile (tV (eOp neD (eVar 1) (eC (.int 0))))
  (sPar 0 1 (aCons (eVar 1) (aCons (eOp modD (eVar 0) (eVar 1)) aNil))))
  (sRet (eVar 0)))
structure m_law_gcd (ds : List D) (c : Nat) (Q : KD) : Prop where
  len : ds.length = 2
  run : runM 2 g_law_gcd ds c Q
theorem p_law_gcd : ∀ ds c Q, m_law_gcd ds c Q → runM 2 g_law_gcd ds c Q := fun _ _ _ h => h.2
theorem l_law_gcd : ∀ ds c Q, m_law_gcd ds c Q → ds.length = 2 := fun _ _ _ h => h.1
abbrev s_law_low : Stmt := topS 40
theorem sc_law_low : FnScope ["top", "bottom", "less"] ["top", "bottom"] (defScope s_law_low) := ⟨rfl, rfl, rfl, by decide +kernel, rfl, by decide +kernel, by decide +kernel⟩
def g_law_low : FS :=
  (sSeq (sAsg (gN 2) (eCall m_law_gcd (aCons (eVar 0) (aCons (eVar 1) aNil))))
  (sRet (eTup (aCons (eOp fdivWD (eVar 0) (eVar 2)) (aCons (eOp fdivWD (eVar 1) (eVar 2)) aNil)))))
structure m_law_low (ds : List D) (c : Nat) (Q : KD) : Prop where
  len : ds.length = 2
  run : runM 3 g_law_low ds c Q
theorem p_law_low : ∀ ds c Q, m_law_low ds c Q → runM 3 g_law_low ds c Q := fun _ _ _ h => h.2
theorem l_law_low : ∀ ds c Q, m_law_low ds c Q → ds.length = 2 := fun _ _ _ h => h.1
abbrev s_law_less : Stmt := topS 41
theorem sc_law_less : FnScope ["one", "other"] ["one", "other"] (defScope s_law_less) := ⟨rfl, rfl, rfl, by decide +kernel, rfl, by decide +kernel, by decide +kernel⟩
def g_law_less : FS :=
  (sRet (eOp ltD (eOp mulD (eOp ixD (eVar 0) (eC (.int 0))) (eOp ixD (eVar 1) (eC (.int 1)))) (eOp mulD (eOp ixD (eVar 1) (eC (.int 0))) (eOp ixD (eVar 0) (eC (.int 1))))))
structure m_law_less (ds : List D) (c : Nat) (Q : KD) : Prop where
  len : ds.length = 2
  run : runM 2 g_law_less ds c Q
theorem p_law_less : ∀ ds c Q, m_law_less ds c Q → runM 2 g_law_less ds c Q := fun _ _ _ h => h.2
theorem l_law_less : ∀ ds c Q, m_law_less ds c Q → ds.length = 2 := fun _ _ _ h => h.1
abbrev s_law_soonest : Stmt := topS 42
theorem sc_law_soonest : FnScope ["times", "presses", "whole", "longest"] ["times", "presses"] (defScope s_law_soonest) := ⟨rfl, rfl, rfl, by decide +kernel, rfl, by decide +kernel, by decide +kernel⟩
def g_law_soonest : FS :=
  (sSeq (sPar 2 3 (aCons (eCall m_law_low (aCons (eB sum2M (aCons (eVar 0) aNil)) (aCons (eVar 1) aNil))) (aCons (eTup (aCons (eB maxM (aCons (eVar 0) aNil)) (aCons (eC (.int 1)) aNil))) aNil)))
  (sRet (eIf3 (tV (eCall m_law_less (aCons (eVar 2) (aCons (eVar 3) aNil)))) (eVar 3) (eVar 2))))
structure m_law_soonest (ds : List D) (c : Nat) (Q : KD) : Prop where
  len : ds.length = 2
  run : runM 4 g_law_soonest ds c Q
theorem p_law_soonest : ∀ ds c Q, m_law_soonest ds c Q → runM 4 g_law_soonest ds c Q := fun _ _ _ h => h.2
theorem l_law_soonest : ∀ ds c Q, m_law_soonest ds c Q → ds.length = 2 := fun _ _ _ h => h.1
abbrev s_law_is_tick : Stmt := topS 43
theorem sc_law_is_tick : FnScope ["value", "part"] ["value"] (defScope s_law_is_tick) := ⟨rfl, rfl, rfl, by decide +kernel, rfl, by decide +kernel, by decide +kernel⟩
def g_law_is_tick : FS :=
  (sSeq (sIf (tO3 (tN3 (tV (eB isiM (aCons (eVar 0) (aCons (eC (.ty "tuple")) aNil))))) (tO3 (tV (eOp neD (eB lenM (aCons (eVar 0) aNil)) (eC (.int 2)))) (tN3 (tV (eB allM (aCons (eF (fComp (iSeq (eVar 0)) (gN 1) tYes3 (eCall m_law_is_int (aCons (eVar 1) (aCons (eC (.int 0)) (aCons (eOp powD (eC (.int 10)) (eC (.int 40))) aNil)))) [1])) aNil))))))
  (sRet (eC (.bl false)))
  sNil)
  (sRet (eAnd (eOp gtD (eOp ixD (eVar 0) (eC (.int 1))) (eC (.int 0))) (eOp eqD (eCall m_law_gcd (aCons (eOp ixD (eVar 0) (eC (.int 0))) (aCons (eOp ixD (eVar 0) (eC (.int 1))) aNil))) (eC (.int 1))))))
structure m_law_is_tick (ds : List D) (c : Nat) (Q : KD) : Prop where
  len : ds.length = 1
  run : runM 2 g_law_is_tick ds c Q
theorem p_law_is_tick : ∀ ds c Q, m_law_is_tick ds c Q → runM 2 g_law_is_tick ds c Q := fun _ _ _ h => h.2
theorem l_law_is_tick : ∀ ds c Q, m_law_is_tick ds c Q → ds.length = 1 := fun _ _ _ h => h.1
abbrev s_law_are_pieces : Stmt := topS 44
theorem sc_law_are_pieces : FnScope ["times", "presses", "value", "piece", "done", "at", "other", "is_shared", "top", "bottom", "old", "time"] ["times", "presses", "value"] (defScope s_law_are_pieces) := ⟨rfl, rfl, rfl, by decide +kernel, rfl, by decide +kernel, by decide +kernel⟩
def g_law_are_pieces : FS :=
  (sSeq (sIf (tO3 (tN3 (tV (eB isiM (aCons (eVar 2) (aCons (eC (.ty "tuple")) aNil))))) (tV (eOp gtD (eB lenM (aCons (eVar 2) aNil)) (eC (.int 100)))))
  (sRet (eC (.bl false)))
  sNil)
  (sSeq (sFor (iSeq (eVar 2)) (gN 3)
  (sSeq (sIf (tO3 (tN3 (tV (eB isiM (aCons (eVar 3) (aCons (eC (.ty "tuple")) aNil))))) (tO3 (tV (eOp neD (eB lenM (aCons (eVar 3) aNil)) (eC (.int 4)))) (tN3 (tV (eCall m_law_is_int (aCons (eOp ixD (eVar 3) (eC (.int 0))) (aCons (eC (.int 0)) (aCons (eOp subD (eVar 1) (eC (.int 1))) aNil))))))))
  (sRet (eC (.bl false)))
  sNil)
  (sSeq (sIf (tO3 (tN3 (tV (eCall m_law_is_tick (aCons (eOp ixD (eVar 3) (eC (.int 1))) aNil)))) (tO3 (tN3 (tV (eCall m_law_is_tick (aCons (eOp ixD (eVar 3) (eC (.int 2))) aNil)))) (tN3 (tV (eCall m_law_less (aCons (eOp ixD (eVar 3) (eC (.int 1))) (aCons (eOp ixD (eVar 3) (eC (.int 2))) aNil)))))))
  (sRet (eC (.bl false)))
  sNil)
  (sIf (tO3 (tN3 (tV (eCall m_law_is_int (aCons (eOp ixD (eVar 3) (eC (.int 3))) (aCons (eC (.int 0)) (aCons (eOp subD (eB lenM (aCons (eVar 0) aNil)) (eC (.int 1))) aNil)))))) (tV (eCall m_law_less (aCons (eCall m_law_soonest (aCons (eVar 0) (aCons (eVar 1) aNil))) (aCons (eOp ixD (eVar 3) (eC (.int 2))) aNil)))))
  (sRet (eC (.bl false)))
  sNil))))
  (sSeq (sOwnF 4 (fRep (eLst (aCons (eTup (aCons (eC (.int 0)) (aCons (eC (.int 1)) aNil))) aNil)) (eB lenM (aCons (eVar 0) aNil))))
  (sSeq (sFor (iEnum3 (eVar 2)) (gT 2 (gsCons (gN 5) (gsCons (gN 3) gsNil)))
  (sSeq (sFor (iSeq (eSl (eVar 2) (oSome (eOp addD (eVar 5) (eC (.int 1)))) oNone)) (gN 6)
  (sSeq (sAsgB (gN 7) (eOr (eOp eqD (eOp ixD (eVar 3) (eC (.int 0))) (eOp ixD (eVar 6) (eC (.int 0)))) (eOp eqD (eOp ixD (eVar 3) (eC (.int 3))) (eOp ixD (eVar 6) (eC (.int 3))))))
  (sIf (tA3 (tV (eVar 7)) (tA3 (tV (eCall m_law_less (aCons (eOp ixD (eVar 3) (eC (.int 1))) (aCons (eOp ixD (eVar 6) (eC (.int 2))) aNil)))) (tV (eCall m_law_less (aCons (eOp ixD (eVar 6) (eC (.int 1))) (aCons (eOp ixD (eVar 3) (eC (.int 2))) aNil))))))
  (sRet (eC (.bl false)))
  sNil)))
  (sSeq (sAsgB (gN 8) (eOp subD (eOp mulD (eOp ixD (eOp ixD (eVar 3) (eC (.int 2))) (eC (.int 0))) (eOp ixD (eOp ixD (eVar 3) (eC (.int 1))) (eC (.int 1)))) (eOp mulD (eOp ixD (eOp ixD (eVar 3) (eC (.int 1))) (eC (.int 0))) (eOp ixD (eOp ixD (eVar 3) (eC (.int 2))) (eC (.int 1))))))
  (sSeq (sAsgB (gN 9) (eOp mulD (eOp ixD (eOp ixD (eVar 3) (eC (.int 1))) (eC (.int 1))) (eOp ixD (eOp ixD (eVar 3) (eC (.int 2))) (eC (.int 1)))))
  (sSeq (sAsgB (gN 10) (eOp ixD (eVar 4) (eOp ixD (eVar 3) (eC (.int 3)))))
  (sSetB 4 (eCall m_law_low (aCons (eOp addD (eOp mulD (eOp ixD (eVar 10) (eC (.int 0))) (eVar 9)) (eOp mulD (eVar 8) (eOp ixD (eVar 10) (eC (.int 1))))) (aCons (eOp mulD (eOp ixD (eVar 10) (eC (.int 1))) (eVar 9)) aNil))) (eOp ixD (eVar 3) (eC (.int 3)))))))))
  (sRet (eOp eqD (eVar 4) (eF (fComp (iSeq (eVar 0)) (gN 11) tYes3 (eTup (aCons (eVar 11) (aCons (eC (.int 1)) aNil))) [11]))))))))
structure m_law_are_pieces (ds : List D) (c : Nat) (Q : KD) : Prop where
  len : ds.length = 3
  run : runM 12 g_law_are_pieces ds c Q
theorem p_law_are_pieces : ∀ ds c Q, m_law_are_pieces ds c Q → runM 12 g_law_are_pieces ds c Q := fun _ _ _ h => h.2
theorem l_law_are_pieces : ∀ ds c Q, m_law_are_pieces ds c Q → ds.length = 3 := fun _ _ _ h => h.1
abbrev s_law_is_right : Stmt := topS 45
theorem sc_law_is_right : FnScope ["pot", "times", "presses", "end", "told", "one_by_one", "here", "job", "time", "values", "value", "lap", "tick", "some", "many"] ["pot", "times", "presses"] (defScope s_law_is_right) := ⟨rfl, rfl, rfl, by decide +kernel, rfl, by decide +kernel, by decide +kernel⟩
def g_law_is_right_t1 : FS :=
  (sSeq (sAsg (gN 12) (eB intM (aCons (eCall m_law_of (aCons (eVar 0) (aCons (eLst (aCons (eCall m_law_take (aCons (eVar 0) (aCons (eC (.int 40)) aNil))) (aCons (eB maxM (aCons (eVar 1) aNil)) (aCons (eB sum2M (aCons (eVar 1) aNil)) (aCons (eUn negD (eOp fdivD (eUn negD (eB sum2M (aCons (eVar 1) aNil))) (eVar 2))) aNil))))) aNil))) aNil)))
  (sSeq (sValF 13 (fComp (iR2 (aCons (eC (.int 1)) (aCons (eC (.int 13)) aNil))) (gN 14) (tN3 (tV (eCall m_law_less (aCons (eTup (aCons (eVar 12) (aCons (eC (.int 1)) aNil))) (aCons (eCall m_law_soonest (aCons (eVar 1) (aCons (eVar 14) aNil))) aNil))))) (eVar 14) [14]))
  (sRet (eOp eqD (eUn reprD (eCallK 1 (m0 m_presses_for) (aCons (eVar 1) aNil) (aCons (eVar 12) aNil))) (eUn reprD (eIf3 (tV (eOp neD (eVar 13) (eLst aNil))) (eOp ixD (eVar 13) (eC (.int 0))) (eC .non)))))))
def g_law_is_right_t2 : FS :=
  (sSeq (sFrz 5 (sAsg (gN 9) (eLst (aCons (eVar 4) (aCons (eF (fList (eVar 4))) (aCons (eUn revD (eVar 4)) (aCons (eSl (eVar 4) (oSome (eC (.int 1))) oNone) (aCons (eOp addD (eVar 4) (eSl (eVar 4) oNone (oSome (eC (.int 1))))) (aCons (eB tupleM (aCons (eVar 5) aNil)) (aCons (eTup aNil) (aCons (eC .non) (aCons (eCall m_law_odd (aCons (eVar 0) aNil)) aNil))))))))))))
  (sSeq (sFor (iSeq (eOp addD (eVar 9) (eF (fComp (iR1 (aCons (eC (.int 7)) aNil)) (gN 11) tYes3 (eCall (m_law_bent 6) (aCons (eVar 0) (aCons (eVar 4) aNil))) [11])))) (gN 10)
  (sIf (tN3 (tV (eCall m_law_is_bool (aCons (eCallK 1 (m0 m_shows_parted) (aCons (eVar 1) (aCons (eVar 2) aNil)) (aCons (eVar 10) aNil)) (aCons (eCall m_law_are_pieces (aCons (eVar 1) (aCons (eVar 2) (aCons (eVar 10) aNil)))) aNil)))))
  (sRet (eC (.bl false)))
  sNil))
  g_law_is_right_t1))
def g_law_is_right_t3 : FS :=
  (sSeq (sParN [5, 6] [.f (fLst aNil), .e (eC (.int 0))])
  (sSeq (sFor (iEnum3 (eVar 1)) (gT 2 (gsCons (gN 7) (gsCons (gN 8) gsNil)))
  (sSeq (sExt 5 (fIf3 (tV (eOp gtD (eVar 8) (eC (.int 0)))) (fLst (aCons (eTup (aCons (eC (.int 0)) (aCons (eTup (aCons (eVar 6) (aCons (eC (.int 1)) aNil))) (aCons (eTup (aCons (eOp addD (eVar 6) (eVar 8)) (aCons (eC (.int 1)) aNil))) (aCons (eVar 7) aNil))))) aNil)) (fLst aNil)))
  (sAsg (gN 6) (eOp addD (eVar 6) (eVar 8)))))
  g_law_is_right_t2))
def g_law_is_right : FS :=
  (sSeq (sAsg (gT 2 (gsCons (gN 3) (gsCons (gN 4) gsNil))) (eTup (aCons (eCall m_law_soonest (aCons (eVar 1) (aCons (eVar 2) aNil))) (aCons (eCallK 1 (m0 m_parted) (aCons (eVar 1) aNil) (aCons (eVar 2) aNil)) aNil))))
  (sSeq (sIf (tO3 (tV (eOp neD (eUn reprD (eCallK 1 (m0 m_soonest) (aCons (eVar 1) aNil) (aCons (eVar 2) aNil))) (eUn reprD (eVar 3)))) (tN3 (tV (eCall m_law_are_pieces (aCons (eVar 1) (aCons (eVar 2) (aCons (eVar 4) aNil)))))))
  (sRet (eC (.bl false)))
  sNil)
  g_law_is_right_t3))
structure m_law_is_right (ds : List D) (c : Nat) (Q : KD) : Prop where
  len : ds.length = 3
  run : runM 15 g_law_is_right ds c Q
theorem p_law_is_right : ∀ ds c Q, m_law_is_right ds c Q → runM 15 g_law_is_right ds c Q := fun _ _ _ h => h.2
theorem l_law_is_right : ∀ ds c Q, m_law_is_right ds c Q → ds.length = 3 := fun _ _ _ h => h.1
abbrev s_law_right : Stmt := topS 46
theorem sc_law_right : FnScope ["pot", "lap", "wide", "times", "job", "odd", "looks"] ["pot"] (defScope s_law_right) := ⟨rfl, rfl, rfl, by decide +kernel, rfl, by decide +kernel, by decide +kernel⟩
def tab_law_right : Nat → Nat × FEX
  | 0 => (0, (yCall m_soonest (aCons (eVar 5) (aCons (eC .non) aNil))))
  | 1 => (0, (yCall m_parted (aCons (eVar 5) (aCons (eC .non) aNil))))
  | 2 => (0, (yCall m_shows_parted (aCons (eVar 5) (aCons (eC .non) (aCons (eC .non) aNil)))))
  | 3 => (0, (yCall m_presses_for (aCons (eVar 5) (aCons (eC .non) aNil))))
  | 4 => (1, (fun ρ c Q _ => (eIsX errs "BadJobs" (eVar 7)) ρ c Q))
  | 5 => (0, (yCall m_soonest (aCons (eTup (aCons (eC (.int 1)) aNil)) (aCons (eVar 5) aNil))))
  | 6 => (0, (yCall m_parted (aCons (eTup (aCons (eC (.int 1)) aNil)) (aCons (eVar 5) aNil))))
  | 7 => (0, (yCall m_shows_parted (aCons (eTup (aCons (eC (.int 1)) aNil)) (aCons (eVar 5) (aCons (eC .non) aNil)))))
  | 8 => (1, (fun ρ c Q _ => (eIsX errs "BadInt" (eVar 7)) ρ c Q))
  | 9 => (0, (yCall m_presses_for (aCons (eTup (aCons (eC (.int 1)) aNil)) (aCons (eVar 5) aNil))))
  | 10 => (1, (fun ρ c Q _ => (eIsX errs "BadInt" (eVar 7)) ρ c Q))
  | _ => (0, fun _ _ _ _ => False)
def g_law_right_t1 (is : Nat → Obj → Prop) : FS :=
  (sSeq (sAsg (gN 5) (eCall m_law_of (aCons (eVar 0) (aCons (eLst (aCons (eC .non) (aCons (eUn negD (eC (.int 1))) (aCons (eC (.bl true)) (aCons (eC (.str "1")) (aCons (eOp addD (eOp mulD (eC (.int 24)) (eOp powD (eC (.int 10)) (eC (.int 12)))) (eC (.int 1))) aNil)))))) aNil))))
  (sSeq (sOwnF 6 (fLst (aCons (eMk is 9) aNil)))
  (sRet (eCallG is tab_law_right m_law_all_refused (aCons (eVar 6) (aCons (eMk is 10) (aCons (eVar 5) aNil)))))))
def g_law_right_t2 (is : Nat → Obj → Prop) : FS :=
  (sSeq (sAsg (gN 5) (eCall m_law_of (aCons (eVar 0) (aCons (eLst (aCons (eC .non) (aCons (eC (.int 0)) (aCons (eC (.int 13)) (aCons (eC (.bl true)) (aCons (eC (.str "1")) (aCons (eUn negD (eC (.int 1))) aNil))))))) aNil))))
  (sSeq (sOwnF 6 (fLst (aCons (eMk is 5) aNil)))
  (sSeq (sApp 6 (eMk is 6))
  (sSeq (sApp 6 (eMk is 7))
  (sSeq (sIf (tN3 (tV (eCallG is tab_law_right m_law_all_refused (aCons (eVar 6) (aCons (eMk is 8) (aCons (eVar 5) aNil))))))
  (sRet (eC (.bl false)))
  sNil)
  (g_law_right_t1 is))))))
def g_law_right_t3 (is : Nat → Obj → Prop) : FS :=
  (sSeq (sAsg (gN 5) (eCall m_law_of (aCons (eVar 0) (aCons (eLst (aCons (eC .non) (aCons (eTup aNil) (aCons (eLst (aCons (eC (.int 1)) aNil)) (aCons (eTup (aCons (eUn negD (eC (.int 1))) aNil)) (aCons (eTup (aCons (eC (.bl true)) aNil)) (aCons (eTup (aCons (eOp addD (eOp powD (eC (.int 10)) (eC (.int 12))) (eC (.int 1))) aNil)) (aCons (eOp mulTD (eTup (aCons (eC (.int 1)) aNil)) (eC (.int 25))) (aCons (eC (.str "0")) aNil))))))))) aNil))))
  (sSeq (sOwnF 6 (fLst (aCons (eMk is 0) aNil)))
  (sSeq (sApp 6 (eMk is 1))
  (sSeq (sApp 6 (eMk is 2))
  (sSeq (sApp 6 (eMk is 3))
  (sSeq (sIf (tN3 (tV (eCallG is tab_law_right m_law_all_refused (aCons (eVar 6) (aCons (eMk is 4) (aCons (eVar 5) aNil))))))
  (sRet (eC (.bl false)))
  sNil)
  (g_law_right_t2 is)))))))
def g_law_right (is : Nat → Obj → Prop) : FS :=
  (sSeq (sFor (iR1 (aCons (eC (.int 4)) aNil)) (gN 1)
  (sSeq (sAsg (gN 2) (eB intM (aCons (eCall m_law_of (aCons (eVar 0) (aCons (eLst (aCons (eC (.int 4)) (aCons (eC (.int 12)) (aCons (eC (.int 1000)) aNil)))) aNil))) aNil)))
  (sSeq (sAsg (gN 3) (eB tupleM (aCons (eF (fComp (iR1 (aCons (eOp addD (eC (.int 1)) (eCall m_law_take (aCons (eVar 0) (aCons (eC (.int 9)) aNil)))) aNil)) (gN 4) tYes3 (eB intM (aCons (eCall m_law_take (aCons (eVar 0) (aCons (eVar 2) aNil))) aNil)) [4])) aNil)))
  (sIf (tN3 (tV (eCall m_law_is_right (aCons (eVar 0) (aCons (eVar 3) (aCons (eOp addD (eC (.int 1)) (eB intM (aCons (eCall m_law_take (aCons (eVar 0) (aCons (eC (.int 5)) aNil))) aNil))) aNil))))))
  (sRet (eC (.bl false)))
  sNil))))
  (g_law_right_t3 is))
structure m_law_right (ds : List D) (c : Nat) (Q : KD) : Prop where
  len : ds.length = 1
  run : ∀ is, runM 7 (g_law_right is) ds c Q
theorem p_law_right : ∀ ds c Q, m_law_right ds c Q → ∀ is, runM 7 (g_law_right is) ds c Q := fun _ _ _ h => h.2
theorem l_law_right : ∀ ds c Q, m_law_right ds c Q → ds.length = 1 := fun _ _ _ h => h.1
abbrev s_law : Stmt := topS 47
theorem sc_law : FnScope ["script", "place"] ["script"] (defScope s_law) := ⟨rfl, rfl, rfl, by decide +kernel, rfl, by decide +kernel, by decide +kernel⟩
def g_law : FS :=
  (sRet (eB allM (aCons (eF (fComp (iSeq (eCall m_law_cells (aCons (eVar 0) (aCons (eC (.int 3)) aNil)))) (gN 1) tYes3 (ePotCall m_law_pot m_law_right (aCons (eVar 0) (aCons (eVar 1) aNil))) [1])) aNil)))
structure m_law (ds : List D) (c : Nat) (Q : KD) : Prop where
  len : ds.length = 1
  run : runM 2 g_law ds c Q
theorem p_law : ∀ ds c Q, m_law ds c Q → runM 2 g_law ds c Q := fun _ _ _ h => h.2
theorem l_law : ∀ ds c Q, m_law ds c Q → ds.length = 1 := fun _ _ _ h => h.1
structure Top (K : PySem.W.Frag) (mg : Str → Option Value) (base : Heap) where
  a_is_int : Addr
  fd_is_int : FuncData
  F_is_int : Fun K "is_int" "is_int" s_is_int a_is_int fd_is_int
  b_is_int : Binds K fd_is_int ["value", "low", "high"] []
  m_is_int : mg "is_int" = some (.ref a_is_int)
  a_is_whole : Addr
  fd_is_whole : FuncData
  F_is_whole : Fun K "is_whole" "is_whole" s_is_whole a_is_whole fd_is_whole
  b_is_whole : Binds K fd_is_whole ["value"] []
  m_is_whole : mg "is_whole" = some (.ref a_is_whole)
  a_are_ints : Addr
  fd_are_ints : FuncData
  F_are_ints : Fun K "are_ints" "are_ints" s_are_ints a_are_ints fd_are_ints
  b_are_ints : Binds K fd_are_ints ["value", "low", "high"] []
  m_are_ints : mg "are_ints" = some (.ref a_are_ints)
  a_common_int : Addr
  fd_common_int : FuncData
  F_common_int : Fun K "common_int" "common_int" s_common_int a_common_int fd_common_int
  b_common_int : Binds K fd_common_int ["one", "other"] []
  m_common_int : mg "common_int" = some (.ref a_common_int)
  a_lowest : Addr
  fd_lowest : FuncData
  F_lowest : Fun K "lowest" "lowest" s_lowest a_lowest fd_lowest
  b_lowest : Binds K fd_lowest ["top", "bottom"] []
  m_lowest : mg "lowest" = some (.ref a_lowest)
  a_plus : Addr
  fd_plus : FuncData
  F_plus : Fun K "plus" "plus" s_plus a_plus fd_plus
  b_plus : Binds K fd_plus ["one", "other"] []
  m_plus : mg "plus" = some (.ref a_plus)
  a_is_below : Addr
  fd_is_below : FuncData
  F_is_below : Fun K "is_below" "is_below" s_is_below a_is_below fd_is_below
  b_is_below : Binds K fd_is_below ["one", "other"] []
  m_is_below : mg "is_below" = some (.ref a_is_below)
  a_is_tick : Addr
  fd_is_tick : FuncData
  F_is_tick : Fun K "is_tick" "is_tick" s_is_tick a_is_tick fd_is_tick
  b_is_tick : Binds K fd_is_tick ["value"] []
  m_is_tick : mg "is_tick" = some (.ref a_is_tick)
  a_look_at_times : Addr
  fd_look_at_times : FuncData
  F_look_at_times : Fun K "look_at_times" "look_at_times" s_look_at_times a_look_at_times fd_look_at_times
  b_look_at_times : Binds K fd_look_at_times ["times", "presses"] []
  m_look_at_times : mg "look_at_times" = some (.ref a_look_at_times)
  a_told_soonest : Addr
  fd_told_soonest : FuncData
  F_told_soonest : Fun K "told_soonest" "told_soonest" s_told_soonest a_told_soonest fd_told_soonest
  b_told_soonest : Binds K fd_told_soonest ["times", "presses"] []
  m_told_soonest : mg "told_soonest" = some (.ref a_told_soonest)
  a_soonest : Addr
  fd_soonest : FuncData
  F_soonest : Fun K "soonest" "soonest" s_soonest a_soonest fd_soonest
  b_soonest : Binds K fd_soonest ["times", "presses"] []
  m_soonest : mg "soonest" = some (.ref a_soonest)
  a_parted : Addr
  fd_parted : FuncData
  F_parted : Fun K "parted" "parted" s_parted a_parted fd_parted
  b_parted : Binds K fd_parted ["times", "presses"] []
  m_parted : mg "parted" = some (.ref a_parted)
  a_is_piece : Addr
  fd_is_piece : FuncData
  F_is_piece : Fun K "is_piece" "is_piece" s_is_piece a_is_piece fd_is_piece
  b_is_piece : Binds K fd_is_piece ["value", "jobs", "presses"] []
  m_is_piece : mg "is_piece" = some (.ref a_is_piece)
  a_do_meet : Addr
  fd_do_meet : FuncData
  F_do_meet : Fun K "do_meet" "do_meet" s_do_meet a_do_meet fd_do_meet
  b_do_meet : Binds K fd_do_meet ["one", "other"] []
  m_do_meet : mg "do_meet" = some (.ref a_do_meet)
  a_shows_parted : Addr
  fd_shows_parted : FuncData
  F_shows_parted : Fun K "shows_parted" "shows_parted" s_shows_parted a_shows_parted fd_shows_parted
  b_shows_parted : Binds K fd_shows_parted ["times", "presses", "value"] []
  m_shows_parted : mg "shows_parted" = some (.ref a_shows_parted)
  a_presses_for : Addr
  fd_presses_for : FuncData
  F_presses_for : Fun K "presses_for" "presses_for" s_presses_for a_presses_for fd_presses_for
  b_presses_for : Binds K fd_presses_for ["times", "tick"] []
  m_presses_for : mg "presses_for" = some (.ref a_presses_for)
  a_law_pot : Addr
  fd_law_pot : FuncData
  F_law_pot : Fun K "_law_pot" "_law_pot" s_law_pot a_law_pot fd_law_pot
  b_law_pot : Binds K fd_law_pot ["script", "place"] []
  m_law_pot : mg "_law_pot" = some (.ref a_law_pot)
  a_law_take : Addr
  fd_law_take : FuncData
  F_law_take : Fun K "_law_take" "_law_take" s_law_take a_law_take fd_law_take
  b_law_take : Binds K fd_law_take ["pot", "upto"] []
  m_law_take : mg "_law_take" = some (.ref a_law_take)
  a_law_of : Addr
  fd_law_of : FuncData
  F_law_of : Fun K "_law_of" "_law_of" s_law_of a_law_of fd_law_of
  b_law_of : Binds K fd_law_of ["pot", "some"] []
  m_law_of : mg "_law_of" = some (.ref a_law_of)
  a_law_cells : Addr
  fd_law_cells : FuncData
  F_law_cells : Fun K "_law_cells" "_law_cells" s_law_cells a_law_cells fd_law_cells
  b_law_cells : Binds K fd_law_cells ["script", "most"] []
  m_law_cells : mg "_law_cells" = some (.ref a_law_cells)
  a_law_heard : Addr
  fd_law_heard : FuncData
  F_law_heard : Fun K "_law_heard" "_law_heard" s_law_heard a_law_heard fd_law_heard
  b_law_heard : Binds K fd_law_heard ["call"] []
  m_law_heard : mg "_law_heard" = some (.ref a_law_heard)
  a_law_odd : Addr
  fd_law_odd : FuncData
  F_law_odd : Fun K "_law_odd" "_law_odd" s_law_odd a_law_odd fd_law_odd
  b_law_odd : Binds K fd_law_odd ["pot"] []
  m_law_odd : mg "_law_odd" = some (.ref a_law_odd)
  a_law_is_int : Addr
  fd_law_is_int : FuncData
  F_law_is_int : Fun K "_law_is_int" "_law_is_int" s_law_is_int a_law_is_int fd_law_is_int
  b_law_is_int : Binds K fd_law_is_int ["value", "low", "high"] []
  m_law_is_int : mg "_law_is_int" = some (.ref a_law_is_int)
  a_law_bent : Addr
  fd_law_bent : FuncData
  F_law_bent : Fun K "_law_bent" "_law_bent" s_law_bent a_law_bent fd_law_bent
  b_law_bent : Binds K fd_law_bent ["pot", "value"] []
  m_law_bent : mg "_law_bent" = some (.ref a_law_bent)
  a_law_is_bool : Addr
  fd_law_is_bool : FuncData
  F_law_is_bool : Fun K "_law_is_bool" "_law_is_bool" s_law_is_bool a_law_is_bool fd_law_is_bool
  b_law_is_bool : Binds K fd_law_is_bool ["told", "due"] []
  m_law_is_bool : mg "_law_is_bool" = some (.ref a_law_is_bool)
  a_law_all_refused : Addr
  fd_law_all_refused : FuncData
  F_law_all_refused : Fun K "_law_all_refused" "_law_all_refused" s_law_all_refused a_law_all_refused fd_law_all_refused
  b_law_all_refused : Binds K fd_law_all_refused ["looks", "is_it", "value"] []
  m_law_all_refused : mg "_law_all_refused" = some (.ref a_law_all_refused)
  a_law_gcd : Addr
  fd_law_gcd : FuncData
  F_law_gcd : Fun K "_law_gcd" "_law_gcd" s_law_gcd a_law_gcd fd_law_gcd
  b_law_gcd : Binds K fd_law_gcd ["one", "other"] []
  m_law_gcd : mg "_law_gcd" = some (.ref a_law_gcd)
  a_law_low : Addr
  fd_law_low : FuncData
  F_law_low : Fun K "_law_low" "_law_low" s_law_low a_law_low fd_law_low
  b_law_low : Binds K fd_law_low ["top", "bottom"] []
  m_law_low : mg "_law_low" = some (.ref a_law_low)
  a_law_less : Addr
  fd_law_less : FuncData
  F_law_less : Fun K "_law_less" "_law_less" s_law_less a_law_less fd_law_less
  b_law_less : Binds K fd_law_less ["one", "other"] []
  m_law_less : mg "_law_less" = some (.ref a_law_less)
  a_law_soonest : Addr
  fd_law_soonest : FuncData
  F_law_soonest : Fun K "_law_soonest" "_law_soonest" s_law_soonest a_law_soonest fd_law_soonest
  b_law_soonest : Binds K fd_law_soonest ["times", "presses"] []
  m_law_soonest : mg "_law_soonest" = some (.ref a_law_soonest)
  a_law_is_tick : Addr
  fd_law_is_tick : FuncData
  F_law_is_tick : Fun K "_law_is_tick" "_law_is_tick" s_law_is_tick a_law_is_tick fd_law_is_tick
  b_law_is_tick : Binds K fd_law_is_tick ["value"] []
  m_law_is_tick : mg "_law_is_tick" = some (.ref a_law_is_tick)
  a_law_are_pieces : Addr
  fd_law_are_pieces : FuncData
  F_law_are_pieces : Fun K "_law_are_pieces" "_law_are_pieces" s_law_are_pieces a_law_are_pieces fd_law_are_pieces
  b_law_are_pieces : Binds K fd_law_are_pieces ["times", "presses", "value"] []
  m_law_are_pieces : mg "_law_are_pieces" = some (.ref a_law_are_pieces)
  a_law_is_right : Addr
  fd_law_is_right : FuncData
  F_law_is_right : Fun K "_law_is_right" "_law_is_right" s_law_is_right a_law_is_right fd_law_is_right
  b_law_is_right : Binds K fd_law_is_right ["pot", "times", "presses"] []
  m_law_is_right : mg "_law_is_right" = some (.ref a_law_is_right)
  a_law_right : Addr
  fd_law_right : FuncData
  F_law_right : Fun K "_law_right" "_law_right" s_law_right a_law_right fd_law_right
  b_law_right : Binds K fd_law_right ["pot"] []
  m_law_right : mg "_law_right" = some (.ref a_law_right)
  c_law_right : Addr
  P_law_right : Addr
  co_law_right : fd_law_right.code = .ref c_law_right
  tb_law_right : LamX.TabB base mg c_law_right P_law_right
  in_law_right : (P_law_right, ("_law_right.<locals>.<lambda>" : Str)) ∈ tabs0
  un_law_right : ∀ p ∈ tabs0, p.1 = P_law_right → p.2 = ("_law_right.<locals>.<lambda>" : Str)
  a_law : Addr
  fd_law : FuncData
  F_law : Fun K "law" "law" s_law a_law fd_law
  b_law : Binds K fd_law ["script"] []
  m_law : mg "law" = some (.ref a_law)
  z_ValueError : mg "ValueError" = none
  z_abs : mg "abs" = none
  z_all : mg "all" = none
  z_bool : mg "bool" = none
  z_enumerate : mg "enumerate" = none
  z_int : mg "int" = none
  z_isinstance : mg "isinstance" = none
  z_len : mg "len" = none
  z_list : mg "list" = none
  z_max : mg "max" = none
  z_min : mg "min" = none
  z_range : mg "range" = none
  z_repr : mg "repr" = none
  z_sorted : mg "sorted" = none
  z_str : mg "str" = none
  z_sum : mg "sum" = none
  z_tuple : mg "tuple" = none
  t_FOUR : Tok
  c_FOUR : mg "FOUR" = some (.int 4 t_FOUR)
  t_MOST_JOBS : Tok
  c_MOST_JOBS : mg "MOST_JOBS" = some (.int 24 t_MOST_JOBS)
  t_MOST_PIECES : Tok
  c_MOST_PIECES : mg "MOST_PIECES" = some (.int 100 t_MOST_PIECES)
  t_MOST_PRESSES : Tok
  c_MOST_PRESSES : mg "MOST_PRESSES" = some (.int 12 t_MOST_PRESSES)
  t_MOST_TIME : Tok
  c_MOST_TIME : mg "MOST_TIME" = some (.int 1000000000000 t_MOST_TIME)
  t_THREE : Tok
  c_THREE : mg "THREE" = some (.int 3 t_THREE)
  g_BindError : mg "BindError" = some (.ref (He.ga K "BindError"))
  ini : InitH PW K mg (He.fAd K atI)
  k2 : ini.K2.In base
  bI : Binds K ini.fn ["self", "value"] []
  tI : PySem.W.typeIn K (.ref (He.fAd K atI)) = some (.type "function")
  e_BadJobs : Err1 K mg "BadJobs"
  e_BadInt : Err1 K mg "BadInt"
  k_parted_presses : KwOk K fd_parted ["times", "presses"] ["presses"]
  k_presses_for_tick : KwOk K fd_presses_for ["times", "tick"] ["tick"]
  k_shows_parted_value : KwOk K fd_shows_parted ["times", "presses", "value"] ["value"]
  k_soonest_presses : KwOk K fd_soonest ["times", "presses"] ["presses"]
def Top.up {K : PySem.W.Frag} {mg : Str → Option Value} {base B : Heap} (T : Top K mg base) (h : ∀ b o, base.get? b = some o → B.get? b = some o) : Top K mg B :=
  { a_is_int := T.a_is_int, fd_is_int := T.fd_is_int, F_is_int := T.F_is_int, b_is_int := T.b_is_int, m_is_int := T.m_is_int, a_is_whole := T.a_is_whole, fd_is_whole := T.fd_is_whole, F_is_whole := T.F_is_whole, b_is_whole := T.b_is_whole, m_is_whole := T.m_is_whole, a_are_ints := T.a_are_ints, fd_are_ints := T.fd_are_ints, F_are_ints := T.F_are_ints, b_are_ints := T.b_are_ints, m_are_ints := T.m_are_ints, a_common_int := T.a_common_int, fd_common_int := T.fd_common_int, F_common_int := T.F_common_int, b_common_int := T.b_common_int, m_common_int := T.m_common_int, a_lowest := T.a_lowest, fd_lowest := T.fd_lowest, F_lowest := T.F_lowest, b_lowest := T.b_lowest, m_lowest := T.m_lowest, a_plus := T.a_plus, fd_plus := T.fd_plus, F_plus := T.F_plus, b_plus := T.b_plus, m_plus := T.m_plus, a_is_below := T.a_is_below, fd_is_below := T.fd_is_below, F_is_below := T.F_is_below, b_is_below := T.b_is_below, m_is_below := T.m_is_below, a_is_tick := T.a_is_tick, fd_is_tick := T.fd_is_tick, F_is_tick := T.F_is_tick, b_is_tick := T.b_is_tick, m_is_tick := T.m_is_tick, a_look_at_times := T.a_look_at_times, fd_look_at_times := T.fd_look_at_times, F_look_at_times := T.F_look_at_times, b_look_at_times := T.b_look_at_times, m_look_at_times := T.m_look_at_times, a_told_soonest := T.a_told_soonest, fd_told_soonest := T.fd_told_soonest, F_told_soonest := T.F_told_soonest, b_told_soonest := T.b_told_soonest, m_told_soonest := T.m_told_soonest, a_soonest := T.a_soonest, fd_soonest := T.fd_soonest, F_soonest := T.F_soonest, b_soonest := T.b_soonest, m_soonest := T.m_soonest, a_parted := T.a_parted, fd_parted := T.fd_parted, F_parted := T.F_parted, b_parted := T.b_parted, m_parted := T.m_parted, a_is_piece := T.a_is_piece, fd_is_piece := T.fd_is_piece, F_is_piece := T.F_is_piece, b_is_piece := T.b_is_piece, m_is_piece := T.m_is_piece, a_do_meet := T.a_do_meet, fd_do_meet := T.fd_do_meet, F_do_meet := T.F_do_meet, b_do_meet := T.b_do_meet, m_do_meet := T.m_do_meet, a_shows_parted := T.a_shows_parted, fd_shows_parted := T.fd_shows_parted, F_shows_parted := T.F_shows_parted, b_shows_parted := T.b_shows_parted, m_shows_parted := T.m_shows_parted, a_presses_for := T.a_presses_for, fd_presses_for := T.fd_presses_for, F_presses_for := T.F_presses_for, b_presses_for := T.b_presses_for, m_presses_for := T.m_presses_for, a_law_pot := T.a_law_pot, fd_law_pot := T.fd_law_pot, F_law_pot := T.F_law_pot, b_law_pot := T.b_law_pot, m_law_pot := T.m_law_pot, a_law_take := T.a_law_take, fd_law_take := T.fd_law_take, F_law_take := T.F_law_take, b_law_take := T.b_law_take, m_law_take := T.m_law_take, a_law_of := T.a_law_of, fd_law_of := T.fd_law_of, F_law_of := T.F_law_of, b_law_of := T.b_law_of, m_law_of := T.m_law_of, a_law_cells := T.a_law_cells, fd_law_cells := T.fd_law_cells, F_law_cells := T.F_law_cells, b_law_cells := T.b_law_cells, m_law_cells := T.m_law_cells, a_law_heard := T.a_law_heard, fd_law_heard := T.fd_law_heard, F_law_heard := T.F_law_heard, b_law_heard := T.b_law_heard, m_law_heard := T.m_law_heard, a_law_odd := T.a_law_odd, fd_law_odd := T.fd_law_odd, F_law_odd := T.F_law_odd, b_law_odd := T.b_law_odd, m_law_odd := T.m_law_odd, a_law_is_int := T.a_law_is_int, fd_law_is_int := T.fd_law_is_int, F_law_is_int := T.F_law_is_int, b_law_is_int := T.b_law_is_int, m_law_is_int := T.m_law_is_int, a_law_bent := T.a_law_bent, fd_law_bent := T.fd_law_bent, F_law_bent := T.F_law_bent, b_law_bent := T.b_law_bent, m_law_bent := T.m_law_bent, a_law_is_bool := T.a_law_is_bool, fd_law_is_bool := T.fd_law_is_bool, F_law_is_bool := T.F_law_is_bool, b_law_is_bool := T.b_law_is_bool, m_law_is_bool := T.m_law_is_bool, a_law_all_refused := T.a_law_all_refused, fd_law_all_refused := T.fd_law_all_refused, F_law_all_refused := T.F_law_all_refused, b_law_all_refused := T.b_law_all_refused, m_law_all_refused := T.m_law_all_refused, a_law_gcd := T.a_law_gcd, fd_law_gcd := T.fd_law_gcd, F_law_gcd := T.F_law_gcd, b_law_gcd := T.b_law_gcd, m_law_gcd := T.m_law_gcd, a_law_low := T.a_law_low, fd_law_low := T.fd_law_low, F_law_low := T.F_law_low, b_law_low := T.b_law_low, m_law_low := T.m_law_low, a_law_less := T.a_law_less, fd_law_less := T.fd_law_less, F_law_less := T.F_law_less, b_law_less := T.b_law_less, m_law_less := T.m_law_less, a_law_soonest := T.a_law_soonest, fd_law_soonest := T.fd_law_soonest, F_law_soonest := T.F_law_soonest, b_law_soonest := T.b_law_soonest, m_law_soonest := T.m_law_soonest, a_law_is_tick := T.a_law_is_tick, fd_law_is_tick := T.fd_law_is_tick, F_law_is_tick := T.F_law_is_tick, b_law_is_tick := T.b_law_is_tick, m_law_is_tick := T.m_law_is_tick, a_law_are_pieces := T.a_law_are_pieces, fd_law_are_pieces := T.fd_law_are_pieces, F_law_are_pieces := T.F_law_are_pieces, b_law_are_pieces := T.b_law_are_pieces, m_law_are_pieces := T.m_law_are_pieces, a_law_is_right := T.a_law_is_right, fd_law_is_right := T.fd_law_is_right, F_law_is_right := T.F_law_is_right, b_law_is_right := T.b_law_is_right, m_law_is_right := T.m_law_is_right, a_law_right := T.a_law_right, fd_law_right := T.fd_law_right, F_law_right := T.F_law_right, b_law_right := T.b_law_right, m_law_right := T.m_law_right, c_law_right := T.c_law_right, P_law_right := T.P_law_right, co_law_right := T.co_law_right, tb_law_right := tabB_up T.tb_law_right h, in_law_right := T.in_law_right, un_law_right := T.un_law_right, a_law := T.a_law, fd_law := T.fd_law, F_law := T.F_law, b_law := T.b_law, m_law := T.m_law, z_ValueError := T.z_ValueError, z_abs := T.z_abs, z_all := T.z_all, z_bool := T.z_bool, z_enumerate := T.z_enumerate, z_int := T.z_int, z_isinstance := T.z_isinstance, z_len := T.z_len, z_list := T.z_list, z_max := T.z_max, z_min := T.z_min, z_range := T.z_range, z_repr := T.z_repr, z_sorted := T.z_sorted, z_str := T.z_str, z_sum := T.z_sum, z_tuple := T.z_tuple, t_FOUR := T.t_FOUR, c_FOUR := T.c_FOUR, t_MOST_JOBS := T.t_MOST_JOBS, c_MOST_JOBS := T.c_MOST_JOBS, t_MOST_PIECES := T.t_MOST_PIECES, c_MOST_PIECES := T.c_MOST_PIECES, t_MOST_PRESSES := T.t_MOST_PRESSES, c_MOST_PRESSES := T.c_MOST_PRESSES, t_MOST_TIME := T.t_MOST_TIME, c_MOST_TIME := T.c_MOST_TIME, t_THREE := T.t_THREE, c_THREE := T.c_THREE, g_BindError := T.g_BindError, ini := T.ini, k2 := fun b o e => h b o (T.k2 b o e), bI := T.bI, tI := T.tI, e_BadJobs := T.e_BadJobs, e_BadInt := T.e_BadInt, k_parted_presses := T.k_parted_presses, k_presses_for_tick := T.k_presses_for_tick, k_shows_parted_value := T.k_shows_parted_value, k_soonest_presses := T.k_soonest_presses }
theorem err1 {K : PySem.W.Frag} {mg : Str → Option Value} {base : Heap} (T : Top K mg base) : ∀ m, errs.contains m = true → Err1 K mg m := errs_all (fun n hn => by
  unfold errs at hn
  simp only [List.mem_cons, List.not_mem_nil, or_false] at hn
  rcases hn with rfl | rfl <;> first | exact T.e_BadJobs | exact T.e_BadInt)
theorem errF {K : PySem.W.Frag} {mg : Str → Option Value} {base : Heap} (T : Top K mg base) : ∀ m, errs.contains m = true → ErrF K m := fun m h => (err1 T m h).f
theorem errX {K : PySem.W.Frag} {mg : Str → Option Value} {base : Heap} (T : Top K mg base) : ∀ m, errs.contains m = true → PySem.W.exmOne K (.ref (He.ga K m)) (.ref (He.ga K "BindError")) = some true := fun m h => (err1 T m h).x
end Law67

set_option maxHeartbeats 4000000
namespace Law67
open PySem PySem.Spec PyProof.Rows L2 L3
theorem p_law_take : ∀ ds c Q, m_law_take ds c Q → runM 5 g_law_take ds c Q := by
  intro ds c Q h
  unfold m_law_take at h
  split at h
  · rename_i n
    obtain ⟨⟨h1, h2, h3⟩, h⟩ := h
    have hq : ∀ i : Int, Q (.int (i % n)) (c + 1) := fun i => h _ (Int.emod_nonneg _ (by omega)) (Int.emod_lt_of_pos _ h1)
    simp [runM, g_law_take, start3]
    intro x hx
    split
    · exact fun x' hx' => ⟨h1, fun y hy => ⟨⟨h1, h2⟩, Int.ediv_nonneg hy (by omega), hq _⟩⟩
    · intro z z0 z1
      refine ⟨by omega, z1, fun z2 y0 y1 => ?_⟩
      obtain ⟨p, e, p0, p1⟩ := L3.five_at z2 y0 (a := 2147483647) (b := 2147483629) (c := 2147483587) (d := 2147483579) (e := 2147483563) (by decide) (by decide)
      rw [e]
      simp
      intro y a0 a1 z3 b0 b1
      refine ⟨.inl ⟨by decide, by decide⟩, fun z4 c0 c1 => ?_⟩
      have hz : z3 * z4 ≤ 1000000 * 1000000 := Int.mul_le_mul (by omega) (by omega) c0 (by decide)
      have hz0 : 0 ≤ z3 * z4 := Int.mul_nonneg b0 c0
      have hz1 : 95257 * z3 * z4 = 95257 * (z3 * z4) := Int.mul_assoc _ _ _
      refine ⟨.inr ⟨by omega, by omega⟩, .inl ?_, p0, ?_⟩
      · rw [hz1]
        generalize z3 * z4 = t at hz hz0
        omega
      · generalize (y + 95257 * z3 * z4 + 3163) ^ 3 = v
        have v0 := Int.emod_nonneg v (show p ≠ 0 by omega)
        have v1 := Int.emod_lt_of_pos v p0
        generalize v % p = u at v0 v1
        exact fun z5 d0 d1 => ⟨.inl ⟨by decide, by decide⟩, .inl ⟨by omega, by omega⟩, h1, hq _⟩
  · exact h.elim
theorem S_take {n : Int} {c : Nat} {Q : KD} (h0 : 0 < n) (h1 : n < 1073741824) (hc : c < 1000000) (q : ∀ d, 0 ≤ d → d < n → Q (.int d) (c + 1)) : m_law_take [.pot, .int n] c Q := ⟨⟨h0, h1, hc⟩, q⟩
theorem S_is_int {d : D} {lo hi : Int} {c : Nat} {Q : KD} (h : (L3.tyName d).isSome = true) (q : Q (.bl (L3.isIntB lo hi d)) c) : m_is_int [d, .int lo, .int hi] c Q := by
  refine ⟨rfl, ?_⟩
  cases d with
  | int v =>
    simp [runM, g_is_int, start3]
    refine ⟨rfl, ?_⟩
    have e : L3.isIntB lo hi (.int v) = if lo ≤ v then decide (v ≤ hi) else false := by
      show decide (lo ≤ v ∧ v ≤ hi) = _
      by_cases h : lo ≤ v <;> simp [h]
    rw [e] at q
    split
    · rename_i z
      rw [if_pos z] at q
      exact q
    · rename_i z
      rw [if_neg z] at q
      exact q
  | bl b => simp [runM, g_is_int, start3]; exact ⟨rfl, q⟩
  | non => simp [runM, g_is_int, start3]; exact ⟨rfl, q⟩
  | str s => simp [runM, g_is_int, start3]; exact ⟨rfl, q⟩
  | tup l => simp [runM, g_is_int, start3]; exact ⟨rfl, q⟩
  | lst l => simp [runM, g_is_int, start3]; exact ⟨rfl, q⟩
  | ty n => cases h
  | rf a => cases h
  | pot => cases h
  | exc n d => cases h
  | clo a o => cases h
  | dic l => simp [runM, g_is_int, start3]; exact ⟨rfl, q⟩
  | dct ks l =>
    cases ks with
    | k _ => simp [runM, g_is_int, start3]; exact ⟨rfl, q⟩
    | t _ => cases h
  | scr l => cases h
  | lam a F0 p => cases h
theorem S_int_ok {v lo hi : Int} {c : Nat} {Q : KD} (h1 : lo ≤ v) (h2 : v ≤ hi) (q : Q (.bl true) c) : m_is_int [.int v, .int lo, .int hi] c Q :=
  S_is_int rfl (by rw [show L3.isIntB lo hi (.int v) = true from decide_eq_true ⟨h1, h2⟩]; exact q)
theorem S_are_ints {d : D} {lo hi : Int} {c : Nat} {Q : KD} (h : L3.tyAll d = true) (q : Q (.bl (L3.areIntsB lo hi d)) c) : m_are_ints [d, .int lo, .int hi] c Q := by
  refine ⟨rfl, ?_⟩
  cases d with
  | tup l =>
    simp [runM, g_are_ints, start3, -compL]
    refine ⟨rfl, comp_map (fun d => .bl (L3.isIntB lo hi d)) _ _ (fun d hd K hK => ?_) ?_⟩
    · simp
      exact S_is_int (List.all_eq_true.mp h d hd) hK
    · rw [L3.bls_map]
      simp
      rw [show (l.all fun d => L3.isIntB lo hi d) = L3.areIntsB lo hi (.tup l) from rfl]
      exact q
  | int v => simp [runM, g_are_ints, start3]; exact ⟨rfl, q⟩
  | bl b => simp [runM, g_are_ints, start3]; exact ⟨rfl, q⟩
  | non => simp [runM, g_are_ints, start3]; exact ⟨rfl, q⟩
  | str s => simp [runM, g_are_ints, start3]; exact ⟨rfl, q⟩
  | lst l => simp [runM, g_are_ints, start3]; exact ⟨rfl, q⟩
  | ty n => cases h
  | rf a => cases h
  | pot => cases h
  | exc n d => cases h
  | clo a o => cases h
  | dic l => simp [runM, g_are_ints, start3]; exact ⟨rfl, q⟩
  | dct ks l =>
    cases ks with
    | k _ => simp [runM, g_are_ints, start3]; exact ⟨rfl, q⟩
    | t _ => cases h
  | scr l => cases h
  | lam a F0 p => cases h
theorem S_ints_ok {vs : List Int} {lo hi : Int} {c : Nat} {Q : KD} (h : ∀ v ∈ vs, lo ≤ v ∧ v ≤ hi) (q : Q (.bl true) c) : m_are_ints [.tup (vs.map .int), .int lo, .int hi] c Q :=
  S_are_ints (L3.tyAll_ints vs) (by rw [L3.areInts_ok h]; exact q)
theorem S_ints_nat {vs : List Nat} {lo hi : Int} {c : Nat} {Q : KD} (h : ∀ v ∈ vs, lo ≤ (v : Int) ∧ (v : Int) ≤ hi) (q : Q (.bl true) c) : m_are_ints [.tup (vs.map nD), .int lo, .int hi] c Q := by
  rw [L3.map_nD]
  exact S_ints_ok (fun v hv => by obtain ⟨n, hn, rfl⟩ := List.mem_map.mp hv; exact h n hn) q
theorem S_law_of {l : List D} {c : Nat} {Q : KD} (h0 : 0 < l.length) (h1 : l.length < 1000000) (hc : c < 1000000) (q : ∀ d ∈ l, Q d (c + 1)) : m_law_of [.pot, .lst l] c Q := by
  refine ⟨rfl, ?_⟩
  simp [runM, g_law_of, start3]
  refine S_take (by omega) (by omega) hc fun d d0 d1 => ?_
  simp
  obtain ⟨n, rfl⟩ := Int.eq_ofNat_of_zero_le d0
  have hn : n < l.length := by omega
  rw [atI_nat (List.getElem?_eq_getElem hn)]
  exact q _ (List.getElem_mem hn)
theorem S_law_ofT {l : List D} {c : Nat} {Q : KD} (h0 : 0 < l.length) (h1 : l.length < 1000000) (hc : c < 1000000) (q : ∀ d ∈ l, Q d (c + 1)) : m_law_of [.pot, .tup l] c Q := by
  refine ⟨rfl, ?_⟩
  simp [runM, g_law_of, start3]
  refine S_take (by omega) (by omega) hc fun d d0 d1 => ?_
  simp
  obtain ⟨n, rfl⟩ := Int.eq_ofNat_of_zero_le d0
  have hn : n < l.length := by omega
  rw [atI_nat (List.getElem?_eq_getElem hn)]
  exact q _ (List.getElem_mem hn)
theorem S_cells {ns : List Int} {c : Nat} {k : Int} {Q : KD} (hk : 0 < k) (hk1 : k ≤ 63) (hl : ns.length ≤ 63) (q : ∀ n : Nat, 0 < n → (n : Int) ≤ k → Q (.lst (rangeL 0 n)) c) : m_law_cells [.scr ns, .int k] c Q := by
  refine ⟨rfl, ?_⟩
  simp [runM, g_law_cells, start3]
  generalize hj : (if 1 < if (ns.length : Int) < k then (ns.length : Int) else k then if (ns.length : Int) < k then (ns.length : Int) else k else 1) = j
  have k0 : 0 < j ∧ j ≤ k := by
    subst hj
    split <;> split <;> omega
  exact ⟨⟨by omega, by omega⟩, q _ (by omega) (by omega)⟩
theorem S_pot {ns : List Int} {a : Int} {c : Nat} {Q : List D → Nat → Prop} (a0 : 0 ≤ a) (a1 : a ≤ 63) (q : ∀ x y : Int, 0 ≤ x → 0 ≤ y → y < 2 ^ 61 → Q [.int x, .int y, .int 0] c) : m_law_pot [.scr ns, .int a] c Q := by
  refine ⟨rfl, ?_⟩
  simp [g_law_pot, start3]
  have okS : ∀ {x y : Int}, 0 ≤ x → x ≤ 100000000 → L3.MulOk x y := fun h0 h1 => .inl ⟨by omega, by omega⟩
  have fin : ∀ m v w : Int, 0 < m → (w = 0 ∨ w = 1) → L3.MulOk (v % m) w ∧ 0 ≤ v % m * w := fun m v w hm hw => by
    refine ⟨?_, ?_⟩
    · rcases hw with rfl | rfl
      · exact .inr ⟨by decide, by decide⟩
      · exact .inr ⟨by decide, by decide⟩
    · refine Int.mul_nonneg (Int.emod_nonneg _ (by omega)) ?_
      rcases hw with rfl | rfl <;> decide
  have one : ∀ p : Prop, [Decidable p] → ((if p then 1 else 0 : Int) = 0 ∨ (if p then 1 else 0 : Int) = 1) := fun p _ => by
    by_cases h : p
    · rw [if_pos h]; exact .inr rfl
    · rw [if_neg h]; exact .inl rfl
  by_cases z : a < ns.length
  · rw [if_pos z]
    obtain ⟨n, rfl⟩ := Int.eq_ofNat_of_zero_le a0
    have hn : n < ns.length := by omega
    rw [atI_nat (List.getElem?_eq_getElem hn)]
    exact ⟨(fin _ _ _ (by decide) (one _)).1, .inr ⟨by decide, by decide⟩, okS (by decide) (by decide), .inr ⟨by omega, by omega⟩, q _ _ (fin _ _ _ (by decide) (one _)).2 (Int.emod_nonneg _ (by decide)) (Int.lt_trans (Int.emod_lt_of_pos _ (by decide)) (by decide))⟩
  · rw [if_neg z, L3.cut_one, L3.ints_of]
    exact ⟨okS (by decide) (by decide), (fin _ _ _ (by decide) (one _)).1, .inr ⟨by decide, by decide⟩, okS (by decide) (by decide), .inr ⟨by omega, by omega⟩, q _ _ (fin _ _ _ (by decide) (one _)).2 (Int.emod_nonneg _ (by decide)) (Int.lt_trans (Int.emod_lt_of_pos _ (by decide)) (by decide))⟩
/-- the whole of law's last row, given one pot's -/
theorem S_all {ns : List Int} {k : Int} {c : Nat} {ρ : Rho} {v : Nat} {Q : KD} (right : ∀ Q : KD, (∀ c', Q (.bl true) c') → m_law_right [.pot] 0 Q) (hk : 0 < k) (hk1 : k ≤ 63) (hl : ns.length ≤ 63) (hv : v < ρ.length) (h0 : get3 ρ 0 = some (.scr ns)) (hv0 : v ≠ 0) (q : Q (.bl true) c) :
    eB allM (aCons (eComp (iSeq (eCall m_law_cells (aCons (eVar 0) (aCons (eC (.int k)) aNil)))) (gN v) tYes3 (ePotCall m_law_pot m_law_right (aCons (eVar 0) (aCons (eVar v) aNil))) [v]) aNil) ρ c Q := by
  simp [h0, -compL]
  refine S_cells hk hk1 hl fun n n0 hn => ?_
  simp [-compL]
  refine comp_map (fun _ => .bl true) _ _ (fun d hd K hK => ?_) ?_
  · obtain ⟨j, hj, rfl⟩ := List.mem_map.mp hd
    have hj := List.mem_range.mp hj
    simp
    rw [L3.vA_upS, L3.get3_set_ne _ hv0, h0, L3.get3_set_eq hv]
    simp
    refine S_pot (by omega) (by omega) fun x y x0 y0 y1 => ⟨x, y, rfl, x0, y0, y1, right _ fun _ => ⟨rfl, hK⟩⟩
  · rw [bls_true]
    show Q (.bl ((rangeL 0 n |>.map fun _ => true).all id)) c
    rw [all_true]
    exact q
end Law67

namespace Dues
abbrev J := Int × Int
/-- what is due by a tick -/
def due (d : Int) : List J → Int
  | [] => 0
  | y :: l => (if y.2 ≤ d then y.1 else 0) + due d l
/-- all can be in time -/
def Feas (l : List J) : Prop := ∀ x ∈ l, due x.2 l ≤ x.2
def Ok (l : List J) : Prop := ∀ x ∈ l, 0 ≤ x.1 ∧ 0 ≤ x.2
/-- in this very sequence, from a tick on -/
def PF : Int → List J → Prop
  | _, [] => True
  | c, x :: l => c + x.1 ≤ x.2 ∧ PF (c + x.1) l
theorem due_nn {d : Int} : ∀ {l : List J}, Ok l → 0 ≤ due d l
  | [], _ => Int.le_refl _
  | y :: l, h => by
    have a := due_nn (d := d) (l := l) fun x hx => h x (List.mem_cons_of_mem _ hx)
    have b := h y (List.mem_cons_self ..)
    show 0 ≤ (if y.2 ≤ d then y.1 else 0) + due d l
    split <;> omega
theorem due_none {d : Int} : ∀ {l : List J}, (∀ y ∈ l, d < y.2) → due d l = 0
  | [], _ => rfl
  | y :: l, h => by
    show (if y.2 ≤ d then y.1 else 0) + due d l = 0
    rw [due_none fun x hx => h x (List.mem_cons_of_mem _ hx), if_neg (by have := h y (List.mem_cons_self ..); omega)]
    rfl
theorem due_perm {d : Int} {l m : List J} (p : l.Perm m) : due d l = due d m := by
  induction p with
  | nil => rfl
  | cons x _ ih => show _ + _ = _ + _; rw [ih]
  | swap x y l => show _ + (_ + _) = _ + (_ + _); omega
  | trans _ _ a b => exact a.trans b
theorem Feas.perm {l m : List J} (h : Feas l) (p : l.Perm m) : Feas m := fun x hx => by
  rw [← due_perm p]
  exact h x (p.mem_iff.mpr hx)
theorem Ok.perm {l m : List J} (h : Ok l) (p : l.Perm m) : Ok m := fun x hx => h x (p.mem_iff.mpr hx)
theorem pf_iff : ∀ {l : List J} {c : Int}, Ok l → l.Pairwise (fun x y => x.2 ≤ y.2) → (PF c l ↔ ∀ x ∈ l, c + due x.2 l ≤ x.2)
  | [], c, _, _ => ⟨fun _ x h => absurd h List.not_mem_nil, fun _ => trivial⟩
  | x :: l, c, ok, s => by
    obtain ⟨s1, s2⟩ := List.pairwise_cons.mp s
    have ok2 : Ok l := fun y hy => ok y (List.mem_cons_of_mem _ hy)
    have ih := pf_iff (c := c + x.1) ok2 s2
    have dx : ∀ y ∈ l, due y.2 (x :: l) = x.1 + due y.2 l := fun y hy => by
      show (if x.2 ≤ y.2 then x.1 else 0) + due y.2 l = _
      rw [if_pos (s1 y hy)]
    have dxx : due x.2 (x :: l) = x.1 + due x.2 l := by
      show (if x.2 ≤ x.2 then x.1 else 0) + due x.2 l = _
      rw [if_pos (Int.le_refl _)]
    constructor
    · rintro ⟨h1, h2⟩ y hy
      rcases List.mem_cons.mp hy with rfl | hy
      · rw [dxx]
        by_cases e : ∃ z ∈ l, z.2 = y.2
        · obtain ⟨z, hz, ez⟩ := e
          have := (ih.mp h2) z hz
          rw [ez] at this
          omega
        · rw [due_none fun z hz => by
            have := s1 z hz
            have : z.2 ≠ y.2 := fun q => e ⟨z, hz, q⟩
            omega]
          omega
      · rw [dx y hy]
        have := (ih.mp h2) y hy
        omega
    · intro h
      have h0 := h x (List.mem_cons_self ..)
      rw [dxx] at h0
      have nn := due_nn (d := x.2) ok2
      refine ⟨by omega, ih.mpr fun y hy => ?_⟩
      have := h y (List.mem_cons_of_mem _ hy)
      rw [dx y hy] at this
      omega
theorem feas_pf {l m : List J} (ok : Ok l) (p : l.Perm m) (s : m.Pairwise fun x y => x.2 ≤ y.2) : PF 0 m ↔ Feas l := by
  rw [pf_iff (ok.perm p) s]
  constructor
  · intro h x hx
    have := h x (p.mem_iff.mp hx)
    rw [Int.zero_add, ← due_perm p] at this
    exact this
  · intro h x hx
    rw [Int.zero_add, ← due_perm p]
    exact h x (p.mem_iff.mpr hx)
/-! ### in index form -/
section
variable (t d : Nat → Int)
def f (i : Nat) : J := (t i, d i)
def sumT (l : List Nat) : Int := (l.map t).sum
end
variable {t d : Nat → Int}
theorem sumT_cons (x : Nat) (l : List Nat) : sumT t (x :: l) = t x + sumT t l := rfl
theorem sumT_app (l m : List Nat) : sumT t (l ++ m) = sumT t l + sumT t m := by
  unfold sumT
  rw [List.map_append, List.sum_append]
theorem sumT_perm {l m : List Nat} (p : l.Perm m) : sumT t l = sumT t m := by
  induction p with
  | nil => rfl
  | cons x _ ih => rw [sumT_cons, sumT_cons, ih]
  | swap x y l => simp only [sumT_cons]; omega
  | trans _ _ a b => exact a.trans b
abbrev PI (t d : Nat → Int) (c : Int) (l : List Nat) : Prop := PF c (l.map (f t d))
theorem pi_app {l m : List Nat} : ∀ {c : Int}, PI t d c (l ++ m) ↔ PI t d c l ∧ PI t d (c + sumT t l) m := by
  induction l with
  | nil =>
    intro c
    rw [show c + sumT t [] = c from Int.add_zero _]
    exact ⟨fun h => ⟨trivial, h⟩, fun h => h.2⟩
  | cons x l ih =>
    intro c
    have e : c + sumT t (x :: l) = c + t x + sumT t l := by rw [sumT_cons]; omega
    rw [e]
    constructor
    · rintro ⟨h1, h2⟩
      have := (ih (c := c + t x)).mp h2
      exact ⟨⟨h1, this.1⟩, this.2⟩
    · rintro ⟨⟨h1, h2⟩, h3⟩
      exact ⟨h1, (ih (c := c + t x)).mpr ⟨h2, h3⟩⟩
theorem pi_less {l : List Nat} : ∀ {c c' : Int}, PI t d c l → c' ≤ c → PI t d c' l := by
  induction l with
  | nil => intros; trivial
  | cons x l ih =>
    rintro c c' ⟨h1, h2⟩ hc
    refine ⟨by show c' + t x ≤ d x; have : c + t x ≤ d x := h1; omega, ih h2 (by show c' + t x ≤ c + t x; omega)⟩
theorem sumT_nn (ht : ∀ i, 0 ≤ t i) (l : List Nat) : 0 ≤ sumT t l := by
  induction l with
  | nil => exact Int.le_refl _
  | cons x l ih =>
    rw [sumT_cons]
    have := ht x
    omega
/-- what has been kept, put off of the jobs so far -/
structure Inv (t d : Nat → Int) (u K G : List Nat) : Prop where
  perm : (K ++ G).Perm u
  sub : K.Sublist u
  pf : PI t d 0 K
  best : ∀ S : List Nat, S.Sublist u → PI t d 0 S → ∃ T R, (T ++ R).Perm K ∧ T.length = S.length ∧ sumT t T ≤ sumT t S
theorem Inv.nil : Inv t d [] [] [] := ⟨.nil, .slnil, trivial, fun S h _ => by
  rw [List.sublist_nil.mp h]
  exact ⟨[], [], .nil, rfl, Int.le_refl _⟩⟩
theorem sub_snoc {S u : List Nat} {x : Nat} (h : S.Sublist (u ++ [x])) : S.Sublist u ∨ ∃ S', S = S' ++ [x] ∧ S'.Sublist u := by
  obtain ⟨S1, S2, rfl, h1, h2⟩ := List.sublist_append_iff.mp h
  cases S2 with
  | nil => rw [List.append_nil]; exact .inl h1
  | cons y r =>
    have hr : r = [] := by
      have := h2.length_le
      cases r with
      | nil => rfl
      | cons z r => simp at this
    subst hr
    have : y = x := by
      have := h2.subset (List.mem_cons_self ..)
      simpa using this
    subst this
    exact .inr ⟨S1, rfl, h1⟩
theorem Inv.pick {u K G : List Nat} {x : Nat} (h : Inv t d u K G) {S : List Nat} (hs : S.Sublist (u ++ [x])) (hp : PI t d 0 S) :
    ∃ T R, (T ++ R).Perm (K ++ [x]) ∧ T.length = S.length ∧ sumT t T ≤ sumT t S ∧ (x ∈ R ∨ sumT t S ≤ d x) := by
  rcases sub_snoc hs with hs | ⟨S', rfl, hs'⟩
  · obtain ⟨T, R, p, l, s⟩ := h.best S hs hp
    refine ⟨T, R ++ [x], ?_, l, s, .inl (by simp)⟩
    rw [← List.append_assoc]
    exact p.append_right [x]
  · obtain ⟨p1, p2⟩ := pi_app.mp hp
    obtain ⟨T, R, p, l, s⟩ := h.best S' hs' p1
    refine ⟨T ++ [x], R, ?_, by rw [List.length_append, List.length_append, l], by rw [sumT_app, sumT_app]; omega, .inr ?_⟩
    · have : (T ++ [x] ++ R).Perm (T ++ R ++ [x]) := by
        rw [List.append_assoc, List.append_assoc]
        exact List.perm_append_comm.append_left T
      exact this.trans (p.append_right [x])
    · have : 0 + sumT t S' + t x ≤ d x := p2.1
      rw [sumT_app, sumT_cons]
      have e : sumT t [] = 0 := rfl
      omega
theorem Inv.keep {u K G : List Nat} {x : Nat} (h : Inv t d u K G) (hx : sumT t K + t x ≤ d x) : Inv t d (u ++ [x]) (K ++ [x]) G := by
  refine ⟨?_, h.sub.append (List.Sublist.refl _), pi_app.mpr ⟨h.pf, by show 0 + sumT t K + t x ≤ d x; omega, trivial⟩, fun S hs hp => ?_⟩
  · have : (K ++ [x] ++ G).Perm (K ++ G ++ [x]) := by
      rw [List.append_assoc, List.append_assoc]
      exact List.perm_append_comm.append_left K
    exact this.trans (h.perm.append_right [x])
  · obtain ⟨T, R, p, l, s, _⟩ := h.pick hs hp
    exact ⟨T, R, p, l, s⟩
/-- one is late: the longest one is put off -/
theorem Inv.drop {u K G K' : List Nat} {x g : Nat} (h : Inv t d u K G) (ht : ∀ i, 0 ≤ t i) (hd : ∀ i, 0 ≤ d i) (hs : ∀ y ∈ K, d y ≤ d x) (hx : d x < sumT t K + t x) (hg : ∀ y ∈ K ++ [x], t y ≤ t g)
    (hK : ∃ A B, K ++ [x] = A ++ g :: B ∧ K' = A ++ B) : Inv t d (u ++ [x]) K' (G ++ [g]) := by
  obtain ⟨A, B, e1, rfl⟩ := hK
  have pK : (g :: (A ++ B)).Perm (K ++ [x]) := by
    rw [e1]
    exact List.perm_middle.symm
  have subK : (A ++ B).Sublist (K ++ [x]) := by
    rw [e1]
    exact (List.Sublist.refl A).append (List.sublist_cons_self g B)
  refine ⟨?_, subK.trans (h.sub.append (List.Sublist.refl _)), ?_, fun S hS hp => ?_⟩
  · have p1 : (A ++ B ++ (G ++ [g])).Perm (g :: (A ++ B) ++ G) := by
      rw [← List.append_assoc]
      exact List.perm_append_comm
    have p2 : (g :: (A ++ B) ++ G).Perm (K ++ [x] ++ G) := pK.append_right G
    have p3 : (K ++ [x] ++ G).Perm (K ++ G ++ [x]) := by
      rw [List.append_assoc, List.append_assoc]
      exact List.perm_append_comm.append_left K
    exact p1.trans (p2.trans (p3.trans (h.perm.append_right [x])))
  · -- what is kept is in time
    rcases List.eq_nil_or_concat B with rfl | ⟨B', z, rfl⟩
    · have e : K = A ∧ [x] = [g] := List.append_inj' e1 rfl
      rw [List.append_nil, ← e.1]
      exact h.pf
    · have e2 : K ++ [x] = (A ++ g :: B') ++ [z] := by rw [e1]; simp
      have e : K = A ++ g :: B' ∧ [x] = [z] := List.append_inj' e2 rfl
      obtain ⟨eK, ez⟩ := e
      cases ez
      have pfK := h.pf
      rw [eK] at pfK
      obtain ⟨q1, q2⟩ := pi_app.mp pfK
      have q3 : PI t d (0 + sumT t A + t g) B' := q2.2
      have hgx : t x ≤ t g := hg x (by simp)
      have hgn := ht g
      have sK : sumT t K = sumT t A + (t g + sumT t B') := by rw [eK, sumT_app, sumT_cons]
      -- all that was kept is done by the last one's due
      have hle : sumT t K ≤ d x := by
        have hne : K ≠ [] := by rw [eK]; simp
        rcases List.eq_nil_or_concat K with h0 | ⟨K0, y, h0⟩
        · exact absurd h0 hne
        · have hy := hs y (by rw [h0]; simp)
          have pf2 := h.pf
          rw [h0, List.concat_eq_append] at pf2
          have := (pi_app.mp pf2).2.1
          have this : 0 + sumT t K0 + t y ≤ d y := this
          rw [h0, List.concat_eq_append, sumT_app, sumT_cons]
          have e0 : sumT t [] = 0 := rfl
          omega
      rw [List.concat_eq_append, ← List.append_assoc]
      refine pi_app.mpr ⟨pi_app.mpr ⟨q1, pi_less q3 (by omega)⟩, ?_, trivial⟩
      show 0 + sumT t (A ++ B') + t x ≤ d x
      rw [sumT_app]
      omega
  · obtain ⟨T, R, p, l, s, hxR⟩ := h.pick hS hp
    have sKx : sumT t (K ++ [x]) = sumT t K + t x := by
      rw [sumT_app, sumT_cons]
      have e0 : sumT t [] = 0 := rfl
      omega
    have hR : R ≠ [] := fun hR => by
      subst hR
      rcases hxR with hxR | hxR
      · cases hxR
      · rw [List.append_nil] at p
        have := sumT_perm (t := t) p
        omega
    by_cases hgR : g ∈ R
    · obtain ⟨R1, R2, rfl⟩ := List.append_of_mem hgR
      refine ⟨T, R1 ++ R2, ?_, l, s⟩
      have p2 : (g :: (T ++ (R1 ++ R2))).Perm (T ++ (R1 ++ g :: R2)) := by
        refine List.Perm.trans ?_ (List.perm_middle.symm.append_left T)
        exact List.perm_middle.symm
      exact (p2.trans (p.trans pK.symm)).cons_inv
    · have hgT : g ∈ T := by
        have := p.mem_iff.mpr (pK.mem_iff.mp (List.mem_cons_self ..))
        rcases List.mem_append.mp this with h | h
        · exact h
        · exact absurd h hgR
      obtain ⟨T1, T2, rfl⟩ := List.append_of_mem hgT
      obtain ⟨r, R1, rfl⟩ := List.exists_cons_of_ne_nil hR
      have hr : t r ≤ t g := hg r (p.mem_iff.mp (by simp))
      refine ⟨r :: (T1 ++ T2), R1, ?_, ?_, ?_⟩
      · have p2 : (g :: (r :: (T1 ++ T2) ++ R1)).Perm (T1 ++ g :: T2 ++ r :: R1) := by
          refine List.Perm.trans ?_ (List.perm_middle (l₁ := T1 ++ g :: T2) (a := r) (l₂ := R1)).symm
          refine (List.Perm.swap r g _).trans (List.Perm.cons r ?_)
          exact (List.perm_middle (l₁ := T1) (a := g) (l₂ := T2)).symm.append_right R1
        exact (p2.trans (p.trans pK.symm)).cons_inv
      · rw [← l]
        simp
        omega
      · rw [sumT_cons, sumT_app]
        rw [sumT_app, sumT_cons] at s
        omega
/-! ### order-free -/
theorem perm_map_inv {α β : Type} {g : α → β} {x m : List β} (p : x.Perm m) : ∀ l : List α, x = l.map g → ∃ l', l.Perm l' ∧ l'.map g = m := by
  induction p with
  | nil =>
    intro l e
    exact ⟨l, .refl _, e.symm⟩
  | cons y _ ih =>
    intro l e
    cases l with
    | nil => cases e
    | cons a l =>
      obtain ⟨e1, e2⟩ := List.cons.inj e
      obtain ⟨l', p, e3⟩ := ih l e2
      exact ⟨a :: l', p.cons a, by rw [List.map_cons, e3, e1]⟩
  | swap y z r =>
    intro l e
    match l, e with
    | a :: b :: l, e =>
      obtain ⟨e1, e⟩ := List.cons.inj e
      obtain ⟨e2, e3⟩ := List.cons.inj e
      exact ⟨b :: a :: l, .swap b a l, by rw [List.map_cons, List.map_cons, ← e1, ← e2, e3]⟩
    | [], e => cases e
    | [a], e => cases e
  | trans _ _ h1 h2 =>
    intro l e
    obtain ⟨l1, p1, e1⟩ := h1 l e
    obtain ⟨l2, p2, e2⟩ := h2 l1 e1.symm
    exact ⟨l2, p1.trans p2, e2⟩
/-- k jobs of D can be in time together, no more -/
structure Max (D : List J) (k : Nat) : Prop where
  ex : ∃ S R, (S ++ R).Perm D ∧ Feas S ∧ S.length = k
  le : ∀ S R, (S ++ R).Perm D → Feas S → S.length ≤ k
theorem Max.eq {D : List J} {k m : Nat} (h : Max D k) (h' : Max D m) : k = m := by
  obtain ⟨S, R, p, f, e⟩ := h.ex
  obtain ⟨S', R', p', f', e'⟩ := h'.ex
  have a := h.le _ _ p' f'
  have b := h'.le _ _ p f
  omega
theorem Inv.max {D : List J} {e K G : List Nat} (ok : Ok D) (he : e.Perm (List.range D.length)) (hf : D = (List.range D.length).map (f t d)) (hs : e.Pairwise fun a b => d a ≤ d b) (h : Inv t d e K G) : Max D K.length ∧ Feas (K.map (f t d)) := by
  have pD : (e.map (f t d)).Perm D := by
    have := he.map (f t d)
    rw [← hf] at this
    exact this
  have okm : ∀ {l : List Nat}, l.Sublist e → Ok (l.map (f t d)) := fun {l} hl x hx => by
    obtain ⟨i, hi, rfl⟩ := List.mem_map.mp hx
    exact ok _ (pD.mem_iff.mp (List.mem_map_of_mem (hl.subset hi)))
  have pwm : ∀ {l : List Nat}, l.Sublist e → (l.map (f t d)).Pairwise fun x y => x.2 ≤ y.2 := fun {l} hl => by
    rw [List.pairwise_map]
    exact hs.sublist hl
  have fK : Feas (K.map (f t d)) := (feas_pf (okm h.sub) (.refl _) (pwm h.sub)).mp h.pf
  refine ⟨⟨⟨K.map (f t d), G.map (f t d), ?_, fK, List.length_map _⟩, fun S R p fS => ?_⟩, fK⟩
  · rw [← List.map_append]
    exact (h.perm.map (f t d)).trans pD
  · have p2 : (e.map (f t d)).Perm (S ++ R) := pD.trans p.symm
    obtain ⟨l', q, el⟩ := perm_map_inv p2 e rfl
    obtain ⟨a, b, rfl, ea, eb⟩ := List.map_eq_append_iff.mp el
    have nd : (a ++ b).Nodup := (q.trans (.refl _)).nodup_iff.mp (he.nodup_iff.mpr List.nodup_range)
    have nde : e.Nodup := he.nodup_iff.mpr List.nodup_range
    have ha : (e.filter fun i => decide (i ∈ a)).Perm a := by
      refine (List.perm_ext_iff_of_nodup (nde.filter _) (List.nodup_append.mp nd).1).mpr fun i => ?_
      rw [List.mem_filter, decide_eq_true_iff]
      exact ⟨fun z => z.2, fun z => ⟨q.mem_iff.mpr (List.mem_append_left _ z), z⟩⟩
    have sub : (e.filter fun i => decide (i ∈ a)).Sublist e := List.filter_sublist
    have pS : ((e.filter fun i => decide (i ∈ a)).map (f t d)).Perm S := by
      rw [← ea]
      exact ha.map _
    have pf : PI t d 0 (e.filter fun i => decide (i ∈ a)) := (feas_pf (okm sub) (.refl _) (pwm sub)).mpr (fS.perm pS.symm)
    obtain ⟨T, R', pT, lT, _⟩ := h.best _ sub pf
    have e1 := pT.length_eq
    have e2 := pS.length_eq
    rw [List.length_append] at e1
    rw [List.length_map] at e2
    omega
/-! ### what the law asks of it -/
theorem due_shift {by_ d : Int} : ∀ l : List J, due (d + by_) (l.map fun x => (x.1, x.2 + by_)) = due d l
  | [] => rfl
  | x :: l => by
    show (if x.2 + by_ ≤ d + by_ then x.1 else 0) + due (d + by_) _ = (if x.2 ≤ d then x.1 else 0) + due d l
    rw [due_shift l]
    by_cases h : x.2 ≤ d
    · rw [if_pos h, if_pos (by omega)]
    · rw [if_neg h, if_neg (by omega)]
theorem Feas.shift {by_ : Int} (hb : 0 ≤ by_) {S : List J} (h : Feas S) : Feas (S.map fun x => (x.1, x.2 + by_)) := fun x hx => by
  obtain ⟨y, hy, rfl⟩ := List.mem_map.mp hx
  rw [due_shift]
  have := h y hy
  show due y.2 S ≤ y.2 + by_
  omega
theorem Max.shift {by_ : Int} (hb : 0 ≤ by_) {D : List J} {k m : Nat} (h : Max D k) (h' : Max (D.map fun x => (x.1, x.2 + by_)) m) : k ≤ m := by
  obtain ⟨S, R, p, fS, e⟩ := h.ex
  have := h'.le (S.map _) (R.map _) (by rw [← List.map_append]; exact p.map _) (fS.shift hb)
  rw [List.length_map] at this
  omega
theorem due_sub {d : Int} {S R D : List J} (ok : Ok D) (p : (S ++ R).Perm D) : due d S ≤ due d D := by
  rw [← due_perm p]
  have okR : Ok R := fun x hx => ok x (p.mem_iff.mp (List.mem_append_right _ hx))
  have := due_nn (d := d) okR
  have e : ∀ S : List J, due d (S ++ R) = due d S + due d R := fun S => by
    induction S with
    | nil => show due d R = 0 + due d R; omega
    | cons x S ih => show _ + due d (S ++ R) = _ + due d S + due d R; rw [ih]; omega
  rw [e]
  omega
theorem Feas.sub {S R D : List J} (ok : Ok D) (h : Feas D) (p : (S ++ R).Perm D) : Feas S := fun x hx =>
  Int.le_trans (due_sub ok p) (h x (p.mem_iff.mp (List.mem_append_left _ hx)))
/-- one job fewer -/
theorem Max.tail {x : J} {D : List J} {k m : Nat} (ok : Ok (x :: D)) (h : Max (x :: D) k) (h' : Max D m) : m ≤ k ∧ k ≤ m + 1 := by
  constructor
  · obtain ⟨S, R, p, fS, e⟩ := h'.ex
    have := h.le S (x :: R) (List.perm_middle.trans (p.cons x)) fS
    omega
  · obtain ⟨S, R, p, fS, e⟩ := h.ex
    have hx : x ∈ S ++ R := p.mem_iff.mpr (List.mem_cons_self ..)
    rcases List.mem_append.mp hx with hx | hx
    · obtain ⟨S1, S2, rfl⟩ := List.append_of_mem hx
      have p2 : (x :: (S1 ++ S2 ++ R)).Perm (S1 ++ x :: S2 ++ R) := (List.perm_middle (l₁ := S1) (a := x) (l₂ := S2)).symm.append_right R
      have pp := (p2.trans p).cons_inv
      have okS : Ok (S1 ++ x :: S2) := fun y hy => ok y (p.mem_iff.mp (List.mem_append_left _ hy))
      have fS' : Feas (S1 ++ S2) := fS.sub (R := [x]) okS (List.perm_append_comm.trans (List.perm_middle (l₁ := S1) (a := x) (l₂ := S2)).symm)
      have := h'.le _ _ pp fS'
      simp at e this
      omega
    · obtain ⟨R1, R2, rfl⟩ := List.append_of_mem hx
      have p2 : (x :: (S ++ (R1 ++ R2))).Perm (S ++ (R1 ++ x :: R2)) := by
        refine List.Perm.trans ?_ (List.perm_middle.symm.append_left S)
        exact List.perm_middle.symm
      have := h'.le _ _ (p2.trans p).cons_inv fS
      omega
theorem Max.all {D : List J} {k : Nat} (h : Max D k) : k = D.length ↔ Feas D := by
  obtain ⟨S, R, p, fS, e⟩ := h.ex
  have el := p.length_eq
  rw [List.length_append] at el
  constructor
  · intro hk
    have : R = [] := List.length_eq_zero_iff.mp (by omega)
    subst this
    rw [List.append_nil] at p
    exact fS.perm p
  · intro hf
    have := h.le D [] (by rw [List.append_nil]) hf
    omega
end Dues

/-! Presses: the plain mathematics. -/
namespace Press
/-! ### fractions in lowest terms -/
def f1 (P x : Nat) : Nat := x / Nat.gcd x P
def f2 (P x : Nat) : Nat := P / Nat.gcd x P
theorem g_pos {P x : Nat} (h : 0 < P) : 0 < Nat.gcd x P := Nat.gcd_pos_of_pos_right _ h
theorem f1_mul (P x : Nat) : f1 P x * Nat.gcd x P = x := Nat.div_mul_cancel (Nat.gcd_dvd_left x P)
theorem f2_mul (P x : Nat) : f2 P x * Nat.gcd x P = P := Nat.div_mul_cancel (Nat.gcd_dvd_right x P)
theorem f2_pos {P x : Nat} (h : 0 < P) : 0 < f2 P x := Nat.div_pos (Nat.le_of_dvd h (Nat.gcd_dvd_right x P)) (g_pos h)
theorem f2_le {P x : Nat} : f2 P x ≤ P := Nat.div_le_self _ _
theorem co {P x : Nat} (h : 0 < P) : Nat.Coprime (f1 P x) (f2 P x) := Nat.coprime_div_gcd_div_gcd (g_pos h)
theorem cross (P x : Nat) : f1 P x * P = x * f2 P x := by
  have h1 := f1_mul P x
  have h2 := f2_mul P x
  generalize f1 P x = a at *
  generalize f2 P x = b at *
  generalize Nat.gcd x P = g at *
  subst h1
  subst h2
  grind
theorem uniq {a b a' b' : Nat} (c : Nat.Coprime a b) (c' : Nat.Coprime a' b') (hb : 0 < b) (hb' : 0 < b') (e : a * b' = a' * b) : a = a' ∧ b = b' := by
  have d1 : b ∣ b' := c.symm.dvd_of_dvd_mul_left (show b ∣ a * b' by rw [e]; exact Nat.dvd_mul_left b a')
  have d2 : b' ∣ b := c'.symm.dvd_of_dvd_mul_left (show b' ∣ a' * b by rw [← e]; exact Nat.dvd_mul_left b' a)
  have : b = b' := Nat.dvd_antisymm d1 d2
  subst this
  exact ⟨Nat.eq_of_mul_eq_mul_right hb e, rfl⟩
theorem same {P Q x y : Nat} (hP : 0 < P) (hQ : 0 < Q) (e : x * Q = y * P) : f1 P x = f1 Q y ∧ f2 P x = f2 Q y := by
  refine uniq (co hP) (co hQ) (f2_pos hP) (f2_pos hQ) ?_
  have h1 := f1_mul P x
  have h2 := f2_mul P x
  have h3 := f1_mul Q y
  have h4 := f2_mul Q y
  have p1 := g_pos (x := x) hP
  have p2 := g_pos (x := y) hQ
  generalize f1 P x = a at *
  generalize f2 P x = b at *
  generalize f1 Q y = a' at *
  generalize f2 Q y = b' at *
  generalize Nat.gcd x P = g at *
  generalize Nat.gcd y Q = g' at *
  subst h1
  subst h2
  subst h3
  subst h4
  refine Nat.eq_of_mul_eq_mul_right (Nat.mul_pos p1 p2) ?_
  rw [show a * b' * (g * g') = a * g * (b' * g') by grind, e]
  grind
theorem whole {P t : Nat} (hP : 0 < P) : f1 P (t * P) = t ∧ f2 P (t * P) = 1 := by
  have := same (P := P) (Q := 1) (x := t * P) (y := t) hP Nat.one_pos (by rw [Nat.mul_one])
  rw [this.1, this.2]
  unfold f1 f2
  rw [Nat.gcd_one_right]
  exact ⟨Nat.div_one t, rfl⟩
theorem below {P Q x y : Nat} (hP : 0 < P) (hQ : 0 < Q) : f1 P x * f2 Q y < f1 Q y * f2 P x ↔ x * Q < y * P := by
  have h1 := f1_mul P x
  have h2 := f2_mul P x
  have h3 := f1_mul Q y
  have h4 := f2_mul Q y
  have p1 := g_pos (x := x) hP
  have p2 := g_pos (x := y) hQ
  generalize f1 P x = a at *
  generalize f2 P x = b at *
  generalize f1 Q y = a' at *
  generalize f2 Q y = b' at *
  generalize Nat.gcd x P = g at *
  generalize Nat.gcd y Q = g' at *
  subst h1
  subst h2
  subst h3
  subst h4
  have hg : 0 < g * g' := Nat.mul_pos p1 p2
  rw [show a * g * (b' * g') = a * b' * (g * g') by grind, show a' * g' * (b * g) = a' * b * (g * g') by grind]
  exact ⟨fun h => Nat.mul_lt_mul_of_pos_right h hg, fun h => Nat.lt_of_mul_lt_mul_right h⟩
theorem inj {P x y : Nat} (hP : 0 < P) (e1 : f1 P x = f1 P y) (e2 : f2 P x = f2 P y) : x = y := by
  have h1 := cross P x
  have h2 := cross P y
  rw [e1, h2, e2] at h1
  exact (Nat.eq_of_mul_eq_mul_right (f2_pos hP) h1).symm
/-- top over bottom, both made of other fractions -/
theorem low {P t b x : Nat} (hP : 0 < P) (hb : 0 < b) (e : t * P = x * b) : f1 b t = f1 P x ∧ f2 b t = f2 P x := same hb hP e
theorem plus {P x y : Nat} (hP : 0 < P) : (f1 P x * f2 P y + f1 P y * f2 P x) * P = (x + y) * (f2 P x * f2 P y) := by
  have h1 := cross P x
  have h2 := cross P y
  grind
theorem minus {P x y : Nat} (hP : 0 < P) (h : y ≤ x) : (f1 P x * f2 P y - f1 P y * f2 P x) * P = (x - y) * (f2 P x * f2 P y) := by
  have h1 := cross P x
  have h2 := cross P y
  rw [Nat.sub_mul, Nat.sub_mul]
  congr 1
  · grind
  · grind
theorem minus_le {P x y : Nat} (hP : 0 < P) (h : y ≤ x) : f1 P y * f2 P x ≤ f1 P x * f2 P y := by
  apply Nat.le_of_not_lt
  intro z
  have := (below (x := x) (y := y) hP hP).mp z
  have := Nat.lt_of_mul_lt_mul_right this
  omega
theorem pos_iff {P x : Nat} (hP : 0 < P) : 0 < f1 P x ↔ 0 < x := by
  have h1 := f1_mul P x
  have p := g_pos (x := x) hP
  constructor
  · intro h
    rw [← h1]
    exact Nat.mul_pos h p
  · intro h
    apply Nat.pos_of_ne_zero
    intro z
    rw [z] at h1
    omega
/-! ### the pieces: press, from, until, job -/
structure Pc where
  p : Nat
  a : Nat
  b : Nat
  j : Nat
def nxt (E p h : Nat) : Nat × Nat := if h = E then (p + 1, 0) else (p, h)
/-- the row of pieces from a press's place on -/
def lay (E : Nat) : Nat → Nat → Nat → List Nat → List Pc
  | p, h, j, [] => []
  | p, h, j, x :: xs =>
    if x = 0 then lay E (nxt E p h).1 (nxt E p h).2 (j + 1) xs
    else if E < h + x then ⟨p, h, E, j⟩ :: ⟨p + 1, 0, h + x - E, j⟩ :: lay E (p + 1) (h + x - E) (j + 1) xs
    else ⟨p, h, h + x, j⟩ :: lay E (nxt E p (h + x)).1 (nxt E p (h + x)).2 (j + 1) xs
def Clash (x y : Pc) : Prop := x.a < y.b ∧ y.a < x.b ∧ (x.p = y.p ∨ x.j = y.j)
def amt (j : Nat) : List Pc → Nat
  | [] => 0
  | x :: l => (if x.j = j then x.b - x.a else 0) + amt j l
theorem amt_perm {j : Nat} {l m : List Pc} (p : l.Perm m) : amt j l = amt j m := by
  induction p with
  | nil => rfl
  | cons x _ ih => show _ + _ = _ + _; rw [ih]
  | swap x y l => simp only [amt]; omega
  | trans _ _ h1 h2 => exact h1.trans h2
theorem amt_app (j : Nat) (l m : List Pc) : amt j (l ++ m) = amt j l + amt j m := by
  induction l with
  | nil => show _ = 0 + _; rw [Nat.zero_add]; rfl
  | cons x l ih => show _ + amt j (l ++ m) = _ + amt j l + _; omega
/-- what the pieces of a row fulfil -/
structure Good (E p h j T : Nat) (n : Nat) (x : Pc) : Prop where
  lt : x.a < x.b
  le : x.b ≤ E
  from_ : p < x.p ∨ (p = x.p ∧ h ≤ x.a)
  to : x.p * E + x.b ≤ p * E + h + T
  j1 : j ≤ x.j
  j2 : x.j < j + n
theorem nxt_mul {E p h : Nat} : (nxt E p h).1 * E + (nxt E p h).2 = p * E + h := by
  unfold nxt
  split
  · next e => subst e; show (p + 1) * h + 0 = _; grind
  · rfl
theorem nxt_lt {E p h : Nat} (hh : h ≤ E) (he : 0 < E) : (nxt E p h).2 < E := by
  unfold nxt
  split
  · exact he
  · show h < E; omega
theorem nxt_from {E p h : Nat} : p < (nxt E p h).1 ∨ (p = (nxt E p h).1 ∧ (nxt E p h).2 = h) := by
  unfold nxt
  split
  · exact .inl (Nat.lt_succ_self p)
  · exact .inr ⟨rfl, rfl⟩
theorem lay_good {E : Nat} (he : 0 < E) : ∀ {xs : List Nat} {p h j : Nat}, h < E → (∀ x ∈ xs, x ≤ E) → ∀ x ∈ lay E p h j xs, Good E p h j xs.sum xs.length x
  | [], p, h, j, _, _, x, hx => by cases hx
  | t :: xs, p, h, j, hh, hxs, x, hx => by
    have ht := hxs t (List.mem_cons_self ..)
    have hxs' : ∀ x ∈ xs, x ≤ E := fun y hy => hxs y (List.mem_cons_of_mem _ hy)
    have rest : ∀ {p' h' : Nat}, h' < E → p' * E + h' = p * E + h + t → (p < p' ∨ (p = p' ∧ h ≤ h')) → x ∈ lay E p' h' (j + 1) xs → Good E p h j (t :: xs).sum (t :: xs).length x := by
      intro p' h' h1 h2 h3 hm
      have g := lay_good he h1 hxs' x hm
      have e : (t :: xs).sum = t + xs.sum := List.sum_cons
      have el : (t :: xs).length = xs.length + 1 := rfl
      have g1 := g.from_
      have g2 := g.to
      have g3 := g.j1
      have g4 := g.j2
      exact ⟨g.lt, g.le, by omega, by rw [e]; omega, by omega, by rw [el]; omega⟩
    have e : (t :: xs).sum = t + xs.sum := List.sum_cons
    have el : (t :: xs).length = xs.length + 1 := rfl
    unfold lay at hx
    by_cases h0 : t = 0
    · rw [if_pos h0] at hx
      refine rest (nxt_lt (by omega) he) (by rw [nxt_mul]; omega) ?_ hx
      have := nxt_from (E := E) (p := p) (h := h)
      omega
    · rw [if_neg h0] at hx
      by_cases h1 : E < h + t
      · rw [if_pos h1] at hx
        have em : (p + 1) * E = p * E + E := Nat.succ_mul p E
        rcases List.mem_cons.mp hx with rfl | hx
        · exact ⟨hh, Nat.le_refl E, .inr ⟨rfl, Nat.le_refl h⟩, by show p * E + E ≤ _; rw [e]; omega, Nat.le_refl j, by show j < _; rw [el]; omega⟩
        rcases List.mem_cons.mp hx with rfl | hx
        · exact ⟨by show 0 < h + t - E; omega, by show h + t - E ≤ E; omega, .inl (Nat.lt_succ_self p), by show (p + 1) * E + (h + t - E) ≤ _; rw [e, em]; omega, Nat.le_refl j, by show j < _; rw [el]; omega⟩
        · exact rest (p' := p + 1) (h' := h + t - E) (by omega) (by rw [em]; omega) (by omega) hx
      · rw [if_neg h1] at hx
        rcases List.mem_cons.mp hx with rfl | hx
        · exact ⟨by show h < h + t; omega, by show h + t ≤ E; omega, .inr ⟨rfl, Nat.le_refl h⟩, by show p * E + (h + t) ≤ _; rw [e]; omega, Nat.le_refl j, by show j < _; rw [el]; omega⟩
        · refine rest (nxt_lt (by omega) he) (by rw [nxt_mul]; omega) ?_ hx
          have := nxt_from (E := E) (p := p) (h := h + t)
          omega
theorem lay_pw {E : Nat} (he : 0 < E) : ∀ {xs : List Nat} {p h j : Nat}, h < E → (∀ x ∈ xs, x ≤ E) → (lay E p h j xs).Pairwise fun x y => ¬ Clash x y
  | [], p, h, j, _, _ => List.Pairwise.nil
  | t :: xs, p, h, j, hh, hxs => by
    have ht := hxs t (List.mem_cons_self ..)
    have hxs' : ∀ x ∈ xs, x ≤ E := fun y hy => hxs y (List.mem_cons_of_mem _ hy)
    unfold lay
    by_cases h0 : t = 0
    · rw [if_pos h0]
      exact lay_pw he (nxt_lt (by omega) he) hxs'
    · rw [if_neg h0]
      by_cases h1 : E < h + t
      · rw [if_pos h1]
        have gr : ∀ y ∈ lay E (p + 1) (h + t - E) (j + 1) xs, _ := lay_good he (show h + t - E < E by omega) hxs'
        refine List.Pairwise.cons (fun y hy => ?_) (List.Pairwise.cons (fun y hy => ?_) (lay_pw he (by omega) hxs'))
        · rcases List.mem_cons.mp hy with rfl | hy
          · rintro ⟨c1, c2, c3⟩
            have c1' : h < h + t - E := c1
            omega
          · rintro ⟨c1, c2, c3⟩
            have g := gr y hy
            have g1 := g.from_
            have g2 := g.j1
            have c3' : p = y.p ∨ j = y.j := c3
            omega
        · rintro ⟨c1, c2, c3⟩
          have g := gr y hy
          have g1 := g.from_
          have g2 := g.j1
          have c2' : y.a < h + t - E := c2
          have c3' : p + 1 = y.p ∨ j = y.j := c3
          omega
      · rw [if_neg h1]
        refine List.Pairwise.cons (fun y hy => ?_) (lay_pw he (nxt_lt (by omega) he) hxs')
        rintro ⟨c1, c2, c3⟩
        have g := lay_good he (nxt_lt (show h + t ≤ E by omega) he) hxs' y hy
        have g1 := g.from_
        have g2 := g.j1
        have g3 := nxt_from (E := E) (p := p) (h := h + t)
        have c2' : y.a < h + t := c2
        have c3' : p = y.p ∨ j = y.j := c3
        omega
theorem amt_none {k : Nat} : ∀ {l : List Pc}, (∀ x ∈ l, x.j ≠ k) → amt k l = 0
  | [], _ => rfl
  | x :: l, h => by
    show (if x.j = k then _ else 0) + amt k l = 0
    rw [if_neg (h x (List.mem_cons_self ..)), amt_none fun y hy => h y (List.mem_cons_of_mem _ hy)]
theorem lay_amt {E : Nat} (he : 0 < E) : ∀ {xs : List Nat} {p h j : Nat}, h < E → (∀ x ∈ xs, x ≤ E) → ∀ i, amt (j + i) (lay E p h j xs) = xs.getD i 0
  | [], p, h, j, _, _, i => by simp [lay, amt]
  | t :: xs, p, h, j, hh, hxs, i => by
    have ht := hxs t (List.mem_cons_self ..)
    have hxs' : ∀ x ∈ xs, x ≤ E := fun y hy => hxs y (List.mem_cons_of_mem _ hy)
    have rest : ∀ {p' h' : Nat}, h' < E → amt (j + i) (lay E p' h' (j + 1) xs) = if i = 0 then 0 else (t :: xs).getD i 0 := by
      intro p' h' h1
      cases i with
      | zero =>
        rw [if_pos rfl]
        refine amt_none fun x hx => ?_
        have := (lay_good he h1 hxs' x hx).j1
        omega
      | succ i =>
        rw [if_neg (by omega)]
        have := lay_amt he (p := p') (j := j + 1) h1 hxs' i
        rw [show j + 1 + i = j + (i + 1) by omega] at this
        rw [this]
        rfl
    have e0 : (t :: xs).getD 0 0 = t := rfl
    unfold lay
    by_cases h0 : t = 0
    · rw [if_pos h0, rest (nxt_lt (by omega) he)]
      split
      · next z => subst z; rw [e0, h0]
      · rfl
    · rw [if_neg h0]
      by_cases h1 : E < h + t
      · rw [if_pos h1]
        show (if j = j + i then E - h else 0) + ((if j = j + i then h + t - E - 0 else 0) + amt (j + i) _) = _
        rw [rest (by omega)]
        by_cases z : i = 0
        · subst z
          simp only [Nat.add_zero, if_true, e0]
          omega
        · rw [if_neg (by omega), if_neg (by omega), if_neg z]
          omega
      · rw [if_neg h1]
        show (if j = j + i then h + t - h else 0) + amt (j + i) _ = _
        rw [rest (nxt_lt (by omega) he)]
        by_cases z : i = 0
        · subst z
          simp only [Nat.add_zero, if_true, e0]
          omega
        · rw [if_neg (by omega), if_neg z]
          omega
theorem lay_len {E : Nat} : ∀ {xs : List Nat} {p h j : Nat}, (lay E p h j xs).length ≤ 2 * xs.length
  | [], p, h, j => Nat.le_refl _
  | t :: xs, p, h, j => by
    unfold lay
    rw [List.length_cons]
    split
    · have := lay_len (E := E) (xs := xs) (p := (nxt E p h).1) (h := (nxt E p h).2) (j := j + 1)
      omega
    · split
      · have := lay_len (E := E) (xs := xs) (p := p + 1) (h := h + t - E) (j := j + 1)
        rw [List.length_cons, List.length_cons]
        omega
      · have := lay_len (E := E) (xs := xs) (p := (nxt E p (h + t)).1) (h := (nxt E p (h + t)).2) (j := j + 1)
        rw [List.length_cons]
        omega
/-- nothing to be done -/
theorem lay_none : ∀ {xs : List Nat} {p h j E : Nat}, (∀ x ∈ xs, x = 0) → lay E p h j xs = []
  | [], _, _, _, _, _ => rfl
  | t :: xs, p, h, j, E, hx => by
    unfold lay
    rw [if_pos (hx t (List.mem_cons_self ..))]
    exact lay_none fun y hy => hx y (List.mem_cons_of_mem _ hy)
end Press

set_option maxHeartbeats 2000000
/-! L5A: small data can be shown (repr). -/
namespace L3
open PySem PySem.Spec PyProof.Rows L2
mutual
/-- ints below 10 ** 30, bools, None, tuples and lists of such, of a depth -/
def okD : Nat → D → Bool
  | _, .non => true
  | _, .bl _ => true
  | _, .int i => decide (i.natAbs < 10 ^ 30)
  | n + 1, .tup l => okL n l
  | n + 1, .lst l => okL n l
  | _, _ => false
def okL : Nat → List D → Bool
  | _, [] => true
  | n, d :: l => okD n d && okL n l
end
mutual
def szD : D → Nat
  | .tup l => 1 + szL l
  | .lst l => 1 + szL l
  | _ => 1
def szL : List D → Nat
  | [] => 0
  | d :: l => szD d + szL l
end
theorem okL_of {n : Nat} : ∀ {l : List D}, (∀ d ∈ l, okD n d = true) → okL n l = true
  | [], _ => by unfold okL; rfl
  | x :: l, h => by
    unfold okL
    rw [h x List.mem_cons_self, okL_of fun d hd => h d (List.mem_cons_of_mem _ hd)]
    rfl
theorem okD_tup {n : Nat} {l : List D} (h : ∀ d ∈ l, okD n d = true) : okD (n + 1) (.tup l) = true := by
  unfold okD
  exact okL_of h
theorem okD_lst {n : Nat} {l : List D} (h : ∀ d ∈ l, okD n d = true) : okD (n + 1) (.lst l) = true := by
  unfold okD
  exact okL_of h
theorem okD_int {n : Nat} {i : Int} (h : i.natAbs < 10 ^ 30) : okD n (.int i) = true := by
  unfold okD
  exact decide_eq_true h
theorem szL_le {k : Nat} : ∀ {l : List D}, (∀ d ∈ l, szD d ≤ k) → szL l ≤ k * l.length
  | [], _ => by simp [szL]
  | x :: l, h => by
    unfold szL
    have h1 := h x List.mem_cons_self
    have h2 := szL_le fun d hd => h d (List.mem_cons_of_mem _ hd)
    rw [List.length_cons, Nat.mul_succ]
    omega
theorem int_len {i : Int} (h : i.natAbs < 10 ^ 30) : (Str.ofString (toString i)).length ≤ 31 := by
  by_cases z : 0 ≤ i
  · have := PyProof.Rows.toString_length_le z (by decide : 0 < 30) (show i < 10 ^ 30 by omega)
    omega
  · have h1 := PyProof.Rows.len_text_negI (n := i) (by omega)
    have h2 := PyProof.Rows.toString_length_le (v := 0 - i) (by omega) (by decide : 0 < 30) (show 0 - i < 10 ^ 30 by omega)
    omega
theorem int_log {i : Int} (h : i.natAbs < 10 ^ 30) : i.natAbs.log2 < 1920 := by
  by_cases z : i.natAbs = 0
  · rw [z]
    decide
  · refine (Nat.log2_lt z).mpr ?_
    have : (10 : Nat) ^ 30 ≤ 2 ^ 1920 := by decide +kernel
    omega
structure Shw (d : D) (n : Nat) (y : PyData) : Prop where
  py : toPy d = some y
  sh : y.showable = true
  hd : y.hasDict = false
  len : y.shown.length + 4 ≤ 44 * szD d
  dep : y.depth ≤ n
structure ShwL (l : List D) (n : Nat) (ys : List PyData) : Prop where
  py : toPyL l = some ys
  sh : PyData.showableAll ys = true
  hd : PyData.hasDictAll ys = false
  len : piled (PyData.shownAll ys) ≤ 44 * szL l
  dep : PyData.depthAll ys ≤ n
theorem join_pile (ys : List Str) : (Str.join ", " ys).length ≤ piled ys := by
  by_cases e : ys = []
  · rw [e]
    exact Nat.zero_le _
  · have := join_length_add _ e
    omega
theorem ShwL.nil {n : Nat} : ShwL [] n [] := ⟨rfl, rfl, rfl, by simp [PyData.shownAll, piled], Nat.zero_le _⟩
theorem ShwL.cons {d : D} {l : List D} {n : Nat} {y : PyData} {ys : List PyData} (h : Shw d n y) (t : ShwL l n ys) : ShwL (d :: l) n (y :: ys) := by
  refine ⟨?_, ?_, ?_, ?_, ?_⟩
  · unfold toPyL
    rw [h.py, t.py]
  · simp only [PyData.showableAll, h.sh, t.sh, Bool.and_true]
  · simp only [PyData.hasDictAll, h.hd, t.hd, Bool.or_false]
  · rw [PyData.shownAll_cons, piled_cons]
    unfold szL
    have := h.len
    have := t.len
    omega
  · have := h.dep
    have := t.dep
    rw [PyData.depthAll]
    omega
mutual
theorem shw_of : ∀ {n : Nat} {d : D}, okD n d = true → ∃ y, Shw d n y
  | n, .non, _ => ⟨.none, rfl, rfl, rfl, by decide +kernel, Nat.zero_le _⟩
  | n, .bl b, _ => ⟨.bool b, rfl, rfl, rfl, by cases b <;> decide +kernel, Nat.zero_le _⟩
  | n, .int i, h => by
    unfold okD at h
    have h := of_decide_eq_true h
    refine ⟨.int i, rfl, decide_eq_true (int_log h), rfl, ?_, Nat.zero_le _⟩
    rw [PyData.shown_int]
    have := int_len h
    show _ ≤ 44 * 1
    omega
  | n + 1, .tup l, h => by
    unfold okD at h
    obtain ⟨ys, t⟩ := shw_ofL h
    refine ⟨.tuple ys, by unfold toPy; rw [t.py]; rfl, t.sh, t.hd, ?_, ?_⟩
    · rw [PyData.shown_tuple, Str.length_append, Str.length_append]
      have := join_pile (PyData.shownAll ys)
      have := t.len
      have : (Str.ofString (if ys.length == 1 then ",)" else ")" : String)).length ≤ 2 := by split <;> decide
      have : (Str.ofString "(").length = 1 := rfl
      unfold szD
      omega
    · rw [PyData.depth]
      have := t.dep
      omega
  | n + 1, .lst l, h => by
    unfold okD at h
    obtain ⟨ys, t⟩ := shw_ofL h
    refine ⟨.list ys, by unfold toPy; rw [t.py]; rfl, t.sh, t.hd, ?_, ?_⟩
    · rw [PyData.shown_list, Str.length_append, Str.length_append]
      have := join_pile (PyData.shownAll ys)
      have := t.len
      have : (Str.ofString "[").length = 1 := rfl
      have : (Str.ofString "]").length = 1 := rfl
      unfold szD
      omega
    · rw [PyData.depth]
      have := t.dep
      omega
  | 0, .tup l, h => by simp [okD] at h
  | 0, .lst l, h => by simp [okD] at h
  | _, .str _, h => by simp [okD] at h
  | _, .ty _, h => by simp [okD] at h
  | _, .rf _, h => by simp [okD] at h
  | _, .pot, h => by simp [okD] at h
  | _, .scr _, h => by simp [okD] at h
  | _, .lam .., h => by simp [okD] at h
  | _, .exc .., h => by simp [okD] at h
  | _, .clo .., h => by simp [okD] at h
  | _, .dic _, h => by simp [okD] at h
  | _, .dct _ _, h => by simp [okD] at h
theorem shw_ofL : ∀ {n : Nat} {l : List D}, okL n l = true → ∃ ys, ShwL l n ys
  | n, [], _ => ⟨[], .nil⟩
  | n, d :: l, h => by
    unfold okL at h
    obtain ⟨h1, h2⟩ := Bool.and_eq_true_iff.mp h
    obtain ⟨y, hy⟩ := shw_of h1
    obtain ⟨ys, hys⟩ := shw_ofL h2
    exact ⟨y :: ys, ShwL.cons hy hys⟩
end
/-- small data can be shown -/
theorem show_small {n : Nat} {d : D} (h : okD n d = true) (hn : n ≤ 64) (hz : szD d ≤ 300000) : ∃ y, ShowP d y := by
  obtain ⟨y, t⟩ := shw_of h
  refine ⟨y, t.py, t.sh, t.hd, ?_, by have := t.dep; omega⟩
  rw [sizeLine_eq]
  have := t.len
  omega
end L3

/-! L5B: rules for comprehensions over a mapped list, told by what is mapped. -/
namespace L3
open PySem PySem.Spec PyProof.Rows L2
theorem comp_mapG {α : Type} {g : FG} {fe : FE} {ρ : Rho} (f h : α → D) {c : Nat} : ∀ (l : List α) (Q : List D → Nat → Prop),
    (∀ x ∈ l, ∀ (K : KD), K (h x) c → g (f x) (ρ.map upS) fun ρ' => fe (ρ'.map vA) c K) → Q (l.map h) c → compL g tYes3 fe ρ (l.map f) c Q
  | [], Q, _, q => q
  | d :: l, Q, step, q => by
    show g (f d) (ρ.map upS) fun ρ' => fe (ρ'.map vA) c fun y c => compL g tYes3 fe ρ (l.map f) c fun ys c => Q (y :: ys) c
    exact step d List.mem_cons_self _ (comp_mapG f h l _ (fun d hd => step d (List.mem_cons_of_mem _ hd)) q)
theorem comp_filterG {α : Type} {g : FG} {t : FT} {fe : FE} {ρ : Rho} (P : α → Bool) (f h : α → D) {c : Nat} : ∀ (l : List α) (Q : List D → Nat → Prop),
    (∀ x ∈ l, ∀ (A : KD) (B : Nat → Prop), (P x = true → A (h x) c) → (P x = false → B c) → g (f x) (ρ.map upS) fun ρ' => t (ρ'.map vA) c fun b c => if b = true then fe (ρ'.map vA) c A else B c) → Q ((l.filter P).map h) c → compL g t fe ρ (l.map f) c Q
  | [], Q, _, q => q
  | d :: l, Q, step, q => by
    show g (f d) (ρ.map upS) fun ρ' => t (ρ'.map vA) c fun b c => if b = true then fe (ρ'.map vA) c (fun y c => compL g t fe ρ (l.map f) c fun ys c => Q (y :: ys) c) else compL g t fe ρ (l.map f) c Q
    have st : ∀ e ∈ l, _ := fun e he => step e (List.mem_cons_of_mem _ he)
    refine step d List.mem_cons_self _ _ (fun z => ?_) fun z => ?_
    · refine comp_filterG P f h l _ st ?_
      rw [List.filter_cons_of_pos z] at q
      exact q
    · refine comp_filterG P f h l _ st ?_
      rw [List.filter_cons_of_neg (by rw [z]; decide)] at q
      exact q
/-- drawn ones, told by what they are -/
theorem comp_drawn {α : Type} {g : FG} {fe : FE} {ρ : Rho} (P : α → Prop) (h : α → D) (k C : Nat) : ∀ (l : List D) (c : Nat) (Q : List D → Nat → Prop),
    (∀ d ∈ l, ∀ c (K : KD), c + k ≤ C → (∀ x c', P x → c' ≤ c + k → K (h x) c') → g d (ρ.map upS) fun ρ' => fe (ρ'.map vA) c K) → c + k * l.length ≤ C → (∀ (xs : List α) c', xs.length = l.length → (∀ x ∈ xs, P x) → c' ≤ c + k * l.length → Q (xs.map h) c') → compL g tYes3 fe ρ l c Q
  | [], c, Q, _, _, q => q [] c rfl (fun _ h => absurd h List.not_mem_nil) (Nat.le_add_right _ _)
  | d :: l, c, Q, step, hc, q => by
    have e : c + k * (d :: l).length = c + k + k * l.length := by
      rw [List.length_cons, Nat.mul_succ]
      omega
    rw [e] at hc q
    show g d (ρ.map upS) fun ρ' => fe (ρ'.map vA) c fun y c => compL g tYes3 fe ρ l c fun ys c => Q (y :: ys) c
    refine step d List.mem_cons_self c _ (by omega) fun y c1 py hc1 => comp_drawn P h k C l c1 _ (fun d hd => step d (List.mem_cons_of_mem _ hd)) (by omega) fun ys c2 h1 h2 h3 => q (y :: ys) c2 (by rw [List.length_cons, List.length_cons, h1]) (fun z hz => ?_) (by omega)
    rcases List.mem_cons.mp hz with e | e
    · rw [e]; exact py
    · exact h2 z e
end L3

set_option maxHeartbeats 4000000
namespace Law67
open PySem PySem.Spec PyProof.Rows
open L2 hiding FnOk Room
open L3
open Press (f1 f2)
theorem sortedM_nD {G : List Nat} (hG : G.length < 64) {Q : List D → Prop} (q : ∀ G' : List Nat, G'.Perm G → G'.Pairwise (· ≤ ·) → Q (G'.map nD)) : sortedM (G.map nD) Q := by
  refine .inl ⟨G.map fun n : Nat => (n : Int), intsOf_nD G, by rw [List.length_map]; exact hG, fun ns' p s => ?_⟩
  obtain ⟨G', p', rfl⟩ := Dues.perm_map_inv p.symm G rfl
  rw [List.map_map]
  refine q G' p'.symm ?_
  rw [List.pairwise_map] at s
  exact s.imp fun h => Int.ofNat_le.mp h
theorem max_one (t : Nat → Int) : ∀ (M : List Nat), M ≠ [] → ∃ g ∈ M, ∀ y ∈ M, t y ≤ t g := by
  intro M
  induction M with
  | nil => intro h; exact absurd rfl h
  | cons x M ih =>
    intro _
    by_cases e : M = []
    · subst e
      exact ⟨x, List.mem_cons_self .., fun y hy => by simp at hy; rw [hy]; exact Int.le_refl _⟩
    · obtain ⟨g, hg, hm⟩ := ih e
      by_cases hx : t x ≤ t g
      · refine ⟨g, List.mem_cons_of_mem _ hg, fun y hy => ?_⟩
        rcases List.mem_cons.mp hy with rfl | hy
        · exact hx
        · exact hm y hy
      · refine ⟨x, List.mem_cons_self .., fun y hy => ?_⟩
        rcases List.mem_cons.mp hy with rfl | hy
        · exact Int.le_refl _
        · have := hm y hy
          omega
theorem max_of : ∀ (l : List Int) (a M : Int), a ≤ M → (∀ x ∈ l, x ≤ M) → (a = M ∨ M ∈ l) → l.foldl max a = M
  | [], a, M, _, _, h => by
    rcases h with h | h
    · exact h
    · cases h
  | x :: l, a, M, h1, h2, h3 => by
    have hx := h2 x (List.mem_cons_self ..)
    refine max_of l (max a x) M (by omega) (fun y hy => h2 y (List.mem_cons_of_mem _ hy)) ?_
    rcases h3 with h | h
    · exact .inl (by omega)
    · rcases List.mem_cons.mp h with h | h
      · exact .inl (by omega)
      · exact .inr h
theorem max_at {l : List Int} {M : Int} (h1 : ∀ x ∈ l, x ≤ M) (h2 : M ∈ l) : ∃ n ns, l = n :: ns ∧ ns.foldl max n = M := by
  cases l with
  | nil => cases h2
  | cons n ns =>
    refine ⟨n, ns, rfl, max_of ns n M (h1 n (List.mem_cons_self ..)) (fun x hx => h1 x (List.mem_cons_of_mem _ hx)) ?_⟩
    rcases List.mem_cons.mp h2 with h | h
    · exact .inl h.symm
    · exact .inr h
end Law67

set_option maxHeartbeats 4000000
namespace Law67
open PySem PySem.Spec PyProof.Rows
open L2 hiding FnOk Room
open L3
open Press (f1 f2)
/-- x parts of P, in lowest terms -/
abbrev tk (P x : Nat) : D := .tup [.int ((f1 P x : Nat) : Int), .int ((f2 P x : Nat) : Int)]
theorem log_lt {i : Int} (h : i.natAbs < 2 ^ 8999) : i.natAbs.log2 < 9000 := by
  by_cases z : i.natAbs = 0
  · rw [z]; decide
  · exact (Nat.log2_lt z).mpr (Nat.lt_trans h (Nat.pow_lt_pow_right (by decide) (by decide)))
theorem S_common {a b : Nat} {c : Nat} {Q : KD} (q : Q (.int ((Nat.gcd a b : Nat) : Int)) c) : m_common_int [.int (a : Int), .int (b : Int)] c Q := by
  refine ⟨rfl, ?_⟩
  simp [runM, g_common_int, start3]
  refine while_rule (I := fun ρ c' μ => c' = c ∧ ∃ x y : Nat, ρ = [.val (.int (x : Int)), .val (.int (y : Int))] ∧ μ = y ∧ Nat.gcd x y = Nat.gcd a b) (μ := b) ⟨rfl, a, b, rfl, rfl, rfl⟩ ?_
  rintro μ ρ c' ⟨rfl, x, y, rfl, rfl, e⟩ N hN
  simp
  by_cases h0 : μ = 0
  · subst h0
    simp
    rw [Nat.gcd_zero_right] at e
    rw [e]
    exact q
  · rw [if_neg h0]
    have hlt : x % μ < μ := Nat.mod_lt _ (by omega)
    refine ⟨by omega, hN _ _ (x % μ) hlt ⟨rfl, μ, x % μ, by rw [Int.natCast_emod], rfl, ?_⟩⟩
    rw [← e, Nat.gcd_comm x μ, Nat.gcd_comm μ (x % μ)]
    exact (Nat.gcd_rec μ x).symm
theorem S_lowN {t b : Nat} {c : Nat} {Q : KD} (hb : 0 < b) (hb2 : b < 1000000000) (q : Q (tk b t) c) : m_lowest [.int (t : Int), .int (b : Int)] c Q := by
  refine ⟨rfl, ?_⟩
  simp [runM, g_lowest, start3]
  refine S_common ?_
  have h1 := Press.g_pos (x := t) hb
  have h2 : Nat.gcd t b ≤ b := Nat.le_of_dvd hb (Nat.gcd_dvd_right t b)
  have hg : ((Nat.gcd t b : Nat) : Int).natAbs.log2 < 9000 := log_lt (by omega)
  refine ⟨⟨by omega, hg⟩, ?_⟩
  have := q
  unfold tk f1 f2 at this
  rw [Int.natCast_ediv, Int.natCast_ediv] at this
  exact ⟨⟨by omega, hg⟩, this⟩
theorem S_low {t b : Int} {P x : Nat} {c : Nat} {Q : KD} (hP : 0 < P) (hb : 0 < b) (hb2 : b < 1000000000) (ht : 0 ≤ t) (e : t * P = x * b) (q : Q (tk P x) c) : m_lowest [.int t, .int b] c Q := by
  obtain ⟨t, rfl⟩ := Int.eq_ofNat_of_zero_le ht
  obtain ⟨b, rfl⟩ := Int.eq_ofNat_of_zero_le (Int.le_of_lt hb)
  refine S_lowN (by omega) (by omega) ?_
  have := Press.low (P := P) (t := t) (b := b) (x := x) hP (by omega) (by
    rw [← Int.natCast_mul, ← Int.natCast_mul] at e
    exact Int.ofNat_inj.mp e)
  show Q (.tup [.int ((f1 b t : Nat) : Int), .int ((f2 b t : Nat) : Int)]) c
  rw [this.1, this.2]
  exact q
theorem f2_small {P x : Nat} (h : 0 < P) (hp : P ≤ 100) : 0 < f2 P x ∧ f2 P x ≤ 100 := ⟨Press.f2_pos h, Nat.le_trans Press.f2_le hp⟩
theorem mul_small {a b : Nat} (h : 0 < a ∧ a ≤ 100) (h' : 0 < b ∧ b ≤ 100) : 0 < (a : Int) * b ∧ (a : Int) * b < 1000000000 := by
  have h1 : 0 < a * b := Nat.mul_pos h.1 h'.1
  have h2 : a * b ≤ 100 * 100 := Nat.mul_le_mul h.2 h'.2
  rw [← Int.natCast_mul]
  omega
theorem mok {a : Int} {b : Nat} (h : 0 < b ∧ b ≤ 100) : L3.MulOk a (b : Int) := .inr ⟨by omega, by omega⟩
theorem S_plus {P x y : Nat} {c : Nat} {Q : KD} (hP : 0 < P) (hp : P ≤ 100) (q : Q (tk P (x + y)) c) : m_plus [tk P x, tk P y] c Q := by
  refine ⟨rfl, ?_⟩
  simp [runM, g_plus, start3]
  have h1 := mul_small (f2_small (x := x) hP hp) (f2_small (x := y) hP hp)
  refine ⟨mok (f2_small hP hp), mok (f2_small hP hp), mok (f2_small hP hp), ?_⟩
  refine S_low hP h1.1 h1.2 ?_ ?_ q
  · rw [← Int.natCast_mul, ← Int.natCast_mul]
    omega
  · have := Press.plus (x := x) (y := y) hP
    rw [← Int.natCast_mul, ← Int.natCast_mul, ← Int.natCast_add, ← Int.natCast_mul, ← Int.natCast_mul, ← Int.natCast_mul, this]
theorem S_below {P R' x y : Nat} {c : Nat} {Q : KD} (hP : 0 < P) (hp : P ≤ 100) (hR : 0 < R') (hr : R' ≤ 100) (q : Q (.bl (decide (x * R' < y * P))) c) : m_is_below [tk P x, tk R' y] c Q := by
  refine ⟨rfl, ?_⟩
  simp [runM, g_is_below, start3]
  rw [← Int.natCast_mul, ← Int.natCast_mul]
  have : decide (((f1 P x * f2 R' y : Nat) : Int) < ((f1 R' y * f2 P x : Nat) : Int)) = decide (x * R' < y * P) := decide_eq_decide.mpr (by rw [← Press.below hP hR]; omega)
  rw [this]
  exact ⟨mok (f2_small hR hr), mok (f2_small hP hp), q⟩
theorem S_below1 {P x y : Nat} {c : Nat} {Q : KD} (hP : 0 < P) (hp : P ≤ 100) (q : Q (.bl (decide (x < y))) c) : m_is_below [tk P x, tk P y] c Q := by
  refine S_below hP hp hP hp ?_
  have : decide (x * P < y * P) = decide (x < y) := decide_eq_decide.mpr (Nat.mul_lt_mul_right hP)
  rw [this]
  exact q
theorem S_whole {i : Int} {c : Nat} {Q : KD} (q : Q (.bl true) c) : m_is_whole [.int i] c Q := by
  refine ⟨rfl, ?_⟩
  simp [runM, g_is_whole, start3]
  exact ⟨rfl, q⟩
theorem S_tick {P x : Nat} {c : Nat} {Q : KD} (hP : 0 < P) (hp : P ≤ 100) (q : Q (.bl true) c) : m_is_tick [tk P x] c Q := by
  refine ⟨rfl, ?_⟩
  simp [runM, g_is_tick, start3]
  have h2 := f2_small (x := x) hP hp
  refine ⟨rfl, S_whole ?_⟩
  simp
  refine S_whole ?_
  simp
  rw [if_pos (by omega)]
  refine S_common ?_
  simp
  rw [show Nat.gcd (f1 P x) (f2 P x) = 1 from Press.co hP]
  exact q
/-! ### the times -/
abbrev tsD (ts : List Nat) : D := .tup (ts.map nD)
def Times (ts : List Nat) : Prop := ts ≠ [] ∧ ts.length ≤ 24 ∧ ∀ t ∈ ts, t ≤ 1000
def mx : List Nat → Nat
  | [] => 0
  | x :: l => max x (mx l)
theorem le_mx : ∀ {l : List Nat} {x : Nat}, x ∈ l → x ≤ mx l
  | y :: l, x, h => by
    show x ≤ max y (mx l)
    rcases List.mem_cons.mp h with rfl | h
    · omega
    · have := le_mx h
      omega
theorem mx_mem : ∀ {l : List Nat}, l ≠ [] → mx l ∈ l
  | [], h => absurd rfl h
  | x :: l, _ => by
    show max x (mx l) ∈ _
    by_cases e : l = []
    · subst e
      show max x 0 ∈ _
      simp
    · have := mx_mem e
      by_cases z : x ≤ mx l
      · rw [Nat.max_eq_right z]
        exact List.mem_cons_of_mem _ this
      · rw [Nat.max_eq_left (by omega)]
        exact List.mem_cons_self ..
theorem Times.sum {ts : List Nat} (h : Times ts) : mx ts ≤ ts.sum ∧ ts.sum ≤ ts.length * mx ts ∧ ts.sum ≤ 24000 ∧ mx ts ≤ 1000 := by
  have a : ∀ l : List Nat, ∀ m, (∀ x ∈ l, x ≤ m) → l.sum ≤ l.length * m := by
    intro l m
    induction l with
    | nil => intro _; exact Nat.zero_le _
    | cons x l ih =>
      intro h
      have := ih fun y hy => h y (List.mem_cons_of_mem _ hy)
      have := h x (List.mem_cons_self ..)
      rw [List.sum_cons, List.length_cons, Nat.succ_mul]
      omega
  have b : ∀ l : List Nat, ∀ x ∈ l, x ≤ l.sum := by
    intro l
    induction l with
    | nil => intro x h; cases h
    | cons y l ih =>
      intro x h
      rw [List.sum_cons]
      rcases List.mem_cons.mp h with rfl | h
      · omega
      · have := ih x h
        omega
  have m := mx_mem h.1
  have := a ts (mx ts) fun x hx => le_mx hx
  have h14 := h.2.2 _ m
  have := a ts 1000 h.2.2
  have := h.2.1
  have : ts.length * 1000 ≤ 24 * 1000 := Nat.mul_le_mul_right 1000 h.2.1
  exact ⟨b ts _ m, by assumption, by omega, h14⟩
theorem S_times {ts : List Nat} {p : Nat} {c : Nat} {Q : KD} (h : Times ts) (p1 : 1 ≤ p) (p2 : p ≤ 12) {QX : KXD} (q : Q .non c) : m_look_at_times [tsD ts, .int p] c Q QX := by
  refine ⟨rfl, ?_⟩
  simp [g_look_at_times, start3]
  refine S_ints_nat (fun n hn => by have := h.2.2 n hn; omega) ?_
  have hl : 0 < ts.length := List.length_pos_iff.mpr h.1
  have := h.2.1
  simp
  rw [if_pos (by omega), if_neg (by omega)]
  refine S_int_ok (by omega) (by omega) ?_
  simp
  exact q
/-- the soonest end, in parts of p -/
def En (ts : List Nat) (p : Nat) : Nat := max ts.sum (mx ts * p)
theorem S_told_soonest {ts : List Nat} {p : Nat} {c : Nat} {Q : KD} (h : Times ts) (p1 : 1 ≤ p) (p2 : p ≤ 12) (q : Q (tk p (En ts p)) c) : m_told_soonest [tsD ts, .int p] c Q := by
  refine ⟨rfl, ?_⟩
  simp [runM, g_told_soonest, start3]
  rw [intsOf_nD]
  simp only [sum_nD]
  refine S_lowN (by omega) (by omega) ?_
  obtain ⟨a, as, ea, em⟩ := max_at (l := ts.map fun n : Nat => (n : Int)) (M := (mx ts : Int)) (fun x hx => by
    obtain ⟨y, hy, rfl⟩ := List.mem_map.mp hx
    have := le_mx hy
    omega) (List.mem_map_of_mem (mx_mem h.1))
  simp only [ea]
  rw [em]
  have ew := Press.whole (P := p) (t := mx ts) (by omega)
  have ed : (D.tup [.int (mx ts : Int), .int 1]) = tk p (mx ts * p) := by
    show _ = D.tup [.int ((f1 p (mx ts * p) : Nat) : Int), .int ((f2 p (mx ts * p) : Nat) : Int)]
    rw [ew.1, ew.2]
    rfl
  rw [ed]
  refine S_below1 (by omega) (by omega) ?_
  simp only
  unfold En at q
  by_cases z : ts.sum < mx ts * p
  · rw [decide_eq_true z, if_pos rfl]
    rw [Nat.max_eq_right (by omega)] at q
    exact q
  · rw [decide_eq_false z, if_neg (by decide)]
    rw [Nat.max_eq_left (by omega)] at q
    exact q
theorem S_soonestP {ts : List Nat} {p : Nat} {c : Nat} {Q : KD} (h : Times ts) (p1 : 1 ≤ p) (p2 : p ≤ 12) {QX : KXD} (q : Q (tk p (En ts p)) c) : m_soonest [tsD ts, .int p] c Q QX := by
  refine ⟨rfl, ?_⟩
  simp [g_soonest, start3]
  exact S_times h p1 p2 (S_told_soonest h p1 p2 q)
end Law67

set_option maxHeartbeats 4000000
namespace Law67
open PySem PySem.Spec PyProof.Rows
open L2 hiding FnOk Room
open L3
open Press (f1 f2 Pc lay nxt amt Clash)
/-! ### parted -/
abbrev pcD (P : Nat) (x : Pc) : D := .tup [nD x.p, tk P x.a, tk P x.b, nD x.j]
theorem tk_py (P x : Nat) : pyD 64 (tk P x) = true := by
  show pyDL 63 [_, _] = true
  exact pyDL_of fun d hd => by
    simp at hd
    rcases hd with rfl | rfl <;> exact pyD_int
theorem tk_eqv {P x y : Nat} (hP : 0 < P) : eqvD (tk P x) (tk P y) = decide (x = y) := by
  rw [eqvD_dec rfl rfl]
  refine decide_eq_decide.mpr ⟨fun h => ?_, fun h => by rw [h]⟩
  have h' := D.tup.inj h
  injection h' with a b
  injection b with b _
  exact Press.inj hP (Int.ofNat_inj.mp (D.int.inj a)) (Int.ofNat_inj.mp (D.int.inj b))
theorem lay_split {E p h k x : Nat} {xs : List Nat} (h0 : 0 < x) (h1 : h < E) (h2 : x ≤ E) (h3 : E < h + x) : lay E p h k (x :: xs) = ⟨p, h, E, k⟩ :: lay E (p + 1) 0 k ((h + x - E) :: xs) := by
  rw [lay, if_neg (by omega), if_pos h3, lay, if_neg (by omega), if_neg (by omega)]
  have : nxt E (p + 1) (0 + (h + x - E)) = (p + 1, h + x - E) := by
    unfold nxt
    rw [if_neg (by omega), Nat.zero_add]
  rw [this, Nat.zero_add]
theorem lay_fit {E p h k x : Nat} {xs : List Nat} (h0 : 0 < x) (h3 : ¬ E < h + x) : lay E p h k (x :: xs) = ⟨p, h, h + x, k⟩ :: lay E p (h + x) k (0 :: xs) := by
  rw [lay, if_neg (by omega), if_neg h3, lay, if_pos rfl]
theorem lay_zero {E p h k : Nat} {xs : List Nat} : lay E p h k (0 :: xs) = lay E (nxt E p h).1 (nxt E p h).2 (k + 1) xs := by
  rw [lay, if_pos rfl]
theorem tk_zero {P : Nat} (hP : 0 < P) : tk P 0 = .tup [.int 0, .int 1] := by
  have := Press.whole (P := P) (t := 0) hP
  rw [Nat.zero_mul] at this
  show D.tup [.int ((f1 P 0 : Nat) : Int), .int ((f2 P 0 : Nat) : Int)] = _
  rw [this.1, this.2]
  rfl
theorem tk_whole {P t : Nat} (hP : 0 < P) : tk P (t * P) = .tup [.int (t : Int), .int 1] := by
  have := Press.whole (P := P) (t := t) hP
  show D.tup [.int ((f1 P (t * P) : Nat) : Int), .int ((f2 P (t * P) : Nat) : Int)] = _
  rw [this.1, this.2]
  rfl
def All (ts : List Nat) (p : Nat) : List Pc := lay (En ts p) 0 0 0 (ts.map (· * p))
theorem En_ge {ts : List Nat} {p t : Nat} (h : t ∈ ts) : t * p ≤ En ts p := by
  have := Nat.mul_le_mul_right p (le_mx h)
  unfold En
  omega
theorem All_zero {ts : List Nat} {p : Nat} (hp : 0 < p) (h : En ts p = 0) : (∀ t ∈ ts, t = 0) ∧ All ts p = [] := by
  have z : ∀ t ∈ ts, t = 0 := fun t ht => by
    have := En_ge (p := p) ht
    rw [h] at this
    have : t * p = 0 := by omega
    rcases Nat.mul_eq_zero.mp this with e | e
    · exact e
    · omega
  refine ⟨z, Press.lay_none fun x hx => ?_⟩
  obtain ⟨t, ht, rfl⟩ := List.mem_map.mp hx
  show t * p = 0
  rw [z t ht, Nat.zero_mul]
theorem sum_mul (p : Nat) : ∀ ts : List Nat, (ts.map (· * p)).sum = ts.sum * p
  | [] => by simp
  | t :: ts => by rw [List.map_cons, List.sum_cons, List.sum_cons, sum_mul p ts, Nat.add_mul]
theorem All_good {ts : List Nat} {p : Nat} (hp : 0 < p) : ∀ x ∈ All ts p, x.a < x.b ∧ x.b ≤ En ts p ∧ x.p < p ∧ x.j < ts.length := fun x hx => by
  by_cases h0 : En ts p = 0
  · rw [(All_zero hp h0).2] at hx
    cases hx
  · have hE : 0 < En ts p := by omega
    have g := Press.lay_good hE hE (fun y hy => by
      obtain ⟨t, ht, rfl⟩ := List.mem_map.mp hy
      exact En_ge ht) x hx
    have g1 := g.to
    have g2 := g.lt
    have g3 := g.j2
    rw [List.length_map] at g3
    rw [sum_mul, Nat.zero_mul] at g1
    have : ts.sum * p ≤ En ts p * p := Nat.mul_le_mul_right p (by unfold En; omega)
    refine ⟨g.lt, g.le, ?_, by omega⟩
    refine Nat.lt_of_mul_lt_mul_right (a := En ts p) ?_
    rw [Nat.mul_comm p]
    omega
theorem All_pw {ts : List Nat} {p : Nat} (hp : 0 < p) : (All ts p).Pairwise fun x y => ¬ Press.Clash x y := by
  by_cases h0 : En ts p = 0
  · rw [(All_zero hp h0).2]
    exact List.Pairwise.nil
  · have hE : 0 < En ts p := by omega
    exact Press.lay_pw hE hE fun y hy => by
      obtain ⟨t, ht, rfl⟩ := List.mem_map.mp hy
      exact En_ge ht
theorem All_amt {ts : List Nat} {p : Nat} (hp : 0 < p) (i : Nat) : Press.amt i (All ts p) = ts.getD i 0 * p := by
  by_cases h0 : En ts p = 0
  · rw [(All_zero hp h0).2]
    have : ts.getD i 0 = 0 := by
      rw [List.getD_eq_getElem?_getD]
      by_cases hi : i < ts.length
      · rw [List.getElem?_eq_getElem hi]
        exact (All_zero hp h0).1 _ (List.getElem_mem hi)
      · rw [List.getElem?_eq_none (by omega)]
        rfl
    rw [this, Nat.zero_mul]
    rfl
  · have hE : 0 < En ts p := by omega
    have := Press.lay_amt hE (p := 0) (j := 0) hE (fun y hy => by
      obtain ⟨t, ht, rfl⟩ := List.mem_map.mp hy
      exact En_ge ht) i (xs := ts.map (· * p))
    rw [Nat.zero_add] at this
    show Press.amt i (lay _ _ _ _ _) = _
    rw [this, List.getD_eq_getElem?_getD, List.getD_eq_getElem?_getD, List.getElem?_map]
    cases ts[i]? with
    | none => exact (Nat.zero_mul p).symm
    | some t => rfl
abbrev tkP (P x : Nat) : PyData := .tuple [.int ((f1 P x : Nat) : Int), .int ((f2 P x : Nat) : Int)]
abbrev pcP (P : Nat) (x : Pc) : PyData := .tuple [.int (x.p : Int), tkP P x.a, tkP P x.b, .int (x.j : Int)]
theorem toPy_pcs (p : Nat) : ∀ l : List Pc, toPyL (l.map (pcD p)) = some (l.map (pcP p))
  | [] => by simp [toPyL]
  | x :: l => by
    rw [List.map_cons]
    unfold toPyL
    rw [toPy_pcs p l]
    rfl
abbrev keepD (d : D) : Bool := true
theorem S_parted {ts : List Nat} {p : Nat} {c : Nat} {Q : KD} {QX : KXD} (h : Times ts) (p1 : 1 ≤ p) (p2 : p ≤ 12) (q : ∀ L : List Pc, L.Perm (All ts p) → Q (.tup (L.map (pcD p))) c) : m_parted [tsD ts, .int p] c Q QX := by
  refine ⟨rfl, ?_⟩
  simp [g_parted, start3, -forL]
  refine S_times h p1 p2 (S_told_soonest h p1 p2 ?_)
  have hp0 : 0 < p := by omega
  have hp : p ≤ 100 := by omega
  generalize hE : En ts p = E
  rw [← tk_zero hp0]
  have hall : (All ts p).length ≤ 48 := by
    have := Press.lay_len (E := En ts p) (xs := ts.map (· * p)) (p := 0) (h := 0) (j := 0)
    rw [List.length_map] at this
    have := h.2.1
    show (lay _ _ _ _ _).length ≤ _
    omega
  refine for_rule (I := fun rr ρ c' => c' = c ∧ ∃ (rest : List Nat) (k pr hh : Nat) (found : List Pc) (s6 s7 s8 s9 s10 : SV), rr = enumL k (rest.map nD) ∧ (∀ t ∈ rest, t ∈ ts) ∧ ρ = [.val (tsD ts), .val (.int (p : Int)), .val (tk p E), .own (found.map (pcD p)), .val (nD pr), .val (tk p hh), s6, s7, s8, s9, s10] ∧ (0 < E → hh < E) ∧ hh ≤ E ∧ found ++ lay E pr hh k (rest.map (· * p)) = All ts p) ?_ ?_ _ _ _ ⟨rfl, ts, 0, 0, 0, [], _, _, _, _, _, rfl, fun _ h => h, rfl, fun h => h, Nat.zero_le _, by unfold All; rw [hE]; rfl⟩
  · rintro d r ρ c' ⟨rfl, rest, k, pr, hh, found, s6, s7, s8, s9, s10, e, hr, rfl, h1, h2, ea⟩ N hN
    cases rest with
    | nil => cases e
    | cons t rest =>
      obtain ⟨rfl, rfl⟩ := List.cons.inj (show d :: r = .tup [.int k, nD t] :: enumL (k + 1) (rest.map nD) from e)
      have htE : t * p ≤ E := hE ▸ En_ge (hr t (List.mem_cons_self ..))
      simp
      rw [← tk_whole (t := t) hp0]
      rw [List.map_cons] at ea
      refine while_rule (I := fun ρ c'' μ => c'' = c' ∧ ∃ (pr hh x : Nat) (found : List Pc) (s9 : SV), μ = x ∧ ρ = [.val (tsD ts), .val (.int (p : Int)), .val (tk p E), .own (found.map (pcD p)), .val (nD pr), .val (tk p hh), .val (nD k), .val (nD t), .val (tk p x), s9, s10] ∧ ((0 < x ∧ x ≤ E ∧ hh < E) ∨ (x = 0 ∧ hh ≤ E)) ∧ found ++ lay E pr hh k (x :: rest.map (· * p)) = All ts p) (μ := t * p) ⟨rfl, pr, hh, t * p, found, _, rfl, rfl, by omega, ea⟩ ?_
      rintro μ ρ c'' ⟨rfl, pr, hh, x, found, s9, rfl, rfl, hx, ea⟩ M hM
      simp
      have hfl : found.length ≤ 48 := by
        have := congrArg List.length ea
        rw [List.length_append] at this
        omega
      have e1 : (pr : Int) + 1 = ((pr + 1 : Nat) : Int) := rfl
      by_cases hx0 : μ = 0
      · subst hx0
        rw [if_neg (by rw [Press.pos_iff hp0]; omega)]
        refine ⟨⟨tk_py _ _, tk_py _ _⟩, ?_⟩
        rw [tk_eqv hp0]
        rw [lay_zero] at ea
        have hn : ∀ t ∈ rest, t ∈ ts := fun y hy => hr y (List.mem_cons_of_mem _ hy)
        unfold nxt at ea
        by_cases z : hh = E
        · rw [decide_eq_true z, if_pos rfl]
          rw [if_pos z] at ea
          rw [e1, ← tk_zero hp0]
          exact hN _ _ ⟨rfl, rest, k + 1, pr + 1, 0, found, _, _, _, _, _, rfl, hn, rfl, fun h => h, Nat.zero_le _, ea⟩
        · rw [decide_eq_false z, if_neg (by decide)]
          rw [if_neg z] at ea
          exact hN _ _ ⟨rfl, rest, k + 1, pr, hh, found, _, _, _, _, _, rfl, hn, rfl, fun h => by omega, by omega, ea⟩
      · rw [if_pos (by rw [Press.pos_iff hp0]; omega)]
        refine S_plus hp0 hp (S_below1 hp0 hp ?_)
        simp only
        by_cases z : E < hh + μ
        · rw [decide_eq_true z, if_pos rfl]
          rw [lay_split (by omega) (by omega) (by omega) z] at ea
          refine ⟨by omega, ?_⟩
          simp
          refine ⟨mok (f2_small hp0 hp), mok (f2_small hp0 hp), mok (f2_small hp0 hp), ?_⟩
          have hm := mul_small (f2_small (x := hh + μ) hp0 hp) (f2_small (x := E) hp0 hp)
          have hle := Press.minus_le (P := p) (x := hh + μ) (y := E) hp0 (by omega)
          have hmi := Press.minus (P := p) (x := hh + μ) (y := E) hp0 (by omega)
          have es : ((f1 p (hh + μ) : Nat) : Int) * (f2 p E : Nat) - (f1 p E : Nat) * (f2 p (hh + μ) : Nat) = ((f1 p (hh + μ) * f2 p E - f1 p E * f2 p (hh + μ) : Nat) : Int) := by
            rw [Int.natCast_sub hle, Int.natCast_mul, Int.natCast_mul]
          rw [es]
          refine S_low (x := hh + μ - E) hp0 hm.1 hm.2 (by omega) (by rw [← Int.natCast_mul, ← Int.natCast_mul, ← Int.natCast_mul, hmi]) ?_
          rw [e1, ← tk_zero hp0, show List.map (pcD p) found ++ [D.tup [nD pr, tk p hh, tk p E, nD k]] = (found ++ [(⟨pr, hh, E, k⟩ : Pc)]).map (pcD p) by rw [List.map_append]; rfl]
          exact hM _ _ (hh + μ - E) (by omega) ⟨rfl, pr + 1, 0, hh + μ - E, found ++ [⟨pr, hh, E, k⟩], _, rfl, rfl, by omega, by rw [List.append_assoc]; exact ea⟩
        · rw [decide_eq_false z, if_neg (by decide)]
          rw [lay_fit (by omega) z] at ea
          refine ⟨by omega, ?_⟩
          rw [← tk_zero hp0, show List.map (pcD p) found ++ [D.tup [nD pr, tk p hh, tk p (hh + μ), nD k]] = (found ++ [(⟨pr, hh, hh + μ, k⟩ : Pc)]).map (pcD p) by rw [List.map_append]; rfl]
          exact hM _ _ 0 (by omega) ⟨rfl, pr, hh + μ, 0, found ++ [⟨pr, hh, hh + μ, k⟩], _, rfl, rfl, by omega, by rw [List.append_assoc]; exact ea⟩
  · rintro ρ c' ⟨rfl, rest, k, pr, hh, found, s6, s7, s8, s9, s10, e, hr, rfl, h1, h2, ea⟩
    cases rest with
    | cons t rest => cases e
    | nil =>
      rw [show found ++ lay E pr hh k (List.map (· * p) []) = found from List.append_nil _] at ea
      subst ea
      have hg := All_good (ts := ts) (p := p) hp0
      simp
      refine comp_filter keepD (fun d => d) _ _ (fun d hd A B hA hB => ?_) ?_
      · obtain ⟨x, hx, rfl⟩ := List.mem_map.mp hd
        simp
        refine ⟨⟨tk_py _ _, tk_py _ _⟩, ?_⟩
        rw [tk_eqv hp0, decide_eq_false (by have := (hg x (by assumption)).1; omega)]
        exact hA rfl
      · rw [List.filter_eq_self.mpr fun _ _ => rfl, List.map_id']
        refine .inr ⟨_, toPy_pcs p _, PySem.W.AllAlike.of fun a b => ?_, PySem.W.Sortable.tuples fun b => ⟨_, _, rfl⟩, ?_, fun d hd => ?_, fun l' hl' => ?_⟩
        · rfl
        · rw [List.length_map]
          omega
        · obtain ⟨x, hx, rfl⟩ := List.mem_map.mp hd
          show _ ≤ 64
          simp [PyData.depth, PyData.depthAll, tkP, pcP]


        · obtain ⟨L, hL, rfl⟩ := Dues.perm_map_inv hl'.symm _ rfl
          exact q L hL.symm
end Law67

set_option maxHeartbeats 4000000
namespace Law67
open PySem PySem.Spec PyProof.Rows
open L2 hiding FnOk Room
open L3
/-! ### what _law_odd and _law_bent may answer -/
mutual
def niceD : Nat → D → Bool
  | _, .non => true
  | _, .bl _ => true
  | _, .int i => decide (i.natAbs < 2147483648)
  | _, .str x => decide (x.length ≤ 1000)
  | n + 1, .tup l => decide (l.length ≤ 50) && niceL n l
  | n + 1, .lst l => decide (l.length ≤ 50) && niceL n l
  | _, .dct (.k _) _ => true
  | _, _ => false
def niceL : Nat → List D → Bool
  | _, [] => true
  | n, d :: l => niceD n d && niceL n l
end
theorem niceL_mem {n : Nat} : ∀ {l : List D} {d : D}, niceL n l = true → d ∈ l → niceD n d = true
  | [], d, _, h => by cases h
  | x :: l, d, q, h => by
    unfold niceL at q
    rw [Bool.and_eq_true] at q
    rcases List.mem_cons.mp h with rfl | h
    · exact q.1
    · exact niceL_mem q.2 h
theorem nice_ty {n : Nat} {d : D} (h : niceD n d = true) : (tyName d).isSome = true := by
  cases d with
  | dct ks l => cases ks <;> first | rfl | (cases n <;> simp [niceD] at h)
  | non => rfl
  | bl b => rfl
  | int i => rfl
  | str x => rfl
  | tup l => rfl
  | lst l => rfl
  | dic l => cases n <;> simp [niceD] at h
  | ty n' => cases n <;> simp [niceD] at h
  | rf a => cases n <;> simp [niceD] at h
  | pot => cases n <;> simp [niceD] at h
  | exc n' d => cases n <;> simp [niceD] at h
  | clo a o => cases n <;> simp [niceD] at h
  | scr l => cases n <;> simp [niceD] at h
  | lam a F0 p => cases n <;> simp [niceD] at h
theorem S_heard {TT : TLs} {d : D} {c : Nat} {Q : KD} (hd : TT.dom d) (h : TT.tl d [] c (fun v c => Q (.tup [.non, v]) c) fun n v c => errs.contains n = true ∧ Q (.tup [.exc n v, .non]) c) : m_law_heard TT [d] c Q := by
  refine ⟨rfl, ?_⟩
  simp [runM, g_law_heard, start3]
  exact ⟨hd, by simpa using h⟩
/-- a call is refused by the error n with the value v -/
def Refuses (TT : TLs) (n : Str) (v : D) (d : D) : Prop := TT.dom d ∧ ∀ c (Q : KD) (QX : KXD), QX n v c → TT.tl d [] c Q QX
theorem S_refused {TT : TLs} {ds : List D} {is_it v : D} {n : Str} {c : Nat} {Q : KD} {y : PyData} (hn : errs.contains n = true) (hl : ∀ d ∈ ds, Refuses TT n v d) (hi : TT.dom is_it) (hi2 : ∀ c (Q : KD) (QX : KXD), Q (.bl true) c → TT.tl is_it [.exc n v] c Q QX) (hv : ShowP v y) (hz : ds.length ≤ 1000) (q : Q (.bl true) c) : m_law_all_refused TT [.lst ds, is_it, v] c Q := by
  refine ⟨rfl, ?_⟩
  simp [runM, g_law_all_refused, start3, -compL]
  refine comp_map (fun _ => .exc n v) _ _ (fun d hd K hK => ?_) ?_
  · obtain ⟨h1, h2⟩ := hl d hd
    simp
    refine S_heard h1 (h2 _ _ _ ⟨hn, ?_⟩)
    show K (.exc n v) c
    exact hK
  · refine comp_map (fun _ => .bl true) _ _ (fun d hd K hK => ?_) ?_
    · obtain ⟨_, _, rfl⟩ := List.mem_map.mp hd
      simp
      refine ⟨hi, hi2 _ _ _ ?_⟩
      have hn' : n ∈ errs := by simpa using hn
      simp [hn']
      refine ⟨y, hv, y, hv, ?_⟩
      simpa using hK
    · rw [bls_true]
      simp
      rw [show (ds.all fun x => true) = true from List.all_eq_true.mpr fun _ _ => rfl]
      exact q
end Law67

set_option maxHeartbeats 4000000
namespace Law67
open PySem PySem.Spec PyProof.Rows
open L2 hiding FnOk Room
open L3
theorem nice_tup {n : Nat} {l : List D} (h : niceD n (.tup l) = true) : l.length ≤ 50 ∧ ∃ m, n = m + 1 ∧ niceL m l = true := by
  cases n with
  | zero => simp [niceD] at h
  | succ m =>
    unfold niceD at h
    rw [Bool.and_eq_true] at h
    exact ⟨of_decide_eq_true h.1, m, rfl, h.2⟩
theorem nice_all {n : Nat} {l : List D} (h : niceD n (.tup l) = true) : L3.tyAll (.tup l) = true := by
  obtain ⟨_, m, _, h⟩ := nice_tup h
  exact List.all_eq_true.mpr fun d hd => nice_ty (niceL_mem h hd)
theorem nice_any {n : Nat} {d : D} (h : niceD n d = true) : L3.tyAll d = true := by
  cases d with
  | tup l => exact nice_all h
  | dct ks l => cases ks <;> first | rfl | (cases n <;> simp [niceD] at h)
  | non => rfl
  | bl b => rfl
  | int i => rfl
  | str x => rfl
  | lst l => rfl
  | dic l => cases n <;> simp [niceD] at h
  | ty n' => cases n <;> simp [niceD] at h
  | rf a => cases n <;> simp [niceD] at h
  | pot => cases n <;> simp [niceD] at h
  | exc n' d => cases n <;> simp [niceD] at h
  | clo a o => cases n <;> simp [niceD] at h
  | scr l => cases n <;> simp [niceD] at h
  | lam a F0 p => cases n <;> simp [niceD] at h
theorem isInt_inv {lo hi : Int} {d : D} (h : L3.isIntB lo hi d = true) : ∃ v, d = .int v ∧ lo ≤ v ∧ v ≤ hi := by
  cases d with
  | int v => exact ⟨v, rfl, of_decide_eq_true h⟩
  | _ => cases h
theorem ints_inv {hi : Int} : ∀ {l : List D}, (∀ d ∈ l, L3.isIntB 0 hi d = true) → ∃ o : List Nat, l = o.map nD ∧ ∀ n ∈ o, (n : Int) ≤ hi
  | [], _ => ⟨[], rfl, fun _ h => by cases h⟩
  | d :: l, h => by
    obtain ⟨v, rfl, h0, h1⟩ := isInt_inv (h d List.mem_cons_self)
    obtain ⟨o, rfl, ho⟩ := ints_inv fun d hd => h d (List.mem_cons_of_mem _ hd)
    obtain ⟨n, rfl⟩ := Int.eq_ofNat_of_zero_le h0
    exact ⟨n :: o, rfl, fun m hm => by
      rcases List.mem_cons.mp hm with rfl | hm
      · exact h1
      · exact ho m hm⟩
theorem areInts_inv {hi : Int} {d : D} (h : L3.areIntsB 0 hi d = true) : ∃ o : List Nat, d = .tup (o.map nD) ∧ ∀ n ∈ o, (n : Int) ≤ hi := by
  cases d with
  | tup l =>
    obtain ⟨o, rfl, ho⟩ := ints_inv (List.all_eq_true.mp h)
    exact ⟨o, rfl, ho⟩
  | _ => cases h
theorem S_law_is_int {d : D} {lo hi : Int} {c : Nat} {Q : KD} (h : (L3.tyName d).isSome = true) (q : Q (.bl (L3.isIntB lo hi d)) c) : m_law_is_int [d, .int lo, .int hi] c Q := by
  obtain ⟨h1, h2⟩ := S_is_int (lo := lo) (hi := hi) (c := c) (Q := Q) h q
  exact ⟨h1, h2⟩
theorem areInts_not {lo hi : Int} {v : List D} : L3.areIntsB lo hi (.tup v) = false ↔ ∃ a, a ∈ v ∧ L3.isIntB lo hi a = false := by
  show (v.all fun d => L3.isIntB lo hi d) = false ↔ _
  rw [List.all_eq_false]
  exact ⟨fun ⟨a, h1, h2⟩ => ⟨a, h1, by simpa using h2⟩, fun ⟨a, h1, h2⟩ => ⟨a, h1, by simpa using h2⟩⟩
end Law67

set_option maxHeartbeats 4000000
namespace Law67
open PySem PySem.Spec PyProof.Rows
open L2 hiding FnOk Room
open L3
/-! ### what is bent -/
mutual
def smD : Nat → D → Bool
  | _, .int i => decide (0 ≤ i ∧ i < 1000000)
  | _, .str x => decide (x = "order" ∨ x = "crowd")
  | n + 1, .tup l => decide (l.length ≤ 25) && smL n l
  | _, _ => false
def smL : Nat → List D → Bool
  | _, [] => true
  | n, d :: l => smD n d && smL n l
end
theorem smL_mem {n : Nat} : ∀ {l : List D} {d : D}, smL n l = true → d ∈ l → smD n d = true
  | [], d, _, h => by cases h
  | x :: l, d, q, h => by
    unfold smL at q
    rw [Bool.and_eq_true] at q
    rcases List.mem_cons.mp h with rfl | h
    · exact q.1
    · exact smL_mem q.2 h
theorem smL_of {n : Nat} : ∀ {l : List D}, (∀ d ∈ l, smD n d = true) → smL n l = true
  | [], _ => by unfold smL; rfl
  | x :: l, h => by
    unfold smL
    rw [Bool.and_eq_true]
    exact ⟨h x List.mem_cons_self, smL_of fun d hd => h d (List.mem_cons_of_mem _ hd)⟩
theorem niceL_of {n : Nat} : ∀ {l : List D}, (∀ d ∈ l, niceD n d = true) → niceL n l = true
  | [], _ => by unfold niceL; rfl
  | x :: l, h => by
    unfold niceL
    rw [Bool.and_eq_true]
    exact ⟨h x List.mem_cons_self, niceL_of fun d hd => h d (List.mem_cons_of_mem _ hd)⟩
theorem nice_mk {n : Nat} {l : List D} (hl : l.length ≤ 50) (h : ∀ d ∈ l, niceD n d = true) : niceD (n + 1) (.tup l) = true := by
  unfold niceD
  rw [Bool.and_eq_true]
  exact ⟨decide_eq_true hl, niceL_of h⟩
theorem nice_mkL {n : Nat} {l : List D} (hl : l.length ≤ 50) (h : ∀ d ∈ l, niceD n d = true) : niceD (n + 1) (.lst l) = true := by
  unfold niceD
  rw [Bool.and_eq_true]
  exact ⟨decide_eq_true hl, niceL_of h⟩
theorem nice_int {n : Nat} {i : Int} (h : i.natAbs < 2147483648) : niceD n (.int i) = true := by
  unfold niceD
  exact decide_eq_true h
theorem nice_str {n : Nat} {x : Str} (h : x.length ≤ 1000) : niceD n (.str x) = true := by
  unfold niceD
  exact decide_eq_true h
theorem nice_non {n : Nat} : niceD n .non = true := by unfold niceD; rfl
theorem nice_bl {n : Nat} {b : Bool} : niceD n (.bl b) = true := by unfold niceD; rfl
theorem smD_nice : ∀ (k j : Nat) (d : D), k ≤ j → smD k d = true → niceD j d = true := by
  intro k
  induction k with
  | zero =>
    intro j d hj h
    cases d with
    | int i =>
      unfold smD at h
      have h := of_decide_eq_true h
      exact nice_int (by omega)
    | str x =>
      unfold smD at h
      rcases of_decide_eq_true h with rfl | rfl
      · exact nice_str (by decide +kernel)
      · exact nice_str (by decide +kernel)
    | _ => simp [smD] at h
  | succ k ih =>
    intro j d hj h
    cases d with
    | int i =>
      unfold smD at h
      have h := of_decide_eq_true h
      exact nice_int (by omega)
    | str x =>
      unfold smD at h
      rcases of_decide_eq_true h with rfl | rfl
      · exact nice_str (by decide +kernel)
      · exact nice_str (by decide +kernel)
    | tup l =>
      unfold smD at h
      rw [Bool.and_eq_true] at h
      obtain ⟨i, rfl⟩ : ∃ i, j = i + 1 := ⟨j - 1, by omega⟩
      exact nice_mk (by have := of_decide_eq_true h.1; omega) fun d hd => ih i d (by omega) (smL_mem h.2 hd)
    | _ => simp [smD] at h
theorem smD_py : ∀ (k j : Nat) (d : D), k ≤ j → smD k d = true → pyD j d = true := by
  intro k
  induction k with
  | zero =>
    intro j d hj h
    cases d with
    | int i => exact pyD_int
    | str x =>
      unfold smD at h
      rcases of_decide_eq_true h with rfl | rfl
      · unfold pyD; decide +kernel
      · unfold pyD; decide +kernel
    | _ => simp [smD] at h
  | succ k ih =>
    intro j d hj h
    cases d with
    | int i => exact pyD_int
    | str x =>
      unfold smD at h
      rcases of_decide_eq_true h with rfl | rfl
      · unfold pyD; decide +kernel
      · unfold pyD; decide +kernel
    | tup l =>
      unfold smD at h
      rw [Bool.and_eq_true] at h
      obtain ⟨i, rfl⟩ : ∃ i, j = i + 1 := ⟨j - 1, by omega⟩
      unfold pyD
      exact pyDL_of fun d hd => ih i d (by omega) (smL_mem h.2 hd)
    | _ => simp [smD] at h
theorem cutD_le {l : List D} {a b : Option Int} : (L3.cutD l a b).length ≤ l.length := by
  unfold L3.cutD
  exact Nat.le_trans (List.length_take_le' ..) (by rw [List.length_drop]; omega)
theorem cutD_mem {l : List D} {a b : Option Int} {d : D} (h : d ∈ L3.cutD l a b) : d ∈ l := by
  unfold L3.cutD at h
  exact List.mem_of_mem_drop (List.mem_of_mem_take h)
theorem text_len {i : Int} (h : 0 ≤ i ∧ i < 1000000) : (Str.ofString i.repr).length ≤ 1000 :=
  Nat.le_trans (PyProof.Rows.toString_length_le h.1 (by decide : 0 < 6) h.2) (by decide)
theorem log_small {i : Int} (h : 0 ≤ i ∧ i < 1000000) : i.natAbs.log2 < 1920 := by
  by_cases z : i.natAbs = 0
  · rw [z]
    decide
  · refine (Nat.log2_lt z).mpr ?_
    have : (1000000 : Nat) ≤ 2 ^ 1920 := by decide +kernel
    omega
theorem bent_in {l : List D} {k : Nat} (hl : l.length ≤ 25) (h : ∀ d ∈ l, niceD k d = true) {d : D} (hd : d ∈ [D.lst l, D.tup (L3.cutD l (some 1) none), D.tup (L3.cutD l none (some (-1))), D.tup (l ++ L3.cutD l (some (-1)) none), D.tup l.reverse, D.tup [], D.non]) : niceD (k + 1) d = true := by
  have hc : ∀ a b, (L3.cutD l a b).length ≤ 25 := fun a b => Nat.le_trans cutD_le hl
  have hm : ∀ a b d, d ∈ L3.cutD l a b → niceD k d = true := fun a b d hd => h d (cutD_mem hd)
  simp only [List.mem_cons, List.not_mem_nil, or_false] at hd
  rcases hd with rfl | rfl | rfl | rfl | rfl | rfl | rfl
  · exact nice_mkL (by omega) h
  · exact nice_mk (by have := hc (some 1) none; omega) (hm _ _)
  · exact nice_mk (by have := hc none (some (-1)); omega) (hm _ _)
  · refine nice_mk (by rw [List.length_append]; have := hc (some (-1)) none; omega) fun d hd => ?_
    rcases List.mem_append.mp hd with z | z
    · exact h d z
    · exact hm _ _ d z
  · exact nice_mk (by rw [List.length_reverse]; omega) fun d hd => h d (List.mem_reverse.mp hd)
  · exact nice_mk (by decide) fun d hd => absurd hd List.not_mem_nil
  · exact nice_non
theorem S_bent : ∀ (n k : Nat) (d : D) (c : Nat) (Q : KD), k < n → k ≤ 60 → smD k d = true → c + 2 * k + 2 < 1000000 → (∀ d' c', niceD (k + 5) d' = true → c' ≤ c + 2 * k + 2 → Q d' c') → m_law_bent n [.pot, d] c Q := by
  intro n
  induction n with
  | zero => intro k d c Q h; exact absurd h (Nat.not_lt_zero _)
  | succ n ih =>
    intro k d c Q hn hk hd hc q
    refine ⟨rfl, ?_⟩
    cases d with
    | int i =>
      unfold smD at hd
      have hd := of_decide_eq_true hd
      simp [runM, g_law_bent, start3]
      refine ⟨rfl, log_small hd, S_law_of (by simp) (by simp) (by omega) fun d hd' => q d _ ?_ (by omega)⟩
      simp only [List.mem_cons, List.not_mem_nil, or_false] at hd'
      rcases hd' with rfl | rfl | rfl | rfl | rfl | rfl | rfl | rfl
      · exact nice_int (by omega)
      · exact nice_int (by omega)
      · exact nice_int (by omega)
      · exact nice_str (text_len hd)
      · exact nice_bl
      · exact nice_non
      · exact nice_mk (n := k + 4) (by simp) fun d hd' => by rw [List.mem_singleton.mp hd']; exact nice_int (by omega)
      · exact nice_int (by decide)
    | str x =>
      have hp : pyD 64 (.str x) = true := smD_py k 64 _ (by omega) hd
      unfold smD at hd
      have hd := of_decide_eq_true hd
      simp [runM, g_law_bent, start3]
      have hx : x.length = 5 := by rcases hd with rfl | rfl <;> decide +kernel
      refine ⟨rfl, by rw [hx]; decide +kernel, by omega, by omega, S_law_of (by simp) (by simp) (by omega) fun d hd' => q d _ ?_ (by omega)⟩
      simp only [List.mem_cons, List.not_mem_nil, or_false] at hd'
      rcases hd with rfl | rfl <;> rcases hd' with rfl | rfl | rfl | rfl | rfl | rfl
      all_goals first | exact nice_non | exact nice_int (by decide) | exact nice_str (by decide +kernel)
    | tup l =>
      cases k with
      | zero => simp [smD] at hd
      | succ k =>
        have hp : pyD 64 (.tup l) = true := smD_py (k + 1) 64 _ (by omega) hd
        unfold smD at hd
        rw [Bool.and_eq_true] at hd
        have hl := of_decide_eq_true hd.1
        have hin : ∀ d ∈ l, niceD (k + 5) d = true := fun d hd' => smD_nice k (k + 5) d (by omega) (smL_mem hd.2 hd')
        have hcl : ∀ a b, (L3.cutD l a b).length ≤ 25 := fun a b => Nat.le_trans cutD_le hl
        have oth : ∀ c', c' ≤ c + 1 → m_law_of [D.pot, D.lst [D.lst l, D.tup (L3.cutD l (some 1) none), D.tup (L3.cutD l none (some (-1))), D.tup (l ++ L3.cutD l (some (-1)) none), D.tup l.reverse, D.tup [], D.non]] c' Q := fun c' hc' =>
          S_law_of (by simp) (by simp) (by omega) fun d hd' => q d _ (bent_in hl hin hd') (by omega)
        simp [runM, g_law_bent, start3]
        refine ⟨rfl, ⟨hp, rfl⟩, ?_⟩
        have hco := hcl (some (-1)) none
        have ee : eqvD (D.tup l) (D.tup []) = l.isEmpty := by rw [show eqvD (D.tup l) (.tup []) = eqvDL l [] by unfold eqvD; rfl, eqvDL_nil]
        rw [ee]
        cases hl0 : l.isEmpty with
        | true =>
          rw [if_pos rfl]
          exact ⟨rfl, by omega, oth c (by omega)⟩
        | false =>
          rw [if_neg (by decide)]
          have hpos : 0 < l.length := by
            cases l with
            | nil => cases hl0
            | cons a r => exact Nat.succ_pos _
          refine S_take (by omega) (by omega) (by omega) fun x x0 x1 => ?_
          simp
          by_cases z : 0 < x
          · rw [if_pos z]
            refine S_take (by omega) (by omega) (by omega) fun y y0 y1 => ?_
            obtain ⟨m, rfl⟩ := Int.eq_ofNat_of_zero_le y0
            have hm : m < l.length := by omega
            simp
            rw [atI_nat (List.getElem?_eq_getElem hm)]
            simp
            refine ih k _ _ _ (by omega) (by omega) (smL_mem hd.2 (List.getElem_mem hm)) (by omega) fun d' c' hd' hc' => ?_
            have h1 := hcl none (some (m : Int))
            have h2 := hcl (some ((m : Int) + 1)) none
            refine ⟨by omega, by omega, q _ _ ?_ (by omega)⟩
            refine nice_mk ?_ fun d hd2 => ?_
            · rw [show ((m : Int) + 1) = ((m + 1 : Nat) : Int) by omega, cutD_to, cutD_from, List.length_append, List.length_cons, List.length_take, List.length_drop]
              omega
            · rcases List.mem_append.mp hd2 with w | w
              · exact hin d (cutD_mem w)
              · rcases List.mem_cons.mp w with rfl | w
                · exact hd'
                · exact hin d (cutD_mem w)
          · rw [if_neg z]
            exact ⟨rfl, by omega, oth _ (by omega)⟩
    | _ => unfold smD at hd; cases hd
end Law67

set_option maxHeartbeats 4000000
namespace Law67
open PySem PySem.Spec PyProof.Rows
open L2 hiding FnOk Room
open L3
theorem S_law_is_bool {a b : Bool} {c : Nat} {Q : KD} (h : a = b) (q : Q (.bl true) c) : m_law_is_bool [.bl a, .bl b] c Q := by
  refine ⟨rfl, ?_⟩
  simp [runM, g_law_is_bool, start3, h]
  exact ⟨rfl, q⟩
end Law67

set_option maxHeartbeats 4000000
namespace Law67
open PySem PySem.Spec PyProof.Rows
open L2 hiding FnOk Room
open L3
open Press (f1 f2 Pc lay nxt amt Clash)
/-! ### fractions -/
def rD (q : Rat) : D := .tup [.int q.num, .int (q.den : Nat)]
theorem mkR {n : Int} {d : Nat} (h : 0 < d) : (mkRat n d).num = n / ((n.natAbs.gcd d : Nat) : Int) ∧ (mkRat n d).den = d / n.natAbs.gcd d := by
  rw [Rat.mkRat_def, dif_neg (by omega)]
  exact ⟨Rat.num_normalize _, Rat.den_normalize _⟩
theorem mkR_den {n : Int} {d : Nat} (h : 0 < d) : (mkRat n d).den ≤ d := by
  rw [(mkR h).2]
  exact Nat.div_le_self _ _
theorem mkR_num {n : Nat} {d : Nat} (h : 0 < d) : (mkRat (n : Int) d).num ≤ n := by
  rw [(mkR h).1, Int.natAbs_natCast, ← Int.natCast_ediv]
  exact Int.ofNat_le.mpr (Nat.div_le_self _ _)
theorem rD_mk {n d : Nat} (h : 0 < d) : rD (mkRat n d) = .tup [.int ((n / n.gcd d : Nat) : Int), .int ((d / n.gcd d : Nat) : Int)] := by
  obtain ⟨h1, h2⟩ := mkR (n := (n : Int)) h
  unfold rD
  rw [h1, h2, Int.natAbs_natCast, ← Int.natCast_ediv]
theorem tk_rat {P x : Nat} (hP : 0 < P) : tk P x = rD (mkRat x P) := by
  rw [rD_mk hP]
  rfl
theorem rD_inj {x y : Rat} (h : rD x = rD y) : x = y := by
  have := D.tup.inj h
  simp at this
  exact Rat.ext this.1 (by omega)
variable {c : Nat} {Q : KD}
theorem S_lowR {t b : Nat} (hb : 0 < b) (hb2 : b < 2 ^ 8999) (q : Q (rD (mkRat t b)) c) : m_lowest [.int (t : Int), .int (b : Int)] c Q := by
  refine ⟨rfl, ?_⟩
  simp [runM, g_lowest, start3]
  refine S_common ?_
  have h1 := Nat.gcd_pos_of_pos_right t hb
  have h2 : Nat.gcd t b ≤ b := Nat.le_of_dvd hb (Nat.gcd_dvd_right t b)
  have hg : ((Nat.gcd t b : Nat) : Int).natAbs.log2 < 9000 := log_lt (by rw [Int.natAbs_natCast]; exact Nat.lt_of_le_of_lt h2 hb2)
  rw [rD_mk hb] at q
  rw [Int.natCast_ediv, Int.natCast_ediv] at q
  exact ⟨⟨by omega, hg⟩, ⟨by omega, hg⟩, q⟩
theorem S_law_gcd {a b : Nat} (q : Q (.int ((Nat.gcd a b : Nat) : Int)) c) : m_law_gcd [.int (a : Int), .int (b : Int)] c Q := by
  refine ⟨rfl, ?_⟩
  simp [runM, g_law_gcd, start3]
  refine while_rule (I := fun ρ c' μ => c' = c ∧ ∃ x y : Nat, ρ = [.val (.int (x : Int)), .val (.int (y : Int))] ∧ μ = y ∧ Nat.gcd x y = Nat.gcd a b) (μ := b) ⟨rfl, a, b, rfl, rfl, rfl⟩ ?_
  rintro μ ρ c' ⟨rfl, x, y, rfl, rfl, e⟩ N hN
  simp
  by_cases h0 : μ = 0
  · subst h0
    simp
    rw [Nat.gcd_zero_right] at e
    rw [e]
    exact q
  · rw [if_neg h0]
    have hlt : x % μ < μ := Nat.mod_lt _ (by omega)
    refine ⟨by omega, hN _ _ (x % μ) hlt ⟨rfl, μ, x % μ, by rw [Int.natCast_emod], rfl, ?_⟩⟩
    rw [← e, Nat.gcd_comm x μ, Nat.gcd_comm μ (x % μ)]
    exact (Nat.gcd_rec μ x).symm
theorem S_law_low {t b : Nat} (hb : 0 < b) (hb2 : b < 2 ^ 8999) (q : Q (rD (mkRat t b)) c) : m_law_low [.int (t : Int), .int (b : Int)] c Q := by
  refine ⟨rfl, ?_⟩
  simp [runM, g_law_low, start3]
  refine S_law_gcd ?_
  have h1 := Nat.gcd_pos_of_pos_right t hb
  have h2 : Nat.gcd t b ≤ b := Nat.le_of_dvd hb (Nat.gcd_dvd_right t b)
  have hg : ((Nat.gcd t b : Nat) : Int).natAbs.log2 < 9000 := log_lt (by rw [Int.natAbs_natCast]; exact Nat.lt_of_le_of_lt h2 hb2)
  rw [rD_mk hb] at q
  rw [Int.natCast_ediv, Int.natCast_ediv] at q
  exact ⟨⟨by omega, hg⟩, ⟨by omega, hg⟩, q⟩
theorem lt_dec (x y : Rat) : decide (x.num * (y.den : Int) < y.num * (x.den : Int)) = decide (x < y) := decide_eq_decide.mpr (Rat.lt_iff x y).symm
theorem S_belowR {x y : Rat} (hx : x.den < 2 ^ 63) (hy : y.den < 2 ^ 63) (q : Q (.bl (decide (x < y))) c) : m_is_below [rD x, rD y] c Q := by
  refine ⟨rfl, ?_⟩
  simp [runM, g_is_below, start3, rD]
  rw [lt_dec]
  exact ⟨.inr ⟨by omega, by omega⟩, .inr ⟨by omega, by omega⟩, q⟩
theorem S_law_less {x y : Rat} (hx : x.den < 2 ^ 63) (hy : y.den < 2 ^ 63) (q : Q (.bl (decide (x < y))) c) : m_law_less [rD x, rD y] c Q := by
  refine ⟨rfl, ?_⟩
  simp [runM, g_law_less, start3, rD]
  rw [lt_dec]
  exact ⟨.inr ⟨by omega, by omega⟩, .inr ⟨by omega, by omega⟩, q⟩
theorem mul_lt_pow {a b : Nat} (ha : a < 2147483648) (hb : b < 2147483648) : a * b < 2 ^ 62 := by
  have := Nat.mul_lt_mul'' ha hb
  exact Nat.lt_of_lt_of_le this (by decide)
structure SmQ (q : Rat) : Prop where
  nn : 0 ≤ q
  num : q.num < 2147483648
  den : q.den < 2147483648
theorem nat_num {q : Rat} (h : 0 ≤ q) : ∃ n : Nat, q.num = n := Int.eq_ofNat_of_zero_le (Rat.num_nonneg.mpr h)
/-- the difference of two small ones -/
theorem diff_sm {a b : Rat} (ha : SmQ a) (hb : SmQ b) (h : a < b) : ∃ t : Nat, b.num * (a.den : Int) - a.num * (b.den : Int) = (t : Int) ∧ t < 2 ^ 62 ∧ b - a = mkRat t (a.den * b.den) := by
  have h1 := (Rat.lt_iff a b).mp h
  obtain ⟨t, ht⟩ := Int.eq_ofNat_of_zero_le (show 0 ≤ b.num * (a.den : Int) - a.num * (b.den : Int) by omega)
  refine ⟨t, ht, ?_, ?_⟩
  · obtain ⟨n, hn⟩ := nat_num hb.nn
    obtain ⟨m, hm⟩ := nat_num ha.nn
    have := hb.num
    have h2 := mul_lt_pow (a := n) (b := a.den) (by omega) ha.den
    have h3 : (0 : Int) ≤ a.num * (b.den : Int) := Int.mul_nonneg (by omega) (by omega)
    rw [hn, ← Int.natCast_mul] at ht
    omega
  · rw [Rat.sub_def', ht, Nat.mul_comm]
end Law67

set_option maxHeartbeats 4000000
namespace Law67
open PySem PySem.Spec PyProof.Rows
open L2 hiding FnOk Room
open L3
open Press (f1 f2 Pc lay nxt amt Clash)
variable {c : Nat} {Q : KD}
/-! ### ticks, pieces: any data -/
theorem nice_two {n : Nat} {a b : D} (h : niceD n (.tup [a, b]) = true) : ∃ m, niceD m a = true ∧ niceD m b = true := by
  obtain ⟨_, m, _, h⟩ := nice_tup h
  exact ⟨m, niceL_mem h (by simp), niceL_mem h (by simp)⟩
theorem nice_rD {n : Nat} {q : Rat} (h : niceD n (rD q) = true) (h0 : 0 ≤ q) : SmQ q := by
  obtain ⟨_, m, _, h⟩ := nice_tup h
  have h1 := niceL_mem h (d := .int q.num) (by simp)
  have h2 := niceL_mem h (d := .int (q.den : Nat)) (by simp)
  unfold niceD at h1 h2
  have h1 := of_decide_eq_true h1
  have h2 := of_decide_eq_true h2
  have := Rat.num_nonneg.mpr h0
  exact ⟨h0, by omega, by omega⟩
theorem tick_of {i k : Int} (hi : 0 ≤ i) (hk : 1 ≤ k) (hg : Nat.gcd i.toNat k.toNat = 1) : ∃ q : Rat, 0 ≤ q ∧ D.tup [.int i, .int k] = rD q := by
  obtain ⟨n, rfl⟩ := Int.eq_ofNat_of_zero_le hi
  obtain ⟨m, rfl⟩ := Int.eq_ofNat_of_zero_le (show 0 ≤ k by omega)
  rw [Int.toNat_natCast, Int.toNat_natCast] at hg
  refine ⟨mkRat n m, Rat.num_nonneg.mp ?_, ?_⟩
  · rw [(mkR (by omega)).1, Int.natAbs_natCast, hg]
    simp
  · rw [rD_mk (by omega), hg, Nat.div_one, Nat.div_one]
theorem tick_inv {i k : Int} {q : Rat} (h : D.tup [.int i, .int k] = rD q) : 1 ≤ k ∧ Nat.gcd i.natAbs k.toNat = 1 := by
  have := D.tup.inj h
  simp at this
  obtain ⟨rfl, rfl⟩ := this
  have := q.den_pos
  exact ⟨by omega, by rw [Int.toNat_natCast]; exact q.reduced⟩
def TickD (d : D) : Prop := ∃ q : Rat, 0 ≤ q ∧ d = rD q
theorem S_is_whole {d : D} (h : (tyName d).isSome = true) (q1 : (∃ i, d = .int i) → Q (.bl true) c) (q2 : (¬ ∃ i, d = .int i) → Q (.bl false) c) : m_is_whole [d] c Q := by
  refine ⟨rfl, ?_⟩
  cases d with
  | int i => simp [runM, g_is_whole, start3]; exact ⟨rfl, q1 ⟨i, rfl⟩⟩
  | dct ks l => simp [runM, g_is_whole, start3]; exact ⟨h, q2 (by simp)⟩
  | ty _ | rf _ | pot | exc _ _ | clo _ _ | scr _ | lam _ _ _ => simp [tyName] at h
  | _ => simp [runM, g_is_whole, start3]; exact ⟨rfl, q2 (by simp)⟩
theorem not_two {v : List D} (h : ¬ ∃ a b, v = [a, b]) : ¬ TickD (.tup v) := fun ⟨q, _, e⟩ => h ⟨_, _, D.tup.inj e⟩
theorem S_is_tick {n : Nat} {d : D} (hd : niceD n d = true) (q1 : ∀ q : Rat, 0 ≤ q → d = rD q → Q (.bl true) c) (q2 : ¬ TickD d → Q (.bl false) c) : m_is_tick [d] c Q := by
  have nt := nice_ty hd
  refine ⟨rfl, ?_⟩
  cases d with
  | tup v =>
    match v, hd, q1, q2 with
    | [], _, _, q2 => simp [runM, g_is_tick, start3]; exact ⟨rfl, q2 (not_two (by simp))⟩
    | [a], _, _, q2 => simp [runM, g_is_tick, start3]; exact ⟨rfl, q2 (not_two (by simp))⟩
    | a :: b :: e :: r, _, _, q2 =>
      simp [runM, g_is_tick, start3]
      refine ⟨rfl, ?_⟩
      rw [if_neg (by omega)]
      exact q2 (not_two (by simp))
    | [a, b], hd, q1, q2 =>
      obtain ⟨m, ha, hb⟩ := nice_two hd
      simp [runM, g_is_tick, start3]
      refine ⟨rfl, S_is_whole (nice_ty ha) (fun ⟨i, hi⟩ => ?_) fun h => ?_⟩
      · subst hi
        simp
        refine S_is_whole (nice_ty hb) (fun ⟨k, hk⟩ => ?_) fun h => ?_
        · subst hk
          simp
          by_cases i0 : 0 ≤ i
          · rw [if_pos i0]
            by_cases k1 : 1 ≤ k
            · rw [if_pos k1]
              obtain ⟨n', rfl⟩ := Int.eq_ofNat_of_zero_le i0
              obtain ⟨m', rfl⟩ := Int.eq_ofNat_of_zero_le (show 0 ≤ k by omega)
              refine S_common ?_
              simp
              by_cases g : Nat.gcd n' m' = 1
              · rw [decide_eq_true (by omega)]
                obtain ⟨q, h0, e⟩ := tick_of i0 k1 (by simpa using g)
                exact q1 q h0 e
              · rw [decide_eq_false (by omega)]
                refine q2 fun ⟨q, _, e⟩ => g ?_
                have := (tick_inv e).2
                simpa using this
            · rw [if_neg k1]
              exact q2 fun ⟨q, _, e⟩ => k1 (tick_inv e).1
          · rw [if_neg i0]
            refine q2 fun ⟨q, h0, e⟩ => i0 ?_
            have := D.tup.inj e
            simp at this
            rw [this.1]
            exact Rat.num_nonneg.mpr h0
        · simp
          refine q2 fun ⟨q, _, e⟩ => h ?_
          have := D.tup.inj e
          simp at this
          exact ⟨_, this.2⟩
      · simp
        refine q2 fun ⟨q, _, e⟩ => h ?_
        have := D.tup.inj e
        simp at this
        exact ⟨_, this.1⟩
  | ty _ | rf _ | pot | exc _ _ | clo _ _ | scr _ | lam _ _ _ => simp [tyName] at nt
  | dct ks l' =>
    simp [runM, g_is_tick, start3]
    exact ⟨nt, q2 fun ⟨_, _, e⟩ => by cases e⟩
  | _ =>
    simp [runM, g_is_tick, start3]
    exact ⟨rfl, q2 fun ⟨_, _, e⟩ => by cases e⟩
theorem S_law_is_tick {n : Nat} {d : D} (hd : niceD n d = true) (q1 : ∀ q : Rat, 0 ≤ q → d = rD q → Q (.bl true) c) (q2 : ¬ TickD d → Q (.bl false) c) : m_law_is_tick [d] c Q := by
  have nt := nice_ty hd
  refine ⟨rfl, ?_⟩
  cases d with
  | tup v =>
    match v, hd, q1, q2 with
    | [], _, _, q2 => simp [runM, g_law_is_tick, start3]; exact ⟨rfl, q2 (not_two (by simp))⟩
    | [a], _, _, q2 => simp [runM, g_law_is_tick, start3]; exact ⟨rfl, q2 (not_two (by simp))⟩
    | a :: b :: e :: r, _, _, q2 =>
      simp [runM, g_law_is_tick, start3, -compL]
      refine ⟨rfl, ?_⟩
      rw [if_neg (by omega)]
      exact q2 (not_two (by simp))
    | [a, b], hd, q1, q2 =>
      obtain ⟨m, ha, hb⟩ := nice_two hd
      simp [runM, g_law_is_tick, start3]
      refine ⟨rfl, S_law_is_int (nice_ty ha) (S_law_is_int (nice_ty hb) ?_)⟩
      cases ea : L3.isIntB 0 10000000000000000000000000000000000000000 a with
      | false =>
        simp [blsOf]
        refine q2 fun ⟨q, h0, e⟩ => ?_
        rw [e] at hd
        have sm := nice_rD hd h0
        have := D.tup.inj e
        simp at this
        rw [this.1] at ea
        have := of_decide_eq_false ea
        have := Rat.num_nonneg.mpr h0
        have := sm.num
        omega
      | true =>
        cases eb : L3.isIntB 0 10000000000000000000000000000000000000000 b with
        | false =>
          simp [blsOf]
          refine q2 fun ⟨q, h0, e⟩ => ?_
          rw [e] at hd
          have sm := nice_rD hd h0
          have := D.tup.inj e
          simp at this
          rw [this.2] at eb
          have := of_decide_eq_false eb
          have := sm.den
          omega
        | true =>
          simp [blsOf]
          obtain ⟨i, rfl, i0, _⟩ := isInt_inv ea
          obtain ⟨k, rfl, k0, _⟩ := isInt_inv eb
          simp
          by_cases k1 : 0 < k
          · rw [if_pos k1]
            obtain ⟨n', rfl⟩ := Int.eq_ofNat_of_zero_le i0
            obtain ⟨m', rfl⟩ := Int.eq_ofNat_of_zero_le k0
            refine S_law_gcd ?_
            simp
            by_cases g : Nat.gcd n' m' = 1
            · rw [decide_eq_true (by omega)]
              obtain ⟨q, h0, e⟩ := tick_of i0 (show (1 : Int) ≤ m' by omega) (by simpa using g)
              exact q1 q h0 e
            · rw [decide_eq_false (by omega)]
              refine q2 fun ⟨q, _, e⟩ => g ?_
              have := (tick_inv e).2
              simpa using this
          · rw [if_neg k1]
            exact q2 fun ⟨q, _, e⟩ => k1 (by have := (tick_inv e).1; omega)
  | ty _ | rf _ | pot | exc _ _ | clo _ _ | scr _ | lam _ _ _ => simp [tyName] at nt
  | dct ks l' =>
    simp [runM, g_law_is_tick, start3]
    exact ⟨nt, q2 fun ⟨_, _, e⟩ => by cases e⟩
  | _ =>
    simp [runM, g_law_is_tick, start3]
    exact ⟨rfl, q2 fun ⟨_, _, e⟩ => by cases e⟩
structure Pq where
  p : Nat
  a : Rat
  b : Rat
  j : Nat
def pqD (x : Pq) : D := .tup [nD x.p, rD x.a, rD x.b, nD x.j]
structure GoodQ (p n : Nat) (x : Pq) : Prop where
  hp : x.p < p
  hj : x.j < n
  ha : 0 ≤ x.a
  hab : x.a < x.b
theorem pqD_inj {x y : Pq} (h : pqD x = pqD y) : x = y := by
  have := D.tup.inj h
  simp only [List.cons.injEq, D.int.injEq, and_true] at this
  obtain ⟨h1, h2, h3, h4⟩ := this
  cases x; cases y
  cases rD_inj h2
  cases rD_inj h3
  have h1 : (_ : Int) = _ := h1
  have h4 : (_ : Int) = _ := h4
  cases Int.ofNat_inj.mp h1
  cases Int.ofNat_inj.mp h4
  rfl
def PieceD (p n : Nat) (d : D) : Prop := ∃ x : Pq, d = pqD x ∧ GoodQ p n x
theorem nice_pq {m : Nat} {x : Pq} (h : niceD m (pqD x) = true) (h0 : 0 ≤ x.a) (h1 : 0 ≤ x.b) : SmQ x.a ∧ SmQ x.b := by
  obtain ⟨_, k, _, h⟩ := nice_tup h
  exact ⟨nice_rD (niceL_mem h (d := rD x.a) (by simp)) h0, nice_rD (niceL_mem h (d := rD x.b) (by simp)) h1⟩
theorem GoodQ.hb {p n : Nat} {x : Pq} (h : GoodQ p n x) : 0 ≤ x.b := by
  have := h.ha
  have := h.hab
  grind
theorem not_four {p n : Nat} {v : List D} (h : ¬ ∃ a b e f, v = [a, b, e, f]) : ¬ PieceD p n (.tup v) := fun ⟨x, e, _⟩ => h ⟨_, _, _, _, D.tup.inj e⟩
theorem four_cases (v : List D) : (∃ a b e f, v = [a, b, e, f]) ∨ (¬ (∃ a b e f, v = [a, b, e, f]) ∧ v.length ≠ 4) := by
  match v with
  | [] => exact .inr ⟨by simp, by simp⟩
  | [a] => exact .inr ⟨by simp, by simp⟩
  | [a, b] => exact .inr ⟨by simp, by simp⟩
  | [a, b, e] => exact .inr ⟨by simp, by simp⟩
  | [a, b, e, f] => exact .inl ⟨_, _, _, _, rfl⟩
  | a :: b :: e :: f :: g :: r => exact .inr ⟨by simp, by simp⟩
theorem nat_of {lo hi : Int} {d : D} {n : Nat} (h : L3.isIntB 0 ((n : Int) - 1) d = true) : ∃ k : Nat, d = nD k ∧ k < n := by
  obtain ⟨v, rfl, h0, h1⟩ := isInt_inv h
  obtain ⟨k, rfl⟩ := Int.eq_ofNat_of_zero_le h0
  exact ⟨k, rfl, by omega⟩
theorem nat_in {k n : Nat} (h : k < n) : L3.isIntB 0 ((n : Int) - 1) (nD k) = true := decide_eq_true (by omega)
theorem S_is_piece {m p n : Nat} {d : D} (hd : niceD m d = true) (q1 : PieceD p n d → Q (.bl true) c) (q2 : ¬ PieceD p n d → Q (.bl false) c) : m_is_piece [d, .int n, .int p] c Q := by
  have nt := nice_ty hd
  refine ⟨rfl, ?_⟩
  cases d with
  | tup v =>
    rcases four_cases v with ⟨a, b, e, f, rfl⟩ | ⟨h4, hl⟩
    · obtain ⟨_, k, _, hL⟩ := nice_tup hd
      have ha := niceL_mem hL (d := a) (by simp)
      have hb := niceL_mem hL (d := b) (by simp)
      have he := niceL_mem hL (d := e) (by simp)
      have hf := niceL_mem hL (d := f) (by simp)
      simp [runM, g_is_piece, start3]
      refine ⟨rfl, S_is_int (nice_ty ha) ?_⟩
      cases ea : L3.isIntB 0 ((p : Int) - 1) a with
      | false =>
        simp
        refine q2 fun ⟨x, e', g⟩ => ?_
        have := D.tup.inj e'
        simp at this
        rw [this.1, nat_in g.hp] at ea
        cases ea
      | true =>
        obtain ⟨pr, rfl, hpr⟩ := nat_of (lo := 0) (hi := 0) ea
        simp
        refine S_is_tick hb (fun qa qa0 eb => ?_) fun h => ?_
        · subst eb
          simp
          refine S_is_tick he (fun qb qb0 ee => ?_) fun h => ?_
          · subst ee
            simp
            refine S_is_int (nice_ty hf) ?_
            cases ef : L3.isIntB 0 ((n : Int) - 1) f with
            | false =>
              simp
              refine q2 fun ⟨x, e', g⟩ => ?_
              have := D.tup.inj e'
              simp at this
              rw [this.2.2.2, nat_in g.hj] at ef
              cases ef
            | true =>
              obtain ⟨j, rfl, hj⟩ := nat_of (lo := 0) (hi := 0) ef
              simp
              have sa := nice_rD hb qa0
              have sb := nice_rD he qb0
              refine S_belowR (by have := sa.den; omega) (by have := sb.den; omega) ?_
              by_cases z : qa < qb
              · rw [decide_eq_true z]
                exact q1 ⟨⟨pr, qa, qb, j⟩, rfl, hpr, hj, qa0, z⟩
              · rw [decide_eq_false z]
                refine q2 fun ⟨x, e', g⟩ => z ?_
                have := D.tup.inj e'
                simp at this
                rw [rD_inj this.2.1, rD_inj this.2.2.1]
                exact g.hab
          · simp
            refine q2 fun ⟨x, e', g⟩ => h ?_
            have := D.tup.inj e'
            simp at this
            exact ⟨_, g.hb, this.2.2.1⟩
        · simp
          refine q2 fun ⟨x, e', g⟩ => h ?_
          have := D.tup.inj e'
          simp at this
          exact ⟨_, g.ha, this.2.1⟩
    · simp [runM, g_is_piece, start3]
      refine ⟨rfl, ?_⟩
      rw [if_neg (by omega)]
      exact q2 (not_four h4)
  | ty _ | rf _ | pot | exc _ _ | clo _ _ | scr _ | lam _ _ _ => simp [tyName] at nt
  | dct ks l' =>
    simp [runM, g_is_piece, start3]
    exact ⟨nt, q2 fun ⟨_, e, _⟩ => by cases e⟩
  | _ =>
    simp [runM, g_is_piece, start3]
    exact ⟨rfl, q2 fun ⟨_, e, _⟩ => by cases e⟩
end Law67

set_option maxHeartbeats 4000000
namespace Law67
open PySem PySem.Spec PyProof.Rows
open L2 hiding FnOk Room
open L3
open Press (f1 f2 Pc lay nxt amt Clash)
variable {c : Nat} {Q : KD}
/-! ### pieces that do all -/
def amtQ (j : Nat) : List Pq → Rat
  | [] => 0
  | x :: l => (if x.j = j then x.b - x.a else 0) + amtQ j l
theorem amtQ_app (j : Nat) (x : Pq) : ∀ u : List Pq, amtQ j (u ++ [x]) = amtQ j u + (if x.j = j then x.b - x.a else 0)
  | [] => by
    show (if x.j = j then x.b - x.a else 0) + 0 = 0 + _
    rw [Rat.add_zero, Rat.zero_add]
  | y :: u => by
    show (if y.j = j then y.b - y.a else 0) + amtQ j (u ++ [x]) = _
    rw [amtQ_app j x u, ← Rat.add_assoc]
    rfl
structure Sma (p n : Nat) (x : Pq) : Prop where
  g : GoodQ p n x
  a : SmQ x.a
  b : SmQ x.b
theorem add_den (x y : Rat) : (x + y).den ≤ x.den * y.den := by
  rw [Rat.add_def']
  exact mkR_den (Nat.mul_pos x.den_pos y.den_pos)
theorem diff_den {p n : Nat} {x : Pq} (h : Sma p n x) : (x.b - x.a).den ≤ 2 ^ 62 := by
  obtain ⟨t, _, _, e⟩ := diff_sm h.a h.b h.g.hab
  rw [e]
  have h1 := mkR_den (n := (t : Int)) (d := x.a.den * x.b.den) (Nat.mul_pos x.a.den_pos x.b.den_pos)
  have h2 := mul_lt_pow h.a.den h.b.den
  omega
theorem amtQ_ok {p n j : Nat} : ∀ {u : List Pq}, (∀ x ∈ u, Sma p n x) → 0 ≤ amtQ j u ∧ (amtQ j u).den ≤ 2 ^ (62 * u.length)
  | [], _ => ⟨Rat.le_refl, by show (0 : Rat).den ≤ _; simp⟩
  | x :: u, h => by
    have hx := h x List.mem_cons_self
    obtain ⟨i1, i2⟩ := amtQ_ok (j := j) fun y hy => h y (List.mem_cons_of_mem _ hy)
    have hab := hx.g.hab
    show 0 ≤ (if x.j = j then x.b - x.a else 0) + amtQ j u ∧ ((if x.j = j then x.b - x.a else 0) + amtQ j u).den ≤ _
    by_cases z : x.j = j
    · rw [if_pos z]
      refine ⟨by grind, ?_⟩
      have h1 := add_den (x.b - x.a) (amtQ j u)
      have h2 := Nat.mul_le_mul (diff_den hx) i2
      rw [← Nat.pow_add] at h2
      rw [List.length_cons, Nat.mul_add, Nat.mul_one, Nat.add_comm]
      omega
    · rw [if_neg z, Rat.zero_add]
      refine ⟨i1, Nat.le_trans i2 (Nat.pow_le_pow_right (by decide) (by rw [List.length_cons]; omega))⟩
def ClashQ (x y : Pq) : Prop := x.a < y.b ∧ y.a < x.b ∧ (x.p = y.p ∨ x.j = y.j)
theorem clash_symm {x y : Pq} (h : ClashQ x y) : ClashQ y x := ⟨h.2.1, h.1, h.2.2.elim (fun e => .inl e.symm) fun e => .inr e.symm⟩
def endQ (ts : List Nat) (p : Nat) : Rat := mkRat (En ts p) p
structure Does (ts : List Nat) (p : Nat) (L : List Pq) : Prop where
  len : L.length ≤ 100
  good : ∀ x ∈ L, GoodQ p ts.length x
  fit : ∀ x ∈ L, ¬ endQ ts p < x.b
  pw : L.Pairwise fun x y => ¬ ClashQ x y
  sums : ∀ i, i < ts.length → amtQ i L = ((ts.getD i 0 : Nat) : Rat)
def IsPcs (ts : List Nat) (p : Nat) (d : D) : Prop := ∃ L : List Pq, d = .tup (L.map pqD) ∧ Does ts p L
theorem pcs_inv {ts : List Nat} {p : Nat} {L : List Pq} (h : IsPcs ts p (.tup (L.map pqD))) : Does ts p L := by
  obtain ⟨M, e, h⟩ := h
  cases (List.map_inj_right (f := pqD) fun a b h => pqD_inj h).mp (D.tup.inj e)
  exact h
def doneQ (n : Nat) (u : List Pq) : List D := (List.range n).map fun i => rD (amtQ i u)
theorem doneQ_at {n : Nat} {u : List Pq} {j : Nat} (h : j < n) : atI (doneQ n u) (j : Int) = some (rD (amtQ j u)) := by
  refine atI_nat ?_
  unfold doneQ
  rw [List.getElem?_map, List.getElem?_range h]
  rfl
theorem doneQ_set {n : Nat} {u : List Pq} {x : Pq} : (doneQ n u).set x.j (rD (amtQ x.j u + (x.b - x.a))) = doneQ n (u ++ [x]) := by
  unfold doneQ
  refine List.ext_getElem? fun i => ?_
  rw [List.getElem?_set]
  by_cases h : x.j = i
  · subst h
    rw [if_pos rfl]
    by_cases hn : x.j < n
    · rw [List.length_map, List.length_range, if_pos hn, List.getElem?_map, List.getElem?_range hn]
      show some _ = some (rD (amtQ x.j (u ++ [x])))
      rw [amtQ_app, if_pos rfl]
    · rw [List.length_map, List.length_range, if_neg hn, List.getElem?_eq_none (by rw [List.length_map, List.length_range]; omega)]
  · rw [if_neg h, List.getElem?_map, List.getElem?_map]
    by_cases hn : i < n
    · rw [List.getElem?_range hn]
      show some (rD (amtQ i u)) = some (rD (amtQ i (u ++ [x])))
      rw [amtQ_app, if_neg h, Rat.add_zero]
    · rw [List.getElem?_eq_none (by rw [List.length_range]; omega)]
      rfl
theorem rD_nat (t : Nat) : rD (t : Rat) = .tup [.int (t : Int), .int 1] := by
  unfold rD
  rw [Rat.num_natCast, Rat.den_natCast]
  rfl
theorem rD_zero : rD 0 = .tup [.int 0, .int 1] := rfl
theorem doneQ_nil (n : Nat) : doneQ n [] = List.replicate n (D.tup [.int 0, .int 1]) := by
  unfold doneQ
  rw [show (fun i => rD (amtQ i [])) = fun _ => D.tup [.int 0, .int 1] from rfl, List.map_const', List.length_range]
theorem nb_r (q : Rat) : nbD (rD q) = true := rfl
theorem py_r (q : Rat) : pyD 63 (rD q) = true := by
  show pyDL 62 [_, _] = true
  exact pyDL_of fun d hd => by
    simp at hd
    rcases hd with rfl | rfl <;> exact pyD_int
abbrev tsF (ts : List Nat) : List D := ts.map fun t => D.tup [.int (t : Nat), .int 1]
theorem done_eq {ts : List Nat} {u : List Pq} : eqvD (.lst (doneQ ts.length u)) (.lst (tsF ts)) = true ↔ ∀ i, i < ts.length → amtQ i u = ((ts.getD i 0 : Nat) : Rat) := by
  rw [eqvD_iff (by show nbDL _ = true; unfold doneQ; exact nbDL_map fun i _ => nb_r _) (by show nbDL _ = true; exact nbDL_map fun i _ => rfl), D.lst.injEq]
  constructor
  · intro h i hi
    have := congrArg (fun l => l[i]?) h
    simp only [doneQ, tsF] at this
    rw [List.getElem?_map, List.getElem?_range hi, List.getElem?_map, List.getElem?_eq_getElem hi] at this
    have this : rD (amtQ i u) = D.tup [.int (ts[i] : Nat), .int 1] := Option.some.inj this
    rw [← rD_nat] at this
    rw [List.getD_eq_getElem?_getD, List.getElem?_eq_getElem hi]
    exact rD_inj this
  · intro h
    refine List.ext_getElem? fun i => ?_
    simp only [doneQ, tsF]
    rw [List.getElem?_map, List.getElem?_map]
    by_cases hi : i < ts.length
    · rw [List.getElem?_range hi, List.getElem?_eq_getElem hi]
      show some (rD (amtQ i u)) = some (D.tup [.int (ts[i] : Nat), .int 1])
      rw [h i hi, ← rD_nat, List.getD_eq_getElem?_getD, List.getElem?_eq_getElem hi]
      rfl
    · rw [List.getElem?_eq_none (by rw [List.length_range]; omega), List.getElem?_eq_none (by omega)]
      rfl
theorem py_done (n : Nat) (u : List Pq) : pyD 64 (.lst (doneQ n u)) = true := by
  show pyDL 63 _ = true
  unfold doneQ
  exact pyDL_map fun i _ => py_r _
theorem py_ts (ts : List Nat) : pyD 64 (.lst (tsF ts)) = true := by
  show pyDL 63 _ = true
  refine pyDL_map fun t _ => ?_
  rw [← rD_nat]
  exact py_r _
theorem all_pieces {p n : Nat} : ∀ {v : List D}, (∀ d ∈ v, PieceD p n d) → ∃ L : List Pq, v = L.map pqD ∧ ∀ x ∈ L, GoodQ p n x
  | [], _ => ⟨[], rfl, fun _ h => absurd h List.not_mem_nil⟩
  | d :: v, h => by
    obtain ⟨x, rfl, g⟩ := h d List.mem_cons_self
    obtain ⟨L, rfl, hL⟩ := all_pieces fun e he => h e (List.mem_cons_of_mem _ he)
    exact ⟨x :: L, rfl, fun y hy => by
      rcases List.mem_cons.mp hy with rfl | hy
      · exact g
      · exact hL y hy⟩
theorem end_rat {ts : List Nat} {p : Nat} (hp : 0 < p) : tk p (En ts p) = rD (endQ ts p) := tk_rat hp
theorem end_den {ts : List Nat} {p : Nat} (hp : 0 < p) (h : p ≤ 12) : (endQ ts p).den < 2 ^ 63 := by
  have := mkR_den (n := (En ts p : Int)) hp
  show (mkRat _ _).den < _
  omega
theorem S_do_meet {p n : Nat} {x y : Pq} (hx : Sma p n x) (hy : Sma p n y) (q : Q (.bl (decide (x.a < y.b) && decide (y.a < x.b))) c) : m_do_meet [pqD x, pqD y] c Q := by
  refine ⟨rfl, ?_⟩
  have h1 := hx.a.den
  have h2 := hx.b.den
  have h3 := hy.a.den
  have h4 := hy.b.den
  simp [runM, g_do_meet, start3, pqD]
  refine S_belowR (by omega) (by omega) ?_
  by_cases z : x.a < y.b
  · rw [decide_eq_true z] at q ⊢
    simp
    refine S_belowR (by omega) (by omega) ?_
    simpa using q
  · rw [decide_eq_false z] at q ⊢
    simpa using q
theorem S_plusR {x y : Rat} (hx : 0 ≤ x) (hy : 0 ≤ y) (yn : y.num < 2 ^ 63) (yd : y.den < 2 ^ 63) (hs : x.den * y.den < 2 ^ 8999) (q : Q (rD (x + y)) c) : m_plus [rD x, rD y] c Q := by
  refine ⟨rfl, ?_⟩
  simp [runM, g_plus, start3, rD]
  obtain ⟨n, hn⟩ := nat_num hx
  obtain ⟨m, hm⟩ := nat_num hy
  rw [hn, hm, ← Int.natCast_mul, ← Int.natCast_mul, ← Int.natCast_mul, ← Int.natCast_add]
  refine ⟨.inr ⟨by omega, by omega⟩, .inl ⟨by omega, by omega⟩, .inr ⟨by omega, by omega⟩, ?_⟩
  refine S_lowR (Nat.mul_pos x.den_pos y.den_pos) hs ?_
  rw [Rat.add_def', hn, hm, ← Int.natCast_mul, ← Int.natCast_mul, ← Int.natCast_add] at q
  exact q
theorem pow_sum {a b k : Nat} (ha : a ≤ 2 ^ (62 * k)) (hb : b ≤ 2 ^ 62) (hk : k ≤ 100) : a * b < 2 ^ 8999 := by
  have h := Nat.mul_le_mul ha hb
  rw [← Nat.pow_add] at h
  exact Nat.lt_of_le_of_lt h (Nat.pow_lt_pow_right (by decide) (by omega))
theorem enum_map {α : Type} (f : α → D) (k : Nat) (x : α) (l : List α) : enumL k ((x :: l).map f) = .tup [nD k, f x] :: enumL (k + 1) (l.map f) := rfl
open Classical in
theorem S_shows_any {ts : List Nat} {p m : Nat} {d : D} {QX : KXD} (h : Times ts) (p1 : 1 ≤ p) (p2 : p ≤ 12) (hd : niceD m d = true) (q1 : IsPcs ts p d → Q (.bl true) c) (q2 : ¬ IsPcs ts p d → Q (.bl false) c) : m_shows_parted [tsD ts, .int p, d] c Q QX := by
  have nt := nice_ty hd
  refine ⟨rfl, ?_⟩
  have hp : 0 < p := p1
  cases d with
  | tup v =>
    simp [g_shows_parted, start3, -compL, -forL]
    refine S_times h p1 p2 ⟨rfl, ?_⟩
    by_cases h100 : v.length ≤ 100
    · rw [if_neg (by omega)]
      refine comp_map (fun d => .bl (decide (PieceD p ts.length d))) _ _ (fun d hd' K hK => ?_) ?_
      · simp
        obtain ⟨_, k, _, hL⟩ := nice_tup hd
        exact S_is_piece (niceL_mem hL hd') (fun z => by rw [decide_eq_true z] at hK; exact hK) fun z => by rw [decide_eq_false z] at hK; exact hK
      rw [bls_map]
      simp [-compL, -forL]
      by_cases hall : ∀ d ∈ v, PieceD p ts.length d
      · rw [if_neg (fun ⟨a, ha, hn⟩ => hn (hall a ha))]
        obtain ⟨L, rfl, hG⟩ := all_pieces hall
        have hS : ∀ x ∈ L, Sma p ts.length x := fun x hx => by
          obtain ⟨_, k, _, hL⟩ := nice_tup hd
          have g := hG x hx
          obtain ⟨a, b⟩ := nice_pq (niceL_mem hL (List.mem_map_of_mem hx)) g.ha g.hb
          exact ⟨g, a, b⟩
        rw [List.length_map] at h100
        refine S_told_soonest h p1 p2 ?_
        rw [end_rat hp]
        refine comp_mapG nD (fun _ => D.tup [.int 0, .int 1]) _ _ (fun t ht K hK => ?_) ?_
        · simp
          exact hK
        rw [List.map_const', ← doneQ_nil]
        have he := end_den (ts := ts) hp p2
        refine for_rule (I := fun rr ρ c' => c' = c ∧ ∃ (u w : List Pq) (s3 s6 s7 s8 s9 s10 s11 : SV), rr = enumL u.length (w.map pqD) ∧ L = u ++ w ∧ ρ = [.val (tsD ts), .val (.int (p : Int)), .val (.tup (L.map pqD)), s3, .val (rD (endQ ts p)), .own (doneQ ts.length u), s6, s7, s8, s9, s10, s11] ∧ (∀ x ∈ u, ¬ endQ ts p < x.b) ∧ u.Pairwise fun x y => ¬ ClashQ x y) ?_ ?_ _ _ _ ⟨rfl, [], L, _, _, _, _, _, _, _, rfl, rfl, rfl, fun _ h => absurd h List.not_mem_nil, .nil⟩
        · rintro d r' ρ c' ⟨rfl, u, w, s3, s6, s7, s8, s9, s10, s11, er, eu, rfl, hf, hpw⟩ N hN
          cases w with
          | nil => cases er
          | cons x w =>
            rw [enum_map] at er
            obtain ⟨rfl, rfl⟩ := List.cons.inj er
            have hxL : x ∈ L := by rw [eu]; simp
            have hx := hS x hxL
            have hxb := hx.b.den
            have hxa := hx.a.den
            have huL : ∀ y ∈ u, y ∈ L := fun y hy => by rw [eu]; exact List.mem_append_left _ hy
            have ex : pqD x = D.tup [nD x.p, rD x.a, rD x.b, nD x.j] := rfl
            rw [ex]
            simp [-forL]
            refine S_belowR he (by omega) ?_
            by_cases hfit : endQ ts p < x.b
            · rw [decide_eq_true hfit]
              simp [-forL]
              exact q2 fun hI => (pcs_inv hI).fit x hxL hfit
            · rw [decide_eq_false hfit]
              simp [-forL]
              rw [show L3.cutD (L.map pqD) none (some (u.length : Int)) = u.map pqD by
                rw [cutD_to, eu, List.map_append, List.take_append_of_le_length (by rw [List.length_map]; omega), List.take_of_length_le (by rw [List.length_map]; omega)]]
              refine for_rule (I := fun rr ρ c2 => c2 = c' ∧ ∃ (u1 u2 : List Pq) (s8 : SV), rr = u2.map pqD ∧ u = u1 ++ u2 ∧ ρ = [.val (tsD ts), .val (.int (p : Int)), .val (.tup (L.map pqD)), .val (.tup [nD x.p, rD x.a, rD x.b, nD x.j]), .val (rD (endQ ts p)), .own (doneQ ts.length u), s6, .val (nD u.length), s8, s9, s10, s11] ∧ ∀ y ∈ u1, ¬ ClashQ x y) ?_ ?_ _ _ _ ⟨rfl, [], u, _, rfl, rfl, rfl, fun _ h => absurd h List.not_mem_nil⟩
              · rintro d r2 ρ c2 ⟨rfl, u1, u2, s8, er2, eu2, rfl, hcl⟩ N2 hN2
                cases u2 with
                | nil => cases er2
                | cons y u2 =>
                  obtain ⟨rfl, rfl⟩ := List.cons.inj er2
                  have hyu : y ∈ u := by rw [eu2]; simp
                  have hy := hS y (huL y hyu)
                  simp
                  rw [← ex]
                  have clash : ClashQ x y → Q (.bl false) c2 := fun z => q2 fun hI => by
                    have := (pcs_inv hI).pw
                    rw [eu] at this
                    exact (List.pairwise_append.mp this).2.2 y hyu x List.mem_cons_self (clash_symm z)
                  refine S_do_meet hx hy ?_
                  have next : ¬ ClashQ x y → N2 [SV.val (tsD ts), SV.val (D.int ↑p), SV.val (D.tup (List.map pqD L)), SV.val (pqD x), SV.val (rD (endQ ts p)), SV.own (doneQ ts.length u), s6, SV.val (nD u.length), SV.val (pqD y), s9, s10, s11] c2 := fun z =>
                    hN2 _ _ ⟨rfl, u1 ++ [y], u2, _, rfl, by rw [eu2]; simp, rfl, fun y' hy' => by
                      rcases List.mem_append.mp hy' with h | h
                      · exact hcl y' h
                      · rw [List.mem_singleton.mp h]; exact z⟩
                  simp only
                  by_cases zz : x.a < y.b ∧ y.a < x.b
                  · rw [decide_eq_true zz.1, decide_eq_true zz.2]
                    rw [show pqD y = D.tup [nD y.p, rD y.a, rD y.b, nD y.j] from rfl]
                    simp
                    rw [show D.tup [nD y.p, rD y.a, rD y.b, nD y.j] = pqD y from rfl]
                    by_cases e1 : x.p = y.p
                    · rw [if_pos (by omega)]
                      exact clash ⟨zz.1, zz.2, .inl e1⟩
                    · rw [if_neg (by omega)]
                      by_cases e2 : x.j = y.j
                      · rw [if_pos (by omega)]
                        exact clash ⟨zz.1, zz.2, .inr e2⟩
                      · rw [if_neg (by omega)]
                        exact next fun h => h.2.2.elim e1 e2
                  · rw [if_neg (by simp; exact fun h1 h2 => zz ⟨h1, h2⟩)]
                    exact next fun h => zz ⟨h.1, h.2.1⟩
              · rintro ρ c2 ⟨rfl, u1, u2, s8, er2, eu2, rfl, hcl⟩
                cases u2 with
                | cons y u2 => cases er2
                | nil =>
                  rw [List.append_nil] at eu2
                  subst eu2
                  simp
                  obtain ⟨t, ht, ht2, em⟩ := diff_sm hx.a hx.b hx.g.hab
                  rw [show rD x.b = D.tup [.int x.b.num, .int (x.b.den : Nat)] from rfl, show rD x.a = D.tup [.int x.a.num, .int (x.a.den : Nat)] from rfl]
                  simp
                  rw [ht, ← Int.natCast_mul, doneQ_at hx.g.hj]
                  have hdl : x.a.den * x.b.den < 2 ^ 62 := mul_lt_pow hx.a.den hx.b.den
                  have hd0 : 0 < x.a.den * x.b.den := Nat.mul_pos x.a.den_pos x.b.den_pos
                  refine ⟨.inr ⟨by omega, by omega⟩, .inr ⟨by omega, by omega⟩, .inr ⟨by omega, by omega⟩, rfl, ?_⟩
                  simp
                  refine S_lowR hd0 (Nat.lt_trans hdl (Nat.pow_lt_pow_right (by decide) (by decide))) ?_
                  rw [← em]
                  have huS : ∀ y ∈ u, Sma p ts.length y := fun y hy => hS y (huL y hy)
                  obtain ⟨a0, a1⟩ := amtQ_ok (j := x.j) huS
                  have hab := hx.g.hab
                  have hul : u.length ≤ 100 := by have := congrArg List.length eu; rw [List.length_append] at this; omega
                  refine S_plusR a0 (by grind) ?_ ?_ (pow_sum a1 (diff_den hx) hul) ?_
                  · rw [em]
                    have := mkR_num (n := t) hd0
                    omega
                  · have := diff_den hx
                    omega
                  · refine ⟨by unfold doneQ; rw [List.length_map, List.length_range]; exact hx.g.hj, rfl, ?_⟩
                    rw [doneQ_set]
                    refine hN _ _ ⟨rfl, u ++ [x], w, _, _, _, _, _, _, _, by rw [List.length_append]; rfl, by rw [eu]; simp, rfl, fun y hy => ?_, ?_⟩
                    · rcases List.mem_append.mp hy with h | h
                      · exact hf y h
                      · rw [List.mem_singleton.mp h]; exact hfit
                    · refine List.pairwise_append.mpr ⟨hpw, List.pairwise_singleton _ _, fun a ha b hb => ?_⟩
                      rw [List.mem_singleton.mp hb]
                      exact fun z => hcl a ha (clash_symm z)
        · rintro ρ c' ⟨rfl, u, w, s3, s6, s7, s8, s9, s10, s11, er, eu, rfl, hf, hpw⟩
          cases w with
          | cons x w => cases er
          | nil =>
            rw [List.append_nil] at eu
            subst eu
            simp [-compL]
            refine comp_mapG nD (fun t => D.tup [.int (t : Nat), .int 1]) _ _ (fun t ht K hK => ?_) ?_
            · simp
              exact hK
            refine ⟨⟨py_done _ _, py_ts _⟩, ?_⟩
            cases ez : eqvD (.lst (doneQ ts.length L)) (.lst (tsF ts)) with
            | true => exact q1 ⟨L, rfl, h100, hG, hf, hpw, done_eq.mp ez⟩
            | false =>
              refine q2 fun hI => ?_
              rw [done_eq.mpr (pcs_inv hI).sums] at ez
              cases ez
      · rw [if_pos (by
          obtain ⟨d, hd'⟩ := Classical.not_forall.mp hall
          obtain ⟨h1, h2⟩ := Classical.not_imp.mp hd'
          exact ⟨d, h1, h2⟩)]
        refine q2 fun ⟨L, e, hL⟩ => hall fun d hd' => ?_
        rw [D.tup.inj e] at hd'
        obtain ⟨x, hx, rfl⟩ := List.mem_map.mp hd'
        exact ⟨x, rfl, hL.good x hx⟩
    · rw [if_pos (by omega)]
      refine q2 fun ⟨L, e, hL⟩ => h100 ?_
      rw [D.tup.inj e, List.length_map]
      exact hL.len
  | ty _ | rf _ | pot | exc _ _ | clo _ _ | scr _ | lam _ _ _ => simp [tyName] at nt
  | dct ks l' =>
    simp [g_shows_parted, start3, -compL, -forL]
    exact S_times h p1 p2 ⟨nt, q2 fun ⟨_, e, _⟩ => by cases e⟩
  | _ =>
    simp [g_shows_parted, start3, -compL, -forL]
    exact S_times h p1 p2 ⟨rfl, q2 fun ⟨_, e, _⟩ => by cases e⟩
end Law67

set_option maxHeartbeats 4000000
namespace Law67
open PySem PySem.Spec PyProof.Rows
open L2 hiding FnOk Room
open L3
open Press (f1 f2 Pc lay nxt amt Clash)
variable {c : Nat} {Q : KD}
theorem mk_lt {P x y : Nat} (hP : 0 < P) : (mkRat (x : Int) P < mkRat (y : Int) P) ↔ x < y := by
  rw [Rat.lt_iff]
  obtain ⟨a1, a2⟩ := mkR (n := (x : Int)) hP
  obtain ⟨b1, b2⟩ := mkR (n := (y : Int)) hP
  rw [a1, a2, b1, b2, Int.natAbs_natCast, Int.natAbs_natCast, ← Int.natCast_ediv, ← Int.natCast_ediv, ← Int.natCast_mul, ← Int.natCast_mul]
  have := Press.below (P := P) (Q := P) (x := x) (y := y) hP hP
  rw [Nat.mul_lt_mul_right hP] at this
  rw [← this]
  exact Int.ofNat_lt
theorem S_law_soonest {ts : List Nat} {p : Nat} (h : Times ts) (p1 : 1 ≤ p) (p2 : p ≤ 12) (q : Q (rD (endQ ts p)) c) : m_law_soonest [tsD ts, .int p] c Q := by
  have hp : 0 < p := p1
  rw [← end_rat hp] at q
  refine ⟨rfl, ?_⟩
  simp [runM, g_law_soonest, start3]
  rw [intsOf_nD]
  simp only [sum_nD]
  refine S_law_low (by omega) (Nat.lt_of_le_of_lt p2 (by decide +kernel)) ?_
  obtain ⟨a, as, ea, em⟩ := max_at (l := ts.map fun n : Nat => (n : Int)) (M := (mx ts : Int)) (fun x hx => by
    obtain ⟨y, hy, rfl⟩ := List.mem_map.mp hx
    have := le_mx hy
    omega) (List.mem_map_of_mem (mx_mem h.1))
  simp only [ea]
  rw [em]
  have ew := Press.whole (P := p) (t := mx ts) (by omega)
  have ed : (D.tup [.int (mx ts : Int), .int 1]) = rD (mkRat ((mx ts * p : Nat) : Int) p) := by
    rw [← tk_rat hp]
    show _ = D.tup [.int ((f1 p (mx ts * p) : Nat) : Int), .int ((f2 p (mx ts * p) : Nat) : Int)]
    rw [ew.1, ew.2]
    rfl
  rw [ed]
  have hd : ∀ x : Nat, (mkRat (x : Int) p).den < 2 ^ 63 := fun x => by
    have := mkR_den (n := (x : Int)) hp
    omega
  refine S_law_less (hd _) (hd _) ?_
  simp only
  unfold En at q
  rw [decide_eq_decide.mpr (mk_lt hp)]
  by_cases z : ts.sum < mx ts * p
  · rw [decide_eq_true z, if_pos rfl]
    rw [Nat.max_eq_right (by omega), tk_rat hp] at q
    exact q
  · rw [decide_eq_false z, if_neg (by decide)]
    rw [Nat.max_eq_left (by omega), tk_rat hp] at q
    exact q
theorem S_law_any {ts : List Nat} {p m : Nat} {d : D} (h : Times ts) (p1 : 1 ≤ p) (p2 : p ≤ 12) (hd : niceD m d = true) (q1 : IsPcs ts p d → Q (.bl true) c) (q2 : ¬ IsPcs ts p d → Q (.bl false) c) : m_law_are_pieces [tsD ts, .int p, d] c Q := by
  have nt := nice_ty hd
  refine ⟨rfl, ?_⟩
  have hp : 0 < p := p1
  cases d with
  | tup v =>
    simp [runM, g_law_are_pieces, start3, -compL, -forL]
    refine ⟨rfl, ?_⟩
    by_cases h100 : v.length ≤ 100
    · rw [if_neg (by omega)]
      have he := end_den (ts := ts) hp p2
      have hnv : ∀ d ∈ v, ∃ k, niceD k d = true := fun d hd' => by
        obtain ⟨_, k, _, hL⟩ := nice_tup hd
        exact ⟨k, niceL_mem hL hd'⟩
      refine for_rule (I := fun rr ρ c' => c' = c ∧ ∃ (u w : List D) (s3 : SV), rr = w ∧ v = u ++ w ∧ ρ = [.val (tsD ts), .val (.int (p : Int)), .val (.tup v), s3, .no, .no, .no, .no, .no, .no, .no, .no] ∧ ∀ d ∈ u, ∃ x : Pq, d = pqD x ∧ GoodQ p ts.length x ∧ ¬ endQ ts p < x.b) ?_ ?_ _ _ _ ⟨rfl, [], v, _, rfl, rfl, rfl, fun _ h => absurd h List.not_mem_nil⟩
      · rintro d r' ρ c' ⟨rfl, u, w, s3, er, eu, rfl, hu⟩ N hN
        subst er
        have hdv : d ∈ v := by rw [eu]; simp
        obtain ⟨k, hk⟩ := hnv d hdv
        have bad : (¬ ∃ x : Pq, d = pqD x ∧ GoodQ p ts.length x ∧ ¬ endQ ts p < x.b) → Q (.bl false) c' := fun hb => q2 fun ⟨L, e, hL⟩ => hb (by
          rw [D.tup.inj e] at hdv
          obtain ⟨x, hx, rfl⟩ := List.mem_map.mp hdv
          exact ⟨x, rfl, hL.good x hx, hL.fit x hx⟩)
        have nd := nice_ty hk
        cases d with
        | tup t =>
          rcases four_cases t with ⟨a, b, e, f, rfl⟩ | ⟨h4, hl⟩
          · obtain ⟨_, k, _, hL⟩ := nice_tup hk
            have ha := niceL_mem hL (d := a) (by simp)
            have hb := niceL_mem hL (d := b) (by simp)
            have he' := niceL_mem hL (d := e) (by simp)
            have hf := niceL_mem hL (d := f) (by simp)
            simp
            refine ⟨rfl, S_law_is_int (nice_ty ha) ?_⟩
            cases ea : L3.isIntB 0 ((p : Int) - 1) a with
            | false =>
              simp
              refine bad fun ⟨x, e', g, _⟩ => ?_
              have := D.tup.inj e'
              simp at this
              rw [this.1, nat_in g.hp] at ea
              cases ea
            | true =>
              obtain ⟨pr, rfl, hpr⟩ := nat_of (lo := 0) (hi := 0) ea
              simp
              refine S_law_is_tick hb (fun qa qa0 eb => ?_) fun h => ?_
              · subst eb
                simp
                refine S_law_is_tick he' (fun qb qb0 ee => ?_) fun h => ?_
                · subst ee
                  simp
                  have sa := nice_rD hb qa0
                  have sb := nice_rD he' qb0
                  refine S_law_less (by have := sa.den; omega) (by have := sb.den; omega) ?_
                  by_cases z : qa < qb
                  · rw [decide_eq_true z]
                    simp
                    refine S_law_is_int (nice_ty hf) ?_
                    cases ef : L3.isIntB 0 ((ts.length : Int) - 1) f with
                    | false =>
                      simp
                      refine bad fun ⟨x, e', g, _⟩ => ?_
                      have := D.tup.inj e'
                      simp at this
                      rw [this.2.2.2, nat_in g.hj] at ef
                      cases ef
                    | true =>
                      obtain ⟨j, rfl, hj⟩ := nat_of (lo := 0) (hi := 0) ef
                      simp
                      refine S_law_soonest h p1 p2 (S_law_less he (by have := sb.den; omega) ?_)
                      by_cases z2 : endQ ts p < qb
                      · rw [decide_eq_true z2]
                        simp
                        refine bad fun ⟨x, e', g, hx⟩ => hx ?_
                        have := D.tup.inj e'
                        simp at this
                        rw [← rD_inj this.2.2.1]
                        exact z2
                      · rw [decide_eq_false z2]
                        simp
                        refine hN _ _ ⟨rfl, u ++ [D.tup [nD pr, rD qa, rD qb, nD j]], r', _, rfl, by rw [eu]; simp, rfl, fun d hd => ?_⟩
                        rcases List.mem_append.mp hd with w | w
                        · exact hu d w
                        · rw [List.mem_singleton.mp w]
                          exact ⟨⟨pr, qa, qb, j⟩, rfl, ⟨hpr, hj, qa0, z⟩, z2⟩
                  · rw [decide_eq_false z]
                    simp
                    refine bad fun ⟨x, e', g, _⟩ => z ?_
                    have := D.tup.inj e'
                    simp at this
                    rw [rD_inj this.2.1, rD_inj this.2.2.1]
                    exact g.hab
                · simp
                  refine bad fun ⟨x, e', g, _⟩ => h ?_
                  have := D.tup.inj e'
                  simp at this
                  exact ⟨_, g.hb, this.2.2.1⟩
              · simp
                refine bad fun ⟨x, e', g, _⟩ => h ?_
                have := D.tup.inj e'
                simp at this
                exact ⟨_, g.ha, this.2.1⟩
          · simp
            refine ⟨rfl, ?_⟩
            rw [if_neg (by omega)]
            exact bad fun ⟨x, e, _⟩ => h4 ⟨_, _, _, _, D.tup.inj e⟩
        | ty _ | rf _ | pot | exc _ _ | clo _ _ | scr _ | lam _ _ _ => simp [tyName] at nd
        | dct ks l' =>
          simp
          exact ⟨nd, bad fun ⟨x, e, _⟩ => by cases e⟩
        | _ =>
          simp
          exact ⟨rfl, bad fun ⟨x, e, _⟩ => by cases e⟩
      · rintro ρ c' ⟨rfl, u, w, s3, er, eu, rfl, hu⟩
        subst er
        rw [List.append_nil] at eu
        subst eu
        obtain ⟨L, rfl, hG⟩ := all_pieces (p := p) (n := ts.length) fun d hd => by
          obtain ⟨x, e, g, _⟩ := hu d hd
          exact ⟨x, e, g⟩
        have hf : ∀ x ∈ L, ¬ endQ ts p < x.b := fun x hx => by
          obtain ⟨y, e, _, hy⟩ := hu _ (List.mem_map_of_mem hx)
          rw [pqD_inj e]
          exact hy
        have hS : ∀ x ∈ L, Sma p ts.length x := fun x hx => by
          obtain ⟨_, k, _, hL⟩ := nice_tup hd
          have g := hG x hx
          obtain ⟨a, b⟩ := nice_pq (niceL_mem hL (List.mem_map_of_mem hx)) g.ha g.hb
          exact ⟨g, a, b⟩
        rw [List.length_map] at h100
        have hl := h.2.1
        simp [-forL, -compL]
        refine ⟨⟨by omega, by omega⟩, ?_⟩
        rw [← doneQ_nil]
        refine for_rule (I := fun rr ρ c2 => c2 = c' ∧ ∃ (u w : List Pq) (s3 s5 s6 s7 s8 s9 s10 s11 : SV), rr = enumL u.length (w.map pqD) ∧ L = u ++ w ∧ ρ = [.val (tsD ts), .val (.int (p : Int)), .val (.tup (L.map pqD)), s3, .own (doneQ ts.length u), s5, s6, s7, s8, s9, s10, s11] ∧ (w.Pairwise (fun x y => ¬ ClashQ x y) → (u ++ w).Pairwise fun x y => ¬ ClashQ x y)) ?_ ?_ _ _ _ ⟨rfl, [], L, _, _, _, _, _, _, _, _, rfl, rfl, rfl, fun h => h⟩
        · rintro d r' ρ c2 ⟨rfl, u, w, s3, s5, s6, s7, s8, s9, s10, s11, er, eu, rfl, hpw⟩ N hN
          cases w with
          | nil => cases er
          | cons x w =>
            rw [enum_map] at er
            obtain ⟨rfl, rfl⟩ := List.cons.inj er
            have hxL : x ∈ L := by rw [eu]; simp
            have hx := hS x hxL
            have hxb := hx.b.den
            have hxa := hx.a.den
            have hwL : ∀ y ∈ w, y ∈ L := fun y hy => by rw [eu]; exact List.mem_append_right _ (List.mem_cons_of_mem _ hy)
            have ex : pqD x = D.tup [nD x.p, rD x.a, rD x.b, nD x.j] := rfl
            rw [ex]
            simp [-forL]
            rw [show L3.cutD (L.map pqD) (some ((u.length : Int) + 1)) none = w.map pqD by
              rw [show ((u.length : Int) + 1) = ((u.length + 1 : Nat) : Int) by omega, cutD_from, eu, List.map_append, List.map_cons, List.drop_append, List.length_map, List.drop_eq_nil_of_le (by rw [List.length_map]; omega), List.nil_append, show u.length + 1 - u.length = 1 by omega]
              rfl]
            refine for_rule (I := fun rr ρ c3 => c3 = c2 ∧ ∃ (u1 u2 : List Pq) (s6 s7 : SV), rr = u2.map pqD ∧ w = u1 ++ u2 ∧ ρ = [.val (tsD ts), .val (.int (p : Int)), .val (.tup (L.map pqD)), .val (.tup [nD x.p, rD x.a, rD x.b, nD x.j]), .own (doneQ ts.length u), .val (nD u.length), s6, s7, s8, s9, s10, s11] ∧ ∀ y ∈ u1, ¬ ClashQ x y) ?_ ?_ _ _ _ ⟨rfl, [], w, _, _, rfl, rfl, rfl, fun _ h => absurd h List.not_mem_nil⟩
            · rintro d r2 ρ c3 ⟨rfl, u1, u2, s6, s7, er2, eu2, rfl, hcl⟩ N2 hN2
              cases u2 with
              | nil => cases er2
              | cons y u2 =>
                obtain ⟨rfl, rfl⟩ := List.cons.inj er2
                have hyw : y ∈ w := by rw [eu2]; simp
                have hy := hS y (hwL y hyw)
                have hyb := hy.b.den
                have hya := hy.a.den
                have clash : ClashQ x y → Q (.bl false) c3 := fun z => q2 fun hI => by
                  have := (pcs_inv hI).pw
                  rw [eu] at this
                  exact (List.pairwise_cons.mp (List.pairwise_append.mp this).2.1).1 y hyw z
                have next : ∀ s7 : SV, ¬ ClashQ x y → N2 [SV.val (tsD ts), SV.val (D.int ↑p), SV.val (D.tup (List.map pqD L)), SV.val (.tup [nD x.p, rD x.a, rD x.b, nD x.j]), SV.own (doneQ ts.length u), SV.val (nD u.length), SV.val (pqD y), s7, s8, s9, s10, s11] c3 := fun s7 z =>
                  hN2 _ _ ⟨rfl, u1 ++ [y], u2, _, _, rfl, by rw [eu2]; simp, rfl, fun y' hy' => by
                    rcases List.mem_append.mp hy' with h | h
                    · exact hcl y' h
                    · rw [List.mem_singleton.mp h]; exact z⟩
                rw [show pqD y = D.tup [nD y.p, rD y.a, rD y.b, nD y.j] from rfl] at next ⊢
                have tests : (x.p = y.p ∨ x.j = y.j) → ∀ s7 : SV, m_law_less [rD x.a, rD y.b] c3 fun v c => match v with
                    | .bl b => if b = true then m_law_less [rD y.a, rD x.b] c fun v c => (match v with
                        | .bl b => if b = true then Q (.bl false) c else N2 [SV.val (tsD ts), SV.val (D.int ↑p), SV.val (D.tup (List.map pqD L)), SV.val (.tup [nD x.p, rD x.a, rD x.b, nD x.j]), SV.own (doneQ ts.length u), SV.val (nD u.length), SV.val (.tup [nD y.p, rD y.a, rD y.b, nD y.j]), s7, s8, s9, s10, s11] c
                        | _ => False) else N2 [SV.val (tsD ts), SV.val (D.int ↑p), SV.val (D.tup (List.map pqD L)), SV.val (.tup [nD x.p, rD x.a, rD x.b, nD x.j]), SV.own (doneQ ts.length u), SV.val (nD u.length), SV.val (.tup [nD y.p, rD y.a, rD y.b, nD y.j]), s7, s8, s9, s10, s11] c
                    | _ => False := fun sh s7 => by
                  refine S_law_less (by omega) (by omega) ?_
                  by_cases z1 : x.a < y.b
                  · rw [decide_eq_true z1]
                    simp
                    refine S_law_less (by omega) (by omega) ?_
                    by_cases z2 : y.a < x.b
                    · rw [decide_eq_true z2]
                      simp
                      exact clash ⟨z1, z2, sh⟩
                    · rw [decide_eq_false z2]
                      simp
                      exact next s7 fun h => z2 h.2.1
                  · rw [decide_eq_false z1]
                    simp
                    exact next s7 fun h => z1 h.1
                simp
                by_cases e1 : x.p = y.p
                · rw [if_pos (by omega)]
                  exact ⟨rfl, tests (.inl e1) _⟩
                · rw [if_neg (by omega)]
                  refine ⟨rfl, ?_⟩
                  by_cases e2 : x.j = y.j
                  · rw [if_pos (by omega)]
                    exact tests (.inr e2) _
                  · rw [if_neg (by omega)]
                    exact next _ fun h => h.2.2.elim e1 e2
            · rintro ρ c3 ⟨rfl, u1, u2, s6, s7, er2, eu2, rfl, hcl⟩
              cases u2 with
              | cons y u2 => cases er2
              | nil =>
                rw [List.append_nil] at eu2
                subst eu2
                obtain ⟨t, ht, ht2, em⟩ := diff_sm hx.a hx.b hx.g.hab
                rw [show rD x.b = D.tup [.int x.b.num, .int (x.b.den : Nat)] from rfl, show rD x.a = D.tup [.int x.a.num, .int (x.a.den : Nat)] from rfl]
                simp
                rw [ht, ← Int.natCast_mul, doneQ_at hx.g.hj]
                have huS : ∀ y ∈ u, Sma p ts.length y := fun y hy => hS y (by rw [eu]; exact List.mem_append_left _ hy)
                obtain ⟨a0, a1⟩ := amtQ_ok (j := x.j) huS
                rw [show rD (amtQ x.j u) = D.tup [.int (amtQ x.j u).num, .int ((amtQ x.j u).den : Nat)] from rfl]
                simp
                obtain ⟨o, hon⟩ := nat_num a0
                have hdl : x.a.den * x.b.den < 2 ^ 62 := mul_lt_pow hx.a.den hx.b.den
                have hd0 : 0 < x.a.den * x.b.den := Nat.mul_pos x.a.den_pos x.b.den_pos
                rw [hon, ← Int.natCast_mul, ← Int.natCast_mul, ← Int.natCast_mul, ← Int.natCast_add]
                rw [← Int.natCast_mul]
                have hul : u.length ≤ 100 := by have := congrArg List.length eu; rw [List.length_append] at this; omega
                have h0 : 0 < (amtQ x.j u).den * (x.a.den * x.b.den) := Nat.mul_pos (amtQ x.j u).den_pos hd0
                refine ⟨.inr ⟨by omega, by omega⟩, .inr ⟨by omega, by omega⟩, rfl, .inr ⟨by omega, by omega⟩, rfl, rfl, .inr ⟨by omega, by omega⟩, .inl ⟨by omega, by omega⟩, .inr ⟨by omega, by omega⟩, ?_⟩
                refine S_law_low h0 (pow_sum a1 (Nat.le_of_lt hdl) hul) ⟨by unfold doneQ; rw [List.length_map, List.length_range]; exact hx.g.hj, rfl, ?_⟩
                have ed : mkRat ((o * (x.a.den * x.b.den) + t * (amtQ x.j u).den : Nat) : Int) ((amtQ x.j u).den * (x.a.den * x.b.den)) = amtQ x.j u + (x.b - x.a) := by
                  rw [em]
                  have e1 := Rat.mkRat_add_mkRat (o : Int) (t : Int) (d₁ := (amtQ x.j u).den) (d₂ := x.a.den * x.b.den) (by have := (amtQ x.j u).den_pos; omega) (by omega)
                  rw [← hon, Rat.mkRat_self] at e1
                  rw [e1, hon, ← Int.natCast_mul, ← Int.natCast_mul, ← Int.natCast_add]
                rw [ed, doneQ_set]
                refine hN _ _ ⟨rfl, u ++ [x], w, _, _, _, _, _, _, _, _, by rw [List.length_append]; rfl, by rw [eu]; simp, rfl, fun hw => ?_⟩
                have := hpw (List.pairwise_cons.mpr ⟨hcl, hw⟩)
                rw [List.append_assoc]
                exact this
        · rintro ρ c2 ⟨rfl, u, w, s3, s5, s6, s7, s8, s9, s10, s11, er, eu, rfl, hpw⟩
          cases w with
          | cons x w => cases er
          | nil =>
            rw [List.append_nil] at eu
            subst eu
            have hpw := hpw .nil
            rw [List.append_nil] at hpw
            simp [-compL]
            refine comp_mapG nD (fun t => D.tup [.int (t : Nat), .int 1]) _ _ (fun t ht K hK => ?_) ?_
            · simp
              exact hK
            refine ⟨⟨py_done _ _, py_ts _⟩, ?_⟩
            cases ez : eqvD (.lst (doneQ ts.length L)) (.lst (tsF ts)) with
            | true => exact q1 ⟨L, rfl, h100, hG, hf, hpw, done_eq.mp ez⟩
            | false =>
              refine q2 fun hI => ?_
              rw [done_eq.mpr (pcs_inv hI).sums] at ez
              cases ez
    · rw [if_pos (by omega)]
      refine q2 fun ⟨L, e, hL⟩ => h100 ?_
      rw [D.tup.inj e, List.length_map]
      exact hL.len
  | ty _ | rf _ | pot | exc _ _ | clo _ _ | scr _ | lam _ _ _ => simp [tyName] at nt
  | dct ks l' =>
    simp [runM, g_law_are_pieces, start3, -compL, -forL]
    exact ⟨nt, q2 fun ⟨_, e, _⟩ => by cases e⟩
  | _ =>
    simp [runM, g_law_are_pieces, start3, -compL, -forL]
    exact ⟨rfl, q2 fun ⟨_, e, _⟩ => by cases e⟩
end Law67

set_option maxHeartbeats 4000000
namespace Law67
open PySem PySem.Spec PyProof.Rows
open L2 hiding FnOk Room
open L3
open Press (f1 f2 Pc lay nxt amt Clash)
theorem mx_fold {ts : List Nat} (h : Times ts) : ∃ a as, (ts.map fun n : Nat => (n : Int)) = a :: as ∧ as.foldl max a = (mx ts : Int) := max_at (fun x hx => by
    obtain ⟨y, hy, rfl⟩ := List.mem_map.mp hx
    have := le_mx hy
    omega) (List.mem_map_of_mem (mx_mem h.1))
/-- presses for a tick: none, or so many -/
inductive Fits (ts : List Nat) (k : Nat) : D → Prop
  | none : k * 12 < En ts 12 → Fits ts k .non
  | some (m : Nat) : 1 ≤ m → m ≤ 12 → En ts m ≤ k * m → (m = 1 ∨ k * (m - 1) < En ts (m - 1)) → Fits ts k (.int m)
theorem ceil_of {S k : Nat} (hk : 0 < k) : ∃ u : Nat, -(-(S : Int) / k) = (u : Int) ∧ S ≤ k * u ∧ ∀ v, v < u → k * v < S := by
  have h1 := Int.emod_add_mul_ediv (-(S : Int)) k
  have h2 := Int.emod_nonneg (-(S : Int)) (show (k : Int) ≠ 0 by omega)
  have h3 := Int.emod_lt_of_pos (-(S : Int)) (show (0 : Int) < k by omega)
  generalize -(S : Int) % k = r at *
  generalize hz : -(S : Int) / k = z at *
  have hz0 : z ≤ 0 := by
    apply Int.not_lt.mp
    intro hz'
    have : (k : Int) * 1 ≤ k * z := Int.mul_le_mul_of_nonneg_left hz' (by omega)
    omega
  obtain ⟨u, hu⟩ := Int.eq_ofNat_of_zero_le (show 0 ≤ -z by omega)
  have ez : z = -(u : Int) := by omega
  subst ez
  rw [Int.mul_neg] at h1
  have e2 : ((k * u : Nat) : Int) = (k : Int) * u := Int.natCast_mul k u
  refine ⟨u, by omega, by omega, fun v hv => ?_⟩
  have h4 : k * v + k ≤ k * u := by
    rw [← Nat.mul_succ]
    exact Nat.mul_le_mul_left k hv
  omega
theorem S_presses_for {ts : List Nat} {k : Nat} {c : Nat} {Q : KD} {QX : KXD} (h : Times ts) (hk : k ≤ 100000) (q : ∀ d, Fits ts k d → Q d c) : m_presses_for [tsD ts, .int k] c Q QX := by
  refine ⟨rfl, ?_⟩
  simp [g_presses_for, start3]
  refine S_times (p := 1) h (by omega) (by omega) ?_
  refine ⟨.inl ⟨by decide, by decide⟩, ?_⟩
  refine S_int_ok (by omega) (by omega) ?_
  obtain ⟨a, as, ea, em⟩ := mx_fold h
  have hS := h.sum
  have e12 : mx ts * 12 ≤ En ts 12 := by unfold En; omega
  have hEn : ∀ m, En ts m = max ts.sum (mx ts * m) := fun _ => rfl
  simp only [if_true]
  rw [intsOf_nD, ea]
  simp only
  rw [em]
  by_cases hm : k < mx ts
  · rw [if_pos (by omega)]
    exact q _ (.none (by omega))
  · rw [if_neg (by omega)]
    by_cases hk0 : 0 < k
    · rw [if_pos hk0, ← ea, sum_nD]
      refine ⟨⟨hk0, by omega⟩, ?_⟩
      obtain ⟨u, eu, h1, h2⟩ := ceil_of (S := ts.sum) hk0
      rw [eu]
      by_cases hu : 1 < u
      · rw [show (if 1 < (u : Int) then (u : Int) else 1) = u from if_pos (by omega)]
        by_cases hu12 : u ≤ 12
        · rw [if_pos (by omega)]
          refine q _ (.some u (by omega) hu12 ?_ (.inr ?_))
          · rw [hEn]
            have := Nat.mul_le_mul_right u (Nat.le_of_not_lt hm)
            omega
          · have := h2 (u - 1) (by omega)
            rw [hEn]
            omega
        · rw [if_neg (by omega)]
          refine q _ (.none ?_)
          have := h2 12 (by omega)
          rw [hEn]
          omega
      · rw [show (if 1 < (u : Int) then (u : Int) else 1) = 1 from if_neg (by omega), if_pos (by decide)]
        refine q _ (.some 1 (by omega) (by omega) ?_ (.inl rfl))
        rw [hEn]
        have : k * u ≤ k * 1 := Nat.mul_le_mul_left k (by omega)
        omega
    · rw [if_neg hk0]
      have hk1 : k = 0 := by omega
      refine q _ (.some 1 (by omega) (by omega) ?_ (.inl rfl))
      have hm0 : mx ts = 0 := by omega
      have h2 := hS.2.1
      rw [hm0, Nat.mul_zero] at h2
      rw [hEn, hm0, hk1]
      omega
end Law67

set_option maxHeartbeats 4000000
namespace Law67
open PySem PySem.Spec PyProof.Rows
open L2 hiding FnOk Room
open L3
open Press (f1 f2 Pc lay nxt amt Clash)
/-! ### what parted tells does all -/
theorem mk_add {p a b : Nat} (hp : 0 < p) : mkRat (a : Int) p + mkRat (b : Int) p = mkRat ((a + b : Nat) : Int) p := by
  rw [Rat.mkRat_add_mkRat _ _ (by omega) (by omega), Rat.mkRat_eq_iff (by have := Nat.mul_pos hp hp; omega) (by omega)]
  rw [Int.natCast_add, Int.natCast_mul, Int.add_mul, Int.add_mul, Int.mul_assoc, Int.mul_assoc]
theorem mk_sub {p a b : Nat} (hp : 0 < p) (h : a ≤ b) : mkRat (b : Int) p - mkRat (a : Int) p = mkRat ((b - a : Nat) : Int) p := by
  have := mk_add (p := p) (a := b - a) (b := a) hp
  rw [Nat.sub_add_cancel h] at this
  rw [← this]
  grind
theorem mk_nat {p t : Nat} (hp : 0 < p) : mkRat ((t * p : Nat) : Int) p = (t : Rat) := by
  have e := tk_rat (P := p) (x := t * p) hp
  rw [tk_whole hp] at e
  exact (rD_inj ((rD_nat t).trans e)).symm
def toQ (p : Nat) (x : Pc) : Pq := ⟨x.p, mkRat (x.a : Int) p, mkRat (x.b : Int) p, x.j⟩
theorem pc_q {p : Nat} (hp : 0 < p) (x : Pc) : pcD p x = pqD (toQ p x) := by
  unfold pqD toQ
  rw [← tk_rat hp, ← tk_rat hp]
theorem amt_q {p : Nat} (hp : 0 < p) (i : Nat) : ∀ {L : List Pc}, (∀ x ∈ L, x.a < x.b) → amtQ i (L.map (toQ p)) = mkRat (amt i L : Int) p
  | [], _ => by
    show (0 : Rat) = mkRat ((0 : Nat) : Int) p
    simp
  | x :: L, h => by
    have ih := amt_q hp i fun y hy => h y (List.mem_cons_of_mem _ hy)
    have hx := h x List.mem_cons_self
    show (if x.j = i then mkRat (x.b : Int) p - mkRat (x.a : Int) p else 0) + amtQ i (L.map (toQ p)) = mkRat (((if x.j = i then x.b - x.a else 0) + amt i L : Nat) : Int) p
    rw [ih]
    by_cases z : x.j = i
    · rw [if_pos z, if_pos z, mk_sub hp (by omega), mk_add hp]
    · rw [if_neg z, if_neg z, Rat.zero_add, Nat.zero_add]
theorem mk_nn {p a : Nat} : 0 ≤ mkRat (a : Int) p := by
  by_cases hp : 0 < p
  · refine Rat.num_nonneg.mp ?_
    rw [(mkR hp).1, Int.natAbs_natCast, ← Int.natCast_ediv]
    exact Int.natCast_nonneg _
  · rw [show p = 0 by omega, Rat.mkRat_zero]
    exact Rat.le_refl
theorem told_does {ts : List Nat} {p : Nat} {L : List Pc} (h : Times ts) (hp : 0 < p) (hL : L.Perm (All ts p)) : IsPcs ts p (.tup (L.map (pcD p))) := by
  have hg : ∀ x ∈ L, x.a < x.b ∧ x.b ≤ En ts p ∧ x.p < p ∧ x.j < ts.length := fun x hx => All_good hp x (hL.mem_iff.mp hx)
  have hlen : L.length ≤ 48 := by
    have := Press.lay_len (E := En ts p) (xs := ts.map (· * p)) (p := 0) (h := 0) (j := 0)
    rw [List.length_map] at this
    have := h.2.1
    rw [hL.length_eq]
    show (lay _ _ _ _ _).length ≤ _
    omega
  refine ⟨L.map (toQ p), ?_, ?_, fun x hx => ?_, fun x hx => ?_, ?_, fun i hi => ?_⟩
  · rw [List.map_map]
    exact congrArg D.tup (List.map_congr_left fun x _ => pc_q hp x)
  · rw [List.length_map]
    omega
  · obtain ⟨x, hx', rfl⟩ := List.mem_map.mp hx
    obtain ⟨h1, h2, h3, h4⟩ := hg x hx'
    exact ⟨h3, h4, mk_nn, (mk_lt hp).mpr h1⟩
  · obtain ⟨x, hx', rfl⟩ := List.mem_map.mp hx
    have := (hg x hx').2.1
    exact fun z => absurd ((mk_lt hp).mp z) (by omega)
  · rw [List.pairwise_map]
    have := All_pw (ts := ts) hp
    have hs : ∀ {x y : Pc}, ¬ Clash x y → ¬ Clash y x := fun h z => h ⟨z.2.1, z.1, z.2.2.elim (fun e => .inl e.symm) fun e => .inr e.symm⟩
    have := (hL.pairwise_iff hs).mpr this
    exact this.imp fun {x y} hc z => hc ⟨(mk_lt hp).mp z.1, (mk_lt hp).mp z.2.1, z.2.2⟩
  · rw [amt_q hp i fun x hx => (hg x hx).1, Press.amt_perm hL, All_amt hp, mk_nat hp]
/-! ### presses for a tick -/
theorem En_mono {ts : List Nat} {k v m : Nat} (h : En ts v ≤ k * v) (hv : 1 ≤ v) (hm : v ≤ m) : En ts m ≤ k * m := by
  unfold En at h ⊢
  have h1 : mx ts * v ≤ k * v := by omega
  have h2 : mx ts ≤ k := Nat.le_of_mul_le_mul_right h1 (by omega)
  have h3 := Nat.mul_le_mul_right m h2
  have h4 := Nat.mul_le_mul_left k hm
  omega
def okP (ts : List Nat) (k i : Nat) : Bool := decide (En ts (i + 1) ≤ k * (i + 1))
theorem tick_lt {ts : List Nat} {k m : Nat} (hm : 0 < m) : decide ((k : Rat) < endQ ts m) = decide (k * m < En ts m) := by
  rw [← mk_nat (t := k) hm]
  exact decide_eq_decide.mpr (mk_lt hm)
theorem first_of {ts : List Nat} {k : Nat} {d : D} (h : Fits ts k d) : (d = .non ∧ (List.range 12).filter (okP ts k) = []) ∨ ∃ (i : Nat) (r : List Nat), d = .int ((i : Int) + 1) ∧ i < 12 ∧ (List.range 12).filter (okP ts k) = i :: r := by
  cases h with
  | none h =>
    refine .inl ⟨rfl, List.filter_eq_nil_iff.mpr fun i hi => ?_⟩
    have hi := List.mem_range.mp hi
    intro z
    have := En_mono (of_decide_eq_true z) (by omega) (show i + 1 ≤ 12 by omega)
    omega
  | some m m1 m2 h1 h2 =>
    obtain ⟨i, rfl⟩ : ∃ i, m = i + 1 := ⟨m - 1, by omega⟩
    have hmem : i ∈ (List.range 12).filter (okP ts k) := List.mem_filter.mpr ⟨List.mem_range.mpr (by omega), decide_eq_true h1⟩
    have hs : ((List.range 12).filter (okP ts k)).Pairwise (· < ·) := List.pairwise_lt_range.filter _
    cases e : (List.range 12).filter (okP ts k) with
    | nil => rw [e] at hmem; cases hmem
    | cons j r =>
      rw [e] at hmem hs
      have hj : okP ts k j = true := (List.mem_filter.mp (show j ∈ (List.range 12).filter (okP ts k) by rw [e]; exact List.mem_cons_self)).2
      have hji : j ≤ i := by
        rcases List.mem_cons.mp hmem with rfl | z
        · exact Nat.le_refl _
        · exact Nat.le_of_lt ((List.pairwise_cons.mp hs).1 _ z)
      have hij : i ≤ j := by
        rcases h2 with h2 | h2
        · omega
        · apply Nat.le_of_not_lt
          intro z
          have := En_mono (of_decide_eq_true hj) (by omega) (show j + 1 ≤ i by omega)
          rw [show i + 1 - 1 = i by omega] at h2
          omega
      have : j = i := by omega
      subst this
      exact .inr ⟨j, r, by rw [Int.natCast_add]; rfl, by omega, rfl⟩
variable {E : End3} {c : Nat}
theorem S_isr_t1 {ts : List Nat} {p : Nat} {s3 s4 s5 s6 s7 s8 s9 s10 s11 s12 s13 s14 : SV} (hc : c < 800000) (h : Times ts) (p1 : 1 ≤ p) (p2 : p ≤ 12) (q : E.rt (.bl true) (c + 2)) :
    g_law_is_right_t1 E [.val .pot, .val (tsD ts), .val (.int p), s3, s4, s5, s6, s7, s8, s9, s10, s11, s12, s13, s14] c := by
  obtain ⟨a, as, ea, em⟩ := mx_fold h
  have hS := h.sum
  simp [g_law_is_right_t1, -compL]
  refine S_take (by decide) (by decide) (by omega) fun x x0 x1 => ?_
  rw [intsOf_nD, ea]
  simp only
  rw [em, ← ea, sum_nD]
  obtain ⟨u, eu, u1, u2⟩ := ceil_of (S := ts.sum) (k := p) (by omega)
  refine ⟨⟨by omega, by omega⟩, ?_⟩
  rw [eu]
  refine S_law_of (by simp) (by simp) (by omega) fun d hd => ?_
  have : ∃ k : Nat, d = .int k ∧ k ≤ 100000 := by
    simp only [List.mem_cons, List.not_mem_nil, or_false] at hd
    rcases hd with rfl | rfl | rfl | rfl
    · obtain ⟨k, rfl⟩ := Int.eq_ofNat_of_zero_le x0
      exact ⟨k, rfl, by omega⟩
    · exact ⟨_, rfl, by omega⟩
    · exact ⟨_, rfl, by omega⟩
    · refine ⟨_, rfl, ?_⟩
      cases u with
      | zero => omega
      | succ u =>
        have h1 := u2 u (by omega)
        have h2 := Nat.mul_le_mul_right u p1
        omega
  obtain ⟨k, rfl, hk⟩ := this
  simp [-compL]
  rw [show rangeL 1 12 = (List.range 12).map fun i => D.int (1 + (i : Nat)) from rfl]
  refine comp_filterG (okP ts k) _ (fun i => D.int ((i : Int) + 1)) _ _ (fun i hi A B hA hB => ?_) ?_
  · have hi := List.mem_range.mp hi
    simp
    rw [show (1 : Int) + (i : Int) = ((i + 1 : Nat) : Int) by omega]
    refine S_law_soonest h (by omega) (by omega) ?_
    rw [← rD_nat]
    refine S_law_less (by rw [Rat.den_natCast]; decide) (end_den (by omega) (by omega)) ?_
    rw [tick_lt (by omega)]
    have hA : okP ts k i = true → A (D.int ((i + 1 : Nat) : Int)) (c + 1 + 1) := hA
    by_cases z : k * (i + 1) < En ts (i + 1)
    · rw [decide_eq_true z]
      simp
      exact hB (decide_eq_false (by omega))
    · rw [decide_eq_false z]
      simp
      exact hA (decide_eq_true (by omega))
  refine S_presses_for h hk fun d hf => ?_
  rcases first_of hf with ⟨rfl, e⟩ | ⟨i, r, rfl, hi, e⟩
  · rw [e]
    obtain ⟨y, hy⟩ := show_small (n := 0) (d := .non) rfl (by decide) (by decide)
    refine ⟨y, hy, ⟨rfl, rfl⟩, ?_⟩
    rw [if_pos (by rfl)]
    refine ⟨y, hy, ?_⟩
    rw [decide_eq_true rfl]
    exact q
  · rw [e]
    obtain ⟨y, hy⟩ := show_small (n := 0) (d := .int ((i : Int) + 1)) (okD_int (by omega)) (by decide) (by simp [szD])
    refine ⟨y, hy, ⟨?_, rfl⟩, ?_⟩
    · show pyDL 63 _ = true
      exact pyDL_map fun x _ => pyD_int
    · rw [if_neg (by
        rw [show eqvD (D.lst ((i :: r).map fun i : Nat => D.int ((i : Int) + 1))) (.lst []) = eqvDL ((i :: r).map fun i : Nat => D.int ((i : Int) + 1)) [] by unfold eqvD; rfl, eqvDL_nil]
        simp)]
      rw [List.map_cons, atI_0]
      refine ⟨y, hy, ?_⟩
      rw [decide_eq_true rfl]
      exact q
/-! ### values -/
def Nice (d : D) : Prop := (∃ i, d = .int i) ∨ ∃ n, niceD n d = true
theorem S_shows_N {ts : List Nat} {p : Nat} {d : D} {c : Nat} {Q : KD} {QX : KXD} (h : Times ts) (p1 : 1 ≤ p) (p2 : p ≤ 12) (hd : Nice d) (q1 : IsPcs ts p d → Q (.bl true) c) (q2 : ¬ IsPcs ts p d → Q (.bl false) c) : m_shows_parted [tsD ts, .int p, d] c Q QX := by
  rcases hd with ⟨i, rfl⟩ | ⟨n, hn⟩
  · refine ⟨rfl, ?_⟩
    simp [g_shows_parted, start3, -compL, -forL]
    exact S_times h p1 p2 ⟨rfl, q2 fun ⟨_, e, _⟩ => by cases e⟩
  · exact S_shows_any h p1 p2 hn q1 q2
theorem S_law_N {ts : List Nat} {p : Nat} {d : D} {c : Nat} {Q : KD} (h : Times ts) (p1 : 1 ≤ p) (p2 : p ≤ 12) (hd : Nice d) (q1 : IsPcs ts p d → Q (.bl true) c) (q2 : ¬ IsPcs ts p d → Q (.bl false) c) : m_law_are_pieces [tsD ts, .int p, d] c Q := by
  rcases hd with ⟨i, rfl⟩ | ⟨n, hn⟩
  · refine ⟨rfl, ?_⟩
    simp [runM, g_law_are_pieces, start3, -compL, -forL]
    exact ⟨rfl, q2 fun ⟨_, e, _⟩ => by cases e⟩
  · exact S_law_any h p1 p2 hn q1 q2
theorem S_oddN {c : Nat} (hc : c < 1000000) {Q : KD} (q : ∀ d, Nice d → Q d (c + 1)) : m_law_odd [.pot] c Q := by
  refine ⟨rfl, ?_⟩
  simp [runM, g_law_odd, start3]
  refine S_law_of (by simp) (by simp) hc fun d hd => q d ?_
  simp only [List.mem_cons, List.not_mem_nil, or_false] at hd
  rcases hd with rfl | rfl | rfl | rfl | rfl | rfl | rfl | rfl | rfl | rfl | rfl | rfl | rfl | rfl | rfl | rfl | rfl | rfl | rfl | rfl | rfl | rfl | rfl | rfl | rfl | rfl | rfl | rfl
  all_goals first | exact .inl ⟨_, rfl⟩ | exact .inr ⟨4, by decide +kernel⟩
def OneD (d : D) : Prop := ∃ a b j : Nat, d = .tup [.int 0, .tup [.int (a : Int), .int 1], .tup [.int (b : Int), .int 1], nD j] ∧ a ≤ 100000 ∧ b ≤ 100000 ∧ j ≤ 24
theorem one_nice {d : D} (h : OneD d) : niceD 3 d = true := by
  obtain ⟨a, b, j, rfl, ha, hb, hj⟩ := h
  have n1 : niceD 2 (.tup [.int (a : Int), .int 1]) = true := nice_mk (by simp) fun d hd => by
    simp only [List.mem_cons, List.not_mem_nil, or_false] at hd
    rcases hd with rfl | rfl
    · exact nice_int (by omega)
    · exact nice_int (by decide)
  have n2 : niceD 2 (.tup [.int (b : Int), .int 1]) = true := nice_mk (by simp) fun d hd => by
    simp only [List.mem_cons, List.not_mem_nil, or_false] at hd
    rcases hd with rfl | rfl
    · exact nice_int (by omega)
    · exact nice_int (by decide)
  refine nice_mk (by simp) fun d hd => ?_
  simp only [List.mem_cons, List.not_mem_nil, or_false] at hd
  rcases hd with rfl | rfl | rfl | rfl
  · exact nice_int (by decide)
  · exact n1
  · exact n2
  · exact nice_int (by omega)
theorem tk_sm {p x : Nat} (hp : 0 < p) (hp2 : p ≤ 100) (hx : x < 1000000) : smD 1 (tk p x) = true := by
  unfold smD
  rw [Bool.and_eq_true]
  have h1 : f1 p x ≤ x := Nat.div_le_self _ _
  have h2 := Press.f2_le (P := p) (x := x)
  refine ⟨rfl, smL_of fun d hd => ?_⟩
  simp only [List.mem_cons, List.not_mem_nil, or_false] at hd
  rcases hd with rfl | rfl
  · unfold smD; exact decide_eq_true (by omega)
  · unfold smD; exact decide_eq_true (by omega)
theorem pc_sm {p : Nat} {x : Pc} (hp : 0 < p) (hp2 : p ≤ 100) (h1 : x.p < 100) (h2 : x.a < 1000000) (h3 : x.b < 1000000) (h4 : x.j < 100) : smD 2 (pcD p x) = true := by
  unfold smD
  rw [Bool.and_eq_true]
  refine ⟨rfl, smL_of fun d hd => ?_⟩
  simp only [List.mem_cons, List.not_mem_nil, or_false] at hd
  rcases hd with rfl | rfl | rfl | rfl
  · unfold smD; exact decide_eq_true (by omega)
  · exact tk_sm hp hp2 h2
  · exact tk_sm hp hp2 h3
  · unfold smD; exact decide_eq_true (by omega)
theorem told_sm {ts : List Nat} {p : Nat} {L : List Pc} (h : Times ts) (h9 : ts.length ≤ 9) (hp : 0 < p) (p2 : p ≤ 12) (hL : L.Perm (All ts p)) : L.length ≤ 18 ∧ ∀ x ∈ L, smD 2 (pcD p x) = true := by
  have hlen : L.length ≤ 18 := by
    have := Press.lay_len (E := En ts p) (xs := ts.map (· * p)) (p := 0) (h := 0) (j := 0)
    rw [List.length_map] at this
    rw [hL.length_eq]
    show (lay _ _ _ _ _).length ≤ _
    omega
  have hS := h.sum
  have hE : En ts p ≤ 24000 := by
    unfold En
    have := Nat.mul_le_mul hS.2.2.2 p2
    omega
  refine ⟨hlen, fun x hx => ?_⟩
  obtain ⟨h1, h2, h3, h4⟩ := All_good hp x (hL.mem_iff.mp hx)
  exact pc_sm hp (by omega) (by omega) (by omega) (by omega) (by omega)
theorem S_isr_t2 {ts : List Nat} {p : Nat} {L : List Pc} {O : List D} {s3 s6 s7 s8 s9 s10 s11 s12 s13 s14 : SV} (hc : c < 700000) (h : Times ts) (h9 : ts.length ≤ 9) (p1 : 1 ≤ p) (p2 : p ≤ 12) (hL : L.Perm (All ts p)) (hO : ∀ d ∈ O, OneD d) (hOl : O.length ≤ 24) (q : ∀ c', c' ≤ c + 70 → E.rt (.bl true) c') :
    g_law_is_right_t2 E [.val .pot, .val (tsD ts), .val (.int p), s3, .val (.tup (L.map (pcD p))), .own O, s6, s7, s8, s9, s10, s11, s12, s13, s14] c := by
  obtain ⟨hlen, hsm⟩ := told_sm h h9 p1 p2 hL
  simp [g_law_is_right_t2, -forL, -compL]
  have hc1 : L3.cutD (L.map (pcD p)) (some 1) none = (L.drop 1).map (pcD p) := by rw [show (some 1 : Option Int) = some ((1 : Nat) : Int) from rfl, cutD_from, List.map_drop]
  have hc2 : L3.cutD (L.map (pcD p)) none (some 1) = (L.take 1).map (pcD p) := by rw [show (some 1 : Option Int) = some ((1 : Nat) : Int) from rfl, cutD_to, List.map_take]
  rw [hc1, hc2]
  refine ⟨by rw [List.length_map, List.length_take]; omega, S_oddN (by omega) fun od hod => ?_⟩
  simp [-forL, -compL]
  have h7 : (rangeL 0 7).length = 7 := rfl
  have hs3 : smD 3 (.tup (L.map (pcD p))) = true := by
    unfold smD
    rw [Bool.and_eq_true]
    refine ⟨decide_eq_true (by rw [List.length_map]; omega), smL_of fun d hd => ?_⟩
    obtain ⟨x, hx, rfl⟩ := List.mem_map.mp hd
    exact hsm x hx
  refine comp_le Nice 8 900000 _ _ _ (fun d hd c' K hc' hK => ?_) (by rw [h7]; omega) fun bs c2 hb1 hb2 hc2 => ?_
  · simp
    exact S_bent 6 3 _ _ _ (by decide) (by decide) hs3 (by omega) fun d' c' h1 h2 => hK _ _ (.inr ⟨_, h1⟩) (by omega)
  have nl : ∀ M : List Pc, (∀ x ∈ M, x ∈ L) → ∀ d ∈ M.map (pcD p), niceD 2 d = true := fun M hM d hd => by
    obtain ⟨x, hx, rfl⟩ := List.mem_map.mp hd
    exact smD_nice 2 2 _ (Nat.le_refl _) (hsm x (hM x hx))
  have hN : ∀ d ∈ (D.tup (List.map (pcD p) L) :: D.lst (List.map (pcD p) L) :: D.tup (List.map (pcD p) L).reverse :: D.tup (List.map (pcD p) L).tail :: D.tup (List.map (pcD p) L ++ List.take 1 (List.map (pcD p) L)) :: D.tup O :: D.tup [] :: D.non :: od :: bs), Nice d := fun d hd => by
    simp only [List.mem_cons] at hd
    rcases hd with rfl | rfl | rfl | rfl | rfl | rfl | rfl | rfl | rfl | hd
    · exact .inr ⟨3, nice_mk (by rw [List.length_map]; omega) (nl L fun _ h => h)⟩
    · exact .inr ⟨3, nice_mkL (by rw [List.length_map]; omega) (nl L fun _ h => h)⟩
    · rw [← List.map_reverse]
      exact .inr ⟨3, nice_mk (by rw [List.length_map, List.length_reverse]; omega) (nl _ fun _ h => List.mem_reverse.mp h)⟩
    · rw [← List.map_tail]
      exact .inr ⟨3, nice_mk (by rw [List.length_map, List.length_tail]; omega) (nl _ fun _ h => List.mem_of_mem_tail h)⟩
    · rw [← List.map_take, ← List.map_append]
      refine .inr ⟨3, nice_mk (by rw [List.length_map, List.length_append, List.length_take]; omega) (nl _ fun x h => ?_)⟩
      rcases List.mem_append.mp h with z | z
      · exact z
      · exact List.mem_of_mem_take z
    · exact .inr ⟨4, nice_mk (by omega) fun d hd => one_nice (hO d hd)⟩
    · exact .inr ⟨4, rfl⟩
    · exact .inr ⟨4, nice_non⟩
    · exact hod
    · exact hb2 d hd
  refine ⟨by omega, ?_⟩
  generalize (D.tup (List.map (pcD p) L) :: D.lst (List.map (pcD p) L) :: D.tup (List.map (pcD p) L).reverse :: D.tup (List.map (pcD p) L).tail :: D.tup (List.map (pcD p) L ++ List.take 1 (List.map (pcD p) L)) :: D.tup O :: D.tup [] :: D.non :: od :: bs) = vs at hN ⊢
  refine for_rule (I := fun rr ρ c' => c' = c2 ∧ (∀ d ∈ rr, Nice d) ∧ ∃ s4 s5 s6 s7 s8 s9 s10 s11 s12 s13 s14 : SV, ρ = [.val .pot, .val (tsD ts), .val (.int p), s3, s4, s5, s6, s7, s8, s9, s10, s11, s12, s13, s14]) ?_ ?_ _ _ _ ⟨rfl, hN, _, _, _, _, _, _, _, _, _, _, _, rfl⟩
  · rintro d r ρ c' ⟨rfl, hN, s4, s5, s6, s7, s8, s9, s10, s11, s12, s13, s14, rfl⟩ N hN'
    have hd := hN d List.mem_cons_self
    have hr : ∀ d ∈ r, Nice d := fun d hd => hN d (List.mem_cons_of_mem _ hd)
    simp
    refine S_shows_N h p1 p2 hd (fun z => ?_) fun z => ?_
    · refine S_law_N h p1 p2 hd (fun _ => ?_) fun z' => absurd z z'
      exact S_law_is_bool rfl (hN' _ _ ⟨rfl, hr, _, _, _, _, _, _, _, _, _, _, _, rfl⟩)
    · refine S_law_N h p1 p2 hd (fun z' => absurd z' z) fun _ => ?_
      exact S_law_is_bool rfl (hN' _ _ ⟨rfl, hr, _, _, _, _, _, _, _, _, _, _, _, rfl⟩)
  · rintro ρ c' ⟨rfl, _, s4, s5, s6, s7, s8, s9, s10, s11, s12, s13, s14, rfl⟩
    exact S_isr_t1 (by omega) h p1 p2 (q _ (by omega))
theorem S_isr_t3 {ts : List Nat} {p : Nat} {L : List Pc} {s3 s5 s6 s7 s8 s9 s10 s11 s12 s13 s14 : SV} (hc : c < 700000) (h : Times ts) (h9 : ts.length ≤ 9) (p1 : 1 ≤ p) (p2 : p ≤ 12) (hL : L.Perm (All ts p)) (q : ∀ c', c' ≤ c + 70 → E.rt (.bl true) c') :
    g_law_is_right_t3 E [.val .pot, .val (tsD ts), .val (.int p), s3, .val (.tup (L.map (pcD p))), s5, s6, s7, s8, s9, s10, s11, s12, s13, s14] c := by
  simp [g_law_is_right_t3, -forL]
  refine for_rule (I := fun rr ρ c' => c' = c ∧ ∃ (k : Nat) (w : List Nat) (O : List D) (here : Nat) (s7 s8 : SV), rr = enumL k (w.map nD) ∧ k + w.length = ts.length ∧ O.length ≤ k ∧ here ≤ k * 1000 ∧ (∀ t ∈ w, t ∈ ts) ∧ (∀ d ∈ O, OneD d) ∧ ρ = [.val .pot, .val (tsD ts), .val (.int p), s3, .val (.tup (L.map (pcD p))), .own O, .val (nD here), s7, s8, s9, s10, s11, s12, s13, s14]) ?_ ?_ _ _ _ ⟨rfl, 0, ts, [], 0, _, _, rfl, by omega, Nat.le_refl _, Nat.le_refl _, fun _ h => h, fun _ h => absurd h List.not_mem_nil, rfl⟩
  · rintro d r' ρ c' ⟨rfl, k, w, O, here, s7, s8, er, hk, hOk, hh, hw, hO, rfl⟩ N hN
    cases w with
    | nil => cases er
    | cons t w =>
      rw [enum_map] at er
      obtain ⟨rfl, rfl⟩ := List.cons.inj er
      rw [List.length_cons] at hk
      have ht := h.2.2 t (hw t List.mem_cons_self)
      have hw' : ∀ t ∈ w, t ∈ ts := fun x hx => hw x (List.mem_cons_of_mem _ hx)
      simp
      by_cases z : 0 < t
      · rw [if_pos z]
        refine ⟨by omega, ?_⟩
        rw [← Int.natCast_add]
        refine hN _ _ ⟨rfl, k + 1, w, _, here + t, _, _, rfl, by omega, by rw [List.length_append]; simp; omega, by omega, hw', fun d hd => ?_, rfl⟩
        rcases List.mem_append.mp hd with w | w
        · exact hO d w
        · rw [List.mem_singleton.mp w]
          exact ⟨here, here + t, k, by rw [Int.natCast_add], by omega, by omega, by omega⟩
      · rw [if_neg z]
        refine ⟨by omega, ?_⟩
        rw [← Int.natCast_add]
        exact hN _ _ ⟨rfl, k + 1, w, O, here + t, _, _, rfl, by omega, by omega, by omega, hw', hO, rfl⟩
  · rintro ρ c' ⟨rfl, k, w, O, here, s7, s8, er, hk, hOk, hh, hw, hO, rfl⟩
    exact S_isr_t2 hc h h9 p1 p2 hL hO (by omega) q
theorem S_isr {ts : List Nat} {p : Nat} (hc : c < 600000) (h : Times ts) (h9 : ts.length ≤ 9) (p1 : 1 ≤ p) (p2 : p ≤ 12) {Q : KD} (q : ∀ c', c' ≤ c + 70 → Q (.bl true) c') : m_law_is_right [.pot, tsD ts, .int p] c Q := by
  refine ⟨rfl, ?_⟩
  have hp : 0 < p := p1
  simp [runM, g_law_is_right, start3]
  refine S_law_soonest h p1 p2 (S_parted h p1 p2 fun L hL => ?_)
  refine S_soonestP h p1 p2 ?_
  have hS := h.sum
  have hE : En ts p ≤ 24000 := by
    unfold En
    have := Nat.mul_le_mul hS.2.2.2 p2
    omega
  obtain ⟨y, hy⟩ := show_small (n := 1) (d := tk p (En ts p)) (by
    have h1 : f1 p (En ts p) ≤ En ts p := Nat.div_le_self _ _
    have h2 := Press.f2_le (P := p) (x := En ts p)
    refine okD_tup fun d hd => ?_
    simp only [List.mem_cons, List.not_mem_nil, or_false] at hd
    rcases hd with rfl | rfl
    · exact okD_int (by omega)
    · exact okD_int (by omega)) (by decide) (by simp [szD, szL])
  have hy2 : ShowP (rD (endQ ts p)) y := by rw [← end_rat hp]; exact hy
  refine ⟨y, hy, y, hy2, ?_⟩
  rw [if_pos rfl]
  obtain ⟨hlen, hsm⟩ := told_sm h h9 p1 p2 hL
  refine S_law_N h p1 p2 (.inr ⟨3, nice_mk (by rw [List.length_map]; omega) fun d hd => ?_⟩) (fun _ => ?_) fun z => absurd (told_does h hp hL) z
  · obtain ⟨x, hx, rfl⟩ := List.mem_map.mp hd
    exact smD_nice 2 2 _ (Nat.le_refl _) (hsm x hx)
  · simp
    exact S_isr_t3 (by omega) h h9 p1 p2 hL q
end Law67

set_option maxHeartbeats 4000000
namespace Law67
open PySem PySem.Spec PyProof.Rows
open L2 hiding FnOk Room
open L3
open Press (f1 f2 Pc lay nxt amt Clash)
def badT : List D := [.non, .tup [], .lst [.int 1], .tup [.int (-1)], .tup [.bl true], .tup [.int 1000000000001], .tup (List.replicate 25 [D.int 1]).flatten, .str "0"]
def badP : List D := [.non, .int 0, .int 13, .bl true, .str "1", .int (-1)]
def badK : List D := [.non, .int (-1), .bl true, .str "1", .int 24000000000001]
section
variable {d x y : D} {c : Nat} {Q : KD} {QX : KXD}
theorem S_badT (h : d ∈ badT) (q : QX "BadJobs" d c) : m_look_at_times [d, x] c Q QX := by
  refine ⟨rfl, ?_⟩
  simp only [badT, List.mem_cons, List.not_mem_nil, or_false] at h
  rcases h with rfl | rfl | rfl | rfl | rfl | rfl | rfl | rfl <;> simp [g_look_at_times, start3] <;> refine S_are_ints rfl ?_ <;> simp [L3.areIntsB, L3.isIntB] <;> exact q
theorem S_badP (h : d ∈ badP) (q : QX "BadInt" d c) : m_look_at_times [.tup [.int 1], d] c Q QX := by
  refine ⟨rfl, ?_⟩
  simp [g_look_at_times, start3]
  refine S_are_ints rfl ?_
  simp [L3.areIntsB, L3.isIntB]
  simp only [badP, List.mem_cons, List.not_mem_nil, or_false] at h
  rcases h with rfl | rfl | rfl | rfl | rfl | rfl <;> refine S_is_int rfl ?_ <;> simp [L3.isIntB] <;> exact q
theorem S_bT_soon (h : d ∈ badT) (q : QX "BadJobs" d c) : m_soonest [d, x] c Q QX := by
  refine ⟨rfl, ?_⟩
  simp [g_soonest, start3]
  exact S_badT h q
theorem S_bT_part (h : d ∈ badT) (q : QX "BadJobs" d c) : m_parted [d, x] c Q QX := by
  refine ⟨rfl, ?_⟩
  simp [g_parted, start3, -forL, -compL]
  exact S_badT h q
theorem S_bT_shows (h : d ∈ badT) (q : QX "BadJobs" d c) : m_shows_parted [d, x, y] c Q QX := by
  refine ⟨rfl, ?_⟩
  simp [g_shows_parted, start3, -forL, -compL]
  exact S_badT h q
theorem S_bT_for (h : d ∈ badT) (q : QX "BadJobs" d c) : m_presses_for [d, x] c Q QX := by
  refine ⟨rfl, ?_⟩
  simp [g_presses_for, start3]
  exact S_badT h q
theorem S_bP_soon (h : d ∈ badP) (q : QX "BadInt" d c) : m_soonest [.tup [.int 1], d] c Q QX := by
  refine ⟨rfl, ?_⟩
  simp [g_soonest, start3]
  exact S_badP h q
theorem S_bP_part (h : d ∈ badP) (q : QX "BadInt" d c) : m_parted [.tup [.int 1], d] c Q QX := by
  refine ⟨rfl, ?_⟩
  simp [g_parted, start3, -forL, -compL]
  exact S_badP h q
theorem S_bP_shows (h : d ∈ badP) (q : QX "BadInt" d c) : m_shows_parted [.tup [.int 1], d, y] c Q QX := by
  refine ⟨rfl, ?_⟩
  simp [g_shows_parted, start3, -forL, -compL]
  exact S_badP h q
theorem S_bK_for (h : d ∈ badK) (q : QX "BadInt" d c) : m_presses_for [.tup [.int 1], d] c Q QX := by
  refine ⟨rfl, ?_⟩
  simp [g_presses_for, start3]
  have ht : Times [1] := ⟨by simp, by simp, by simp⟩
  refine S_times (ts := [1]) (p := 1) ht (by decide) (by decide) ?_
  refine ⟨.inl ⟨by decide, by decide⟩, ?_⟩
  simp only [badK, List.mem_cons, List.not_mem_nil, or_false] at h
  rcases h with rfl | rfl | rfl | rfl | rfl <;> refine S_is_int rfl ?_ <;> simp [L3.isIntB] <;> exact q
end
theorem showT {d : D} (h : d ∈ badT) : ∃ y, ShowP d y := by
  simp only [badT, List.mem_cons, List.not_mem_nil, or_false] at h
  rcases h with rfl | rfl | rfl | rfl | rfl | rfl | rfl | rfl
  all_goals first | exact show_small (n := 5) (by decide +kernel) (by decide) (by decide +kernel) | exact ⟨_, rfl, rfl, rfl, by decide +kernel, by decide +kernel⟩
theorem showPd {d : D} (h : d ∈ badP) : ∃ y, ShowP d y := by
  simp only [badP, List.mem_cons, List.not_mem_nil, or_false] at h
  rcases h with rfl | rfl | rfl | rfl | rfl | rfl
  all_goals first | exact show_small (n := 5) (by decide +kernel) (by decide) (by decide +kernel) | exact ⟨_, rfl, rfl, rfl, by decide +kernel, by decide +kernel⟩
theorem showK {d : D} (h : d ∈ badK) : ∃ y, ShowP d y := by
  simp only [badK, List.mem_cons, List.not_mem_nil, or_false] at h
  rcases h with rfl | rfl | rfl | rfl | rfl
  all_goals first | exact show_small (n := 5) (by decide +kernel) (by decide) (by decide +kernel) | exact ⟨_, rfl, rfl, rfl, by decide +kernel, by decide +kernel⟩
variable {E : End3} {c : Nat}
theorem S_right_t1 {is : Nat → Obj → Prop} {s1 s2 s3 s4 s5 s6 : SV} (hc : c < 900000) (q : E.rt (.bl true) (c + 1)) : g_law_right_t1 is E [.val .pot, s1, s2, s3, s4, s5, s6] c := by
  simp [g_law_right_t1]
  refine ⟨.inl ⟨by decide, by decide⟩, S_law_of (by simp) (by simp) (by omega) fun d hd => ?_⟩
  have hb : d ∈ badK := by
    simpa [badK] using hd
  have hcv : ∀ cv, cvD cv d = d := fun cv => by
    simp only [badK, List.mem_cons, List.not_mem_nil, or_false] at hb
    rcases hb with rfl | rfl | rfl | rfl | rfl <;> rfl
  intro f0 o0 h0 f1 o1 h1 here cv hh
  rw [hcv cv]
  obtain ⟨y, hy⟩ := showK hb
  have a0 := hh f0 o0 (.inr ⟨_, List.mem_cons_self, by simp⟩)
  have a1 := hh f1 o1 (.inl (by simp))
  refine S_refused (n := "BadInt") (ds := [cv f0 o0]) (is_it := cv f1 o1) (v := d) rfl (fun x hx => ?_) ⟨10, f1, o1, h1, a1, rfl⟩ (fun c Q QX q => ⟨10, f1, o1, h1, a1, rfl, rfl, ?_⟩) hy (by simp) q
  · simp only [List.mem_cons, List.not_mem_nil, or_false] at hx
    subst hx
    exact ⟨⟨9, f0, o0, h0, a0, rfl⟩, fun c Q QX q => ⟨9, f0, o0, h0, a0, rfl, rfl, by simp [tab_law_right]; exact S_bK_for hb q⟩⟩
  · simp [tab_law_right]
    exact ⟨by decide, q⟩
theorem S_right_t2 {is : Nat → Obj → Prop} {s1 s2 s3 s4 s5 s6 : SV} (hc : c < 800000) (q : E.rt (.bl true) (c + 2)) : g_law_right_t2 is E [.val .pot, s1, s2, s3, s4, s5, s6] c := by
  simp [g_law_right_t2]
  refine S_law_of (by simp) (by simp) (by omega) fun d hd => ?_
  have hb : d ∈ badP := by
    simpa [badP] using hd
  have hcv : ∀ cv, cvD cv d = d := fun cv => by
    simp only [badP, List.mem_cons, List.not_mem_nil, or_false] at hb
    rcases hb with rfl | rfl | rfl | rfl | rfl | rfl <;> rfl
  intro f0 o0 h0 f1 o1 h1 f2 o2 h2 f3 o3 h3 here cv hh
  rw [hcv cv]
  obtain ⟨y, hy⟩ := showPd hb
  have a0 := hh f0 o0 (.inr ⟨_, List.mem_cons_self, by simp⟩)
  have a1 := hh f1 o1 (.inr ⟨_, List.mem_cons_self, by simp⟩)
  have a2 := hh f2 o2 (.inr ⟨_, List.mem_cons_self, by simp⟩)
  have a3 := hh f3 o3 (.inl (by simp))
  refine S_refused (n := "BadInt") (ds := [cv f0 o0, cv f1 o1, cv f2 o2]) (is_it := cv f3 o3) (v := d) rfl (fun x hx => ?_) ⟨8, f3, o3, h3, a3, rfl⟩ (fun c Q QX q => ⟨8, f3, o3, h3, a3, rfl, rfl, ?_⟩) hy (by simp) ?_
  · simp only [List.mem_cons, List.not_mem_nil, or_false] at hx
    rcases hx with rfl | rfl | rfl
    · exact ⟨⟨5, f0, o0, h0, a0, rfl⟩, fun c Q QX q => ⟨5, f0, o0, h0, a0, rfl, rfl, by simp [tab_law_right]; exact S_bP_soon hb q⟩⟩
    · exact ⟨⟨6, f1, o1, h1, a1, rfl⟩, fun c Q QX q => ⟨6, f1, o1, h1, a1, rfl, rfl, by simp [tab_law_right]; exact S_bP_part hb q⟩⟩
    · exact ⟨⟨7, f2, o2, h2, a2, rfl⟩, fun c Q QX q => ⟨7, f2, o2, h2, a2, rfl, rfl, by simp [tab_law_right]; exact S_bP_shows hb q⟩⟩
  · simp [tab_law_right]
    exact ⟨by decide, q⟩
  · exact S_right_t1 (by omega) q
theorem S_right_t3 {is : Nat → Obj → Prop} {s1 s2 s3 s4 s5 s6 : SV} (hc : c < 700000) (q : E.rt (.bl true) (c + 3)) : g_law_right_t3 is E [.val .pot, s1, s2, s3, s4, s5, s6] c := by
  simp [g_law_right_t3]
  refine S_law_of (by simp) (by simp) (by omega) fun d hd => ?_
  have hb : d ∈ badT := by
    simpa [badT] using hd
  have hcv : ∀ cv, cvD cv d = d := fun cv => by
    simp only [badT, List.mem_cons, List.not_mem_nil, or_false] at hb
    rcases hb with rfl | rfl | rfl | rfl | rfl | rfl | rfl | rfl <;> rfl
  intro f0 o0 h0 f1 o1 h1 f2 o2 h2 f3 o3 h3 f4 o4 h4 here cv hh
  rw [hcv cv]
  obtain ⟨y, hy⟩ := showT hb
  have a0 := hh f0 o0 (.inr ⟨_, List.mem_cons_self, by simp⟩)
  have a1 := hh f1 o1 (.inr ⟨_, List.mem_cons_self, by simp⟩)
  have a2 := hh f2 o2 (.inr ⟨_, List.mem_cons_self, by simp⟩)
  have a3 := hh f3 o3 (.inr ⟨_, List.mem_cons_self, by simp⟩)
  have a4 := hh f4 o4 (.inl (by simp))
  refine S_refused (n := "BadJobs") (ds := [cv f0 o0, cv f1 o1, cv f2 o2, cv f3 o3]) (is_it := cv f4 o4) (v := d) rfl (fun x hx => ?_) ⟨4, f4, o4, h4, a4, rfl⟩ (fun c Q QX q => ⟨4, f4, o4, h4, a4, rfl, rfl, ?_⟩) hy (by simp) ?_
  · simp only [List.mem_cons, List.not_mem_nil, or_false] at hx
    rcases hx with rfl | rfl | rfl | rfl
    · exact ⟨⟨0, f0, o0, h0, a0, rfl⟩, fun c Q QX q => ⟨0, f0, o0, h0, a0, rfl, rfl, by simp [tab_law_right]; exact S_bT_soon hb q⟩⟩
    · exact ⟨⟨1, f1, o1, h1, a1, rfl⟩, fun c Q QX q => ⟨1, f1, o1, h1, a1, rfl, rfl, by simp [tab_law_right]; exact S_bT_part hb q⟩⟩
    · exact ⟨⟨2, f2, o2, h2, a2, rfl⟩, fun c Q QX q => ⟨2, f2, o2, h2, a2, rfl, rfl, by simp [tab_law_right]; exact S_bT_shows hb q⟩⟩
    · exact ⟨⟨3, f3, o3, h3, a3, rfl⟩, fun c Q QX q => ⟨3, f3, o3, h3, a3, rfl, rfl, by simp [tab_law_right]; exact S_bT_for hb q⟩⟩
  · simp [tab_law_right]
    exact ⟨by decide, q⟩
  · exact S_right_t2 (by omega) q
theorem S_right {Q : KD} (q : ∀ c', Q (.bl true) c') : m_law_right [.pot] 0 Q := by
  refine ⟨rfl, fun is => ?_⟩
  simp [runM, g_law_right, start3, -forL, -compL]
  refine for_rule (I := fun rr ρ c' => rr.length ≤ 4 ∧ c' ≤ 300 * (4 - rr.length) ∧ ∃ s1 s2 s3 s4 s5 s6 : SV, ρ = [.val .pot, s1, s2, s3, s4, s5, s6]) ?_ ?_ _ _ _ ⟨by decide, by decide, _, _, _, _, _, _, rfl⟩
  · rintro d r' ρ c' ⟨hl, hcc, s1, s2, s3, s4, s5, s6, rfl⟩ N' hN'
    have hl' : r'.length + 1 ≤ 4 := by simpa using hl
    simp only [List.length_cons] at hcc
    simp [-compL]
    refine S_law_of (by decide) (by decide) (by omega) fun w hw => ?_
    obtain ⟨w, rfl, w0, w1⟩ : ∃ v : Int, w = .int v ∧ 0 < v ∧ v ≤ 1000 := by
      simp at hw
      rcases hw with rfl | rfl | rfl <;> exact ⟨_, rfl, by decide, by decide⟩
    simp [-compL]
    refine S_take (by decide) (by decide) (by omega) fun m m0 m1 => ?_
    obtain ⟨k, hk⟩ : ∃ k : Nat, 1 + m = ((k + 1 : Nat) : Int) := ⟨m.toNat, by omega⟩
    simp [-compL]
    rw [hk, Int.toNat_natCast]
    refine ⟨by omega, ?_⟩
    have hrl : (rangeL 0 (k + 1)).length = k + 1 := by rw [rangeL0, List.length_map, List.length_range]
    refine comp_drawn (fun n : Nat => n ≤ 1000) nD 1 400000 _ _ _ (fun d hd c' K hC hK => ?_) (by rw [hrl]; omega) fun ts c2 hts ht hc2 => ?_
    · simp
      refine S_take w0 (by omega) (by omega) fun a a0 a1 => ?_
      simp
      obtain ⟨n, rfl⟩ := Int.eq_ofNat_of_zero_le a0
      exact hK n _ (by omega) (by omega)
    rw [hrl] at hts hc2
    have hT : Times ts := ⟨by intro e; rw [e] at hts; simp at hts, by omega, ht⟩
    refine S_take (by decide) (by decide) (by omega) fun p p0 p1 => ?_
    obtain ⟨pn, hpn⟩ : ∃ n : Nat, 1 + p = ((n + 1 : Nat) : Int) := ⟨p.toNat, by omega⟩
    simp
    rw [hpn]
    refine S_isr (by omega) hT (by omega) (by omega) (by omega) fun c3 hc3 => ?_
    simp
    exact hN' _ _ ⟨by omega, by omega, _, _, _, _, _, _, rfl⟩
  · rintro ρ c' ⟨_, hcc, s1, s2, s3, s4, s5, s6, rfl⟩
    simp at hcc
    exact S_right_t3 (by omega) (q _)
theorem S_law (ns : List Int) (hl : ns.length ≤ 63) (hb : ∀ z ∈ ns, Builtin.Int.intBits z ≤ 1048576) : m_law [.scr ns] 0 fun d _ => d = .bl true := by
  refine ⟨rfl, ?_⟩
  exact S_all (ρ := [some (.scr ns), none]) (k := 3) (v := 1) (fun Q q => S_right q) (by decide) (by decide) hl (Nat.lt_succ_self 1) rfl (by decide) rfl
end Law67

set_option maxHeartbeats 4000000
namespace Law67
open PySem PySem.Spec PyProof.Rows
open L2 hiding FnOk Room
open L3
variable {w : World} {K : PySem.W.Frag} {mg : Str → Option Value} {base : Heap}
theorem ok_is_int (T : Top K mg base) : FnOk PW w K mg base CX0 1 T.a_is_int T.fd_is_int ["value", "low", "high"] (spM K 3 m_is_int) :=
  fn3 (k := 0) (g := g_is_int) T.F_is_int sc_is_int rfl p_is_int (fun cdv A outer s H E hr => (bx_one (sx_ret (ex_and (ex_callB call_isi isiS T.z_isinstance boot_isinstance3 (ax_cons (ex_var 0) (ax_cons (ex_ty T.z_int boot_int3) ax_nil))) (ex_and (ex_not (ex_callB call_isi isiS T.z_isinstance boot_isinstance3 (ax_cons (ex_var 0) (ax_cons (ex_ty T.z_bool boot_bool3) ax_nil)))) (ex_one (ex_ch op_le leS op_le leS (ex_var 1) (ex_var 0) (ex_var 2))))))))
theorem ok_is_whole (T : Top K mg base) : FnOk PW w K mg base CX0 1 T.a_is_whole T.fd_is_whole ["value"] (spM K 1 m_is_whole) :=
  fn3 (k := 0) (g := g_is_whole) T.F_is_whole sc_is_whole rfl p_is_whole (fun cdv A outer s H E hr => (bx_one (sx_ret (ex_and (ex_callB call_isi isiS T.z_isinstance boot_isinstance3 (ax_cons (ex_var 0) (ax_cons (ex_ty T.z_int boot_int3) ax_nil))) (ex_one (ex_not (ex_callB call_isi isiS T.z_isinstance boot_isinstance3 (ax_cons (ex_var 0) (ax_cons (ex_ty T.z_bool boot_bool3) ax_nil)))))))))
theorem ok_are_ints (T : Top K mg base) : FnOk PW w K mg base CX0 2 T.a_are_ints T.fd_are_ints ["value", "low", "high"] (spM K 3 m_are_ints) :=
  fn3 (k := 1) (g := g_are_ints) T.F_are_ints sc_are_ints rfl p_are_ints (fun cdv A outer s H E hr => (bx_one (sx_ret (ex_and (ex_callB call_isi isiS T.z_isinstance boot_isinstance3 (ax_cons (ex_var 0) (ax_cons (ex_ty T.z_tuple boot_tuple3) ax_nil))) (ex_one (ex_callB (cr_all rfl) allS T.z_all boot_all3 (ax_cons (fx_ex (fx_comp (own := [("one", 3)]) rfl sc_are_ints.nd (ix_seq (ex_var 0)) (blkOk_by rfl) (fun _ _ _ _ _ => (pg_name (i := 3) sc_are_ints.nd rfl (.inl rfl))) (kg_name 3) (fun _ _ _ _ _ => pts_nil) kt_nil (fun _ _ _ _ _ => (ex_call (ok_is_int T) (hr.mono (by decide)) T.m_is_int T.F_is_int.kp T.b_is_int rfl (ax_cons (ex_var 3) (ax_cons (ex_var 1) (ax_cons (ex_var 2) ax_nil))) pass0 (hl := l_is_int))) (by decide)) (fun _ _ _ h => h)) ax_nil)))))))
theorem ok_common_int (T : Top K mg base) : FnOk PW w K mg base CX0 1 T.a_common_int T.fd_common_int ["one", "other"] (spM K 2 m_common_int) :=
  fn3 (k := 0) (g := g_common_int) T.F_common_int sc_common_int rfl p_common_int (fun cdv A outer s H E hr => (bx_cons (sx_while PassesOwn.never (tx_cmp (op_ne2 hr.units) neS (ex_var 1) ex_int (nomark _))
  (bx_one (sx_par (i := 0) (j := 1) rfl sc_common_int.nd (ax_cons (ex_var 1) (ax_cons (ex_mod (ex_var 0) (ex_var 1)) ax_nil)))))
  (bx_one (sx_ret (ex_var 0)))))
theorem ok_lowest (T : Top K mg base) : FnOk PW w K mg base CX0 2 T.a_lowest T.fd_lowest ["top", "bottom"] (spM K 2 m_lowest) :=
  fn3 (k := 1) (g := g_lowest) T.F_lowest sc_lowest rfl p_lowest (fun cdv A outer s H E hr => (bx_cons (sx_asg (ex_call (ok_common_int T) (hr.mono (by decide)) T.m_common_int T.F_common_int.kp T.b_common_int rfl (ax_cons (ex_var 0) (ax_cons (ex_var 1) ax_nil)) pass0 (hl := l_common_int)) (gx_of (pg_name (i := 2) sc_lowest.nd rfl (.inl rfl)) (kg_name 2)))
  (bx_one (sx_ret (ex_tup (ax_cons (ex_fdivW (ex_var 0) (ex_var 2)) (ax_cons (ex_fdivW (ex_var 1) (ex_var 2)) ax_nil)))))))
theorem ok_plus (T : Top K mg base) : FnOk PW w K mg base CX0 3 T.a_plus T.fd_plus ["one", "other"] (spM K 2 m_plus) :=
  fn3 (k := 2) (g := g_plus) T.F_plus sc_plus rfl p_plus (fun cdv A outer s H E hr => (bx_one (sx_ret (ex_call (ok_lowest T) (hr.mono (by decide)) T.m_lowest T.F_lowest.kp T.b_lowest rfl (ax_cons (ex_add (ex_mul (ex_ix (ex_var 0) ex_int) (ex_ix (ex_var 1) ex_int)) (ex_mul (ex_ix (ex_var 1) ex_int) (ex_ix (ex_var 0) ex_int))) (ax_cons (ex_mul (ex_ix (ex_var 0) ex_int) (ex_ix (ex_var 1) ex_int)) ax_nil)) pass0 (hl := l_lowest)))))
theorem ok_is_below (T : Top K mg base) : FnOk PW w K mg base CX0 1 T.a_is_below T.fd_is_below ["one", "other"] (spM K 2 m_is_below) :=
  fn3 (k := 0) (g := g_is_below) T.F_is_below sc_is_below rfl p_is_below (fun cdv A outer s H E hr => (bx_one (sx_ret (ex_cmp op_lt ltS (ex_mul (ex_ix (ex_var 0) ex_int) (ex_ix (ex_var 1) ex_int)) (ex_mul (ex_ix (ex_var 1) ex_int) (ex_ix (ex_var 0) ex_int)) (nomark _)))))
theorem ok_is_tick (T : Top K mg base) : FnOk PW w K mg base CX0 2 T.a_is_tick T.fd_is_tick ["value"] (spM K 1 m_is_tick) :=
  fn3 (k := 1) (g := g_is_tick) T.F_is_tick sc_is_tick rfl p_is_tick (fun cdv A outer s H E hr => (bx_cons (sx_if (wx_pt (wx_or (tx_not (tx_val (ex_callB call_isi isiS T.z_isinstance boot_isinstance3 (ax_cons (ex_var 0) (ax_cons (ex_ty T.z_tuple boot_tuple3) ax_nil))))) (wx_or (tx_cmp (op_ne2 hr.units) neS (ex_callB call_len_seq lenS T.z_len boot_len3 (ax_cons (ex_var 0) ax_nil)) ex_int (nomark _)) (wx_or (tx_not (tx_val (ex_call (ok_is_whole T) (hr.mono (by decide)) T.m_is_whole T.F_is_whole.kp T.b_is_whole rfl (ax_cons (ex_ix (ex_var 0) ex_int) ax_nil) pass0 (hl := l_is_whole)))) (wx_or1 (tx_not (tx_val (ex_call (ok_is_whole T) (hr.mono (by decide)) T.m_is_whole T.F_is_whole.kp T.b_is_whole rfl (ax_cons (ex_ix (ex_var 0) ex_int) ax_nil) pass0 (hl := l_is_whole)))))))))
  (bx_one (sx_ret ex_bl))
  bx_nil)
  (bx_one (sx_ret (ex_and (ex_cmp op_ge geS (ex_ix (ex_var 0) ex_int) ex_int (nomark _)) (ex_and (ex_cmp op_ge geS (ex_ix (ex_var 0) ex_int) ex_int (nomark _)) (ex_one (ex_cmp (op_eq2 hr.units) eqS (ex_call (ok_common_int T) (hr.mono (by decide)) T.m_common_int T.F_common_int.kp T.b_common_int rfl (ax_cons (ex_ix (ex_var 0) ex_int) (ax_cons (ex_ix (ex_var 0) ex_int) ax_nil)) pass0 (hl := l_common_int)) ex_int (nomark _)))))))))
theorem ok_look_at_times (T : Top K mg base) : FnOk PW w K mg base (L2.CX PW w) 4 T.a_look_at_times T.fd_look_at_times ["times", "presses"] (spX K 2 m_look_at_times) :=
  fn3X (k := 3) (g := g_look_at_times) T.F_look_at_times sc_look_at_times rfl p_look_at_times (fun cdv A outer s H E hr tk ps => (by_cons (sy_if (wx_pt (wx_or (tx_not (tx_val (ex_call (ok_are_ints T) (hr.mono (by decide)) T.m_are_ints T.F_are_ints.kp T.b_are_ints rfl (ax_cons (ex_var 0) (ax_cons ex_int (ax_cons (ex_gI T.c_MOST_TIME) ax_nil))) pass0 (hl := l_are_ints)))) (wx_or1 (tx_not (tx_ch op_le leS op_le leS ex_int (ex_callB call_len_seq lenS T.z_len boot_len3 (ax_cons (ex_var 0) ax_nil)) (ex_gI T.c_MOST_JOBS))))))
  (by_one (sy_raise T.e_BadJobs.c T.tI (init_ok T.ini T.k2) T.bI (hr.mono (by decide)) tk (ex_var 0)))
  by_nil)
  (by_one (sy_if (tx_not (tx_val (ex_call (ok_is_int T) (hr.mono (by decide)) T.m_is_int T.F_is_int.kp T.b_is_int rfl (ax_cons (ex_var 1) (ax_cons ex_int (ax_cons (ex_gI T.c_MOST_PRESSES) ax_nil))) pass0 (hl := l_is_int))))
  (by_one (sy_raise T.e_BadInt.c T.tI (init_ok T.ini T.k2) T.bI (hr.mono (by decide)) tk (ex_var 1)))
  by_nil))))
theorem ok0_look_at_times (T : Top K mg base) : FnOk PW w K mg base CX0 4 T.a_look_at_times T.fd_look_at_times ["times", "presses"] (spM K 2 (m0 m_look_at_times)) := fnX0 (ok_look_at_times T) rfl
theorem ok_told_soonest (T : Top K mg base) : FnOk PW w K mg base CX0 3 T.a_told_soonest T.fd_told_soonest ["times", "presses"] (spM K 2 m_told_soonest) :=
  fn3 (k := 2) (g := g_told_soonest) T.F_told_soonest sc_told_soonest rfl p_told_soonest (fun cdv A outer s H E hr => (bx_cons (sx_par (i := 2) (j := 3) rfl sc_told_soonest.nd (ax_cons (ex_call (ok_lowest T) (hr.mono (by decide)) T.m_lowest T.F_lowest.kp T.b_lowest rfl (ax_cons (ex_callB (cr_sum2 rfl) sum2S T.z_sum boot_sum3 (ax_cons (ex_var 0) ax_nil)) (ax_cons (ex_var 1) ax_nil)) pass0 (hl := l_lowest)) (ax_cons (ex_tup (ax_cons (ex_callB (maxR rfl (u66 hr)) maxS T.z_max boot_max3 (ax_cons (ex_var 0) ax_nil)) (ax_cons ex_int ax_nil))) ax_nil)))
  (bx_one (sx_ret (ex_if (tx_val (ex_call (ok_is_below T) (hr.mono (by decide)) T.m_is_below T.F_is_below.kp T.b_is_below rfl (ax_cons (ex_var 2) (ax_cons (ex_var 3) ax_nil)) pass0 (hl := l_is_below))) (ex_var 3) (ex_var 2))))))
theorem ok_soonest (T : Top K mg base) : FnOk PW w K mg base (L2.CX PW w) 5 T.a_soonest T.fd_soonest ["times", "presses"] (spX K 2 m_soonest) :=
  fn3X (k := 4) (g := g_soonest) T.F_soonest sc_soonest rfl p_soonest (fun cdv A outer s H E hr tk ps => (by_cons (sy_expr (ey_call (ok_look_at_times T) (hr.mono (by decide)) T.m_look_at_times T.F_look_at_times.kp T.b_look_at_times tk (ax_cons (ex_var 0) (ax_cons (ex_var 1) ax_nil)) l_look_at_times))
  (by_one (sy_of (sx_ret (ex_call (ok_told_soonest T) (hr.mono (by decide)) T.m_told_soonest T.F_told_soonest.kp T.b_told_soonest rfl (ax_cons (ex_var 0) (ax_cons (ex_var 1) ax_nil)) pass0 (hl := l_told_soonest)))))))
theorem ok0_soonest (T : Top K mg base) : FnOk PW w K mg base CX0 5 T.a_soonest T.fd_soonest ["times", "presses"] (spM K 2 (m0 m_soonest)) := fnX0 (ok_soonest T) rfl
theorem ok_parted (T : Top K mg base) : FnOk PW w K mg base (L2.CX PW w) 5 T.a_parted T.fd_parted ["times", "presses"] (spX K 2 m_parted) :=
  fn3X (k := 4) (g := g_parted) T.F_parted sc_parted rfl p_parted (fun cdv A outer s H E hr tk ps => (by_cons (sy_expr (ey_call (ok_look_at_times T) (hr.mono (by decide)) T.m_look_at_times T.F_look_at_times.kp T.b_look_at_times tk (ax_cons (ex_var 0) (ax_cons (ex_var 1) ax_nil)) l_look_at_times))
  (by_cons (sy_of (sx_parN2 (i := 2) (j := 3) rfl sc_parted.nd (jx_e (ex_call (ok_told_soonest T) (hr.mono (by decide)) T.m_told_soonest T.F_told_soonest.kp T.b_told_soonest rfl (ax_cons (ex_var 0) (ax_cons (ex_var 1) ax_nil)) pass0 (hl := l_told_soonest)) (jx_f (fx_lst ax_nil) jx_nil))))
  (by_cons (sy_of (sx_asg (ex_tup (ax_cons ex_int (ax_cons (ex_tup (ax_cons ex_int (ax_cons ex_int ax_nil))) ax_nil))) (gx_of (pg_tup rfl (pgs_cons (pg_name (i := 4) sc_parted.nd rfl (.inl rfl)) (pgs_cons (pg_name (i := 5) sc_parted.nd rfl (.inl rfl)) pgs_nil))) (kg_tup (kgs_cons (kg_name 4) (kgs_cons (kg_name 5) kgs_nil))))))
  (by_cons (sy_of (sx_for ps rfl (ix_enum T.z_enumerate (ex_var 0)) (gx_of (pg_tup rfl (pgs_cons (pg_name (i := 6) sc_parted.nd rfl (.inl rfl)) (pgs_cons (pg_name (i := 7) sc_parted.nd rfl (.inl rfl)) pgs_nil))) (kg_tup (kgs_cons (kg_name 6) (kgs_cons (kg_name 7) kgs_nil))))
  (bx_cons (sx_asg (ex_tup (ax_cons (ex_var 7) (ax_cons ex_int ax_nil))) (gx_of (pg_name (i := 8) sc_parted.nd rfl (.inl rfl)) (kg_name 8)))
  (bx_cons (sx_while ps (tx_cmp op_gt gtS (ex_ix (ex_var 8) ex_int) ex_int (nomark _))
  (bx_cons (sx_asg (ex_call (ok_plus T) (hr.mono (by decide)) T.m_plus T.F_plus.kp T.b_plus rfl (ax_cons (ex_var 5) (ax_cons (ex_var 8) ax_nil)) pass0 (hl := l_plus)) (gx_of (pg_name (i := 9) sc_parted.nd rfl (.inl rfl)) (kg_name 9)))
  (bx_one (sx_if (tx_val (ex_call (ok_is_below T) (hr.mono (by decide)) T.m_is_below T.F_is_below.kp T.b_is_below rfl (ax_cons (ex_var 2) (ax_cons (ex_var 9) ax_nil)) pass0 (hl := l_is_below)))
  (bx_cons (sx_app 3 (pe_bm PySem.F.plainAttrs_list PySem.F.slot_list_append PySem.F.type_list_append mt_append (pv 3) (pa_cons (ex_tup (ax_cons (ex_var 4) (ax_cons (ex_var 5) (ax_cons (ex_var 2) (ax_cons (ex_var 6) ax_nil))))) pa_nil)))
  (bx_cons (sx_asg (ex_call (ok_lowest T) (hr.mono (by decide)) T.m_lowest T.F_lowest.kp T.b_lowest rfl (ax_cons (ex_sub (ex_mul (ex_ix (ex_var 9) ex_int) (ex_ix (ex_var 2) ex_int)) (ex_mul (ex_ix (ex_var 2) ex_int) (ex_ix (ex_var 9) ex_int))) (ax_cons (ex_mul (ex_ix (ex_var 9) ex_int) (ex_ix (ex_var 2) ex_int)) ax_nil)) pass0 (hl := l_lowest)) (gx_of (pg_name (i := 8) sc_parted.nd rfl (.inl rfl)) (kg_name 8)))
  (bx_one (sx_par (i := 4) (j := 5) rfl sc_parted.nd (ax_cons (ex_add (ex_var 4) ex_int) (ax_cons (ex_tup (ax_cons ex_int (ax_cons ex_int ax_nil))) ax_nil))))))
  (bx_cons (sx_app 3 (pe_bm PySem.F.plainAttrs_list PySem.F.slot_list_append PySem.F.type_list_append mt_append (pv 3) (pa_cons (ex_tup (ax_cons (ex_var 4) (ax_cons (ex_var 5) (ax_cons (ex_var 9) (ax_cons (ex_var 6) ax_nil))))) pa_nil)))
  (bx_one (sx_par (i := 8) (j := 5) rfl sc_parted.nd (ax_cons (ex_tup (ax_cons ex_int (ax_cons ex_int ax_nil))) (ax_cons (ex_var 9) ax_nil)))))))))
  (bx_one (sx_if (tx_cmp (op_eq2 hr.units) eqS (ex_var 5) (ex_var 2) (nomark _))
  (bx_one (sx_par (i := 4) (j := 5) rfl sc_parted.nd (ax_cons (ex_add (ex_var 4) ex_int) (ax_cons (ex_tup (ax_cons ex_int (ax_cons ex_int ax_nil))) ax_nil))))
  bx_nil))))))
  (by_one (sy_of (sx_ret (ex_callT call_tuple_of tupleS T.z_tuple boot_tuple3 (ax_cons (fx_ex (fx_sorted (u66 hr) T.z_sorted (fx_ex (fx_comp (own := [("piece", 10)]) rfl sc_parted.nd (ix_seq (ex_var 3)) (blkOk_by rfl) (fun _ _ _ _ _ => (pg_name (i := 10) sc_parted.nd rfl (.inl rfl))) (kg_name 10) (fun _ _ _ _ _ => pts_one (tx_cmp (op_ne2 hr.units) neS (ex_ix (ex_var 10) ex_int) (ex_ix (ex_var 10) ex_int) (nomark _))) kt_one (fun _ _ _ _ _ => (ex_var 10)) (by decide)) (fun _ _ _ h => h))) (fun _ _ _ h => h)) ax_nil))))))))))
theorem ok0_parted (T : Top K mg base) : FnOk PW w K mg base CX0 5 T.a_parted T.fd_parted ["times", "presses"] (spM K 2 (m0 m_parted)) := fnX0 (ok_parted T) rfl
theorem ok_is_piece (T : Top K mg base) : FnOk PW w K mg base CX0 3 T.a_is_piece T.fd_is_piece ["value", "jobs", "presses"] (spM K 3 m_is_piece) :=
  fn3 (k := 2) (g := g_is_piece) T.F_is_piece sc_is_piece rfl p_is_piece (fun cdv A outer s H E hr => (bx_cons (sx_if (wx_pt (wx_or (tx_not (tx_val (ex_callB call_isi isiS T.z_isinstance boot_isinstance3 (ax_cons (ex_var 0) (ax_cons (ex_ty T.z_tuple boot_tuple3) ax_nil))))) (wx_or (tx_cmp (op_ne2 hr.units) neS (ex_callB call_len_seq lenS T.z_len boot_len3 (ax_cons (ex_var 0) ax_nil)) (ex_gI T.c_FOUR) (nomark _)) (wx_or1 (tx_not (tx_val (ex_call (ok_is_int T) (hr.mono (by decide)) T.m_is_int T.F_is_int.kp T.b_is_int rfl (ax_cons (ex_ix (ex_var 0) ex_int) (ax_cons ex_int (ax_cons (ex_sub (ex_var 2) ex_int) ax_nil))) pass0 (hl := l_is_int))))))))
  (bx_one (sx_ret ex_bl))
  bx_nil)
  (bx_cons (sx_if (wx_pt (wx_or (tx_not (tx_val (ex_call (ok_is_tick T) (hr.mono (by decide)) T.m_is_tick T.F_is_tick.kp T.b_is_tick rfl (ax_cons (ex_ix (ex_var 0) ex_int) ax_nil) pass0 (hl := l_is_tick)))) (wx_or (tx_not (tx_val (ex_call (ok_is_tick T) (hr.mono (by decide)) T.m_is_tick T.F_is_tick.kp T.b_is_tick rfl (ax_cons (ex_ix (ex_var 0) ex_int) ax_nil) pass0 (hl := l_is_tick)))) (wx_or1 (tx_not (tx_val (ex_call (ok_is_int T) (hr.mono (by decide)) T.m_is_int T.F_is_int.kp T.b_is_int rfl (ax_cons (ex_ix (ex_var 0) (ex_gI T.c_THREE)) (ax_cons ex_int (ax_cons (ex_sub (ex_var 1) ex_int) ax_nil))) pass0 (hl := l_is_int))))))))
  (bx_one (sx_ret ex_bl))
  bx_nil)
  (bx_one (sx_ret (ex_call (ok_is_below T) (hr.mono (by decide)) T.m_is_below T.F_is_below.kp T.b_is_below rfl (ax_cons (ex_ix (ex_var 0) ex_int) (ax_cons (ex_ix (ex_var 0) ex_int) ax_nil)) pass0 (hl := l_is_below)))))))
theorem ok_do_meet (T : Top K mg base) : FnOk PW w K mg base CX0 2 T.a_do_meet T.fd_do_meet ["one", "other"] (spM K 2 m_do_meet) :=
  fn3 (k := 1) (g := g_do_meet) T.F_do_meet sc_do_meet rfl p_do_meet (fun cdv A outer s H E hr => (bx_one (sx_ret (ex_and (ex_call (ok_is_below T) (hr.mono (by decide)) T.m_is_below T.F_is_below.kp T.b_is_below rfl (ax_cons (ex_ix (ex_var 0) ex_int) (ax_cons (ex_ix (ex_var 1) ex_int) ax_nil)) pass0 (hl := l_is_below)) (ex_one (ex_call (ok_is_below T) (hr.mono (by decide)) T.m_is_below T.F_is_below.kp T.b_is_below rfl (ax_cons (ex_ix (ex_var 1) ex_int) (ax_cons (ex_ix (ex_var 0) ex_int) ax_nil)) pass0 (hl := l_is_below)))))))
theorem ok_shows_parted (T : Top K mg base) : FnOk PW w K mg base (L2.CX PW w) 5 T.a_shows_parted T.fd_shows_parted ["times", "presses", "value"] (spX K 3 m_shows_parted) :=
  fn3X (k := 4) (g := g_shows_parted) T.F_shows_parted sc_shows_parted rfl p_shows_parted (fun cdv A outer s H E hr tk ps => (by_cons (sy_expr (ey_call (ok_look_at_times T) (hr.mono (by decide)) T.m_look_at_times T.F_look_at_times.kp T.b_look_at_times tk (ax_cons (ex_var 0) (ax_cons (ex_var 1) ax_nil)) l_look_at_times))
  (by_cons (sy_of (sx_if (wx_pt (wx_or (tx_not (tx_val (ex_callB call_isi isiS T.z_isinstance boot_isinstance3 (ax_cons (ex_var 2) (ax_cons (ex_ty T.z_tuple boot_tuple3) ax_nil))))) (wx_or1 (tx_cmp op_gt gtS (ex_callB call_len_seq lenS T.z_len boot_len3 (ax_cons (ex_var 2) ax_nil)) (ex_gI T.c_MOST_PIECES) (nomark _)))))
  (bx_one (sx_ret ex_bl))
  bx_nil))
  (by_cons (sy_of (sx_if (tx_not (tx_val (ex_callB (cr_all rfl) allS T.z_all boot_all3 (ax_cons (fx_ex (fx_comp (own := [("piece", 3)]) rfl sc_shows_parted.nd (ix_seq (ex_var 2)) (blkOk_by rfl) (fun _ _ _ _ _ => (pg_name (i := 3) sc_shows_parted.nd rfl (.inl rfl))) (kg_name 3) (fun _ _ _ _ _ => pts_nil) kt_nil (fun _ _ _ _ _ => (ex_call (ok_is_piece T) (hr.mono (by decide)) T.m_is_piece T.F_is_piece.kp T.b_is_piece rfl (ax_cons (ex_var 3) (ax_cons (ex_callB call_len_seq lenS T.z_len boot_len3 (ax_cons (ex_var 0) ax_nil)) (ax_cons (ex_var 1) ax_nil))) pass0 (hl := l_is_piece))) (by decide)) (fun _ _ _ h => h)) ax_nil))))
  (bx_one (sx_ret ex_bl))
  bx_nil))
  (by_cons (sy_of (sx_parN2 (i := 4) (j := 5) rfl sc_shows_parted.nd (jx_e (ex_call (ok_told_soonest T) (hr.mono (by decide)) T.m_told_soonest T.F_told_soonest.kp T.b_told_soonest rfl (ax_cons (ex_var 0) (ax_cons (ex_var 1) ax_nil)) pass0 (hl := l_told_soonest)) (jx_f (fx_comp (own := [("job", 6)]) rfl sc_shows_parted.nd (ix_seq (ex_var 0)) (blkOk_by rfl) (fun _ _ _ _ _ => (pg_name (i := 6) sc_shows_parted.nd rfl (.inl rfl))) (kg_name 6) (fun _ _ _ _ _ => pts_nil) kt_nil (fun _ _ _ _ _ => (ex_tup (ax_cons ex_int (ax_cons ex_int ax_nil)))) (by decide)) jx_nil))))
  (by_cons (sy_of (sx_for ps rfl (ix_enum T.z_enumerate (ex_var 2)) (gx_of (pg_tup rfl (pgs_cons (pg_name (i := 7) sc_shows_parted.nd rfl (.inl rfl)) (pgs_cons (pg_name (i := 3) sc_shows_parted.nd rfl (.inl rfl)) pgs_nil))) (kg_tup (kgs_cons (kg_name 7) (kgs_cons (kg_name 3) kgs_nil))))
  (bx_cons (sx_if (tx_val (ex_call (ok_is_below T) (hr.mono (by decide)) T.m_is_below T.F_is_below.kp T.b_is_below rfl (ax_cons (ex_var 4) (ax_cons (ex_ix (ex_var 3) ex_int) ax_nil)) pass0 (hl := l_is_below)))
  (bx_one (sx_ret ex_bl))
  bx_nil)
  (bx_cons (sx_for ps rfl (ix_seq (ex_sl (ex_var 2) ox_none (ox_some (ex_var 7)))) (gx_of (pg_name (i := 8) sc_shows_parted.nd rfl (.inl rfl)) (kg_name 8))
  (bx_one (sx_if (wx_pt (wx_and (tx_val (ex_call (ok_do_meet T) (hr.mono (by decide)) T.m_do_meet T.F_do_meet.kp T.b_do_meet rfl (ax_cons (ex_var 3) (ax_cons (ex_var 8) ax_nil)) pass0 (hl := l_do_meet))) (wx_and1 (wx_pt (wx_or (tx_cmp (op_eq2 hr.units) eqS (ex_ix (ex_var 3) ex_int) (ex_ix (ex_var 8) ex_int) (nomark _)) (wx_or1 (tx_cmp (op_eq2 hr.units) eqS (ex_ix (ex_var 3) (ex_gI T.c_THREE)) (ex_ix (ex_var 8) (ex_gI T.c_THREE)) (nomark _))))))))
  (bx_one (sx_ret ex_bl))
  bx_nil)))
  (bx_cons (sx_parB (i := 9) (j := 10) rfl sc_shows_parted.nd (ax_cons (ex_sub (ex_mul (ex_ix (ex_ix (ex_var 3) ex_int) ex_int) (ex_ix (ex_ix (ex_var 3) ex_int) ex_int)) (ex_mul (ex_ix (ex_ix (ex_var 3) ex_int) ex_int) (ex_ix (ex_ix (ex_var 3) ex_int) ex_int))) (ax_cons (ex_mul (ex_ix (ex_ix (ex_var 3) ex_int) ex_int) (ex_ix (ex_ix (ex_var 3) ex_int) ex_int)) ax_nil)))
  (bx_one (sx_setB 5 (ps_asg (ex_call (ok_plus T) (hr.mono (by decide)) T.m_plus T.F_plus.kp T.b_plus rfl (ax_cons (ex_ix (ex_var 5) (ex_ix (ex_var 3) (ex_gI T.c_THREE))) (ax_cons (ex_call (ok_lowest T) (hr.mono (by decide)) T.m_lowest T.F_lowest.kp T.b_lowest rfl (ax_cons (ex_var 9) (ax_cons (ex_var 10) ax_nil)) pass0 (hl := l_lowest)) ax_nil)) pass0 (hl := l_plus)) (pg_sub (pv 5) (ex_ix (ex_var 3) (ex_gI T.c_THREE)) set_list)))))))))
  (by_one (sy_of (sx_ret (ex_cmp (op_eq2 hr.units) eqS (ex_var 5) (fx_ex (fx_comp (own := [("time", 11)]) rfl sc_shows_parted.nd (ix_seq (ex_var 0)) (blkOk_by rfl) (fun _ _ _ _ _ => (pg_name (i := 11) sc_shows_parted.nd rfl (.inl rfl))) (kg_name 11) (fun _ _ _ _ _ => pts_nil) kt_nil (fun _ _ _ _ _ => (ex_tup (ax_cons (ex_var 11) (ax_cons ex_int ax_nil)))) (by decide)) (fun _ _ _ h => h)) (nomark _)))))))))))
theorem ok0_shows_parted (T : Top K mg base) : FnOk PW w K mg base CX0 5 T.a_shows_parted T.fd_shows_parted ["times", "presses", "value"] (spM K 3 (m0 m_shows_parted)) := fnX0 (ok_shows_parted T) rfl
theorem ok_presses_for (T : Top K mg base) : FnOk PW w K mg base (L2.CX PW w) 5 T.a_presses_for T.fd_presses_for ["times", "tick"] (spX K 2 m_presses_for) :=
  fn3X (k := 4) (g := g_presses_for) T.F_presses_for sc_presses_for rfl p_presses_for (fun cdv A outer s H E hr tk ps => (by_cons (sy_expr (ey_call (ok_look_at_times T) (hr.mono (by decide)) T.m_look_at_times T.F_look_at_times.kp T.b_look_at_times tk (ax_cons (ex_var 0) (ax_cons ex_int ax_nil)) l_look_at_times))
  (by_cons (sy_if (tx_not (tx_val (ex_call (ok_is_int T) (hr.mono (by decide)) T.m_is_int T.F_is_int.kp T.b_is_int rfl (ax_cons (ex_var 1) (ax_cons ex_int (ax_cons (ex_mul (ex_gI T.c_MOST_TIME) (ex_gI T.c_MOST_JOBS)) ax_nil))) pass0 (hl := l_is_int))))
  (by_one (sy_raise T.e_BadInt.c T.tI (init_ok T.ini T.k2) T.bI (hr.mono (by decide)) tk (ex_var 1)))
  by_nil)
  (by_cons (sy_of (sx_if (tx_cmp op_gt gtS (ex_callB (maxR rfl (u66 hr)) maxS T.z_max boot_max3 (ax_cons (ex_var 0) ax_nil)) (ex_var 1) (nomark _))
  (bx_one (sx_ret ex_non))
  bx_nil))
  (by_cons (sy_of (sx_asg (ex_if (tx_cmp op_gt gtS (ex_var 1) ex_int (nomark _)) (ex_callB (call_max2 rfl) max2S T.z_max boot_max3 (ax_cons ex_int (ax_cons (ex_neg (ex_fdiv (ex_neg (ex_callB (cr_sum2 rfl) sum2S T.z_sum boot_sum3 (ax_cons (ex_var 0) ax_nil))) (ex_var 1))) ax_nil))) ex_int) (gx_of (pg_name (i := 2) sc_presses_for.nd rfl (.inl rfl)) (kg_name 2))))
  (by_one (sy_of (sx_ret (ex_if (tx_cmp op_le leS (ex_var 2) (ex_gI T.c_MOST_PRESSES) (nomark _)) (ex_var 2) ex_non)))))))))
theorem ok0_presses_for (T : Top K mg base) : FnOk PW w K mg base CX0 5 T.a_presses_for T.fd_presses_for ["times", "tick"] (spM K 2 (m0 m_presses_for)) := fnX0 (ok_presses_for T) rfl
theorem ok_law_pot (T : Top K mg base) : FnOk PW w K mg base CX0 1 T.a_law_pot T.fd_law_pot ["script", "place"] (spF K 2 m_law_pot) :=
  fn3F (k := 0) (g := g_law_pot) T.F_law_pot sc_law_pot rfl p_law_pot (fun cdv A outer s H E hr => (bf_cons (sx_asg (ex_if (tx_cmp op_lt ltS (ex_var 1) (ex_callB call_len_seq lenS T.z_len boot_len3 (ax_cons (ex_var 0) ax_nil)) (nomark _)) (ex_ix (ex_var 0) (ex_var 1)) (ex_add (ex_add (ex_mod (ex_callT call_int1 intS1 T.z_int boot_int3 (ax_cons (ex_callB (cr_sum2 rfl) sum2S T.z_sum boot_sum3 (ax_cons (ex_sl (ex_var 0) ox_none (ox_some ex_int)) ax_nil)) ax_nil)) ex_int) (ex_mul ex_int (ex_var 1))) ex_int)) (gx_of (pg_name (i := 2) sc_law_pot.nd rfl (.inl rfl)) (kg_name 2)))
  (bf_cons (sx_asg (ex_mul (ex_mod (ex_callT call_int1 intS1 T.z_int boot_int3 (ax_cons (ex_callB call_abs absS T.z_abs boot_abs3 (ax_cons (ex_var 2) ax_nil)) ax_nil)) (ex_pow (ex_pow ex_int ex_int) ex_int)) (ex_callT call_int1 intS1 T.z_int boot_int3 (ax_cons (ex_cmp op_ge geS (ex_callB call_abs absS T.z_abs boot_abs3 (ax_cons (ex_var 2) ax_nil)) (ex_pow ex_int ex_int) (nomark _)) ax_nil))) (gx_of (pg_name (i := 3) sc_law_pot.nd rfl (.inl rfl)) (kg_name 3)))
  (bf_cons (sx_asg (ex_mod (ex_callT call_int1 intS1 T.z_int boot_int3 (ax_cons (ex_var 2) ax_nil)) ex_int) (gx_of (pg_name (i := 4) sc_law_pot.nd rfl (.inl rfl)) (kg_name 4)))
  (bf_ret (fx_lst (ax_cons (ex_var 3) (ax_cons (ex_mod (ex_callT call_int1 intS1 T.z_int boot_int3 (ax_cons (ex_add (ex_add (ex_mul (ex_var 4) ex_int) (ex_mul (ex_mul ex_int (ex_var 1)) (ex_var 1))) ex_int) ax_nil)) ex_int) (ax_cons ex_int ax_nil)))))))))
theorem ok_law_take (T : Top K mg base) : FnOk PW w K mg base CX0 1 T.a_law_take T.fd_law_take ["pot", "upto"] (spM K 2 m_law_take) :=
  fn3 (k := 0) (g := g_law_take) T.F_law_take sc_law_take rfl p_law_take (fun cdv A outer s H E hr => (bx_cons (sx_if (tx_cmp op_gt gtS (ex_pot 0) ex_int (nomark _))
  (bx_cons (sx_asg (ex_mod (ex_callT call_int1 intS1 T.z_int boot_int3 (ax_cons (ex_pot 0) ax_nil)) (ex_var 1)) (gx_of (pg_name (i := 2) sc_law_take.nd rfl (.inl rfl)) (kg_name 2)))
  (bx_cons (sx_pot (ps_asg (ex_fdiv (ex_pot 0) (ex_var 1)) (pg_sub (pv 0) pe_int set_list)))
  (bx_one (sx_ret (ex_var 2)))))
  bx_nil)
  (bx_cons (sx_pot (ps_asg (ex_add (ex_pot 0) ex_int) (pg_sub (pv 0) pe_int set_list)))
  (bx_cons (sx_asg (ex_ix (ex_lst (ax_cons ex_int (ax_cons ex_int (ax_cons ex_int (ax_cons ex_int (ax_cons ex_int ax_nil)))))) (ex_mod (ex_callT call_int1 intS1 T.z_int boot_int3 (ax_cons (ex_pot 0) ax_nil)) ex_int)) (gx_of (pg_name (i := 3) sc_law_take.nd rfl (.inl rfl)) (kg_name 3)))
  (bx_cons (sx_asg (ex_mod (ex_callT call_int1 intS1 T.z_int boot_int3 (ax_cons (ex_pow (ex_callT call_int1 intS1 T.z_int boot_int3 (ax_cons (ex_add (ex_add (ex_pot 0) (ex_mul (ex_mul ex_int (ex_pot 0)) (ex_pot 0))) ex_int) ax_nil)) ex_int) ax_nil)) (ex_var 3)) (gx_of (pg_name (i := 4) sc_law_take.nd rfl (.inl rfl)) (kg_name 4)))
  (bx_cons (sx_asg (ex_mod (ex_callT call_int1 intS1 T.z_int boot_int3 (ax_cons (ex_mul (ex_var 4) (ex_add (ex_mod (ex_callT call_int1 intS1 T.z_int boot_int3 (ax_cons (ex_var 4) ax_nil)) ex_int) (ex_mul ex_int (ex_pot 0)))) ax_nil)) ex_int) (gx_of (pg_name (i := 4) sc_law_take.nd rfl (.inl rfl)) (kg_name 4)))
  (bx_one (sx_ret (ex_mod (ex_callT call_int1 intS1 T.z_int boot_int3 (ax_cons (ex_fdiv (ex_var 4) ex_int) ax_nil)) (ex_var 1))))))))))
theorem ok_law_of (T : Top K mg base) : FnOk PW w K mg base CX0 2 T.a_law_of T.fd_law_of ["pot", "some"] (spM K 2 m_law_of) :=
  fn3 (k := 1) (g := g_law_of) T.F_law_of sc_law_of rfl p_law_of (fun cdv A outer s H E hr => (bx_one (sx_ret (ex_ix (ex_var 1) (ex_call (ok_law_take T) (hr.mono (by decide)) T.m_law_take T.F_law_take.kp T.b_law_take rfl (ax_cons (ex_var 0) (ax_cons (ex_callB call_len_seq lenS T.z_len boot_len3 (ax_cons (ex_var 1) ax_nil)) ax_nil)) pass0 (hl := l_law_take))))))
theorem ok_law_cells (T : Top K mg base) : FnOk PW w K mg base CX0 1 T.a_law_cells T.fd_law_cells ["script", "most"] (spM K 2 m_law_cells) :=
  fn3 (k := 0) (g := g_law_cells) T.F_law_cells sc_law_cells rfl p_law_cells (fun cdv A outer s H E hr => (bx_one (sx_ret (fx_ex (fx_range1 T.z_list T.z_range (ex_callB (call_max2 rfl) max2S T.z_max boot_max3 (ax_cons ex_int (ax_cons (ex_callB (call_min2 rfl) min2S T.z_min boot_min3 (ax_cons (ex_var 1) (ax_cons (ex_callB call_len_seq lenS T.z_len boot_len3 (ax_cons (ex_var 0) ax_nil)) ax_nil))) ax_nil)))) (fun _ _ _ h => h)))))
theorem ok_law_heard (T : Top K mg base) {TT : TLs} (act : ActsB PW w K mg base 6 TT) : FnOk PW w K mg base CX0 8 T.a_law_heard T.fd_law_heard ["call"] (spM K 1 (m_law_heard TT)) :=
  fn3 (k := 7) (g := g_law_heard TT) T.F_law_heard sc_law_heard rfl (p_law_heard TT) (fun cdv A outer s H E hr => (bx_cons (sx_asg (ex_tup (ax_cons ex_non (ax_cons ex_non ax_nil))) (gx_of (pg_tup rfl (pgs_cons (pg_name (i := 1) sc_law_heard.nd rfl (.inl rfl)) (pgs_cons (pg_name (i := 2) sc_law_heard.nd rfl (.inl rfl)) pgs_nil))) (kg_tup (kgs_cons (kg_name 1) (kgs_cons (kg_name 2) kgs_nil)))))
  (bx_cons (sx_tryC (errs := errs) (ie := 3) (ic := 1) (errX T) ⟨rfl, by decide, .inl T.g_BindError⟩ (fun W pn xe tk => es_act0 (i := 0) act (hr.mono (by decide)) tk) (fun pn xe => (gx_of (pg_name (i := 2) sc_law_heard.nd rfl (.inl rfl)) (kg_name 2))) sc_law_heard.nd)
  (bx_one (sx_ret (ex_tup (ax_cons (ex_var 1) (ax_cons (ex_var 2) ax_nil))))))))
theorem ok_law_odd (T : Top K mg base) : FnOk PW w K mg base CX0 3 T.a_law_odd T.fd_law_odd ["pot"] (spM K 1 m_law_odd) :=
  fn3 (k := 2) (g := g_law_odd) T.F_law_odd sc_law_odd rfl p_law_odd (fun cdv A outer s H E hr => (bx_cons (sx_asg (ex_lst (ax_cons ex_non (ax_cons ex_bl (ax_cons ex_bl (ax_cons ex_int (ax_cons ex_int (ax_cons (ex_neg ex_int) (ax_cons ex_int (ax_cons (ex_pow ex_int ex_int) (ax_cons ex_str (ax_cons ex_str (ax_cons ex_str (ax_cons ex_str (ax_cons (ex_tup ax_nil) (ax_cons (ex_lst ax_nil) (ax_cons ex_dct0 (ax_cons (ex_tup (ax_cons ex_int ax_nil)) (ax_cons (ex_tup (ax_cons (ex_tup ax_nil) ax_nil)) (ax_cons (ex_lst (ax_cons ex_int ax_nil)) (ax_cons (ex_tup (ax_cons ex_int (ax_cons ex_int ax_nil))) ax_nil)))))))))))))))))))) (gx_of (pg_name (i := 1) sc_law_odd.nd rfl (.inl rfl)) (kg_name 1)))
  (bx_cons (sx_asg (ex_add (ex_var 1) (ex_lst (ax_cons (ex_tup (ax_cons ex_int (ax_cons ex_int ax_nil))) (ax_cons (ex_tup (ax_cons ex_non ax_nil)) (ax_cons ex_dct1 (ax_cons (ex_tup (ax_cons (ex_tup (ax_cons ex_int ax_nil)) (ax_cons (ex_tup (ax_cons ex_int ax_nil)) ax_nil))) (ax_cons (ex_tup (ax_cons ex_int (ax_cons ex_int ax_nil))) (ax_cons (ex_tup (ax_cons ex_int (ax_cons ex_int (ax_cons ex_int ax_nil)))) (ax_cons (ex_tup (ax_cons (ex_tup (ax_cons ex_bl ax_nil)) ax_nil)) (ax_cons (ex_tup (ax_cons ex_str (ax_cons ex_int ax_nil))) (ax_cons (ex_tup (ax_cons ex_int (ax_cons ex_int (ax_cons ex_int ax_nil)))) ax_nil))))))))))) (gx_of (pg_name (i := 1) sc_law_odd.nd rfl (.inl rfl)) (kg_name 1)))
  (bx_one (sx_ret (ex_call (ok_law_of T) (hr.mono (by decide)) T.m_law_of T.F_law_of.kp T.b_law_of rfl (ax_cons (ex_var 0) (ax_cons (ex_var 1) ax_nil)) pass0 (hl := l_law_of)))))))
theorem ok_law_is_int (T : Top K mg base) : FnOk PW w K mg base CX0 1 T.a_law_is_int T.fd_law_is_int ["value", "low", "high"] (spM K 3 m_law_is_int) :=
  fn3 (k := 0) (g := g_law_is_int) T.F_law_is_int sc_law_is_int rfl p_law_is_int (fun cdv A outer s H E hr => (bx_one (sx_ret (ex_and (ex_callB call_isi isiS T.z_isinstance boot_isinstance3 (ax_cons (ex_var 0) (ax_cons (ex_ty T.z_int boot_int3) ax_nil))) (ex_and (ex_not (ex_callB call_isi isiS T.z_isinstance boot_isinstance3 (ax_cons (ex_var 0) (ax_cons (ex_ty T.z_bool boot_bool3) ax_nil)))) (ex_one (ex_ch op_le leS op_le leS (ex_var 1) (ex_var 0) (ex_var 2))))))))
theorem ok_law_bent (T : Top K mg base) : ∀ n : Nat, FnOk PW w K mg base CX0 (4 + n) T.a_law_bent T.fd_law_bent ["pot", "value"] (spM K 2 (m_law_bent n))
  | 0 => ⟨fun _ _ _ _ ⟨_, _, _, _, _, _, _, _, h, _⟩ => h.elim, fun _ _ _ _ _ _ _ _ _ _ _ _ _ ⟨_, _, _, _, _, _, _, _, h, _⟩ => h.elim⟩
  | n + 1 => by
    have ih := ok_law_bent T n
    have ihl := l_law_bent n
    exact fn3 (k := 4 + n) (g := g_law_bent (m_law_bent n)) T.F_law_bent sc_law_bent rfl (fun _ _ _ h => h.2) (fun cdv A outer s H E hr => (bx_cons (sx_if (wx_pt (wx_and (tx_val (ex_callB call_isi isiS T.z_isinstance boot_isinstance3 (ax_cons (ex_var 1) (ax_cons (ex_ty T.z_tuple boot_tuple3) ax_nil)))) (wx_and (tx_cmp (op_ne2 hr.units) neS (ex_var 1) (ex_tup ax_nil) (nomark _)) (wx_and1 (tx_cmp op_gt gtS (ex_call (ok_law_take T) (hr.mono (by omega)) T.m_law_take T.F_law_take.kp T.b_law_take rfl (ax_cons (ex_var 0) (ax_cons ex_int ax_nil)) pass0 (hl := l_law_take)) ex_int (nomark _))))))
  (bx_cons (sx_asg (ex_call (ok_law_take T) (hr.mono (by omega)) T.m_law_take T.F_law_take.kp T.b_law_take rfl (ax_cons (ex_var 0) (ax_cons (ex_callB call_len_seq lenS T.z_len boot_len3 (ax_cons (ex_var 1) ax_nil)) ax_nil)) pass0 (hl := l_law_take)) (gx_of (pg_name (i := 2) sc_law_bent.nd rfl (.inl rfl)) (kg_name 2)))
  (bx_one (sx_ret (ex_add (ex_add (ex_sl (ex_var 1) ox_none (ox_some (ex_var 2))) (ex_tup (ax_cons (ex_call ih (hr.mono (by omega)) T.m_law_bent T.F_law_bent.kp T.b_law_bent rfl (ax_cons (ex_var 0) (ax_cons (ex_ix (ex_var 1) (ex_var 2)) ax_nil)) pass0 (hl := ihl)) ax_nil))) (ex_sl (ex_var 1) (ox_some (ex_add (ex_var 2) ex_int)) ox_none)))))
  bx_nil)
  (bx_cons (sx_if (tx_val (ex_callB call_isi isiS T.z_isinstance boot_isinstance3 (ax_cons (ex_var 1) (ax_cons (ex_ty T.z_tuple boot_tuple3) ax_nil))))
  (bx_one (sx_ret (ex_call (ok_law_of T) (hr.mono (by omega)) T.m_law_of T.F_law_of.kp T.b_law_of rfl (ax_cons (ex_var 0) (ax_cons (ex_lst (ax_cons (fx_ex (fx_list T.z_list boot_list3 (ex_var 1)) (fun _ _ _ h => h)) (ax_cons (ex_sl (ex_var 1) (ox_some ex_int) ox_none) (ax_cons (ex_sl (ex_var 1) ox_none (ox_some (ex_neg ex_int))) (ax_cons (ex_add (ex_var 1) (ex_sl (ex_var 1) (ox_some (ex_neg ex_int)) ox_none)) (ax_cons (ex_rev (ex_var 1)) (ax_cons (ex_tup ax_nil) (ax_cons ex_non ax_nil)))))))) ax_nil)) pass0 (hl := l_law_of))))
  bx_nil)
  (bx_cons (sx_if (tx_val (ex_callB call_isi isiS T.z_isinstance boot_isinstance3 (ax_cons (ex_var 1) (ax_cons (ex_ty T.z_bool boot_bool3) ax_nil))))
  (bx_one (sx_ret (ex_call (ok_law_of T) (hr.mono (by omega)) T.m_law_of T.F_law_of.kp T.b_law_of rfl (ax_cons (ex_var 0) (ax_cons (ex_lst (ax_cons (ex_not (ex_var 1)) (ax_cons (ex_callT call_int1 intS1 T.z_int boot_int3 (ax_cons (ex_var 1) ax_nil)) (ax_cons ex_non ax_nil)))) ax_nil)) pass0 (hl := l_law_of))))
  bx_nil)
  (bx_cons (sx_if (tx_val (ex_callB call_isi isiS T.z_isinstance boot_isinstance3 (ax_cons (ex_var 1) (ax_cons (ex_ty T.z_int boot_int3) ax_nil))))
  (bx_one (sx_ret (ex_call (ok_law_of T) (hr.mono (by omega)) T.m_law_of T.F_law_of.kp T.b_law_of rfl (ax_cons (ex_var 0) (ax_cons (ex_lst (ax_cons (ex_add (ex_var 1) ex_int) (ax_cons (ex_sub (ex_var 1) ex_int) (ax_cons (ex_sub (ex_neg (ex_var 1)) ex_int) (ax_cons (ex_callT call_str_int strIS T.z_str boot_str3 (ax_cons (ex_var 1) ax_nil)) (ax_cons (ex_cmp (op_eq2 hr.units) eqS (ex_var 1) ex_int (nomark _)) (ax_cons ex_non (ax_cons (ex_tup (ax_cons (ex_var 1) ax_nil)) (ax_cons (ex_pow ex_int ex_int) ax_nil))))))))) ax_nil)) pass0 (hl := l_law_of))))
  bx_nil)
  (bx_cons (sx_if (tx_val (ex_callB call_isi isiS T.z_isinstance boot_isinstance3 (ax_cons (ex_var 1) (ax_cons (ex_ty T.z_str boot_str3) ax_nil))))
  (bx_one (sx_ret (ex_call (ok_law_of T) (hr.mono (by omega)) T.m_law_of T.F_law_of.kp T.b_law_of rfl (ax_cons (ex_var 0) (ax_cons (ex_lst (ax_cons (ex_add (ex_var 1) ex_str) (ax_cons (ex_slS (ex_var 1) (ox_some ex_int) ox_none) (ax_cons (ex_upper (ex_var 1)) (ax_cons ex_str (ax_cons ex_non (ax_cons ex_int ax_nil))))))) ax_nil)) pass0 (hl := l_law_of))))
  bx_nil)
  (bx_one (sx_ret (ex_call (ok_law_odd T) (hr.mono (by omega)) T.m_law_odd T.F_law_odd.kp T.b_law_odd rfl (ax_cons (ex_var 0) ax_nil) pass0 (hl := l_law_odd))))))))))
theorem ok_law_is_bool (T : Top K mg base) : FnOk PW w K mg base CX0 1 T.a_law_is_bool T.fd_law_is_bool ["told", "due"] (spM K 2 m_law_is_bool) :=
  fn3 (k := 0) (g := g_law_is_bool) T.F_law_is_bool sc_law_is_bool rfl p_law_is_bool (fun cdv A outer s H E hr => (bx_one (sx_ret (ex_and (ex_callB call_isi isiS T.z_isinstance boot_isinstance3 (ax_cons (ex_var 0) (ax_cons (ex_ty T.z_bool boot_bool3) ax_nil))) (ex_one (ex_cmp (op_eq2 hr.units) eqS (ex_var 0) (ex_var 1) (nomark _)))))))
theorem ok_law_all_refused (T : Top K mg base) {TT : TLs} (act : ActsB PW w K mg base 6 TT) : FnOk PW w K mg base CX0 9 T.a_law_all_refused T.fd_law_all_refused ["looks", "is_it", "value"] (spM K 3 (m_law_all_refused TT)) :=
  fn3 (k := 8) (g := g_law_all_refused TT) T.F_law_all_refused sc_law_all_refused rfl (p_law_all_refused TT) (fun cdv A outer s H E hr => (bx_cons (sx_valL 3 sc_law_all_refused.nd (own := [("look", 4)]) rfl sc_law_all_refused.nd (ix_seq (ex_var 0)) (blkOk_by rfl) (fun _ _ _ _ _ => (pg_name (i := 4) sc_law_all_refused.nd rfl (.inl rfl))) (kg_name 4) (fun _ _ _ _ _ => pts_nil) kt_nil (fun _ _ _ _ _ => (ex_ix (ex_call (ok_law_heard T act) (hr.mono (by decide)) T.m_law_heard T.F_law_heard.kp T.b_law_heard rfl (ax_cons (ex_var 4) ax_nil) pass0 (hl := (l_law_heard TT))) ex_int)) (by decide))
  (bx_one (sx_ret (ex_callB (cr_all rfl) allS T.z_all boot_all3 (ax_cons (fx_ex (fx_comp (own := [("miss", 5)]) rfl sc_law_all_refused.nd (ix_seq (ex_var 3)) (blkOk_by rfl) (fun _ _ _ _ _ => (pg_name (i := 5) sc_law_all_refused.nd rfl (.inl rfl))) (kg_name 5) (fun _ _ _ _ _ => pts_nil) kt_nil (fun _ _ _ _ _ => (ex_and (ex_of_ey (fun W tk => es_act1 (W := fun cls d _ H => W cls d H) (i := 1) act (hr.mono (by decide)) tk (ex_var 5))) (ex_and (ex_isV (errF T) T.z_isinstance T.z_ValueError (ex_var 5)) (ex_one (ex_cmp (op_eq2 hr.units) eqS (ex_repr T.z_repr hr.gd (u66 hr) (ex_val (errF T) (ex_var 5))) (ex_repr T.z_repr hr.gd (u66 hr) (ex_var 2)) (nomark _)))))) (by decide)) (fun _ _ _ h => h)) ax_nil))))))
theorem ok_law_gcd (T : Top K mg base) : FnOk PW w K mg base CX0 1 T.a_law_gcd T.fd_law_gcd ["one", "other"] (spM K 2 m_law_gcd) :=
  fn3 (k := 0) (g := g_law_gcd) T.F_law_gcd sc_law_gcd rfl p_law_gcd (fun cdv A outer s H E hr => (bx_cons (sx_while PassesOwn.never (tx_cmp (op_ne2 hr.units) neS (ex_var 1) ex_int (nomark _))
  (bx_one (sx_par (i := 0) (j := 1) rfl sc_law_gcd.nd (ax_cons (ex_var 1) (ax_cons (ex_mod (ex_var 0) (ex_var 1)) ax_nil)))))
  (bx_one (sx_ret (ex_var 0)))))
theorem ok_law_low (T : Top K mg base) : FnOk PW w K mg base CX0 2 T.a_law_low T.fd_law_low ["top", "bottom"] (spM K 2 m_law_low) :=
  fn3 (k := 1) (g := g_law_low) T.F_law_low sc_law_low rfl p_law_low (fun cdv A outer s H E hr => (bx_cons (sx_asg (ex_call (ok_law_gcd T) (hr.mono (by decide)) T.m_law_gcd T.F_law_gcd.kp T.b_law_gcd rfl (ax_cons (ex_var 0) (ax_cons (ex_var 1) ax_nil)) pass0 (hl := l_law_gcd)) (gx_of (pg_name (i := 2) sc_law_low.nd rfl (.inl rfl)) (kg_name 2)))
  (bx_one (sx_ret (ex_tup (ax_cons (ex_fdivW (ex_var 0) (ex_var 2)) (ax_cons (ex_fdivW (ex_var 1) (ex_var 2)) ax_nil)))))))
theorem ok_law_less (T : Top K mg base) : FnOk PW w K mg base CX0 1 T.a_law_less T.fd_law_less ["one", "other"] (spM K 2 m_law_less) :=
  fn3 (k := 0) (g := g_law_less) T.F_law_less sc_law_less rfl p_law_less (fun cdv A outer s H E hr => (bx_one (sx_ret (ex_cmp op_lt ltS (ex_mul (ex_ix (ex_var 0) ex_int) (ex_ix (ex_var 1) ex_int)) (ex_mul (ex_ix (ex_var 1) ex_int) (ex_ix (ex_var 0) ex_int)) (nomark _)))))
theorem ok_law_soonest (T : Top K mg base) : FnOk PW w K mg base CX0 3 T.a_law_soonest T.fd_law_soonest ["times", "presses"] (spM K 2 m_law_soonest) :=
  fn3 (k := 2) (g := g_law_soonest) T.F_law_soonest sc_law_soonest rfl p_law_soonest (fun cdv A outer s H E hr => (bx_cons (sx_par (i := 2) (j := 3) rfl sc_law_soonest.nd (ax_cons (ex_call (ok_law_low T) (hr.mono (by decide)) T.m_law_low T.F_law_low.kp T.b_law_low rfl (ax_cons (ex_callB (cr_sum2 rfl) sum2S T.z_sum boot_sum3 (ax_cons (ex_var 0) ax_nil)) (ax_cons (ex_var 1) ax_nil)) pass0 (hl := l_law_low)) (ax_cons (ex_tup (ax_cons (ex_callB (maxR rfl (u66 hr)) maxS T.z_max boot_max3 (ax_cons (ex_var 0) ax_nil)) (ax_cons ex_int ax_nil))) ax_nil)))
  (bx_one (sx_ret (ex_if (tx_val (ex_call (ok_law_less T) (hr.mono (by decide)) T.m_law_less T.F_law_less.kp T.b_law_less rfl (ax_cons (ex_var 2) (ax_cons (ex_var 3) ax_nil)) pass0 (hl := l_law_less))) (ex_var 3) (ex_var 2))))))
theorem ok_law_is_tick (T : Top K mg base) : FnOk PW w K mg base CX0 2 T.a_law_is_tick T.fd_law_is_tick ["value"] (spM K 1 m_law_is_tick) :=
  fn3 (k := 1) (g := g_law_is_tick) T.F_law_is_tick sc_law_is_tick rfl p_law_is_tick (fun cdv A outer s H E hr => (bx_cons (sx_if (wx_pt (wx_or (tx_not (tx_val (ex_callB call_isi isiS T.z_isinstance boot_isinstance3 (ax_cons (ex_var 0) (ax_cons (ex_ty T.z_tuple boot_tuple3) ax_nil))))) (wx_or (tx_cmp (op_ne2 hr.units) neS (ex_callB call_len_seq lenS T.z_len boot_len3 (ax_cons (ex_var 0) ax_nil)) ex_int (nomark _)) (wx_or1 (tx_not (tx_val (ex_callB (cr_all rfl) allS T.z_all boot_all3 (ax_cons (fx_ex (fx_comp (own := [("part", 1)]) rfl sc_law_is_tick.nd (ix_seq (ex_var 0)) (blkOk_by rfl) (fun _ _ _ _ _ => (pg_name (i := 1) sc_law_is_tick.nd rfl (.inl rfl))) (kg_name 1) (fun _ _ _ _ _ => pts_nil) kt_nil (fun _ _ _ _ _ => (ex_call (ok_law_is_int T) (hr.mono (by decide)) T.m_law_is_int T.F_law_is_int.kp T.b_law_is_int rfl (ax_cons (ex_var 1) (ax_cons ex_int (ax_cons (ex_pow ex_int ex_int) ax_nil))) pass0 (hl := l_law_is_int))) (by decide)) (fun _ _ _ h => h)) ax_nil))))))))
  (bx_one (sx_ret ex_bl))
  bx_nil)
  (bx_one (sx_ret (ex_and (ex_cmp op_gt gtS (ex_ix (ex_var 0) ex_int) ex_int (nomark _)) (ex_one (ex_cmp (op_eq2 hr.units) eqS (ex_call (ok_law_gcd T) (hr.mono (by decide)) T.m_law_gcd T.F_law_gcd.kp T.b_law_gcd rfl (ax_cons (ex_ix (ex_var 0) ex_int) (ax_cons (ex_ix (ex_var 0) ex_int) ax_nil)) pass0 (hl := l_law_gcd)) ex_int (nomark _))))))))
theorem ok_law_are_pieces (T : Top K mg base) : FnOk PW w K mg base CX0 4 T.a_law_are_pieces T.fd_law_are_pieces ["times", "presses", "value"] (spM K 3 m_law_are_pieces) :=
  fn3 (k := 3) (g := g_law_are_pieces) T.F_law_are_pieces sc_law_are_pieces rfl p_law_are_pieces (fun cdv A outer s H E hr => (bx_cons (sx_if (wx_pt (wx_or (tx_not (tx_val (ex_callB call_isi isiS T.z_isinstance boot_isinstance3 (ax_cons (ex_var 2) (ax_cons (ex_ty T.z_tuple boot_tuple3) ax_nil))))) (wx_or1 (tx_cmp op_gt gtS (ex_callB call_len_seq lenS T.z_len boot_len3 (ax_cons (ex_var 2) ax_nil)) ex_int (nomark _)))))
  (bx_one (sx_ret ex_bl))
  bx_nil)
  (bx_cons (sx_for PassesOwn.never rfl (ix_seq (ex_var 2)) (gx_of (pg_name (i := 3) sc_law_are_pieces.nd rfl (.inl rfl)) (kg_name 3))
  (bx_cons (sx_if (wx_pt (wx_or (tx_not (tx_val (ex_callB call_isi isiS T.z_isinstance boot_isinstance3 (ax_cons (ex_var 3) (ax_cons (ex_ty T.z_tuple boot_tuple3) ax_nil))))) (wx_or (tx_cmp (op_ne2 hr.units) neS (ex_callB call_len_seq lenS T.z_len boot_len3 (ax_cons (ex_var 3) ax_nil)) ex_int (nomark _)) (wx_or1 (tx_not (tx_val (ex_call (ok_law_is_int T) (hr.mono (by decide)) T.m_law_is_int T.F_law_is_int.kp T.b_law_is_int rfl (ax_cons (ex_ix (ex_var 3) ex_int) (ax_cons ex_int (ax_cons (ex_sub (ex_var 1) ex_int) ax_nil))) pass0 (hl := l_law_is_int))))))))
  (bx_one (sx_ret ex_bl))
  bx_nil)
  (bx_cons (sx_if (wx_pt (wx_or (tx_not (tx_val (ex_call (ok_law_is_tick T) (hr.mono (by decide)) T.m_law_is_tick T.F_law_is_tick.kp T.b_law_is_tick rfl (ax_cons (ex_ix (ex_var 3) ex_int) ax_nil) pass0 (hl := l_law_is_tick)))) (wx_or (tx_not (tx_val (ex_call (ok_law_is_tick T) (hr.mono (by decide)) T.m_law_is_tick T.F_law_is_tick.kp T.b_law_is_tick rfl (ax_cons (ex_ix (ex_var 3) ex_int) ax_nil) pass0 (hl := l_law_is_tick)))) (wx_or1 (tx_not (tx_val (ex_call (ok_law_less T) (hr.mono (by decide)) T.m_law_less T.F_law_less.kp T.b_law_less rfl (ax_cons (ex_ix (ex_var 3) ex_int) (ax_cons (ex_ix (ex_var 3) ex_int) ax_nil)) pass0 (hl := l_law_less))))))))
  (bx_one (sx_ret ex_bl))
  bx_nil)
  (bx_one (sx_if (wx_pt (wx_or (tx_not (tx_val (ex_call (ok_law_is_int T) (hr.mono (by decide)) T.m_law_is_int T.F_law_is_int.kp T.b_law_is_int rfl (ax_cons (ex_ix (ex_var 3) ex_int) (ax_cons ex_int (ax_cons (ex_sub (ex_callB call_len_seq lenS T.z_len boot_len3 (ax_cons (ex_var 0) ax_nil)) ex_int) ax_nil))) pass0 (hl := l_law_is_int)))) (wx_or1 (tx_val (ex_call (ok_law_less T) (hr.mono (by decide)) T.m_law_less T.F_law_less.kp T.b_law_less rfl (ax_cons (ex_call (ok_law_soonest T) (hr.mono (by decide)) T.m_law_soonest T.F_law_soonest.kp T.b_law_soonest rfl (ax_cons (ex_var 0) (ax_cons (ex_var 1) ax_nil)) pass0 (hl := l_law_soonest)) (ax_cons (ex_ix (ex_var 3) ex_int) ax_nil)) pass0 (hl := l_law_less))))))
  (bx_one (sx_ret ex_bl))
  bx_nil)))))
  (bx_cons (sx_own 4 (fx_rep (ex_lst (ax_cons (ex_tup (ax_cons ex_int (ax_cons ex_int ax_nil))) ax_nil)) (ex_callB call_len_seq lenS T.z_len boot_len3 (ax_cons (ex_var 0) ax_nil))) sc_law_are_pieces.nd)
  (bx_cons (sx_for PassesOwn.never rfl (ix_enum T.z_enumerate (ex_var 2)) (gx_of (pg_tup rfl (pgs_cons (pg_name (i := 5) sc_law_are_pieces.nd rfl (.inl rfl)) (pgs_cons (pg_name (i := 3) sc_law_are_pieces.nd rfl (.inl rfl)) pgs_nil))) (kg_tup (kgs_cons (kg_name 5) (kgs_cons (kg_name 3) kgs_nil))))
  (bx_cons (sx_for PassesOwn.never rfl (ix_seq (ex_sl (ex_var 2) (ox_some (ex_add (ex_var 5) ex_int)) ox_none)) (gx_of (pg_name (i := 6) sc_law_are_pieces.nd rfl (.inl rfl)) (kg_name 6))
  (bx_cons (sx_asgB (ex_or (ex_cmp (op_eq2 hr.units) eqS (ex_ix (ex_var 3) ex_int) (ex_ix (ex_var 6) ex_int) (nomark _)) (ex_one (ex_cmp (op_eq2 hr.units) eqS (ex_ix (ex_var 3) ex_int) (ex_ix (ex_var 6) ex_int) (nomark _)))) (gx_of (pg_name (i := 7) sc_law_are_pieces.nd rfl (.inl rfl)) (kg_name 7)))
  (bx_one (sx_if (wx_pt (wx_and (tx_val (ex_var 7)) (wx_and (tx_val (ex_call (ok_law_less T) (hr.mono (by decide)) T.m_law_less T.F_law_less.kp T.b_law_less rfl (ax_cons (ex_ix (ex_var 3) ex_int) (ax_cons (ex_ix (ex_var 6) ex_int) ax_nil)) pass0 (hl := l_law_less))) (wx_and1 (tx_val (ex_call (ok_law_less T) (hr.mono (by decide)) T.m_law_less T.F_law_less.kp T.b_law_less rfl (ax_cons (ex_ix (ex_var 6) ex_int) (ax_cons (ex_ix (ex_var 3) ex_int) ax_nil)) pass0 (hl := l_law_less)))))))
  (bx_one (sx_ret ex_bl))
  bx_nil))))
  (bx_cons (sx_asgB (ex_sub (ex_mul (ex_ix (ex_ix (ex_var 3) ex_int) ex_int) (ex_ix (ex_ix (ex_var 3) ex_int) ex_int)) (ex_mul (ex_ix (ex_ix (ex_var 3) ex_int) ex_int) (ex_ix (ex_ix (ex_var 3) ex_int) ex_int))) (gx_of (pg_name (i := 8) sc_law_are_pieces.nd rfl (.inl rfl)) (kg_name 8)))
  (bx_cons (sx_asgB (ex_mul (ex_ix (ex_ix (ex_var 3) ex_int) ex_int) (ex_ix (ex_ix (ex_var 3) ex_int) ex_int)) (gx_of (pg_name (i := 9) sc_law_are_pieces.nd rfl (.inl rfl)) (kg_name 9)))
  (bx_cons (sx_asgB (ex_ix (ex_var 4) (ex_ix (ex_var 3) ex_int)) (gx_of (pg_name (i := 10) sc_law_are_pieces.nd rfl (.inl rfl)) (kg_name 10)))
  (bx_one (sx_setB 4 (ps_asg (ex_call (ok_law_low T) (hr.mono (by decide)) T.m_law_low T.F_law_low.kp T.b_law_low rfl (ax_cons (ex_add (ex_mul (ex_ix (ex_var 10) ex_int) (ex_var 9)) (ex_mul (ex_var 8) (ex_ix (ex_var 10) ex_int))) (ax_cons (ex_mul (ex_ix (ex_var 10) ex_int) (ex_var 9)) ax_nil)) pass0 (hl := l_law_low)) (pg_sub (pv 4) (ex_ix (ex_var 3) ex_int) set_list)))))))))
  (bx_one (sx_ret (ex_cmp (op_eq2 hr.units) eqS (ex_var 4) (fx_ex (fx_comp (own := [("time", 11)]) rfl sc_law_are_pieces.nd (ix_seq (ex_var 0)) (blkOk_by rfl) (fun _ _ _ _ _ => (pg_name (i := 11) sc_law_are_pieces.nd rfl (.inl rfl))) (kg_name 11) (fun _ _ _ _ _ => pts_nil) kt_nil (fun _ _ _ _ _ => (ex_tup (ax_cons (ex_var 11) (ax_cons ex_int ax_nil)))) (by decide)) (fun _ _ _ h => h)) (nomark _)))))))))
theorem ok_law_is_right (T : Top K mg base) : FnOk PW w K mg base CX0 11 T.a_law_is_right T.fd_law_is_right ["pot", "times", "presses"] (spM K 3 m_law_is_right) :=
  fn3 (k := 10) (g := g_law_is_right) T.F_law_is_right sc_law_is_right rfl p_law_is_right (fun cdv A outer s H E hr => (bx_cons (sx_asg (ex_tup (ax_cons (ex_call (ok_law_soonest T) (hr.mono (by decide)) T.m_law_soonest T.F_law_soonest.kp T.b_law_soonest rfl (ax_cons (ex_var 1) (ax_cons (ex_var 2) ax_nil)) pass0 (hl := l_law_soonest)) (ax_cons (ex_callK (ks := ["presses"]) (ok0_parted T) (hr.mono (by decide)) T.m_parted T.F_parted.kp T.k_parted_presses rfl (ax_cons (ex_var 1) ax_nil) (kx_cons (ex_var 2) kx_nil) pass0 (hl := l0_parted)) ax_nil))) (gx_of (pg_tup rfl (pgs_cons (pg_name (i := 3) sc_law_is_right.nd rfl (.inl rfl)) (pgs_cons (pg_name (i := 4) sc_law_is_right.nd rfl (.inr rfl)) pgs_nil))) (kg_tup (kgs_cons (kg_name 3) (kgs_cons (kg_name 4) kgs_nil)))))
  (bx_cons (sx_if (wx_pt (wx_or (tx_cmp (op_ne2 hr.units) neS (ex_repr T.z_repr hr.gd (u66 hr) (ex_callK (ks := ["presses"]) (ok0_soonest T) (hr.mono (by decide)) T.m_soonest T.F_soonest.kp T.k_soonest_presses rfl (ax_cons (ex_var 1) ax_nil) (kx_cons (ex_var 2) kx_nil) pass0 (hl := l0_soonest))) (ex_repr T.z_repr hr.gd (u66 hr) (ex_var 3)) (nomark _)) (wx_or1 (tx_not (tx_val (ex_call (ok_law_are_pieces T) (hr.mono (by decide)) T.m_law_are_pieces T.F_law_are_pieces.kp T.b_law_are_pieces rfl (ax_cons (ex_var 1) (ax_cons (ex_var 2) (ax_cons (ex_var 4) ax_nil))) pass0 (hl := l_law_are_pieces)))))))
  (bx_one (sx_ret ex_bl))
  bx_nil)
  (bx_cons (sx_parN2 (i := 5) (j := 6) rfl sc_law_is_right.nd (jx_f (fx_lst ax_nil) (jx_e ex_int jx_nil)))
  (bx_cons (sx_for PassesOwn.never rfl (ix_enum T.z_enumerate (ex_var 1)) (gx_of (pg_tup rfl (pgs_cons (pg_name (i := 7) sc_law_is_right.nd rfl (.inl rfl)) (pgs_cons (pg_name (i := 8) sc_law_is_right.nd rfl (.inl rfl)) pgs_nil))) (kg_tup (kgs_cons (kg_name 7) (kgs_cons (kg_name 8) kgs_nil))))
  (bx_cons (sx_ext 5 (pe_bm PySem.F.plainAttrs_list PySem.F.slot_list_extend PySem.F.type_list_extend mt_extend (pv 5) (pa_cons (fx_if (tx_cmp op_gt gtS (ex_var 8) ex_int (nomark _)) (fx_lst (ax_cons (ex_tup (ax_cons ex_int (ax_cons (ex_tup (ax_cons (ex_var 6) (ax_cons ex_int ax_nil))) (ax_cons (ex_tup (ax_cons (ex_add (ex_var 6) (ex_var 8)) (ax_cons ex_int ax_nil))) (ax_cons (ex_var 7) ax_nil))))) ax_nil)) (fx_lst ax_nil)) pa_nil)))
  (bx_one (sx_asg (ex_add (ex_var 6) (ex_var 8)) (gx_of (pg_name (i := 6) sc_law_is_right.nd rfl (.inl rfl)) (kg_name 6))))))
  (bx_cons (by refine sx_frz 5 ?_; exact (sx_asg (ex_lst (ax_cons (ex_var 4) (ax_cons (fx_ex (fx_list T.z_list boot_list3 (ex_var 4)) (fun _ _ _ h => h)) (ax_cons (ex_rev (ex_var 4)) (ax_cons (ex_sl (ex_var 4) (ox_some ex_int) ox_none) (ax_cons (ex_add (ex_var 4) (ex_sl (ex_var 4) ox_none (ox_some ex_int))) (ax_cons (ex_callT call_tuple_of tupleS T.z_tuple boot_tuple3 (ax_cons (ex_var 5) ax_nil)) (ax_cons (ex_tup ax_nil) (ax_cons ex_non (ax_cons (ex_call (ok_law_odd T) (hr.mono (by decide)) T.m_law_odd T.F_law_odd.kp T.b_law_odd rfl (ax_cons (ex_var 0) ax_nil) pass0 (hl := l_law_odd)) ax_nil)))))))))) (gx_of (pg_name (i := 9) sc_law_is_right.nd rfl (.inl rfl)) (kg_name 9))))
  (bx_cons (sx_for PassesOwn.never rfl (ix_seq (ex_add (ex_var 9) (fx_ex (fx_comp (own := [("lap", 11)]) rfl sc_law_is_right.nd (ix_range1 T.z_range (ax_cons ex_int ax_nil)) (blkOk_by rfl) (fun _ _ _ _ _ => (pg_name (i := 11) sc_law_is_right.nd rfl (.inl rfl))) (kg_name 11) (fun _ _ _ _ _ => pts_nil) kt_nil (fun _ _ _ _ _ => (ex_call (ok_law_bent T _) (hr.mono (by decide)) T.m_law_bent T.F_law_bent.kp T.b_law_bent rfl (ax_cons (ex_var 0) (ax_cons (ex_var 4) ax_nil)) pass0 (hl := (l_law_bent _)))) (by decide)) (fun _ _ _ h => h)))) (gx_of (pg_name (i := 10) sc_law_is_right.nd rfl (.inl rfl)) (kg_name 10))
  (bx_one (sx_if (tx_not (tx_val (ex_call (ok_law_is_bool T) (hr.mono (by decide)) T.m_law_is_bool T.F_law_is_bool.kp T.b_law_is_bool rfl (ax_cons (ex_callK (ks := ["value"]) (ok0_shows_parted T) (hr.mono (by decide)) T.m_shows_parted T.F_shows_parted.kp T.k_shows_parted_value rfl (ax_cons (ex_var 1) (ax_cons (ex_var 2) ax_nil)) (kx_cons (ex_var 10) kx_nil) pass0 (hl := l0_shows_parted)) (ax_cons (ex_call (ok_law_are_pieces T) (hr.mono (by decide)) T.m_law_are_pieces T.F_law_are_pieces.kp T.b_law_are_pieces rfl (ax_cons (ex_var 1) (ax_cons (ex_var 2) (ax_cons (ex_var 10) ax_nil))) pass0 (hl := l_law_are_pieces)) ax_nil)) pass0 (hl := l_law_is_bool))))
  (bx_one (sx_ret ex_bl))
  bx_nil)))
  (bx_cons (sx_asg (ex_callT call_int1 intS1 T.z_int boot_int3 (ax_cons (ex_call (ok_law_of T) (hr.mono (by decide)) T.m_law_of T.F_law_of.kp T.b_law_of rfl (ax_cons (ex_var 0) (ax_cons (ex_lst (ax_cons (ex_call (ok_law_take T) (hr.mono (by decide)) T.m_law_take T.F_law_take.kp T.b_law_take rfl (ax_cons (ex_var 0) (ax_cons ex_int ax_nil)) pass0 (hl := l_law_take)) (ax_cons (ex_callB (maxR rfl (u66 hr)) maxS T.z_max boot_max3 (ax_cons (ex_var 1) ax_nil)) (ax_cons (ex_callB (cr_sum2 rfl) sum2S T.z_sum boot_sum3 (ax_cons (ex_var 1) ax_nil)) (ax_cons (ex_neg (ex_fdiv (ex_neg (ex_callB (cr_sum2 rfl) sum2S T.z_sum boot_sum3 (ax_cons (ex_var 1) ax_nil))) (ex_var 2))) ax_nil))))) ax_nil)) pass0 (hl := l_law_of)) ax_nil)) (gx_of (pg_name (i := 12) sc_law_is_right.nd rfl (.inr rfl)) (kg_name 12)))
  (bx_cons (sx_valL 13 sc_law_is_right.nd (own := [("many", 14)]) rfl sc_law_is_right.nd (ix_range2 T.z_range (ax_cons ex_int (ax_cons ex_int ax_nil))) (blkOk_by rfl) (fun _ _ _ _ _ => (pg_name (i := 14) sc_law_is_right.nd rfl (.inl rfl))) (kg_name 14) (fun _ _ _ _ _ => pts_one (tx_not (tx_val (ex_call (ok_law_less T) (hr.mono (by decide)) T.m_law_less T.F_law_less.kp T.b_law_less rfl (ax_cons (ex_tup (ax_cons (ex_var 12) (ax_cons ex_int ax_nil))) (ax_cons (ex_call (ok_law_soonest T) (hr.mono (by decide)) T.m_law_soonest T.F_law_soonest.kp T.b_law_soonest rfl (ax_cons (ex_var 1) (ax_cons (ex_var 14) ax_nil)) pass0 (hl := l_law_soonest)) ax_nil)) pass0 (hl := l_law_less))))) kt_one (fun _ _ _ _ _ => (ex_var 14)) (by decide))
  (bx_one (sx_ret (ex_cmp (op_eq2 hr.units) eqS (ex_repr T.z_repr hr.gd (u66 hr) (ex_callK (ks := ["tick"]) (ok0_presses_for T) (hr.mono (by decide)) T.m_presses_for T.F_presses_for.kp T.k_presses_for_tick rfl (ax_cons (ex_var 1) ax_nil) (kx_cons (ex_var 12) kx_nil) pass0 (hl := l0_presses_for))) (ex_repr T.z_repr hr.gd (u66 hr) (ex_if (tx_cmp (op_ne2 hr.units) neS (ex_var 13) (ex_lst ax_nil) (nomark _)) (ex_ix (ex_var 13) ex_int) ex_non)) (nomark _)))))))))))))
theorem ok_law_right (T : Top K mg base) : FnOk PW w K mg base CX0 12 T.a_law_right T.fd_law_right ["pot"] (spM K 1 m_law_right) :=
  fn3M (k := 11) (g := g_law_right) 5 tab_law_right T.F_law_right sc_law_right rfl p_law_right (fun cdv A outer s H E hcd hr => (bx_cons (sx_for PassesOwn.never rfl (ix_range1 T.z_range (ax_cons ex_int ax_nil)) (gx_of (pg_name (i := 1) sc_law_right.nd rfl (.inl rfl)) (kg_name 1))
  (bx_cons (sx_asg (ex_callT call_int1 intS1 T.z_int boot_int3 (ax_cons (ex_call (ok_law_of T) (hr.mono (by decide)) T.m_law_of T.F_law_of.kp T.b_law_of rfl (ax_cons (ex_var 0) (ax_cons (ex_lst (ax_cons ex_int (ax_cons ex_int (ax_cons ex_int ax_nil)))) ax_nil)) pass0 (hl := l_law_of)) ax_nil)) (gx_of (pg_name (i := 2) sc_law_right.nd rfl (.inr rfl)) (kg_name 2)))
  (bx_cons (sx_asg (ex_callT call_tuple_of tupleS T.z_tuple boot_tuple3 (ax_cons (fx_ex (fx_comp (own := [("job", 4)]) rfl sc_law_right.nd (ix_range1 T.z_range (ax_cons (ex_add ex_int (ex_call (ok_law_take T) (hr.mono (by decide)) T.m_law_take T.F_law_take.kp T.b_law_take rfl (ax_cons (ex_var 0) (ax_cons ex_int ax_nil)) pass0 (hl := l_law_take))) ax_nil)) (blkOk_by rfl) (fun _ _ _ _ _ => (pg_name (i := 4) sc_law_right.nd rfl (.inl rfl))) (kg_name 4) (fun _ _ _ _ _ => pts_nil) kt_nil (fun _ _ _ _ _ => (ex_callT call_int1 intS1 T.z_int boot_int3 (ax_cons (ex_call (ok_law_take T) (hr.mono (by decide)) T.m_law_take T.F_law_take.kp T.b_law_take rfl (ax_cons (ex_var 0) (ax_cons (ex_var 2) ax_nil)) pass0 (hl := l_law_take)) ax_nil))) (by decide)) (fun _ _ _ h => h)) ax_nil)) (gx_of (pg_name (i := 3) sc_law_right.nd rfl (.inl rfl)) (kg_name 3)))
  (bx_one (sx_if (tx_not (tx_val (ex_call (ok_law_is_right T) (hr.mono (by decide)) T.m_law_is_right T.F_law_is_right.kp T.b_law_is_right rfl (ax_cons (ex_var 0) (ax_cons (ex_var 3) (ax_cons (ex_add ex_int (ex_callT call_int1 intS1 T.z_int boot_int3 (ax_cons (ex_call (ok_law_take T) (hr.mono (by decide)) T.m_law_take T.F_law_take.kp T.b_law_take rfl (ax_cons (ex_var 0) (ax_cons ex_int ax_nil)) pass0 (hl := l_law_take)) ax_nil))) ax_nil))) pass0 (hl := l_law_is_right))))
  (bx_one (sx_ret ex_bl))
  bx_nil)))))
  (bx_cons (sx_asg (ex_call (ok_law_of T) (hr.mono (by decide)) T.m_law_of T.F_law_of.kp T.b_law_of rfl (ax_cons (ex_var 0) (ax_cons (ex_lst (ax_cons ex_non (ax_cons (ex_tup ax_nil) (ax_cons (ex_lst (ax_cons ex_int ax_nil)) (ax_cons (ex_tup (ax_cons (ex_neg ex_int) ax_nil)) (ax_cons (ex_tup (ax_cons ex_bl ax_nil)) (ax_cons (ex_tup (ax_cons (ex_add (ex_pow ex_int ex_int) ex_int) ax_nil)) (ax_cons (ex_mulT (ex_tup (ax_cons ex_int ax_nil)) ex_int) (ax_cons ex_str ax_nil))))))))) ax_nil)) pass0 (hl := l_law_of)) (gx_of (pg_name (i := 5) sc_law_right.nd rfl (.inr rfl)) (kg_name 5)))
  (bx_cons (sx_own 6 (fx_lst (ax_cons (ex_mk (is := isM _ 5 tab_law_right) (j := 0) (kk := 5) (ps := []) (fun _ h => h) T.tb_law_right (hcd.symm.trans T.co_law_right) T.in_law_right T.un_law_right rfl rfl (by decide) (lamN_of rfl) (maskN_of (N2 := ["pot", "lap", "wide", "times", "job", "odd", "looks"]) rfl) (fun _ _ _ us hl => match us, hl with | [], _ => rfl) (fun A outer s H E f c' hr => (ey_call (ok_soonest T) (hr.mono (by decide)) T.m_soonest T.F_soonest.kp T.b_soonest (takes_of rfl rfl rfl rfl) (ax_cons (ex_var 5) (ax_cons ex_non ax_nil)) l_soonest))) ax_nil)) sc_law_right.nd)
  (bx_cons (sx_app 6 (pe_bm PySem.F.plainAttrs_list PySem.F.slot_list_append PySem.F.type_list_append mt_append (pv 6) (pa_cons (ex_mk (is := isM _ 5 tab_law_right) (j := 1) (kk := 5) (ps := []) (fun _ h => h) T.tb_law_right (hcd.symm.trans T.co_law_right) T.in_law_right T.un_law_right rfl rfl (by decide) (lamN_of rfl) (maskN_of (N2 := ["pot", "lap", "wide", "times", "job", "odd", "looks"]) rfl) (fun _ _ _ us hl => match us, hl with | [], _ => rfl) (fun A outer s H E f c' hr => (ey_call (ok_parted T) (hr.mono (by decide)) T.m_parted T.F_parted.kp T.b_parted (takes_of rfl rfl rfl rfl) (ax_cons (ex_var 5) (ax_cons ex_non ax_nil)) l_parted))) pa_nil)))
  (bx_cons (sx_app 6 (pe_bm PySem.F.plainAttrs_list PySem.F.slot_list_append PySem.F.type_list_append mt_append (pv 6) (pa_cons (ex_mk (is := isM _ 5 tab_law_right) (j := 2) (kk := 5) (ps := []) (fun _ h => h) T.tb_law_right (hcd.symm.trans T.co_law_right) T.in_law_right T.un_law_right rfl rfl (by decide) (lamN_of rfl) (maskN_of (N2 := ["pot", "lap", "wide", "times", "job", "odd", "looks"]) rfl) (fun _ _ _ us hl => match us, hl with | [], _ => rfl) (fun A outer s H E f c' hr => (ey_call (ok_shows_parted T) (hr.mono (by decide)) T.m_shows_parted T.F_shows_parted.kp T.b_shows_parted (takes_of rfl rfl rfl rfl) (ax_cons (ex_var 5) (ax_cons ex_non (ax_cons ex_non ax_nil))) l_shows_parted))) pa_nil)))
  (bx_cons (sx_app 6 (pe_bm PySem.F.plainAttrs_list PySem.F.slot_list_append PySem.F.type_list_append mt_append (pv 6) (pa_cons (ex_mk (is := isM _ 5 tab_law_right) (j := 3) (kk := 5) (ps := []) (fun _ h => h) T.tb_law_right (hcd.symm.trans T.co_law_right) T.in_law_right T.un_law_right rfl rfl (by decide) (lamN_of rfl) (maskN_of (N2 := ["pot", "lap", "wide", "times", "job", "odd", "looks"]) rfl) (fun _ _ _ us hl => match us, hl with | [], _ => rfl) (fun A outer s H E f c' hr => (ey_call (ok_presses_for T) (hr.mono (by decide)) T.m_presses_for T.F_presses_for.kp T.b_presses_for (takes_of rfl rfl rfl rfl) (ax_cons (ex_var 5) (ax_cons ex_non ax_nil)) l_presses_for))) pa_nil)))
  (bx_cons (sx_if (tx_not (tx_val (ex_callG (kk := 5) (tab := tab_law_right) (fun B hB TT act => ok_law_all_refused (T.up hB) act) (fun _ _ h => h) (hr.mono (by decide)) T.m_law_all_refused T.F_law_all_refused.kp T.b_law_all_refused rfl (fun _ => rfl) rfl rfl (ax_cons (ex_var 6) (ax_cons (ex_mk (is := isM _ 5 tab_law_right) (j := 4) (kk := 5) (ps := ["miss"]) (fun _ h => h) T.tb_law_right (hcd.symm.trans T.co_law_right) T.in_law_right T.un_law_right rfl rfl (by decide) (lamN_of rfl) (maskN_of (N2 := ["pot", "lap", "wide", "times", "job", "odd", "looks"]) rfl) (fun _ _ _ us hl => match us, hl with | [_], _ => rfl) (fun A outer s H E f c' hr => (ey_of (ex_isX (errF T) T.z_isinstance T.e_BadJobs.c.g (ex_var 7))))) (ax_cons (ex_var 5) ax_nil))) (hl := fun TT => l_law_all_refused TT))))
  (bx_one (sx_ret ex_bl))
  bx_nil)
  (bx_cons (sx_asg (ex_call (ok_law_of T) (hr.mono (by decide)) T.m_law_of T.F_law_of.kp T.b_law_of rfl (ax_cons (ex_var 0) (ax_cons (ex_lst (ax_cons ex_non (ax_cons ex_int (ax_cons ex_int (ax_cons ex_bl (ax_cons ex_str (ax_cons (ex_neg ex_int) ax_nil))))))) ax_nil)) pass0 (hl := l_law_of)) (gx_of (pg_name (i := 5) sc_law_right.nd rfl (.inr rfl)) (kg_name 5)))
  (bx_cons (sx_own 6 (fx_lst (ax_cons (ex_mk (is := isM _ 5 tab_law_right) (j := 5) (kk := 5) (ps := []) (fun _ h => h) T.tb_law_right (hcd.symm.trans T.co_law_right) T.in_law_right T.un_law_right rfl rfl (by decide) (lamN_of rfl) (maskN_of (N2 := ["pot", "lap", "wide", "times", "job", "odd", "looks"]) rfl) (fun _ _ _ us hl => match us, hl with | [], _ => rfl) (fun A outer s H E f c' hr => (ey_call (ok_soonest T) (hr.mono (by decide)) T.m_soonest T.F_soonest.kp T.b_soonest (takes_of rfl rfl rfl rfl) (ax_cons (ex_tup (ax_cons ex_int ax_nil)) (ax_cons (ex_var 5) ax_nil)) l_soonest))) ax_nil)) sc_law_right.nd)
  (bx_cons (sx_app 6 (pe_bm PySem.F.plainAttrs_list PySem.F.slot_list_append PySem.F.type_list_append mt_append (pv 6) (pa_cons (ex_mk (is := isM _ 5 tab_law_right) (j := 6) (kk := 5) (ps := []) (fun _ h => h) T.tb_law_right (hcd.symm.trans T.co_law_right) T.in_law_right T.un_law_right rfl rfl (by decide) (lamN_of rfl) (maskN_of (N2 := ["pot", "lap", "wide", "times", "job", "odd", "looks"]) rfl) (fun _ _ _ us hl => match us, hl with | [], _ => rfl) (fun A outer s H E f c' hr => (ey_call (ok_parted T) (hr.mono (by decide)) T.m_parted T.F_parted.kp T.b_parted (takes_of rfl rfl rfl rfl) (ax_cons (ex_tup (ax_cons ex_int ax_nil)) (ax_cons (ex_var 5) ax_nil)) l_parted))) pa_nil)))
  (bx_cons (sx_app 6 (pe_bm PySem.F.plainAttrs_list PySem.F.slot_list_append PySem.F.type_list_append mt_append (pv 6) (pa_cons (ex_mk (is := isM _ 5 tab_law_right) (j := 7) (kk := 5) (ps := []) (fun _ h => h) T.tb_law_right (hcd.symm.trans T.co_law_right) T.in_law_right T.un_law_right rfl rfl (by decide) (lamN_of rfl) (maskN_of (N2 := ["pot", "lap", "wide", "times", "job", "odd", "looks"]) rfl) (fun _ _ _ us hl => match us, hl with | [], _ => rfl) (fun A outer s H E f c' hr => (ey_call (ok_shows_parted T) (hr.mono (by decide)) T.m_shows_parted T.F_shows_parted.kp T.b_shows_parted (takes_of rfl rfl rfl rfl) (ax_cons (ex_tup (ax_cons ex_int ax_nil)) (ax_cons (ex_var 5) (ax_cons ex_non ax_nil))) l_shows_parted))) pa_nil)))
  (bx_cons (sx_if (tx_not (tx_val (ex_callG (kk := 5) (tab := tab_law_right) (fun B hB TT act => ok_law_all_refused (T.up hB) act) (fun _ _ h => h) (hr.mono (by decide)) T.m_law_all_refused T.F_law_all_refused.kp T.b_law_all_refused rfl (fun _ => rfl) rfl rfl (ax_cons (ex_var 6) (ax_cons (ex_mk (is := isM _ 5 tab_law_right) (j := 8) (kk := 5) (ps := ["miss"]) (fun _ h => h) T.tb_law_right (hcd.symm.trans T.co_law_right) T.in_law_right T.un_law_right rfl rfl (by decide) (lamN_of rfl) (maskN_of (N2 := ["pot", "lap", "wide", "times", "job", "odd", "looks"]) rfl) (fun _ _ _ us hl => match us, hl with | [_], _ => rfl) (fun A outer s H E f c' hr => (ey_of (ex_isX (errF T) T.z_isinstance T.e_BadInt.c.g (ex_var 7))))) (ax_cons (ex_var 5) ax_nil))) (hl := fun TT => l_law_all_refused TT))))
  (bx_one (sx_ret ex_bl))
  bx_nil)
  (bx_cons (sx_asg (ex_call (ok_law_of T) (hr.mono (by decide)) T.m_law_of T.F_law_of.kp T.b_law_of rfl (ax_cons (ex_var 0) (ax_cons (ex_lst (ax_cons ex_non (ax_cons (ex_neg ex_int) (ax_cons ex_bl (ax_cons ex_str (ax_cons (ex_add (ex_mul ex_int (ex_pow ex_int ex_int)) ex_int) ax_nil)))))) ax_nil)) pass0 (hl := l_law_of)) (gx_of (pg_name (i := 5) sc_law_right.nd rfl (.inr rfl)) (kg_name 5)))
  (bx_cons (sx_own 6 (fx_lst (ax_cons (ex_mk (is := isM _ 5 tab_law_right) (j := 9) (kk := 5) (ps := []) (fun _ h => h) T.tb_law_right (hcd.symm.trans T.co_law_right) T.in_law_right T.un_law_right rfl rfl (by decide) (lamN_of rfl) (maskN_of (N2 := ["pot", "lap", "wide", "times", "job", "odd", "looks"]) rfl) (fun _ _ _ us hl => match us, hl with | [], _ => rfl) (fun A outer s H E f c' hr => (ey_call (ok_presses_for T) (hr.mono (by decide)) T.m_presses_for T.F_presses_for.kp T.b_presses_for (takes_of rfl rfl rfl rfl) (ax_cons (ex_tup (ax_cons ex_int ax_nil)) (ax_cons (ex_var 5) ax_nil)) l_presses_for))) ax_nil)) sc_law_right.nd)
  (bx_one (sx_ret (ex_callG (kk := 5) (tab := tab_law_right) (fun B hB TT act => ok_law_all_refused (T.up hB) act) (fun _ _ h => h) (hr.mono (by decide)) T.m_law_all_refused T.F_law_all_refused.kp T.b_law_all_refused rfl (fun _ => rfl) rfl rfl (ax_cons (ex_var 6) (ax_cons (ex_mk (is := isM _ 5 tab_law_right) (j := 10) (kk := 5) (ps := ["miss"]) (fun _ h => h) T.tb_law_right (hcd.symm.trans T.co_law_right) T.in_law_right T.un_law_right rfl rfl (by decide) (lamN_of rfl) (maskN_of (N2 := ["pot", "lap", "wide", "times", "job", "odd", "looks"]) rfl) (fun _ _ _ us hl => match us, hl with | [_], _ => rfl) (fun A outer s H E f c' hr => (ey_of (ex_isX (errF T) T.z_isinstance T.e_BadInt.c.g (ex_var 7))))) (ax_cons (ex_var 5) ax_nil))) (hl := fun TT => l_law_all_refused TT)))))))))))))))))))
theorem ok_law (T : Top K mg base) : FnOk PW w K mg base CX0 13 T.a_law T.fd_law ["script"] (spM K 1 m_law) :=
  fn3 (k := 12) (g := g_law) T.F_law sc_law rfl p_law (fun cdv A outer s H E hr => (bx_one (sx_ret (ex_callB (cr_all rfl) allS T.z_all boot_all3 (ax_cons (fx_ex (fx_comp (own := [("place", 1)]) rfl sc_law.nd (ix_seq (ex_call (ok_law_cells T) (hr.mono (by decide)) T.m_law_cells T.F_law_cells.kp T.b_law_cells rfl (ax_cons (ex_var 0) (ax_cons ex_int ax_nil)) pass0 (hl := l_law_cells))) (blkOk_by rfl) (fun _ _ _ _ _ => (pg_name (i := 1) sc_law.nd rfl (.inl rfl))) (kg_name 1) (fun _ _ _ _ _ => pts_nil) kt_nil (fun _ _ _ _ _ => (ex_potcall (ok_law_pot T) (ok_law_right T) (hr.mono (by decide)) (hr.mono (by decide)) T.m_law_pot T.F_law_pot.kp T.b_law_pot T.m_law_right T.F_law_right.kp T.b_law_right (ax_cons (ex_var 0) (ax_cons (ex_var 1) ax_nil)) l_law_pot)) (by decide)) (fun _ _ _ h => h)) ax_nil)))))
end Law67

set_option maxHeartbeats 0
namespace Law67
open PySem PySem.Spec PyProof.Rows
open L2 hiding FnOk Room
open L3
def d_is_int : He.DefD := ⟨("is_int", none), "is_int", "is_int", defArgs s_is_int, defBody s_is_int, defScope s_is_int, [], []⟩
def d_is_whole : He.DefD := ⟨("is_whole", none), "is_whole", "is_whole", defArgs s_is_whole, defBody s_is_whole, defScope s_is_whole, [], []⟩
def d_are_ints : He.DefD := ⟨("are_ints", none), "are_ints", "are_ints", defArgs s_are_ints, defBody s_are_ints, defScope s_are_ints, [], []⟩
def d_common_int : He.DefD := ⟨("common_int", none), "common_int", "common_int", defArgs s_common_int, defBody s_common_int, defScope s_common_int, [], []⟩
def d_lowest : He.DefD := ⟨("lowest", none), "lowest", "lowest", defArgs s_lowest, defBody s_lowest, defScope s_lowest, [], []⟩
def d_plus : He.DefD := ⟨("plus", none), "plus", "plus", defArgs s_plus, defBody s_plus, defScope s_plus, [], []⟩
def d_is_below : He.DefD := ⟨("is_below", none), "is_below", "is_below", defArgs s_is_below, defBody s_is_below, defScope s_is_below, [], []⟩
def d_is_tick : He.DefD := ⟨("is_tick", none), "is_tick", "is_tick", defArgs s_is_tick, defBody s_is_tick, defScope s_is_tick, [], []⟩
def d_look_at_times : He.DefD := ⟨("look_at_times", none), "look_at_times", "look_at_times", defArgs s_look_at_times, defBody s_look_at_times, defScope s_look_at_times, [], []⟩
def d_told_soonest : He.DefD := ⟨("told_soonest", none), "told_soonest", "told_soonest", defArgs s_told_soonest, defBody s_told_soonest, defScope s_told_soonest, [], []⟩
def d_soonest : He.DefD := ⟨("soonest", none), "soonest", "soonest", defArgs s_soonest, defBody s_soonest, defScope s_soonest, [], []⟩
def d_parted : He.DefD := ⟨("parted", none), "parted", "parted", defArgs s_parted, defBody s_parted, defScope s_parted, [], []⟩
def d_is_piece : He.DefD := ⟨("is_piece", none), "is_piece", "is_piece", defArgs s_is_piece, defBody s_is_piece, defScope s_is_piece, [], []⟩
def d_do_meet : He.DefD := ⟨("do_meet", none), "do_meet", "do_meet", defArgs s_do_meet, defBody s_do_meet, defScope s_do_meet, [], []⟩
def d_shows_parted : He.DefD := ⟨("shows_parted", none), "shows_parted", "shows_parted", defArgs s_shows_parted, defBody s_shows_parted, defScope s_shows_parted, [], []⟩
def d_presses_for : He.DefD := ⟨("presses_for", none), "presses_for", "presses_for", defArgs s_presses_for, defBody s_presses_for, defScope s_presses_for, [], []⟩
def d_law_pot : He.DefD := ⟨("_law_pot", none), "_law_pot", "_law_pot", defArgs s_law_pot, defBody s_law_pot, defScope s_law_pot, [], []⟩
def d_law_take : He.DefD := ⟨("_law_take", none), "_law_take", "_law_take", defArgs s_law_take, defBody s_law_take, defScope s_law_take, [], []⟩
def d_law_of : He.DefD := ⟨("_law_of", none), "_law_of", "_law_of", defArgs s_law_of, defBody s_law_of, defScope s_law_of, [], []⟩
def d_law_cells : He.DefD := ⟨("_law_cells", none), "_law_cells", "_law_cells", defArgs s_law_cells, defBody s_law_cells, defScope s_law_cells, [], []⟩
def d_law_heard : He.DefD := ⟨("_law_heard", none), "_law_heard", "_law_heard", defArgs s_law_heard, defBody s_law_heard, defScope s_law_heard, [], []⟩
def d_law_odd : He.DefD := ⟨("_law_odd", none), "_law_odd", "_law_odd", defArgs s_law_odd, defBody s_law_odd, defScope s_law_odd, [], []⟩
def d_law_is_int : He.DefD := ⟨("_law_is_int", none), "_law_is_int", "_law_is_int", defArgs s_law_is_int, defBody s_law_is_int, defScope s_law_is_int, [], []⟩
def d_law_bent : He.DefD := ⟨("_law_bent", none), "_law_bent", "_law_bent", defArgs s_law_bent, defBody s_law_bent, defScope s_law_bent, [], []⟩
def d_law_is_bool : He.DefD := ⟨("_law_is_bool", none), "_law_is_bool", "_law_is_bool", defArgs s_law_is_bool, defBody s_law_is_bool, defScope s_law_is_bool, [], []⟩
def d_law_all_refused : He.DefD := ⟨("_law_all_refused", none), "_law_all_refused", "_law_all_refused", defArgs s_law_all_refused, defBody s_law_all_refused, defScope s_law_all_refused, [], []⟩
def d_law_gcd : He.DefD := ⟨("_law_gcd", none), "_law_gcd", "_law_gcd", defArgs s_law_gcd, defBody s_law_gcd, defScope s_law_gcd, [], []⟩
def d_law_low : He.DefD := ⟨("_law_low", none), "_law_low", "_law_low", defArgs s_law_low, defBody s_law_low, defScope s_law_low, [], []⟩
def d_law_less : He.DefD := ⟨("_law_less", none), "_law_less", "_law_less", defArgs s_law_less, defBody s_law_less, defScope s_law_less, [], []⟩
def d_law_soonest : He.DefD := ⟨("_law_soonest", none), "_law_soonest", "_law_soonest", defArgs s_law_soonest, defBody s_law_soonest, defScope s_law_soonest, [], []⟩
def d_law_is_tick : He.DefD := ⟨("_law_is_tick", none), "_law_is_tick", "_law_is_tick", defArgs s_law_is_tick, defBody s_law_is_tick, defScope s_law_is_tick, [], []⟩
def d_law_are_pieces : He.DefD := ⟨("_law_are_pieces", none), "_law_are_pieces", "_law_are_pieces", defArgs s_law_are_pieces, defBody s_law_are_pieces, defScope s_law_are_pieces, [], []⟩
def d_law_is_right : He.DefD := ⟨("_law_is_right", none), "_law_is_right", "_law_is_right", defArgs s_law_is_right, defBody s_law_is_right, defScope s_law_is_right, [], []⟩
def d_law_right : He.DefD := ⟨("_law_right", none), "_law_right", "_law_right", defArgs s_law_right, defBody s_law_right, defScope s_law_right, [], []⟩
def d_law : He.DefD := ⟨("law", none), "law", "law", defArgs s_law, defBody s_law, defScope s_law, [], []⟩
def fns : List He.DefD := ([d_is_int, d_is_whole, d_are_ints, d_common_int, d_lowest, d_plus, d_is_below, d_is_tick, d_look_at_times, d_told_soonest, d_soonest, d_parted, d_is_piece, d_do_meet, d_shows_parted, d_presses_for, d_law_pot, d_law_take, d_law_of, d_law_cells, d_law_heard, d_law_odd, d_law_is_int, d_law_bent, d_law_is_bool, d_law_all_refused, d_law_gcd, d_law_low, d_law_less, d_law_soonest] : List He.DefD) ++ ([d_law_is_tick, d_law_are_pieces, d_law_is_right, d_law_right, d_law] : List He.DefD)
def fas : List He.Fa := ([.glo "is_int", .glo "is_whole", .glo "are_ints", .glo "common_int", .glo "lowest", .glo "plus", .glo "is_below", .glo "is_tick", .glo "look_at_times", .glo "told_soonest", .glo "soonest", .glo "parted", .glo "is_piece", .glo "do_meet", .glo "shows_parted", .glo "presses_for", .glo "_law_pot", .glo "_law_take", .glo "_law_of", .glo "_law_cells", .glo "_law_heard", .glo "_law_odd", .glo "_law_is_int", .glo "_law_bent", .glo "_law_is_bool", .glo "_law_all_refused", .glo "_law_gcd", .glo "_law_low", .glo "_law_less", .glo "_law_soonest"] : List He.Fa) ++ ([.glo "_law_is_tick", .glo "_law_are_pieces", .glo "_law_is_right", .glo "_law_right", .glo "law", .glo "BindError", .glo "BadJobs", .glo "BadInt", .free "ValueError", .free "abs", .free "all", .free "bool", .free "enumerate", .free "int", .free "isinstance", .free "len", .free "list", .free "max", .free "min", .free "range", .free "repr", .free "sorted", .free "str", .free "sum", .free "super", .free "tuple", .int "FOUR" 4, .int "MOST_JOBS" 24, .int "MOST_PIECES" 100, .int "MOST_PRESSES" 12] : List He.Fa) ++ ([.int "MOST_TIME" 1000000000000, .int "THREE" 3] : List He.Fa)
def tfs : List He.Defn := [("_law_right", none)]
def exs (K : PySem.W.Frag) : Bool := (Nat.beq (He.cT K ("_law_right", none)).2 279 && (errB K "BadJobs" && (errB K "BadInt" && initB PW K 18)))
theorem exs_all {K : PySem.W.Frag} (h : exs K = true) : (Nat.beq (He.cT K ("_law_right", none)).2 279) = true ∧ (errB K "BadJobs") = true ∧ (errB K "BadInt") = true ∧ (initB PW K 18) = true := by
  unfold exs at h
  simp only [Bool.and_eq_true] at h
  exact h
def looseN : List Str := (["BindError", "BadInt", "BadJobs", "is_int", "is_whole", "are_ints", "MOST_JOBS", "MOST_TIME", "MOST_PRESSES", "MOST_PIECES", "THREE", "FOUR", "common_int", "lowest", "plus", "is_below", "is_tick", "look_at_times", "told_soonest", "soonest", "parted", "is_piece", "do_meet", "shows_parted", "presses_for", "_law_pot", "_law_take", "_law_of", "_law_cells", "_law_heard"] : List Str) ++ (["_law_odd", "_law_is_int", "_law_bent", "_law_is_bool", "_law_all_refused", "_law_gcd", "_law_low", "_law_less", "_law_soonest", "_law_is_tick", "_law_are_pieces", "_law_is_right", "_law_right"] : List Str)
abbrev R : PySem.W.OpenRow := PySem.W.OpenLaw.row PySem.Challenge.rw_foldedandsewn_k67_whole_presses_side_by
abbrev iniV : He.FnW := initV (defArgs initS) (defBody initS) (defScope initS) 18
abbrev hk : PySem.W.Hook := hookE 5 fas fns tfs exs iniV
def ob (s : PySem.W.SharedT) : He.AlX × He.FnW × Bool := obE 5 fas fns tfs exs (HandSHeadRun.getT s)
theorem ob_eq (s : PySem.W.SharedT) : ob s = hk.obs s.abs := obE_eq (HandSHeadRun.getT_eq s)
theorem run (w : World) : HandSHeadRun.RunEq R (PySem.W.view R.prog [47]) hk ob 3000 looseN w := by
  intro os
  kernel_rfl
theorem ini_of {w : World} {K : PySem.W.Frag} {h : Heap} {mg : Str → Option Value} (c : He.SaysX fas fns [] tfs exs w h K) (ci : He.fnW K atI = iniV) (hs : mg "super" = none) {K2 : PySem.W.Frag} (hq : PySem.W.nsIn K2 cStatics "thirdparty.any" = some none) : ∃ T : InitH PW K mg (He.fAd K atI), T.params = defArgs initS ∧ T.dV = .none ∧ T.K2 = K2 ∧ PySem.W.typeIn K (.ref (He.fAd K atI)) = some (.type "function") := by
  have z := exs_all c.more
  exact initH_of ci z.2.2.2 hs hq rfl rfl (by kernel_rfl) rfl rfl rfl rfl rfl (by decide +kernel) rfl rfl rfl rfl (fun y h => (by decide +kernel : ∀ x ∈ (defScope initS).names, x.2 = .free → x.1 = ("__class__" : Str)) _ (PySem.mem_of_lookup h) rfl)
theorem top_of {w : World} {K : PySem.W.Frag} {h h2 base : Heap} {mg : Str → Option Value} (X : K.In h2) (G : h2.Ns mainGlobals mg) (c : He.SaysX fas fns [] tfs exs w h K) (ci : He.fnW K atI = iniV) {K2 : PySem.W.Frag} (hq : PySem.W.nsIn K2 cStatics "thirdparty.any" = some none) (hk2 : K2.In base) (tb : ∀ p ∈ tfs.map (He.cT K), LamX.TabB base mg p.1 p.2) {fd_law : FuncData} (F_law : FunD K "law" "law" (defArgs s_law) (defBody s_law) (defScope s_law) [] [] (He.fAd K ("law", none)) fd_law) : ∃ T : Top K mg base, T.a_law = He.ga K "law" ∧ T.fd_law = fd_law := by
  have z := exs_all c.more
  obtain ⟨fd_is_int, F_is_int⟩ := c.t.d.def_ 0 (d := d_is_int) rfl
  obtain ⟨fd_is_whole, F_is_whole⟩ := c.t.d.def_ 1 (d := d_is_whole) rfl
  obtain ⟨fd_are_ints, F_are_ints⟩ := c.t.d.def_ 2 (d := d_are_ints) rfl
  obtain ⟨fd_common_int, F_common_int⟩ := c.t.d.def_ 3 (d := d_common_int) rfl
  obtain ⟨fd_lowest, F_lowest⟩ := c.t.d.def_ 4 (d := d_lowest) rfl
  obtain ⟨fd_plus, F_plus⟩ := c.t.d.def_ 5 (d := d_plus) rfl
  obtain ⟨fd_is_below, F_is_below⟩ := c.t.d.def_ 6 (d := d_is_below) rfl
  obtain ⟨fd_is_tick, F_is_tick⟩ := c.t.d.def_ 7 (d := d_is_tick) rfl
  obtain ⟨fd_look_at_times, F_look_at_times⟩ := c.t.d.def_ 8 (d := d_look_at_times) rfl
  obtain ⟨fd_told_soonest, F_told_soonest⟩ := c.t.d.def_ 9 (d := d_told_soonest) rfl
  obtain ⟨fd_soonest, F_soonest⟩ := c.t.d.def_ 10 (d := d_soonest) rfl
  obtain ⟨fd_parted, F_parted⟩ := c.t.d.def_ 11 (d := d_parted) rfl
  obtain ⟨fd_is_piece, F_is_piece⟩ := c.t.d.def_ 12 (d := d_is_piece) rfl
  obtain ⟨fd_do_meet, F_do_meet⟩ := c.t.d.def_ 13 (d := d_do_meet) rfl
  obtain ⟨fd_shows_parted, F_shows_parted⟩ := c.t.d.def_ 14 (d := d_shows_parted) rfl
  obtain ⟨fd_presses_for, F_presses_for⟩ := c.t.d.def_ 15 (d := d_presses_for) rfl
  obtain ⟨fd_law_pot, F_law_pot⟩ := c.t.d.def_ 16 (d := d_law_pot) rfl
  obtain ⟨fd_law_take, F_law_take⟩ := c.t.d.def_ 17 (d := d_law_take) rfl
  obtain ⟨fd_law_of, F_law_of⟩ := c.t.d.def_ 18 (d := d_law_of) rfl
  obtain ⟨fd_law_cells, F_law_cells⟩ := c.t.d.def_ 19 (d := d_law_cells) rfl
  obtain ⟨fd_law_heard, F_law_heard⟩ := c.t.d.def_ 20 (d := d_law_heard) rfl
  obtain ⟨fd_law_odd, F_law_odd⟩ := c.t.d.def_ 21 (d := d_law_odd) rfl
  obtain ⟨fd_law_is_int, F_law_is_int⟩ := c.t.d.def_ 22 (d := d_law_is_int) rfl
  obtain ⟨fd_law_bent, F_law_bent⟩ := c.t.d.def_ 23 (d := d_law_bent) rfl
  obtain ⟨fd_law_is_bool, F_law_is_bool⟩ := c.t.d.def_ 24 (d := d_law_is_bool) rfl
  obtain ⟨fd_law_all_refused, F_law_all_refused⟩ := c.t.d.def_ 25 (d := d_law_all_refused) rfl
  obtain ⟨fd_law_gcd, F_law_gcd⟩ := c.t.d.def_ 26 (d := d_law_gcd) rfl
  obtain ⟨fd_law_low, F_law_low⟩ := c.t.d.def_ 27 (d := d_law_low) rfl
  obtain ⟨fd_law_less, F_law_less⟩ := c.t.d.def_ 28 (d := d_law_less) rfl
  obtain ⟨fd_law_soonest, F_law_soonest⟩ := c.t.d.def_ 29 (d := d_law_soonest) rfl
  obtain ⟨fd_law_is_tick, F_law_is_tick⟩ := c.t.d.def_ 30 (d := d_law_is_tick) rfl
  obtain ⟨fd_law_are_pieces, F_law_are_pieces⟩ := c.t.d.def_ 31 (d := d_law_are_pieces) rfl
  obtain ⟨fd_law_is_right, F_law_is_right⟩ := c.t.d.def_ 32 (d := d_law_is_right) rfl
  obtain ⟨fd_law_right, F_law_right⟩ := c.t.d.def_ 33 (d := d_law_right) rfl
  obtain ⟨t_FOUR, e_FOUR⟩ := He.int_ok X G (c.t.d.fact 56 (f := .int "FOUR" 4) rfl)
  obtain ⟨t_MOST_JOBS, e_MOST_JOBS⟩ := He.int_ok X G (c.t.d.fact 57 (f := .int "MOST_JOBS" 24) rfl)
  obtain ⟨t_MOST_PIECES, e_MOST_PIECES⟩ := He.int_ok X G (c.t.d.fact 58 (f := .int "MOST_PIECES" 100) rfl)
  obtain ⟨t_MOST_PRESSES, e_MOST_PRESSES⟩ := He.int_ok X G (c.t.d.fact 59 (f := .int "MOST_PRESSES" 12) rfl)
  obtain ⟨t_MOST_TIME, e_MOST_TIME⟩ := He.int_ok X G (c.t.d.fact 60 (f := .int "MOST_TIME" 1000000000000) rfl)
  obtain ⟨t_THREE, e_THREE⟩ := He.int_ok X G (c.t.d.fact 61 (f := .int "THREE" 3) rfl)
  have hP_law_right : (He.cT K ("_law_right", none)).2 = 279 := Nat.eq_of_beq_eq_true z.1
  have hsup : mg "super" = none := He.free_ok X G (c.t.d.fact 54 (f := .free "super") rfl)
  obtain ⟨ini, hip, hid, hiK, tI⟩ := ini_of c ci hsup hq
  exact ⟨{
    a_is_int := He.ga K "is_int"
    fd_is_int := fd_is_int
    F_is_int := fun_of F_is_int
    b_is_int := Fun.binds (x := "is_int") (qual := "is_int") (st := s_is_int) (fd := fd_is_int) (fun_of F_is_int) fun _ _ _ _ _ _ us hl => match us, hl with | [_, _, _], _ => rfl
    m_is_int := He.glo_ok X G (c.t.d.fact 0 (f := .glo "is_int") rfl)
    a_is_whole := He.ga K "is_whole"
    fd_is_whole := fd_is_whole
    F_is_whole := fun_of F_is_whole
    b_is_whole := Fun.binds (x := "is_whole") (qual := "is_whole") (st := s_is_whole) (fd := fd_is_whole) (fun_of F_is_whole) fun _ _ _ _ _ _ us hl => match us, hl with | [_], _ => rfl
    m_is_whole := He.glo_ok X G (c.t.d.fact 1 (f := .glo "is_whole") rfl)
    a_are_ints := He.ga K "are_ints"
    fd_are_ints := fd_are_ints
    F_are_ints := fun_of F_are_ints
    b_are_ints := Fun.binds (x := "are_ints") (qual := "are_ints") (st := s_are_ints) (fd := fd_are_ints) (fun_of F_are_ints) fun _ _ _ _ _ _ us hl => match us, hl with | [_, _, _], _ => rfl
    m_are_ints := He.glo_ok X G (c.t.d.fact 2 (f := .glo "are_ints") rfl)
    a_common_int := He.ga K "common_int"
    fd_common_int := fd_common_int
    F_common_int := fun_of F_common_int
    b_common_int := Fun.binds (x := "common_int") (qual := "common_int") (st := s_common_int) (fd := fd_common_int) (fun_of F_common_int) fun _ _ _ _ _ _ us hl => match us, hl with | [_, _], _ => rfl
    m_common_int := He.glo_ok X G (c.t.d.fact 3 (f := .glo "common_int") rfl)
    a_lowest := He.ga K "lowest"
    fd_lowest := fd_lowest
    F_lowest := fun_of F_lowest
    b_lowest := Fun.binds (x := "lowest") (qual := "lowest") (st := s_lowest) (fd := fd_lowest) (fun_of F_lowest) fun _ _ _ _ _ _ us hl => match us, hl with | [_, _], _ => rfl
    m_lowest := He.glo_ok X G (c.t.d.fact 4 (f := .glo "lowest") rfl)
    a_plus := He.ga K "plus"
    fd_plus := fd_plus
    F_plus := fun_of F_plus
    b_plus := Fun.binds (x := "plus") (qual := "plus") (st := s_plus) (fd := fd_plus) (fun_of F_plus) fun _ _ _ _ _ _ us hl => match us, hl with | [_, _], _ => rfl
    m_plus := He.glo_ok X G (c.t.d.fact 5 (f := .glo "plus") rfl)
    a_is_below := He.ga K "is_below"
    fd_is_below := fd_is_below
    F_is_below := fun_of F_is_below
    b_is_below := Fun.binds (x := "is_below") (qual := "is_below") (st := s_is_below) (fd := fd_is_below) (fun_of F_is_below) fun _ _ _ _ _ _ us hl => match us, hl with | [_, _], _ => rfl
    m_is_below := He.glo_ok X G (c.t.d.fact 6 (f := .glo "is_below") rfl)
    a_is_tick := He.ga K "is_tick"
    fd_is_tick := fd_is_tick
    F_is_tick := fun_of F_is_tick
    b_is_tick := Fun.binds (x := "is_tick") (qual := "is_tick") (st := s_is_tick) (fd := fd_is_tick) (fun_of F_is_tick) fun _ _ _ _ _ _ us hl => match us, hl with | [_], _ => rfl
    m_is_tick := He.glo_ok X G (c.t.d.fact 7 (f := .glo "is_tick") rfl)
    a_look_at_times := He.ga K "look_at_times"
    fd_look_at_times := fd_look_at_times
    F_look_at_times := fun_of F_look_at_times
    b_look_at_times := Fun.binds (x := "look_at_times") (qual := "look_at_times") (st := s_look_at_times) (fd := fd_look_at_times) (fun_of F_look_at_times) fun _ _ _ _ _ _ us hl => match us, hl with | [_, _], _ => rfl
    m_look_at_times := He.glo_ok X G (c.t.d.fact 8 (f := .glo "look_at_times") rfl)
    a_told_soonest := He.ga K "told_soonest"
    fd_told_soonest := fd_told_soonest
    F_told_soonest := fun_of F_told_soonest
    b_told_soonest := Fun.binds (x := "told_soonest") (qual := "told_soonest") (st := s_told_soonest) (fd := fd_told_soonest) (fun_of F_told_soonest) fun _ _ _ _ _ _ us hl => match us, hl with | [_, _], _ => rfl
    m_told_soonest := He.glo_ok X G (c.t.d.fact 9 (f := .glo "told_soonest") rfl)
    a_soonest := He.ga K "soonest"
    fd_soonest := fd_soonest
    F_soonest := fun_of F_soonest
    b_soonest := Fun.binds (x := "soonest") (qual := "soonest") (st := s_soonest) (fd := fd_soonest) (fun_of F_soonest) fun _ _ _ _ _ _ us hl => match us, hl with | [_, _], _ => rfl
    m_soonest := He.glo_ok X G (c.t.d.fact 10 (f := .glo "soonest") rfl)
    a_parted := He.ga K "parted"
    fd_parted := fd_parted
    F_parted := fun_of F_parted
    b_parted := Fun.binds (x := "parted") (qual := "parted") (st := s_parted) (fd := fd_parted) (fun_of F_parted) fun _ _ _ _ _ _ us hl => match us, hl with | [_, _], _ => rfl
    m_parted := He.glo_ok X G (c.t.d.fact 11 (f := .glo "parted") rfl)
    a_is_piece := He.ga K "is_piece"
    fd_is_piece := fd_is_piece
    F_is_piece := fun_of F_is_piece
    b_is_piece := Fun.binds (x := "is_piece") (qual := "is_piece") (st := s_is_piece) (fd := fd_is_piece) (fun_of F_is_piece) fun _ _ _ _ _ _ us hl => match us, hl with | [_, _, _], _ => rfl
    m_is_piece := He.glo_ok X G (c.t.d.fact 12 (f := .glo "is_piece") rfl)
    a_do_meet := He.ga K "do_meet"
    fd_do_meet := fd_do_meet
    F_do_meet := fun_of F_do_meet
    b_do_meet := Fun.binds (x := "do_meet") (qual := "do_meet") (st := s_do_meet) (fd := fd_do_meet) (fun_of F_do_meet) fun _ _ _ _ _ _ us hl => match us, hl with | [_, _], _ => rfl
    m_do_meet := He.glo_ok X G (c.t.d.fact 13 (f := .glo "do_meet") rfl)
    a_shows_parted := He.ga K "shows_parted"
    fd_shows_parted := fd_shows_parted
    F_shows_parted := fun_of F_shows_parted
    b_shows_parted := Fun.binds (x := "shows_parted") (qual := "shows_parted") (st := s_shows_parted) (fd := fd_shows_parted) (fun_of F_shows_parted) fun _ _ _ _ _ _ us hl => match us, hl with | [_, _, _], _ => rfl
    m_shows_parted := He.glo_ok X G (c.t.d.fact 14 (f := .glo "shows_parted") rfl)
    a_presses_for := He.ga K "presses_for"
    fd_presses_for := fd_presses_for
    F_presses_for := fun_of F_presses_for
    b_presses_for := Fun.binds (x := "presses_for") (qual := "presses_for") (st := s_presses_for) (fd := fd_presses_for) (fun_of F_presses_for) fun _ _ _ _ _ _ us hl => match us, hl with | [_, _], _ => rfl
    m_presses_for := He.glo_ok X G (c.t.d.fact 15 (f := .glo "presses_for") rfl)
    a_law_pot := He.ga K "_law_pot"
    fd_law_pot := fd_law_pot
    F_law_pot := fun_of F_law_pot
    b_law_pot := Fun.binds (x := "_law_pot") (qual := "_law_pot") (st := s_law_pot) (fd := fd_law_pot) (fun_of F_law_pot) fun _ _ _ _ _ _ us hl => match us, hl with | [_, _], _ => rfl
    m_law_pot := He.glo_ok X G (c.t.d.fact 16 (f := .glo "_law_pot") rfl)
    a_law_take := He.ga K "_law_take"
    fd_law_take := fd_law_take
    F_law_take := fun_of F_law_take
    b_law_take := Fun.binds (x := "_law_take") (qual := "_law_take") (st := s_law_take) (fd := fd_law_take) (fun_of F_law_take) fun _ _ _ _ _ _ us hl => match us, hl with | [_, _], _ => rfl
    m_law_take := He.glo_ok X G (c.t.d.fact 17 (f := .glo "_law_take") rfl)
    a_law_of := He.ga K "_law_of"
    fd_law_of := fd_law_of
    F_law_of := fun_of F_law_of
    b_law_of := Fun.binds (x := "_law_of") (qual := "_law_of") (st := s_law_of) (fd := fd_law_of) (fun_of F_law_of) fun _ _ _ _ _ _ us hl => match us, hl with | [_, _], _ => rfl
    m_law_of := He.glo_ok X G (c.t.d.fact 18 (f := .glo "_law_of") rfl)
    a_law_cells := He.ga K "_law_cells"
    fd_law_cells := fd_law_cells
    F_law_cells := fun_of F_law_cells
    b_law_cells := Fun.binds (x := "_law_cells") (qual := "_law_cells") (st := s_law_cells) (fd := fd_law_cells) (fun_of F_law_cells) fun _ _ _ _ _ _ us hl => match us, hl with | [_, _], _ => rfl
    m_law_cells := He.glo_ok X G (c.t.d.fact 19 (f := .glo "_law_cells") rfl)
    a_law_heard := He.ga K "_law_heard"
    fd_law_heard := fd_law_heard
    F_law_heard := fun_of F_law_heard
    b_law_heard := Fun.binds (x := "_law_heard") (qual := "_law_heard") (st := s_law_heard) (fd := fd_law_heard) (fun_of F_law_heard) fun _ _ _ _ _ _ us hl => match us, hl with | [_], _ => rfl
    m_law_heard := He.glo_ok X G (c.t.d.fact 20 (f := .glo "_law_heard") rfl)
    a_law_odd := He.ga K "_law_odd"
    fd_law_odd := fd_law_odd
    F_law_odd := fun_of F_law_odd
    b_law_odd := Fun.binds (x := "_law_odd") (qual := "_law_odd") (st := s_law_odd) (fd := fd_law_odd) (fun_of F_law_odd) fun _ _ _ _ _ _ us hl => match us, hl with | [_], _ => rfl
    m_law_odd := He.glo_ok X G (c.t.d.fact 21 (f := .glo "_law_odd") rfl)
    a_law_is_int := He.ga K "_law_is_int"
    fd_law_is_int := fd_law_is_int
    F_law_is_int := fun_of F_law_is_int
    b_law_is_int := Fun.binds (x := "_law_is_int") (qual := "_law_is_int") (st := s_law_is_int) (fd := fd_law_is_int) (fun_of F_law_is_int) fun _ _ _ _ _ _ us hl => match us, hl with | [_, _, _], _ => rfl
    m_law_is_int := He.glo_ok X G (c.t.d.fact 22 (f := .glo "_law_is_int") rfl)
    a_law_bent := He.ga K "_law_bent"
    fd_law_bent := fd_law_bent
    F_law_bent := fun_of F_law_bent
    b_law_bent := Fun.binds (x := "_law_bent") (qual := "_law_bent") (st := s_law_bent) (fd := fd_law_bent) (fun_of F_law_bent) fun _ _ _ _ _ _ us hl => match us, hl with | [_, _], _ => rfl
    m_law_bent := He.glo_ok X G (c.t.d.fact 23 (f := .glo "_law_bent") rfl)
    a_law_is_bool := He.ga K "_law_is_bool"
    fd_law_is_bool := fd_law_is_bool
    F_law_is_bool := fun_of F_law_is_bool
    b_law_is_bool := Fun.binds (x := "_law_is_bool") (qual := "_law_is_bool") (st := s_law_is_bool) (fd := fd_law_is_bool) (fun_of F_law_is_bool) fun _ _ _ _ _ _ us hl => match us, hl with | [_, _], _ => rfl
    m_law_is_bool := He.glo_ok X G (c.t.d.fact 24 (f := .glo "_law_is_bool") rfl)
    a_law_all_refused := He.ga K "_law_all_refused"
    fd_law_all_refused := fd_law_all_refused
    F_law_all_refused := fun_of F_law_all_refused
    b_law_all_refused := Fun.binds (x := "_law_all_refused") (qual := "_law_all_refused") (st := s_law_all_refused) (fd := fd_law_all_refused) (fun_of F_law_all_refused) fun _ _ _ _ _ _ us hl => match us, hl with | [_, _, _], _ => rfl
    m_law_all_refused := He.glo_ok X G (c.t.d.fact 25 (f := .glo "_law_all_refused") rfl)
    a_law_gcd := He.ga K "_law_gcd"
    fd_law_gcd := fd_law_gcd
    F_law_gcd := fun_of F_law_gcd
    b_law_gcd := Fun.binds (x := "_law_gcd") (qual := "_law_gcd") (st := s_law_gcd) (fd := fd_law_gcd) (fun_of F_law_gcd) fun _ _ _ _ _ _ us hl => match us, hl with | [_, _], _ => rfl
    m_law_gcd := He.glo_ok X G (c.t.d.fact 26 (f := .glo "_law_gcd") rfl)
    a_law_low := He.ga K "_law_low"
    fd_law_low := fd_law_low
    F_law_low := fun_of F_law_low
    b_law_low := Fun.binds (x := "_law_low") (qual := "_law_low") (st := s_law_low) (fd := fd_law_low) (fun_of F_law_low) fun _ _ _ _ _ _ us hl => match us, hl with | [_, _], _ => rfl
    m_law_low := He.glo_ok X G (c.t.d.fact 27 (f := .glo "_law_low") rfl)
    a_law_less := He.ga K "_law_less"
    fd_law_less := fd_law_less
    F_law_less := fun_of F_law_less
    b_law_less := Fun.binds (x := "_law_less") (qual := "_law_less") (st := s_law_less) (fd := fd_law_less) (fun_of F_law_less) fun _ _ _ _ _ _ us hl => match us, hl with | [_, _], _ => rfl
    m_law_less := He.glo_ok X G (c.t.d.fact 28 (f := .glo "_law_less") rfl)
    a_law_soonest := He.ga K "_law_soonest"
    fd_law_soonest := fd_law_soonest
    F_law_soonest := fun_of F_law_soonest
    b_law_soonest := Fun.binds (x := "_law_soonest") (qual := "_law_soonest") (st := s_law_soonest) (fd := fd_law_soonest) (fun_of F_law_soonest) fun _ _ _ _ _ _ us hl => match us, hl with | [_, _], _ => rfl
    m_law_soonest := He.glo_ok X G (c.t.d.fact 29 (f := .glo "_law_soonest") rfl)
    a_law_is_tick := He.ga K "_law_is_tick"
    fd_law_is_tick := fd_law_is_tick
    F_law_is_tick := fun_of F_law_is_tick
    b_law_is_tick := Fun.binds (x := "_law_is_tick") (qual := "_law_is_tick") (st := s_law_is_tick) (fd := fd_law_is_tick) (fun_of F_law_is_tick) fun _ _ _ _ _ _ us hl => match us, hl with | [_], _ => rfl
    m_law_is_tick := He.glo_ok X G (c.t.d.fact 30 (f := .glo "_law_is_tick") rfl)
    a_law_are_pieces := He.ga K "_law_are_pieces"
    fd_law_are_pieces := fd_law_are_pieces
    F_law_are_pieces := fun_of F_law_are_pieces
    b_law_are_pieces := Fun.binds (x := "_law_are_pieces") (qual := "_law_are_pieces") (st := s_law_are_pieces) (fd := fd_law_are_pieces) (fun_of F_law_are_pieces) fun _ _ _ _ _ _ us hl => match us, hl with | [_, _, _], _ => rfl
    m_law_are_pieces := He.glo_ok X G (c.t.d.fact 31 (f := .glo "_law_are_pieces") rfl)
    a_law_is_right := He.ga K "_law_is_right"
    fd_law_is_right := fd_law_is_right
    F_law_is_right := fun_of F_law_is_right
    b_law_is_right := Fun.binds (x := "_law_is_right") (qual := "_law_is_right") (st := s_law_is_right) (fd := fd_law_is_right) (fun_of F_law_is_right) fun _ _ _ _ _ _ us hl => match us, hl with | [_, _, _], _ => rfl
    m_law_is_right := He.glo_ok X G (c.t.d.fact 32 (f := .glo "_law_is_right") rfl)
    a_law_right := He.ga K "_law_right"
    fd_law_right := fd_law_right
    F_law_right := fun_of F_law_right
    b_law_right := Fun.binds (x := "_law_right") (qual := "_law_right") (st := s_law_right) (fd := fd_law_right) (fun_of F_law_right) fun _ _ _ _ _ _ us hl => match us, hl with | [_], _ => rfl
    m_law_right := He.glo_ok X G (c.t.d.fact 33 (f := .glo "_law_right") rfl)
    c_law_right := (He.cT K ("_law_right", none)).1
    P_law_right := (He.cT K ("_law_right", none)).2
    co_law_right := code_of F_law_right
    tb_law_right := tb (He.cT K ("_law_right", none)) (List.mem_map.mpr ⟨_, by simp [tfs], rfl⟩)
    in_law_right := by rw [hP_law_right]; exact List.mem_cons_self
    un_law_right := by rw [hP_law_right]; simp [tabs0]
    a_law := He.ga K "law"
    fd_law := fd_law
    F_law := fun_of F_law
    b_law := Fun.binds (x := "law") (qual := "law") (st := s_law) (fd := fd_law) (fun_of F_law) fun _ _ _ _ _ _ us hl => match us, hl with | [_], _ => rfl
    m_law := He.glo_ok X G (c.t.d.fact 34 (f := .glo "law") rfl)
    z_ValueError := He.free_ok X G (c.t.d.fact 38 (f := .free "ValueError") rfl)
    z_abs := He.free_ok X G (c.t.d.fact 39 (f := .free "abs") rfl)
    z_all := He.free_ok X G (c.t.d.fact 40 (f := .free "all") rfl)
    z_bool := He.free_ok X G (c.t.d.fact 41 (f := .free "bool") rfl)
    z_enumerate := He.free_ok X G (c.t.d.fact 42 (f := .free "enumerate") rfl)
    z_int := He.free_ok X G (c.t.d.fact 43 (f := .free "int") rfl)
    z_isinstance := He.free_ok X G (c.t.d.fact 44 (f := .free "isinstance") rfl)
    z_len := He.free_ok X G (c.t.d.fact 45 (f := .free "len") rfl)
    z_list := He.free_ok X G (c.t.d.fact 46 (f := .free "list") rfl)
    z_max := He.free_ok X G (c.t.d.fact 47 (f := .free "max") rfl)
    z_min := He.free_ok X G (c.t.d.fact 48 (f := .free "min") rfl)
    z_range := He.free_ok X G (c.t.d.fact 49 (f := .free "range") rfl)
    z_repr := He.free_ok X G (c.t.d.fact 50 (f := .free "repr") rfl)
    z_sorted := He.free_ok X G (c.t.d.fact 51 (f := .free "sorted") rfl)
    z_str := He.free_ok X G (c.t.d.fact 52 (f := .free "str") rfl)
    z_sum := He.free_ok X G (c.t.d.fact 53 (f := .free "sum") rfl)
    z_tuple := He.free_ok X G (c.t.d.fact 55 (f := .free "tuple") rfl)
    t_FOUR := t_FOUR
    c_FOUR := e_FOUR
    t_MOST_JOBS := t_MOST_JOBS
    c_MOST_JOBS := e_MOST_JOBS
    t_MOST_PIECES := t_MOST_PIECES
    c_MOST_PIECES := e_MOST_PIECES
    t_MOST_PRESSES := t_MOST_PRESSES
    c_MOST_PRESSES := e_MOST_PRESSES
    t_MOST_TIME := t_MOST_TIME
    c_MOST_TIME := e_MOST_TIME
    t_THREE := t_THREE
    c_THREE := e_THREE
    g_BindError := He.glo_ok X G (c.t.d.fact 35 (f := .glo "BindError") rfl)
    ini := ini
    k2 := by rw [hiK]; exact hk2
    bI := Binds.all fun us hl => match us, hl with | [_, _], _ => (by unfold InitH.fn; rw [hip, hid]; rfl)
    tI := tI
    e_BadJobs := err1_ok z.2.1 (He.glo_ok X G (c.t.d.fact 36 (f := .glo "BadJobs") rfl))
    e_BadInt := err1_ok z.2.2.1 (He.glo_ok X G (c.t.d.fact 37 (f := .glo "BadInt") rfl))
    k_parted_presses := Fun.kw (x := "parted") (qual := "parted") (st := s_parted) (fun_of F_parted) fun _ _ _ _ _ _ us ws h1 h2 => match ws, h2, h1 with | [_], _, h1 => match us, (Nat.add_right_cancel (show us.length + 1 = 1 + 1 from h1) : us.length = 1) with | [_], _ => rfl
    k_presses_for_tick := Fun.kw (x := "presses_for") (qual := "presses_for") (st := s_presses_for) (fun_of F_presses_for) fun _ _ _ _ _ _ us ws h1 h2 => match ws, h2, h1 with | [_], _, h1 => match us, (Nat.add_right_cancel (show us.length + 1 = 1 + 1 from h1) : us.length = 1) with | [_], _ => rfl
    k_shows_parted_value := Fun.kw (x := "shows_parted") (qual := "shows_parted") (st := s_shows_parted) (fun_of F_shows_parted) fun _ _ _ _ _ _ us ws h1 h2 => match ws, h2, h1 with | [_], _, h1 => match us, (Nat.add_right_cancel (show us.length + 1 = 2 + 1 from h1) : us.length = 2) with | [_, _], _ => rfl
    k_soonest_presses := Fun.kw (x := "soonest") (qual := "soonest") (st := s_soonest) (fun_of F_soonest) fun _ _ _ _ _ _ us ws h1 h2 => match ws, h2, h1 with | [_], _, h1 => match us, (Nat.add_right_cancel (show us.length + 1 = 1 + 1 from h1) : us.length = 1) with | [_], _ => rfl }, rfl, rfl⟩
theorem tabs_at {w : World} {K : PySem.W.Frag} {h : Heap} {H : Hp} (c : He.SaysX fas fns [] tfs exs w h K) (hH : ∀ p ∈ tfs.map (He.cT K), H p.2 = some (.tbl #[])) : LamX.Tabs tabs0 H := fun p hp => by
  have z := exs_all c.more
  rcases List.mem_cons.mp hp with rfl | hp
  · exact LamX.TabS.nil (by have y := hH (He.cT K ("_law_right", none)) (List.mem_map.mpr ⟨_, by simp [tfs], rfl⟩); rw [Nat.eq_of_beq_eq_true z.1] at y; exact y)
  exact absurd hp List.not_mem_nil
theorem law_at {w : World} {K : PySem.W.Frag} {h : Heap} {mg : Str → Option Value} {fa : Addr} (X : K.In h) (G : h.Ns mainGlobals mg) (hfa : mg ("law" : Str) = some (.ref fa)) (c : He.SaysX fas fns [] tfs exs w h K) (ci : He.fnW K atI = iniV) (op : Opq h) : LawG PySem.Challenge.rw_foldedandsewn_k67_whole_presses_side_by w K L2.CX0 13 63 "script" mg fa h := by
  obtain ⟨fd, F⟩ := c.t.d.def_ 34 (d := d_law) rfl
  have e := hfa.symm.trans (He.glo_ok X G (c.t.d.fact 34 (f := .glo "law") rfl))
  cases e
  obtain ⟨K2, q1, q2, hq⟩ := op
  refine ⟨fd, tfs.map (He.cT K), spM K 1 m_law, fun p hp => ?_, fun p hp => ?_, fun p hp => ?_, fun s v => (FunD.bindsA (ps := ["script"]) F fun _ _ _ _ _ _ us hl => match us, hl with | [_], _ => rfl) s [v] rfl, fun H a ns hl hb hH hS => law_sp (tabs_at c hH) hS (S_law ns hl hb), K2, q1, q2, fun base hK hN tb hk2 => ?_⟩
  · obtain ⟨d, hd, rfl⟩ := List.mem_map.mp hp
    exact c.empty d hd
  · obtain ⟨d, hd, rfl⟩ := List.mem_map.mp hp
    exact c.out d hd
  · obtain ⟨d, hd, rfl⟩ := List.mem_map.mp hp
    exact PySem.W.codeHd_of_K X (c.hd d hd)
  · obtain ⟨T, e1, e2⟩ := top_of hK hN c ci hq hk2 tb F
    have z := ok_law (w := w) T
    rw [e1, e2] at z
    exact z
end Law67
open PySem PySem.W PySem.Calls PyProof.Rows
set_option maxHeartbeats 0 in
theorem PySem.Challenge.cw_foldedandsewn_k67_whole_presses_side_by_holds : PySem.Challenge.rw_foldedandsewn_k67_whole_presses_side_by.Holds := by
  w_on; o_law
  refine HandSHeadRun.head_any (r := OpenLaw.row PySem.Challenge.rw_foldedandsewn_k67_whole_presses_side_by) (q := view (OpenLaw.row PySem.Challenge.rw_foldedandsewn_k67_whole_presses_side_by).prog [47]) (H := Law67.hk) (ob := Law67.ob) (M := 3000) (loose := Law67.looseN) (d := HandSHeadRun.topDef (OpenLaw.row PySem.Challenge.rw_foldedandsewn_k67_whole_presses_side_by).prog 47) (kwd := []) Law67.ob_eq
    (by kernel_rfl) (fun s => by kernel_rfl) Law67.run (by kernel_rfl) (by kernel_rfl) (by kernel_rfl) (by rfl) (by first | assumption | decide +kernel) (by decide +kernel) ⟨rfl, rfl, rfl, rfl, rfl, by decide +kernel⟩ ?hw ?hc
  case hw => w_witness2
  case hc =>
    refine L3.walk_G (l := PySem.Challenge.rw_foldedandsewn_k67_whole_presses_side_by) (n := 63) (k := 13) (x := "script") (CX := fun _ => L2.CX0) rfl (by decide) (by kernel_rfl) ⟨rfl, by decide, by decide⟩ ?F (fun _ _ _ _ _ z => z)
    intro w mg fa h Y G hmg0
    obtain ⟨K, KX, c, ci, op⟩ := Y
    have hmg : mg ("law" : PySem.Str) = some (.ref fa) := by
      have e : (HandSHeadRun.topDef (OpenLaw.row PySem.Challenge.rw_foldedandsewn_k67_whole_presses_side_by).prog 47).name = ("law" : PySem.Str) := by kernel_rfl
      rw [← e]
      exact hmg0
    exact ⟨K, KX, Law67.law_at KX G hmg c ci op⟩

