import PyProof.Rows.All
import Wide.All
import OpenK.AllK
import Wide.FinOn
import HandS.ForMost
import HandS.ForExc
import HandS.Evl
import HandS.IsInst
import HandS.CallSlots
import KE.KDictDisplayH
import HandS.SetKeys
import KE.GoesMore
import HandS.ExcIs
import PySem.Challenge.RW_fromyesalone_k01_parting_words
set_option Elab.async false
set_option linter.all false
set_option maxRecDepth 100000
set_option maxHeartbeats 4000000
set_option autoImplicit false
/-! Core: Python data without a heap, environments, predicate transformers over them. Plain Lean. -/
namespace Y
abbrev Tx := List Nat
abbrev DK := Sum Int Tx
/-- frozen data -/
inductive D where
  | non | bl (b : Bool) | int (i : Int) | str (s : Tx)
  | tup (xs : List D) | lst (xs : List D)
  | dic (kvs : List (DK × D)) | dit (kvs : List (List DK × D))
  | ins (C : String) (fs : List (String × D))
/-- an object that one name holds alone -/
inductive MO where
  | lst (xs : List D) | dic (kvs : List (DK × D)) | dit (kvs : List (List DK × D)) | ins (C : String) (fs : List (String × D))
def MO.data : MO → D
  | .lst xs => .lst xs | .dic k => .dic k | .dit k => .dit k | .ins C fs => .ins C fs
/-- an exception of an own class -/
structure Exn where
  cls : String
  fs : List (String × D)
/-- what a name holds -/
inductive B where
  | d (x : D) | own (m : MO) | st | exn (e : Exn) | rows (xs : List (List D))
/-- what an expression gives -/
inductive T where
  | d (x : D) | own (m : MO) | brw (i : Nat) | st | exn (e : Exn)
abbrev En := List (Option B)
abbrev XC := Exn → En → Prop
abbrev DE := En → XC → (T → En → Prop) → Prop
abbrev DT := En → XC → (Bool → En → Prop) → Prop
abbrev DA := En → XC → (List T → En → Prop) → Prop
abbrev DI := En → XC → (List D → En → Prop) → Prop
structure DEnds where
  nx : En → Prop
  rt : T → Prop
  bk : En → Prop
  ct : En → Prop
  ex : XC
abbrev DS := DEnds → En → Prop
abbrev DG := D → En → (En → Prop) → Prop
abbrev FSem := List T → (Exn → Prop) → (T → Prop) → Prop

def SZ : Nat := 16777216
/-- the value, looked at -/
def look (t : T) (ρ : En) (k : D → Prop) : Prop := match t with
  | .d x => k x
  | .own m => k m.data
  | .brw i => match ρ[i]? with
    | some (some (.own m)) => k m.data
    | some (some (.d x)) => k x
    | _ => False
  | .st => False
  | .exn _ => False
/-- the value, handed on: what one name held alone is frozen -/
def esc (t : T) (ρ : En) (k : D → En → Prop) : Prop := match t with
  | .d x => k x ρ
  | .own m => k m.data ρ
  | .brw i => match ρ[i]? with
    | some (some (.own m)) => k m.data (ρ.set i (some (.d m.data)))
    | some (some (.d x)) => k x ρ
    | _ => False
  | .st => False
  | .exn _ => False
/-- an argument: data, or the law's state -/
def arg (t : T) (ρ : En) (k : T → En → Prop) : Prop := match t with
  | .st => k .st ρ
  | .exn _ => False
  | .d x => k (.d x) ρ
  | .own m => k (.d m.data) ρ
  | .brw i => match ρ[i]? with
    | some (some (.own m)) => k (.d m.data) (ρ.set i (some (.d m.data)))
    | some (some (.d x)) => k (.d x) ρ
    | _ => False

/-! ### expressions -/
def dVar (i : Nat) : DE := fun ρ _ Q => match ρ[i]? with
  | some (some (.d x)) => Q (.d x) ρ
  | some (some (.own _)) => Q (.brw i) ρ
  | some (some .st) => Q .st ρ
  | some (some (.exn e)) => Q (.exn e) ρ
  | _ => False
def dC (x : D) : DE := fun ρ _ Q => Q (.d x) ρ
abbrev Op2 := D → D → (T → Prop) → Prop
def dBin (f : Op2) (a b : DE) : DE := fun ρ x Q => a ρ x fun s ρ1 => b ρ1 x fun t ρ2 => look s ρ2 fun u => look t ρ2 fun v => f u v fun r => Q r ρ2
abbrev Op1 := D → (T → Prop) → Prop
def dUn (f : Op1) (a : DE) : DE := fun ρ x Q => a ρ x fun s ρ1 => look s ρ1 fun u => f u fun r => Q r ρ1
def iv (i : Int) : T := .d (.int i)
def bv (b : Bool) : T := .d (.bl b)
def sv (s : Tx) : T := .d (.str s)
/-- + : numbers, texts, lists, tuples -/
def oAdd : Op2 := fun u v k => match u, v with
  | .int i, .int j => k (iv (i + j))
  | .str s, .str t => s.length + t.length ≤ SZ ∧ k (sv (s ++ t))
  | .lst xs, .lst ys => (xs.length ≤ SZ ∧ ys.length ≤ SZ ∧ xs.length + ys.length ≤ SZ) ∧ k (.own (.lst (xs ++ ys)))
  | _, _ => False
def oSub : Op2 := fun u v k => match u, v with
  | .int i, .int j => k (iv (i - j))
  | _, _ => False
def small64 (i : Int) : Prop := -(2 ^ 64) < i ∧ i < 2 ^ 64
def oMul : Op2 := fun u v k => match u, v with
  | .int i, .int j => (small64 i ∨ small64 j) ∧ k (iv (i * j))
  | _, _ => False
/-- // by a divisor above 0 -/
def oDiv : Op2 := fun u v k => match u, v with
  | .int i, .int j => (0 < j ∧ j < 1073741824) ∧ k (iv (i / j))
  | _, _ => False
def oMod : Op2 := fun u v k => match u, v with
  | .int i, .int j => 0 < j ∧ k (iv (i % j))
  | _, _ => False
def oPow : Op2 := fun u v k => match u, v with
  | .int i, .int j => (0 ≤ j ∧ j ≤ 1000000 ∧ i.natAbs < 2 ^ 64) ∧ k (iv (i ^ j.toNat))
  | _, _ => False
def oNeg : Op1 := fun u k => match u with
  | .int i => k (iv (-i))
  | _ => False
/-! comparisons -/
def txOk (s : Tx) : Bool := s.all fun c => decide (c < 1114112)
mutual
def D.plain : Nat → D → Bool
  | _, .non => true | _, .bl _ => true | _, .int _ => true | _, .str s => txOk s
  | n + 1, .tup xs => D.plainAll n xs
  | n + 1, .lst xs => D.plainAll n xs
  | _, _ => false
def D.plainAll : Nat → List D → Bool
  | _, [] => true
  | n, x :: xs => D.plain n x && D.plainAll n xs
end
mutual
def D.eqv : D → D → Bool
  | .non, .non => true
  | .bl a, .bl b => a == b
  | .bl a, .int j => (if a then 1 else 0) == j
  | .int i, .bl b => i == (if b then 1 else 0)
  | .int i, .int j => i == j
  | .str x, .str y => x == y
  | .lst xs, .lst ys => D.eqvAll xs ys
  | .tup xs, .tup ys => D.eqvAll xs ys
  | _, _ => false
def D.eqvAll : List D → List D → Bool
  | [], [] => true
  | x :: xs, y :: ys => D.eqv x y && D.eqvAll xs ys
  | _, _ => false
end
def scalD : D → D → Bool
  | .non, .non => true | .non, .int _ => true | .int _, .non => true | .non, .bl _ => true | .bl _, .non => true | .non, .str _ => true | .str _, .non => true
  | .int _, .int _ => true | .bl _, .bl _ => true | .str _, .str _ => true
  | .int _, .str _ => true | .str _, .int _ => true | .bl _, .str _ => true | .str _, .bl _ => true
  | _, _ => false
def oEq : Op2 := fun u v k => (scalD u v = true ∨ (u.plain 20 = true ∧ v.plain 20 = true)) ∧ k (bv (D.eqv u v))
def oNe : Op2 := fun u v k => (scalD u v = true ∨ (u.plain 20 = true ∧ v.plain 20 = true)) ∧ k (bv (!D.eqv u v))
/-- texts by their signs -/
def txLt : Tx → Tx → Bool
  | [], [] => false
  | [], _ :: _ => true
  | _ :: _, [] => false
  | a :: s, b :: t => decide (a < b) || (a == b && txLt s t)
def oLt : Op2 := fun u v k => match u, v with
  | .int i, .int j => k (bv (decide (i < j)))
  | .str s, .str t => k (bv (txLt s t))
  | _, _ => False
def oGt : Op2 := fun u v k => match u, v with
  | .int i, .int j => k (bv (decide (j < i)))
  | .str s, .str t => k (bv (txLt t s))
  | _, _ => False
def oLe : Op2 := fun u v k => match u, v with
  | .int i, .int j => k (bv (decide (i ≤ j)))
  | .str s, .str t => k (bv (!txLt t s))
  | _, _ => False
def oGe : Op2 := fun u v k => match u, v with
  | .int i, .int j => k (bv (decide (j ≤ i)))
  | .str s, .str t => k (bv (!txLt s t))
  | _, _ => False
def isN : D → Bool
  | .non => true
  | _ => false
def oIsN : Op2 := fun u v k => match v with
  | .non => k (bv (isN u))
  | _ => False
def oNotN : Op2 := fun u v k => match v with
  | .non => k (bv (!isN u))
  | _ => False
def D.flat : D → Bool
  | .non => true | .bl _ => true | .int _ => true | .str _ => true | _ => false
/-- in: a flat thing in a list or tuple of flat things; one sign in a text -/
def oIn (neg : Bool) : Op2 := fun u v k => match v with
  | .lst xs => (u.flat = true ∧ xs.all D.flat = true) ∧ k (bv (xor neg (xs.any fun y => D.eqv y u)))
  | .tup xs => (u.flat = true ∧ xs.all D.flat = true) ∧ k (bv (xor neg (xs.any fun y => D.eqv y u)))
  | .str t => match u with
    | .str [c] => k (bv (xor neg (t.contains c)))
    | _ => False
  | _ => False
/-! places -/
def ixOf (n : Nat) (i : Int) : Option Nat :=
  if 0 ≤ i then (if i < n then some i.toNat else none) else if -(n : Int) ≤ i then some (i + n).toNat else none
def oIx : Op2 := fun u v k => match v with
  | .int i => match u with
    | .lst xs => ∃ j y, ixOf xs.length i = some j ∧ xs[j]? = some y ∧ k (.d y)
    | .tup xs => ∃ j y, ixOf xs.length i = some j ∧ xs[j]? = some y ∧ k (.d y)
    | .str t => t.length ≤ SZ ∧ ∃ j c, ixOf t.length i = some j ∧ t[j]? = some c ∧ k (sv [c])
    | _ => False
  | _ => False
def oLen : Op1 := fun u k => match u with
  | .lst xs => k (iv xs.length)
  | .tup xs => k (iv xs.length)
  | .str t => t.length ≤ SZ ∧ k (iv t.length)
  | _ => False
/-! tests -/
def tB (a : DE) : DT := fun ρ x Q => a ρ x fun t ρ1 => ∃ b, t = bv b ∧ Q b ρ1
def tAnd (a b : DT) : DT := fun ρ x Q => a ρ x fun c ρ1 => if c = true then b ρ1 x Q else Q false ρ1
def tOr (a b : DT) : DT := fun ρ x Q => a ρ x fun c ρ1 => if c = true then Q true ρ1 else b ρ1 x Q
def tNot (a : DT) : DT := fun ρ x Q => a ρ x fun c ρ1 => Q (!c) ρ1
/-- and, or, not as values -/
def dAnd (a b : DE) : DE := fun ρ x Q => a ρ x fun t ρ1 => ∃ c, t = bv c ∧ if c = true then b ρ1 x Q else Q (bv false) ρ1
def dOr (a b : DE) : DE := fun ρ x Q => a ρ x fun t ρ1 => ∃ c, t = bv c ∧ if c = true then Q (bv true) ρ1 else b ρ1 x Q
def dNot (a : DE) : DE := fun ρ x Q => a ρ x fun t ρ1 => ∃ c, t = bv c ∧ Q (bv (!c)) ρ1
def dIf (c : DT) (a b : DE) : DE := fun ρ x Q => c ρ x fun d ρ1 => if d = true then a ρ1 x Q else b ρ1 x Q
/-! arguments and displays -/
def aNil : DA := fun ρ _ Q => Q [] ρ
def aCons (a : DE) (r : DA) : DA := fun ρ x Q => a ρ x fun t ρ1 => arg t ρ1 fun y ρ2 => r ρ2 x fun ys ρ3 => Q (y :: ys) ρ3
def datas : List T → Option (List D)
  | [] => some []
  | .d x :: r => (datas r).map (x :: ·)
  | _ => none
def dTup (a : DA) : DE := fun ρ x Q => a ρ x fun ts ρ1 => ∃ ds, datas ts = some ds ∧ ds.length ≤ SZ ∧ Q (.d (.tup ds)) ρ1
def dLst (a : DA) : DE := fun ρ x Q => a ρ x fun ts ρ1 => ∃ ds, datas ts = some ds ∧ ds.length ≤ SZ ∧ Q (.own (.lst ds)) ρ1
/-- a built-in on data -/
abbrev OpN := List D → (T → Prop) → Prop
def dFn (f : OpN) (a : DA) : DE := fun ρ x Q => a ρ x fun ts ρ1 => ∃ ds, datas ts = some ds ∧ f ds fun r => Q r ρ1
/-- a def of the text -/
def dCall (n : Nat) (s : FSem) (a : DA) : DE := fun ρ x Q => a ρ x fun ts ρ1 => ts.length = n ∧ s ts (fun e => x e ρ1) fun r => Q r ρ1
/-- the law's draw -/
def dNext (a b : DE) : DE := fun ρ x Q => a ρ x fun s ρ1 => s = .st ∧ b ρ1 x fun t ρ2 => ∃ n : Int, t = iv n ∧ (1 ≤ n ∧ n < 1073741824) ∧ ∀ r : Int, 0 ≤ r → r < n → Q (iv r) ρ2

/-! built-ins on data -/
def oListS : Op1 := fun u k => match u with
  | .lst xs => k (.own (.lst xs))
  | .tup xs => k (.own (.lst xs))
  | _ => False
def oList : Op1 := fun u k => match u with
  | .lst xs => k (.own (.lst xs))
  | .tup xs => k (.own (.lst xs))
  | .dic kvs => k (.own (.lst (kvs.map fun p => match p.1 with | .inl i => D.int i | .inr s => D.str s)))
  | _ => False
def oTuple : Op1 := fun u k => match u with
  | .lst xs => k (.d (.tup xs))
  | .tup xs => k (.d (.tup xs))
  | _ => False
def oInt : Op1 := fun u k => match u with
  | .int i => k (iv i)
  | .bl b => k (iv (if b then 1 else 0))
  | _ => False
def oAbs : Op1 := fun u k => match u with
  | .int i => k (iv (if i < 0 then -i else i))
  | _ => False
def oMax2 : Op2 := fun u v k => match u, v with
  | .int i, .int j => k (iv (if j > i then j else i))
  | _, _ => False
def oMin2 : Op2 := fun u v k => match u, v with
  | .int i, .int j => k (iv (if j < i then j else i))
  | _, _ => False
def boolsOf : List D → Option (List Bool)
  | [] => some []
  | .bl b :: r => (boolsOf r).map (b :: ·)
  | _ => none
def intsOf : List D → Option (List Int)
  | [] => some []
  | .int b :: r => (intsOf r).map (b :: ·)
  | _ => none
def oAll : Op1 := fun u k => match u with
  | .lst xs => ∃ bs, boolsOf xs = some bs ∧ k (bv (bs.all id))
  | _ => False
def oAny : Op1 := fun u k => match u with
  | .lst xs => ∃ bs, boolsOf xs = some bs ∧ k (bv (bs.any id))
  | _ => False
def oSum : Op1 := fun u k => match u with
  | .lst xs => ∃ bs, intsOf xs = some bs ∧ k (iv bs.sum)
  | _ => False
def tyName : D → Option String
  | .non => some "NoneType" | .bl _ => some "bool" | .int _ => some "int" | .str _ => some "str" | .tup _ => some "tuple" | .lst _ => some "list"
  | .dic _ => some "dict" | .dit _ => some "dict" | .ins _ _ => none
def isiB (m n : String) : Bool := m == n || (m == "bool" && n == "int")
/-- isinstance of a built-in class -/
def oIsi (n : String) : Op1 := fun u k => ∃ m, tyName u = some m ∧ k (bv (isiB m n))
/-! ### targets, walks -/
def gName (i : Nat) : DG := fun v ρ Q => Q (ρ.set i (some (.d v)))
def gTup (gs : List DG) : DG := fun v ρ Q => match v with
  | .tup vs => vs.length = gs.length ∧ go gs vs ρ Q
  | _ => False
where go : List DG → List D → En → (En → Prop) → Prop
  | [], _, ρ, Q => Q ρ
  | _ :: _, [], _, _ => False
  | g :: gs, v :: vs, ρ, Q => g v ρ fun ρ1 => go gs vs ρ1 Q
def items : D → Option (List D)
  | .lst xs => some xs
  | .tup xs => some xs
  | .str t => some (t.map fun c => .str [c])
  | _ => none
/-- what is walked: a list, a tuple, a text; it is frozen -/
def iOf (a : DE) : DI := fun ρ x Q => a ρ x fun t ρ1 => esc t ρ1 fun v ρ2 => ∃ xs, items v = some xs ∧ Q xs ρ2
def upTo (lo : Int) (n : Nat) : List D := (List.range n).map fun (i : Nat) => D.int (lo + i)
def iRange1 (a : DE) : DI := fun ρ x Q => a ρ x fun t ρ1 => ∃ j : Int, t = iv j ∧ (-(2 ^ 62) ≤ j ∧ j < 2 ^ 62) ∧ Q (upTo 0 j.toNat) ρ1
def iRange2 (a b : DE) : DI := fun ρ x Q => a ρ x fun t ρ1 => b ρ1 x fun u ρ2 => ∃ i j : Int, t = iv i ∧ u = iv j ∧ ((-(2 ^ 62) ≤ i ∧ i < 2 ^ 62) ∧ (-(2 ^ 62) ≤ j ∧ j < 2 ^ 62)) ∧ Q (upTo i (j - i).toNat) ρ2
def numbered (xs : List D) : List D := (List.range xs.length).zipWith (fun (i : Nat) x => D.tup [.int i, x]) xs
def isTup : D → Prop
  | .tup _ => True
  | _ => False
def iEnum (a : DE) : DI := fun ρ x Q => a ρ x fun t ρ1 => esc t ρ1 fun v ρ2 => ∃ xs, items v = some xs ∧ ¬ isTup v ∧ Q (numbered xs) ρ2

/-! ### statements -/
def sNext : DS := fun D ρ => D.nx ρ
def sSeq (s t : DS) : DS := fun D ρ => s { D with nx := t D } ρ
def sBreak : DS := fun D ρ => D.bk ρ
def sCont : DS := fun D ρ => D.ct ρ
def sNever : DS := fun _ _ => False
/-- what a name is to hold -/
def bind (t : T) (ρ : En) (k : B → En → Prop) : Prop := match t with
  | .d x => k (.d x) ρ
  | .own m => k (.own m) ρ
  | .st => False
  | .exn _ => False
  | .brw i => match ρ[i]? with
    | some (some (.own m)) => k (.d m.data) (ρ.set i (some (.d m.data)))
    | some (some (.d x)) => k (.d x) ρ
    | _ => False
def sSet (i : Nat) (a : DE) : DS := fun D ρ => a ρ D.ex fun t ρ1 => bind t ρ1 fun b ρ2 => D.nx (ρ2.set i (some b))
/-- a tuple parted -/
def sPart (g : DG) (a : DE) : DS := fun D ρ => a ρ D.ex fun t ρ1 => esc t ρ1 fun v ρ2 => g v ρ2 D.nx
def sExpr (a : DE) : DS := fun D ρ => a ρ D.ex fun _ ρ1 => D.nx ρ1
def sRet (a : DE) : DS := fun D ρ => a ρ D.ex fun t ρ1 => match t with
  | .d x => D.rt (.d x)
  | .own m => D.rt (.own m)
  | .st => False
  | .exn _ => False
  | .brw i => match ρ1[i]? with
    | some (some (.own m)) => D.rt (.own m)
    | some (some (.d x)) => D.rt (.d x)
    | _ => False
def sRetN : DS := fun D _ => D.rt (.d .non)
def sIf (c : DT) (s t : DS) : DS := fun D ρ => c ρ D.ex fun b ρ1 => if b = true then s D ρ1 else t D ρ1
def forL (g : DG) (b : DS) (Z : DEnds) : List D → En → Prop
  | [], ρ => Z.nx ρ
  | x :: xs, ρ => g x ρ fun ρ1 => b { Z with nx := forL g b Z xs, ct := forL g b Z xs, bk := Z.nx } ρ1
def sFor (it : DI) (g : DG) (b : DS) : DS := fun Z ρ => it ρ Z.ex fun xs ρ1 => forL g b Z xs ρ1
def sWhile (c : DT) (b : DS) : DS := fun D ρ => ∃ W : Nat → En → Prop, (∃ m, W m ρ) ∧ ∀ m ρ, W m ρ → c ρ D.ex fun d ρ1 => if d = true then b { D with nx := fun ρ2 => ∃ m', m' < m ∧ W m' ρ2, ct := fun ρ2 => ∃ m', m' < m ∧ W m' ρ2, bk := D.nx } ρ1 else D.nx ρ1
/-- name += number -/
def sAugAdd (i : Nat) (a : DE) : DS := fun D ρ => ∃ m : Int, ρ[i]? = some (some (.d (.int m))) ∧ a ρ D.ex fun t ρ1 => ∃ n : Int, t = iv n ∧ D.nx (ρ1.set i (some (.d (.int (m + n)))))
/-! own lists -/
def sAppend (i : Nat) (a : DE) : DS := fun D ρ => (∃ xs, ρ[i]? = some (some (.own (.lst xs)))) ∧ a ρ D.ex fun t ρ1 => esc t ρ1 fun v ρ2 => match ρ2[i]? with
  | some (some (.own (.lst xs))) => xs.length < SZ ∧ D.nx (ρ2.set i (some (.own (.lst (xs ++ [v])))))
  | _ => False
def sStore (i : Nat) (p a : DE) : DS := fun D ρ => a ρ D.ex fun t ρ1 => esc t ρ1 fun v ρ2 => (∃ xs, ρ2[i]? = some (some (.own (.lst xs)))) ∧ p ρ2 D.ex fun u ρ3 => ∃ k : Int, u = iv k ∧ match ρ3[i]? with
  | some (some (.own (.lst xs))) => ∃ j, ixOf xs.length k = some j ∧ D.nx (ρ3.set i (some (.own (.lst (xs.set j v)))))
  | _ => False
def dPop (i : Nat) : DE := fun ρ _ Q => match ρ[i]? with
  | some (some (.own (.lst xs))) => ∃ y, xs[xs.length - 1]? = some y ∧ Q (.d y) (ρ.set i (some (.own (.lst xs.dropLast))))
  | _ => False
/-! comprehensions -/
def unwipe (ρ : En) : List Nat → En → En
  | [], r => r
  | i :: l, r => (unwipe ρ l r).set i (ρ[i]?.getD none)
def wipeD (ρ : En) : List Nat → En
  | [] => ρ
  | i :: l => (wipeD ρ l).set i none
def noOwn (ρ : En) (l : List Nat) : Bool := l.all fun i => match ρ[i]? with
  | some (some (.own _)) => false
  | some (some (.rows _)) => false
  | _ => true
def noX : XC := fun _ _ => False
def lcL (g : DG) (tt : DT) (te : DE) (vs : List Nat) (Q : T → En → Prop) : List D → List D → En → Prop
  | [], acc, ρ => Q (.own (.lst acc)) ρ
  | d :: ds, acc, ρ => g d (wipeD ρ vs) fun ρ1 => tt ρ1 noX fun b ρ2 => if b = true then te ρ2 noX fun t ρ3 => esc t ρ3 fun y ρ4 => acc.length < SZ ∧ lcL g tt te vs Q ds (acc ++ [y]) (unwipe ρ vs ρ4)
    else lcL g tt te vs Q ds acc (unwipe ρ vs ρ2)
def dLc (it : DI) (g : DG) (tt : DT) (te : DE) (vs : List Nat) : DE := fun ρ x Q => it ρ x fun xs ρ1 => noOwn ρ1 vs = true ∧ lcL g tt te vs Q xs [] ρ1
def tYes : DT := fun ρ _ Q => Q true ρ
/-! a def -/
def toB : T → Option B
  | .d x => some (.d x)
  | .st => some .st
  | .exn _ => none
  | .own m => some (.own m)
  | .brw _ => none
def semOf (names : Nat) (body : DS) : FSem := fun ts x Q => body { nx := fun _ => Q (.d .non), rt := Q, bk := fun _ => False, ct := fun _ => False, ex := fun e _ => x e } (ts.map toB ++ List.replicate (names - ts.length) none)

/-! ### own classes -/
/-- e.f -/
def dFld (cs : List String) (f : String) (a : DE) : DE := fun ρ x Q => a ρ x fun t ρ1 => look t ρ1 fun u => match u with
  | .ins C fs => C ∈ cs ∧ ∃ y, fs.lookup f = some y ∧ Q (.d y) ρ1
  | _ => False
/-- self.f = e, f new -/
def sFld (cs : List String) (i : Nat) (f : String) (a : DE) : DS := fun Z ρ => a ρ Z.ex fun t ρ1 => esc t ρ1 fun v ρ2 => match ρ2[i]? with
  | some (some (.own (.ins C fs))) => C ∈ cs ∧ fs.lookup f = none ∧ fs.length < 1000 ∧ Z.nx (ρ2.set i (some (.own (.ins C (fs ++ [(f, v)])))))
  | _ => False
/-- an __init__: its first name is the new instance -/
def initOf (C : String) (names : Nat) (body : DS) : FSem := fun ts x Q =>
  body { nx := fun (ρ : En) => match ρ[(0 : Nat)]? with
           | some (some (.own m)) => Q (.own m)
           | some (some (.d y)) => Q (.d y)
           | _ => False,
         rt := fun _ => False, bk := fun _ => False, ct := fun _ => False, ex := fun e _ => x e }
    (some (.own (.ins C [])) :: (ts.map toB ++ List.replicate (names - 1 - ts.length) none))
def dMake (n : Nat) (s : FSem) (a : DA) : DE := fun ρ x Q => a ρ x fun ts ρ1 => ts.length = n ∧ s ts (fun e => x e ρ1) fun r => Q r ρ1
def dMeth (C m : String) (n : Nat) (s : FSem) (o : DE) (a : DA) : DE := fun ρ x Q => o ρ x fun t ρ1 => esc t ρ1 fun u ρ2 => match u with
  | .ins c fs => c = C ∧ fs.lookup m = none ∧ a ρ2 x fun ts ρ3 => ts.length + 1 = n ∧ s (.d (.ins c fs) :: ts) (fun e => x e ρ3) fun r => Q r ρ3
  | _ => False

/-! ### dicts -/
section
variable {κ : Type} [DecidableEq κ]
def getK (kvs : List (κ × D)) (k : κ) : Option D := (kvs.find? fun p => decide (p.1 = k)).map (·.2)
def setK (kvs : List (κ × D)) (k : κ) (v : D) : List (κ × D) :=
  if (kvs.any fun p => decide (p.1 = k)) = true then kvs.map (fun p => if p.1 = k then (p.1, v) else p) else kvs ++ [(k, v)]
end
def toKey : D → Option DK
  | .int i => some (.inl i)
  | .str s => some (.inr s)
  | _ => none
def toKeys : List D → Option (List DK)
  | [] => some []
  | x :: xs => (toKey x).bind fun k => (toKeys xs).map (k :: ·)
/-- what d holds at a key -/
def atD (u v : D) (k : Option D → Prop) : Prop := match v with
  | .dic kvs => ∃ x, toKey u = some x ∧ k (getK kvs x)
  | .dit kvs => match u with
    | .tup us => ∃ x, toKeys us = some x ∧ k (getK kvs x)
    | _ => False
  | _ => False
def oDin (neg : Bool) : Op2 := fun u v k => atD u v fun r => k (bv (xor neg r.isSome))
def oDix : Op2 := fun v u k => atD u v fun r => ∃ y, r = some y ∧ k (.d y)
def dNewD : DE := fun ρ _ Q => Q (.own (.dic [])) ρ
def dNewT : DE := fun ρ _ Q => Q (.own (.dit [])) ρ
def dDispT (a b : DE) : DE := fun ρ x Q => a ρ x fun s ρ1 => esc s ρ1 fun u ρ2 => b ρ2 x fun t ρ3 => esc t ρ3 fun v ρ4 => match u with
  | .tup us => ∃ k, toKeys us = some k ∧ Q (.own (.dit [(k, v)])) ρ4
  | _ => False
/-- d[k] = v -/
def putAtM (m : MO) (u v : D) (k : MO → Prop) : Prop := match m with
  | .dic kvs => ∃ x, toKey u = some x ∧ kvs.length < SZ ∧ k (.dic (setK kvs x v))
  | .dit kvs => match u with
    | .tup us => ∃ x, toKeys us = some x ∧ kvs.length < SZ ∧ k (.dit (setK kvs x v))
    | _ => False
  | _ => False
def sDput (i : Nat) (p a : DE) : DS := fun Z ρ => a ρ Z.ex fun t ρ1 => esc t ρ1 fun v ρ2 => (∃ m, ρ2[i]? = some (some (.own m))) ∧ p ρ2 Z.ex fun s ρ3 => esc s ρ3 fun u ρ4 => match ρ4[i]? with
  | some (some (.own m)) => putAtM m u v fun m' => Z.nx (ρ4.set i (some (.own m')))
  | _ => False

def dIndexL (a b : DE) : DE := fun ρ x Q => a ρ x fun s ρ1 => esc s ρ1 fun u ρ2 => (∃ zs, u = .lst zs) ∧ b ρ2 x fun t ρ3 => look t ρ3 fun v => match u with
  | .lst zs => v.flat = true ∧ zs.all D.flat = true ∧ ∃ j, zs.findIdx? (fun y => D.eqv y v) = some j ∧ Q (iv j) ρ3
  | _ => False

/-! ### exceptions -/
def noExn (ρ : En) : Bool := ρ.all fun b => match b with
  | some (.exn _) => false
  | _ => true
/-- try: .. except C as name (slot i, or none): tab tells of each class whether the clause takes it -/
def sTry (tab : List (String × Bool)) (i : Option Nat) (db ds : DS) : DS := fun Z ρ => noExn ρ = true ∧
  db { Z with ex := fun e ρ1 => match tab.lookup e.cls with
    | some true => match i with
      | some j => ds { nx := fun ρ2 => noExn (ρ2.set j none) = true ∧ Z.nx (ρ2.set j none), rt := Z.rt, bk := fun ρ2 => noExn (ρ2.set j none) = true ∧ Z.bk (ρ2.set j none), ct := fun ρ2 => noExn (ρ2.set j none) = true ∧ Z.ct (ρ2.set j none), ex := fun _ _ => False } (ρ1.set j (some (.exn e)))
      | none => ds { Z with ex := fun _ _ => False } ρ1
    | some false => Z.ex e ρ1
    | none => False } ρ
def sRaise0 (C : String) : DS := fun Z ρ => Z.ex ⟨C, []⟩ ρ
/-- isinstance(name, C), the name an exception's without fields -/
def dIsE (i : Nat) (tab : List (String × Bool)) : DE := fun ρ _ Q => match ρ[i]? with
  | some (some (.exn e)) => e.fs = [] ∧ ∃ b, tab.lookup e.cls = some b ∧ Q (bv b) ρ
  | _ => False
/-- the law's list from within: its cells, a number of it, a number put there -/
def dStC (i : Nat) : DE := fun ρ _ Q => ρ[i]? = some (some .st) ∧ ∀ cells : List Int, cells ≠ [] → cells.length ≤ 63 → Q (.d (.lst (cells.map D.int))) ρ
def dStI (i : Nat) : DE := fun ρ _ Q => ρ[i]? = some (some .st) ∧ ∀ v : Int, Q (iv v) ρ
def sStPut (i : Nat) (dv : DE) : DS := fun Z ρ => dv ρ Z.ex fun t ρ1 => ρ1[i]? = some (some .st) ∧ ∃ n : Int, t = iv n ∧ Z.nx ρ1
/-- the draw, told -/
def fNext : FSem := fun ts _ Q => ∃ n : Int, ts = [.st, iv n] ∧ (1 ≤ n ∧ n < 1073741824) ∧ ∀ r : Int, 0 ≤ r → r < n → Q (iv r)
/-- the walk of the script, by the first name -/
def iScr (ns : List Int) : DI := fun ρ _ Q => 0 < ρ.length ∧ Q (ns.map D.int) ρ
/-! lists of a list, all of them one frame's own -/
def lone (ρ : En) (i : Nat) : Bool := (List.range ρ.length).all fun j => j == i || match ρ[j]? with
  | some (some (.rows _)) => false
  | _ => true
def noRows (ρ : En) : Bool := ρ.all fun b => match b with
  | some (.rows _) => false
  | _ => true
def isRows (ρ : En) (i : Nat) : Prop := ∃ xs, ρ[i]? = some (some (.rows xs))
def dRowsLen (i : Nat) : DE := fun ρ _ Q => match ρ[i]? with
  | some (some (.rows xs)) => Q (iv xs.length) ρ
  | _ => False
def dRowsIx (i : Nat) (a b : DE) : DE := fun ρ x Q => isRows ρ i ∧ a ρ x fun s ρ1 => match ρ1[i]? with
  | some (some (.rows xs)) => ∃ m j row, s = iv m ∧ ixOf xs.length m = some j ∧ xs[j]? = some row ∧ b ρ1 x fun t ρ2 => ∃ n k y, t = iv n ∧ ixOf row.length n = some k ∧ row[k]? = some y ∧ Q (.d y) ρ2
  | _ => False
def dRowsCopy (i : Nat) (a : DE) : DE := fun ρ x Q => isRows ρ i ∧ a ρ x fun s ρ1 => match ρ1[i]? with
  | some (some (.rows xs)) => ∃ m j row, s = iv m ∧ ixOf xs.length m = some j ∧ xs[j]? = some row ∧ Q (.own (.lst row)) ρ1
  | _ => False
def sRowsPut (i : Nat) (a b v : DE) : DS := fun Z ρ => v ρ Z.ex fun t ρ0 => esc t ρ0 fun y ρ1 => isRows ρ1 i ∧ a ρ1 Z.ex fun s ρ2 => match ρ2[i]? with
  | some (some (.rows xs)) => ∃ m j row, s = iv m ∧ ixOf xs.length m = some j ∧ xs[j]? = some row ∧ b ρ2 Z.ex fun t ρ3 => ρ3[i]? = some (some (.rows xs)) ∧ lone ρ3 i = true ∧
      ∃ n k, t = iv n ∧ ixOf row.length n = some k ∧ Z.nx (ρ3.set i (some (.rows (xs.set j (row.set k y)))))
  | _ => False
def sRowsApp (i : Nat) (e : DE) : DS := fun Z ρ => isRows ρ i ∧ e ρ Z.ex fun t ρ1 => ∃ row, t = .own (.lst row) ∧ match ρ1[i]? with
  | some (some (.rows xs)) => lone ρ1 i = true ∧ xs.length < SZ ∧ Z.nx (ρ1.set i (some (.rows (xs ++ [row]))))
  | _ => False
def sRows1 (i : Nat) (e : DE) : DS := fun Z ρ => e ρ Z.ex fun t ρ1 => ∃ row, t = .own (.lst row) ∧ lone ρ1 i = true ∧ Z.nx (ρ1.set i (some (.rows [row])))
def rlcL (g : DG) (tt : DT) (te : DE) (vs : List Nat) (Q : List (List D) → En → Prop) : List D → List (List D) → En → Prop
  | [], acc, ρ => Q acc ρ
  | d :: ds, acc, ρ => g d (wipeD ρ vs) fun ρ1 => tt ρ1 noX fun b ρ2 => if b = true then te ρ2 noX fun t ρ3 => ∃ row, t = .own (.lst row) ∧ noRows (unwipe ρ vs ρ3) = true ∧ acc.length < SZ ∧ rlcL g tt te vs Q ds (acc ++ [row]) (unwipe ρ vs ρ3)
    else noRows (unwipe ρ vs ρ2) = true ∧ rlcL g tt te vs Q ds acc (unwipe ρ vs ρ2)
def sRowsLc (i : Nat) (it : DI) (g : DG) (tt : DT) (te : DE) (vs : List Nat) : DS := fun Z ρ => it ρ Z.ex fun xs ρ1 => noOwn ρ1 vs = true ∧ noRows ρ1 = true ∧ rlcL g tt te vs (fun acc ρ2 => Z.nx (ρ2.set i (some (.rows acc)))) xs [] ρ1
/-- frozen ahead of a statement -/
def sFrz (i : Nat) (d : DS) : DS := fun Z ρ => match ρ[i]? with
  | some (some (.rows xs)) => lone ρ i = true ∧ d Z (ρ.set i (some (.d (.lst (xs.map .lst)))))
  | _ => d Z ρ
/-- in each row the number at one place, if it is w, is made n; the walk's own name (j) is then unknown -/
def fixRow (k : Int) (w n : Int) (row : List D) : Option (List D) := match ixOf row.length k with
  | some t => match row[t]? with
    | some (.int y) => some (if y = w then row.set t (.int n) else row)
    | _ => none
  | none => none
def sRowsFix (i j a w n : Nat) : DS := fun Z ρ => ∃ (xs ys : List (List D)) (ka kw kn : Int), ρ[i]? = some (some (.rows xs)) ∧ ρ[a]? = some (some (.d (.int ka))) ∧ ρ[w]? = some (some (.d (.int kw))) ∧ ρ[n]? = some (some (.d (.int kn))) ∧ lone ρ i = true ∧ j < ρ.length ∧
  xs.mapM (fixRow ka kw kn) = some ys ∧ Z.nx ((ρ.set i (some (.rows ys))).set j none)
end Y

/-! Core2: rules for walks and comprehensions of the plain layer. -/
namespace Y
theorem ixOf_ok {n : Nat} {i : Int} (h0 : 0 ≤ i) (h1 : i < n) : ixOf n i = some i.toNat := by unfold ixOf; rw [if_pos h0, if_pos h1]
theorem ixOf_nat {n i : Nat} (h1 : i < n) : ixOf n (i : Int) = some i := by rw [ixOf_ok (by omega) (by omega)]; simp
/-- a comprehension by an invariant -/
theorem lcL_inv {g : DG} {tt : DT} {te : DE} {vs : List Nat} {Q : T → En → Prop} {ρ : En} (I : List D → List D → Prop)
    (hs : ∀ d ds acc, I (d :: ds) acc → acc.length < SZ ∧ ∀ (k1 : D → En → Prop) (k2 : En → Prop), (∀ y, I ds (acc ++ [y]) → k1 y ρ) → (I ds acc → k2 ρ) →
      g d (wipeD ρ vs) fun ρ1 => tt ρ1 noX fun b ρ2 => if b = true then te ρ2 noX fun t ρ3 => esc t ρ3 fun y ρ4 => k1 y (unwipe ρ vs ρ4) else k2 (unwipe ρ vs ρ2))
    (he : ∀ acc, I [] acc → Q (.own (.lst acc)) ρ) : ∀ ds acc, I ds acc → lcL g tt te vs Q ds acc ρ
  | [], acc, h => he acc h
  | d :: ds, acc, h => by
    obtain ⟨h1, h2⟩ := hs d ds acc h
    unfold lcL
    exact h2 (fun y ρ' => acc.length < SZ ∧ lcL g tt te vs Q ds (acc ++ [y]) ρ') (fun ρ' => lcL g tt te vs Q ds acc ρ') (fun y hy => ⟨h1, lcL_inv I hs he ds _ hy⟩) (fun hy => lcL_inv I hs he ds _ hy)
/-- a comprehension that is a function -/
theorem lcL_fm {g : DG} {tt : DT} {te : DE} {vs : List Nat} {Q : T → En → Prop} {ρ : En} (f : D → Option D) {ds : List D} (hz : ds.length ≤ SZ)
    (hs : ∀ d, d ∈ ds → ∀ (k1 : D → En → Prop) (k2 : En → Prop), (∀ y, f d = some y → k1 y ρ) → (f d = none → k2 ρ) →
      g d (wipeD ρ vs) fun ρ1 => tt ρ1 noX fun b ρ2 => if b = true then te ρ2 noX fun t ρ3 => esc t ρ3 fun y ρ4 => k1 y (unwipe ρ vs ρ4) else k2 (unwipe ρ vs ρ2))
    (he : Q (.own (.lst (ds.filterMap f))) ρ) : lcL g tt te vs Q ds [] ρ := by
  refine lcL_inv (I := fun r acc => (∀ d, d ∈ r → d ∈ ds) ∧ acc.length + r.length ≤ SZ ∧ acc ++ r.filterMap f = ds.filterMap f) (fun d r acc h => ?_) (fun acc h => ?_) ds [] ⟨fun _ h => h, by simpa using hz, by simp⟩
  · obtain ⟨h1, h2, h3⟩ := h
    refine ⟨by simp at h2; omega, fun k1 k2 a1 a2 => hs d (h1 d (by simp)) k1 k2 (fun y hy => a1 y ⟨fun e he => h1 e (by simp [he]), ?_, ?_⟩) (fun hn => a2 ⟨fun e he => h1 e (by simp [he]), by simp at h2 ⊢; omega, ?_⟩)⟩
    · simp at h2 ⊢; omega
    · rw [← h3]; simp [List.filterMap_cons, hy]
    · rw [← h3]; simp [List.filterMap_cons, hn]
  · have := h.2.2
    simp at this
    rw [this]; exact he
theorem lcL_map {g : DG} {te : DE} {vs : List Nat} {Q : T → En → Prop} {ρ : En} (f : D → D) {ds : List D} (hz : ds.length ≤ SZ)
    (hs : ∀ d, d ∈ ds → ∀ (k1 : D → En → Prop), k1 (f d) ρ →
      g d (wipeD ρ vs) fun ρ1 => te ρ1 noX fun t ρ3 => esc t ρ3 fun y ρ4 => k1 y (unwipe ρ vs ρ4))
    (he : Q (.own (.lst (ds.map f))) ρ) : lcL g tYes te vs Q ds [] ρ := by
  refine lcL_fm (fun d => some (f d)) hz (fun d hd k1 k2 a1 _ => ?_) (by simpa [List.filterMap_eq_map] using he)
  unfold tYes
  simp only [if_true]
  exact hs d hd k1 (a1 _ rfl)
/-- a walk by an invariant -/
theorem forL_inv {g : DG} {b : DS} {Z : DEnds} (I : List D → En → Prop)
    (hs : ∀ x xs ρ, I (x :: xs) ρ → ∀ k : En → Prop, (∀ ρ', I xs ρ' → k ρ') → g x ρ fun ρ1 => b { Z with nx := k, ct := k, bk := Z.nx } ρ1)
    (he : ∀ ρ, I [] ρ → Z.nx ρ) : ∀ xs ρ, I xs ρ → forL g b Z xs ρ
  | [], ρ, h => he ρ h
  | x :: xs, ρ, h => by
    unfold forL
    exact hs x xs ρ h _ fun ρ' h' => forL_inv I hs he xs ρ' h'

theorem upTo_length (lo : Int) (n : Nat) : (upTo lo n).length = n := by simp [upTo]
end Y

/-! Sim1: data against the abstract heap; what a reading owes its transformer. -/
namespace Y
open PySem L2 Evl

structure Sx where
  K : PySem.W.Frag
  cl : String → Addr
  B0 : Hp
  sa0 : Option Addr
  self : Option Addr := none
  exa : Option (Addr × Value × Option Addr) := none
  F0 : Hp := fun _ => none

/-- a text by its signs -/
def stx (s : Tx) : Str := ⟨s.toArray⟩
theorem stx_list (s : Tx) : (stx s).cps.toList = s := by simp [stx]
theorem stx_of (x : Str) : stx x.cps.toList = x := by cases x; simp [stx]
theorem stx_len (s : Tx) : (stx s).length = s.length := by simp [stx, Str.length]
theorem stx_inj {s t : Tx} (h : stx s = stx t) : s = t := by rw [← stx_list s, h, stx_list]
def keyOf : DK → Key
  | .inl i => .inl i
  | .inr s => .inr (stx s)

mutual
inductive Rep (K : PySem.W.Frag) (cl : String → Addr) (H : Hp) : V → D → Prop
  | non : Rep K cl H .non .non
  | bl (b : Bool) : Rep K cl H (.bl b) (.bl b)
  | int (i : Int) : Rep K cl H (.int i) (.int i)
  | str (s : Tx) : Rep K cl H (.str (stx s)) (.str s)
  | tup {p : Addr} {xs : List V} {ds : List D} : H p = some (.tup xs) → Reps K cl H xs ds → Rep K cl H (.ref p) (.tup ds)
  | lst {p : Addr} {xs : List V} {ds : List D} : H p = some (.lst xs) → Reps K cl H xs ds → Rep K cl H (.ref p) (.lst ds)
  | dic {p : Addr} {ks : List (Key × V)} {ds : List (DK × D)} : H p = some (.dK ks) → RepK K cl H ks ds → Rep K cl H (.ref p) (.dic ds)
  | dit {p : Addr} {ks : List (List Key × V)} {ds : List (List DK × D)} : H p = some (.dT ks) → RepL K cl H ks ds → Rep K cl H (.ref p) (.dit ds)
  | ins {p dx : Addr} {C : String} {fs : List (Str × V)} {ds : List (String × D)} : H p = some (.ins (cl C) dx fs) → RepF K cl H fs ds → Rep K cl H (.ref p) (.ins C ds)
inductive Reps (K : PySem.W.Frag) (cl : String → Addr) (H : Hp) : List V → List D → Prop
  | nil : Reps K cl H [] []
  | cons {v : V} {d : D} {vs : List V} {ds : List D} : Rep K cl H v d → Reps K cl H vs ds → Reps K cl H (v :: vs) (d :: ds)
inductive RepK (K : PySem.W.Frag) (cl : String → Addr) (H : Hp) : List (Key × V) → List (DK × D) → Prop
  | nil : RepK K cl H [] []
  | cons {k : DK} {v : V} {d : D} {vs : List (Key × V)} {ds : List (DK × D)} : Rep K cl H v d → RepK K cl H vs ds → RepK K cl H ((keyOf k, v) :: vs) ((k, d) :: ds)
inductive RepL (K : PySem.W.Frag) (cl : String → Addr) (H : Hp) : List (List Key × V) → List (List DK × D) → Prop
  | nil : RepL K cl H [] []
  | cons {k : List DK} {v : V} {d : D} {vs : List (List Key × V)} {ds : List (List DK × D)} : Rep K cl H v d → RepL K cl H vs ds → RepL K cl H ((k.map keyOf, v) :: vs) ((k, d) :: ds)
inductive RepF (K : PySem.W.Frag) (cl : String → Addr) (H : Hp) : List (Str × V) → List (String × D) → Prop
  | nil : RepF K cl H [] []
  | cons {k : String} {v : V} {d : D} {vs : List (Str × V)} {ds : List (String × D)} : Rep K cl H v d → RepF K cl H vs ds → RepF K cl H ((Str.ofString k, v) :: vs) ((k, d) :: ds)
end
section
variable {K : PySem.W.Frag} {cl : String → Addr} {H H' : Hp}
mutual
theorem Rep.mono (e : Ex H H') : ∀ {v : V} {d : D}, Rep K cl H v d → Rep K cl H' v d
  | _, _, .non => .non
  | _, _, .bl b => .bl b
  | _, _, .int i => .int i
  | _, _, .str s => .str s
  | _, _, .tup h r => .tup (e _ _ h) (Reps.mono e r)
  | _, _, .lst h r => .lst (e _ _ h) (Reps.mono e r)
  | _, _, .dic h r => .dic (e _ _ h) (RepK.mono e r)
  | _, _, .dit h r => .dit (e _ _ h) (RepL.mono e r)
  | _, _, .ins h r => .ins (e _ _ h) (RepF.mono e r)
theorem Reps.mono (e : Ex H H') : ∀ {v : List V} {d : List D}, Reps K cl H v d → Reps K cl H' v d
  | _, _, .nil => .nil
  | _, _, .cons h r => .cons (Rep.mono e h) (Reps.mono e r)
theorem RepK.mono (e : Ex H H') : ∀ {v : List (Key × V)} {d : List (DK × D)}, RepK K cl H v d → RepK K cl H' v d
  | _, _, .nil => .nil
  | _, _, .cons h r => .cons (Rep.mono e h) (RepK.mono e r)
theorem RepL.mono (e : Ex H H') : ∀ {v : List (List Key × V)} {d : List (List DK × D)}, RepL K cl H v d → RepL K cl H' v d
  | _, _, .nil => .nil
  | _, _, .cons h r => .cons (Rep.mono e h) (RepL.mono e r)
theorem RepF.mono (e : Ex H H') : ∀ {v : List (Str × V)} {d : List (String × D)}, RepF K cl H v d → RepF K cl H' v d
  | _, _, .nil => .nil
  | _, _, .cons h r => .cons (Rep.mono e h) (RepF.mono e r)
end
theorem Reps.length : ∀ {v : List V} {d : List D}, Reps K cl H v d → v.length = d.length
  | _, _, .nil => rfl
  | _, _, .cons _ r => by simp [Reps.length r]
theorem Reps.get : ∀ {v : List V} {d : List D} {i : Nat} {x : D}, Reps K cl H v d → d[i]? = some x → ∃ y, v[i]? = some y ∧ Rep K cl H y x
  | _, _, _, _, .nil, h => by simp at h
  | _, _, 0, _, .cons r _, h => by simp at h; subst h; exact ⟨_, rfl, r⟩
  | _, _, i + 1, _, .cons _ t, h => by simpa using Reps.get (i := i) t (by simpa using h)
theorem Reps.append : ∀ {v : List V} {d : List D} {v' : List V} {d' : List D}, Reps K cl H v d → Reps K cl H v' d' → Reps K cl H (v ++ v') (d ++ d')
  | _, _, _, _, .nil, s => s
  | _, _, _, _, .cons r t, s => .cons r (Reps.append t s)
theorem Reps.set {y : V} {x : D} (h : Rep K cl H y x) : ∀ {v : List V} {d : List D} (i : Nat), Reps K cl H v d → Reps K cl H (v.set i y) (d.set i x)
  | _, _, _, .nil => .nil
  | _, _, 0, .cons _ t => .cons h t
  | _, _, i + 1, .cons r t => .cons r (Reps.set h i t)
theorem Reps.dropLast : ∀ {v : List V} {d : List D}, Reps K cl H v d → Reps K cl H v.dropLast d.dropLast
  | _, _, .nil => .nil
  | _, _, .cons r .nil => .nil
  | _, _, .cons r (.cons q t) => .cons r (Reps.dropLast (.cons q t))
theorem Reps.ints : ∀ (l : List Int), Reps K cl H (l.map V.int) (l.map D.int)
  | [] => .nil
  | _ :: l => .cons (.int _) (Reps.ints l)
end

/-- an object that is held alone -/
def RepM (K : PySem.W.Frag) (cl : String → Addr) (H : Hp) : HO → MO → Prop
  | .lst xs, .lst ds => Reps K cl H xs ds
  | .dK ks, .dic ds => RepK K cl H ks ds
  | .dT ks, .dit ds => RepL K cl H ks ds
  | .ins C _ fs, .ins c ds => C = cl c ∧ RepF K cl H fs ds
  | _, _ => False
theorem RepM.mono {K : PySem.W.Frag} {cl : String → Addr} {H H' : Hp} (e : Ex H H') {o : HO} {m : MO} (h : RepM K cl H o m) : RepM K cl H' o m := by
  cases o <;> cases m <;> first
    | exact Reps.mono e h
    | exact RepK.mono e h
    | exact RepL.mono e h
    | exact ⟨h.1, RepF.mono e h.2⟩
    | exact h.elim
theorem RepM.rep {K : PySem.W.Frag} {cl : String → Addr} {H : Hp} {o : HO} {m : MO} {p : Addr} (h : RepM K cl H o m) (hp : H p = some o) : Rep K cl H (.ref p) m.data := by
  cases o <;> cases m <;> first
    | exact .lst hp h
    | exact .dic hp h
    | exact .dit hp h
    | (obtain ⟨rfl, h⟩ := h; exact .ins hp h)
    | exact h.elim

/-- the law's state: what it draws from -/
def StA (K : PySem.W.Frag) (Hs H : Hp) (a : Addr) : Prop :=
  ∃ (pc : Addr) (i j k : Int) (cells : List Int), H a = some (.lst [.ref pc, .int i, .int j, .int k]) ∧ Hs pc = some (.lst (cells.map V.int)) ∧ cells ≠ [] ∧ cells.length ≤ 63

def RepX (S : Sx) (Hs : Hp) (cls : Value) (dd : Option Addr) (e : Exn) : Prop :=
  cls = .ref (S.cl e.cls) ∧ ((e.fs = [] ∧ dd = none) ∨ ∃ dx fs, (dd = some dx ∧ e.fs ≠ []) ∧ Hs dx = some (.xd fs) ∧ RepF S.K S.cl Hs fs e.fs)
theorem RepX.mono {S : Sx} {Hs Hs' : Hp} (e : Evl.Ex Hs Hs') {cls : Value} {dd : Option Addr} {x : Exn} (h : RepX S Hs cls dd x) : RepX S Hs' cls dd x := by
  obtain ⟨h1, h2⟩ := h
  rcases h2 with h2 | ⟨dx, fs, h2, h3, h4⟩
  · exact ⟨h1, .inl h2⟩
  · exact ⟨h1, .inr ⟨dx, fs, h2, e _ _ h3, h4.mono e⟩⟩
/-- the exception that a suite holds -/
def RepXB (S : Sx) (Hs : Hp) (v : V) (e : Exn) : Prop := ∃ a cls dd, S.exa = some (a, cls, dd) ∧ v = .ref a ∧ RepX S Hs cls dd e
theorem RepXB.mono {S : Sx} {Hs Hs' : Hp} (e : Evl.Ex Hs Hs') {v : V} {x : Exn} (h : RepXB S Hs v x) : RepXB S Hs' v x := by
  obtain ⟨a, cls, dd, h1, h2, h3⟩ := h
  exact ⟨a, cls, dd, h1, h2, h3.mono e⟩
/-- lists of a list, all of them this frame's own -/
def RowsR (S : Sx) (F Hs : Hp) : List Addr → List (List D) → Prop
  | [], [] => True
  | q :: qs, x :: xs => (∃ vs, F q = some (.lst vs) ∧ Reps S.K S.cl Hs vs x) ∧ S.F0 q = none ∧ RowsR S F Hs qs xs
  | _, _ => False
theorem RowsR.mono {S : Sx} {F Hs Hs' : Hp} (e : Evl.Ex Hs Hs') : ∀ {qs : List Addr} {xs : List (List D)}, RowsR S F Hs qs xs → RowsR S F Hs' qs xs
  | [], [], _ => trivial
  | _ :: _, _ :: _, ⟨⟨vs, h1, h2⟩, h0, h3⟩ => ⟨⟨vs, h1, h2.mono e⟩, h0, RowsR.mono e h3⟩
  | [], _ :: _, h => h.elim
  | _ :: _, [], h => h.elim
def RepRows (S : Sx) (F Hs : Hp) (v : V) (xs : List (List D)) : Prop := ∃ p qs, v = .ref p ∧ F p = some (.lst (qs.map V.ref)) ∧ S.F0 p = none ∧ (p :: qs).Nodup ∧ RowsR S F Hs qs xs
theorem RepRows.mono {S : Sx} {F Hs Hs' : Hp} (e : Evl.Ex Hs Hs') {v : V} {xs : List (List D)} (h : RepRows S F Hs v xs) : RepRows S F Hs' v xs := by
  obtain ⟨p, qs, h1, h2, h3, h4, h5⟩ := h
  exact ⟨p, qs, h1, h2, h3, h4, h5.mono e⟩
def RepB (S : Sx) (F : Hp) (sa : Option Addr) (Hs H : Hp) (v : V) : B → Prop
  | .d x => Rep S.K S.cl Hs v x
  | .own m => ∃ p o, v = .ref p ∧ Hs p = none ∧ F p = none ∧ sa ≠ some p ∧ H p = some o ∧ RepM S.K S.cl Hs o m
  | .st => ∃ a, sa = some a ∧ v = .ref a
  | .exn e => RepXB S Hs v e
  | .rows xs => RepRows S F Hs v xs

structure RelS (S : Sx) (F : Hp) (sa : Option Addr) (Hs : Hp) (ρ : En) (σ : St) (H : Hp) : Prop where
  b0 : Ex S.B0 Hs
  ex : Ex Hs H
  fr : ∀ b o, F b = some o → Hs b = none ∧ H b = some o
  len : σ.length = ρ.length
  sal : ∀ a, S.sa0 = some a → sa = some a
  sav : ∀ a, sa = some a → StA S.K Hs H a ∧ Hs a = none ∧ F a = none
  vars : ∀ (i : Nat) (b : B), ρ[i]? = some (some b) → ∃ v, σ[i]? = some (some v) ∧ RepB S F sa Hs H v b
  apart : ∀ (i j : Nat) (p : Addr) (m m' : MO), i ≠ j → ρ[i]? = some (some (.own m)) → ρ[j]? = some (some (.own m')) → σ[i]? = some (some (.ref p)) → σ[j]? ≠ some (some (.ref p))
  slf : ∀ p, S.self = some p → 0 < ρ.length → σ[(0 : Nat)]? = some (some (.ref p))
  f0 : Ex S.F0 F

/-- a value that no name holds -/
structure Tmp (S : Sx) (F : Hp) (sa : Option Addr) (Hs : Hp) (ρ : En) (σ : St) (H : Hp) (p : Addr) (o : HO) (m : MO) : Prop where
  hs : Hs p = none
  f : F p = none
  s : sa ≠ some p
  h : H p = some o
  r : RepM S.K S.cl Hs o m
  na : ∀ (i : Nat) (m' : MO), ρ[i]? = some (some (.own m')) → σ[i]? ≠ some (some (.ref p))
def RepT (S : Sx) (F : Hp) (sa : Option Addr) (Hs : Hp) (ρ : En) (σ : St) (H : Hp) (v : V) : T → Prop
  | .d x => Rep S.K S.cl Hs v x
  | .own m => ∃ p o, v = .ref p ∧ Tmp S F sa Hs ρ σ H p o m
  | .brw i => σ[i]? = some (some v)
  | .st => ∃ a, sa = some a ∧ v = .ref a
  | .exn e => RepXB S Hs v e
/-- what the value reads as, now -/
def Now (S : Sx) (Hs H : Hp) (v : V) (d : D) : Prop := Rep S.K S.cl Hs v d ∨ ∃ p o m, v = .ref p ∧ H p = some o ∧ RepM S.K S.cl Hs o m ∧ d = m.data
theorem Now.rep {S : Sx} {Hs H : Hp} {v : V} {d : D} (e : Ex Hs H) (h : Now S Hs H v d) : Rep S.K S.cl H v d := by
  rcases h with h | ⟨p, o, m, rfl, hp, hm, rfl⟩
  · exact h.mono e
  · exact (hm.mono e).rep hp

section
variable {S : Sx} {F : Hp} {sa : Option Addr} {Hs Hs' H H' : Hp} {ρ : En} {σ : St} {v : V} {p : Addr} {o : HO} {m : MO}
theorem StA.mono {K : PySem.W.Frag} (e : Ex Hs Hs') {a : Addr} (eh : ∀ o, H a = some o → H' a = some o) (h : StA K Hs H a) : StA K Hs' H' a := by
  obtain ⟨pc, i, j, k, cells, h1, h2, h3, h4⟩ := h
  exact ⟨pc, i, j, k, cells, eh _ h1, e _ _ h2, h3, h4⟩
theorem RepB.mono (e : Ex Hs Hs') (eh : ∀ p o, v = .ref p → Hs p = none → sa ≠ some p → H p = some o → Hs' p = none ∧ H' p = some o) {b : B} (h : RepB S F sa Hs H v b) : RepB S F sa Hs' H' v b := by
  cases b with
  | d x => exact Rep.mono e h
  | own m =>
    obtain ⟨p, o, rfl, h1, h2, h3, h4, h5⟩ := h
    obtain ⟨k1, k2⟩ := eh p o rfl h1 h3 h4
    exact ⟨p, o, rfl, k1, h2, h3, k2, h5.mono e⟩
  | st => exact h
  | exn x => exact RepXB.mono e h
  | rows xs => exact RepRows.mono e h
/-- a new object, frozen at once -/
theorem RelS.new (R : RelS S F sa Hs ρ σ H) (hp : H p = none) : RelS S F sa (upd Hs p o) ρ σ (upd H p o) ∧ Ex Hs (upd Hs p o) := by
  have hsp : Hs p = none := fresh_back R.ex hp
  have nf : F p = none := by
    cases e : F p with
    | none => rfl
    | some u => rw [(R.fr _ _ e).2] at hp; cases hp
  refine ⟨⟨R.b0.trans (Ex.new hsp), fun b u e => ?_, fun b u e => ?_, R.len, R.sal, fun a e => ?_, fun i b e => ?_, R.apart, R.slf, R.f0⟩, Ex.new hsp⟩
  · by_cases hb : b = p
    · subst hb; rw [upd_same] at e ⊢; exact e
    · rw [upd_ne hb] at e ⊢; exact R.ex b u e
  · have nb : b ≠ p := by rintro rfl; rw [nf] at e; cases e
    obtain ⟨h1, h2⟩ := R.fr b u e
    exact ⟨by rw [upd_ne nb]; exact h1, by rw [upd_ne nb]; exact h2⟩
  · obtain ⟨h1, h2, h3⟩ := R.sav a e
    have na : a ≠ p := by
      rintro rfl
      obtain ⟨_, _, _, _, _, h, _⟩ := h1
      rw [hp] at h; cases h
    exact ⟨h1.mono (Ex.new hsp) fun o e => Ex.new hp _ _ e, by rw [upd_ne na]; exact h2, h3⟩
  · obtain ⟨v, h1, h2⟩ := R.vars i b e
    refine ⟨v, h1, h2.mono (Ex.new hsp) fun q u _ k1 _ k2 => ?_⟩
    have nq : q ≠ p := by rintro rfl; rw [hp] at k2; cases k2
    exact ⟨by rw [upd_ne nq]; exact k1, by rw [upd_ne nq]; exact k2⟩
/-- a new object, held alone -/
theorem RelS.newOwn (R : RelS S F sa Hs ρ σ H) (hp : H p = none) (hm : RepM S.K S.cl Hs o m) : RelS S F sa Hs ρ σ (upd H p o) ∧ Tmp S F sa Hs ρ σ (upd H p o) p o m := by
  have hsp : Hs p = none := fresh_back R.ex hp
  have nf : F p = none := by
    cases e : F p with
    | none => rfl
    | some u => rw [(R.fr _ _ e).2] at hp; cases hp
  refine ⟨⟨R.b0, R.ex.trans (Ex.new hp), fun b u e => ?_, R.len, R.sal, fun a e => ?_, fun i b e => ?_, R.apart, R.slf, R.f0⟩, ⟨hsp, nf, fun e => ?_, upd_same, hm, fun i m' e z => ?_⟩⟩
  · have nb : b ≠ p := by rintro rfl; rw [nf] at e; cases e
    obtain ⟨h1, h2⟩ := R.fr b u e
    exact ⟨h1, by rw [upd_ne nb]; exact h2⟩
  · obtain ⟨h1, h2, h3⟩ := R.sav a e
    exact ⟨h1.mono (Ex.refl _) fun o e => Ex.new hp _ _ e, h2, h3⟩
  · obtain ⟨v, h1, h2⟩ := R.vars i b e
    refine ⟨v, h1, h2.mono (Ex.refl _) fun q u _ k1 _ k2 => ?_⟩
    have nq : q ≠ p := by rintro rfl; rw [hp] at k2; cases k2
    exact ⟨k1, by rw [upd_ne nq]; exact k2⟩
  · obtain ⟨⟨_, _, _, _, _, h, _⟩, _⟩ := R.sav p e
    rw [hp] at h; cases h
  · obtain ⟨v, h1, q, u, h2, _, _, _, h3, _⟩ := R.vars i _ e
    rw [h1] at z
    have := Option.some.inj (Option.some.inj z)
    rw [h2] at this
    cases this
    rw [hp] at h3; cases h3
/-- a temporary is frozen -/
theorem RelS.freeze (R : RelS S F sa Hs ρ σ H) (t : Tmp S F sa Hs ρ σ H p o m) : RelS S F sa (upd Hs p o) ρ σ H ∧ Ex Hs (upd Hs p o) ∧ Rep S.K S.cl (upd Hs p o) (.ref p) m.data := by
  have e0 : Ex Hs (upd Hs p o) := Ex.new t.hs
  refine ⟨⟨R.b0.trans e0, fun b u e => ?_, fun b u e => ?_, R.len, R.sal, fun a e => ?_, fun i b e => ?_, R.apart, R.slf, R.f0⟩, e0, (t.r.mono e0).rep upd_same⟩
  · by_cases hb : b = p
    · subst hb; rw [upd_same] at e; cases e; exact t.h
    · rw [upd_ne hb] at e; exact R.ex b u e
  · have nb : b ≠ p := by rintro rfl; rw [t.f] at e; cases e
    obtain ⟨h1, h2⟩ := R.fr b u e
    exact ⟨by rw [upd_ne nb]; exact h1, h2⟩
  · obtain ⟨h1, h2, h3⟩ := R.sav a e
    have na : a ≠ p := by rintro rfl; exact t.s e
    exact ⟨h1.mono e0 fun _ e => e, by rw [upd_ne na]; exact h2, h3⟩
  · obtain ⟨v, h1, h2⟩ := R.vars i b e
    refine ⟨v, h1, ?_⟩
    cases b with
    | d x => exact Rep.mono e0 h2
    | own m' =>
      obtain ⟨q, u, rfl, k1, k2, k3, k4, k5⟩ := h2
      have nq : q ≠ p := by rintro rfl; exact t.na i m' e h1
      exact ⟨q, u, rfl, by rw [upd_ne nq]; exact k1, k2, k3, k4, k5.mono e0⟩
    | st => exact h2
    | exn x => exact RepXB.mono e0 h2
    | rows xs => exact RepRows.mono e0 h2
theorem set_get? {α : Type} {l : List α} {i j : Nat} {x y : α} (h : (l.set i x)[j]? = some y) : (i = j ∧ y = x) ∨ (i ≠ j ∧ l[j]? = some y) := by
  by_cases e : i = j
  · subst e
    by_cases hl : i < l.length
    · rw [List.getElem?_set_self hl] at h; exact .inl ⟨rfl, (Option.some.inj h).symm⟩
    · rw [List.getElem?_eq_none (by simpa using hl)] at h; cases h
  · rw [List.getElem?_set_ne e] at h; exact .inr ⟨e, h⟩
/-- what a name holds alone is frozen -/
theorem RelS.freezeVar (R : RelS S F sa Hs ρ σ H) {i : Nat} (e : ρ[i]? = some (some (.own m))) :
    ∃ Hs', RelS S F sa Hs' (ρ.set i (some (.d m.data))) σ H ∧ Ex Hs Hs' ∧ ∃ v, σ[i]? = some (some v) ∧ Rep S.K S.cl Hs' v m.data := by
  obtain ⟨v, h1, p, o, rfl, k1, k2, k3, k4, k5⟩ := R.vars i _ e
  have e0 : Ex Hs (upd Hs p o) := Ex.new k1
  have hr : Rep S.K S.cl (upd Hs p o) (.ref p) m.data := (k5.mono e0).rep upd_same
  refine ⟨upd Hs p o, ⟨R.b0.trans e0, fun b u e => ?_, fun b u e => ?_, by rw [List.length_set]; exact R.len, R.sal, fun a e => ?_, fun j b ej => ?_, fun j j' q m1 m2 hj e1 e2 => ?_, fun q eq hl => R.slf q eq (by simpa using hl), R.f0⟩, e0, _, h1, hr⟩
  · by_cases hb : b = p
    · subst hb; rw [upd_same] at e; cases e; exact k4
    · rw [upd_ne hb] at e; exact R.ex b u e
  · have nb : b ≠ p := by rintro rfl; rw [k2] at e; cases e
    obtain ⟨h1, h2⟩ := R.fr b u e
    exact ⟨by rw [upd_ne nb]; exact h1, h2⟩
  · obtain ⟨h1, h2, h3⟩ := R.sav a e
    have na : a ≠ p := by rintro rfl; exact k3 e
    exact ⟨h1.mono e0 fun _ e => e, by rw [upd_ne na]; exact h2, h3⟩
  · rcases set_get? ej with ⟨rfl, z⟩ | ⟨ne, ej⟩
    · cases z; exact ⟨_, h1, hr⟩
    · obtain ⟨v, h1', h2⟩ := R.vars j b ej
      refine ⟨v, h1', ?_⟩
      cases b with
      | d x => exact Rep.mono e0 h2
      | own m' =>
        obtain ⟨q, u, rfl, l1, l2, l3, l4, l5⟩ := h2
        have nq : q ≠ p := by rintro rfl; exact R.apart i j q _ _ ne e ej h1 h1'
        exact ⟨q, u, rfl, by rw [upd_ne nq]; exact l1, l2, l3, l4, l5.mono e0⟩
      | st => exact h2
      | exn x => exact RepXB.mono e0 h2
      | rows xs => exact RepRows.mono e0 h2
  · rcases set_get? e1 with ⟨rfl, z⟩ | ⟨n1, e1⟩
    · cases z
    · rcases set_get? e2 with ⟨rfl, z⟩ | ⟨n2, e2⟩
      · cases z
      · exact R.apart j j' q m1 m2 hj e1 e2
end
end Y

/-! Sim2: judgements, expressions, operators, tests. -/
namespace Y
open PySem L2 Evl

def XOk (S : Sx) (F : Hp) (W : WX) (sa : Option Addr) (Hs : Hp) (σ : St) (x : XC) : Prop :=
  ∀ (e : Exn) (ρ' : En) (Hs' H' : Hp) (cls : Value) (dd : Option Addr), Evl.Ex Hs Hs' → RelS S F sa Hs' ρ' σ H' → RepX S Hs' cls dd e → x e ρ' → W cls dd σ H'
theorem XOk.mono {S : Sx} {F : Hp} {W : WX} {sa : Option Addr} {Hs Hs' : Hp} {σ : St} {x : XC} (h : XOk S F W sa Hs σ x) (e : Evl.Ex Hs Hs') : XOk S F W sa Hs' σ x :=
  fun a ρ' b c d f k => h a ρ' b c d f (e.trans k)

def SimE (S : Sx) (W : WX) (t : TE) (d : DE) : Prop := ∀ (F : Hp) (sa : Option Addr) (Hs : Hp) (ρ : En) (σ : St) (H : Hp) (x : XC) (Q : T → En → Prop) (QH : VK),
  RelS S F sa Hs ρ σ H → d ρ x Q → XOk S F W sa Hs σ x →
  (∀ (Hs' : Hp) (ρ' : En) (H' : Hp) (v : V) (r : T), Evl.Ex Hs Hs' → RelS S F sa Hs' ρ' σ H' → RepT S F sa Hs' ρ' σ H' v r → Q r ρ' → QH v H') → t σ H QH
def SimT (S : Sx) (W : WX) (t : TT) (d : DT) : Prop := ∀ (F : Hp) (sa : Option Addr) (Hs : Hp) (ρ : En) (σ : St) (H : Hp) (x : XC) (Q : Bool → En → Prop) (QH : Bool → Hp → Prop),
  RelS S F sa Hs ρ σ H → d ρ x Q → XOk S F W sa Hs σ x →
  (∀ (Hs' : Hp) (ρ' : En) (H' : Hp) (b : Bool), Evl.Ex Hs Hs' → RelS S F sa Hs' ρ' σ H' → Q b ρ' → QH b H') → t σ H QH
/-- arguments: data, or the state -/
def RepA (S : Sx) (sa : Option Addr) (Hs : Hp) (v : V) : T → Prop
  | .d x => Rep S.K S.cl Hs v x
  | .st => ∃ a, sa = some a ∧ v = .ref a
  | _ => False
abbrev RepAs (S : Sx) (sa : Option Addr) (Hs : Hp) : List V → List T → Prop := Paired (RepA S sa Hs)
theorem RepA.mono {S : Sx} {sa : Option Addr} {Hs Hs' : Hp} (e : Evl.Ex Hs Hs') {v : V} {t : T} (h : RepA S sa Hs v t) : RepA S sa Hs' v t := by
  cases t with
  | d x => exact Rep.mono e h
  | st => exact h
  | exn x => exact h
  | own m => exact h
  | brw i => exact h
def SimA (S : Sx) (W : WX) (t : TA) (d : DA) : Prop := ∀ (F : Hp) (sa : Option Addr) (Hs : Hp) (ρ : En) (σ : St) (H : Hp) (x : XC) (Q : List T → En → Prop) (QH : List V → Hp → Prop),
  RelS S F sa Hs ρ σ H → d ρ x Q → XOk S F W sa Hs σ x →
  (∀ (Hs' : Hp) (ρ' : En) (H' : Hp) (vs : List V) (ts : List T), Evl.Ex Hs Hs' → RelS S F sa Hs' ρ' σ H' → RepAs S sa Hs' vs ts → Q ts ρ' → QH vs H') → t σ H QH

structure JE (X : Cx) (S : Sx) (W : WX) (e : Expr) (t : TE) (d : DE) : Prop where
  k : X.K = S.K
  pe : PE X e t
  sim : SimE S W t d
structure JT (X : Cx) (S : Sx) (W : WX) (e : Expr) (t : TT) (d : DT) : Prop where
  k : X.K = S.K
  pt : PT X e t
  sim : SimT S W t d
structure JW (X : Cx) (S : Sx) (W : WX) (e : Expr) (t : TT) (d : DT) : Prop where
  k : X.K = S.K
  pw : PW X e t
  sim : SimT S W t d
structure JA (X : Cx) (S : Sx) (W : WX) (es : List Expr) (t : TA) (d : DA) : Prop where
  k : X.K = S.K
  pa : PA X es t
  sim : SimA S W t d

section
variable {X : Cx} {S : Sx} {W : WX} {e a b : Expr} {t ta tb te : TE} {d da db : DE} {pos : Pos} {sa : Option Addr} {F Hs H : Hp} {ρ : En} {σ : St}

/-! ### names, constants -/
theorem sim_var {i : Nat} : SimE S W (tVar i) (dVar i) := by
  intro F sa Hs ρ σ H x Q QH R h _ k
  unfold dVar at h
  split at h
  · rename_i y e
    obtain ⟨v, h1, h2⟩ := R.vars i _ e
    exact ⟨v, h1, k Hs ρ H v (.d y) (Evl.Ex.refl _) R h2 h⟩
  · rename_i m e
    obtain ⟨v, h1, h2⟩ := R.vars i _ e
    exact ⟨v, h1, k Hs ρ H v (.brw i) (Evl.Ex.refl _) R h1 h⟩
  · rename_i e
    obtain ⟨v, h1, h2⟩ := R.vars i _ e
    exact ⟨v, h1, k Hs ρ H v .st (Evl.Ex.refl _) R h2 h⟩
  · rename_i x e
    obtain ⟨v, h1, h2⟩ := R.vars i _ e
    exact ⟨v, h1, k Hs ρ H v (.exn x) (Evl.Ex.refl _) R h2 h⟩
  · exact h.elim
theorem sim_c {v : V} {y : D} (hr : ∀ K cl H, Rep K cl H v y) : SimE S W (tC v) (dC y) := fun F sa Hs ρ σ H x Q QH R h _ k =>
  k Hs ρ H v (.d y) (Evl.Ex.refl _) R (hr _ _ _) h
theorem je_var (hK : X.K = S.K) (i : Nat) {x : Str} (hN : X.N[i]? = some x := by rfl) (hv : Vis X.env.scope x := by first | exact Or.inl rfl | exact Or.inr (Or.inl rfl) | exact Or.inr (Or.inr rfl)) (hd : (x == ("__debug__" : Str)) = false := by decide)
    (hcd : (x == ("__classdict__" : Str)) = false := by decide) : JE X S W (.Name x pos) (tVar i) (dVar i) := ⟨hK, pe_var hN hv hd hcd, sim_var⟩
theorem je_int (hK : X.K = S.K) {i : Int} {j : Nat} : JE X S W (.Constant (.int i) j pos) (tC (.int i)) (dC (.int i)) := ⟨hK, pe_int, sim_c fun _ _ _ => .int i⟩
theorem je_bl (hK : X.K = S.K) {i : Bool} {j : Nat} : JE X S W (.Constant (.bool i) j pos) (tC (.bl i)) (dC (.bl i)) := ⟨hK, pe_bl, sim_c fun _ _ _ => .bl i⟩
theorem je_non (hK : X.K = S.K) {j : Nat} : JE X S W (.Constant .none j pos) (tC .non) (dC .non) := ⟨hK, pe_non, sim_c fun _ _ _ => .non⟩
theorem je_str (hK : X.K = S.K) (s : Tx) {x : Str} {j : Nat} (hx : x = stx s) : JE X S W (.Constant (.str x) j pos) (tC (.str x)) (dC (.str s)) := ⟨hK, pe_str, sim_c fun _ _ _ => by rw [hx]; exact .str s⟩

/-! ### what a value is, looked at, handed on -/
theorem now_of {v : V} {t : T} {k : D → Prop} (R : RelS S F sa Hs ρ σ H) (r : RepT S F sa Hs ρ σ H v t) (h : look t ρ k) : ∃ y, Now S Hs H v y ∧ k y := by
  cases t with
  | d x => exact ⟨x, .inl r, h⟩
  | own m =>
    obtain ⟨p, o, rfl, q⟩ := r
    exact ⟨_, .inr ⟨p, o, m, rfl, q.h, q.r, rfl⟩, h⟩
  | brw i =>
    unfold look at h
    simp only at h
    split at h
    · rename_i m e
      obtain ⟨v', h1, p, o, rfl, _, _, _, h2, h3⟩ := R.vars i _ e
      have r : σ[i]? = some (some v) := r
      rw [h1] at r
      cases r
      exact ⟨_, .inr ⟨p, o, m, rfl, h2, h3, rfl⟩, h⟩
    · rename_i y e
      obtain ⟨v', h1, h2⟩ := R.vars i _ e
      have r : σ[i]? = some (some v) := r
      rw [h1] at r
      cases r
      exact ⟨_, .inl h2, h⟩
    · exact h.elim
  | st => exact h.elim
  | exn x => exact h.elim
/-- the same behind a further evaluation: a temporary is frozen first -/
theorem hold {v : V} {t : T} (R : RelS S F sa Hs ρ σ H) (r : RepT S F sa Hs ρ σ H v t) : ∃ Hs', Evl.Ex Hs Hs' ∧ RelS S F sa Hs' ρ σ H ∧
    ∀ (Hs2 H2 : Hp) (ρ2 : En) (k : D → Prop), Evl.Ex Hs' Hs2 → RelS S F sa Hs2 ρ2 σ H2 → look t ρ2 k → ∃ y, Now S Hs2 H2 v y ∧ k y := by
  cases t with
  | d x => exact ⟨Hs, Evl.Ex.refl _, R, fun Hs2 H2 ρ2 k e R2 h => ⟨x, .inl (Rep.mono e r), h⟩⟩
  | own m =>
    obtain ⟨p, o, rfl, q⟩ := r
    obtain ⟨R1, e1, r1⟩ := R.freeze q
    exact ⟨_, e1, R1, fun Hs2 H2 ρ2 k e R2 h => ⟨_, .inl (Rep.mono e r1), h⟩⟩
  | brw i => exact ⟨Hs, Evl.Ex.refl _, R, fun Hs2 H2 ρ2 k e R2 h => now_of R2 (t := .brw i) r h⟩
  | st => exact ⟨Hs, Evl.Ex.refl _, R, fun _ _ _ _ _ _ h => h.elim⟩
  | exn x => exact ⟨Hs, Evl.Ex.refl _, R, fun _ _ _ _ _ _ h => h.elim⟩
theorem esc_of {v : V} {t : T} {k : D → En → Prop} (R : RelS S F sa Hs ρ σ H) (r : RepT S F sa Hs ρ σ H v t) (h : esc t ρ k) :
    ∃ Hs' ρ' y, Evl.Ex Hs Hs' ∧ RelS S F sa Hs' ρ' σ H ∧ Rep S.K S.cl Hs' v y ∧ k y ρ' := by
  cases t with
  | d x => exact ⟨Hs, ρ, x, Evl.Ex.refl _, R, r, h⟩
  | own m =>
    obtain ⟨p, o, rfl, q⟩ := r
    obtain ⟨R1, e1, r1⟩ := R.freeze q
    exact ⟨_, ρ, _, e1, R1, r1, h⟩
  | brw i =>
    unfold esc at h
    simp only at h
    have r : σ[i]? = some (some v) := r
    split at h
    · rename_i m e
      obtain ⟨Hs', R1, e1, v', h1, h2⟩ := R.freezeVar e
      rw [h1] at r
      cases r
      exact ⟨Hs', _, _, e1, R1, h2, h⟩
    · rename_i y e
      obtain ⟨v', h1, h2⟩ := R.vars i _ e
      rw [h1] at r
      cases r
      exact ⟨Hs, ρ, y, Evl.Ex.refl _, R, h2, h⟩
    · exact h.elim
  | st => exact h.elim
  | exn x => exact h.elim
theorem arg_of {v : V} {t : T} {k : T → En → Prop} (R : RelS S F sa Hs ρ σ H) (r : RepT S F sa Hs ρ σ H v t) (h : arg t ρ k) :
    ∃ Hs' ρ' y, Evl.Ex Hs Hs' ∧ RelS S F sa Hs' ρ' σ H ∧ RepA S sa Hs' v y ∧ k y ρ' := by
  cases t with
  | st => exact ⟨Hs, ρ, .st, Evl.Ex.refl _, R, r, h⟩
  | exn x => exact h.elim
  | d x => exact ⟨Hs, ρ, .d x, Evl.Ex.refl _, R, r, h⟩
  | own m =>
    obtain ⟨Hs', ρ', y, e, R', r', h'⟩ := esc_of (k := fun y ρ' => k (.d y) ρ') R r h
    exact ⟨Hs', ρ', .d y, e, R', r', h'⟩
  | brw i =>
    obtain ⟨Hs', ρ', y, e, R', r', h'⟩ := esc_of (t := .brw i) (k := fun y ρ' => k (.d y) ρ') R r h
    exact ⟨Hs', ρ', .d y, e, R', r', h'⟩

/-! ### two-place operators -/
def SimO (S : Sx) (r : R2) (f : Op2) : Prop := ∀ (F : Hp) (sa : Option Addr) (Hs : Hp) (ρ : En) (σ : St) (H : Hp) (x y : V) (u v : D) (Q : T → Prop) (QH : VK),
  RelS S F sa Hs ρ σ H → Now S Hs H x u → Now S Hs H y v → f u v Q →
  (∀ (Hs' H' : Hp) (w : V) (t : T), Evl.Ex Hs Hs' → RelS S F sa Hs' ρ σ H' → RepT S F sa Hs' ρ σ H' w t → Q t → QH w H') → r x y H QH
theorem sim_bin {r : R2} {f : Op2} (ho : SimO S r f) (ha : SimE S W ta da) (hb : SimE S W tb db) : SimE S W (tOp r ta tb) (dBin f da db) := by
  intro F sa Hs ρ σ H x Q QH R h hx k
  refine ha F sa Hs ρ σ H x _ _ R h hx fun Hs1 ρ1 H1 v1 r1 e1 R1 q1 h1 => ?_
  obtain ⟨Hs1', e1', R1', now1⟩ := hold R1 q1
  refine hb F sa Hs1' ρ1 σ H1 x _ _ R1' h1 (hx.mono (e1.trans e1')) fun Hs2 ρ2 H2 v2 r2 e2 R2 q2 h2 => ?_
  obtain ⟨y1, n1, h3⟩ := now1 Hs2 H2 ρ2 _ e2 R2 h2
  obtain ⟨y2, n2, h4⟩ := now_of R2 q2 h3
  exact ho F sa Hs2 ρ2 σ H2 v1 v2 y1 y2 _ QH R2 n1 n2 h4 fun Hs3 H3 w t e3 R3 q3 h5 => k Hs3 ρ2 H3 w t (((e1.trans e1').trans e2).trans e3) R3 q3 h5
theorem je_bin {op : Operator} {r : R2} {f : Op2} (hr : OpR X (binaryOp op) r) (ho : SimO S r f) (ha : JE X S W a ta da) (hb : JE X S W b tb db) : JE X S W (.BinOp a op b pos) (tOp r ta tb) (dBin f da db) :=
  ⟨ha.k, pe_op hr ha.pe hb.pe, sim_bin ho ha.sim hb.sim⟩
theorem je_cmp {op : CmpOp} {r : R2} {f : Op2} (hr : OpR X (compareOp op) r) (ho : SimO S r f) (ha : JE X S W a ta da) (hb : JE X S W b tb db) (hm : behindInMarks op b = false) : JE X S W (.Compare a [op] [b] pos) (tOp r ta tb) (dBin f da db) :=
  ⟨ha.k, pe_cmpR hr ha.pe hb.pe hm, sim_bin ho ha.sim hb.sim⟩
theorem OpR.or {g : Value → Value → Sem Value} {r r' : R2} (h : OpR X g r) (h' : OpR X g r') : OpR X g (fun x y H Q => r x y H Q ∨ r' x y H Q) := by
  intro pins s σ H x y v u Q I rx ry q
  rcases q with q | q
  · exact h pins s σ H x y v u Q I rx ry q
  · exact h' pins s σ H x y v u Q I rx ry q

/-! tests -/
theorem sim_tB (h : SimE S W ta da) : SimT S W (L2.tB ta) (tB da) := by
  intro F sa Hs ρ σ H x Q QH R hd hx k
  refine h F sa Hs ρ σ H x _ _ R hd hx fun Hs1 ρ1 H1 v1 r1 e1 R1 q1 h1 => ?_
  obtain ⟨b, rfl, h1⟩ := h1
  cases (show Rep S.K S.cl Hs1 v1 (.bl b) from q1)
  exact ⟨b, rfl, k Hs1 ρ1 H1 b e1 R1 h1⟩
theorem jt_cmp {op : CmpOp} {r : R2} {f : Op2} (hr : OpR X (compareOp op) r) (ho : SimO S r f) (ha : JE X S W a ta da) (hb : JE X S W b tb db) (hm : behindInMarks op b = false) : JT X S W (.Compare a [op] [b] pos) (tTest (tOp r ta tb)) (tB (dBin f da db)) :=
  ⟨ha.k, pt_cmpR hr ha.pe hb.pe hm, sim_tB (sim_bin ho ha.sim hb.sim)⟩
theorem jt_val (h : JE X S W e t d) (he : ∀ whole, isTrue e X.env whole = (do let v ← whole; standAt e.pos; holding [v] (truthy v)) := by intro _; rfl) : JT X S W e (L2.tB t) (tB d) :=
  ⟨h.k, pt_val h.pe he, sim_tB h.sim⟩
section
variable {tA tB' : TT} {dA dB : DT} {rest : List Expr} {c : Expr}
theorem sim_and (ha : SimT S W tA dA) (hb : SimT S W tB' dB) : SimT S W (L2.tAnd tA tB') (tAnd dA dB) := by
  intro F sa Hs ρ σ H x Q QH R h hx k
  refine ha F sa Hs ρ σ H x _ _ R h hx fun Hs1 ρ1 H1 b e1 R1 h1 => ?_
  cases b with
  | true =>
    rw [if_pos rfl] at h1 ⊢
    exact hb F sa Hs1 ρ1 σ H1 x _ _ R1 h1 (hx.mono e1) fun Hs2 ρ2 H2 b e2 R2 h2 => k Hs2 ρ2 H2 b (e1.trans e2) R2 h2
  | false =>
    rw [if_neg Bool.false_ne_true] at h1 ⊢
    exact k Hs1 ρ1 H1 false e1 R1 h1
theorem sim_or (ha : SimT S W tA dA) (hb : SimT S W tB' dB) : SimT S W (L2.tOr tA tB') (tOr dA dB) := by
  intro F sa Hs ρ σ H x Q QH R h hx k
  refine ha F sa Hs ρ σ H x _ _ R h hx fun Hs1 ρ1 H1 b e1 R1 h1 => ?_
  cases b with
  | false =>
    rw [if_neg Bool.false_ne_true] at h1 ⊢
    exact hb F sa Hs1 ρ1 σ H1 x _ _ R1 h1 (hx.mono e1) fun Hs2 ρ2 H2 b e2 R2 h2 => k Hs2 ρ2 H2 b (e1.trans e2) R2 h2
  | true =>
    rw [if_pos rfl] at h1 ⊢
    exact k Hs1 ρ1 H1 true e1 R1 h1
theorem sim_not (ha : SimT S W tA dA) : SimT S W (L2.tNot tA) (tNot dA) := by
  intro F sa Hs ρ σ H x Q QH R h hx k
  exact ha F sa Hs ρ σ H x _ _ R h hx fun Hs1 ρ1 H1 b e1 R1 h1 => k Hs1 ρ1 H1 (!b) e1 R1 h1
theorem jw_and1 (ha : JT X S W a tA dA) : JW X S W (.BoolOp .And [a] pos) tA dA := ⟨ha.k, pw_and1 ha.pt, ha.sim⟩
theorem jw_or1 (ha : JT X S W a tA dA) : JW X S W (.BoolOp .Or [a] pos) tA dA := ⟨ha.k, pw_or1 ha.pt, ha.sim⟩
theorem jw_and (ha : JT X S W a tA dA) (hb : JW X S W (.BoolOp .And (b :: rest) pos) tB' dB) : JW X S W (.BoolOp .And (a :: b :: rest) pos) (L2.tAnd tA tB') (tAnd dA dB) :=
  ⟨ha.k, pw_and ha.pt hb.pw, sim_and ha.sim hb.sim⟩
theorem jw_or (ha : JT X S W a tA dA) (hb : JW X S W (.BoolOp .Or (b :: rest) pos) tB' dB) : JW X S W (.BoolOp .Or (a :: b :: rest) pos) (L2.tOr tA tB') (tOr dA dB) :=
  ⟨ha.k, pw_or ha.pt hb.pw, sim_or ha.sim hb.sim⟩
theorem JW.jt (h : JW X S W e tA dA) : JT X S W e tA dA := ⟨h.k, h.pw.pt, h.sim⟩
theorem jt_not (ha : JT X S W a tA dA) : JT X S W (.UnaryOp .Not a pos) (L2.tNot tA) (tNot dA) := ⟨ha.k, pt_not ha.pt, sim_not ha.sim⟩
theorem je_if (hc : JT X S W c tA dA) (ha : JE X S W a ta da) (hb : JE X S W b tb db) : JE X S W (.IfExp c a b pos) (L2.tIf tA ta tb) (dIf dA da db) := by
  refine ⟨ha.k, pe_ifExp hc.pt ha.pe hb.pe, fun F sa Hs ρ σ H x Q QH R h hx k => ?_⟩
  refine hc.sim F sa Hs ρ σ H x _ _ R h hx fun Hs1 ρ1 H1 b e1 R1 h1 => ?_
  cases b with
  | true =>
    rw [if_pos rfl] at h1 ⊢
    exact ha.sim F sa Hs1 ρ1 σ H1 x _ _ R1 h1 (hx.mono e1) fun Hs2 ρ2 H2 v r e2 R2 q2 h2 => k Hs2 ρ2 H2 v r (e1.trans e2) R2 q2 h2
  | false =>
    rw [if_neg Bool.false_ne_true] at h1 ⊢
    exact hb.sim F sa Hs1 ρ1 σ H1 x _ _ R1 h1 (hx.mono e1) fun Hs2 ρ2 H2 v r e2 R2 q2 h2 => k Hs2 ρ2 H2 v r (e1.trans e2) R2 q2 h2
theorem je_one {op : BoolOp} {t : TE} {d : DE} (h : JE X S W a t d) : JE X S W (.BoolOp op [a] pos) t d := ⟨h.k, pe_one h.pe, h.sim⟩
theorem je_and (ha : JE X S W a ta da) (hb : JE X S W (.BoolOp .And (b :: rest) pos) tb db) : JE X S W (.BoolOp .And (a :: b :: rest) pos) (L2.tAndV ta tb) (dAnd da db) := by
  refine ⟨ha.k, pe_and ha.pe hb.pe, fun F sa Hs ρ σ H x Q QH R h hx k => ?_⟩
  refine ha.sim F sa Hs ρ σ H x _ _ R h hx fun Hs1 ρ1 H1 v1 r1 e1 R1 q1 h1 => ?_
  obtain ⟨c, rfl, h1⟩ := h1
  cases (show Rep S.K S.cl Hs1 v1 (.bl c) from q1)
  refine ⟨c, rfl, ?_⟩
  cases c with
  | true =>
    rw [if_pos rfl] at h1 ⊢
    exact hb.sim F sa Hs1 ρ1 σ H1 x _ _ R1 h1 (hx.mono e1) fun Hs2 ρ2 H2 v r e2 R2 q2 h2 => k Hs2 ρ2 H2 v r (e1.trans e2) R2 q2 h2
  | false =>
    rw [if_neg Bool.false_ne_true] at h1 ⊢
    exact k Hs1 ρ1 H1 _ (bv false) e1 R1 (Rep.bl false) h1
theorem je_or (ha : JE X S W a ta da) (hb : JE X S W (.BoolOp .Or (b :: rest) pos) tb db) : JE X S W (.BoolOp .Or (a :: b :: rest) pos) (L2.tOrV ta tb) (dOr da db) := by
  refine ⟨ha.k, pe_or ha.pe hb.pe, fun F sa Hs ρ σ H x Q QH R h hx k => ?_⟩
  refine ha.sim F sa Hs ρ σ H x _ _ R h hx fun Hs1 ρ1 H1 v1 r1 e1 R1 q1 h1 => ?_
  obtain ⟨c, rfl, h1⟩ := h1
  cases (show Rep S.K S.cl Hs1 v1 (.bl c) from q1)
  refine ⟨c, rfl, ?_⟩
  cases c with
  | false =>
    rw [if_neg Bool.false_ne_true] at h1 ⊢
    exact hb.sim F sa Hs1 ρ1 σ H1 x _ _ R1 h1 (hx.mono e1) fun Hs2 ρ2 H2 v r e2 R2 q2 h2 => k Hs2 ρ2 H2 v r (e1.trans e2) R2 q2 h2
  | true =>
    rw [if_pos rfl] at h1 ⊢
    exact k Hs1 ρ1 H1 _ (bv true) e1 R1 (Rep.bl true) h1
theorem je_not (ha : JE X S W a ta da) : JE X S W (.UnaryOp .Not a pos) (L2.tNotV ta) (dNot da) := by
  refine ⟨ha.k, pe_not ha.pe, fun F sa Hs ρ σ H x Q QH R h hx k => ?_⟩
  refine ha.sim F sa Hs ρ σ H x _ _ R h hx fun Hs1 ρ1 H1 v1 r1 e1 R1 q1 h1 => ?_
  obtain ⟨c, rfl, h1⟩ := h1
  cases (show Rep S.K S.cl Hs1 v1 (.bl c) from q1)
  exact ⟨c, rfl, k Hs1 ρ1 H1 _ (bv (!c)) e1 R1 (Rep.bl (!c)) h1⟩
end

/-! ### the operators -/
theorem Now.int {v : V} {i : Int} (h : Now S Hs H v (.int i)) : v = .int i := by
  rcases h with h | ⟨p, o, m, rfl, hp, hm, e⟩
  · cases h; rfl
  · cases m <;> cases e
theorem Now.str {v : V} {s : Tx} (h : Now S Hs H v (.str s)) : v = .str (stx s) := by
  rcases h with h | ⟨p, o, m, rfl, hp, hm, e⟩
  · cases h; rfl
  · cases m <;> cases e
theorem Now.bl {v : V} {s : Bool} (h : Now S Hs H v (.bl s)) : v = .bl s := by
  rcases h with h | ⟨p, o, m, rfl, hp, hm, e⟩
  · cases h; rfl
  · cases m <;> cases e
theorem Now.non {v : V} (h : Now S Hs H v .non) : v = .non := by
  rcases h with h | ⟨p, o, m, rfl, hp, hm, e⟩
  · cases h; rfl
  · cases m <;> cases e
theorem Now.lst {v : V} {ds : List D} (e : Evl.Ex Hs H) (h : Now S Hs H v (.lst ds)) : ∃ p xs, v = .ref p ∧ H p = some (.lst xs) ∧ Reps S.K S.cl Hs xs ds := by
  rcases h with h | ⟨p, o, m, rfl, hp, hm, em⟩
  · cases h with
    | lst h r => exact ⟨_, _, rfl, e _ _ h, r⟩
  · cases m <;> cases em
    cases o <;> first | exact hm.elim | exact ⟨p, _, rfl, hp, hm⟩
theorem Now.tup {v : V} {ds : List D} (h : Now S Hs H v (.tup ds)) : ∃ p xs, v = .ref p ∧ SqT S.K Hs p xs ∧ Reps S.K S.cl Hs xs ds := by
  rcases h with h | ⟨p, o, m, rfl, hp, hm, em⟩
  · cases h with
    | tup h r => exact ⟨_, _, rfl, .of h, r⟩
  · cases m <;> cases em
theorem Now.tupS {v : V} {ds : List D} (h : Now S Hs H v (.tup ds)) : ∃ p xs, v = .ref p ∧ Hs p = some (.tup xs) ∧ Reps S.K S.cl Hs xs ds := by
  rcases h with h | ⟨p, o, m, rfl, hp, hm, em⟩
  · cases h with
    | tup h r => exact ⟨_, _, rfl, h, r⟩
  · cases m <;> cases em
theorem Reps.size {K : PySem.W.Frag} {cl : String → Addr} {xs : List V} {ds : List D} (h : Reps K cl H xs ds) : xs.length = ds.length := Reps.length h
theorem sz_eq : SZ = sizeLine := by rw [sizeLine_eq]; rfl

/-- the answer is flat data -/
theorem flat_end {QH : VK} {w : V} {t : T} {Q : T → Prop} (R : RelS S F sa Hs ρ σ H)
    (k : ∀ (Hs' H' : Hp) (w : V) (t : T), Evl.Ex Hs Hs' → RelS S F sa Hs' ρ σ H' → RepT S F sa Hs' ρ σ H' w t → Q t → QH w H') (r : RepT S F sa Hs ρ σ H w t) (h : Q t) : QH w H := k Hs H w t (Evl.Ex.refl _) R r h
def rAddAny : R2 := fun x y H Q => rI0 (fun i j => .int (i + j)) x y H Q ∨ (∃ i j, x = .str i ∧ y = .str j ∧ i.length + j.length ≤ sizeLine ∧ Q (.str (i ++ j)) H) ∨ L2.rCat x y H Q
theorem op_addAny : OpR X (binaryOp .Add) rAddAny := OpR.or op_add (OpR.or op_add_str op_cat)
theorem str_app (s t : Tx) : stx s ++ stx t = stx (s ++ t) := by
  show (⟨s.toArray ++ t.toArray⟩ : Str) = ⟨(s ++ t).toArray⟩
  congr 1
  simp
theorem so_add : SimO S rAddAny oAdd := by
  intro F sa Hs ρ σ H x y u v Q QH R nx ny h k
  unfold oAdd at h
  split at h
  · cases nx.int; cases ny.int
    exact .inl ⟨_, _, rfl, rfl, flat_end R k (w := .int _) (t := iv _) (Rep.int _) h⟩
  · cases nx.str; cases ny.str
    obtain ⟨hz, h⟩ := h
    refine .inr (.inl ⟨_, _, rfl, rfl, by rw [stx_len, stx_len, ← sz_eq]; exact hz, ?_⟩)
    rw [str_app]
    exact flat_end R k (t := sv _) (Rep.str _) h
  · obtain ⟨⟨z1, z2, z3⟩, h⟩ := h
    obtain ⟨p, xs, rfl, hp, rx⟩ := nx.lst R.ex
    obtain ⟨q, ys, rfl, hq, ry⟩ := ny.lst R.ex
    have l1 := rx.length
    have l2 := ry.length
    refine .inr (.inr ⟨p, q, xs, ys, rfl, rfl, hp, hq, by rw [← sz_eq]; omega, fun l hl => ?_⟩)
    obtain ⟨R1, t1⟩ := R.newOwn (m := .lst _) hl (show RepM S.K S.cl Hs (.lst (xs ++ ys)) _ from rx.append ry)
    exact k Hs _ _ (.own (.lst _)) (Evl.Ex.refl _) R1 ⟨l, _, rfl, t1⟩ h
  · exact h.elim
end
end Y

/-! Sim3: the further operators, displays, calls of built-ins. -/
namespace Y
open PySem L2 Evl
section
variable {X : Cx} {S : Sx} {W : WX} {e a b : Expr} {t ta tb te : TE} {d da db : DE} {pos : Pos} {sa : Option Addr} {F Hs H : Hp} {ρ : En} {σ : St}

def rSubI : R2 := rI0 fun i j => .int (i - j)
theorem so_sub : SimO S rSubI oSub := by
  intro F sa Hs ρ σ H x y u v Q QH R nx ny h k
  unfold oSub at h
  split at h
  · cases nx.int; cases ny.int
    exact ⟨_, _, rfl, rfl, flat_end R k (w := .int _) (t := iv _) (Rep.int _) h⟩
  · exact h.elim
def rMulI : R2 := rI CMul fun i j => .int (i * j)
theorem so_mul : SimO S rMulI oMul := by
  intro F sa Hs ρ σ H x y u v Q QH R nx ny h k
  unfold oMul at h
  split at h
  · cases nx.int; cases ny.int
    obtain ⟨hc, h⟩ := h
    exact ⟨_, _, rfl, rfl, hc, flat_end R k (w := .int _) (t := iv _) (Rep.int _) h⟩
  · exact h.elim
def rDivI : R2 := rI CDiv fun i j => .int (i / j)
theorem so_div : SimO S rDivI oDiv := by
  intro F sa Hs ρ σ H x y u v Q QH R nx ny h k
  unfold oDiv at h
  split at h
  · cases nx.int; cases ny.int
    obtain ⟨hc, h⟩ := h
    exact ⟨_, _, rfl, rfl, hc, flat_end R k (w := .int _) (t := iv _) (Rep.int _) h⟩
  · exact h.elim
def rModI : R2 := rI (fun _ j => 0 < j) fun i j => .int (i % j)
theorem so_mod : SimO S rModI oMod := by
  intro F sa Hs ρ σ H x y u v Q QH R nx ny h k
  unfold oMod at h
  split at h
  · cases nx.int; cases ny.int
    obtain ⟨hc, h⟩ := h
    exact ⟨_, _, rfl, rfl, hc, flat_end R k (w := .int _) (t := iv _) (Rep.int _) h⟩
  · exact h.elim
def rPowI : R2 := rI CPow fun i j => .int (i ^ j.toNat)
theorem so_pow : SimO S rPowI oPow := by
  intro F sa Hs ρ σ H x y u v Q QH R nx ny h k
  unfold oPow at h
  split at h
  · cases nx.int; cases ny.int
    obtain ⟨hc, h⟩ := h
    exact ⟨_, _, rfl, rfl, hc, flat_end R k (w := .int _) (t := iv _) (Rep.int _) h⟩
  · exact h.elim
def SimU (S : Sx) (r : V → Hp → VK → Prop) (f : Op1) : Prop := ∀ (F : Hp) (sa : Option Addr) (Hs : Hp) (ρ : En) (σ : St) (H : Hp) (x : V) (u : D) (Q : T → Prop) (QH : VK),
  RelS S F sa Hs ρ σ H → Now S Hs H x u → f u Q →
  (∀ (Hs' H' : Hp) (w : V) (t : T), Evl.Ex Hs Hs' → RelS S F sa Hs' ρ σ H' → RepT S F sa Hs' ρ σ H' w t → Q t → QH w H') → r x H QH
theorem sim_un {r : V → Hp → VK → Prop} {f : Op1} (ho : SimU S r f) (ha : SimE S W ta da) : SimE S W (tUn r ta) (dUn f da) := by
  intro F sa Hs ρ σ H x Q QH R h hx k
  refine ha F sa Hs ρ σ H x _ _ R h hx fun Hs1 ρ1 H1 v1 r1 e1 R1 q1 h1 => ?_
  obtain ⟨y1, n1, h3⟩ := now_of R1 q1 h1
  exact ho F sa Hs1 ρ1 σ H1 v1 y1 _ QH R1 n1 h3 fun Hs3 H3 w t e3 R3 q3 h5 => k Hs3 ρ1 H3 w t (e1.trans e3) R3 q3 h5
def rNegI : V → Hp → VK → Prop := rU fun i => .int (-i)
theorem su_neg : SimU S rNegI oNeg := by
  intro F sa Hs ρ σ H x u Q QH R nx h k
  unfold oNeg at h
  split at h
  · cases nx.int
    exact ⟨_, rfl, flat_end R k (w := .int _) (t := iv _) (Rep.int _) h⟩
  · exact h.elim
theorem je_neg (ha : JE X S W a ta da) : JE X S W (.UnaryOp .USub a pos) (tUn rNegI ta) (dUn oNeg da) := ⟨ha.k, pe_un un_neg ha.pe, sim_un su_neg ha.sim⟩

/-! ### == -/
mutual
def toPy : D → PyData
  | .non => .none
  | .bl b => .bool b
  | .int i => .int i
  | .str s => .str (stx s)
  | .tup xs => .tuple (toPys xs)
  | .lst xs => .list (toPys xs)
  | _ => .none
def toPys : List D → List PyData
  | [] => []
  | x :: xs => toPy x :: toPys xs
end
theorem beq_stx (x y : Tx) : (stx x == stx y) = (x == y) := by
  by_cases h : x = y
  · subst h; simp
  · have : stx x ≠ stx y := fun e => h (stx_inj e)
    rw [beq_eq_false_iff_ne.mpr this, beq_eq_false_iff_ne.mpr h]
mutual
theorem eqv_py : ∀ (n m : Nat) (x y : D), x.plain n = true → y.plain m = true → PyData.eqv (toPy x) (toPy y) = D.eqv x y
  | n, m, .non, y, hx, hy => by cases y <;> first | rfl | (cases m <;> cases hy)
  | n, m, .bl b, y, hx, hy => by cases y <;> first | rfl | (cases m <;> cases hy)
  | n, m, .int b, y, hx, hy => by cases y <;> first | rfl | (cases m <;> cases hy)
  | n, m, .str b, y, hx, hy => by cases y <;> first | exact beq_stx _ _ | rfl | (cases m <;> cases hy)
  | 0, m, .tup xs, y, hx, hy => by cases hx
  | 0, m, .lst xs, y, hx, hy => by cases hx
  | n + 1, 0, .tup xs, y, hx, hy => by cases y <;> first | rfl | cases hy
  | n + 1, 0, .lst xs, y, hx, hy => by cases y <;> first | rfl | cases hy
  | n + 1, m + 1, .tup xs, .tup ys, hx, hy => eqv_pys n m xs ys hx hy
  | n + 1, m + 1, .lst xs, .lst ys, hx, hy => eqv_pys n m xs ys hx hy
  | n + 1, m + 1, .tup xs, .non, hx, hy => rfl
  | n + 1, m + 1, .tup xs, .bl _, hx, hy => rfl
  | n + 1, m + 1, .tup xs, .int _, hx, hy => rfl
  | n + 1, m + 1, .tup xs, .str _, hx, hy => rfl
  | n + 1, m + 1, .tup xs, .lst _, hx, hy => rfl
  | n + 1, m + 1, .lst xs, .non, hx, hy => rfl
  | n + 1, m + 1, .lst xs, .bl _, hx, hy => rfl
  | n + 1, m + 1, .lst xs, .int _, hx, hy => rfl
  | n + 1, m + 1, .lst xs, .str _, hx, hy => rfl
  | n + 1, m + 1, .lst xs, .tup _, hx, hy => rfl
  | n, m, .dic _, _, hx, _ => by cases n <;> cases hx
  | n, m, .dit _, _, hx, _ => by cases n <;> cases hx
  | n, m, .ins _ _, _, hx, _ => by cases n <;> cases hx
  | n + 1, m + 1, .tup _, .dic _, hx, hy => by cases hy
  | n + 1, m + 1, .tup _, .dit _, hx, hy => by cases hy
  | n + 1, m + 1, .tup _, .ins _ _, hx, hy => by cases hy
  | n + 1, m + 1, .lst _, .dic _, hx, hy => by cases hy
  | n + 1, m + 1, .lst _, .dit _, hx, hy => by cases hy
  | n + 1, m + 1, .lst _, .ins _ _, hx, hy => by cases hy
theorem eqv_pys : ∀ (n m : Nat) (xs ys : List D), D.plainAll n xs = true → D.plainAll m ys = true → PyData.eqvAll (toPys xs) (toPys ys) = D.eqvAll xs ys
  | n, m, [], [], hx, hy => rfl
  | n, m, [], _ :: _, hx, hy => rfl
  | n, m, _ :: _, [], hx, hy => rfl
  | n, m, x :: xs, y :: ys, hx, hy => by
    simp only [D.plainAll, Bool.and_eq_true] at hx hy
    show (PyData.eqv (toPy x) (toPy y) && PyData.eqvAll (toPys xs) (toPys ys)) = (D.eqv x y && D.eqvAll xs ys)
    rw [eqv_py n m x y hx.1 hy.1, eqv_pys n m xs ys hx.2 hy.2]
end

theorem strOk_stx {s : Tx} (h : txOk s = true) : PyData.strOk (stx s) = true := by
  unfold PyData.strOk stx
  unfold txOk at h
  simp only [List.all_toArray] at *
  simpa using h
mutual
theorem canLay_py : ∀ (n : Nat) (x : D), x.plain n = true → (toPy x).canLay0 = true
  | n, .non, h => rfl
  | n, .bl _, h => rfl
  | n, .int _, h => rfl
  | n, .str s, h => by
    have : txOk s = true := by cases n <;> exact h
    exact strOk_stx this
  | n + 1, .tup xs, h => canLay_pys n xs h
  | n + 1, .lst xs, h => canLay_pys n xs h
  | 0, .tup xs, h => by cases h
  | 0, .lst xs, h => by cases h
  | n, .dic _, h => by cases n <;> cases h
  | n, .dit _, h => by cases n <;> cases h
  | n, .ins _ _, h => by cases n <;> cases h
theorem canLay_pys : ∀ (n : Nat) (xs : List D), D.plainAll n xs = true → PyData.canLayAll0 (toPys xs) = true
  | n, [], h => rfl
  | n, x :: xs, h => by
    simp only [D.plainAll, Bool.and_eq_true] at h
    show ((toPy x).canLay0 && PyData.canLayAll0 (toPys xs)) = true
    rw [canLay_py n x h.1, canLay_pys n xs h.2]; rfl
end
mutual
theorem depth_py : ∀ (n : Nat) (x : D), x.plain n = true → (toPy x).depth ≤ n
  | n, .non, h => Nat.zero_le _
  | n, .bl _, h => Nat.zero_le _
  | n, .int _, h => Nat.zero_le _
  | n, .str s, h => Nat.zero_le _
  | n + 1, .tup xs, h => Nat.succ_le_succ (depth_pys n xs h)
  | n + 1, .lst xs, h => Nat.succ_le_succ (depth_pys n xs h)
  | 0, .tup xs, h => by cases h
  | 0, .lst xs, h => by cases h
  | n, .dic _, h => by cases n <;> cases h
  | n, .dit _, h => by cases n <;> cases h
  | n, .ins _ _, h => by cases n <;> cases h
theorem depth_pys : ∀ (n : Nat) (xs : List D), D.plainAll n xs = true → PyData.depthAll (toPys xs) ≤ n
  | n, [], h => Nat.zero_le _
  | n, x :: xs, h => by
    simp only [D.plainAll, Bool.and_eq_true] at h
    exact Nat.max_le.mpr ⟨depth_py n x h.1, depth_pys n xs h.2⟩
end
theorem shaped_py {x : D} (h : x.plain 20 = true) : SeqAt.shaped (toPy x) = true := by
  unfold SeqAt.shaped
  rw [canLay_py 20 x h, Bool.true_and]
  exact decide_eq_true (Nat.le_trans (depth_py 20 x h) (by decide))
mutual
theorem dp_of {K : PySem.W.Frag} {cl : String → Addr} {H : Hp} : ∀ (n : Nat) {v : V} {x : D}, Rep K cl H v x → x.plain n = true → Dp K H v (toPy x)
  | n, _, _, .non, h => .non
  | n, _, _, .bl b, h => .bl b
  | n, _, _, .int i, h => .int i
  | n, _, _, .str s, h => .str _
  | n + 1, _, _, .tup hp r, h => .tup (.of hp) (dp_all n r h)
  | n + 1, _, _, .lst hp r, h => .lst (.of hp) (dp_all n r h)
  | 0, _, _, .tup hp r, h => by cases h
  | 0, _, _, .lst hp r, h => by cases h
  | n, _, _, .dic _ _, h => by cases n <;> cases h
  | n, _, _, .dit _ _, h => by cases n <;> cases h
  | n, _, _, .ins _ _, h => by cases n <;> cases h
theorem dp_all {K : PySem.W.Frag} {cl : String → Addr} {H : Hp} : ∀ (n : Nat) {v : List V} {x : List D}, Reps K cl H v x → D.plainAll n x = true → DpAll K H v (toPys x)
  | n, _, _, .nil, h => .nil
  | n, _, _, .cons r t, h => by
    simp only [D.plainAll, Bool.and_eq_true] at h
    exact .cons (dp_of n r h.1) (dp_all n t h.2)
end
theorem scal_of {x y : V} {u v : D} (nx : Now S Hs H x u) (ny : Now S Hs H y v) (h : scalD u v = true) : scal x y = true ∧ decide (x = y) = D.eqv u v := by
  unfold scalD at h
  split at h <;> first
    | cases h
    | skip
  all_goals
    first
      | cases nx.int
      | cases nx.str
      | cases nx.bl
      | cases nx.non
    first
      | cases ny.int
      | cases ny.str
      | cases ny.bl
      | cases ny.non
    refine ⟨rfl, ?_⟩
    first
      | rfl
      | exact dec_int
      | exact (decide_eq_false (by intro z; cases z))
      | skip
  · rename_i a b
    cases a <;> cases b <;> rfl
  · rename_i s t
    show decide (V.str (stx s) = V.str (stx t)) = (s == t)
    by_cases e : s = t
    · subst e; simp
    · rw [beq_eq_false_iff_ne.mpr e]
      exact decide_eq_false fun z => e (stx_inj (V.str.inj z))
def rEqAny (K : PySem.W.Frag) : R2 := fun x y H Q => rEq x y H Q ∨ rEqD K x y H Q
def rNeAny (K : PySem.W.Frag) : R2 := fun x y H Q => rNe x y H Q ∨ rNeD K x y H Q
theorem op_eqAny {K' : PySem.W.Frag} (hK : X.K = K') (hu : X.A.units + 64 < cLine) : OpR X (compareOp .Eq) (rEqAny K') := by rw [← hK]; exact OpR.or op_eq (op_eqD hu)
theorem op_neAny {K' : PySem.W.Frag} (hK : X.K = K') (hu : X.A.units + 64 < cLine) : OpR X (compareOp .NotEq) (rNeAny K') := by rw [← hK]; exact OpR.or op_ne (op_neD hu)
theorem so_eq : SimO S (rEqAny S.K) oEq := by
  intro F sa Hs ρ σ H x y u v Q QH R nx ny h k
  obtain ⟨hc, h⟩ := h
  rcases hc with hc | ⟨h1, h2⟩
  · obtain ⟨z1, z2⟩ := scal_of nx ny hc
    refine .inl ⟨z1, ?_⟩
    rw [z2]
    exact flat_end R k (t := bv _) (Rep.bl _) h
  · refine .inr ⟨_, _, dp_of 20 (nx.rep R.ex) h1, dp_of 20 (ny.rep R.ex) h2, shaped_py h1, shaped_py h2, ?_⟩
    rw [eqv_py 20 20 u v h1 h2]
    exact flat_end R k (t := bv _) (Rep.bl _) h
theorem so_ne : SimO S (rNeAny S.K) oNe := by
  intro F sa Hs ρ σ H x y u v Q QH R nx ny h k
  obtain ⟨hc, h⟩ := h
  rcases hc with hc | ⟨h1, h2⟩
  · obtain ⟨z1, z2⟩ := scal_of nx ny hc
    refine .inl ⟨z1, ?_⟩
    rw [z2]
    exact flat_end R k (t := bv _) (Rep.bl _) h
  · refine .inr ⟨_, _, dp_of 20 (nx.rep R.ex) h1, dp_of 20 (ny.rep R.ex) h2, shaped_py h1, shaped_py h2, ?_⟩
    rw [eqv_py 20 20 u v h1 h2]
    exact flat_end R k (t := bv _) (Rep.bl _) h

/-! ### < and its like -/
theorem txLt_iff : ∀ (s t : Tx), decide (s < t) = txLt s t
  | [], [] => rfl
  | [], _ :: _ => rfl
  | _ :: _, [] => rfl
  | a :: s, b :: t => by
    have ih := txLt_iff s t
    show _ = (decide (a < b) || (a == b && txLt s t))
    rw [← ih]
    by_cases h1 : a < b
    · rw [decide_eq_true h1, Bool.true_or]
      exact decide_eq_true (List.cons_lt_cons_iff.mpr (.inl h1))
    · rw [decide_eq_false h1, Bool.false_or]
      by_cases h2 : a = b
      · subst h2
        rw [beq_self_eq_true, Bool.true_and]
        have : (a :: s < a :: t) ↔ s < t := by rw [List.cons_lt_cons_iff]; constructor
                                               · rintro (h | h)
                                                 · exact absurd h h1
                                                 · exact h.2
                                               · intro h; exact .inr ⟨rfl, h⟩
        simp only [this]
      · rw [beq_eq_false_iff_ne.mpr h2, Bool.false_and]
        refine decide_eq_false fun h => ?_
        rcases List.cons_lt_cons_iff.mp h with h | h
        · exact h1 h
        · exact h2 h.1
def rLtAny : R2 := fun x y H Q => rI0 (fun i j => .bl (decide (i < j))) x y H Q ∨ ∃ i j, x = .str i ∧ y = .str j ∧ Q (.bl (decide (i.cps.toList < j.cps.toList))) H
def rGtAny : R2 := fun x y H Q => rI0 (fun i j => .bl (decide (j < i))) x y H Q ∨ ∃ i j, x = .str i ∧ y = .str j ∧ Q (.bl (decide (j.cps.toList < i.cps.toList))) H
def rLeAny : R2 := fun x y H Q => rI0 (fun i j => .bl (decide (i ≤ j))) x y H Q ∨ ∃ i j, x = .str i ∧ y = .str j ∧ Q (.bl (!decide (j.cps.toList < i.cps.toList))) H
def rGeAny : R2 := fun x y H Q => rI0 (fun i j => .bl (decide (j ≤ i))) x y H Q ∨ ∃ i j, x = .str i ∧ y = .str j ∧ Q (.bl (!decide (i.cps.toList < j.cps.toList))) H
theorem op_ltAny : OpR X (compareOp .Lt) rLtAny := OpR.or op_lt op_lt_str
theorem op_gtAny : OpR X (compareOp .Gt) rGtAny := OpR.or op_gt op_gt_str
theorem op_leAny : OpR X (compareOp .LtE) rLeAny := OpR.or op_le op_le_str
theorem op_geAny : OpR X (compareOp .GtE) rGeAny := OpR.or op_ge op_ge_str
theorem so_lt : SimO S rLtAny oLt := by
  intro F sa Hs ρ σ H x y u v Q QH R nx ny h k
  unfold oLt at h
  split at h
  · cases nx.int; cases ny.int
    exact .inl ⟨_, _, rfl, rfl, flat_end R k (t := bv _) (Rep.bl _) h⟩
  · cases nx.str; cases ny.str
    refine .inr ⟨_, _, rfl, rfl, ?_⟩
    rw [stx_list, stx_list, txLt_iff]
    exact flat_end R k (t := bv _) (Rep.bl _) h
  · exact h.elim
theorem so_gt : SimO S rGtAny oGt := by
  intro F sa Hs ρ σ H x y u v Q QH R nx ny h k
  unfold oGt at h
  split at h
  · cases nx.int; cases ny.int
    exact .inl ⟨_, _, rfl, rfl, flat_end R k (t := bv _) (Rep.bl _) h⟩
  · cases nx.str; cases ny.str
    refine .inr ⟨_, _, rfl, rfl, ?_⟩
    rw [stx_list, stx_list, txLt_iff]
    exact flat_end R k (t := bv _) (Rep.bl _) h
  · exact h.elim
theorem so_le : SimO S rLeAny oLe := by
  intro F sa Hs ρ σ H x y u v Q QH R nx ny h k
  unfold oLe at h
  split at h
  · cases nx.int; cases ny.int
    exact .inl ⟨_, _, rfl, rfl, flat_end R k (t := bv _) (Rep.bl _) h⟩
  · cases nx.str; cases ny.str
    refine .inr ⟨_, _, rfl, rfl, ?_⟩
    rw [stx_list, stx_list, txLt_iff]
    exact flat_end R k (t := bv _) (Rep.bl _) h
  · exact h.elim
theorem so_ge : SimO S rGeAny oGe := by
  intro F sa Hs ρ σ H x y u v Q QH R nx ny h k
  unfold oGe at h
  split at h
  · cases nx.int; cases ny.int
    exact .inl ⟨_, _, rfl, rfl, flat_end R k (t := bv _) (Rep.bl _) h⟩
  · cases nx.str; cases ny.str
    refine .inr ⟨_, _, rfl, rfl, ?_⟩
    rw [stx_list, stx_list, txLt_iff]
    exact flat_end R k (t := bv _) (Rep.bl _) h
  · exact h.elim
/-! is None -/
def rIsNo : R2 := fun x y H Q => y = .non ∧ Q (.bl (decide (x = .non))) H
def rNotNo : R2 := fun x y H Q => y = .non ∧ Q (.bl (!decide (x = .non))) H
theorem isN_of {v : V} {u : D} (n : Now S Hs H v u) : decide (v = .non) = isN u := by
  rcases n with n | ⟨p, o, m, rfl, _, _, rfl⟩
  · cases n <;> first | rfl | exact decide_eq_false (by intro z; cases z)
  · cases m <;> exact decide_eq_false (by intro z; cases z)
theorem so_isN : SimO S rIsNo oIsN := by
  intro F sa Hs ρ σ H x y u v Q QH R nx ny h k
  unfold oIsN at h
  split at h
  · cases ny.non
    refine ⟨rfl, ?_⟩
    rw [isN_of nx]
    exact flat_end R k (t := bv _) (Rep.bl _) h
  · exact h.elim
theorem so_notN : SimO S rNotNo oNotN := by
  intro F sa Hs ρ σ H x y u v Q QH R nx ny h k
  unfold oNotN at h
  split at h
  · cases ny.non
    refine ⟨rfl, ?_⟩
    rw [isN_of nx]
    exact flat_end R k (t := bv _) (Rep.bl _) h
  · exact h.elim
/-! in -/
theorem flat_v {v : V} {u : D} (r : Rep S.K S.cl H v u) (f : u.flat = true) : flatV v = true := by
  cases r <;> first | rfl | cases f
theorem flat_vs : ∀ {v : List V} {u : List D}, Reps S.K S.cl H v u → u.all D.flat = true → v.all flatV = true
  | _, _, .nil, _ => rfl
  | _, _, .cons r t, f => by
    simp only [List.all_cons, Bool.and_eq_true] at f ⊢
    exact ⟨flat_v r f.1, flat_vs t f.2⟩
theorem eqv_v {v w : V} {u z : D} (r : Rep S.K S.cl H v u) (q : Rep S.K S.cl H w z) (f : u.flat = true) (g : z.flat = true) : eqV v w = D.eqv u z := by
  cases r <;> cases q <;> first | exact beq_stx _ _ | rfl | cases f | cases g
theorem any_v {x : V} {u : D} (r : Rep S.K S.cl H x u) (f : u.flat = true) : ∀ {vs : List V} {ds : List D}, Reps S.K S.cl H vs ds → ds.all D.flat = true → inV x vs = ds.any fun y => D.eqv y u
  | _, _, .nil, _ => rfl
  | _, _, .cons q t, g => by
    simp only [List.all_cons, Bool.and_eq_true] at g
    have ih := any_v r f t g.2
    unfold inV at ih ⊢
    rw [List.any_cons, List.any_cons, eqv_v q r g.1 f, ih]
def rInAny (K : PySem.W.Frag) (neg : Bool) : R2 := fun x y H Q => rIn K neg x y H Q ∨ ∃ (c : Nat) (z : Str), x = .str ⟨#[c]⟩ ∧ y = .str z ∧ Q (.bl (if neg then !decide (c ∈ z.cps.toList) else decide (c ∈ z.cps.toList))) H
theorem op_inAny {K' : PySem.W.Frag} (hK : X.K = K') : OpR X (compareOp .In) (rInAny K' false) := by rw [← hK]; exact OpR.or op_in_seq op_in_sign
theorem op_ninAny {K' : PySem.W.Frag} (hK : X.K = K') : OpR X (compareOp .NotIn) (rInAny K' true) := by rw [← hK]; exact OpR.or op_notIn_seq op_notIn_sign
theorem xor_not (b : Bool) (n : Bool) : (if n then !b else b) = xor n b := by cases n <;> cases b <;> rfl
theorem so_in {neg : Bool} : SimO S (rInAny S.K neg) (oIn neg) := by
  intro F sa Hs ρ σ H x y u v Q QH R nx ny h k
  unfold oIn at h
  split at h
  · obtain ⟨⟨f, g⟩, h⟩ := h
    obtain ⟨p, xs, rfl, hp, rs⟩ := ny.lst R.ex
    have rx := nx.rep R.ex
    refine .inl ⟨p, xs, rfl, .inl (.of hp), flat_v rx f, flat_vs rs g, ?_⟩
    rw [xor_not, any_v rx f (rs.mono R.ex) g]
    exact flat_end R k (t := bv _) (Rep.bl _) h
  · obtain ⟨⟨f, g⟩, h⟩ := h
    obtain ⟨p, xs, rfl, hp, rs⟩ := ny.tup
    have rx := nx.rep R.ex
    refine .inl ⟨p, xs, rfl, .inr (ex_t R.ex hp), flat_v rx f, flat_vs rs g, ?_⟩
    rw [xor_not, any_v rx f (rs.mono R.ex) g]
    exact flat_end R k (t := bv _) (Rep.bl _) h
  · split at h
    · cases nx.str; cases ny.str
      refine .inr ⟨_, _, rfl, rfl, ?_⟩
      rw [xor_not, stx_list]
      have e : ∀ (c : Nat) (t : Tx), decide (c ∈ t) = t.contains c := by intro c t; simp
      rw [e]
      exact flat_end R k (t := bv _) (Rep.bl _) h
    · exact h.elim
  · exact h.elim
/-! places, lengths -/
theorem ixOf_eq (n : Nat) (i : Int) : ixOf n i = ixN n i := rfl
theorem so_ix : SimO S (rIx S.K) oIx := by
  intro F sa Hs ρ σ H x y u v Q QH R nx ny h k
  unfold oIx at h
  split at h
  · cases ny.int
    split at h
    · obtain ⟨j, z, e1, e2, h⟩ := h
      obtain ⟨p, xs, rfl, hp, rs⟩ := nx.lst R.ex
      obtain ⟨w, e3, r⟩ := rs.get e2
      refine .inl ⟨p, xs, _, w, rfl, rfl, .of hp, ?_, flat_end R k (t := .d z) r h⟩
      unfold atI
      rw [rs.length, ← ixOf_eq, e1]
      exact e3
    · obtain ⟨j, z, e1, e2, h⟩ := h
      obtain ⟨p, xs, rfl, hp, rs⟩ := nx.tup
      obtain ⟨w, e3, r⟩ := rs.get e2
      refine .inr (.inl ⟨p, xs, _, w, rfl, rfl, ex_t R.ex hp, ?_, flat_end R k (t := .d z) r h⟩)
      unfold atI
      rw [rs.length, ← ixOf_eq, e1]
      exact e3
    · obtain ⟨hz, j, c, e1, e2, h⟩ := h
      cases nx.str
      refine .inr (.inr ⟨_, _, c, rfl, rfl, by rw [stx_len, ← sz_eq]; exact hz, ?_, flat_end R k (t := sv [c]) (Rep.str [c]) h⟩)
      rw [stx_list]
      unfold atI
      rw [← ixOf_eq, e1]
      exact e2
    · exact h.elim
  · exact h.elim
theorem je_ix (hK : X.K = S.K) (ha : JE X S W a ta da) (hb : JE X S W b tb db) (hs : PlainIx b := by exact fun _ _ => rfl) : JE X S W (.Subscript a b pos) (tOp (rIx S.K) ta tb) (dBin oIx da db) := by
  refine ⟨hK, ?_, sim_bin so_ix ha.sim hb.sim⟩
  rw [← hK]
  exact pe_ix ix_seq ha.pe hb.pe hs
end
end Y

/-! Sim4: displays, calls. -/
namespace Y
open PySem L2 Evl
section
variable {X : Cx} {S : Sx} {W : WX} {e a b : Expr} {es : List Expr} {t ta tb te : TE} {d da db : DE} {pos p : Pos} {sa : Option Addr} {F Hs H : Hp} {ρ : En} {σ : St} {tr : TA} {dr : DA}

/-! ### arguments -/
theorem ja_nil (hK : X.K = S.K) : JA X S W [] tNil aNil := ⟨hK, pa_nil, fun F sa Hs ρ σ H x Q QH R h hx k => k Hs ρ H [] [] (Evl.Ex.refl _) R .nil h⟩
theorem ja_cons (ha : JE X S W e ta da) (hr : JA X S W es tr dr) (hs : starEach (e :: es) X.env = (false, eval e X.env) :: starEach es X.env := by rfl) : JA X S W (e :: es) (tCons ta tr) (aCons da dr) := by
  refine ⟨ha.k, pa_cons ha.pe hr.pa hs, fun F sa Hs ρ σ H x Q QH R h hx k => ?_⟩
  refine ha.sim F sa Hs ρ σ H x _ _ R h hx fun Hs1 ρ1 H1 v r e1 R1 q1 h1 => ?_
  obtain ⟨Hs2, ρ2, y, e2, R2, r2, h2⟩ := arg_of R1 q1 h1
  refine hr.sim F sa Hs2 ρ2 σ H1 x _ _ R2 h2 (hx.mono (e1.trans e2)) fun Hs3 ρ3 H3 vs ts e3 R3 q3 h3 => ?_
  exact k Hs3 ρ3 H3 (v :: vs) (y :: ts) ((e1.trans e2).trans e3) R3 (.cons (r2.mono e3) q3) h3
theorem datas_rep : ∀ {vs : List V} {ts : List T} {ds : List D}, RepAs S sa Hs vs ts → datas ts = some ds → Reps S.K S.cl Hs vs ds
  | _, _, _, .nil, h => by cases h; exact .nil
  | v :: vs, tt :: ts, ds, .cons r q, h => by
    cases tt with
    | d x =>
      simp only [datas, Option.map_eq_some_iff] at h
      obtain ⟨l, h, rfl⟩ := h
      exact .cons r (datas_rep q h)
    | own m => cases h
    | brw i => cases h
    | st => cases h
    | exn x => cases h
theorem je_tup {x1 : Nat} (h : JA X S W es tr dr) : JE X S W (.Tuple es x1 pos) (L2.tTup tr) (dTup dr) := by
  refine ⟨h.k, pe_tup h.pa, fun F sa Hs ρ σ H x Q QH R hq hx k => ?_⟩
  refine h.sim F sa Hs ρ σ H x _ _ R hq hx fun Hs1 ρ1 H1 vs ts e1 R1 q1 h1 => ?_
  obtain ⟨ds, e, hz, h1⟩ := h1
  have rs := datas_rep q1 e
  refine ⟨by rw [rs.length, ← sz_eq]; exact hz, fun p hp => ?_⟩
  obtain ⟨R2, e2⟩ := R1.new (o := .tup vs) hp
  exact k _ ρ1 _ _ (.d (.tup ds)) (e1.trans e2) R2 (Rep.tup upd_same (rs.mono e2)) h1
theorem je_lst (h : JA X S W es tr dr) : JE X S W (.List es pos) (L2.tLst tr) (dLst dr) := by
  refine ⟨h.k, pe_lst h.pa, fun F sa Hs ρ σ H x Q QH R hq hx k => ?_⟩
  refine h.sim F sa Hs ρ σ H x _ _ R hq hx fun Hs1 ρ1 H1 vs ts e1 R1 q1 h1 => ?_
  obtain ⟨ds, e, hz, h1⟩ := h1
  have rs := datas_rep q1 e
  refine ⟨by rw [rs.length, ← sz_eq]; exact hz, fun p hp => ?_⟩
  obtain ⟨R2, t2⟩ := R1.newOwn (o := .lst vs) (m := .lst ds) hp rs
  exact k _ ρ1 _ _ (.own (.lst ds)) e1 R2 ⟨p, _, rfl, t2⟩ h1

/-! ### built-ins -/
theorem sim_c1 {r : List V → Hp → VK → Prop} {f : Op1} (ho : SimU S (fun x H Q => r [x] H Q) f) (ha : SimE S W ta da) : SimE S W (tCB r (tCons ta tNil)) (dUn f da) := by
  intro F sa Hs ρ σ H x Q QH R h hx k
  exact sim_un ho ha F sa Hs ρ σ H x Q QH R h hx k
theorem sim_c2 {r : List V → Hp → VK → Prop} {f : Op2} (ho : SimO S (fun x y H Q => r [x, y] H Q) f) (ha : SimE S W ta da) (hb : SimE S W tb db) : SimE S W (tCB r (tCons ta (tCons tb tNil))) (dBin f da db) := by
  intro F sa Hs ρ σ H x Q QH R h hx k
  exact sim_bin ho ha hb F sa Hs ρ σ H x Q QH R h hx k
theorem je_b1 {x : Str} {id : String} {r : List V → Hp → VK → Prop} {f : Op1} (hc : CallR X (.builtin id) r) (ho : SimU S (fun x H Q => r [x] H Q) f) (hg : Gl X x) (hm : X.mg x = none) (hv : bootBuiltins x = some (.builtin id)) (ha : JE X S W a ta da)
    (hn : x ≠ "__name__" := by decide) (hdb : (x == ("__debug__" : Str)) = false := by decide)
    (he : starEach (a :: []) X.env = (false, eval a X.env) :: starEach [] X.env := by rfl) (hpl : (backTo pos (starEach [] X.env)).any (·.1) = false := by rfl) :
    JE X S W (.Call (.Name x p) [a] [] pos) (tCB r (tCons ta tNil)) (dUn f da) := ⟨ha.k, pe_callB hc hg hm hv (pa_cons ha.pe pa_nil he) hn hdb he hpl, sim_c1 ho ha.sim⟩
theorem je_b2 {x : Str} {id : String} {r : List V → Hp → VK → Prop} {f : Op2} (hc : CallR X (.builtin id) r) (ho : SimO S (fun x y H Q => r [x, y] H Q) f) (hg : Gl X x) (hm : X.mg x = none) (hv : bootBuiltins x = some (.builtin id)) (ha : JE X S W a ta da) (hb : JE X S W b tb db)
    (hn : x ≠ "__name__" := by decide) (hdb : (x == ("__debug__" : Str)) = false := by decide)
    (he : starEach (a :: [b]) X.env = (false, eval a X.env) :: starEach [b] X.env := by rfl) (he2 : starEach (b :: []) X.env = (false, eval b X.env) :: starEach [] X.env := by rfl) (hpl : (backTo pos (starEach [b] X.env)).any (·.1) = false := by rfl) :
    JE X S W (.Call (.Name x p) [a, b] [] pos) (tCB r (tCons ta (tCons tb tNil))) (dBin f da db) := ⟨ha.k, pe_callB hc hg hm hv (pa_cons ha.pe (pa_cons hb.pe pa_nil he2) he) hn hdb he hpl, sim_c2 ho ha.sim hb.sim⟩
theorem je_t1 {x : Str} {id : String} {r : List V → Hp → VK → Prop} {f : Op1} (hc : CallR X (.type id) r) (ho : SimU S (fun x H Q => r [x] H Q) f) (hg : Gl X x) (hm : X.mg x = none) (hv : bootBuiltins x = some (.type id)) (ha : JE X S W a ta da)
    (hn : x ≠ "__name__" := by decide) (hdb : (x == ("__debug__" : Str)) = false := by decide)
    (he : starEach (a :: []) X.env = (false, eval a X.env) :: starEach [] X.env := by rfl) (hpl : (backTo pos (starEach [] X.env)).any (·.1) = false := by rfl) :
    JE X S W (.Call (.Name x p) [a] [] pos) (tCB r (tCons ta tNil)) (dUn f da) := ⟨ha.k, pe_callTy hc hg hm hv (pa_cons ha.pe pa_nil he) hn hdb he hpl, sim_c1 ho ha.sim⟩

def rLen (K : PySem.W.Frag) : List V → Hp → VK → Prop := fun xs H Q => (∃ p ys, xs = [.ref p] ∧ (SqL K H p ys ∨ SqT K H p ys) ∧ Q (.int ys.length) H) ∨ ∃ z, xs = [.str z] ∧ z.length ≤ sizeLine ∧ Q (.int z.length) H
theorem call_lenAny {K' : PySem.W.Frag} (hK : X.K = K') : CallR X (.builtin "len") (rLen K') := by rw [← hK]; exact CallR.or call_len_seq call_len_str
theorem su_len : SimU S (fun x H Q => rLen S.K [x] H Q) oLen := by
  intro F sa Hs ρ σ H x u Q QH R nx h k
  unfold oLen at h
  split at h
  · obtain ⟨p, xs, rfl, hp, rs⟩ := nx.lst R.ex
    refine .inl ⟨p, xs, rfl, .inl (.of hp), ?_⟩
    rw [rs.length]
    exact flat_end R k (t := iv _) (Rep.int _) h
  · obtain ⟨p, xs, rfl, hp, rs⟩ := nx.tup
    refine .inl ⟨p, xs, rfl, .inr (ex_t R.ex hp), ?_⟩
    rw [rs.length]
    exact flat_end R k (t := iv _) (Rep.int _) h
  · cases nx.str
    obtain ⟨hz, h⟩ := h
    refine .inr ⟨_, rfl, by rw [stx_len, ← sz_eq]; exact hz, ?_⟩
    rw [stx_len]
    exact flat_end R k (t := iv _) (Rep.int _) h
  · exact h.elim
def rListOf (K : PySem.W.Frag) : List V → Hp → VK → Prop := fun xs H Q => ∃ p ys, xs = [.ref p] ∧ (SqL K H p ys ∨ SqT K H p ys) ∧ ∀ l, H l = none → Q (.ref l) (upd H l (.lst ys))
theorem call_listAny {K' : PySem.W.Frag} (hK : X.K = K') : CallR X (.type "list") (rListOf K') := by rw [← hK]; exact call_list_of
theorem su_list : SimU S (fun x H Q => rListOf S.K [x] H Q) oListS := by
  intro F sa Hs ρ σ H x u Q QH R nx h k
  unfold oListS at h
  split at h
  · obtain ⟨p, xs, rfl, hp, rs⟩ := nx.lst R.ex
    refine ⟨p, xs, rfl, .inl (.of hp), fun l hl => ?_⟩
    rename_i ds
    obtain ⟨R2, t2⟩ := R.newOwn (o := .lst xs) (m := .lst ds) hl rs
    exact k Hs _ _ (.own (.lst ds)) (Evl.Ex.refl _) R2 ⟨l, _, rfl, t2⟩ h
  · obtain ⟨p, xs, rfl, hp, rs⟩ := nx.tup
    refine ⟨p, xs, rfl, .inr (ex_t R.ex hp), fun l hl => ?_⟩
    rename_i ds
    obtain ⟨R2, t2⟩ := R.newOwn (o := .lst xs) (m := .lst ds) hl rs
    exact k Hs _ _ (.own (.lst ds)) (Evl.Ex.refl _) R2 ⟨l, _, rfl, t2⟩ h
  · exact h.elim
def rTupleOf (K : PySem.W.Frag) : List V → Hp → VK → Prop := fun xs H Q => ∃ p ys, xs = [.ref p] ∧ ((SqL K H p ys ∧ ∀ l, H l = none → Q (.ref l) (upd H l (.tup ys))) ∨ (SqT K H p ys ∧ Q (.ref p) H))
theorem call_tupleAny {K' : PySem.W.Frag} (hK : X.K = K') : CallR X (.type "tuple") (rTupleOf K') := by rw [← hK]; exact call_tuple_of
theorem su_tuple : SimU S (fun x H Q => rTupleOf S.K [x] H Q) oTuple := by
  intro F sa Hs ρ σ H x u Q QH R nx h k
  unfold oTuple at h
  split at h
  · obtain ⟨p, xs, rfl, hp, rs⟩ := nx.lst R.ex
    refine ⟨p, xs, rfl, .inl ⟨.of hp, fun l hl => ?_⟩⟩
    rename_i ds
    obtain ⟨R2, e2⟩ := R.new (o := .tup xs) hl
    exact k _ _ _ (.d (.tup ds)) e2 R2 (Rep.tup upd_same (rs.mono e2)) h
  · obtain ⟨p, xs, rfl, hp, rs⟩ := nx.tupS
    rename_i ds
    exact ⟨p, xs, rfl, .inr ⟨.of (R.ex _ _ hp), flat_end R k (t := .d (.tup ds)) (Rep.tup hp rs) h⟩⟩
  · exact h.elim
def rInt1 : List V → Hp → VK → Prop := fun xs H Q => (∃ i, xs = [.int i] ∧ Q (.int i) H) ∨ ∃ k, xs = [.bl k] ∧ Q (.int (if k then 1 else 0)) H
theorem call_intAny : CallR X (.type "int") rInt1 := call_int1
theorem su_int : SimU S (fun x H Q => rInt1 [x] H Q) oInt := by
  intro F sa Hs ρ σ H x u Q QH R nx h k
  unfold oInt at h
  split at h
  · cases nx.int
    exact .inl ⟨_, rfl, flat_end R k (t := iv _) (Rep.int _) h⟩
  · cases nx.bl
    exact .inr ⟨_, rfl, flat_end R k (t := iv _) (Rep.int _) h⟩
  · exact h.elim
def rAbs1 : List V → Hp → VK → Prop := fun xs H Q => ∃ i, xs = [.int i] ∧ Q (.int (if i < 0 then -i else i)) H
theorem call_absAny : CallR X (.builtin "abs") rAbs1 := call_abs
theorem su_abs : SimU S (fun x H Q => rAbs1 [x] H Q) oAbs := by
  intro F sa Hs ρ σ H x u Q QH R nx h k
  unfold oAbs at h
  split at h
  · cases nx.int
    exact ⟨_, rfl, flat_end R k (t := iv _) (Rep.int _) h⟩
  · exact h.elim
def rMx2 : List V → Hp → VK → Prop := fun xs H Q => ∃ i j, xs = [.int i, .int j] ∧ Q (.int (if j > i then j else i)) H
def rMn2 : List V → Hp → VK → Prop := fun xs H Q => ∃ i j, xs = [.int i, .int j] ∧ Q (.int (if j < i then j else i)) H
theorem call_max2Any (hc : X.calm = true) : CallR X (.builtin "max") rMx2 := call_max2 hc
theorem call_min2Any (hc : X.calm = true) : CallR X (.builtin "min") rMn2 := call_min2 hc
theorem so_max2 : SimO S (fun x y H Q => rMx2 [x, y] H Q) oMax2 := by
  intro F sa Hs ρ σ H x y u v Q QH R nx ny h k
  unfold oMax2 at h
  split at h
  · cases nx.int; cases ny.int
    exact ⟨_, _, rfl, flat_end R k (t := iv _) (Rep.int _) h⟩
  · exact h.elim
theorem so_min2 : SimO S (fun x y H Q => rMn2 [x, y] H Q) oMin2 := by
  intro F sa Hs ρ σ H x y u v Q QH R nx ny h k
  unfold oMin2 at h
  split at h
  · cases nx.int; cases ny.int
    exact ⟨_, _, rfl, flat_end R k (t := iv _) (Rep.int _) h⟩
  · exact h.elim
theorem bools_rep : ∀ {vs : List V} {ds : List D} {bs : List Bool}, Reps S.K S.cl Hs vs ds → boolsOf ds = some bs → vs = bs.map V.bl
  | _, _, _, .nil, h => by cases h; rfl
  | _, d :: ds, bs, .cons r q, h => by
    cases d <;> first | (cases h; done) | skip
    simp only [boolsOf, Option.map_eq_some_iff] at h
    obtain ⟨l, h, rfl⟩ := h
    cases r
    rw [bools_rep q h]; rfl
theorem ints_rep : ∀ {vs : List V} {ds : List D} {bs : List Int}, Reps S.K S.cl Hs vs ds → intsOf ds = some bs → vs = bs.map V.int
  | _, _, _, .nil, h => by cases h; rfl
  | _, d :: ds, bs, .cons r q, h => by
    cases d <;> first | (cases h; done) | skip
    simp only [intsOf, Option.map_eq_some_iff] at h
    obtain ⟨l, h, rfl⟩ := h
    cases r
    rw [ints_rep q h]; rfl
theorem call_allAny {K' : PySem.W.Frag} (hK : X.K = K') (hc : X.calm = true) : CallR X (.builtin "all") (rAll K') := by rw [← hK]; exact cr_all hc
theorem call_anyAny {K' : PySem.W.Frag} (hK : X.K = K') (hc : X.calm = true) : CallR X (.builtin "any") (rAny K') := by rw [← hK]; exact cr_any hc
theorem call_sumAny {K' : PySem.W.Frag} (hK : X.K = K') (hc : X.calm = true) : CallR X (.builtin "sum") (rSum K') := by rw [← hK]; exact cr_sum hc
theorem su_all : SimU S (fun x H Q => rAll S.K [x] H Q) oAll := by
  intro F sa Hs ρ σ H x u Q QH R nx h k
  unfold oAll at h
  split at h
  · obtain ⟨bs, e, h⟩ := h
    obtain ⟨p, xs, rfl, hp, rs⟩ := nx.lst R.ex
    have z := bools_rep rs e
    subst z
    exact ⟨p, bs, rfl, .of hp, flat_end R k (t := bv _) (Rep.bl _) h⟩
  · exact h.elim
theorem su_any : SimU S (fun x H Q => rAny S.K [x] H Q) oAny := by
  intro F sa Hs ρ σ H x u Q QH R nx h k
  unfold oAny at h
  split at h
  · obtain ⟨bs, e, h⟩ := h
    obtain ⟨p, xs, rfl, hp, rs⟩ := nx.lst R.ex
    have z := bools_rep rs e
    subst z
    exact ⟨p, bs, rfl, .of hp, flat_end R k (t := bv _) (Rep.bl _) h⟩
  · exact h.elim
theorem su_sum : SimU S (fun x H Q => rSum S.K [x] H Q) oSum := by
  intro F sa Hs ρ σ H x u Q QH R nx h k
  unfold oSum at h
  split at h
  · obtain ⟨bs, e, h⟩ := h
    obtain ⟨p, xs, rfl, hp, rs⟩ := nx.lst R.ex
    have z := ints_rep rs e
    subst z
    exact ⟨p, bs, rfl, .of hp, flat_end R k (t := iv _) (Rep.int _) h⟩
  · exact h.elim

/-! ### isinstance of a built-in class -/
theorem ty_of {v : V} {u : D} {m : String} (r : Rep S.K S.cl H v u) (h : tyName u = some m) : TyX S.K H v (.type m) := by
  cases r with
  | non => cases h; exact .base .non
  | bl b => cases h; exact .base (.bl b)
  | int b => cases h; exact .base (.int b)
  | str b => cases h; exact .base (.str _)
  | tup hp _ =>
    cases h
    exact .base (.tup hp)
  | lst hp _ => cases h; exact .base (.lst hp)
  | dic hp _ => cases h; exact .base (.dK hp)
  | dit hp _ => cases h; exact .base (.dT hp)
  | ins hp _ => cases h
def isiNames : List String := ["int", "bool", "str", "list", "tuple", "dict"]
theorem kit_tab : ∀ m ∈ ["NoneType", "bool", "int", "str", "tuple", "list", "dict"], ∀ n ∈ isiNames, kitB m n = some (isiB m n) := by decide +kernel
theorem tyName_mem {u : D} {m : String} (h : tyName u = some m) : m ∈ ["NoneType", "bool", "int", "str", "tuple", "list", "dict"] := by
  cases u <;> cases h <;> simp
theorem call_isiAny {K' : PySem.W.Frag} (hK : X.K = K') : CallR X (.builtin "isinstance") (rIsi K') := by rw [← hK]; exact call_isi
theorem je_isi {x y : Str} {n : String} {p2 : Pos} (hn : n ∈ isiNames) (hg : Gl X x) (hm : X.mg x = none) (hv : bootBuiltins x = some (.builtin "isinstance")) (hg2 : Gl X y) (hm2 : X.mg y = none) (hv2 : bootBuiltins y = some (.type n)) (ha : JE X S W a ta da)
    (hn1 : x ≠ "__name__" := by decide) (hdb : (x == ("__debug__" : Str)) = false := by decide) (hn2 : y ≠ "__name__" := by decide) (hdb2 : (y == ("__debug__" : Str)) = false := by decide)
    (he : starEach (a :: [.Name y p2]) X.env = (false, eval a X.env) :: starEach [.Name y p2] X.env := by rfl) (hpl : (backTo pos (starEach [.Name y p2] X.env)).any (·.1) = false := by rfl) :
    JE X S W (.Call (.Name x p) [a, .Name y p2] [] pos) (tCB (rIsi S.K) (tCons ta (tCons (tC (.ty n)) tNil))) (dUn (oIsi n) da) := by
  refine ⟨ha.k, pe_callB (call_isiAny ha.k) hg hm hv (pa_cons ha.pe (pa_cons (pe_bltn (v := .ty n) hg2 hm2 hv2 rfl hn2 hdb2) pa_nil) he) hn1 hdb he hpl, fun F sa Hs ρ σ H x Q QH R h hx k => ?_⟩
  refine ha.sim F sa Hs ρ σ H x _ _ R h hx fun Hs1 ρ1 H1 v1 r1 e1 R1 q1 h1 => ?_
  obtain ⟨u, nw, m, em, h2⟩ := now_of R1 q1 h1
  refine ⟨v1, .ty n, .type m, .type n, isiB m n, rfl, .ty n, ty_of (nw.rep R1.ex) em, kit_ty (kit_tab m (tyName_mem em) n hn), ?_⟩
  exact k Hs1 ρ1 H1 _ (bv _) e1 R1 (Rep.bl _) h2
end
end Y

/-! Sim5: what a def promises by its transformer; calls of defs; the law's draw; statements. -/
namespace Y
open PySem L2 Evl

/-- what a callee neither knows nor changes -/
def away (Hs H : Hp) (sa : Option Addr) : Hp := fun b => match Hs b with
  | some _ => none
  | none => if sa = some b then none else H b
abbrev S0 (K : PySem.W.Frag) (cl : String → Addr) (Hs : Hp) (sa : Option Addr) : Sx := { K := K, cl := cl, B0 := Hs, sa0 := sa }
theorem away_some {Hs H : Hp} {sa : Option Addr} {b : Addr} {o : HO} : away Hs H sa b = some o ↔ (Hs b = none ∧ sa ≠ some b ∧ H b = some o) := by
  unfold away
  cases e : Hs b with
  | some u => simp
  | none =>
    by_cases h : sa = some b
    · simp [h]
    · simp [h]
/-- what is handed back -/
def RepR (S : Sx) (F : Hp) (sa : Option Addr) (Hs H : Hp) (v : V) : T → Prop
  | .d x => Rep S.K S.cl Hs v x
  | .own m => ∃ p o, v = .ref p ∧ Tmp S F sa Hs [] [] H p o m
  | _ => False
def lift (K : PySem.W.Frag) (cl : String → Addr) (n : Nat) (sem : FSem) : Sp := fun vs H Q E => vs.length = n ∧ ∃ (Hs : Hp) (sa : Option Addr) (ts : List T) (Qd : T → Prop) (xd : Exn → Prop),
  Evl.Ex Hs H ∧ (∀ a, sa = some a → StA K Hs H a ∧ Hs a = none) ∧ RepAs (S0 K cl Hs sa) sa Hs vs ts ∧ sem ts xd Qd ∧
  (∀ (Hs' H' : Hp) (v : V) (t : T), RelS (S0 K cl Hs sa) (away Hs H sa) sa Hs' [] [] H' → RepR (S0 K cl Hs sa) (away Hs H sa) sa Hs' H' v t → Qd t → Q v H') ∧
  (∀ (Hs' H' : Hp) (cls : Value) (dd : Option Addr) (e : Exn), RelS (S0 K cl Hs sa) (away Hs H sa) sa Hs' [] [] H' → RepX (S0 K cl Hs sa) Hs' cls dd e → xd e → E cls dd H')

section
variable {S : Sx} {F : Hp} {sa : Option Addr} {Hs Hs' H H' : Hp} {ρ : En} {σ : St} {v : V} {p : Addr} {o : HO} {m : MO}
/-- behind a call -/
theorem RelS.back (R : RelS S F sa Hs ρ σ H) (R' : RelS (S0 S.K S.cl Hs sa) (away Hs H sa) sa Hs' [] [] H') : RelS S F sa Hs' ρ σ H' := by
  have aw : ∀ {b : Addr} {o : HO}, Hs b = none → sa ≠ some b → H b = some o → Hs' b = none ∧ H' b = some o := fun h1 h2 h3 => R'.fr _ _ (away_some.mpr ⟨h1, h2, h3⟩)
  refine ⟨R.b0.trans R'.b0, R'.ex, fun b o e => ?_, R.len, R.sal, fun a e => ?_, fun i b e => ?_, R.apart, R.slf, R.f0⟩
  · obtain ⟨h1, h2⟩ := R.fr b o e
    refine aw h1 (fun z => ?_) h2
    rw [(R.sav b z).2.2] at e; cases e
  · obtain ⟨h1, h2, h3⟩ := R'.sav a e
    exact ⟨h1, h2, (R.sav a e).2.2⟩
  · obtain ⟨v, h1, h2⟩ := R.vars i b e
    exact ⟨v, h1, h2.mono R'.b0 fun q u _ k1 k2 k3 => aw k1 k2 k3⟩
theorem RepR.back (R : RelS S F sa Hs ρ σ H) (R' : RelS (S0 S.K S.cl Hs sa) (away Hs H sa) sa Hs' [] [] H') {t : T} (r : RepR (S0 S.K S.cl Hs sa) (away Hs H sa) sa Hs' H' v t) : RepT S F sa Hs' ρ σ H' v t := by
  cases t with
  | d x => exact r
  | own m =>
    obtain ⟨p, o, rfl, t⟩ := r
    have hf : ∀ {o : HO}, Hs p = none → H p = some o → False := fun h1 h2 => by
      have := t.f
      rw [show away Hs H sa p = some _ from away_some.mpr ⟨h1, t.s, h2⟩] at this
      cases this
    refine ⟨p, o, rfl, ⟨t.hs, ?_, t.s, t.h, t.r, fun i m' e z => ?_⟩⟩
    · cases e : F p with
      | none => rfl
      | some u => exact (hf (R.fr p u e).1 (R.fr p u e).2).elim
    · obtain ⟨v', h1, q, u, rfl, k1, _, _, k4, _⟩ := R.vars i _ e
      rw [h1] at z
      have := Option.some.inj (Option.some.inj z)
      cases this
      exact hf k1 k4
  | brw i => exact r.elim
  | st => exact r.elim
  | exn x => exact r.elim
theorem RelS.drop (R : RelS S F sa Hs ρ σ H) : RelS S F sa Hs [] [] H := ⟨R.b0, R.ex, R.fr, rfl, R.sal, R.sav, fun i b e => by simp at e, fun i j p m m' _ e => by simp at e, fun p _ h => (by simp at h), R.f0⟩
theorem RelS.reS (R : RelS S F sa Hs ρ σ H) : ∀ {vs : List V} {ts : List T}, RepAs S sa Hs vs ts → RepAs (S0 S.K S.cl Hs sa) sa Hs vs ts
  | _, _, .nil => .nil
  | _, t :: _, .cons r q => .cons (by cases t <;> exact r) (R.reS q)
/-- a name is given a value -/
theorem RelS.put (R : RelS S F sa Hs ρ σ H) {i : Nat} {b : B} (hb : RepB S F sa Hs H v b) (hn : ∀ (m : MO) (j : Nat) (m' : MO), b = .own m → j ≠ i → ρ[j]? = some (some (.own m')) → σ[j]? ≠ some (some v)) (hz : S.self = none ∨ i ≠ 0) :
    RelS S F sa Hs (ρ.set i (some b)) (σ.set i (some v)) H := by
  refine ⟨R.b0, R.ex, R.fr, by rw [List.length_set, List.length_set]; exact R.len, R.sal, R.sav, fun j c e => ?_, fun j j' q m m' hj e e' z z' => ?_, fun q eq hl => ?_, R.f0⟩
  · rcases set_get? e with ⟨rfl, h⟩ | ⟨ne, h⟩
    · cases h
      have hl : i < σ.length := by
        rw [R.len]
        have := (List.getElem?_eq_some_iff.mp e).1
        simpa using this
      exact ⟨v, List.getElem?_set_self hl, hb⟩
    · obtain ⟨w, h1, h2⟩ := R.vars j c h
      exact ⟨w, by rw [List.getElem?_set_ne ne]; exact h1, h2⟩
  · rcases set_get? e with ⟨rfl, h⟩ | ⟨ne, h⟩
    · rcases set_get? e' with ⟨rfl, h'⟩ | ⟨ne', h'⟩
      · exact hj rfl
      · rw [List.getElem?_set_ne ne'] at z'
        rcases set_get? z with ⟨_, k⟩ | ⟨k, _⟩
        · have e1 : b = .own m := (Option.some.inj h).symm
          have e2 : v = .ref q := (Option.some.inj k).symm
          exact hn m j' m' e1 (Ne.symm ne') h' (by rw [e2]; exact z')
        · exact k rfl
    · rcases set_get? e' with ⟨rfl, h'⟩ | ⟨ne', h'⟩
      · rw [List.getElem?_set_ne ne] at z
        rcases set_get? z' with ⟨_, k⟩ | ⟨k, _⟩
        · have e1 : b = .own m' := (Option.some.inj h').symm
          have e2 : v = .ref q := (Option.some.inj k).symm
          exact hn m' j m e1 (Ne.symm ne) h (by rw [e2]; exact z)
        · exact k rfl
      · rw [List.getElem?_set_ne ne] at z
        rw [List.getElem?_set_ne ne'] at z'
        exact R.apart j j' q m m' hj h h' z z'
  · rcases hz with hz | hz
    · rw [hz] at eq; cases eq
    · rw [List.getElem?_set_ne hz]
      exact R.slf q eq (by simpa using hl)
theorem RelS.putD (R : RelS S F sa Hs ρ σ H) (i : Nat) {x : D} (hb : Rep S.K S.cl Hs v x) (hz : S.self = none ∨ i ≠ 0) : RelS S F sa Hs (ρ.set i (some (.d x))) (σ.set i (some v)) H :=
  R.put (b := .d x) hb (fun m j m' e => by cases e) hz
theorem RelS.putOwn (R : RelS S F sa Hs ρ σ H) (i : Nat) (t : Tmp S F sa Hs ρ σ H p o m) (hz : S.self = none ∨ i ≠ 0) : RelS S F sa Hs (ρ.set i (some (.own m))) (σ.set i (some (.ref p))) H :=
  R.put (b := .own m) ⟨p, o, rfl, t.hs, t.f, t.s, t.h, t.r⟩ (fun m' j m'' _ _ e z => t.na j m'' e z) hz
/-- what a name holds alone is changed -/
theorem RelS.change (R : RelS S F sa Hs ρ σ H) {i : Nat} {m' : MO} (e : ρ[i]? = some (some (.own m))) (hi : σ[i]? = some (some (.ref p))) {o' : HO} (hm : RepM S.K S.cl Hs o' m') :
    RelS S F sa Hs (ρ.set i (some (.own m'))) σ (upd H p o') := by
  obtain ⟨v, h1, q, o, rfl, k1, k2, k3, k4, k5⟩ := R.vars i _ e
  obtain rfl : p = q := by rw [h1] at hi; cases hi; rfl
  refine ⟨R.b0, R.ex.mut k1, fun b u eb => ?_, by rw [List.length_set]; exact R.len, R.sal, fun a ea => ?_, fun j c ej => ?_, fun j j' x m1 m2 hj e1 e2 z1 => ?_, fun q eq hl => R.slf q eq (by simpa using hl), R.f0⟩
  · have nb : b ≠ p := by rintro rfl; rw [k2] at eb; cases eb
    obtain ⟨h1, h2⟩ := R.fr b u eb
    exact ⟨h1, by rw [upd_ne nb]; exact h2⟩
  · obtain ⟨h4, h5, h6⟩ := R.sav a ea
    have na : a ≠ p := by rintro rfl; exact k3 ea
    exact ⟨h4.mono (Ex.refl _) fun o e => by rw [upd_ne na]; exact e, h5, h6⟩
  · rcases set_get? ej with ⟨rfl, z⟩ | ⟨ne, ej⟩
    · cases z
      exact ⟨_, h1, p, o', rfl, k1, k2, k3, upd_same, hm⟩
    · obtain ⟨v, h1', h2⟩ := R.vars j c ej
      refine ⟨v, h1', ?_⟩
      cases c with
      | d x => exact h2
      | own m3 =>
        obtain ⟨q2, u, rfl, l1, l2, l3, l4, l5⟩ := h2
        have nq : q2 ≠ p := by rintro rfl; exact R.apart i j q2 _ _ ne e ej h1 h1'
        exact ⟨q2, u, rfl, l1, l2, l3, by rw [upd_ne nq]; exact l4, l5⟩
      | st => exact h2
      | exn x => exact h2
      | rows xs => exact h2
  · have f1 : ∃ m3, ρ[j]? = some (some (.own m3)) := by
      rcases set_get? e1 with ⟨rfl, z⟩ | ⟨ne, e1⟩
      · exact ⟨m, e⟩
      · exact ⟨m1, e1⟩
    have f2 : ∃ m3, ρ[j']? = some (some (.own m3)) := by
      rcases set_get? e2 with ⟨rfl, z⟩ | ⟨ne, e2⟩
      · exact ⟨m, e⟩
      · exact ⟨m2, e2⟩
    obtain ⟨m3, f1⟩ := f1
    obtain ⟨m4, f2⟩ := f2
    exact R.apart j j' x m3 m4 hj f1 f2 z1
/-- another frame of the caller -/
abbrev _root_.Y.Sx.at0 (S : Sx) (F0 : Hp) : Sx := { S with F0 := F0 }
theorem rows_aside {o : HO} {D : Addr} (fd : F D = none) : ∀ {qs : List Addr} {xs : List (List Y.D)}, RowsR S F Hs qs xs → RowsR (S.at0 (upd S.F0 D o)) (upd F D o) Hs qs xs
  | [], [], _ => trivial
  | q :: _, _ :: _, ⟨⟨vs, h1, h2⟩, h0, h3⟩ => by
    have nq : q ≠ D := by rintro rfl; rw [fd] at h1; cases h1
    exact ⟨⟨vs, by rw [upd_ne nq]; exact h1, h2⟩, by show upd S.F0 D o q = none; rw [upd_ne nq]; exact h0, rows_aside fd h3⟩
  | [], _ :: _, h => h.elim
  | _ :: _, [], h => h.elim
theorem rows_unaside {o : HO} {D : Addr} : ∀ {qs : List Addr} {xs : List (List Y.D)}, RowsR (S.at0 (upd S.F0 D o)) (upd F D o) Hs qs xs → RowsR S F Hs qs xs
  | [], [], _ => trivial
  | q :: _, _ :: _, ⟨⟨vs, h1, h2⟩, h0, h3⟩ => by
    have h0 : upd S.F0 D o q = none := h0
    have nq : q ≠ D := by rintro rfl; rw [upd_same] at h0; cases h0
    rw [upd_ne nq] at h1 h0
    exact ⟨⟨vs, h1, h2⟩, h0, rows_unaside h3⟩
  | [], _ :: _, h => h.elim
  | _ :: _, [], h => h.elim
theorem RelS.aside {D : Addr} (R : RelS S F sa Hs ρ σ H) (t : Tmp S F sa Hs ρ σ H D o m) : RelS (S.at0 (upd S.F0 D o)) (upd F D o) sa Hs ρ σ H := by
  refine ⟨R.b0, R.ex, fun b o' eb => ?_, R.len, R.sal, fun a ea => ?_, fun j c ej => ?_, R.apart, R.slf, fun b o' eb => ?_⟩
  · by_cases hb : b = D
    · subst hb
      rw [upd_same] at eb
      cases eb
      exact ⟨t.hs, t.h⟩
    · rw [upd_ne hb] at eb
      exact R.fr b o' eb
  · obtain ⟨z1, z2, z3⟩ := R.sav a ea
    have na : a ≠ D := by rintro rfl; exact t.s ea
    exact ⟨z1, z2, by rw [upd_ne na]; exact z3⟩
  · obtain ⟨w, z1, z2⟩ := R.vars j c ej
    refine ⟨w, z1, ?_⟩
    cases c with
    | d x => exact z2
    | own m =>
      obtain ⟨q, o', rfl, k1, k2, k3, k4, k5⟩ := z2
      have nq : q ≠ D := by rintro rfl; exact t.na j m ej z1
      exact ⟨q, o', rfl, k1, by rw [upd_ne nq]; exact k2, k3, k4, k5⟩
    | st => exact z2
    | exn x => exact z2
    | rows xs =>
      obtain ⟨p, qs, h1, h2, h3, h4, h5⟩ := z2
      have np : p ≠ D := by rintro rfl; rw [t.f] at h2; cases h2
      exact ⟨p, qs, h1, by rw [upd_ne np]; exact h2, by show upd S.F0 D o p = none; rw [upd_ne np]; exact h3, h4, rows_aside t.f h5⟩
  · have eb : upd S.F0 D o b = some o' := eb
    by_cases hb : b = D
    · subst hb; rw [upd_same] at eb ⊢; exact eb
    · rw [upd_ne hb] at eb ⊢; exact R.f0 b o' eb
theorem RelS.unaside {D : Addr} (f0 : Evl.Ex S.F0 F) (tf : F D = none) (R5 : RelS (S.at0 (upd S.F0 D o)) (upd F D o) sa Hs ρ σ H) : RelS S F sa Hs ρ σ H := by
  have nF : ∀ {b : Addr}, upd F D o b = none → F b = none := fun {b} hb => by
    by_cases hz : b = D
    · rw [hz]; exact tf
    · rw [upd_ne hz] at hb; exact hb
  refine ⟨R5.b0, R5.ex, fun b o' eb => ?_, R5.len, R5.sal, fun a ea => ?_, fun j c ej => ?_, R5.apart, R5.slf, f0⟩
  · have hb : b ≠ D := by rintro rfl; rw [tf] at eb; cases eb
    exact R5.fr b o' (by rw [upd_ne hb]; exact eb)
  · obtain ⟨z1, z2, z3⟩ := R5.sav a ea
    exact ⟨z1, z2, nF z3⟩
  · obtain ⟨w, z1, z2⟩ := R5.vars j c ej
    refine ⟨w, z1, ?_⟩
    cases c with
    | d x => exact z2
    | own m =>
      obtain ⟨q, o', rfl, k1, k2, k3, k4, k5⟩ := z2
      exact ⟨q, o', rfl, k1, nF k2, k3, k4, k5⟩
    | st => exact z2
    | exn x => exact z2
    | rows xs =>
      obtain ⟨p, qs, h1, h2, h3, h4, h5⟩ := z2
      have h3 : upd S.F0 D o p = none := h3
      have np : p ≠ D := by rintro rfl; rw [upd_same] at h3; cases h3
      rw [upd_ne np] at h2 h3
      exact ⟨p, qs, h1, h2, h3, h4, rows_unaside h5⟩
end
end Y

/-! Sim6: calls of defs, the draw, statements. -/
namespace Y
open PySem L2 Evl

/-- a def of the text that stands at a module's name and keeps its transformer's promise -/
def HasF (P : Program) (w : World) (K : PySem.W.Frag) (mg : Str → Option Value) (base : Heap) (cl : String → Addr) (x : Str) (ps : List Str) (lvl : Nat) (sem : FSem) : Prop :=
  ∃ (f : Addr) (fd : FuncData), mg x = some (.ref f) ∧ PySem.W.keepIn K (.ref f) = true ∧ Binds K fd ps [] ∧ FnOk P w K mg base (L2.CX P w) lvl f fd ps (lift K cl ps.length sem)
def spNext (K : PySem.W.Frag) : Sp := fun vs H Q _ => ∃ (a : Addr) (n : Int) (Hs : Hp), vs = [.ref a, .int n] ∧ Evl.Ex Hs H ∧ Hs a = none ∧ StA K Hs H a ∧ 1 ≤ n ∧ n < 1073741824 ∧
  ∀ (r : Int) (H' : Hp), 0 ≤ r → r < n → StA K Hs H' a → (∀ b o, b ≠ a → H b = some o → H' b = some o) → Q (.int r) H'
def HasNext (P : Program) (w : World) (K : PySem.W.Frag) (mg : Str → Option Value) (base : Heap) (x : Str) (lvl : Nat) : Prop :=
  ∃ (f : Addr) (fd : FuncData), mg x = some (.ref f) ∧ PySem.W.keepIn K (.ref f) = true ∧ Binds K fd ["state", "many"] [] ∧ FnOk P w K mg base (L2.CX P w) lvl f fd ["state", "many"] (spNext K)
/-- nothing is let out -/
abbrev noW : WX := fun _ _ _ _ => False
section
variable {X : Cx} {S : Sx} {W : WX} {e a b : Expr} {es : List Expr} {t ta tb te : TE} {d da db : DE} {pos p : Pos} {sa : Option Addr} {F Hs H : Hp} {ρ : En} {σ : St} {tr : TA} {dr : DA}

theorem RepAs.len : ∀ {vs : List V} {ts : List T}, RepAs S sa Hs vs ts → vs.length = ts.length
  | _, _, .nil => rfl
  | _, _, .cons _ q => by simp [RepAs.len q]
theorem sim_call {n : Nat} {sem : FSem} (ha : SimA S W tr dr) : SimE S W (tCallS (lift S.K S.cl n sem) (WE W) tr) (dCall n sem dr) := by
  intro F sa Hs ρ σ H y Q QH R hd hx kk
  refine ha F sa Hs ρ σ H y _ _ R hd hx fun Hs1 ρ1 H1 vs ts e1 R1 q1 h1 => ?_
  obtain ⟨hl, h1⟩ := h1
  refine ⟨q1.len.trans hl, Hs1, sa, ts, _, _, R1.ex, fun a ea => ⟨(R1.sav a ea).1, (R1.sav a ea).2.1⟩, R1.reS q1, h1, fun Hs' H' v t R' r q => ?_, fun Hs' H' cls dd ex R' r q => ?_⟩
  · exact kk Hs' ρ1 H' v t (e1.trans R'.b0) (R1.back R') (r.back R1 R') q
  · exact hx ex ρ1 Hs' H' cls dd (e1.trans R'.b0) (R1.back R') r q
theorem je_call {x : Str} {ps : List Str} {k n : Nat} {sem : FSem} (h : HasF X.prog X.w X.K X.mg X.base S.cl x ps k sem) (hr : Room k X.A) (tk : Takes X W) (hg : Gl X x) (ha : JA X S W (e :: es) tr dr) (hn : ps.length = n := by rfl) (hdb : (x == ("__debug__" : Str)) = false := by decide)
    (he : starEach (e :: es) X.env = (false, eval e X.env) :: starEach es X.env := by rfl) (hpl : (backTo pos (starEach es X.env)).any (·.1) = false := by rfl) :
    JE X S W (.Call (.Name x p) (e :: es) [] pos) (tCallS (lift S.K S.cl n sem) (WE W) tr) (dCall n sem dr) := by
  obtain ⟨f, fd, hm, hk, hb, hf⟩ := h
  rw [hn] at hf
  have hf' : FnOk X.prog X.w X.K X.mg X.base (L2.CX X.prog X.w) k f fd ps (lift S.K S.cl n sem) := by rw [← ha.k]; exact hf
  exact ⟨ha.k, pe_callS hf' hr hg hm hk hb (fun σ => passAt tk σ) ha.pa hdb he hpl, sim_call ha.sim⟩
theorem je_next {x : Str} {k : Nat} (h : HasNext X.prog X.w X.K X.mg X.base x k) (hr : Room k X.A) (tk : Takes X W) (hg : Gl X x) (ha : JE X S W a ta da) (hb' : JE X S W b tb db) (hdb : (x == ("__debug__" : Str)) = false := by decide)
    (he : starEach (a :: [b]) X.env = (false, eval a X.env) :: starEach [b] X.env := by rfl) (he2 : starEach (b :: []) X.env = (false, eval b X.env) :: starEach [] X.env := by rfl) (hpl : (backTo pos (starEach [b] X.env)).any (·.1) = false := by rfl) :
    JE X S W (.Call (.Name x p) [a, b] [] pos) (tCallS (spNext S.K) (WE W) (tCons ta (tCons tb tNil))) (dNext da db) := by
  obtain ⟨f, fd, hm, hk, hb, hf⟩ := h
  have hf' : FnOk X.prog X.w X.K X.mg X.base (L2.CX X.prog X.w) k f fd ["state", "many"] (spNext S.K) := by rw [← ha.k]; exact hf
  refine ⟨ha.k, pe_callS hf' hr hg hm hk hb (fun σ => passAt tk σ) (pa_cons ha.pe (pa_cons hb'.pe pa_nil he2) he) hdb he hpl, fun F sa Hs ρ σ H y Q QH R hd hx kk => ?_⟩
  refine ha.sim F sa Hs ρ σ H y _ _ R hd hx fun Hs1 ρ1 H1 v1 r1 e1 R1 q1 h1 => ?_
  obtain ⟨rfl, h1⟩ := h1
  obtain ⟨a, ea, rfl⟩ := q1
  refine hb'.sim F sa Hs1 ρ1 σ H1 y _ _ R1 h1 (hx.mono e1) fun Hs2 ρ2 H2 v2 r2 e2 R2 q2 h2 => ?_
  obtain ⟨n, rfl, ⟨hn1, hn2⟩, h2⟩ := h2
  cases (show Rep S.K S.cl Hs2 v2 (.int n) from q2)
  obtain ⟨z1, z2, z3⟩ := R2.sav a ea
  refine ⟨a, n, Hs2, rfl, R2.ex, z2, z1, hn1, hn2, fun r H' h0 h3 sA fr => ?_⟩
  refine kk Hs2 ρ2 H' (.int r) (iv r) (e1.trans e2) ⟨R2.b0, fun b o e => fr b o ?_ (R2.ex b o e), fun b o e => ?_, R2.len, R2.sal, fun a' e' => ?_, fun i b e => ?_, R2.apart, R2.slf, R2.f0⟩ (Rep.int r) (h2 r h0 h3)
  · rintro rfl; rw [z2] at e; cases e
  · obtain ⟨k1, k2⟩ := R2.fr b o e
    exact ⟨k1, fr b o (by rintro rfl; rw [z3] at e; cases e) k2⟩
  · rw [ea] at e'
    cases e'
    exact ⟨sA, z2, z3⟩
  · obtain ⟨v, k1, k2⟩ := R2.vars i b e
    exact ⟨v, k1, k2.mono (Evl.Ex.refl _) fun q u _ l1 l2 l3 => ⟨l1, fr q u (by rintro rfl; exact l2 ea) l3⟩⟩

/-! ### statements -/
structure Comp (S : Sx) (F : Hp) (W : WX) (Hs : Hp) (Z : DEnds) (D : Ends) : Prop where
  nx : ∀ {F' : Hp} (sa' : Option Addr) (Hs' : Hp) (ρ' : En) (σ' : St) (H' : Hp), Evl.Ex Hs Hs' → RelS S F' sa' Hs' ρ' σ' H' → Z.nx ρ' → D.nx σ' H'
  bk : ∀ {F' : Hp} (sa' : Option Addr) (Hs' : Hp) (ρ' : En) (σ' : St) (H' : Hp), Evl.Ex Hs Hs' → RelS S F' sa' Hs' ρ' σ' H' → Z.bk ρ' → D.bk σ' H'
  ct : ∀ {F' : Hp} (sa' : Option Addr) (Hs' : Hp) (ρ' : En) (σ' : St) (H' : Hp), Evl.Ex Hs Hs' → RelS S F' sa' Hs' ρ' σ' H' → Z.ct ρ' → D.ct σ' H'
  rt : ∀ {F' : Hp} (sa' : Option Addr) (Hs' H' : Hp) (v : V) (r : T), Evl.Ex Hs Hs' → RelS S F' sa' Hs' [] [] H' → RepR S F' sa' Hs' H' v r → Z.rt r → D.rt v H'
  ex : ∀ {F' : Hp} (sa' : Option Addr) (σ' : St), XOk S F' W sa' Hs σ' Z.ex
def SimS (S : Sx) (W : WX) (t : TS) (d : DS) : Prop := ∀ (F : Hp) (sa : Option Addr) (Hs : Hp) (ρ : En) (σ : St) (H : Hp) (Z : DEnds) (D : Ends), RelS S F sa Hs ρ σ H → d Z ρ → Comp S F W Hs Z D → t D σ H
structure JS (X : Cx) (S : Sx) (W : WX) (st : Stmt) (t : TS) (d : DS) : Prop where
  k : X.K = S.K
  ps : PS X st t
  sim : SimS S W t d
structure JSs (X : Cx) (S : Sx) (W : WX) (st : List Stmt) (t : TS) (d : DS) : Prop where
  k : X.K = S.K
  ps : PSs X st t
  sim : SimS S W t d
theorem Comp.to {F' : Hp} {Z : DEnds} {D : Ends} (c : Comp S F W Hs Z D) : Comp S F' W Hs Z D := ⟨c.nx, c.bk, c.ct, c.rt, c.ex⟩
theorem Comp.mono {Hs' : Hp} {Z : DEnds} {D : Ends} (c : Comp S F W Hs Z D) (e : Evl.Ex Hs Hs') : Comp S F W Hs' Z D :=
  ⟨fun a b r s h k => c.nx a b r s h (e.trans k), fun a b r s h k => c.bk a b r s h (e.trans k), fun a b r s h k => c.ct a b r s h (e.trans k), fun a b h v r k => c.rt a b h v r (e.trans k), fun a s => (c.ex a s).mono e⟩
section
variable {st : Stmt} {rest : List Stmt} {u : TS} {ts : TS} {ds du : DS}
theorem js_nil (hK : X.K = S.K) : JSs X S W [] tNext sNext := ⟨hK, pss_nil, fun F sa Hs ρ σ H Z D R h c => c.nx sa Hs ρ σ H (Evl.Ex.refl _) R h⟩
theorem sim_seq (h1 : SimS S W ts ds) (h2 : SimS S W u du) : SimS S W (tSeq ts u) (sSeq ds du) := by
  intro F sa Hs ρ σ H Z D R h c
  refine h1 F sa Hs ρ σ H _ _ R h ⟨fun sa' Hs' ρ' σ' H' e R' q => ?_, c.bk, c.ct, c.rt, c.ex⟩
  exact h2 _ sa' Hs' ρ' σ' H' Z D R' q (c.mono e).to
theorem js_cons (h1 : JS X S W st ts ds) (h2 : JSs X S W rest u du) : JSs X S W (st :: rest) (tSeq ts u) (sSeq ds du) := ⟨h1.k, pss_cons h1.ps h2.ps, sim_seq h1.sim h2.sim⟩
theorem js_one (h1 : JS X S W st ts ds) : JSs X S W [st] ts ds := ⟨h1.k, pss_one h1.ps, h1.sim⟩
theorem js_pass (hK : X.K = S.K) : JS X S W (.Pass pos) tNext sNext := ⟨hK, ps_pass, fun F sa Hs ρ σ H Z D R h c => c.nx sa Hs ρ σ H (Evl.Ex.refl _) R h⟩
theorem js_doc (hK : X.K = S.K) {x : Str} {j : Nat} {pos' : Pos} : JS X S W (.Expr (.Constant (.str x) j pos) pos') tNext sNext := ⟨hK, ps_doc, fun F sa Hs ρ σ H Z D R h c => c.nx sa Hs ρ σ H (Evl.Ex.refl _) R h⟩
theorem js_break (hK : X.K = S.K) : JS X S W (.Break pos) tBreak sBreak := ⟨hK, ps_break, fun F sa Hs ρ σ H Z D R h c => c.bk sa Hs ρ σ H (Evl.Ex.refl _) R h⟩
theorem js_cont (hK : X.K = S.K) : JS X S W (.Continue pos) tCont sCont := ⟨hK, ps_continue, fun F sa Hs ρ σ H Z D R h c => c.ct sa Hs ρ σ H (Evl.Ex.refl _) R h⟩
theorem js_never (hK : X.K = S.K) : JS X S W st tNever sNever := ⟨hK, ps_never, fun _ _ _ _ _ _ _ _ _ h _ => h.elim⟩
theorem js_expr (he : JE X S W e te d) (hs : swapsWith e none pos.line X.env = pure false := by rfl) : JS X S W (.Expr e pos) (tDrop te) (sExpr d) := by
  refine ⟨he.k, ps_expr he.pe hs, fun F sa Hs ρ σ H Z D R h c => ?_⟩
  exact he.sim F sa Hs ρ σ H Z.ex _ _ R h (c.ex sa σ) fun Hs1 ρ1 H1 v r e1 R1 _ h1 => c.nx sa Hs1 ρ1 σ H1 e1 R1 h1
theorem js_ret (he : JE X S W e te d) : JS X S W (.Return (some e) pos) (tRet te) (sRet d) := by
  refine ⟨he.k, ps_ret he.pe, fun F sa Hs ρ σ H Z D R h c => ?_⟩
  refine he.sim F sa Hs ρ σ H Z.ex _ _ R h (c.ex sa σ) fun Hs1 ρ1 H1 v r e1 R1 q1 h1 => ?_
  cases r with
  | d x => exact c.rt sa Hs1 H1 v (.d x) e1 R1.drop q1 h1
  | own m =>
    obtain ⟨p, o, rfl, t⟩ := q1
    exact c.rt sa Hs1 H1 _ (.own m) e1 R1.drop ⟨p, o, rfl, ⟨t.hs, t.f, t.s, t.h, t.r, fun i m' e => by simp at e⟩⟩ h1
  | st => exact h1.elim
  | exn x => exact h1.elim
  | brw i =>
    have q1 : σ[i]? = some (some v) := q1
    simp only at h1
    split at h1
    · rename_i m em
      obtain ⟨w, k1, p, o, rfl, k2, k3, k4, k5, k6⟩ := R1.vars i _ em
      rw [k1] at q1
      cases q1
      exact c.rt sa Hs1 H1 _ (.own m) e1 R1.drop ⟨p, o, rfl, ⟨k2, k3, k4, k5, k6, fun i m' e => by simp at e⟩⟩ h1
    · rename_i x em
      obtain ⟨w, k1, k2⟩ := R1.vars i _ em
      rw [k1] at q1
      cases q1
      exact c.rt sa Hs1 H1 _ (.d x) e1 R1.drop k2 h1
    · exact h1.elim
theorem js_retN (hK : X.K = S.K) : JS X S W (.Return none pos) tRetN sRetN := ⟨hK, ps_retN, fun F sa Hs ρ σ H Z D R h c => c.rt sa Hs H .non (.d .non) (Evl.Ex.refl _) R.drop Rep.non h⟩
theorem js_if {c : Expr} {p q : List Stmt} {tc : TT} {dc : DT} {tp tq : TS} {dp dq : DS} (hc : JT X S W c tc dc) (hp : JSs X S W p tp dp) (hq : JSs X S W q tq dq) : JS X S W (.If c p q pos) (tIfS tc tp tq) (sIf dc dp dq) := by
  refine ⟨hc.k, ps_if hc.pt hp.ps hq.ps, fun F sa Hs ρ σ H Z D R h c => ?_⟩
  refine hc.sim F sa Hs ρ σ H Z.ex _ _ R h (c.ex sa σ) fun Hs1 ρ1 H1 b e1 R1 h1 => ?_
  cases b with
  | true =>
    rw [if_pos rfl] at h1 ⊢
    exact hp.sim F sa Hs1 ρ1 σ H1 Z D R1 h1 (c.mono e1)
  | false =>
    rw [if_neg Bool.false_ne_true] at h1 ⊢
    exact hq.sim F sa Hs1 ρ1 σ H1 Z D R1 h1 (c.mono e1)
/-- name = value -/
theorem bind_of {v : V} {t : T} {i : Nat} {k : B → En → Prop} (R : RelS S F sa Hs ρ σ H) (hz : S.self = none ∨ i ≠ 0) (r : RepT S F sa Hs ρ σ H v t) (h : bind t ρ k) :
    ∃ Hs' ρ' b, Evl.Ex Hs Hs' ∧ RelS S F sa Hs' (ρ'.set i (some b)) (σ.set i (some v)) H ∧ k b ρ' := by
  cases t with
  | d x => exact ⟨Hs, ρ, .d x, Evl.Ex.refl _, R.putD i r hz, h⟩
  | own m =>
    obtain ⟨p, o, rfl, t⟩ := r
    exact ⟨Hs, ρ, .own m, Evl.Ex.refl _, R.putOwn i t hz, h⟩
  | st => exact h.elim
  | exn x => exact h.elim
  | brw j =>
    obtain ⟨Hs', ρ', y, e, R', r', h'⟩ := esc_of (t := .brw j) (k := fun y ρ' => k (.d y) ρ') R r h
    exact ⟨Hs', ρ', .d y, e, R'.putD i r' hz, h'⟩
theorem sim_set {i : Nat} (hz : S.self = none ∨ i ≠ 0) (he : SimE S W te d) : SimS S W (tAsg te (L2.gName i)) (sSet i d) := by
  intro F sa Hs ρ σ H Z D R h c
  refine he F sa Hs ρ σ H Z.ex _ _ R h (c.ex sa σ) fun Hs1 ρ1 H1 v r e1 R1 q1 h1 => ?_
  obtain ⟨Hs2, ρ2, b, e2, R2, h2⟩ := bind_of (i := i) R1 hz q1 h1
  exact c.nx sa Hs2 _ _ H1 (e1.trans e2) R2 h2
theorem js_set {i : Nat} {x : Str} {pos' : Pos} (hN : X.N.Nodup) (hi : X.N[i]? = some x) (hx : Loc X.env.scope x) (he : JE X S W e te d) (hs : swapsWith e (some (.Name x pos')) pos.line X.env = pure false := by rfl)
    (hf : X.fn x = true ∨ X.env.scope.names.lookup x = some .local := by first | exact .inl rfl | exact .inr rfl | assumption) (hz : S.self = none ∨ i ≠ 0 := by first | exact .inl rfl | exact .inr (by decide)) : JS X S W (.Assign [.Name x pos'] e pos) (tAsg te (L2.gName i)) (sSet i d) :=
  ⟨he.k, ps_set hN hi hx he.pe hs hf, sim_set hz he.sim⟩

/-! ### targets -/
def SimG (S : Sx) (g : TG) (dg : DG) (vs : List Nat) : Prop := ∀ (F : Hp) (sa : Option Addr) (Hs : Hp) (ρ : En) (σ : St) (H : Hp) (v : V) (y : D) (Q : En → Prop) (QH : St → Hp → Prop), RelS S F sa Hs ρ σ H → Rep S.K S.cl Hs v y → dg y ρ Q →
  (∀ (ρ' : En) (σ' : St), RelS S F sa Hs ρ' σ' H → σ'.length = σ.length → (∀ j, j ∉ vs → σ'[j]? = σ[j]?) → (∀ j, j ∉ vs → ρ'[j]? = ρ[j]?) → Q ρ' → QH σ' H) → g v σ H QH
structure JG (X : Cx) (S : Sx) (tg : Expr) (g : TG) (dg : DG) (vs : List Nat) : Prop where
  pg : PG X tg g
  sim : SimG S g dg vs
theorem sim_gName {i : Nat} (hz : S.self = none ∨ i ≠ 0) : SimG S (L2.gName i) (gName i) [i] := by
  intro F sa Hs ρ σ H v y Q QH R r h k
  refine k _ _ (R.putD i r hz) (by rw [List.length_set]) (fun j hj => ?_) (fun j hj => ?_) h
  · rw [List.getElem?_set_ne]; rintro rfl; exact hj (by simp)
  · rw [List.getElem?_set_ne]; rintro rfl; exact hj (by simp)
theorem jg_name {i : Nat} {x : Str} (hN : X.N.Nodup) (hi : X.N[i]? = some x) (hx : Loc X.env.scope x) (hf : X.fn x = true ∨ X.env.scope.names.lookup x = some .local := by first | exact .inl rfl | exact .inr rfl | assumption)
    (hz : S.self = none ∨ i ≠ 0 := by first | exact .inl rfl | exact .inr (by decide)) : JG X S (.Name x pos) (L2.gName i) (gName i) [i] := ⟨pg_name hN hi hx hf, sim_gName hz⟩
def SimGs (S : Sx) (g : TGs) (dg : List DG) (vs : List Nat) : Prop := ∀ (F : Hp) (sa : Option Addr) (Hs : Hp) (ρ : En) (σ : St) (H : Hp) (v : List V) (y : List D) (Q : En → Prop) (QH : St → Hp → Prop), RelS S F sa Hs ρ σ H → Reps S.K S.cl Hs v y → y.length = dg.length → gTup.go dg y ρ Q →
  (∀ (ρ' : En) (σ' : St), RelS S F sa Hs ρ' σ' H → σ'.length = σ.length → (∀ j, j ∉ vs → σ'[j]? = σ[j]?) → (∀ j, j ∉ vs → ρ'[j]? = ρ[j]?) → Q ρ' → QH σ' H) → g v σ H QH
structure JGs (X : Cx) (S : Sx) (tg : List Expr) (g : TGs) (dg : List DG) (vs : List Nat) : Prop where
  pg : PGs X tg g
  sim : SimGs S g dg vs
theorem jg_nil : JGs X S [] gNil [] [] := by
  refine ⟨pgs_nil, fun F sa Hs ρ σ H v y Q QH R r hl h k => ?_⟩
  cases y with
  | nil =>
    cases r
    exact ⟨rfl, k ρ σ R rfl (fun _ _ => rfl) (fun _ _ => rfl) h⟩
  | cons _ _ => cases hl
theorem jg_cons {e : Expr} {es : List Expr} {g : TG} {dg : DG} {vs : List Nat} {gs : TGs} {dgs : List DG} {ws : List Nat} (h1 : JG X S e g dg vs) (h2 : JGs X S es gs dgs ws)
    (hs : (assignEach (e :: es) X.env).map (·.2) = assign e X.env :: (assignEach es X.env).map (·.2) := by rfl) : JGs X S (e :: es) (gCons g gs) (dg :: dgs) (vs ++ ws) := by
  refine ⟨pgs_cons h1.pg h2.pg hs, fun F sa Hs ρ σ H v y Q QH R r hl h k => ?_⟩
  cases y with
  | nil => cases hl
  | cons y ys =>
    cases r with
    | cons r rr =>
      refine ⟨_, _, rfl, ?_⟩
      refine h1.sim F sa Hs ρ σ H _ y _ _ R r h fun ρ1 σ1 R1 l1 j1 i1 h1 => ?_
      refine h2.sim F sa Hs ρ1 σ1 H _ ys _ _ R1 rr (by simpa using hl) h1 fun ρ2 σ2 R2 l2 j2 i2 h2 => ?_
      refine k ρ2 σ2 R2 (l2.trans l1) (fun j hj => ?_) (fun j hj => ?_) h2
      · simp only [List.mem_append, not_or] at hj
        rw [j2 j hj.2, j1 j hj.1]
      · simp only [List.mem_append, not_or] at hj
        rw [i2 j hj.2, i1 j hj.1]
theorem jg_tup {es : List Expr} {k n : Nat} {gs : TGs} {dgs : List DG} {vs : List Nat} (hK : X.K = S.K) (hc : X.calm = true) (h : JGs X S es gs dgs vs) (hd : dgs.length = n := by rfl) (hn : (assignEach es X.env).length = n := by rfl) (hst : (assignEach es X.env).findIdx? (·.1) = none := by rfl) :
    JG X S (.Tuple es k pos) (L2.gTup S.K n gs) (gTup dgs) vs := by
  refine ⟨by rw [← hK]; exact pg_tup hc h.pg hn hst, fun F sa Hs ρ σ H v y Q QH R r hq k => ?_⟩
  unfold gTup at hq
  split at hq
  · obtain ⟨hl, hq⟩ := hq
    cases r with
    | tup hp rs =>
      refine ⟨_, _, rfl, .of (R.ex _ _ hp), by rw [rs.length, hl, hd], ?_⟩
      exact h.sim F sa Hs ρ σ H _ _ Q QH R rs hl hq k
  · exact hq.elim
/-- a, b = value -/
theorem js_part {tg : Expr} {g : TG} {dg : DG} {vs : List Nat} (he : JE X S W e te d) (hg : JG X S tg g dg vs) (hs : swapsWithSole [tg] e pos.line X.env = pure false := by rfl) (hw : swappedStores [tg] e X.env = pure none := by rfl)
    (h1 : (assignEach [tg] X.env).map (·.2) = [assign tg X.env] := by rfl) : JS X S W (.Assign [tg] e pos) (tAsg te g) (sPart dg d) := by
  refine ⟨he.k, ps_asg he.pe hg.pg hs hw h1, fun F sa Hs ρ σ H Z D R h c => ?_⟩
  refine he.sim F sa Hs ρ σ H Z.ex _ _ R h (c.ex sa σ) fun Hs1 ρ1 H1 v r e1 R1 q1 h1 => ?_
  obtain ⟨Hs2, ρ2, y, e2, R2, r2, h2⟩ := esc_of R1 q1 h1
  exact hg.sim F sa Hs2 ρ2 σ H1 v y _ _ R2 r2 h2 fun ρ3 σ3 R3 _ _ _ h3 => c.nx sa Hs2 ρ3 σ3 H1 (e1.trans e2) R3 h3
end
end
end Y

/-! Sim7: what is walked; loops; comprehensions. -/
namespace Y
open PySem L2 Evl

structure ItOk (S : Sx) (J : It) (Hs1 : Hp) (xs : List D) : Prop where
  go : ∀ (F0 F : Hp) (sa : Option Addr) (Hs' : Hp) (ρ : En) (σ : St) (H' : Hp) (i : Nat) (d : D), Evl.Ex Hs1 Hs' → RelS (S.at0 F0) F sa Hs' ρ σ H' → xs[i]? = some d →
    J.go i H' ∧ ∀ (v : V) (H2 : Hp), J.yld i H' v H2 → ∃ Hs2, Evl.Ex Hs' Hs2 ∧ RelS (S.at0 F0) F sa Hs2 ρ σ H2 ∧ Rep S.K S.cl Hs2 v d
  stop : ∀ (F0 F : Hp) (sa : Option Addr) (Hs' : Hp) (ρ : En) (σ : St) (H' : Hp) (i : Nat), Evl.Ex Hs1 Hs' → RelS (S.at0 F0) F sa Hs' ρ σ H' → xs.length = i → J.stop i H'
def SimI (S : Sx) (W : WX) (wi : TI) (di : DI) : Prop := ∀ (F : Hp) (sa : Option Addr) (Hs : Hp) (ρ : En) (σ : St) (H : Hp) (x : XC) (Q : List D → En → Prop) (R : It → Hp → Prop),
  RelS S F sa Hs ρ σ H → di ρ x Q → XOk S F W sa Hs σ x →
  (∀ (Hs' : Hp) (ρ' : En) (H' : Hp) (J : It) (xs : List D), Evl.Ex Hs Hs' → RelS S F sa Hs' ρ' σ H' → ItOk S J Hs' xs → Q xs ρ' → R J H') → wi σ H R
structure JI (X : Cx) (S : Sx) (W : WX) (tg e : Expr) (wi : TI) (di : DI) : Prop where
  k : X.K = S.K
  pi : PI X tg e wi
  sim : SimI S W wi di
section
variable {X : Cx} {S : Sx} {W : WX} {e a b tg : Expr} {t ta tb te : TE} {d da db : DE} {pos p : Pos} {sa : Option Addr} {F Hs H : Hp} {ρ : En} {σ : St}

def iSeq (K : PySem.W.Frag) (tl : TE) : TI := fun σ H R => tl σ H fun x H1 => (∃ a xs, x = .ref a ∧ SqL K H1 a xs ∧ R (Itl K a) H1) ∨ (∃ a xs, x = .ref a ∧ SqT K H1 a xs ∧ R (Itt K a) H1) ∨ ∃ z, x = .str z ∧ R (Its z) H1
theorem pi_any (hl : PE X e t) : PI X tg e (iSeq X.K t) := by
  refine ⟨fun pins s σ H R I h => thn (hl.run pins s σ H _ I h) fun v s1 hv => ?_⟩
  obtain ⟨x, H1, I1, r1, q1⟩ := hv
  have one : ∀ b, b ∈ [s1.heap.objs.size] → FpOk X pins H1 b := fun b hb => by
    have e : b = s1.heap.objs.size := List.mem_singleton.mp hb
    rw [e]
    exact I1.fpOk (Nat.le_refl _) (I1.hok.fresh (Nat.le_refl _))
  rcases q1 with ⟨a, xs, rfl, hq, q⟩ | ⟨a, xs, rfl, hq, q⟩ | ⟨z, rfl, q⟩
  · cases r1
    obtain ⟨its, rv, pl, hz⟩ := I1.list hq
    exact wpAny_pyIter_list pl.isList ⟨_, _, _, _, H1, rfl, I1.kept (t' := s1.toks) fun b o e => Heap.get?_push_of_some _ e, turn_list a _, ⟨_, Heap.get?_push_size _ rfl, rfl, rfl⟩, one, q⟩
  · cases r1
    obtain ⟨its, rv, pl, hz⟩ := I1.tuple hq
    have pt : s1.heap.IsTuple a its.toArray := pl
    exact wpAny_pyIter_tuple pt ⟨_, _, _, _, H1, rfl, I1.kept (t' := s1.toks) fun b o e => Heap.get?_push_of_some _ e, turn_tuple a _, ⟨_, Heap.get?_push_size _ rfl, rfl, rfl⟩, one, q⟩
  · obtain ⟨tk, rfl⟩ := r1
    cases ha : z.cps.all (· < 128) with
    | true => exact wpAny_pyIter_ascii ha (pi_one (tk := s1.toks) I1 _ (turn_str _ z tk "str_ascii_iterator" (.inl rfl)) ⟨_, Heap.get?_push_size _ rfl, rfl, rfl⟩ q)
    | false => exact wpAny_pyIter_wide ha (pi_one (tk := s1.toks) I1 _ (turn_str _ z tk "str_iterator" (.inr rfl)) ⟨_, Heap.get?_push_size _ rfl, rfl, rfl⟩ q)
theorem seqL_one {K : PySem.W.Frag} {p : Addr} {xs : List V} (h : H p = some (.lst xs)) {a : Addr} (e : a = p) : SqL K H a xs := by rw [e]; exact .of h
theorem itok_list {p : Addr} {vs : List V} {xs : List D} (h : Hs p = some (.lst vs)) (r : Reps S.K S.cl Hs vs xs) : ItOk S (Itl S.K p) Hs xs := by
  refine ⟨fun F0 F sa Hs' ρ σ H' i d e R hi => ?_, fun F0 F sa Hs' ρ σ H' i e R hi => ?_⟩
  · have hp : H' p = some (.lst vs) := R.ex _ _ (e _ _ h)
    obtain ⟨y, e1, r1⟩ := (r.mono e).get hi
    refine ⟨⟨vs, y, .of hp, e1⟩, fun v H2 yl => ?_⟩
    obtain ⟨rfl, yl⟩ := yl
    have := yl vs (.of hp)
    rw [e1] at this
    cases this
    exact ⟨Hs', Evl.Ex.refl _, R, r1⟩
  · exact ⟨vs, .of (R.ex _ _ (e _ _ h)), by rw [r.length]; exact Nat.le_of_eq hi⟩
theorem itok_tup {p : Addr} {vs : List V} {xs : List D} (h : SqT S.K Hs p vs) (r : Reps S.K S.cl Hs vs xs) : ItOk S (Itt S.K p) Hs xs := by
  refine ⟨fun F0 F sa Hs' ρ σ H' i d e R hi => ?_, fun F0 F sa Hs' ρ σ H' i e R hi => ?_⟩
  · have hp : SqT S.K H' p vs := ex_t R.ex (ex_t e h)
    obtain ⟨y, e1, r1⟩ := (r.mono e).get hi
    refine ⟨⟨vs, y, hp, e1⟩, fun v H2 yl => ?_⟩
    obtain ⟨rfl, yl⟩ := yl
    have := yl vs hp
    rw [e1] at this
    cases this
    exact ⟨Hs', Evl.Ex.refl _, R, r1⟩
  · exact ⟨vs, ex_t R.ex (ex_t e h), by rw [r.length]; exact Nat.le_of_eq hi⟩
theorem itok_str {s : Tx} : ItOk S (Its (stx s)) Hs (s.map fun c => .str [c]) := by
  have hz : (stx s).cps.size = s.length := by simp [stx]
  refine ⟨fun F0 F sa Hs' ρ σ H' i d e R hi => ?_, fun F0 F sa Hs' ρ σ H' i e R hi => ?_⟩
  · rw [List.getElem?_map, Option.map_eq_some_iff] at hi
    obtain ⟨c, hc, rfl⟩ := hi
    have hl : i < s.length := (List.getElem?_eq_some_iff.mp hc).1
    refine ⟨by show i < (stx s).cps.size; omega, fun v H2 yl => ?_⟩
    obtain ⟨rfl, c', hc', rfl⟩ := yl
    have e1 : (stx s).cps[i]? = s[i]? := by simp [stx]
    rw [e1, hc] at hc'
    cases hc'
    exact ⟨Hs', Evl.Ex.refl _, R, Rep.str [c]⟩
  · show (stx s).cps.size ≤ i
    rw [List.length_map] at hi
    omega
theorem ji_any (h : JE X S W e t d) : JI X S W tg e (iSeq S.K t) (iOf d) := by
  refine ⟨h.k, by rw [← h.k]; exact pi_any h.pe, fun F sa Hs ρ σ H x Q R Rl hd hx k => ?_⟩
  refine h.sim F sa Hs ρ σ H x _ _ Rl hd hx fun Hs1 ρ1 H1 v r e1 R1 q1 h1 => ?_
  obtain ⟨Hs2, ρ2, y, e2, R2, r2, xs, hi, h2⟩ := esc_of R1 q1 h1
  cases r2 with
  | lst hp rs =>
    cases hi
    exact .inl ⟨_, _, rfl, .of (R2.ex _ _ hp), k Hs2 ρ2 H1 _ _ (e1.trans e2) R2 (itok_list hp rs) h2⟩
  | tup hp rs =>
    cases hi
    exact .inr (.inl ⟨_, _, rfl, .of (R2.ex _ _ hp), k Hs2 ρ2 H1 _ _ (e1.trans e2) R2 (itok_tup (.of hp) rs) h2⟩)
  | str s =>
    cases hi
    exact .inr (.inr ⟨_, rfl, k Hs2 ρ2 H1 _ _ (e1.trans e2) R2 itok_str h2⟩)
  | _ => cases hi
theorem upTo_get {lo : Int} {n i : Nat} {d : D} (h : (upTo lo n)[i]? = some d) : i < n ∧ d = .int (lo + i) := by
  unfold upTo at h
  rw [List.getElem?_map, Option.map_eq_some_iff] at h
  obtain ⟨j, hj, rfl⟩ := h
  obtain ⟨hl, e⟩ := List.getElem?_eq_some_iff.mp hj
  simp at hl e
  subst e
  exact ⟨hl, rfl⟩
theorem upTo_len (lo : Int) (n : Nat) : (upTo lo n).length = n := by simp [upTo]
theorem itok_range {lo : Int} {n : Nat} : ItOk S (Itr lo n) Hs (upTo lo n) := by
  refine ⟨fun F0 F sa Hs' ρ σ H' i d e R hi => ?_, fun F0 F sa Hs' ρ σ H' i e R hi => ?_⟩
  · obtain ⟨hl, rfl⟩ := upTo_get hi
    refine ⟨hl, fun v H2 yl => ?_⟩
    obtain ⟨rfl, rfl⟩ := yl
    exact ⟨Hs', Evl.Ex.refl _, R, Rep.int _⟩
  · rw [upTo_len] at hi
    exact Nat.le_of_eq hi
theorem ji_range1 (hg : Gl X "range") (hm : X.mg "range" = none) (ha : JE X S W a ta da) (hs : starEach [a] X.env = [(false, eval a X.env)] := by rfl) : JI X S W tg (.Call (.Name "range" p) [a] [] pos) (iRng1 (tCons ta tNil)) (iRange1 da) := by
  refine ⟨ha.k, pi_range1 hg hm (pa_cons ha.pe pa_nil hs) hs, fun F sa Hs ρ σ H x Q R Rl hd hx k => ?_⟩
  refine ha.sim F sa Hs ρ σ H x _ _ Rl hd hx fun Hs1 ρ1 H1 v r e1 R1 q1 h1 => ?_
  obtain ⟨j, rfl, ⟨h3, h4⟩, h2⟩ := h1
  cases (show Rep S.K S.cl Hs1 v (.int j) from q1)
  exact ⟨j, rfl, h3, h4, k Hs1 ρ1 H1 _ _ e1 R1 itok_range h2⟩
theorem ji_range2 (hg : Gl X "range") (hm : X.mg "range" = none) (ha : JE X S W a ta da) (hb : JE X S W b tb db) (hs : starEach [a, b] X.env = [(false, eval a X.env), (false, eval b X.env)] := by rfl) (hs2 : starEach [b] X.env = [(false, eval b X.env)] := by rfl) :
    JI X S W tg (.Call (.Name "range" p) [a, b] [] pos) (iRng2 (tCons ta (tCons tb tNil))) (iRange2 da db) := by
  refine ⟨ha.k, pi_range2 hg hm (pa_cons ha.pe (pa_cons hb.pe pa_nil hs2) (by rw [hs, hs2])) hs hs2, fun F sa Hs ρ σ H x Q R Rl hd hx k => ?_⟩
  refine ha.sim F sa Hs ρ σ H x _ _ Rl hd hx fun Hs1 ρ1 H1 v r e1 R1 q1 h1 => ?_
  refine hb.sim F sa Hs1 ρ1 σ H1 x _ _ R1 h1 (hx.mono e1) fun Hs2 ρ2 H2 v2 r2 e2 R2 q2 h2 => ?_
  obtain ⟨i, j, rfl, rfl, ⟨⟨h3, h4⟩, h5, h6⟩, h2⟩ := h2
  cases (show Rep S.K S.cl Hs1 v (.int i) from q1)
  cases (show Rep S.K S.cl Hs2 v2 (.int j) from q2)
  exact ⟨i, j, rfl, ⟨h3, h4, h5, h6⟩, k Hs2 ρ2 H2 _ _ (e1.trans e2) R2 itok_range h2⟩
theorem itok_enum {p : Addr} {vs : List V} {xs : List D} (h : Hs p = some (.lst vs)) (r : Reps S.K S.cl Hs vs xs) : ItOk S (Ite S.K p) Hs (numbered xs) := by
  have nl : (numbered xs).length = xs.length := by simp [numbered]
  refine ⟨fun F0 F sa Hs' ρ σ H' i d e R hi => ?_, fun F0 F sa Hs' ρ σ H' i e R hi => ?_⟩
  · have hp : H' p = some (.lst vs) := R.ex _ _ (e _ _ h)
    have hi' : ∃ x, xs[i]? = some x ∧ d = .tup [.int (i : Nat), x] := by
      have hl : i < (numbered xs).length := (List.getElem?_eq_some_iff.mp hi).1
      rw [nl] at hl
      unfold numbered at hi
      rw [List.getElem?_zipWith] at hi
      rw [List.getElem?_range hl, List.getElem?_eq_getElem hl] at hi
      cases hi
      exact ⟨xs[i], List.getElem?_eq_getElem hl, rfl⟩
    obtain ⟨x, hx, rfl⟩ := hi'
    obtain ⟨y, e1, r1⟩ := (r.mono e).get hx
    refine ⟨⟨vs, y, .of hp, e1⟩, fun v H2 yl => ?_⟩
    obtain ⟨T, y', rfl, hT, rfl, yl⟩ := yl
    have := yl vs (.of hp)
    rw [e1] at this
    cases this
    obtain ⟨R2, e2⟩ := R.new (o := .tup [.int (i : Nat), y]) hT
    exact ⟨_, e2, R2, Rep.tup upd_same (.cons (.int _) (.cons (r1.mono e2) .nil))⟩
  · rw [nl] at hi
    exact ⟨vs, .of (R.ex _ _ (e _ _ h)), by rw [r.length]; exact Nat.le_of_eq hi⟩

/-! ### for, while -/
section
variable {body : List Stmt} {tb' : TS} {db' : DS} {g : TG} {dg : DG} {vs : List Nat} {wi : TI} {di : DI} {iter : Expr}
theorem drop_cons {α : Type} {xs : List α} {i : Nat} {x : α} (h : xs[i]? = some x) : xs.drop i = x :: xs.drop (i + 1) := by
  obtain ⟨hl, e⟩ := List.getElem?_eq_some_iff.mp h
  rw [List.drop_eq_getElem_cons hl, e]
theorem sim_for (hi : SimI S W wi di) (hg : SimG S g dg vs) (hb : SimS S W tb' db') : SimS S W (tFor wi g tb') (sFor di dg db') := by
  intro F sa Hs ρ σ H Z D R h c
  refine hi F sa Hs ρ σ H Z.ex _ _ R h (c.ex sa σ) fun Hs1 ρ1 H1 J xs e1 R1 ok h1 => ?_
  refine ⟨fun i m σ' H' => m = xs.length - i ∧ i ≤ xs.length ∧ ∃ F' sa' Hs' ρ', Evl.Ex Hs1 Hs' ∧ RelS S F' sa' Hs' ρ' σ' H' ∧ forL dg db' Z (xs.drop i) ρ', ⟨_, rfl, Nat.zero_le _, F, sa, Hs1, ρ1, Evl.Ex.refl _, R1, h1⟩, ?_⟩
  rintro i m σ' H' ⟨rfl, hi, F', sa', Hs', ρ', e', R', h'⟩
  cases hx : xs[i]? with
  | none =>
    have hl := List.getElem?_eq_none_iff.mp hx
    have e : xs.drop i = [] := List.drop_eq_nil_of_le hl
    rw [e] at h'
    exact .inl ⟨ok.stop S.F0 F' sa' Hs' ρ' σ' H' i e' R' (Nat.le_antisymm hl hi), c.nx sa' Hs' ρ' σ' H' (e1.trans e') R' h'⟩
  | some x =>
    have hl : i < xs.length := (List.getElem?_eq_some_iff.mp hx).1
    rw [drop_cons hx] at h'
    obtain ⟨g1, g2⟩ := ok.go S.F0 F' sa' Hs' ρ' σ' H' i x e' R' hx
    refine .inr ⟨g1, fun σ2 H2 => ∃ F2 sa2 Hs2 ρ2, Evl.Ex Hs1 Hs2 ∧ RelS S F2 sa2 Hs2 ρ2 σ2 H2 ∧ forL dg db' Z (xs.drop (i + 1)) ρ2, fun σ2 H2 n => ⟨xs.length - (i + 1), by omega, rfl, hl, n⟩, fun v H2 y => ?_⟩
    obtain ⟨Hs2, e2, R2, r2⟩ := g2 v H2 y
    refine hg F' sa' Hs2 ρ' σ' H2 v x _ _ R2 r2 h' fun ρ3 σ3 R3 _ _ _ h3 => ?_
    have e13 : Evl.Ex Hs Hs2 := (e1.trans e').trans e2
    have nxt : ∀ {F4 : Hp} (sa4 : Option Addr) (Hs4 : Hp) (ρ4 : En) (σ4 : St) (H4 : Hp), Evl.Ex Hs2 Hs4 → RelS S F4 sa4 Hs4 ρ4 σ4 H4 → forL dg db' Z (xs.drop (i + 1)) ρ4 →
        ∃ F2 sa2 Hs2 ρ2, Evl.Ex Hs1 Hs2 ∧ RelS S F2 sa2 Hs2 ρ2 σ4 H4 ∧ forL dg db' Z (xs.drop (i + 1)) ρ2 := fun {F4} sa4 Hs4 ρ4 σ4 H4 e4 R4 h4 => ⟨F4, sa4, Hs4, ρ4, (e'.trans e2).trans e4, R4, h4⟩
    refine hb F' sa' Hs2 ρ3 σ3 H2 _ _ R3 h3 ⟨nxt, fun sa4 Hs4 ρ4 σ4 H4 e4 R4 h4 => ?_, nxt, fun sa4 Hs4 H4 v r e4 R4 h4 => ?_, fun sa4 σ4 => ?_⟩
    · exact c.nx sa4 Hs4 ρ4 σ4 H4 (e13.trans e4) R4 h4
    · exact c.rt sa4 Hs4 H4 v r (e13.trans e4) R4 h4
    · exact (c.ex sa4 σ4).mono e13
theorem js_for (hp : PassesOwn (model X.prog X.w) X.A X.env X.xe) (hc : X.calm = true) (hi : JI X S W tg iter wi di) (hg : JG X S tg g dg vs) (hb : JSs X S W body tb' db')
    (hs : ∀ x, foldedSetIterable iter X.env x = pure x := by intro _; rfl) : JS X S W (.For tg iter body [] pos) (tFor wi g tb') (sFor di dg db') :=
  ⟨hi.k, ps_for hp hc hi.pi hg.pg hb.ps hs, sim_for hi.sim hg.sim hb.sim⟩
theorem js_while {c : Expr} {tc : TT} {dc : DT} (hp : PassesOwn (model X.prog X.w) X.A X.env X.xe) (hc : JT X S W c tc dc) (hb : JSs X S W body tb' db') : JS X S W (.While c body [] pos) (tWhile tc tb') (sWhile dc db') := by
  refine ⟨hc.k, ps_while hp hc.pt hb.ps, fun F sa Hs ρ σ H Z D R h cm => ?_⟩
  obtain ⟨V, ⟨m0, h0⟩, st⟩ := h
  refine ⟨fun m σ' H' => ∃ F' sa' Hs' ρ', Evl.Ex Hs Hs' ∧ RelS S F' sa' Hs' ρ' σ' H' ∧ V m ρ', ⟨m0, F, sa, Hs, ρ, Evl.Ex.refl _, R, h0⟩, ?_⟩
  rintro m σ' H' ⟨F', sa', Hs', ρ', e', R', v'⟩
  refine hc.sim F' sa' Hs' ρ' σ' H' Z.ex _ _ R' (st m ρ' v') ((cm.ex sa' σ').mono e') fun Hs1 ρ1 H1 b e1 R1 h1 => ?_
  cases b with
  | true =>
    rw [if_pos rfl] at h1 ⊢
    refine ⟨fun σ2 H2 => ∃ m', m' < m ∧ ∃ F2 sa2 Hs2 ρ2, Evl.Ex Hs Hs2 ∧ RelS S F2 sa2 Hs2 ρ2 σ2 H2 ∧ V m' ρ2, fun _ _ q => q, ?_⟩
    have ee := e'.trans e1
    have nxt : ∀ {F4 : Hp} (sa4 : Option Addr) (Hs4 : Hp) (ρ4 : En) (σ4 : St) (H4 : Hp), Evl.Ex Hs1 Hs4 → RelS S F4 sa4 Hs4 ρ4 σ4 H4 → (∃ m', m' < m ∧ V m' ρ4) → ∃ m', m' < m ∧ ∃ F2 sa2 Hs2 ρ2, Evl.Ex Hs Hs2 ∧ RelS S F2 sa2 Hs2 ρ2 σ4 H4 ∧ V m' ρ2 :=
      fun {F4} sa4 Hs4 ρ4 σ4 H4 e4 R4 ⟨m', hm, h4⟩ => ⟨m', hm, F4, sa4, Hs4, ρ4, ee.trans e4, R4, h4⟩
    exact hb.sim F' sa' Hs1 ρ1 σ' H1 _ _ R1 h1 ⟨nxt, fun sa4 Hs4 ρ4 σ4 H4 e4 R4 h4 => cm.nx sa4 Hs4 ρ4 σ4 H4 (ee.trans e4) R4 h4, nxt, fun sa4 Hs4 H4 v r e4 R4 h4 => cm.rt sa4 Hs4 H4 v r (ee.trans e4) R4 h4, fun sa4 σ4 => (cm.ex sa4 σ4).mono ee⟩
  | false =>
    rw [if_neg Bool.false_ne_true] at h1 ⊢
    exact cm.nx sa' Hs1 ρ1 σ' H1 (e'.trans e1) R1 h1
end
end
end Y

/-! Sim8: comprehensions; lists that are changed. -/
namespace Y
open PySem L2 Evl
section
variable {X : Cx} {S : Sx} {W : WX} {e a b tg : Expr} {t ta tb te : TE} {d da db : DE} {pos p : Pos} {sa : Option Addr} {F Hs H : Hp} {ρ : En} {σ : St}

/-! ### slots forgotten and given back -/
theorem wipeD_len (ρ : En) : ∀ l, (wipeD ρ l).length = ρ.length
  | [] => rfl
  | i :: l => by simp [wipeD, wipeD_len ρ l]
theorem wipeD_get {ρ : En} {i : Nat} {b : B} : ∀ {l : List Nat}, (wipeD ρ l)[i]? = some (some b) → i ∉ l ∧ ρ[i]? = some (some b)
  | [], h => ⟨by simp, h⟩
  | j :: l, h => by
    unfold wipeD at h
    rcases set_get? h with ⟨_, z⟩ | ⟨ne, h⟩
    · cases z
    · obtain ⟨h1, h2⟩ := wipeD_get h
      exact ⟨by simp only [List.mem_cons, not_or]; exact ⟨fun e => ne e.symm, h1⟩, h2⟩
theorem wipe_get {σ : St} {i : Nat} : ∀ {l : List Nat}, i ∉ l → (wipe σ l)[i]? = σ[i]?
  | [], _ => rfl
  | j :: l, h => by
    simp only [List.mem_cons, not_or] at h
    unfold wipe
    rw [List.getElem?_set_ne (Ne.symm h.1), wipe_get h.2]
theorem RelS.wipe (R : RelS S F sa Hs ρ σ H) (l : List Nat) (hz : S.self = none ∨ 0 ∉ l) : RelS S F sa Hs (wipeD ρ l) (L2.wipe σ l) H := by
  refine ⟨R.b0, R.ex, R.fr, by rw [wipe_length, wipeD_len]; exact R.len, R.sal, R.sav, fun i b e => ?_, fun i j q m m' hj e1 e2 z => ?_, fun q eq hl => ?_, R.f0⟩
  · obtain ⟨h1, h2⟩ := wipeD_get e
    rw [wipe_get h1]
    exact R.vars i b h2
  · obtain ⟨h1, h2⟩ := wipeD_get e1
    obtain ⟨h3, h4⟩ := wipeD_get e2
    rw [wipe_get h1] at z
    rw [wipe_get h3]
    exact R.apart i j q m m' hj h2 h4 z
  · rcases hz with hz | hz
    · rw [hz] at eq; cases eq
    · rw [wipe_get hz]
      exact R.slf q eq (by rw [wipeD_len] at hl; exact hl)
theorem unwipe_len {ρ r : En} (h : r.length = ρ.length) : ∀ l, (unwipe ρ l r).length = ρ.length
  | [] => h
  | i :: l => by simp [unwipe, unwipe_len h l]
theorem unwipe_get {ρ r : En} {i : Nat} {b : B} : ∀ {l : List Nat}, (unwipe ρ l r)[i]? = some (some b) → (i ∈ l ∧ ρ[i]? = some (some b)) ∨ (i ∉ l ∧ r[i]? = some (some b))
  | [], h => .inr ⟨by simp, h⟩
  | j :: l, h => by
    unfold unwipe at h
    rcases set_get? h with ⟨rfl, z⟩ | ⟨ne, h⟩
    · refine .inl ⟨by simp, ?_⟩
      cases e : ρ[j]? with
      | none => rw [e] at z; cases z
      | some c =>
        rw [e] at z
        cases c with
        | none => cases z
        | some c => cases z; rfl
    · rcases unwipe_get h with ⟨h1, h2⟩ | ⟨h1, h2⟩
      · exact .inl ⟨by simp [h1], h2⟩
      · exact .inr ⟨by simp only [List.mem_cons, not_or]; exact ⟨fun e => ne e.symm, h1⟩, h2⟩
theorem noOwn_rows {ρ : En} {l : List Nat} {i : Nat} (h : noOwn ρ l = true) (hi : i ∈ l) {m : List (List D)} : ρ[i]? ≠ some (some (.rows m)) := by
  intro e
  unfold noOwn at h
  have q := List.all_eq_true.mp h i hi
  rw [e] at q
  cases q
theorem noOwn_get {ρ : En} {l : List Nat} {i : Nat} (h : noOwn ρ l = true) (hi : i ∈ l) {m : MO} : ρ[i]? ≠ some (some (.own m)) := by
  intro e
  unfold noOwn at h
  have q := List.all_eq_true.mp h i hi
  rw [e] at q
  cases q
/-- behind a turn: outside of the block's names as the turn left it, these as they were -/
theorem RelS.unwipe {F1 Hs' H' : Hp} {ρ2 : En} {σ2 : St} {l : List Nat} (R : RelS S F1 sa Hs ρ σ H) (hn : noOwn ρ l = true) (ee : Evl.Ex Hs Hs') (R2 : RelS S F sa Hs' ρ2 σ2 H') (hl : σ2.length = σ.length) (hs : ∀ j, j ∉ l → σ2[j]? = σ[j]?) : RelS S F sa Hs' (Y.unwipe ρ l ρ2) σ H' := by
  refine ⟨R2.b0, R2.ex, R2.fr, ?_, R2.sal, R2.sav, fun i b e => ?_, fun i j q m m' hj e1 e2 z => ?_, fun q eq hz => R.slf q eq (by rw [unwipe_len (by rw [← R2.len, hl, R.len])] at hz; exact hz), R2.f0⟩
  · rw [unwipe_len (by rw [← R2.len, hl, R.len])]
    exact R.len
  · rcases unwipe_get e with ⟨h1, h2⟩ | ⟨h1, h2⟩
    · obtain ⟨v, k1, k2⟩ := R.vars i b h2
      refine ⟨v, k1, ?_⟩
      cases b with
      | d x => exact Rep.mono ee k2
      | own m => exact absurd h2 (noOwn_get hn h1)
      | st => exact k2
      | exn x => exact RepXB.mono ee k2
      | rows xs => exact absurd h2 (noOwn_rows hn h1)
    · obtain ⟨v, k1, k2⟩ := R2.vars i b h2
      exact ⟨v, by rw [← hs i h1]; exact k1, k2⟩
  · rcases unwipe_get e1 with ⟨h1, h2⟩ | ⟨h1, h2⟩
    · exact absurd h2 (noOwn_get hn h1)
    · rcases unwipe_get e2 with ⟨h3, h4⟩ | ⟨h3, h4⟩
      · exact absurd h4 (noOwn_get hn h3)
      · rw [← hs i h1] at z
        rw [← hs j h3]
        exact R2.apart i j q m m' hj h2 h4 z
theorem noOwn_unwipe {ρ ρ2 : En} {l : List Nat} (h : noOwn ρ l = true) : noOwn (Y.unwipe ρ l ρ2) l = true := by
  unfold noOwn
  refine List.all_eq_true.mpr fun i hi => ?_
  cases e : (Y.unwipe ρ l ρ2)[i]? with
  | none => rfl
  | some c =>
    cases c with
    | none => rfl
    | some b =>
      cases b with
      | own m =>
        rcases unwipe_get e with ⟨_, h2⟩ | ⟨h1, _⟩
        · exact absurd h2 (noOwn_get h hi)
        · exact absurd hi h1
      | d x => rfl
      | st => rfl
      | exn x => rfl
      | rows xs =>
        rcases unwipe_get e with ⟨_, h2⟩ | ⟨h1, _⟩
        · exact absurd h2 (noOwn_rows h hi)
        · exact absurd hi h1
theorem wipe_eq {σ σ2 : St} : ∀ {l : List Nat}, σ2.length = σ.length → (∀ j, j ∉ l → σ2[j]? = σ[j]?) → L2.wipe σ2 l = L2.wipe σ l := fun {l} hl h => by
  apply List.ext_getElem?
  intro i
  by_cases hi : i ∈ l
  · have e : ∀ (τ : St), (L2.wipe τ l)[i]? = if i < τ.length then some none else none := by
      intro τ
      have g : ∀ l : List Nat, i ∈ l → (L2.wipe τ l)[i]? = if i < τ.length then some none else none := by
        intro l
        induction l with
        | nil => intro h; cases h
        | cons j l ih =>
          intro h
          unfold L2.wipe
          by_cases hj : j = i
          · subst hj
            by_cases hb : j < τ.length
            · rw [List.getElem?_set_self (by rw [wipe_length]; exact hb), if_pos hb]
            · rw [List.getElem?_eq_none (by rw [List.length_set, wipe_length]; omega), if_neg hb]
          · rw [List.getElem?_set_ne hj]
            exact ih (by rcases List.mem_cons.mp h with z | z; exact absurd z.symm hj; exact z)
      exact g l hi
    rw [e, e, hl]
  · rw [wipe_get hi, wipe_get hi, h i hi]

/-! ### comprehensions -/
/-- a block's tests -/
structure JTs (X : Cx) (S : Sx) (W : WX) (ifs : List Expr) (t : TT) (d : DT) : Prop where
  pt : PTs X ifs t
  sim : SimT S W t d
theorem jts_nil : JTs X S W [] L2.tYes tYes := ⟨pts_nil, fun F sa Hs ρ σ H x Q QH R h _ k => k Hs ρ H true (Evl.Ex.refl _) R h⟩
theorem jts_one {c : Expr} {tc : TT} {dc : DT} (h : JT X S W c tc dc) : JTs X S W [c] tc dc := ⟨pts_one h.pt, h.sim⟩
theorem xno : XOk S F noW sa Hs σ noX := fun _ _ _ _ _ _ _ _ _ h => h.elim

theorem sim_lc {wi : TI} {di : DI} {g : TG} {dg : DG} {gs vs : List Nat} {tt : TT} {dt : DT} {te : TE} {de : DE} (hsub : ∀ i ∈ gs, i ∈ vs) (hz : S.self = none ∨ 0 ∉ vs) (hi : SimI S W wi di) (hg : ∀ F0, SimG (S.at0 F0) g dg gs) (ht : ∀ F0, SimT (S.at0 F0) noW tt dt) (he : ∀ F0, SimE (S.at0 F0) noW te de) :
    SimE S W (tLc wi g tt te vs) (dLc di dg dt de vs) := by
  intro F sa Hs ρ σ H x Q QH R h hx k
  refine hi F sa Hs ρ σ H x _ _ R h hx fun Hs1 ρ1 H1 J xs e1 R1 ok h1 D hD => ?_
  obtain ⟨hn, h1⟩ := h1
  obtain ⟨R1', t1⟩ := R1.newOwn (o := .lst []) (m := .lst []) hD Reps.nil
  refine ⟨fun i m H' => m = xs.length - i ∧ i ≤ xs.length ∧ ∃ Hs' ρ' acc vacc, Evl.Ex Hs1 Hs' ∧ RelS S F sa Hs' ρ' σ H' ∧ noOwn ρ' vs = true ∧ Tmp S F sa Hs' ρ' σ H' D (.lst vacc) (.lst acc) ∧ lcL dg dt de vs Q (xs.drop i) acc ρ',
    ⟨_, rfl, Nat.zero_le _, Hs1, ρ1, [], [], Evl.Ex.refl _, R1', hn, t1, h1⟩, ?_⟩
  rintro i m H' ⟨rfl, hi, Hs', ρ', acc, vacc, e', R', hn', t', h'⟩
  cases hx' : xs[i]? with
  | none =>
    have hl := List.getElem?_eq_none_iff.mp hx'
    rw [List.drop_eq_nil_of_le hl] at h'
    exact .inl ⟨ok.stop S.F0 F sa Hs' ρ' σ H' i e' R' (Nat.le_antisymm hl hi), k Hs' ρ' H' _ (.own (.lst acc)) (e1.trans e') R' ⟨D, _, rfl, t'⟩ h'⟩
  | some y =>
    have hl : i < xs.length := (List.getElem?_eq_some_iff.mp hx').1
    rw [drop_cons hx'] at h'
    -- the list is kept aside while the turn runs: it is foreign to what the turn knows
    obtain ⟨F', hF⟩ : ∃ F' : Hp, F' = upd F D (.lst vacc) := ⟨_, rfl⟩
    have FD : ∀ {b : Addr}, b ≠ D → F' b = F b := fun {b} hb => by rw [hF, upd_ne hb]
    have FDD : F' D = some (.lst vacc) := by rw [hF, upd_same]
    obtain ⟨S', hS⟩ : ∃ S' : Sx, S' = S.at0 (upd S.F0 D (.lst vacc)) := ⟨_, rfl⟩
    have RF : RelS (S.at0 (upd S.F0 D (.lst vacc))) F' sa Hs' ρ' σ H' := by rw [hF]; exact R'.aside t'
    obtain ⟨g1, g2⟩ := ok.go _ F' sa Hs' ρ' σ H' i y e' RF hx'
    refine .inr ⟨g1, fun H2 => i + 1 ≤ xs.length ∧ ∃ Hs2 ρ2 acc vacc, Evl.Ex Hs1 Hs2 ∧ RelS S F sa Hs2 ρ2 σ H2 ∧ noOwn ρ2 vs = true ∧ Tmp S F sa Hs2 ρ2 σ H2 D (.lst vacc) (.lst acc) ∧ lcL dg dt de vs Q (xs.drop (i + 1)) acc ρ2,
      fun H2 ⟨n1, n2⟩ => ⟨xs.length - (i + 1), by omega, rfl, n1, n2⟩, fun v H2 yl => ?_⟩
    obtain ⟨Hs2, e2, R2, r2⟩ := g2 v H2 yl
    refine hg _ F' sa Hs2 (wipeD ρ' vs) (L2.wipe σ vs) H2 v y _ _ (RelS.wipe (S := S.at0 _) R2 vs hz) r2 h' fun ρ3 σ3 R3 l3 j3 i3 h3 => ?_
    have hs3 : ∀ j, j ∉ vs → σ3[j]? = σ[j]? := fun j hj => (j3 j fun z => hj (hsub j z)).trans (wipe_get hj)
    have hl3 : σ3.length = σ.length := l3.trans (wipe_length σ vs)
    refine ⟨by rw [wipe_eq hl3 hs3], ?_⟩
    refine ht _ F' sa Hs2 ρ3 σ3 H2 noX _ _ R3 h3 (xno (S := S.at0 _)) fun Hs4 ρ4 H4 b e4 R4 h4 => ?_
    -- the frame again
    have back : ∀ {Hs5 H5 : Hp} {ρ5 : En}, Evl.Ex Hs' Hs5 → RelS (S.at0 (upd S.F0 D (.lst vacc))) F' sa Hs5 ρ5 σ3 H5 → RelS S F sa Hs5 (Y.unwipe ρ' vs ρ5) σ H5 ∧ noOwn (Y.unwipe ρ' vs ρ5) vs = true ∧ Tmp S F sa Hs5 (Y.unwipe ρ' vs ρ5) σ H5 D (.lst vacc) (.lst acc) := fun {Hs5 H5 ρ5} e5 R5 => by
      obtain ⟨d1, d2⟩ := R5.fr D _ FDD
      have R6 : RelS S F sa Hs5 ρ5 σ3 H5 := RelS.unaside (D := D) (o := .lst vacc) R'.f0 t'.f (by rw [← hF]; exact R5)
      refine ⟨R'.unwipe hn' e5 R6 hl3 hs3, noOwn_unwipe hn', ⟨d1, t'.f, t'.s, d2, t'.r.mono e5, fun j m ej z => ?_⟩⟩
      rcases unwipe_get ej with ⟨k1, k2⟩ | ⟨k1, k2⟩
      · exact noOwn_get hn' k1 k2
      · obtain ⟨w, z1, q, o, rfl, _, f2, _⟩ := R5.vars j _ k2
        rw [hs3 j k1, z] at z1
        cases z1
        rw [FDD] at f2
        cases f2
    · cases b with
      | true =>
        rw [if_pos rfl] at h4 ⊢
        refine he _ F' sa Hs4 ρ4 σ3 H4 noX _ _ R4 h4 (xno (S := S.at0 _)) fun Hs5 ρ5 H5 v5 r5 e5 R5 q5 h5 => ?_
        obtain ⟨Hs6, ρ6, y6, e6, R6, r6, hz, h6⟩ := esc_of R5 q5 h5
        have ee := ((e2.trans e4).trans e5).trans e6
        obtain ⟨B1, B2, B3⟩ := back ee R6
        refine ⟨vacc, B3.h, ?_, ?_⟩
        · have z : Reps S.K S.cl Hs6 vacc acc := B3.r
          rw [z.length, ← sz_eq]
          exact hz
        · refine ⟨hl, Hs6, _, _, _, e'.trans ee, ⟨B1.b0, B1.ex.mut B3.hs, fun b o eb => ?_, B1.len, B1.sal, fun a ea => ?_, fun j c ej => ?_, B1.apart, B1.slf, B1.f0⟩, B2, ⟨B3.hs, B3.f, B3.s, upd_same, ?_, B3.na⟩, h6⟩
          · have nb : b ≠ D := by rintro rfl; rw [B3.f] at eb; cases eb
            obtain ⟨z1, z2⟩ := B1.fr b o eb
            exact ⟨z1, by rw [upd_ne nb]; exact z2⟩
          · obtain ⟨z1, z2, z3⟩ := B1.sav a ea
            have na : a ≠ D := by rintro rfl; exact B3.s ea
            exact ⟨z1.mono (Evl.Ex.refl _) fun o eo => by rw [upd_ne na]; exact eo, z2, z3⟩
          · obtain ⟨w, z1, z2⟩ := B1.vars j c ej
            refine ⟨w, z1, ?_⟩
            cases c with
            | d x => exact z2
            | own m =>
              obtain ⟨q, o, rfl, k1, k2, k3, k4, k5⟩ := z2
              have nq : q ≠ D := by rintro rfl; exact B3.na j m ej z1
              exact ⟨q, o, rfl, k1, k2, k3, by rw [upd_ne nq]; exact k4, k5⟩
            | st => exact z2
            | exn x => exact z2
            | rows xs => exact z2
          · have z : Reps S.K S.cl Hs6 vacc acc := B3.r
            exact z.append (.cons r6 .nil)
      | false =>
        rw [if_neg Bool.false_ne_true] at h4 ⊢
        have ee := e2.trans e4
        obtain ⟨B1, B2, B3⟩ := back ee R4
        exact ⟨hl, Hs4, _, _, _, e'.trans ee, B1, B2, B3, h4⟩

section
variable {iter elt : Expr} {ifs : List Expr} {scope : Scope} {own : List (Str × Nat)} {wi : TI} {di : DI} {g : Hp → TG} {dg : DG} {gs : List Nat} {tt : Hp → TT} {dt : DT} {te : Hp → TE} {de : DE}
theorem je_lc (hc : X.calm = true) (hN : X.N.Nodup) (hi : JI X S W tg iter wi di) (ok : BlkOk X.N X.env.scope scope own)
    (hg : ∀ (F0 : Hp) (s : Shared) (H : Hp) (C : Addr) (cl : List (Str × Addr)) (fp : List Addr), JG (X.blk s H scope (compEnvC scope cl C X.env) fp) (S.at0 F0) tg (g F0) dg gs)
    (ht : ∀ (F0 : Hp) (s : Shared) (H : Hp) (C : Addr) (cl : List (Str × Addr)) (fp : List Addr), JTs (X.blk s H scope (compEnvC scope cl C X.env) fp) (S.at0 F0) noW ifs (tt F0) dt)
    (he : ∀ (F0 : Hp) (s : Shared) (H : Hp) (C : Addr) (cl : List (Str × Addr)) (fp : List Addr), JE (X.blk s H scope (compEnvC scope cl C X.env) fp) (S.at0 F0) noW elt (te F0) de)
    (hsub : ∀ i ∈ gs, i ∈ own.map (·.2) := by decide) (hF0 : ∀ F0, g F0 = g S.F0 ∧ tt F0 = tt S.F0 ∧ te F0 = te S.F0 := by intro _; exact ⟨rfl, rfl, rfl⟩) (hz : S.self = none ∨ 0 ∉ own.map (·.2) := by first | exact .inl rfl | exact .inr (by decide)) (hs : ∀ x, foldedSetIterable iter X.env x = pure x := by intro _; rfl) :
    JE X S W (.ListComp elt [⟨tg, iter, ifs, 0⟩] scope pos) (tLc wi (g S.F0) (tt S.F0) (te S.F0) (own.map (·.2))) (dLc di dg dt de (own.map (·.2))) :=
  ⟨hi.k, pe_lc hc hN hi.pi ok (fun s H C cl fp => (hg S.F0 s H C cl fp).pg) (fun s H C cl fp => (ht S.F0 s H C cl fp).pt) (fun s H C cl fp => (he S.F0 s H C cl fp).pe) hs,
    sim_lc hsub hz hi.sim (fun F0 => (hF0 F0).1 ▸ (hg F0 X.s_0 X.H_0 0 [] []).sim) (fun F0 => (hF0 F0).2.1 ▸ (ht F0 X.s_0 X.H_0 0 [] []).sim) (fun F0 => (hF0 F0).2.2 ▸ (he F0 X.s_0 X.H_0 0 [] []).sim)⟩
theorem js_setLc {i : Nat} {y : Str} {py spos : Pos} (hc : X.calm = true) (hN : X.N.Nodup) (hy : X.N[i]? = some y) (hyl : X.env.scope.names.lookup y = some .local)
    (hsw : swapsWith (.ListComp elt [⟨tg, iter, ifs, 0⟩] scope pos) (some (.Name y py)) spos.line X.env = pure true) (hi : JI X S W tg iter wi di) (ok : BlkOk X.N X.env.scope scope own)
    (hg : ∀ (F0 : Hp) (s : Shared) (H : Hp) (C : Addr) (cl : List (Str × Addr)) (fp : List Addr), JG (X.blk s H scope (compEnvC scope cl C X.env) fp) (S.at0 F0) tg (g F0) dg gs)
    (ht : ∀ (F0 : Hp) (s : Shared) (H : Hp) (C : Addr) (cl : List (Str × Addr)) (fp : List Addr), JTs (X.blk s H scope (compEnvC scope cl C X.env) fp) (S.at0 F0) noW ifs (tt F0) dt)
    (he : ∀ (F0 : Hp) (s : Shared) (H : Hp) (C : Addr) (cl : List (Str × Addr)) (fp : List Addr), JE (X.blk s H scope (compEnvC scope cl C X.env) fp) (S.at0 F0) noW elt (te F0) de)
    (hsub : ∀ i ∈ gs, i ∈ own.map (·.2) := by decide) (hF0 : ∀ F0, g F0 = g S.F0 ∧ tt F0 = tt S.F0 ∧ te F0 = te S.F0 := by intro _; exact ⟨rfl, rfl, rfl⟩) (hz : S.self = none ∨ 0 ∉ own.map (·.2) := by first | exact .inl rfl | exact .inr (by decide)) (hs : ∀ x, foldedSetIterable iter X.env x = pure x := by intro _; rfl)
    (hz2 : S.self = none ∨ i ≠ 0 := by first | exact .inl rfl | exact .inr (by decide)) : JS X S W (.Assign [.Name y py] (.ListComp elt [⟨tg, iter, ifs, 0⟩] scope pos) spos) (tAsg (tLc wi (g S.F0) (tt S.F0) (te S.F0) (own.map (·.2))) (L2.gName i)) (sSet i (dLc di dg dt de (own.map (·.2)))) :=
  ⟨hi.k, ps_setLc hc hN hy hyl hsw hi.pi ok (fun s H C cl fp => (hg S.F0 s H C cl fp).pg) (fun s H C cl fp => (ht S.F0 s H C cl fp).pt) (fun s H C cl fp => (he S.F0 s H C cl fp).pe) hs,
    sim_set hz2 (sim_lc hsub hz hi.sim (fun F0 => (hF0 F0).1 ▸ (hg F0 X.s_0 X.H_0 0 [] []).sim) (fun F0 => (hF0 F0).2.1 ▸ (ht F0 X.s_0 X.H_0 0 [] []).sim) (fun F0 => (hF0 F0).2.2 ▸ (he F0 X.s_0 X.H_0 0 [] []).sim))⟩
end

/-! ### lists that one name holds: append, store, pop -/
theorem RelS.ownL (R : RelS S F sa Hs ρ σ H) {i : Nat} {xs : List D} (e : ρ[i]? = some (some (.own (.lst xs)))) : ∃ p vs, σ[i]? = some (some (.ref p)) ∧ H p = some (.lst vs) ∧ Reps S.K S.cl Hs vs xs ∧ Hs p = none := by
  obtain ⟨v, h1, p, o, rfl, h2, _, _, h3, h4⟩ := R.vars i _ e
  cases o <;> first | exact h4.elim | exact ⟨p, _, h1, h3, h4, h2⟩
theorem js_append {i : Nat} {x : Str} {apos cpos pos : Pos} {pn : Pos} (hK : X.K = S.K) (ha : JE X S W a ta da) (hN : X.N[i]? = some x := by rfl) (hv : Vis X.env.scope x := by first | exact Or.inl rfl | exact Or.inr (Or.inl rfl) | exact Or.inr (Or.inr rfl))
    (hd : (x == ("__debug__" : Str)) = false := by decide) (hcd : (x == ("__classdict__" : Str)) = false := by decide)
    (hbase : attributeBase (.Name x pn) "append" X.env (eval (.Name x pn) X.env) = eval (.Name x pn) X.env := by rfl)
    (hfew : ((backTo cpos (starEach (a :: []) X.env)).all (fun x => !x.1) && (backToKw cpos (keywordEach [] X.env)).all (fun x => x.1.isSome)
      && decide ((a :: ([] : List Expr)).length + ([] : List Keyword).length + (if ([] : List Keyword).isEmpty then 0 else 1) < 30)) = true := by rfl)
    (hline : (apos.endLine == cpos.line) = true := by rfl) (hs : starEach (a :: []) X.env = (false, eval a X.env) :: starEach [] X.env := by rfl) (hplain : (backTo cpos (starEach [] X.env)).any (·.1) = false := by rfl)
    (hsw : swapsWith (.Call (.Attribute (.Name x pn) "append" apos) [a] [] cpos) none pos.line X.env = pure false := by rfl) :
    JS X S W (.Expr (.Call (.Attribute (.Name x pn) "append" apos) [a] [] cpos) pos) (tDrop (tBM S.K "list" rAppend (tVar i) (tCons ta tNil))) (sAppend i da) := by
  refine ⟨hK, ?_, fun F sa Hs ρ σ H Z D R h c => ?_⟩
  · rw [← hK]
    exact ps_expr (pe_bm PySem.F.plainAttrs_list PySem.F.slot_list_append PySem.F.type_list_append mt_append (pe_var hN hv hd hcd) (pa_cons ha.pe pa_nil hs) hbase hfew hline hs hplain) hsw
  · obtain ⟨⟨xs, e⟩, h⟩ := h
    obtain ⟨p, vs, k1, k2, k3, k4⟩ := R.ownL e
    refine ⟨_, k1, .inl ⟨rfl, _, .of k2⟩, ?_⟩
    refine ha.sim F sa Hs ρ σ H Z.ex _ _ R h (c.ex sa σ) fun Hs1 ρ1 H1 v r e1 R1 q1 h1 => ?_
    obtain ⟨Hs2, ρ2, y, e2, R2, r2, h2⟩ := esc_of R1 q1 h1
    split at h2
    · rename_i zs ez
      obtain ⟨hz, h2⟩ := h2
      obtain ⟨p', ws, l1, l2, l3, l4⟩ := R2.ownL ez
      rw [k1] at l1
      cases l1
      refine ⟨p, ws, v, rfl, rfl, l2, by rw [l3.length, ← sz_eq]; exact hz, ?_⟩
      exact c.nx sa Hs2 _ σ _ (e1.trans e2) (R2.change ez k1 (o' := .lst (ws ++ [v])) (m' := .lst (zs ++ [y])) (l3.append (.cons r2 .nil))) h2
    · exact h2.elim
theorem js_store {i : Nat} {x : Str} {pn ps : Pos} {ix val : Expr} {tp tv : TE} {dp dv : DE} (hK : X.K = S.K) (hp : JE X S W ix tp dp) (hv' : JE X S W val tv dv) (hN : X.N[i]? = some x := by rfl) (hv : Vis X.env.scope x := by first | exact Or.inl rfl | exact Or.inr (Or.inl rfl) | exact Or.inr (Or.inr rfl))
    (hd : (x == ("__debug__" : Str)) = false := by decide) (hcd : (x == ("__classdict__" : Str)) = false := by decide)
    (has : ∀ v, assign (.Subscript (.Name x pn) ix ps) X.env v = (do
      let ov ← holding [v] (eval (.Name x pn) X.env)
      let iv ← holding [v, ov] (eval ix X.env)
      standAt ps
      holding [v, ov, iv] (setItem ov iv v)
      release [v, ov, iv] []) := by intro _; rfl)
    (hs : swapsWithSole [.Subscript (.Name x pn) ix ps] val pos.line X.env = pure false := by rfl) (hw : swappedStores [.Subscript (.Name x pn) ix ps] val X.env = pure none := by rfl)
    (h1 : (assignEach [.Subscript (.Name x pn) ix ps] X.env).map (·.2) = [assign (.Subscript (.Name x pn) ix ps) X.env] := by rfl) :
    JS X S W (.Assign [.Subscript (.Name x pn) ix ps] val pos) (tAsg tv (gSub (tVar i) tp rSetL)) (sStore i dp dv) := by
  refine ⟨hK, ps_asg hv'.pe (pg_sub (pe_var hN hv hd hcd) hp.pe set_list has) hs hw h1, fun F sa Hs ρ σ H Z D R h c => ?_⟩
  refine hv'.sim F sa Hs ρ σ H Z.ex _ _ R h (c.ex sa σ) fun Hs1 ρ1 H1 v r e1 R1 q1 h1 => ?_
  obtain ⟨Hs2, ρ2, y, e2, R2, r2, ⟨xs, e⟩, h2⟩ := esc_of R1 q1 h1
  obtain ⟨p, vs, k1, k2, k3, k4⟩ := R2.ownL e
  refine ⟨_, k1, ?_⟩
  refine hp.sim F sa Hs2 ρ2 σ H1 Z.ex _ _ R2 h2 ((c.ex sa σ).mono (e1.trans e2)) fun Hs3 ρ3 H3 u r3 e3 R3 q3 h3 => ?_
  obtain ⟨k, rfl, h3⟩ := h3
  cases (show Rep S.K S.cl Hs3 u (.int k) from q3)
  split at h3
  · rename_i zs ez
    obtain ⟨j, hj, h3⟩ := h3
    obtain ⟨p', ws, l1, l2, l3, l4⟩ := R3.ownL ez
    rw [k1] at l1
    cases l1
    refine ⟨p, ws, k, j, rfl, rfl, l2, by rw [l3.length, ← ixOf_eq]; exact hj, ?_⟩
    exact c.nx sa Hs3 _ σ _ ((e1.trans e2).trans e3) (R3.change ez k1 (o' := .lst (ws.set j v)) (m' := .lst (zs.set j y)) (Reps.set (r2.mono e3) j l3)) h3
  · exact h3.elim
theorem je_pop {i : Nat} {x : Str} {apos cpos pn : Pos} (hK : X.K = S.K) (hN : X.N[i]? = some x := by rfl) (hv : Vis X.env.scope x := by first | exact Or.inl rfl | exact Or.inr (Or.inl rfl) | exact Or.inr (Or.inr rfl))
    (hd : (x == ("__debug__" : Str)) = false := by decide) (hcd : (x == ("__classdict__" : Str)) = false := by decide)
    (hbase : attributeBase (.Name x pn) "pop" X.env (eval (.Name x pn) X.env) = eval (.Name x pn) X.env := by rfl) (hline : (apos.endLine == cpos.line) = true := by rfl) :
    JE X S W (.Call (.Attribute (.Name x pn) "pop" apos) [] [] cpos) (tBM0 S.K "list" rPop (tVar i)) (dPop i) := by
  refine ⟨hK, ?_, fun F sa Hs ρ σ H y Q QH R h hx k => ?_⟩
  · rw [← hK]
    exact pe_bm0 PySem.F.plainAttrs_list PySem.F.slot_list_pop PySem.F.type_list_pop mt_pop (pe_var hN hv hd hcd) hbase hline
  · unfold dPop at h
    split at h
    · rename_i xs e
      obtain ⟨z, hz, h⟩ := h
      obtain ⟨p, vs, k1, k2, k3, k4⟩ := R.ownL e
      obtain ⟨w, w1, w2⟩ := k3.get hz
      refine ⟨_, k1, .inl ⟨rfl, _, .of k2⟩, p, vs, w, rfl, rfl, k2, by rw [k3.length]; exact w1, ?_⟩
      exact k Hs _ _ w (.d z) (Evl.Ex.refl _) (R.change e k1 (o' := .lst vs.dropLast) (m' := .lst xs.dropLast) (Reps.dropLast k3)) w2 h
    · exact h.elim
end
end Y

/-! Sim9: a def by its body's transformer; names of the module and of the built-ins. -/
namespace Y
open PySem L2 Evl
open PyProof.Rows (envOfC)
section
variable {P : Program} {w : World} {K : PySem.W.Frag} {mg : Str → Option Value} {base : Heap} {cl : String → Addr}
theorem args_start {S : Sx} {sa : Option Addr} {Hs : Hp} {F H : Hp} {N : List Str} : ∀ {vs : List V} {ts : List T}, RepAs S sa Hs vs ts → ∀ (i : Nat) (b : B), (ts.map toB ++ List.replicate (N.length - ts.length) none)[i]? = some (some b) →
    (∀ m, b ≠ .own m) ∧ ∃ v, (L2.start N vs)[i]? = some (some v) ∧ RepB S F sa Hs H v b := by
  intro vs ts r i b e
  have hl := r.len
  by_cases hi : i < ts.length
  · rw [List.getElem?_append_left (by simpa using hi), List.getElem?_map] at e
    unfold L2.start
    rw [List.getElem?_append_left (by rw [List.length_map, hl]; exact hi), List.getElem?_map]
    have go : ∀ {vs : List V} {ts : List T} {i : Nat}, RepAs S sa Hs vs ts → Option.map toB ts[i]? = some (some b) → (∀ m, b ≠ .own m) ∧ ∃ v, Option.map some vs[i]? = some (some v) ∧ RepB S F sa Hs H v b := by
      intro vs ts i r
      induction r generalizing i with
      | nil => intro e; simp at e
      | @cons v t vs ts r _ ih =>
        intro e
        cases i with
        | zero =>
          simp only [List.getElem?_cons_zero, Option.map_some, Option.some.injEq] at e ⊢
          cases t with
          | d x => cases e; exact ⟨fun m z => (by cases z), v, rfl, r⟩
          | st => cases e; exact ⟨fun m z => (by cases z), v, rfl, r⟩
          | exn x => cases e
          | own m => exact r.elim
          | brw j => exact r.elim
        | succ i =>
          simp only [List.getElem?_cons_succ] at e ⊢
          exact ih e
    exact go r e
  · rw [List.getElem?_append_right (by simpa using Nat.le_of_not_lt hi), List.getElem?_replicate] at e
    split at e <;> cases e
theorem toB_rows {t : T} {xs : List (List D)} : toB t ≠ some (.rows xs) := by cases t <;> intro h <;> cases h
theorem args_norows {S : Sx} {sa : Option Addr} {Hs : Hp} {n : Nat} {vs : List V} {ts : List T} (r : RepAs S sa Hs vs ts) (i : Nat) (b : B) (e : (ts.map toB ++ List.replicate n none)[i]? = some (some b)) (xs : List (List D)) : b ≠ .rows xs := by
  rintro rfl
  by_cases hi : i < ts.length
  · rw [List.getElem?_append_left (by simpa using hi), List.getElem?_map] at e
    cases q : ts[i]? with
    | none => rw [q] at e; cases e
    | some t => rw [q] at e; exact toB_rows (Option.some.inj e)
  · rw [List.getElem?_append_right (by simpa using Nat.le_of_not_lt hi), List.getElem?_replicate] at e
    split at e <;> cases e
theorem RelS.toSa {S : Sx} {F Hs H : Hp} {sa sa' : Option Addr} (R : RelS S F sa' Hs [] [] H) (e : S.sa0 = sa) : RelS S F sa Hs [] [] H := by
  cases sa with
  | some a => rw [R.sal a e] at R; exact R
  | none => exact ⟨R.b0, R.ex, R.fr, rfl, fun a h => by rw [e] at h; exact h, fun a h => by (cases h), fun i b h => by simp at h, fun i j p m m' _ h => by simp at h, fun p _ h => (by simp at h), R.f0⟩
/-- back in the caller's frame -/
theorem RelS.home {S : Sx} {F0 F Hs H : Hp} {sa : Option Addr} (R : RelS (S.at0 F0) F sa Hs [] [] H) (e : ∀ b, S.F0 b = none) : RelS S F0 sa Hs [] [] H :=
  ⟨R.b0, R.ex, fun b o h => R.fr b o (R.f0 b o h), rfl, R.sal, fun a h => ⟨(R.sav a h).1, (R.sav a h).2.1, by
    cases q : F0 a with
    | none => rfl
    | some o => have := R.f0 a o q; rw [(R.sav a h).2.2] at this; cases this⟩, fun i b h => (by simp at h), fun i j p m m' _ h => (by simp at h), fun p _ h => (by simp at h), fun b o h => by rw [e] at h; cases h⟩
theorem none_home {S : Sx} {F0 F Hs H : Hp} {sa : Option Addr} (R : RelS (S.at0 F0) F sa Hs [] [] H) {p : Addr} (h : F p = none) : F0 p = none := by
  cases q : F0 p with
  | none => rfl
  | some o => have := R.f0 p o q; rw [h] at this; cases this
theorem RepR.home {S : Sx} {F0 F Hs H : Hp} {sa : Option Addr} {v : V} {t : T} (R : RelS (S.at0 F0) F sa Hs [] [] H) (r : RepR (S.at0 F0) F sa Hs H v t) : RepR S F0 sa Hs H v t := by
  cases t with
  | d x => exact r
  | own m =>
    obtain ⟨p, o, rfl, t⟩ := r
    exact ⟨p, o, rfl, ⟨t.hs, none_home R t.f, t.s, t.h, t.r, fun i m e => by simp at e⟩⟩
  | brw i => exact r.elim
  | st => exact r.elim
  | exn x => exact r.elim
theorem RepR.toSa {S : Sx} {F Hs H : Hp} {sa sa' : Option Addr} {v : V} {t : T} (R : RelS S F sa' Hs [] [] H) (e : S.sa0 = sa) (r : RepR S F sa' Hs H v t) : RepR S F sa Hs H v t := by
  cases sa with
  | some a => rw [R.sal a e] at r; exact r
  | none =>
    cases t with
    | d x => exact r
    | own m =>
      obtain ⟨p, o, rfl, t⟩ := r
      exact ⟨p, o, rfl, ⟨t.hs, t.f, fun h => by (cases h), t.h, t.r, t.na⟩⟩
    | brw i => exact r.elim
    | st => exact r.elim
    | exn x => exact r.elim
theorem hasF_of {x x' qual : Str} {st : Stmt} {f : Addr} {fd : FuncData} {N ps : List Str} {k m : Nat} {d : DS} (F : Fun K x qual st f fd) (hm : mg x' = some (.ref f)) (bd : Binds K fd ps []) (SC : FnScope N ps (defScope st)) (hN : N.length = m)
    (hJ : ∀ (cdv : Value) (A : Around) (outer : List PySem.Env) (s : Shared) (H : Hp) (E : XK) (Hs : Hp) (sa : Option Addr), Room k (A.deeper (envOfC qual (defScope st) s.heap.objs.size f cdv)) →
      ∃ t, JSs (cxOf (L2.CX P w) P w K mg base N qual (defScope st) f cdv A outer s H E) ((S0 K cl Hs sa).at0 (away Hs H sa)) (fun c d _ H => E c d H) (defBody st) t d) :
    HasF P w K mg base cl x' ps (k + 1) (semOf m d) := by
  refine ⟨f, fd, hm, F.kp, bd, F.okX SC (fun vs H Q E h => h.1) fun cdv A outer s H vs Q E hr h => ?_⟩
  obtain ⟨hl, Hs, sa, ts, Qd, xd, e1, hsa, reps, hsem, kr, kx⟩ := h
  subst hN
  obtain ⟨t, J⟩ := hJ cdv A outer s H E Hs sa hr
  have tl := reps.len
  refine ⟨t, J.ps, J.sim (away Hs H sa) sa Hs (ts.map toB ++ List.replicate (N.length - ts.length) none) (L2.start N vs) H { nx := fun _ => Qd (.d .non), rt := Qd, bk := fun _ => False, ct := fun _ => False, ex := fun e _ => xd e } _ ⟨Evl.Ex.refl _, e1, fun b o e => ?_, ?_, fun a e => e, fun a e => ?_, fun i b e => ?_, fun i j p m1 m2 _ e _ => absurd rfl ((args_start (F := away Hs H sa) (H := H) reps i _ e).1 m1), fun p h => (by cases h), Evl.Ex.refl _⟩ hsem ?_⟩
  · obtain ⟨h1, _, h3⟩ := away_some.mp e
    exact ⟨h1, h3⟩
  · unfold L2.start
    simp only [List.length_append, List.length_map, List.length_replicate, tl]
  · obtain ⟨h1, h2⟩ := hsa a e
    refine ⟨h1, h2, ?_⟩
    cases ea : away Hs H sa a with
    | none => rfl
    | some o => exact absurd e (away_some.mp ea).2.1
  · obtain ⟨v, h1, h2⟩ := (args_start (F := away Hs H sa) (H := H) reps i b e).2
    refine ⟨v, h1, ?_⟩
    cases b with
    | d x => exact h2
    | own m => exact absurd rfl ((args_start (F := away Hs H sa) (H := H) reps i _ e).1 m)
    | st => exact h2
    | exn x => exact h2
    | rows xs => exact absurd rfl (args_norows reps i _ e xs)
  · refine ⟨fun sa' Hs' ρ' σ' H' _ R' q => ?_, fun _ _ _ _ _ _ _ q => q.elim, fun _ _ _ _ _ _ _ q => q.elim, fun sa' Hs' H' v r _ R' rr q => ?_, fun sa' σ' e ρ' Hs' H' cls dd _ R' rx q => ?_⟩
    · exact kr Hs' H' .non (.d .non) ((R'.drop.home fun _ => rfl).toSa rfl) Rep.non q
    · exact kr Hs' H' v r ((R'.home fun _ => rfl).toSa rfl) ((rr.home R').toSa (R'.home fun _ => rfl) rfl) q
    · exact kx Hs' H' cls dd e ((R'.drop.home fun _ => rfl).toSa rfl) rx q
end
theorem b_len : bootBuiltins "len" = some (.builtin "len") := by decide +kernel
theorem b_abs : bootBuiltins "abs" = some (.builtin "abs") := by decide +kernel
theorem b_all : bootBuiltins "all" = some (.builtin "all") := by decide +kernel
theorem b_any : bootBuiltins "any" = some (.builtin "any") := by decide +kernel
theorem b_sum : bootBuiltins "sum" = some (.builtin "sum") := by decide +kernel
theorem b_max : bootBuiltins "max" = some (.builtin "max") := by decide +kernel
theorem b_min : bootBuiltins "min" = some (.builtin "min") := by decide +kernel
theorem b_isinstance : bootBuiltins "isinstance" = some (.builtin "isinstance") := by decide +kernel
theorem b_sorted : bootBuiltins "sorted" = some (.builtin "sorted") := by decide +kernel
theorem b_list : bootBuiltins "list" = some (.type "list") := by decide +kernel
theorem b_tuple : bootBuiltins "tuple" = some (.type "tuple") := by decide +kernel
theorem b_int : bootBuiltins "int" = some (.type "int") := by decide +kernel
theorem b_str : bootBuiltins "str" = some (.type "str") := by decide +kernel
theorem b_bool : bootBuiltins "bool" = some (.type "bool") := by decide +kernel
theorem b_dict : bootBuiltins "dict" = some (.type "dict") := by decide +kernel
section
variable {X : Cx} {S : Sx} {W : WX} {pos : Pos}
/-- a module's constant -/
theorem je_glob (hK : X.K = S.K) {x : Str} {v : V} {y : D} (h : ∃ u, X.mg x = some u ∧ RelV v u) (hg : Gl X x) (hr : ∀ K cl H, Rep K cl H v y := by intro _ _ _; constructor) (hd : (x == ("__debug__" : Str)) = false := by decide) : JE X S W (.Name x pos) (tC v) (dC y) := by
  obtain ⟨u, h1, h2⟩ := h
  exact ⟨hK, pe_glob hg h1 h2 hd, sim_c hr⟩
end
end Y

/-! Sim10: own classes: fields, instances, methods. -/
namespace Y
open PySem L2 Evl
open PyProof.Rows (envOfC)

theorem char_inj : ∀ {l m : List Char}, l.map Char.toNat = m.map Char.toNat → l = m
  | [], [], _ => rfl
  | [], _ :: _, h => by simp at h
  | _ :: _, [], h => by simp at h
  | a :: l, b :: m, h => by
    simp only [List.map_cons, List.cons.injEq] at h
    have e : a = b := by
      apply Char.ext
      apply UInt32.toNat_inj.mp
      exact h.1
    rw [e, char_inj h.2]
theorem ofString_inj {a b : String} (h : Str.ofString a = Str.ofString b) : a = b := by
  rw [Str.ofString_eq_toList, Str.ofString_eq_toList] at h
  have h2 : (a.toList.map Char.toNat) = (b.toList.map Char.toNat) := by
    have := congrArg (fun s : Str => s.cps.toList) h
    simpa using this
  exact String.toList_injective (char_inj h2)
theorem lookup_rep {K : PySem.W.Frag} {cl : String → Addr} {H : Hp} {f : String} {y : D} : ∀ {fs : List (Str × V)} {ds : List (String × D)}, RepF K cl H fs ds → ds.lookup f = some y → ∃ v, fs.lookup (Str.ofString f) = some v ∧ Rep K cl H v y
  | _, _, .nil, h => by simp at h
  | _, _, .cons (k := k) r q, h => by
    by_cases e : f = k
    · subst e
      simp only [List.lookup, beq_self_eq_true] at h ⊢
      cases h
      exact ⟨_, rfl, r⟩
    · have e1 : (f == k) = false := beq_eq_false_iff_ne.mpr e
      have e2 : (Str.ofString f == Str.ofString k) = false := beq_eq_false_iff_ne.mpr fun z => e (ofString_inj z)
      simp only [List.lookup, e1] at h
      simp only [List.lookup, e2]
      exact lookup_rep q h
theorem lookup_none {K : PySem.W.Frag} {cl : String → Addr} {H : Hp} {f : String} : ∀ {fs : List (Str × V)} {ds : List (String × D)}, RepF K cl H fs ds → ds.lookup f = none → fs.lookup (Str.ofString f) = none
  | _, _, .nil, h => rfl
  | _, _, .cons (k := k) r q, h => by
    by_cases e : f = k
    · subst e
      simp only [List.lookup, beq_self_eq_true] at h
      cases h
    · have e1 : (f == k) = false := beq_eq_false_iff_ne.mpr e
      have e2 : (Str.ofString f == Str.ofString k) = false := beq_eq_false_iff_ne.mpr fun z => e (ofString_inj z)
      simp only [List.lookup, e1] at h
      simp only [List.lookup, e2]
      exact lookup_none q h
theorem put_rep {K : PySem.W.Frag} {cl : String → Addr} {H : Hp} {f : String} {v : V} {y : D} (r : Rep K cl H v y) : ∀ {fs : List (Str × V)} {ds : List (String × D)}, RepF K cl H fs ds → ds.lookup f = none → RepF K cl H (putF (Str.ofString f) v fs) (ds ++ [(f, y)])
  | _, _, .nil, h => .cons r .nil
  | _, _, .cons (k := k) (v := w) (vs := vs) q t, h => by
    by_cases e : f = k
    · subst e
      simp only [List.lookup, beq_self_eq_true] at h
      cases h
    · have e1 : (f == k) = false := beq_eq_false_iff_ne.mpr e
      have e2 : ¬ Str.ofString k = Str.ofString f := fun z => e (ofString_inj z.symm)
      simp only [List.lookup, e1] at h
      have z := put_rep r t h
      have e3 : putF (Str.ofString f) v ((Str.ofString k, w) :: vs) = (Str.ofString k, w) :: putF (Str.ofString f) v vs := if_neg e2
      rw [e3]
      exact .cons q z
theorem RepF.len {K : PySem.W.Frag} {cl : String → Addr} {H : Hp} : ∀ {fs : List (Str × V)} {ds : List (String × D)}, RepF K cl H fs ds → fs.length = ds.length
  | _, _, .nil => rfl
  | _, _, .cons _ t => by simp [RepF.len t]
section
variable {X : Cx} {S : Sx} {W : WX} {e a b : Expr} {es : List Expr} {t ta tb te : TE} {d da db : DE} {pos p : Pos} {sa : Option Addr} {F Hs H : Hp} {ρ : En} {σ : St} {tr : TA} {dr : DA}
theorem Now.ins {v : V} {C : String} {ds : List (String × D)} (e : Evl.Ex Hs H) (h : Now S Hs H v (.ins C ds)) : ∃ p dx fs, v = .ref p ∧ H p = some (.ins (S.cl C) dx fs) ∧ RepF S.K S.cl Hs fs ds := by
  rcases h with h | ⟨p, o, m, rfl, hp, hm, em⟩
  · cases h with
    | ins h r => exact ⟨_, _, _, rfl, e _ _ h, r⟩
  · cases m <;> cases em
    cases o <;> first | exact hm.elim | (obtain ⟨rfl, hm⟩ := hm; exact ⟨p, _, _, rfl, hp, hm⟩)
/-- the classes of a list, as instances' classes -/
def Clss (K : PySem.W.Frag) (cl : String → Addr) (cs : List String) : Prop := ∀ c ∈ cs, Cls K (cl c)
def NoAs (K : PySem.W.Frag) (cl : String → Addr) (cs : List String) (f : String) : Prop := ∀ c ∈ cs, NoAttr K (cl c) (Str.ofString f)
theorem je_fld {cs : List String} {f : String} (hc : Clss S.K S.cl cs) (hn : NoAs S.K S.cl cs f) (ha : JE X S W a ta da) (hb : attributeBase a (Str.ofString f) X.env (eval a X.env) = eval a X.env := by rfl) :
    JE X S W (.Attribute a (Str.ofString f) pos) (tFld S.K ta (Str.ofString f)) (dFld cs f da) := by
  refine ⟨ha.k, by rw [← ha.k]; exact pe_fld ha.pe hb, fun F sa Hs ρ σ H x Q QH R h hx k => ?_⟩
  refine ha.sim F sa Hs ρ σ H x _ _ R h hx fun Hs1 ρ1 H1 v r e1 R1 q1 h1 => ?_
  obtain ⟨u, nw, h2⟩ := now_of R1 q1 h1
  split at h2
  · obtain ⟨hC, y, hy, h2⟩ := h2
    obtain ⟨p, dx, fs, rfl, hp, rf⟩ := nw.ins R1.ex
    obtain ⟨w, hw, rw'⟩ := lookup_rep rf hy
    exact ⟨p, _, dx, fs, w, rfl, hp, hc _ hC, hn _ hC, hw, k Hs1 ρ1 H1 w (.d y) e1 R1 rw' h2⟩
  · exact h2.elim
theorem js_fld {cs : List String} {f : String} {i : Nat} {x : Str} {pn p' : Pos} {val : Expr} {tv : TE} {dv : DE} (hc : Clss S.K S.cl cs) (hn : NoAs S.K S.cl cs f) (hv' : JE X S W val tv dv) (hN : X.N[i]? = some x := by rfl)
    (hv : Vis X.env.scope x := by first | exact Or.inl rfl | exact Or.inr (Or.inl rfl) | exact Or.inr (Or.inr rfl)) (hd : (x == ("__debug__" : Str)) = false := by decide) (hcd : (x == ("__classdict__" : Str)) = false := by decide)
    (hs : swapsWith val (some (.Attribute (.Name x pn) (Str.ofString f) p')) pos.line X.env = pure false := by rfl) :
    JS X S W (.Assign [.Attribute (.Name x pn) (Str.ofString f) p'] val pos) (L2.sFld S.K (tVar i) tv (Str.ofString f)) (Y.sFld cs i f dv) := by
  refine ⟨hv'.k, by rw [← hv'.k]; exact ps_fld (pe_var hN hv hd hcd) hv'.pe hs, fun F sa Hs ρ σ H Z D R h c => ?_⟩
  refine hv'.sim F sa Hs ρ σ H Z.ex _ _ R h (c.ex sa σ) fun Hs1 ρ1 H1 v r e1 R1 q1 h1 => ?_
  obtain ⟨Hs2, ρ2, y, e2, R2, r2, h2⟩ := esc_of R1 q1 h1
  split at h2
  · rename_i C ds e
    obtain ⟨hC, hl, hz, h2⟩ := h2
    obtain ⟨w, k1, p, o, rfl, _, _, _, k5, k6⟩ := R2.vars i _ e
    cases o <;> first | exact k6.elim | skip
    rename_i C' dx fs
    obtain ⟨rfl, k6⟩ := k6
    refine ⟨_, k1, p, _, dx, fs, rfl, k5, hc _ hC, hn _ hC, by rw [k6.len]; exact hz, ?_⟩
    exact c.nx sa Hs2 _ σ _ (e1.trans e2) (R2.change e k1 (o' := .ins (S.cl C) dx (putF (Str.ofString f) v fs)) (m' := .ins C (ds ++ [(f, y)])) ⟨rfl, put_rep r2 k6 hl⟩) h2
  · exact h2.elim
end
end Y

/-! Sim11: instances made, methods called. -/
namespace Y
open PySem L2 Evl
open PyProof.Rows (envOfC)

abbrev SI (K : PySem.W.Frag) (cl : String → Addr) (Hs : Hp) (sa : Option Addr) (p : Addr) : Sx := { K := K, cl := cl, B0 := Hs, sa0 := sa, self := some p }
def awayI (Hs H : Hp) (sa : Option Addr) (p : Addr) : Hp := fun b => if b = p then none else away Hs H sa b
theorem awayI_ne {Hs H : Hp} {sa : Option Addr} {p b : Addr} (h : b ≠ p) : awayI Hs H sa p b = away Hs H sa b := if_neg h
theorem awayI_self {Hs H : Hp} {sa : Option Addr} {p : Addr} : awayI Hs H sa p p = none := if_pos rfl
/-- what an __init__ promises: the new instance at p -/
def liftI (K : PySem.W.Frag) (cl : String → Addr) (C : String) (n : Nat) (sem : FSem) : Sp := fun vs H Q E => vs.length = n ∧ ∃ (p dx : Addr) (vs' : List V), vs = .ref p :: vs' ∧ H p = some (.ins (cl C) dx []) ∧
  ∃ (Hs : Hp) (sa : Option Addr) (ts : List T) (Qd : T → Prop) (xd : Exn → Prop), Evl.Ex Hs H ∧ Hs p = none ∧ sa ≠ some p ∧ (∀ a, sa = some a → StA K Hs H a ∧ Hs a = none) ∧ RepAs (S0 K cl Hs sa) sa Hs vs' ts ∧ sem ts xd Qd ∧
  (∀ (Hs' H' : Hp) (t : T), RelS (S0 K cl Hs sa) (awayI Hs H sa p) sa Hs' [] [] H' → RepR (S0 K cl Hs sa) (awayI Hs H sa p) sa Hs' H' (.ref p) t → Qd t → Q .non H') ∧
  (∀ (Hs' H' : Hp) (cls : Value) (dd : Option Addr) (e : Exn), RelS (S0 K cl Hs sa) (awayI Hs H sa p) sa Hs' [] [] H' → RepX (S0 K cl Hs sa) Hs' cls dd e → xd e → E cls dd H')
/-- an own class that is made by its __init__ -/
def HasI (P : Program) (w : World) (K : PySem.W.Frag) (mg : Str → Option Value) (base : Heap) (cl : String → Addr) (x : Str) (C : String) (ps : List Str) (lvl : Nat) (sem : FSem) : Prop :=
  ∃ (f : Addr) (fd : FuncData), mg x = some (.ref (cl C)) ∧ Mk K (cl C) f ∧ Binds K fd ps [] ∧ FnOk P w K mg base (L2.CX P w) lvl f fd ps (liftI K cl C ps.length sem)
section
variable {P : Program} {w : World} {K : PySem.W.Frag} {mg : Str → Option Value} {base : Heap} {cl : String → Addr}
theorem RelS.exit {F F0 Hs0 Hs H : Hp} {sa sa' : Option Addr} {p : Addr} {ρ : En} {σ : St} (R : RelS ((SI K cl Hs0 sa p).at0 F0) F sa' Hs ρ σ H) : RelS (S0 K cl Hs0 sa) F0 sa Hs [] [] H := by
  refine RelS.toSa (sa' := sa') ?_ rfl
  refine RelS.home (S := S0 K cl Hs0 sa) (F := F) ?_ fun _ => rfl
  exact ⟨R.b0, R.ex, R.fr, rfl, R.sal, R.sav, fun i b e => by simp at e, fun i j p m m' _ e => (by simp at e), fun p e => (by cases e), R.f0⟩
theorem RepAs.toI {Hs : Hp} {sa : Option Addr} {p : Addr} : ∀ {vs : List V} {ts : List T}, RepAs (S0 K cl Hs sa) sa Hs vs ts → RepAs (SI K cl Hs sa p) sa Hs vs ts
  | _, _, .nil => .nil
  | _, t :: _, .cons r q => .cons (by cases t <;> exact r) (RepAs.toI q)
theorem hasI_of {x qual : Str} {C : String} {st : Stmt} {f : Addr} {fd : FuncData} {N ps : List Str} {k m : Nat} {d : DS} (F : Fun K "__init__" qual st f fd) (hm : mg x = some (.ref (cl C))) (M : Mk K (cl C) f) (bd : Binds K fd ps []) (SC : FnScope N ps (defScope st)) (hN : N.length = m)
    (hJ : ∀ (cdv : Value) (A : Around) (outer : List PySem.Env) (s : Shared) (H : Hp) (E : XK) (Hs : Hp) (sa : Option Addr) (p : Addr), Room k (A.deeper (envOfC qual (defScope st) s.heap.objs.size f cdv)) →
      ∃ t, JSs (cxOf (L2.CX P w) P w K mg base N qual (defScope st) f cdv A outer s H E) ((SI K cl Hs sa p).at0 (awayI Hs H sa p)) (fun c d _ H => E c d H) (defBody st) t d) (hps : ps ≠ []) :
    HasI P w K mg base cl x C ps (k + 1) (initOf C m d) := by
  refine ⟨f, fd, hm, M, bd, F.okX SC (fun vs H Q E h => h.1) fun cdv A outer s H vs Q E hr h => ?_⟩
  obtain ⟨hl, p, dx, vs', rfl, hp, Hs, sa, ts, Qd, xd, e1, hsp, hsap, hsa, reps, hsem, kr, kx⟩ := h
  subst hN
  obtain ⟨t, J⟩ := hJ cdv A outer s H E Hs sa p hr
  have tl := reps.len
  have hNl : 0 < N.length := by
    have h1 := congrArg List.length SC.pre
    rw [List.length_take] at h1
    have : 0 < ps.length := List.length_pos_iff.mpr hps
    omega
  have hNl2 : vs'.length + 1 ≤ N.length := by
    have h1 := congrArg List.length SC.pre
    rw [List.length_take] at h1
    have : (V.ref p :: vs').length = ps.length := hl
    simp at this
    omega
  have st0 : L2.start N (.ref p :: vs') = some (.ref p) :: (vs'.map some ++ List.replicate (N.length - 1 - vs'.length) none) := by
    unfold L2.start
    have : N.length - (V.ref p :: vs').length = N.length - 1 - vs'.length := by simp; omega
    rw [this]
    rfl
  have tail : ∀ (i : Nat) (b : B), (ts.map toB ++ List.replicate (N.length - 1 - ts.length) none)[i]? = some (some b) → (∀ m, b ≠ .own m) ∧ ∃ v, (vs'.map some ++ List.replicate (N.length - 1 - vs'.length) none)[i]? = some (some v) ∧ RepB (SI K cl Hs sa p) (awayI Hs H sa p) sa Hs H v b := by
    intro i b e
    have reps' : RepAs (SI K cl Hs sa p) sa Hs vs' ts := RepAs.toI reps
    have hh : (N.drop 1).length = N.length - 1 := by simp
    have := args_start (F := awayI Hs H sa p) (H := H) (N := N.drop 1) reps' i b (by rw [hh]; exact e)
    unfold L2.start at this
    rw [hh] at this
    exact this
  refine ⟨t, J.ps, ?_⟩
  rw [st0]
  refine J.sim (awayI Hs H sa p) sa Hs (some (.own (.ins C [])) :: (ts.map toB ++ List.replicate (N.length - 1 - ts.length) none)) _ H
    { nx := fun (ρ : En) => match ρ[(0 : Nat)]? with
           | some (some (.own m)) => Qd (.own m)
           | some (some (.d y)) => Qd (.d y)
           | _ => False,
      rt := fun _ => False, bk := fun _ => False, ct := fun _ => False, ex := fun e _ => xd e } _ ⟨Evl.Ex.refl _, e1, fun b o e => ?_, ?_, fun a e => e, fun a e => ?_, fun i b e => ?_, fun i j q m1 m2 hij e e' z z' => ?_, fun q e _ => (by cases e; rfl), Evl.Ex.refl _⟩ hsem ?_
  · by_cases hb : b = p
    · subst hb; rw [awayI_self] at e; cases e
    · rw [awayI_ne hb] at e
      obtain ⟨h1, _, h3⟩ := away_some.mp e
      exact ⟨h1, h3⟩
  · simp only [List.length_cons, List.length_append, List.length_map, List.length_replicate, tl]
  · obtain ⟨h1, h2⟩ := hsa a e
    refine ⟨h1, h2, ?_⟩
    have hap : a ≠ p := by rintro rfl; exact hsap e
    rw [awayI_ne hap]
    cases ea : away Hs H sa a with
    | none => rfl
    | some o => exact absurd e (away_some.mp ea).2.1
  · cases i with
    | zero =>
      cases e
      exact ⟨_, rfl, p, _, rfl, hsp, awayI_self, hsap, hp, rfl, .nil⟩
    | succ i =>
      obtain ⟨v, h1, h2⟩ := (tail i b e).2
      refine ⟨v, h1, ?_⟩
      cases b with
      | d x => exact h2
      | own m => exact absurd rfl ((tail i _ e).1 m)
      | st => exact h2
      | exn x => exact h2
      | rows xs => exact absurd rfl (args_norows reps i _ e xs)
  · cases i with
    | zero =>
      cases j with
      | zero => exact hij rfl
      | succ j => exact (tail j _ e').1 m2 rfl
    | succ i => exact (tail i _ e).1 m1 rfl
  · refine ⟨fun sa' Hs' ρ' σ' H' _ R' q => ?_, fun _ _ _ _ _ _ _ q => q.elim, fun _ _ _ _ _ _ _ q => q.elim, fun sa' Hs' H' v r _ R' rr q => q.elim, fun sa' σ' e ρ' Hs' H' cls dd _ R' rx q => ?_⟩
    · have hl0 : 0 < ρ'.length := by
        cases ρ' with
        | nil => exact q.elim
        | cons _ _ => simp
      have h0 := R'.slf p rfl hl0
      dsimp only at q
      split at q
      · rename_i m em
        obtain ⟨v, k1, p', o, rfl, k2, k3, k4, k5, k6⟩ := R'.vars 0 _ em
        rw [h0] at k1
        cases k1
        refine kr Hs' H' (.own m) R'.exit ⟨p, o, rfl, ⟨k2, awayI_self, hsap, k5, k6, fun i m' e => by simp at e⟩⟩ q
      · rename_i y em
        obtain ⟨v, k1, k2⟩ := R'.vars 0 _ em
        rw [h0] at k1
        cases k1
        exact kr Hs' H' (.d y) R'.exit k2 q
      · exact q.elim
    · exact kx Hs' H' cls dd e R'.exit rx q
end
section
variable {X : Cx} {S : Sx} {W : WX} {e a b : Expr} {es : List Expr} {t ta tb te : TE} {d da db : DE} {pos p : Pos} {sa : Option Addr} {F Hs H : Hp} {ρ : En} {σ : St} {tr : TA} {dr : DA}
/-- C(..), what is raised wished for at the caller's slots -/
def tMakeS (C : Addr) (sp : Sp) (E : St → XK) (t : TA) : TE := fun σ H Q => t σ H fun vs H1 => ∀ x dx, H1 x = none → H1 dx = none → dx ≠ x → sp (.ref x :: vs) (upd (upd H1 dx (.own x)) x (.ins C dx [])) (fun v H2 => v = .non ∧ Q (.ref x) H2) (E σ)
theorem pe_makeS {C f : Addr} {k : Nat} {fd : FuncData} {ps : List Str} {sp : Sp} {E : St → XK} {CX : CXT} {x : Str} (M : Mk X.K C f) (Fn : FnOk X.prog X.w X.K X.mg X.base CX k f fd ps sp) (hr : Room (k + 1) X.A) (hg : Gl X x) (hm : X.mg x = some (.ref C)) (hb : Binds X.K fd ps []) (hx : ∀ σ, PassesAt CX X σ (E σ))
    (ha : PA X (e :: es) tr) (hdb : (x == ("__debug__" : Str)) = false := by decide) (he : starEach (e :: es) X.env = (false, eval e X.env) :: starEach es X.env := by rfl) (hpl : (backTo pos (starEach es X.env)).any (·.1) = false := by rfl) :
    PE X (.Call (.Name x p) (e :: es) [] pos) (tMakeS C sp E tr) := by
  constructor
  intro pins s σ H Q I h
  apply wpAny_Call_Name_kw
  refine ld_glob I hg hm (PySem.W.callWith_K (h₀ := X.base) I.ok.mod.kin M.kp (thn (ha.run pos pins s σ H _ I h) fun us s1 hv => ?_) he hpl) hdb
  obtain ⟨vs, H1, I1, r, q⟩ := hv
  refine ⟨I1.kIn, ?_⟩
  have hs1 := s1.heap.objs.size
  have q1 := q (s1.heap.objs.size + 1) s1.heap.objs.size (I1.hok.fresh (Nat.le_succ _)) (I1.hok.fresh (Nat.le_refl _)) (Nat.ne_of_lt (Nat.lt_succ_self _))
  have J := Inv.made (C := C) I1
  have r2 : Vals (V.ref (s1.heap.objs.size + 1) :: vs) (Value.ref (s1.heap.objs.size + 1) :: us) := .cons rfl r
  have hl : (Value.ref (s1.heap.objs.size + 1) :: us).length = ps.length := (r2.length).symm.trans (Fn.len _ _ _ _ q1)
  have bd := hb _ (Value.ref (s1.heap.objs.size + 1) :: us) J.kIn (by rw [List.append_nil]; exact hl)
  rw [List.append_nil] at bd
  refine wpAny_call (make_map (f := f) I1.kIn M.makes M.init (beq_iff_eq.mp M.fn) (codeAny_mono (Fn.run _ X.stack _ _ ⟨Value.ref (s1.heap.objs.size + 1) :: us, []⟩ _ _ _ (E σ) (hr.make C us []) (J.env0.make C us []) bd r2 q1) ?_))
  intro rr s' hq'
  cases rr with
  | error e => exact hx σ pins _ _ e s' J hq'
  | ok fl =>
    cases fl with
    | ret u =>
      obtain ⟨v, H', I3, rv, ev, q3⟩ := J.after hq'
      subst ev
      exact ⟨rv, V.ref (s1.heap.objs.size + 1), H', I3, rfl, q3⟩
    | _ => exact hq'.elim
theorem sim_make {C : String} {n : Nat} {sem : FSem} (ha : SimA S W tr dr) : SimE S W (tMakeS (S.cl C) (liftI S.K S.cl C (n + 1) sem) (WE W) tr) (dMake n sem dr) := by
  intro F sa Hs ρ σ H y Q QH R hd hx kk
  refine ha F sa Hs ρ σ H y _ _ R hd hx fun Hs1 ρ1 H1 vs ts e1 R1 q1 h1 => ?_
  obtain ⟨hl, h1⟩ := h1
  intro x dx hnx hndx hne
  obtain ⟨R2, e2⟩ := R1.new (o := .own x) hndx
  have hnx2 : upd H1 dx (.own x) x = none := by rw [upd_ne (Ne.symm hne)]; exact hnx
  have hs2x : upd Hs1 dx (.own x) x = none := fresh_back R2.ex hnx2
  have sax : sa ≠ some x := fun e => by
    obtain ⟨⟨_, _, _, _, _, h, _⟩, _⟩ := R1.sav x e
    rw [hnx] at h; cases h
  have nfx : F x = none := by
    cases e : F x with
    | none => rfl
    | some u => rw [(R1.fr _ _ e).2] at hnx; cases hnx
  -- everything that is known or foreign stays beside the new instance
  have exx : Evl.Ex (upd H1 dx (.own x)) (upd (upd H1 dx (.own x)) x (.ins (S.cl C) dx [])) := Evl.Ex.new hnx2
  refine ⟨by simp [q1.len, hl], x, dx, vs, rfl, upd_same, upd Hs1 dx (.own x), sa, ts, _, _, R2.ex.trans exx, hs2x, sax, fun a ea => ⟨(R2.sav a ea).1.mono (Evl.Ex.refl _) (fun o eo => exx _ _ eo), (R2.sav a ea).2.1⟩, ?_, h1, fun Hs' H' t R' r q => ⟨rfl, ?_⟩, fun Hs' H' cls dd ex R' r q => ?_⟩
  · have go : ∀ {vs : List V} {ts : List T}, RepAs S sa Hs1 vs ts → RepAs (S0 S.K S.cl (upd Hs1 dx (.own x)) sa) sa (upd Hs1 dx (.own x)) vs ts := by
      intro vs ts r
      induction r with
      | nil => exact .nil
      | @cons v t _ _ r _ ih => exact .cons (by have := r.mono e2; cases t <;> exact this) ih
    exact go q1
  all_goals
    have aw : ∀ {b : Addr} {o : HO}, upd Hs1 dx (.own x) b = none → sa ≠ some b → upd H1 dx (.own x) b = some o → Hs' b = none ∧ H' b = some o := fun {b o} h1 h2 h3 => by
      have hb : b ≠ x := by rintro rfl; rw [hnx2] at h3; cases h3
      exact R'.fr b o (by rw [awayI_ne hb]; exact away_some.mpr ⟨h1, h2, exx _ _ h3⟩)
    have RB : RelS S F sa Hs' ρ1 σ H' := by
      refine ⟨R2.b0.trans R'.b0, R'.ex, fun b o e => ?_, R2.len, R2.sal, fun a e => ?_, fun i b e => ?_, R2.apart, R2.slf, R2.f0⟩
      · obtain ⟨h1, h2⟩ := R2.fr b o e
        refine aw h1 (fun z => ?_) h2
        rw [(R2.sav b z).2.2] at e; cases e
      · obtain ⟨h1, h2, h3⟩ := R'.sav a e
        exact ⟨h1, h2, (R2.sav a e).2.2⟩
      · obtain ⟨v, h1, h2⟩ := R2.vars i b e
        exact ⟨v, h1, h2.mono R'.b0 fun q u _ k1 k2 k3 => aw k1 k2 k3⟩
  · refine kk Hs' ρ1 H' (.ref x) t ((e1.trans e2).trans R'.b0) RB ?_ q
    cases t with
    | d y => exact r
    | own m =>
      obtain ⟨p, o, ep, t⟩ := r
      cases ep
      refine ⟨x, o, rfl, ⟨t.hs, nfx, sax, t.h, t.r, fun i m' e z => ?_⟩⟩
      obtain ⟨v', h1, q, u, rfl, k1, _, _, k4, _⟩ := R2.vars i _ e
      rw [h1] at z
      cases z
      rw [hnx2] at k4; cases k4
    | brw i => exact r.elim
    | st => exact r.elim
    | exn x => exact r.elim
  · exact hx ex ρ1 Hs' H' cls dd ((e1.trans e2).trans R'.b0) RB r q
theorem je_make {x : Str} {C : String} {ps : List Str} {k n : Nat} {sem : FSem} (h : HasI X.prog X.w X.K X.mg X.base S.cl x C ps k sem) (hr : Room (k + 1) X.A) (tk : Takes X W) (hg : Gl X x) (ha : JA X S W (e :: es) tr dr) (hn : ps.length = n + 1 := by rfl) (hdb : (x == ("__debug__" : Str)) = false := by decide)
    (he : starEach (e :: es) X.env = (false, eval e X.env) :: starEach es X.env := by rfl) (hpl : (backTo pos (starEach es X.env)).any (·.1) = false := by rfl) :
    JE X S W (.Call (.Name x p) (e :: es) [] pos) (tMakeS (S.cl C) (liftI S.K S.cl C (n + 1) sem) (WE W) tr) (dMake n sem dr) := by
  obtain ⟨f, fd, hm, M, hb, hf⟩ := h
  rw [hn] at hf
  have hf' : FnOk X.prog X.w X.K X.mg X.base (L2.CX X.prog X.w) k f fd ps (liftI S.K S.cl C (n + 1) sem) := by rw [← ha.k]; exact hf
  exact ⟨ha.k, pe_makeS M hf' hr hg hm hb (fun σ => passAt tk σ) ha.pa hdb he hpl, sim_make ha.sim⟩
end
end Y

/-! Sim12: dicts. -/
namespace Y
open PySem L2 Evl
open PyProof.Rows (envOfC)
section
variable {X : Cx} {S : Sx} {W : WX} {e a b : Expr} {es : List Expr} {t ta tb te : TE} {d da db : DE} {pos p : Pos} {sa : Option Addr} {F Hs H : Hp} {ρ : En} {σ : St} {tr : TA} {dr : DA}
/-- {k: v}, k a tuple -/
def tDispT (tk tv : TE) : TE := fun σ H Q => ∀ p, H p = none → tk σ (upd H p (.dT [])) fun x H1 => tv σ H1 fun y H2 => H2 p = some (.dT []) ∧ ∃ (b : Addr) (k : List Key), x = .ref b ∧ H2 b = some (.tup (k.map kV)) ∧ Q (.ref p) (upd H2 p (.dT [(k, y)]))
theorem pe_dispT (hu : X.A.units + 1 < cLine) (ha : PE X a ta) (hb : PE X b tb) : PE X (.Dict [some a] [b] pos) (tDispT ta tb) := by
  constructor
  intro pins s σ H Q I q
  have hn := I.hok.fresh (Nat.le_refl s.heap.objs.size)
  have I1 := I.laid (a := s.heap.objs.size) (o := .dT []) (h' := s.heap.push { cls := .type "dict", data := .dict #[] }) (t' := s.toks) (fun _ _ q => Heap.get?_push_of_some _ q) (Nat.le_refl _) (dt_empty s.heap I.big)
  rw [arm_eval_Dict, zip_pairTrees [some a] [b] X.env pos rfl rfl, dictDisplay_pairs _ (by intro z; cases z) (by simp [pairTrees])]
  refine wpAny_bind (wpAny_standAt (wpAny_bind (wpAny_subDictH (knd := tupleKind (mixKind X.prog X.w)) (by show X.A.units < cLine; omega) (by simp [pairTrees]) ?_)))
  refine pairTrees_cons_walk (thn (ha.run pins _ σ _ _ I1 (q _ hn)) fun u s1 hu1 => ?_)
  obtain ⟨x, H1, I2, rx, q1⟩ := hu1
  refine thn (hb.run pins s1 σ H1 _ I2 q1) fun w2 s2 hw => ?_
  obtain ⟨y, H2, I3, ry, e2, bb, k, rfl, ek, q2⟩ := hw
  refine pairTrees_nil_walk ?_
  cases rx
  obtain ⟨z, hd, xs, rel, dd⟩ := dt_of I3.hok e2
  cases rel
  refine ⟨[(k, bb, w2)], ⟨rfl, rfl, key_of I3.hok ek, trivial⟩, dd, fun h' tk dd' hs => wpAny_pure ⟨.ref _, _, ?_, rfl, q2⟩⟩
  have sto : storedAllH ([] : List (List Key × Addr × Value)) [(k, bb, w2)] = [(k, bb, w2)] := rfl
  rw [sto] at dd'
  obtain ⟨o, es, ep, h1, h2, h3, h4, _, h5⟩ := dd'
  refine d_write I3 (by rw [e2]; exact True.intro) hs ⟨o, h1⟩ ⟨by show 1 ≤ sizeLine; decide, hd, [(k, bb, w2)], .cons ⟨rfl, ?_, ry⟩ .nil, o, es, ep, h1, h2, h3, h4, h5⟩
  have nb : bb ≠ s.heap.objs.size := by rintro rfl; rw [ek] at e2; cases e2
  show upd H2 _ _ bb = _
  rw [upd_ne nb]
  exact ek

/-! ### keys -/
theorem keyOf_inj {k k' : DK} (h : keyOf k = keyOf k') : k = k' := by
  cases k <;> cases k' <;> first | (cases h; done) | exact congrArg Sum.inl (Sum.inl.inj h) | exact congrArg Sum.inr (stx_inj (Sum.inr.inj h))
theorem keysOf_inj : ∀ {k k' : List DK}, k.map keyOf = k'.map keyOf → k = k'
  | [], [], _ => rfl
  | [], _ :: _, h => by simp at h
  | _ :: _, [], h => by simp at h
  | a :: k, b :: k', h => by
    simp only [List.map_cons, List.cons.injEq] at h
    rw [keyOf_inj h.1, keysOf_inj h.2]
theorem key_rep {K : PySem.W.Frag} {cl : String → Addr} {H : Hp} {v : V} {u : D} {k : DK} (r : Rep K cl H v u) (h : toKey u = some k) : v = kV (keyOf k) := by
  cases r <;> cases h <;> rfl
theorem keys_rep {K : PySem.W.Frag} {cl : String → Addr} {H : Hp} : ∀ {vs : List V} {us : List D} {k : List DK}, Reps K cl H vs us → toKeys us = some k → vs = (k.map keyOf).map kV
  | _, _, _, .nil, h => by cases h; rfl
  | _, u :: us, _, .cons r q, h => by
    simp only [toKeys, Option.bind_eq_some_iff, Option.map_eq_some_iff] at h
    obtain ⟨k, h1, l, h2, rfl⟩ := h
    rw [key_rep r h1, keys_rep q h2]
    rfl
section
variable {K : PySem.W.Frag} {cl : String → Addr}
theorem getK_rep : ∀ {ks : List (Key × V)} {ds : List (DK × D)} {k : DK}, RepK K cl H ks ds → (∀ y, getK ds k = some y → ∃ v, valV ks (keyOf k) = some v ∧ Rep K cl H v y) ∧ (getK ds k = none → valV ks (keyOf k) = none)
  | _, _, k, .nil => ⟨fun y h => (by cases h), fun _ => rfl⟩
  | _, _, k, .cons (k := k') (v := v) (d := d) (vs := vs) (ds := ds) r q => by
    have ih := getK_rep (k := k) q
    by_cases e : k' = k
    · subst e
      have e1 : getK ((k', d) :: ds) k' = some d := by simp [getK]
      rw [e1, valV_pos rfl]
      exact ⟨fun y h => (by cases h; exact ⟨v, rfl, r⟩), fun h => (by cases h)⟩
    · have e1 : getK ((k', d) :: ds) k = getK ds k := by simp [getK, e]
      rw [e1, valV_neg (fun z => e (keyOf_inj z))]
      exact ih
theorem getL_rep : ∀ {ks : List (List Key × V)} {ds : List (List DK × D)} {k : List DK}, RepL K cl H ks ds → (∀ y, getK ds k = some y → ∃ v, valV ks (k.map keyOf) = some v ∧ Rep K cl H v y) ∧ (getK ds k = none → valV ks (k.map keyOf) = none)
  | _, _, k, .nil => ⟨fun y h => (by cases h), fun _ => rfl⟩
  | _, _, k, .cons (k := k') (v := v) (d := d) (vs := vs) (ds := ds) r q => by
    have ih := getL_rep (k := k) q
    by_cases e : k' = k
    · subst e
      have e1 : getK ((k', d) :: ds) k' = some d := by simp [getK]
      rw [e1, valV_pos rfl]
      exact ⟨fun y h => (by cases h; exact ⟨v, rfl, r⟩), fun h => (by cases h)⟩
    · have e1 : getK ((k', d) :: ds) k = getK ds k := by simp [getK, e]
      rw [e1, valV_neg (fun z => e (keysOf_inj z))]
      exact ih
theorem anyK_rep {k : DK} : ∀ {ks : List (Key × V)} {ds : List (DK × D)}, RepK K cl H ks ds → (ks.any fun kv => decide (kv.1 = keyOf k)) = (ds.any fun p => decide (p.1 = k))
  | _, _, .nil => rfl
  | _, _, .cons (k := k') r q => by
    rw [List.any_cons, List.any_cons, anyK_rep q]
    by_cases e : k' = k
    · subst e; simp
    · rw [decide_eq_false (fun z => e (keyOf_inj z)), decide_eq_false e]
theorem mapK_rep {k : DK} {v : V} {y : D} (h : Rep K cl H v y) : ∀ {ks : List (Key × V)} {ds : List (DK × D)}, RepK K cl H ks ds → RepK K cl H (ks.map fun kv => if kv.1 = keyOf k then (kv.1, v) else kv) (ds.map fun p => if p.1 = k then (p.1, y) else p)
  | _, _, .nil => .nil
  | _, _, .cons (k := k') r q => by
    have ih := mapK_rep (k := k) h q
    by_cases e : k' = k
    · subst e
      rw [List.map_cons, List.map_cons, if_pos rfl, if_pos rfl]
      exact .cons h ih
    · rw [List.map_cons, List.map_cons, if_neg (fun z => e (keyOf_inj z)), if_neg e]
      exact .cons r ih
theorem snocK_rep {k : DK} {v : V} {y : D} (h : Rep K cl H v y) : ∀ {ks : List (Key × V)} {ds : List (DK × D)}, RepK K cl H ks ds → RepK K cl H (ks ++ [(keyOf k, v)]) (ds ++ [(k, y)])
  | _, _, .nil => .cons h .nil
  | _, _, .cons r q => .cons r (snocK_rep h q)
theorem setK_rep {k : DK} {v : V} {y : D} (h : Rep K cl H v y) {ks : List (Key × V)} {ds : List (DK × D)} (r : RepK K cl H ks ds) : RepK K cl H (putK ks (keyOf k) v) (setK ds k y) := by
  unfold putK setK
  rw [anyK_rep r]
  split
  · exact mapK_rep h r
  · exact snocK_rep h r
theorem anyL_rep {k : List DK} : ∀ {ks : List (List Key × V)} {ds : List (List DK × D)}, RepL K cl H ks ds → (ks.any fun kv => decide (kv.1 = k.map keyOf)) = (ds.any fun p => decide (p.1 = k))
  | _, _, .nil => rfl
  | _, _, .cons (k := k') r q => by
    rw [List.any_cons, List.any_cons, anyL_rep q]
    by_cases e : k' = k
    · subst e; simp
    · rw [decide_eq_false (fun z => e (keysOf_inj z)), decide_eq_false e]
theorem mapL_rep {k : List DK} {v : V} {y : D} (h : Rep K cl H v y) : ∀ {ks : List (List Key × V)} {ds : List (List DK × D)}, RepL K cl H ks ds → RepL K cl H (ks.map fun kv => if kv.1 = k.map keyOf then (kv.1, v) else kv) (ds.map fun p => if p.1 = k then (p.1, y) else p)
  | _, _, .nil => .nil
  | _, _, .cons (k := k') r q => by
    have ih := mapL_rep (k := k) h q
    by_cases e : k' = k
    · subst e
      rw [List.map_cons, List.map_cons, if_pos rfl, if_pos rfl]
      exact .cons h ih
    · rw [List.map_cons, List.map_cons, if_neg (fun z => e (keysOf_inj z)), if_neg e]
      exact .cons r ih
theorem snocL_rep {k : List DK} {v : V} {y : D} (h : Rep K cl H v y) : ∀ {ks : List (List Key × V)} {ds : List (List DK × D)}, RepL K cl H ks ds → RepL K cl H (ks ++ [(k.map keyOf, v)]) (ds ++ [(k, y)])
  | _, _, .nil => .cons h .nil
  | _, _, .cons r q => .cons r (snocL_rep h q)
theorem setL_rep {k : List DK} {v : V} {y : D} (h : Rep K cl H v y) {ks : List (List Key × V)} {ds : List (List DK × D)} (r : RepL K cl H ks ds) : RepL K cl H (putK ks (k.map keyOf) v) (setK ds k y) := by
  unfold putK setK
  rw [anyL_rep r]
  split
  · exact mapL_rep h r
  · exact snocL_rep h r
theorem RepK.len : ∀ {ks : List (Key × V)} {ds : List (DK × D)}, RepK K cl H ks ds → ks.length = ds.length
  | _, _, .nil => rfl
  | _, _, .cons _ q => by simp [RepK.len q]
theorem RepL.len : ∀ {ks : List (List Key × V)} {ds : List (List DK × D)}, RepL K cl H ks ds → ks.length = ds.length
  | _, _, .nil => rfl
  | _, _, .cons _ q => by simp [RepL.len q]
end
/-- what a dict holds, now -/
theorem now_at {xv xd : V} {u v : D} {k : Option D → Prop} (R : RelS S F sa Hs ρ σ H) (nu : Now S Hs H xv u) (nv : Now S Hs H xd v) (h : atD u v k) :
    ∃ (a : Addr) (o : Option V) (r : Option D), xd = .ref a ∧ DGet H a xv o ∧ k r ∧ (r = none → o = none) ∧ ∀ y, r = some y → ∃ w, o = some w ∧ Rep S.K S.cl Hs w y := by
  unfold atD at h
  split at h
  · rename_i kvs
    obtain ⟨x, hx, h⟩ := h
    have e := key_rep (nu.rep R.ex) hx
    have hd : ∃ p ks, xd = .ref p ∧ H p = some (.dK ks) ∧ RepK S.K S.cl Hs ks kvs := by
      rcases nv with r | ⟨p, o, m, rfl, hp, hm, em⟩
      · cases r with
        | dic hp r => exact ⟨_, _, rfl, R.ex _ _ hp, r⟩
      · cases m <;> cases em
        cases o <;> first | exact hm.elim | exact ⟨p, _, rfl, hp, hm⟩
    obtain ⟨p, ks, rfl, hp, r⟩ := hd
    obtain ⟨g1, g2⟩ := getK_rep (k := x) r
    subst e
    exact ⟨p, _, _, rfl, DGet.k hp, h, g2, g1⟩
  · rename_i kvs
    split at h
    · rename_i us
      obtain ⟨x, hx, h⟩ := h
      obtain ⟨b, vs, rfl, hb, rs⟩ := nu.tupS
      have e := keys_rep rs hx
      subst e
      have hd : ∃ p ks, xd = .ref p ∧ H p = some (.dT ks) ∧ RepL S.K S.cl Hs ks kvs := by
        rcases nv with r | ⟨p, o, m, rfl, hp, hm, em⟩
        · cases r with
          | dit hp r => exact ⟨_, _, rfl, R.ex _ _ hp, r⟩
        · cases m <;> cases em
          cases o <;> first | exact hm.elim | exact ⟨p, _, rfl, hp, hm⟩
      obtain ⟨p, ks, rfl, hp, r⟩ := hd
      obtain ⟨g1, g2⟩ := getL_rep (k := x) r
      exact ⟨p, _, _, rfl, DGet.t hp (R.ex _ _ hb), h, g2, g1⟩
    · exact h.elim
  · exact h.elim
def rDin (neg : Bool) : R2 := fun y x H Q => ∃ a o, x = .ref a ∧ DGet H a y o ∧ Q (.bl (xor neg o.isSome)) H
theorem so_din {neg : Bool} : SimO S (rDin neg) (oDin neg) := by
  intro F sa Hs ρ σ H x y u v Q QH R nx ny h k
  obtain ⟨a, o, r, rfl, g, q, z1, z2⟩ := now_at R nx ny h
  refine ⟨a, o, rfl, g, ?_⟩
  have e : o.isSome = r.isSome := by
    cases r with
    | none => rw [z1 rfl]; rfl
    | some y => obtain ⟨w, rfl, _⟩ := z2 y rfl; rfl
  rw [e]
  exact flat_end R k (t := bv _) (Rep.bl _) q
theorem je_din (hK : X.K = S.K) (hu : X.A.units + 1 < cLine) (ha : JE X S W a ta da) (hb : JE X S W b tb db) (h1 : behindInMarks .In b = false := by rfl) : JE X S W (.Compare a [.In] [b] pos) (tOp (rDin false) ta tb) (dBin (oDin false) da db) := by
  refine ⟨hK, ?_, sim_bin so_din ha.sim hb.sim⟩
  have z := pe_cmp (pos := pos) (pc_din hu ha.pe hb.pe) h1
  exact ⟨fun pins s σ H Q I h => z.run pins s σ H Q I (by
    have e : ∀ b : Bool, xor false b = b := by intro b; cases b <;> rfl
    simpa only [tOp, rDin, tDIn, e] using h)⟩
theorem je_dinN (hK : X.K = S.K) (hu : X.A.units + 1 < cLine) (ha : JE X S W a ta da) (hb : JE X S W b tb db) (h1 : behindInMarks .NotIn b = false := by rfl) : JE X S W (.Compare a [.NotIn] [b] pos) (tOp (rDin true) ta tb) (dBin (oDin true) da db) := by
  refine ⟨hK, ?_, sim_bin so_din ha.sim hb.sim⟩
  have z := pe_cmp (pos := pos) (pc_dnotin hu ha.pe hb.pe) h1
  exact ⟨fun pins s σ H Q I h => z.run pins s σ H Q I (by
    have e : ∀ b : Bool, xor true b = !b := by intro b; cases b <;> rfl
    simpa only [tOp, rDin, tDNotIn, e] using h)⟩
theorem jt_din (hK : X.K = S.K) (hu : X.A.units + 1 < cLine) (ha : JE X S W a ta da) (hb : JE X S W b tb db) (h1 : behindInMarks .In b = false := by rfl) : JT X S W (.Compare a [.In] [b] pos) (L2.tB (tOp (rDin false) ta tb)) (tB (dBin (oDin false) da db)) := by
  refine ⟨hK, ?_, sim_tB (sim_bin so_din ha.sim hb.sim)⟩
  have z := pt_cmp (pos := pos) (pc_din hu ha.pe hb.pe) h1
  exact ⟨fun pins s σ H Q I h => z.run pins s σ H Q I (by
    have e : ∀ b : Bool, xor false b = b := by intro b; cases b <;> rfl
    simpa only [L2.tB, tOp, rDin, tDIn, e] using h)⟩
theorem jt_dinN (hK : X.K = S.K) (hu : X.A.units + 1 < cLine) (ha : JE X S W a ta da) (hb : JE X S W b tb db) (h1 : behindInMarks .NotIn b = false := by rfl) : JT X S W (.Compare a [.NotIn] [b] pos) (L2.tB (tOp (rDin true) ta tb)) (tB (dBin (oDin true) da db)) := by
  refine ⟨hK, ?_, sim_tB (sim_bin so_din ha.sim hb.sim)⟩
  have z := pt_cmp (pos := pos) (pc_dnotin hu ha.pe hb.pe) h1
  exact ⟨fun pins s σ H Q I h => z.run pins s σ H Q I (by
    have e : ∀ b : Bool, xor true b = !b := by intro b; cases b <;> rfl
    simpa only [L2.tB, tOp, rDin, tDNotIn, e] using h)⟩
def rDix : R2 := fun x y H Q => ∃ a v, x = .ref a ∧ DGet H a y (some v) ∧ Q v H
theorem so_dix : SimO S rDix oDix := by
  intro F sa Hs ρ σ H x y u v Q QH R nx ny h k
  obtain ⟨a, o, r, rfl, g, ⟨y', rfl, q⟩, z1, z2⟩ := now_at R ny nx h
  obtain ⟨w, rfl, rw'⟩ := z2 y' rfl
  exact ⟨a, w, rfl, g, flat_end R k (t := .d y') rw' q⟩
theorem je_dix (hK : X.K = S.K) (hu : X.A.units + 1 < cLine) (ha : JE X S W a ta da) (hb : JE X S W b tb db) (hs : NoSl b := by exact fun _ _ => rfl) : JE X S W (.Subscript a b pos) (tOp rDix ta tb) (dBin oDix da db) :=
  ⟨hK, pe_dget hu ha.pe hb.pe hs, sim_bin so_dix ha.sim hb.sim⟩
theorem je_dnewK (hK : X.K = S.K) : JE X S W (.Dict [] [] pos) tDNewK dNewD := by
  refine ⟨hK, pe_dnewK, fun F sa Hs ρ σ H x Q QH R h hx k p hp => ?_⟩
  obtain ⟨R2, t2⟩ := R.newOwn (o := .dK []) (m := .dic []) hp RepK.nil
  exact k Hs ρ _ _ (.own (.dic [])) (Evl.Ex.refl _) R2 ⟨p, _, rfl, t2⟩ h
theorem je_dnewT (hK : X.K = S.K) : JE X S W (.Dict [] [] pos) tDNewT dNewT := by
  refine ⟨hK, pe_dnewT, fun F sa Hs ρ σ H x Q QH R h hx k p hp => ?_⟩
  obtain ⟨R2, t2⟩ := R.newOwn (o := .dT []) (m := .dit []) hp RepL.nil
  exact k Hs ρ _ _ (.own (.dit [])) (Evl.Ex.refl _) R2 ⟨p, _, rfl, t2⟩ h
end
end Y

/-! Sim13: d[k] = v, displays, enumerate of texts, list.index. -/
namespace Y
open PySem L2 Evl
open PyProof.Rows (envOfC)
section
variable {X : Cx} {S : Sx} {W : WX} {e a b : Expr} {es : List Expr} {t ta tb te : TE} {d da db : DE} {pos p : Pos} {sa : Option Addr} {F Hs H : Hp} {ρ : En} {σ : St} {tr : TA} {dr : DA}
theorem js_dput {i : Nat} {x : Str} {pn ps : Pos} {ix val : Expr} {tp tv : TE} {dp dv : DE} (hK : X.K = S.K) (hu : X.A.units + 1 < cLine) (hp : JE X S W ix tp dp) (hv' : JE X S W val tv dv) (hN : X.N[i]? = some x := by rfl) (hv : Vis X.env.scope x := by first | exact Or.inl rfl | exact Or.inr (Or.inl rfl) | exact Or.inr (Or.inr rfl))
    (hd : (x == ("__debug__" : Str)) = false := by decide) (hcd : (x == ("__classdict__" : Str)) = false := by decide) (hs : swapsWith val (some (.Subscript (.Name x pn) ix ps)) pos.line X.env = pure false := by rfl) :
    JS X S W (.Assign [.Subscript (.Name x pn) ix ps] val pos) (sDPut (tVar i) tp tv) (sDput i dp dv) := by
  refine ⟨hK, ps_dput hu (pe_var hN hv hd hcd) hp.pe hv'.pe hs, fun F sa Hs ρ σ H Z D R h c => ?_⟩
  refine hv'.sim F sa Hs ρ σ H Z.ex _ _ R h (c.ex sa σ) fun Hs1 ρ1 H1 v r e1 R1 q1 h1 => ?_
  obtain ⟨Hs2, ρ2, y, e2, R2, r2, ⟨m, em⟩, h2⟩ := esc_of R1 q1 h1
  obtain ⟨w, k1, q, o, rfl, _, _, _, k4, k5⟩ := R2.vars i _ em
  refine ⟨_, k1, ?_⟩
  refine hp.sim F sa Hs2 ρ2 σ H1 Z.ex _ _ R2 h2 ((c.ex sa σ).mono (e1.trans e2)) fun Hs3 ρ3 H3 u r3 e3 R3 q3 h3 => ?_
  obtain ⟨Hs4, ρ4, uu, e4, R4, r4, h4⟩ := esc_of R3 q3 h3
  have ee := ((e1.trans e2).trans e3).trans e4
  split at h4
  · rename_i m' em'
    obtain ⟨w', l1, q', o', rfl, _, _, _, l4, l5⟩ := R4.vars i _ em'
    rw [k1] at l1
    cases l1
    unfold putAtM at h4
    split at h4
    · rename_i kvs
      cases o' <;> first | exact l5.elim | skip
      rename_i ks
      obtain ⟨x, hx, hz, h4⟩ := h4
      have hl : ks.length < sizeLine := by rw [RepK.len l5, ← sz_eq]; exact hz
      rw [key_rep r4 hx]
      exact ⟨q, _, rfl, DPut.k l4 hl, c.nx sa Hs4 _ σ _ ee (R4.change em' k1 (o' := .dK _) (m' := .dic _) (setK_rep (r2.mono (e3.trans e4)) l5)) h4⟩
    · rename_i kvs
      cases o' <;> first | exact l5.elim | skip
      rename_i ks
      split at h4
      · rename_i us
        obtain ⟨x, hx, hz, h4⟩ := h4
        have hl : ks.length < sizeLine := by rw [RepL.len l5, ← sz_eq]; exact hz
        cases r4 with
        | tup hb rs =>
          have ek := keys_rep rs hx
          rw [ek] at hb
          exact ⟨q, _, rfl, DPut.t l4 (R4.ex _ _ hb) hl, c.nx sa Hs4 _ σ _ ee (R4.change em' k1 (o' := .dT _) (m' := .dit _) (setL_rep (r2.mono (e3.trans e4)) l5)) h4⟩
      · exact h4.elim
    · exact h4.elim
  · exact h4.elim
theorem je_dispT {ta tb : Hp → TE} (hK : X.K = S.K) (hu : X.A.units + 1 < cLine) (ha : ∀ F0, JE X (S.at0 F0) W a (ta F0) da) (hb : ∀ F0, JE X (S.at0 F0) W b (tb F0) db) (hF0 : ∀ F0, ta F0 = ta S.F0 ∧ tb F0 = tb S.F0 := by intro _; exact ⟨rfl, rfl⟩) : JE X S W (.Dict [some a] [b] pos) (tDispT (ta S.F0) (tb S.F0)) (dDispT da db) := by
  refine ⟨hK, pe_dispT hu (ha S.F0).pe (hb S.F0).pe, fun F sa Hs ρ σ H x Q QH R h hx k p hp => ?_⟩
  -- the empty dict is foreign while the pair is made
  obtain ⟨R0, t0⟩ := R.newOwn (o := .dT []) (m := .dit []) hp RepL.nil
  obtain ⟨F', hF⟩ : ∃ F' : Hp, F' = upd F p (.dT []) := ⟨_, rfl⟩
  have FD : ∀ {b : Addr}, b ≠ p → F' b = F b := fun {b} hb => by rw [hF, upd_ne hb]
  have FDD : F' p = some (.dT []) := by rw [hF, upd_same]
  have RF : RelS (S.at0 (upd S.F0 p (.dT []))) F' sa Hs ρ σ (upd H p (.dT [])) := by rw [hF]; exact R0.aside t0
  have hxF : XOk (S.at0 (upd S.F0 p (.dT []))) F' W sa Hs σ x := fun e ρ' Hs' H' cls dd e1 R1 rx q => by
    refine hx e ρ' Hs' H' cls dd e1 ?_ rx q
    exact RelS.unaside (D := p) (o := .dT []) R0.f0 t0.f (by rw [← hF]; exact R1)
  refine ((hF0 _).1 ▸ (ha (upd S.F0 p (.dT []))).sim : SimE (S.at0 (upd S.F0 p (.dT []))) W (ta S.F0) da) F' sa Hs ρ σ _ x _ _ RF h hxF fun Hs1 ρ1 H1 v1 r1 e1 R1 q1 h1 => ?_
  obtain ⟨Hs2, ρ2, u, e2, R2, r2, h2⟩ := esc_of R1 q1 h1
  refine ((hF0 _).2 ▸ (hb (upd S.F0 p (.dT []))).sim : SimE (S.at0 (upd S.F0 p (.dT []))) W (tb S.F0) db) F' sa Hs2 ρ2 σ H1 x _ _ R2 h2 (hxF.mono (e1.trans e2)) fun Hs3 ρ3 H3 v3 r3 e3 R3 q3 h3 => ?_
  obtain ⟨Hs4, ρ4, y, e4, R4, r4, h4⟩ := esc_of R3 q3 h3
  obtain ⟨d1, d2⟩ := R4.fr p _ FDD
  split at h4
  · rename_i us
    obtain ⟨kk, hk, h4⟩ := h4
    cases r2 with
    | tup hbb rs =>
      have ek := keys_rep rs hk
      rw [ek] at hbb
      have ee := e3.trans e4
      refine ⟨d2, _, kk.map keyOf, rfl, R4.ex _ _ (ee _ _ hbb), ?_⟩
      have nF : ∀ {b : Addr}, F' b = none → F b = none := fun {b} hb => by
        by_cases hz : b = p
        · rw [hz]; exact t0.f
        · rw [← FD hz]; exact hb
      have R5 : RelS S F sa Hs4 ρ4 σ (upd H3 p (.dT [(kk.map keyOf, v3)])) := by
        have RB : RelS S F sa Hs4 ρ4 σ H3 := RelS.unaside (D := p) (o := .dT []) R0.f0 t0.f (by rw [← hF]; exact R4)
        refine ⟨R4.b0, R4.ex.mut d1, fun b o eb => ?_, R4.len, R4.sal, fun a ea => ?_, fun j c ej => ?_, R4.apart, R4.slf, R0.f0⟩
        · have hb : b ≠ p := by rintro rfl; rw [t0.f] at eb; cases eb
          obtain ⟨z1, z2⟩ := R4.fr b o (by rw [FD hb]; exact eb)
          exact ⟨z1, by rw [upd_ne hb]; exact z2⟩
        · obtain ⟨z1, z2, z3⟩ := R4.sav a ea
          have na : a ≠ p := by rintro rfl; rw [FDD] at z3; cases z3
          exact ⟨z1.mono (Evl.Ex.refl _) fun o eo => by rw [upd_ne na]; exact eo, z2, nF z3⟩
        · obtain ⟨w, z1, z2⟩ := R4.vars j c ej
          refine ⟨w, z1, ?_⟩
          cases c with
          | d x => exact z2
          | own m =>
            obtain ⟨q, o, rfl, k1, k2, k3, k4, k5⟩ := z2
            have nq : q ≠ p := by rintro rfl; rw [FDD] at k2; cases k2
            exact ⟨q, o, rfl, k1, nF k2, k3, by rw [upd_ne nq]; exact k4, k5⟩
          | st => exact z2
          | exn x => exact z2
          | rows xs =>
            obtain ⟨w', y1, y2⟩ := RB.vars j _ ej
            rw [z1] at y1
            cases y1
            exact y2
      refine k Hs4 ρ4 _ _ (.own (.dit [(kk, y)])) (((e1.trans e2).trans e3).trans e4) R5 ⟨p, _, rfl, ⟨d1, t0.f, t0.s, upd_same, RepL.cons r4 .nil, fun j m ej z => ?_⟩⟩ h4
      obtain ⟨w, z1, q, o, rfl, _, k2, _⟩ := R4.vars j _ ej
      rw [z1] at z
      cases z
      rw [FDD] at k2; cases k2
  · exact h4.elim

/-! ### enumerate of a text -/
def ItS (z : Str) : It := ⟨fun i _ => i < z.cps.size, fun i H v H' => ∃ T c, v = .ref T ∧ H T = none ∧ z.cps[i]? = some c ∧ H' = upd H T (.tup [.int (i : Nat), .str ⟨#[c]⟩]), fun i _ => i = z.cps.size⟩
theorem isStr_keep {h h' : Heap} {it : Addr} {z : Str} {tk : Tok} {i : Nat} (hi : h.IsStrIter it (strIterType z) z tk i) (k : ∀ o, h.get? it = some o → h'.get? it = some o) : h'.IsStrIter it (strIterType z) z tk i := by
  obtain ⟨o, ho, hc, hd⟩ := hi
  exact ⟨o, k o ho, hc, hd⟩
theorem turn_enumS {P : Program} {w : World} {K : PySem.W.Frag} {elts : List Expr} {kk : Nat} {tpos : Pos} (z : Str) (tk : Tok) (e it : Addr) :
    Turn P w K (.Tuple elts kk tpos) (ItS z) [e, it] e (fun i h => (∃ old, IsEnum h e it ((i : Nat) : Int) old) ∧ h.IsStrIter it (strIterType z) z tk i ∧ e ≠ it) := by
  constructor
  case mem => simp
  case obj =>
    intro i h st b hb
    obtain ⟨⟨old, he⟩, ⟨o, ho, hc, hd⟩, _⟩ := st
    rcases List.mem_cons.mp hb with q | q
    · rw [q]; exact ⟨_, he, fun v q => nomatch q⟩
    · rw [List.mem_singleton.mp q]; exact ⟨o, ho, fun v q => by rw [hd] at q; cases q⟩
  case keep =>
    intro i h h' st k
    obtain ⟨⟨old, he⟩, hi, hne⟩ := st
    exact ⟨⟨old, k e (by simp) _ he⟩, isStr_keep hi fun o q => k it (by simp) o q, hne⟩
  case item =>
    intro X hP hw hK hc i pins s σ H E I hf st hg
    subst hP hw hK
    obtain ⟨⟨old, he⟩, hit, hne⟩ := st
    have hel : e < s.heap.objs.size := Heap.lt_size he
    have hil : it < s.heap.objs.size := by obtain ⟨_, q, _⟩ := hit; exact Heap.lt_size q
    have D := Draws.text (prog := X.prog) (w := X.w) (A := X.A.in1) (I.ok.hd hc) it z tk
    have hlt : i < z.cps.size := hg
    refine wpAny_pyNext_enum_itemD D he hit hlt hne (by simp; exact hne) fun u h' tk' hP ho hit' hT hsz hk => ?_
    obtain ⟨c, uu, hcz, rfl⟩ := hP
    refine ⟨_, rfl, wpAny_letOwnedTupleGo_enum (s := { s with heap := h', toks := tk' + 1 }) ho fun h'' he' sb => ?_⟩
    have hT2 : h''.get? s.heap.objs.size = some { cls := .type "tuple", data := .seq #[.int i tk', .str ⟨#[c]⟩ uu] } := (sb.2 _ (Nat.ne_of_gt hel)).trans hT
    have nw : ObjOk X.prog X.w (upd H s.heap.objs.size (.tup [.int (i : Nat), .str ⟨#[c]⟩])) h'' s.heap.objs.size (.tup [.int (i : Nat), .str ⟨#[c]⟩]) :=
      ⟨by show 2 ≤ sizeLine; decide, [.int i tk', .str ⟨#[c]⟩ uu], .cons ⟨_, rfl⟩ (.cons ⟨_, rfl⟩ .nil), ⟨_, hT2, rfl, _, rfl⟩⟩
    have I1 : Inv X pins σ (upd H s.heap.objs.size (.tup [.int (i : Nat), .str ⟨#[c]⟩])) { s with heap := h'', toks := tk' + 1 } :=
      I.turnedNew (ch := [e, it]) (fun b ob hb q => (sb.2 b (fun z => hb (by simp [z]))).trans (hk b ob (fun z => hb (by simp [z])) (fun z => hb (by simp [z])) q)) hf (Nat.le_refl _) nw
    refine ⟨.ref s.heap.objs.size, _, I1, rfl, ⟨_, c, rfl, I.hok.fresh (Nat.le_refl _), hcz, rfl⟩, ⟨⟨.str ⟨#[c]⟩ uu, ?_⟩, isStr_keep hit' fun o q => (sb.2 it (Ne.symm hne)).trans q, hne⟩, fun b hb => ?_⟩
    · have e1 : ((i + 1 : Nat) : Int) = (i : Int) + 1 := by omega
      rw [e1]; exact he'
    · have hb' : b < s.heap.objs.size := by
        rcases List.mem_cons.mp hb with q | q
        · rw [q]; exact hel
        · rw [List.mem_singleton.mp q]; exact hil
      rw [upd_ne (Nat.ne_of_lt hb')]
      exact (hf b hb).1
  case done =>
    intro X hP hw hK hc i pins s σ H E I hf st hg
    subst hP hw hK
    obtain ⟨⟨old, he⟩, hit, hne⟩ := st
    have hz : i = z.cps.size := hg
    obtain ⟨f0, f1, f2, f3, f4, f5⟩ := hf it (by simp)
    have D := Draws.text (prog := X.prog) (w := X.w) (A := X.A.in1) (I.ok.hd hc) it z tk
    rw [hz] at hit
    exact wpAny_pyNext_enum_endD D he hit fun h' eb => ⟨rfl, I.turned (t' := s.toks) (fun b o hb q => eb b o hb q) f0 f1 f3 f4 f5⟩
  case self =>
    intro A i s Q E st h
    obtain ⟨⟨_, he⟩, _⟩ := st
    exact wpAny_pyIter_enum he h
/-- enumerate(a list), enumerate(a text) -/
def iEnA (K : PySem.W.Frag) (t : TE) : TI := fun σ H R => tCons t tNil σ H fun vs H1 => ∃ x, vs = [x] ∧ ((∃ a xs, x = .ref a ∧ SqL K H1 a xs ∧ R (Ite K a) H1) ∨ ∃ z, x = .str z ∧ R (ItS z) H1)
theorem pi_enA {tpos : Pos} {elts : List Expr} {kk : Nat} (hg : Gl X "enumerate") (hm : X.mg "enumerate" = none) (ha : PE X a ta) (hs : starEach [a] X.env = [(false, eval a X.env)] := by rfl) :
    PI X (.Tuple elts kk tpos) (.Call (.Name "enumerate" p) [a] [] pos) (iEnA X.K ta) := by
  constructor
  intro pins s σ H R I h
  have two : ∀ {s1 : Shared} {H1 : Hp}, Inv X pins σ H1 s1 → ∀ b, b ∈ [s1.heap.objs.size + 1, s1.heap.objs.size] → FpOk X pins H1 b := fun {s1 H1} I1 b hb => by
    have hle : s1.heap.objs.size ≤ b := by
      rcases List.mem_cons.mp hb with z | z
      · rw [z]; exact Nat.le_add_right _ _
      · rw [List.mem_singleton.mp z]; exact Nat.le_refl _
    exact I1.fpOk hle (I1.hok.fresh hle)
  refine PyProof.Rows.Call_ (ld_blt I hg hm PyProof.Rows.boot_enumerate (PyProof.Rows.callWith_type1 (thn ((pa_cons ha pa_nil hs).run pos pins s σ H _ I h) fun us s1 hv => ?_) hs rfl))
  obtain ⟨vs, H1, I1, r1, x, rfl, q⟩ := hv
  cases r1 with
  | cons r rr =>
    cases rr
    rcases q with ⟨a, xs, rfl, hq, q⟩ | ⟨z, rfl, q⟩
    · cases r
      obtain ⟨its, rv, pl, hz⟩ := I1.list hq
      refine call_enumerate_list pl.isList fun h' he hit hsz hk => wpAny_pyIter_enum he ?_
      exact ⟨_, _, _, _, H1, rfl, I1.kept (t' := s1.toks) hk, turn_enum a (s1.heap.objs.size + 1) s1.heap.objs.size, ⟨⟨.none, he⟩, hit, Nat.succ_ne_self _⟩, two I1, q⟩
    · obtain ⟨tk, rfl⟩ := r
      refine call_enumerate_str fun h' he hit hsz hk => wpAny_pyIter_enum he ?_
      exact ⟨_, _, _, _, H1, rfl, I1.kept (t' := s1.toks) hk, turn_enumS z tk (s1.heap.objs.size + 1) s1.heap.objs.size, ⟨⟨.none, he⟩, hit, Nat.succ_ne_self _⟩, two I1, q⟩
theorem numbered_len (xs : List D) : (numbered xs).length = xs.length := by simp [numbered]
theorem numbered_get {xs : List D} {i : Nat} {d : D} (hi : (numbered xs)[i]? = some d) : ∃ x, xs[i]? = some x ∧ d = .tup [.int (i : Nat), x] := by
  have hl : i < (numbered xs).length := (List.getElem?_eq_some_iff.mp hi).1
  rw [numbered_len] at hl
  unfold numbered at hi
  rw [List.getElem?_zipWith, List.getElem?_range hl, List.getElem?_eq_getElem hl] at hi
  cases hi
  exact ⟨xs[i], List.getElem?_eq_getElem hl, rfl⟩
theorem itok_enS {s : Tx} : ItOk S (ItS (stx s)) Hs (numbered (s.map fun c => .str [c])) := by
  have hz : (stx s).cps.size = s.length := by simp [stx]
  refine ⟨fun F0 F sa Hs' ρ σ H' i d e R hi => ?_, fun F0 F sa Hs' ρ σ H' i e R hi => ?_⟩
  · obtain ⟨x, hx, rfl⟩ := numbered_get hi
    rw [List.getElem?_map, Option.map_eq_some_iff] at hx
    obtain ⟨c, hc, rfl⟩ := hx
    have hl : i < s.length := (List.getElem?_eq_some_iff.mp hc).1
    refine ⟨by show i < (stx s).cps.size; omega, fun v H2 yl => ?_⟩
    obtain ⟨T, c', rfl, hT, hc', rfl⟩ := yl
    have e1 : (stx s).cps[i]? = s[i]? := by simp [stx]
    rw [e1, hc] at hc'
    cases hc'
    obtain ⟨R2, e2⟩ := R.new (o := .tup [.int (i : Nat), .str ⟨#[c]⟩]) hT
    exact ⟨_, e2, R2, Rep.tup upd_same (.cons (.int _) (.cons (Rep.str [c]) .nil))⟩
  · show i = (stx s).cps.size
    rw [numbered_len, List.length_map] at hi
    omega
theorem ji_enum {tpos : Pos} {elts : List Expr} {kk : Nat} (hg : Gl X "enumerate") (hm : X.mg "enumerate" = none) (ha : JE X S W a ta da) (hs : starEach [a] X.env = [(false, eval a X.env)] := by rfl) :
    JI X S W (.Tuple elts kk tpos) (.Call (.Name "enumerate" p) [a] [] pos) (iEnA S.K ta) (iEnum da) := by
  refine ⟨ha.k, by rw [← ha.k]; exact pi_enA hg hm ha.pe hs, fun F sa Hs ρ σ H x Q R Rl hd hx k => ?_⟩
  refine ha.sim F sa Hs ρ σ H x _ _ Rl hd hx fun Hs1 ρ1 H1 v r e1 R1 q1 h1 => ?_
  obtain ⟨Hs2, ρ2, y, e2, R2, r2, xs, hi, h2⟩ := esc_of R1 q1 h1
  refine ⟨v, rfl, ?_⟩
  cases r2 with
  | lst hp rs =>
    cases hi
    exact .inl ⟨_, _, rfl, .of (R2.ex _ _ hp), k Hs2 ρ2 H1 _ _ (e1.trans e2) R2 (itok_enum hp rs) h2.2⟩
  | str s =>
    cases hi
    exact .inr ⟨_, rfl, k Hs2 ρ2 H1 _ _ (e1.trans e2) R2 itok_enS h2.2⟩
  | tup hp rs => exact (h2.1 trivial).elim
  | _ => cases hi

/-! ### xs.index(y), flat, y is there -/
def rIndexS (K : PySem.W.Frag) : V → List V → Hp → VK → Prop := L2.rIndex K
theorem je_indexL {apos cpos : Pos} (hK : X.K = S.K) (ha : JE X S W a ta da) (hb : JE X S W b tb db)
    (hbase : attributeBase a "index" X.env (eval a X.env) = eval a X.env := by rfl)
    (hfew : ((backTo cpos (starEach (b :: []) X.env)).all (fun x => !x.1) && (backToKw cpos (keywordEach [] X.env)).all (fun x => x.1.isSome)
      && decide ((b :: ([] : List Expr)).length + ([] : List Keyword).length + (if ([] : List Keyword).isEmpty then 0 else 1) < 30)) = true := by rfl)
    (hline : (apos.endLine == cpos.line) = true := by rfl) (hs : starEach (b :: []) X.env = (false, eval b X.env) :: starEach [] X.env := by rfl) (hplain : (backTo cpos (starEach [] X.env)).any (·.1) = false := by rfl) :
    JE X S W (.Call (.Attribute a "index" apos) [b] [] cpos) (tBM S.K "list" (L2.rIndex S.K) ta (tCons tb tNil)) (dIndexL da db) := by
  refine ⟨hK, ?_, fun F sa Hs ρ σ H x Q QH R h hx k => ?_⟩
  · rw [← hK]
    exact pe_bm PySem.F.plainAttrs_list PySem.F.slot_list_index PySem.F.type_list_index mt_index ha.pe (pa_cons hb.pe pa_nil hs) hbase hfew hline hs hplain
  · refine ha.sim F sa Hs ρ σ H x _ _ R h hx fun Hs1 ρ1 H1 v1 r1 e1 R1 q1 h1 => ?_
    obtain ⟨Hs2, ρ2, y1, e2, R2, r2, ⟨zs, rfl⟩, h2⟩ := esc_of R1 q1 h1
    cases r2 with
    | lst hp rs =>
      refine ⟨.inl ⟨rfl, _, .of (R2.ex _ _ hp)⟩, ?_⟩
      refine hb.sim F sa Hs2 ρ2 σ H1 x _ _ R2 h2 (hx.mono (e1.trans e2)) fun Hs3 ρ3 H3 v3 r3 e3 R3 q3 h3 => ?_
      obtain ⟨u, nw, f1, f2, j, hj, h4⟩ := now_of R3 q3 h3
      have rs3 := (rs.mono e3).mono R3.ex
      have ru := nw.rep R3.ex
      obtain ⟨hjl, hjz⟩ := List.findIdx?_eq_some_iff_findIdx_eq.mp hj
      obtain ⟨z, hz⟩ : ∃ z, zs[j]? = some z := ⟨zs[j], List.getElem?_eq_getElem hjl⟩
      obtain ⟨w, hw, rw'⟩ := rs3.get hz
      have fz : z.flat = true := List.all_eq_true.mp f2 z (List.mem_of_getElem? hz)
      have key := List.findIdx?_eq_some_iff_getElem.mp hj
      obtain ⟨hl2, hp2, hn2⟩ := key
      refine ⟨_, _, v3, j, w, rfl, rfl, .of (R3.ex _ _ (e3 _ _ hp)), flat_v ru f1, flat_vs rs3 f2, hw, ?_, fun m z' hm hz' => ?_, ?_⟩
      · rw [eqv_v rw' ru fz f1]
        have : zs[j] = z := by rw [List.getElem?_eq_getElem hjl] at hz; exact Option.some.inj hz
        rw [← this]; exact hp2
      · have hml : m < zs.length := Nat.lt_trans hm hjl
        obtain ⟨w2, hw2, rw2⟩ := rs3.get (List.getElem?_eq_getElem hml)
        rw [hz'] at hw2
        cases hw2
        rw [eqv_v rw2 ru (List.all_eq_true.mp f2 _ (List.getElem_mem hml)) f1]
        have := hn2 m hm
        simpa using this
      · exact k Hs3 ρ3 H3 _ (iv j) ((e1.trans e2).trans e3) R3 (Rep.int _) h4
end
end Y

/-! Sim14: own exceptions: raise, try, isinstance. -/
namespace Y
open PySem L2 Evl
open PyProof.Rows (envOfC)
/-- what the written part says of an own class of error -/
structure ExF (K : PySem.W.Frag) (mg : Str → Option Value) (cl : String → Addr) (C : String) : Prop where
  gC : mg (Str.ofString C) = some (.ref (cl C))
  xP : PySem.W.excIn K (cl C) [.type "ValueError", .type "Exception", .type "BaseException", .type "object"] "ValueError.__new__" = true
  kP : PySem.W.keepIn K (.ref (cl C)) = true
  bP : PySem.W.subIn K (.ref (cl C)) (.type "BaseException") = some true
  tP : PySem.W.typeIn K (.ref (cl C)) = some (.type "type")
section
variable {X : Cx} {S : Sx} {W : WX} {e a b : Expr} {es : List Expr} {t ta tb te : TE} {d da db : DE} {pos p : Pos} {sa : Option Addr} {F Hs H : Hp} {ρ : En} {σ : St} {tr : TA} {dr : DA}
theorem js_raise0 {C : String} {m : Str} {j : Nat} {p2 pos2 : Pos} (hK : X.K = S.K) (hc : X.calm = true) (T : ExF X.K X.mg S.cl C) (tk : Takes X W) (hg : Gl X (Str.ofString C) := by rfl) (hdb : (Str.ofString C == ("__debug__" : Str)) = false := by decide) :
    JS X S W (.Raise (some (.Call (.Name (Str.ofString C) p) [.Constant (.str m) j p2] [] pos)) none pos2) (fun _ σ H => W (.ref (S.cl C)) none σ H) (sRaise0 C) := by
  refine ⟨hK, ps_raise hc tk (pmk_own PySem.F.excBase_ValueError T.xP T.gC T.kP (raises_own T.bP T.tP) hg hdb), fun F sa Hs ρ σ H Z D R h c => ?_⟩
  exact c.ex sa σ ⟨C, []⟩ ρ Hs H _ _ (Evl.Ex.refl _) R ⟨rfl, .inl ⟨rfl, rfl⟩⟩ h
/-- of each class: does the clause take it -/
def TabOk (K : PySem.W.Frag) (cl : String → Addr) (c : Value) (tab : List (String × Bool)) : Prop := ∀ C b, tab.lookup C = some b → PySem.W.exmOne K (.ref (cl C)) c = some b
abbrev Sx.held (S : Sx) (a : Addr) (cls : Value) (d : Option Addr) : Sx := { S with exa := some (a, cls, d) }
theorem noExn_get {ρ : En} (h : noExn ρ = true) {i : Nat} {e : Exn} : ρ[i]? ≠ some (some (.exn e)) := by
  intro z
  have := List.all_eq_true.mp h _ (List.mem_of_getElem? z)
  cases this
theorem rows_hold {a : Addr} {cls : Value} {dd : Option Addr} : ∀ {qs : List Addr} {xs : List (List D)}, RowsR S F Hs qs xs ↔ RowsR (S.held a cls dd) F Hs qs xs
  | [], [] => Iff.rfl
  | _ :: _, _ :: _ => ⟨fun ⟨h1, h2, h3⟩ => ⟨h1, h2, rows_hold.mp h3⟩, fun ⟨h1, h2, h3⟩ => ⟨h1, h2, rows_hold.mpr h3⟩⟩
  | [], _ :: _ => Iff.rfl
  | _ :: _, [] => Iff.rfl
theorem RelS.hold (R : RelS S F sa Hs ρ σ H) (h0 : S.exa = none) (a : Addr) (cls : Value) (dd : Option Addr) : RelS (S.held a cls dd) F sa Hs ρ σ H := by
  refine ⟨R.b0, R.ex, R.fr, R.len, R.sal, R.sav, fun i b e => ?_, R.apart, R.slf, R.f0⟩
  obtain ⟨v, h1, h2⟩ := R.vars i b e
  refine ⟨v, h1, ?_⟩
  cases b with
  | exn x =>
    obtain ⟨_, _, _, z, _⟩ := h2
    rw [h0] at z; cases z
  | d x => exact h2
  | own m => exact h2
  | st => exact h2
  | rows xs =>
    obtain ⟨p, qs, k1, k2, k3, k4, k5⟩ := h2
    exact ⟨p, qs, k1, k2, k3, k4, rows_hold.mp k5⟩
theorem RelS.unhold {a : Addr} {cls : Value} {dd : Option Addr} (R : RelS (S.held a cls dd) F sa Hs ρ σ H) (hn : noExn ρ = true) : RelS S F sa Hs ρ σ H := by
  refine ⟨R.b0, R.ex, R.fr, R.len, R.sal, R.sav, fun i b e => ?_, R.apart, R.slf, R.f0⟩
  obtain ⟨v, h1, h2⟩ := R.vars i b e
  refine ⟨v, h1, ?_⟩
  cases b with
  | exn x => exact absurd e (noExn_get hn)
  | d x => exact h2
  | own m => exact h2
  | st => exact h2
  | rows xs =>
    obtain ⟨p, qs, k1, k2, k3, k4, k5⟩ := h2
    exact ⟨p, qs, k1, k2, k3, k4, rows_hold.mpr k5⟩
theorem RelS.clear (R : RelS S F sa Hs ρ σ H) (i : Nat) (hz : S.self = none ∨ i ≠ 0) : RelS S F sa Hs (ρ.set i none) (σ.set i none) H := by
  refine ⟨R.b0, R.ex, R.fr, by rw [List.length_set, List.length_set]; exact R.len, R.sal, R.sav, fun j c e => ?_, fun j j' q m m' hj e e' z z' => ?_, fun q eq hl => ?_, R.f0⟩
  · rcases set_get? e with ⟨_, h⟩ | ⟨ne, h⟩
    · cases h
    · obtain ⟨w, h1, h2⟩ := R.vars j c h
      exact ⟨w, by rw [List.getElem?_set_ne ne]; exact h1, h2⟩
  · rcases set_get? e with ⟨_, h⟩ | ⟨ne, h⟩
    · cases h
    · rcases set_get? e' with ⟨_, h'⟩ | ⟨ne', h'⟩
      · cases h'
      · rw [List.getElem?_set_ne ne] at z
        rw [List.getElem?_set_ne ne'] at z'
        exact R.apart j j' q m m' hj h h' z z'
  · rcases hz with hz | hz
    · rw [hz] at eq; cases eq
    · rw [List.getElem?_set_ne hz]
      exact R.slf q eq (by simpa using hl)
section
variable {x n : Str} {c : Value} {i : Nat} {body suite : List Stmt} {b0 : Stmt} {np pos' : Pos} {tb' : WX → TS} {ts : Addr → Value → Option Addr → TS} {db' ds' : DS} {tab : List (String × Bool)}
/-- the wish that only looks -/
def XLook (X : Cx) : Value → Shared → Prop := fun e s₁ => wpAny (model X.prog X.w) X.A (noteFrame e X.env) (fun _ s₂ => wpAny (model X.prog X.w) X.A (setFlight e none) (fun _ _ => True) X.xe s₂) X.xe s₁
theorem look_own : PassesOwn (model X.prog X.w) X.A X.env (XLook X) := PassesOwn.looking
theorem look_tk {V : WX} (hs : X.stack = X.env :: X.outer) (hf : X.env.frame = some X.env.locals) : Takes (X.tr [] (XLook X)) V := by
  intro u s' xx
  obtain ⟨a, B, sI, pins', σ', H', cls, d, rfl, J', nb, up, sky, na, os, ag, w⟩ := xx
  have hfr : X.A.frames = some (X.env :: X.outer) := by rw [← hs]; exact J'.ok.frames
  have sky' : Sky B (X.env :: X.outer) a (Zc cls d) X.env.locals s'.heap := by rw [← hs]; exact sky
  exact Sky.land Zc.steady hfr hf sky' fun h3 fl3 up3 => trivial
theorem RepXB.un {a : Addr} {cls : Value} {dd : Option Addr} {v : V} {e : Exn} (h : RepXB (S.held a cls dd) Hs v e) : v = .ref a ∧ RepX S Hs cls dd e := by
  obtain ⟨a', c', d', h1, h2, h3⟩ := h
  cases h1
  exact ⟨h2, h3⟩
theorem RelS.putExn {a : Addr} {cls : Value} {dd : Option Addr} {e : Exn} (i : Nat) (hz : S.self = none ∨ i ≠ 0) (R : RelS (S.held a cls dd) F sa Hs ρ σ H) (r : RepX S Hs cls dd e) :
    RelS (S.held a cls dd) F sa Hs (ρ.set i (some (.exn e))) (σ.set i (some (.ref a))) H := by
  refine ⟨R.b0, R.ex, R.fr, by rw [List.length_set, List.length_set]; exact R.len, R.sal, R.sav, fun j c z => ?_, fun j j' q m m' hj z1 z2 k k' => ?_, fun q eq hl => ?_, R.f0⟩
  · rcases set_get? z with ⟨ej, h⟩ | ⟨ne, h⟩
    · subst ej
      cases h
      obtain ⟨hl⟩ : Nonempty (i < ρ.length) := by
        refine ⟨Nat.lt_of_not_le fun hge => ?_⟩
        rw [List.getElem?_eq_none (by rw [List.length_set]; exact hge)] at z
        cases z
      exact ⟨.ref a, by rw [List.getElem?_set_self (by rw [R.len]; exact hl)], a, cls, dd, rfl, rfl, r⟩
    · obtain ⟨w, h1, h2⟩ := R.vars j c h
      exact ⟨w, by rw [List.getElem?_set_ne ne]; exact h1, h2⟩
  · rcases set_get? z1 with ⟨_, h⟩ | ⟨ne, h⟩
    · cases h
    · rcases set_get? z2 with ⟨_, h'⟩ | ⟨ne', h'⟩
      · cases h'
      · rw [List.getElem?_set_ne ne] at k
        rw [List.getElem?_set_ne ne'] at k'
        exact R.apart j j' q m m' hj h h' k k'
  · rcases hz with hz | hz
    · have eq : S.self = some q := eq
      rw [hz] at eq; cases eq
    · rw [List.getElem?_set_ne hz]
      exact R.slf q eq (by simpa using hl)
theorem sim_suite {i : Nat} {ts : TS} {ds : DS} {a : Addr} {cls : Value} {dd : Option Addr} {e : Exn} {Z : DEnds} {D : Ends} (h0 : S.exa = none) (hz : S.self = none ∨ i ≠ 0) (hsu : SimS (S.held a cls dd) noW ts ds) (R : RelS S F sa Hs ρ σ H) (r : RepX S Hs cls dd e)
    (cm : Comp S F W Hs Z D)
    (h : ds { nx := fun ρ2 => noExn (ρ2.set i none) = true ∧ Z.nx (ρ2.set i none), rt := Z.rt, bk := fun ρ2 => noExn (ρ2.set i none) = true ∧ Z.bk (ρ2.set i none), ct := fun ρ2 => noExn (ρ2.set i none) = true ∧ Z.ct (ρ2.set i none), ex := fun _ _ => False } (ρ.set i (some (.exn e)))) :
    ts { nx := fun σ' H' => D.nx (σ'.set i none) H', rt := D.rt, bk := fun σ' H' => D.bk (σ'.set i none) H', ct := fun σ' H' => D.ct (σ'.set i none) H' } (σ.set i (some (.ref a))) H := by
  refine hsu F sa Hs _ _ H _ _ ((R.hold h0 a cls dd).putExn i hz r) h ⟨fun sa' Hs' ρ' σ' H' e1 R1 q => ?_, fun sa' Hs' ρ' σ' H' e1 R1 q => ?_, fun sa' Hs' ρ' σ' H' e1 R1 q => ?_, fun sa' Hs' H' v r1 e1 R1 rr q => ?_, fun sa' σ' e' ρ' Hs' H' cls' dd' e1 R1 rx q => q.elim⟩
  · exact cm.nx sa' Hs' _ _ H' e1 ((R1.clear i hz).unhold q.1) q.2
  · exact cm.bk sa' Hs' _ _ H' e1 ((R1.clear i hz).unhold q.1) q.2
  · exact cm.ct sa' Hs' _ _ H' e1 ((R1.clear i hz).unhold q.1) q.2
  · exact cm.rt sa' Hs' H' v r1 e1 (R1.unhold rfl) (by cases r1 with | d x => exact rr | own m => (obtain ⟨p, o, rfl, t⟩ := rr; exact ⟨p, o, rfl, ⟨t.hs, t.f, t.s, t.h, t.r, t.na⟩⟩) | st => exact rr | brw i => exact rr | exn x => exact rr) q
theorem js_try_as (hK : X.K = S.K) (h0 : S.exa = none) (hs : X.stack = X.env :: X.outer) (hf : X.env.frame = some X.env.locals) (hN : X.N.Nodup) (hi : X.N[i]? = some n) (hln : X.env.kindOf n = some .local) (hc : Names X x c) (tk : Takes X W) (ht : TabOk X.K S.cl c tab)
    (hb : ∀ (V : WX) (pn : List (Addr × Obj)) (xe : Value → Shared → Prop), Takes (X.tr pn xe) V → PassesOwn (model X.prog X.w) X.A X.env xe → JSs (X.tr pn xe) S V body (tb' V) db')
    (hsu : ∀ (a : Addr) (oe : Obj) (cls : Value) (d : Option Addr) (pn : List (Addr × Obj)), Zc cls d oe → (∃ vs, oe.data = .fields vs) → JSs (X.suite a ((a, oe) :: pn)) (S.held a cls d) noW (b0 :: suite) (ts a cls d) ds')
    (hz : S.self = none ∨ i ≠ 0 := by first | exact .inl rfl | exact .inr (by decide)) :
    JS X S W (.Try body [.ExceptHandler (some (.Name x np)) (some n) (b0 :: suite) pos'] [] [] pos) (fun D σ H => tb' (wAs X.K c i ts W D) D σ H) (sTry tab (some i) db' ds') := by
  refine ⟨hK, ps_try_as hs hf hN hi hln hc tk (fun V pn xe h1 h2 => (hb V pn xe h1 h2).ps) (fun a oe cls d pn h1 h2 => (hsu a oe cls d pn h1 h2).ps), fun F sa Hs ρ σ H Z D R h cm => ?_⟩
  obtain ⟨hne, h⟩ := h
  have J := (hb (wAs X.K c i ts W D) [] (XLook X) (look_tk hs hf) look_own).sim
  refine J F sa Hs ρ σ H _ _ R h ⟨cm.nx, cm.bk, cm.ct, cm.rt, fun sa' σ' e ρ1 Hs1 H1 cls dd e1 R1 r q => ?_⟩
  obtain ⟨rc, rd⟩ := r
  have q : (match tab.lookup e.cls with
    | some true => ds' { nx := fun ρ2 => noExn (ρ2.set i none) = true ∧ Z.nx (ρ2.set i none), rt := Z.rt, bk := fun ρ2 => noExn (ρ2.set i none) = true ∧ Z.bk (ρ2.set i none), ct := fun ρ2 => noExn (ρ2.set i none) = true ∧ Z.ct (ρ2.set i none), ex := fun _ _ => False } (ρ1.set i (some (.exn e)))
    | some false => Z.ex e ρ1
    | none => False) := q
  cases hl : tab.lookup e.cls with
  | none => rw [hl] at q; exact q.elim
  | some b =>
    refine ⟨b, by rw [rc]; exact ht _ _ hl, fun hbt a na => ?_, fun hbf => ?_⟩
    · subst hbt
      rw [hl] at q
      have hS := (hsu a { cls := cls, dict := dd, data := .fields #[], slots := default } cls dd [] ⟨rfl, rfl⟩ ⟨_, rfl⟩).sim
      exact sim_suite (W := W) h0 hz hS R1 ⟨rc, rd⟩ (cm.mono e1).to q
    · subst hbf
      rw [hl] at q
      exact cm.ex sa' σ' e ρ1 Hs1 H1 cls dd e1 R1 ⟨rc, rd⟩ q
end
end
end Y

/-! Sim15: the law's own list, from within; the draw, the law. -/
namespace Y
open PySem L2 Evl
open PyProof.Rows (envOfC)
section
variable {X : Cx} {S : Sx} {W : WX} {e a b : Expr} {es : List Expr} {t ta tb te : TE} {d da db : DE} {pos p p2 : Pos} {sa : Option Addr} {F Hs H : Hp} {ρ : En} {σ : St}
theorem je_mono {d' : DE} (h : JE X S W e t d) (hd : ∀ ρ x Q, d' ρ x Q → d ρ x Q) : JE X S W e t d' := ⟨h.k, h.pe, fun F sa Hs ρ σ H x Q QH R q hx k => h.sim F sa Hs ρ σ H x Q QH R (hd ρ x Q q) hx k⟩
theorem RelS.stv (R : RelS S F sa Hs ρ σ H) {i : Nat} (e : ρ[i]? = some (some .st)) : ∃ a, σ[i]? = some (some (.ref a)) ∧ sa = some a ∧ StA S.K Hs H a := by
  obtain ⟨v, h1, a, h2, rfl⟩ := R.vars i _ e
  exact ⟨a, h1, h2, (R.sav a h2).1⟩
theorem je_st0 (hK : X.K = S.K) (i : Nat) {x : Str} {j : Nat} (hN : X.N[i]? = some x := by rfl) (hv : Vis X.env.scope x := by first | exact Or.inl rfl | exact Or.inr (Or.inl rfl) | exact Or.inr (Or.inr rfl)) (hd : (x == ("__debug__" : Str)) = false := by decide)
    (hcd : (x == ("__classdict__" : Str)) = false := by decide) : JE X S W (.Subscript (.Name x p) (.Constant (.int 0) j p2) pos) (tOp (rIx S.K) (tVar i) (tC (.int 0))) (dStC i) := by
  have hb : PE X (.Constant (.int 0) j p2) (tC (.int 0)) := pe_int
  refine ⟨hK, ?_, fun F sa Hs ρ σ H x Q QH R h hx k => ?_⟩
  · rw [← hK]
    exact pe_ix ix_seq (pe_var hN hv hd hcd) hb (fun _ _ => rfl)
  · obtain ⟨h1, h2⟩ := h
    obtain ⟨a, e1, e2, pc, i', j', k', cells, z1, z2, z3, z4⟩ := R.stv h1
    refine ⟨_, e1, .inl ⟨a, _, 0, .ref pc, rfl, rfl, .of z1, rfl, ?_⟩⟩
    exact k Hs ρ H (.ref pc) (.d (.lst (cells.map D.int))) (Evl.Ex.refl _) R (.lst z2 (Reps.ints cells)) (h2 cells z3 z4)
theorem je_stk (hK : X.K = S.K) (i : Nat) (k : Nat) {x : Str} {j : Nat} (h3 : k = 1 ∨ k = 2 ∨ k = 3) (hN : X.N[i]? = some x := by rfl) (hv : Vis X.env.scope x := by first | exact Or.inl rfl | exact Or.inr (Or.inl rfl) | exact Or.inr (Or.inr rfl)) (hd : (x == ("__debug__" : Str)) = false := by decide)
    (hcd : (x == ("__classdict__" : Str)) = false := by decide) : JE X S W (.Subscript (.Name x p) (.Constant (.int k) j p2) pos) (tOp (rIx S.K) (tVar i) (tC (.int k))) (dStI i) := by
  have hb : PE X (.Constant (.int k) j p2) (tC (.int k)) := pe_int
  refine ⟨hK, ?_, fun F sa Hs ρ σ H x Q QH R h hx kk => ?_⟩
  · rw [← hK]
    exact pe_ix ix_seq (pe_var hN hv hd hcd) hb (fun _ _ => rfl)
  · obtain ⟨h1, h2⟩ := h
    obtain ⟨a, e1, e2, pc, i', j', k', cells, z1, z2, z3, z4⟩ := R.stv h1
    rcases h3 with rfl | rfl | rfl
    · exact ⟨_, e1, .inl ⟨a, _, 1, .int i', rfl, rfl, .of z1, rfl, kk Hs ρ H _ (iv i') (Evl.Ex.refl _) R (Rep.int _) (h2 _)⟩⟩
    · exact ⟨_, e1, .inl ⟨a, _, 2, .int j', rfl, rfl, .of z1, rfl, kk Hs ρ H _ (iv j') (Evl.Ex.refl _) R (Rep.int _) (h2 _)⟩⟩
    · exact ⟨_, e1, .inl ⟨a, _, 3, .int k', rfl, rfl, .of z1, rfl, kk Hs ρ H _ (iv k') (Evl.Ex.refl _) R (Rep.int _) (h2 _)⟩⟩
theorem RelS.stput (R : RelS S F sa Hs ρ σ H) {a : Addr} (ea : sa = some a) {o : HO} (hs : ∀ H', H' a = some o → StA S.K Hs H' a) : RelS S F sa Hs ρ σ (upd H a o) := by
  obtain ⟨z1, z2, z3⟩ := R.sav a ea
  refine ⟨R.b0, R.ex.mut z2, fun b u e => ?_, R.len, R.sal, fun a' e' => ?_, fun i b e => ?_, R.apart, R.slf, R.f0⟩
  · have nb : b ≠ a := by rintro rfl; rw [z3] at e; cases e
    obtain ⟨h1, h2⟩ := R.fr b u e
    exact ⟨h1, by rw [upd_ne nb]; exact h2⟩
  · rw [ea] at e'
    cases e'
    exact ⟨hs _ upd_same, z2, z3⟩
  · obtain ⟨v, k1, k2⟩ := R.vars i b e
    refine ⟨v, k1, k2.mono (Evl.Ex.refl _) fun q u _ l1 l2 l3 => ⟨l1, ?_⟩⟩
    have : q ≠ a := by rintro rfl; exact l2 ea
    rw [upd_ne this]; exact l3
theorem js_stput {i k : Nat} {x : Str} {pn ps : Pos} {val : Expr} {tv : TE} {dv : DE} {j : Nat} (hK : X.K = S.K) (h3 : k = 1 ∨ k = 2 ∨ k = 3) (hv' : JE X S W val tv dv) (hN : X.N[i]? = some x := by rfl) (hv : Vis X.env.scope x := by first | exact Or.inl rfl | exact Or.inr (Or.inl rfl) | exact Or.inr (Or.inr rfl))
    (hd : (x == ("__debug__" : Str)) = false := by decide) (hcd : (x == ("__classdict__" : Str)) = false := by decide)
    (has : ∀ v, assign (.Subscript (.Name x pn) (.Constant (.int k) j p2) ps) X.env v = (do
      let ov ← holding [v] (eval (.Name x pn) X.env)
      let iv ← holding [v, ov] (eval (.Constant (.int k) j p2) X.env)
      standAt ps
      holding [v, ov, iv] (setItem ov iv v)
      release [v, ov, iv] []) := by intro _; rfl)
    (hs : swapsWithSole [.Subscript (.Name x pn) (.Constant (.int k) j p2) ps] val pos.line X.env = pure false := by rfl) (hw : swappedStores [.Subscript (.Name x pn) (.Constant (.int k) j p2) ps] val X.env = pure none := by rfl)
    (h1 : (assignEach [.Subscript (.Name x pn) (.Constant (.int k) j p2) ps] X.env).map (·.2) = [assign (.Subscript (.Name x pn) (.Constant (.int k) j p2) ps) X.env] := by rfl) :
    JS X S W (.Assign [.Subscript (.Name x pn) (.Constant (.int k) j p2) ps] val pos) (tAsg tv (gSub (tVar i) (tC (.int k)) rSetL)) (sStPut i dv) := by
  have hb : PE X (.Constant (.int k) j p2) (tC (.int k)) := pe_int
  refine ⟨hK, ps_asg hv'.pe (pg_sub (pe_var hN hv hd hcd) hb set_list has) hs hw h1, fun F sa Hs ρ σ H Z D R h c => ?_⟩
  refine hv'.sim F sa Hs ρ σ H Z.ex _ _ R h (c.ex sa σ) fun Hs1 ρ1 H1 v r e1 R1 q1 h1 => ?_
  obtain ⟨hst, n, rfl, hq⟩ := h1
  cases (show Rep S.K S.cl Hs1 v (.int n) from q1)
  obtain ⟨a, z1, z2, pc, i', j', k', cells, y1, y2, y3, y4⟩ := R1.stv hst
  refine ⟨_, z1, ?_⟩
  rcases h3 with rfl | rfl | rfl
  · exact ⟨a, _, 1, 1, rfl, rfl, y1, rfl, c.nx sa Hs1 ρ1 σ _ e1 (R1.stput z2 fun H' e' => ⟨pc, n, j', k', cells, e', y2, y3, y4⟩) hq⟩
  · exact ⟨a, _, 2, 2, rfl, rfl, y1, rfl, c.nx sa Hs1 ρ1 σ _ e1 (R1.stput z2 fun H' e' => ⟨pc, i', n, k', cells, e', y2, y3, y4⟩) hq⟩
  · exact ⟨a, _, 3, 3, rfl, rfl, y1, rfl, c.nx sa Hs1 ρ1 σ _ e1 (R1.stput z2 fun H' e' => ⟨pc, i', j', n, cells, e', y2, y3, y4⟩) hq⟩
theorem hasF_mono {P : Program} {w : World} {K : PySem.W.Frag} {mg : Str → Option Value} {base : Heap} {cl : String → Addr} {x : Str} {ps : List Str} {lvl : Nat} {f g : FSem} (h : HasF P w K mg base cl x ps lvl f) (hfg : ∀ ts x Q, g ts x Q → f ts x Q) : HasF P w K mg base cl x ps lvl g := by
  obtain ⟨a, fd, h1, h2, h3, h4⟩ := h
  refine ⟨a, fd, h1, h2, h3, h4.imp fun vs H Q E q => ?_⟩
  obtain ⟨hl, Hs, sa, ts, Qd, xd, e1, hsa, reps, hsem, kr, kx⟩ := q
  exact ⟨hl, Hs, sa, ts, Qd, xd, e1, hsa, reps, hfg _ _ _ hsem, kr, kx⟩
theorem je_draw {x : Str} {k : Nat} (h : HasF X.prog X.w X.K X.mg X.base S.cl x ["state", "many"] k fNext) (hr : Room k X.A) (tk : Takes X W) (hg : Gl X x) (ha : JE X S W a ta da) (hb' : JE X S W b tb db) (hdb : (x == ("__debug__" : Str)) = false := by decide)
    (he : starEach (a :: [b]) X.env = (false, eval a X.env) :: starEach [b] X.env := by rfl) (he2 : starEach (b :: []) X.env = (false, eval b X.env) :: starEach [] X.env := by rfl) (hpl : (backTo pos (starEach [b] X.env)).any (·.1) = false := by rfl) :
    JE X S W (.Call (.Name x p) [a, b] [] pos) (tCallS (lift S.K S.cl 2 fNext) (WE W) (tCons ta (tCons tb tNil))) (dNext da db) := by
  refine ⟨ha.k, (je_call h hr tk hg (ja_cons ha (ja_cons hb' (ja_nil ha.k) he2) he) rfl hdb he hpl).pe, fun F sa Hs ρ σ H y Q QH R hd hx kk => ?_⟩
  refine ha.sim F sa Hs ρ σ H y _ _ R hd hx fun Hs1 ρ1 H1 v1 r1 e1 R1 q1 h1 => ?_
  obtain ⟨rfl, h1⟩ := h1
  obtain ⟨a, ea, rfl⟩ := q1
  refine hb'.sim F sa Hs1 ρ1 σ H1 y _ _ R1 h1 (hx.mono e1) fun Hs2 ρ2 H2 v2 r2 e2 R2 q2 h2 => ?_
  obtain ⟨n, rfl, hn, h2⟩ := h2
  cases (show Rep S.K S.cl Hs2 v2 (.int n) from q2)
  refine ⟨rfl, Hs2, sa, [.st, iv n], fun t => ∃ r : Int, t = iv r ∧ 0 ≤ r ∧ r < n, fun _ => False, R2.ex, fun a ea => ⟨(R2.sav a ea).1, (R2.sav a ea).2.1⟩, .cons ⟨a, ea, rfl⟩ (.cons (Rep.int n) .nil), ⟨n, rfl, hn, fun r h0 h1 => ⟨r, rfl, h0, h1⟩⟩, fun Hs' H' v t R' r q => ?_, fun Hs' H' cls dd ex R' r q => q.elim⟩
  obtain ⟨z, rfl, z0, z1⟩ := q
  exact kk Hs' ρ2 H' v (iv z) ((e1.trans e2).trans R'.b0) (R2.back R') r (h2 z z0 z1)
end
end Y

/-! Sim16: the law's start, the law. -/
namespace Y
open PySem L2 Evl
open PyProof.Rows (envOfC)
theorem reps_get_ints {K : PySem.W.Frag} {cl : String → Addr} {Hs : Hp} {ns : List Int} {i : Nat} {d : D} (hi : (ns.map D.int)[i]? = some d) : ∃ y, (ns.map V.int)[i]? = some y ∧ Rep K cl Hs y d := (Reps.ints (K := K) (cl := cl) (H := Hs) ns).get hi
section
variable {X : Cx} {S : Sx} {W : WX} {tg : Expr} {pos p : Pos} {Hs : Hp}
theorem itok_scr {a : Addr} {ns : List Int} (h : ∀ H, Evl.Ex S.B0 H → SqL S.K H a (ns.map V.int)) : ItOk S (Itl S.K a) Hs (ns.map D.int) := by
  refine ⟨fun F0 F sa Hs' ρ σ H' i d e R hi => ?_, fun F0 F sa Hs' ρ σ H' i e R hi => ?_⟩
  · have hp := h H' (R.b0.trans R.ex)
    obtain ⟨y, e1, r1⟩ := reps_get_ints (K := S.K) (cl := S.cl) (Hs := Hs') hi
    refine ⟨⟨_, y, hp, e1⟩, fun v H2 yl => ?_⟩
    obtain ⟨rfl, yl⟩ := yl
    have := yl _ hp
    rw [e1] at this
    cases this
    exact ⟨Hs', Evl.Ex.refl _, R, r1⟩
  · exact ⟨_, h H' (R.b0.trans R.ex), by simp only [List.length_map] at hi ⊢; exact Nat.le_of_eq hi⟩
theorem ji_scr {a : Addr} {ns : List Int} {x : Str} (hK : X.K = S.K) (hs : S.self = some a) (h : ∀ H, Evl.Ex S.B0 H → SqL S.K H a (ns.map V.int)) (hN : X.N[(0 : Nat)]? = some x := by rfl) (hv : Vis X.env.scope x := by first | exact Or.inl rfl | exact Or.inr (Or.inl rfl) | exact Or.inr (Or.inr rfl)) (hd : (x == ("__debug__" : Str)) = false := by decide)
    (hcd : (x == ("__classdict__" : Str)) = false := by decide) : JI X S W tg (.Name x pos) (iSeq S.K (tVar 0)) (iScr ns) := by
  refine ⟨hK, by rw [← hK]; exact pi_any (pe_var hN hv hd hcd), fun F sa Hs ρ σ H x Q R Rl hd hx k => ?_⟩
  obtain ⟨h1, h2⟩ := hd
  exact ⟨_, Rl.slf a hs h1, .inl ⟨a, _, rfl, h H (Rl.b0.trans Rl.ex), k Hs ρ H _ _ (Evl.Ex.refl _) Rl (itok_scr h) h2⟩⟩
end
/-- the law's start -/
def spStart (K : PySem.W.Frag) : Sp := fun vs H Q _ => ∃ (a : Addr) (ns : List Int), vs = [.ref a] ∧ SqL K H a (ns.map V.int) ∧ ns.length ≤ 63 ∧
  ∀ (H' : Hp) (p pc : Addr) (cells : List Int), cells ≠ [] → cells.length ≤ 63 → p ≠ pc → H' p = some (.lst [.ref pc, .int 0, .int 0, .int 0]) → H' pc = some (.lst (cells.map V.int)) → Q (.ref p) H'
def HasStart (P : Program) (w : World) (K : PySem.W.Frag) (mg : Str → Option Value) (base : Heap) (x : Str) (lvl : Nat) : Prop :=
  ∃ (f : Addr) (fd : FuncData), mg x = some (.ref f) ∧ PySem.W.keepIn K (.ref f) = true ∧ Binds K fd ["script"] [] ∧ FnOk P w K mg base (L2.CX P w) lvl f fd ["script"] (spStart K)
def startQ (Q : T → Prop) : Prop := ∀ cells : List Int, cells ≠ [] → cells.length ≤ 63 → Q (.own (.lst [.lst (cells.map D.int), .int 0, .int 0, .int 0]))
def SScr (K : PySem.W.Frag) (cl : String → Addr) (H : Hp) (a : Addr) : Sx := { K := K, cl := cl, B0 := fun b => if b = a then H a else none, sa0 := none, self := some a }
theorem vals_ints_inv {K : PySem.W.Frag} {cl : String → Addr} {Hs : Hp} : ∀ {ns : List Int} {vs : List V}, Reps K cl Hs vs (ns.map D.int) → vs = ns.map V.int
  | [], _, .nil => rfl
  | _ :: _, _, .cons (.int _) r => by rw [vals_ints_inv r]; rfl
theorem hasStart_of {P : Program} {w : World} {K : PySem.W.Frag} {mg : Str → Option Value} {base : Heap} {cl : String → Addr} {x x' qual : Str} {st : Stmt} {f : Addr} {fd : FuncData} {N : List Str} {k : Nat} {d : List Int → DS} (F : Fun K x qual st f fd) (hm : mg x' = some (.ref f)) (bd : Binds K fd ["script"] []) (SC : FnScope N ["script"] (defScope st))
    (hJ : ∀ (cdv : Value) (A : Around) (outer : List PySem.Env) (s : Shared) (H : Hp) (E : XK) (a : Addr) (ns : List Int), Room k (A.deeper (envOfC qual (defScope st) s.heap.objs.size f cdv)) → (∀ H2, Evl.Ex (SScr K cl H a).B0 H2 → SqL K H2 a (ns.map V.int)) →
      ∃ t, JSs (cxOf (L2.CX P w) P w K mg base N qual (defScope st) f cdv A outer s H E) (SScr K cl H a) (fun c d _ H => E c d H) (defBody st) t (d ns))
    (hd : ∀ (ns : List Int) (Q : T → Prop), ns.length ≤ 63 → startQ Q → d ns { nx := fun _ => Q (.d .non), rt := Q, bk := fun _ => False, ct := fun _ => False, ex := fun _ _ => False } (none :: List.replicate (N.length - 1) none)) :
    HasStart P w K mg base x' (k + 1) := by
  refine ⟨f, fd, hm, F.kp, bd, F.okX SC (fun vs H Q E h => by obtain ⟨a, ns, rfl, _⟩ := h; rfl) fun cdv A outer s H vs Q E hr h => ?_⟩
  obtain ⟨a, ns, rfl, hS, hl, kq⟩ := h
  have hS2 : ∀ H2, Evl.Ex (SScr K cl H a).B0 H2 → SqL K H2 a (ns.map V.int) := fun H2 e => by
    rcases hS with (hS | ⟨o, hS⟩) | hS
    · exact .inl (.inl (e a _ (by show (if a = a then H a else none) = _; rw [if_pos rfl]; exact hS)))
    · exact .inl (.inr ⟨o, e a _ (by show (if a = a then H a else none) = _; rw [if_pos rfl]; exact hS)⟩)
    · exact .inr hS
  obtain ⟨t, J⟩ := hJ cdv A outer s H E a ns hr hS2
  have hN : 1 ≤ N.length := by
    have h1 := SC.pre
    cases N with
    | nil => cases h1
    | cons y ys => simp
  have hQ : startQ fun t => ∃ cells : List Int, cells ≠ [] ∧ cells.length ≤ 63 ∧ t = .own (.lst [.lst (cells.map D.int), .int 0, .int 0, .int 0]) := fun cells h1 h2 => ⟨cells, h1, h2, rfl⟩
  refine ⟨t, J.ps, J.sim (fun _ => none) none (SScr K cl H a).B0 (none :: List.replicate (N.length - 1) none) (L2.start N [.ref a]) H _ _ ⟨Evl.Ex.refl _, fun b u e => ?_, fun b o e => (by cases e), ?_, fun a e => e, fun a e => (by cases e), fun i b e => ?_, fun i j p m1 m2 _ e _ => ?_, fun p e hl => ?_, fun b o e => (by cases e)⟩ (hd ns _ hl hQ) ?_⟩
  · have e : (if b = a then H a else none) = some u := e
    split at e
    · rename_i hb; rw [hb]; exact e
    · cases e
  · unfold L2.start
    simp
  · cases i with
    | zero => simp at e
    | succ i => simp [List.getElem?_replicate] at e
  · cases i with
    | zero => simp at e
    | succ i => simp [List.getElem?_replicate] at e
  · have e : some a = some p := e
    cases e
    rfl
  · refine ⟨fun _ _ _ _ _ _ _ q => (by obtain ⟨_, _, _, q⟩ := q; cases q), fun _ _ _ _ _ _ _ q => q.elim, fun _ _ _ _ _ _ _ q => q.elim, fun sa' Hs' H' v r _ R' rr q => ?_, fun sa' σ' e ρ' Hs' H' cls dd _ R' rx q => q.elim⟩
    obtain ⟨cells, c1, c2, rfl⟩ := q
    obtain ⟨p, o, rfl, t⟩ := rr
    have hr := t.r
    cases o with
    | lst xs =>
      have hr : Reps K cl Hs' xs [.lst (cells.map D.int), .int 0, .int 0, .int 0] := hr
      match xs, hr with
      | [_, _, _, _], .cons (.lst hp hps) (.cons (.int _) (.cons (.int _) (.cons (.int _) .nil))) =>
        rw [vals_ints_inv hps] at hp
        exact kq H' p _ cells c1 c2 (by rintro rfl; rw [t.hs] at hp; cases hp) t.h (R'.ex _ _ hp)
    | _ => exact hr.elim
section
variable {X : Cx} {W : WX}
theorem ps_start {x y z : Str} {k : Nat} {p1 p2 p3 p4 p5 : Pos} (h : HasStart X.prog X.w X.K X.mg X.base x k) (hr : Room k X.A) (tk : Takes X W) (hN : X.N.Nodup) (hg : Gl X x) (hi : X.N[(1 : Nat)]? = some y := by rfl) (hx : Loc X.env.scope y := by first | exact Or.inl rfl | exact Or.inr rfl)
    (hz : X.N[(0 : Nat)]? = some z := by rfl) (hv : Vis X.env.scope z := by first | exact Or.inl rfl | exact Or.inr (Or.inl rfl) | exact Or.inr (Or.inr rfl)) (hd : (z == ("__debug__" : Str)) = false := by decide) (hcd : (z == ("__classdict__" : Str)) = false := by decide) (hdb : (x == ("__debug__" : Str)) = false := by decide)
    (he : starEach (.Name z p3 :: []) X.env = (false, eval (.Name z p3) X.env) :: starEach [] X.env := by rfl) (hpl : (backTo p4 (starEach [] X.env)).any (·.1) = false := by rfl)
    (hs : swapsWith (.Call (.Name x p2) [.Name z p3] [] p4) (some (.Name y p1)) p5.line X.env = pure false := by rfl) (hf : X.fn y = true ∨ X.env.scope.names.lookup y = some .local := by first | exact .inl rfl | exact .inr rfl) :
    PS X (.Assign [.Name y p1] (.Call (.Name x p2) [.Name z p3] [] p4) p5) (tAsg (tCallS (spStart X.K) (WE W) (tCons (tVar 0) tNil)) (L2.gName 1)) := by
  obtain ⟨f, fd, hm, hk, hb, hf'⟩ := h
  exact ps_set hN hi hx (pe_callS hf' hr hg hm hk hb (fun σ => passAt tk σ) (pa_cons (pe_var hz hv hd hcd) pa_nil he) hdb he hpl) hs hf
end
def spLaw (K : PySem.W.Frag) : Sp := fun vs H Q _ => ∃ (a : Addr) (ns : List Int), vs = [.ref a] ∧ SqL K H a (ns.map V.int) ∧ ns.length ≤ 63 ∧ ∀ H', Q (.bl true) H'
def SLaw (K : PySem.W.Frag) (cl : String → Addr) : Sx := { K := K, cl := cl, B0 := fun _ => none, sa0 := none }
theorem law_fn {P : Program} {w : World} {K : PySem.W.Frag} {mg : Str → Option Value} {base : Heap} {cl : String → Addr} {x qual : Str} {st s0 : Stmt} {rest : List Stmt} {f : Addr} {fd : FuncData} {N : List Str} {k : Nat} {d : DS} (F : Fun K x qual st f fd) (SC : FnScope N ["script"] (defScope st)) (hbd : defBody st = s0 :: rest)
    (hJ : ∀ (cdv : Value) (A : Around) (outer : List PySem.Env) (s : Shared) (H : Hp) (E : XK), Room k (A.deeper (envOfC qual (defScope st) s.heap.objs.size f cdv)) →
      PS (cxOf (L2.CX P w) P w K mg base N qual (defScope st) f cdv A outer s H E) s0 (tAsg (tCallS (spStart K) (WE fun c d _ H => E c d H) (tCons (tVar 0) tNil)) (L2.gName 1)) ∧
      ∃ t, JSs (cxOf (L2.CX P w) P w K mg base N qual (defScope st) f cdv A outer s H E) (SLaw K cl) (fun c d _ H => E c d H) rest t d)
    {n : Nat} (hn : N.length = n + 2)
    (hd : d { nx := fun _ => False, rt := fun t => t = .d (.bl true), bk := fun _ => False, ct := fun _ => False, ex := fun _ _ => False } (none :: some .st :: List.replicate n none)) :
    FnOk P w K mg base (L2.CX P w) (k + 1) f fd ["script"] (spLaw K) := by
  refine F.okX SC (fun vs H Q E h => by obtain ⟨a, ns, rfl, _⟩ := h; rfl) fun cdv A outer s H vs Q E hr h => ?_
  obtain ⟨a, ns, rfl, hS, hl, kq⟩ := h
  obtain ⟨h0, t, J⟩ := hJ cdv A outer s H E hr
  refine ⟨_, by rw [hbd]; exact pss_cons h0 J.ps, ?_⟩
  have hst : L2.start N [.ref a] = some (.ref a) :: none :: List.replicate n none := by
    unfold L2.start
    rw [hn]
    simp [List.replicate_succ]
  rw [hst]
  refine ⟨_, rfl, a, ns, rfl, hS, hl, fun H' p pc cells c1 c2 hne hp hpc => ?_⟩
  refine J.sim (fun _ => none) (some p) (fun b => if b = pc then H' pc else none) (none :: some .st :: List.replicate n none) _ H' _ _ ⟨fun b o e => (by cases e), fun b u e => ?_, fun b o e => (by cases e), ?_, fun b e => (by cases e), fun b e => ?_, fun i b e => ?_, fun i j q m1 m2 _ e _ => ?_, fun q e hl => (by cases e), fun b o e => (by cases e)⟩ hd ?_
  · have e : (if b = pc then H' pc else none) = some u := e
    split at e
    · rename_i hb; rw [hb]; exact e
    · cases e
  · simp
  · cases e
    refine ⟨⟨pc, 0, 0, 0, cells, hp, ?_, c1, c2⟩, ?_, rfl⟩
    · show (if pc = pc then H' pc else none) = _
      rw [if_pos rfl]; exact hpc
    · show (if p = pc then H' pc else none) = _
      rw [if_neg hne]
  · match i, e with
    | 0, e => simp at e
    | 1, e =>
      cases e
      exact ⟨.ref p, rfl, p, rfl, rfl⟩
    | i + 2, e => simp [List.getElem?_replicate] at e
  · match i, e with
    | 0, e => simp at e
    | 1, e => simp at e
    | i + 2, e => simp [List.getElem?_replicate] at e
  · refine ⟨fun _ _ _ _ _ _ _ q => q.elim, fun _ _ _ _ _ _ _ q => q.elim, fun _ _ _ _ _ _ _ q => q.elim, fun sa' Hs' H' v r _ R' rr q => ?_, fun sa' σ' e ρ' Hs' H' cls dd _ R' rx q => q.elim⟩
    cases q
    cases (show Rep K cl Hs' v (.bl true) from rr)
    exact kq H'
end Y

/-! Sim17: lists of a list, all of them one frame's own. -/
namespace Y
open PySem L2 Evl
theorem lone_get {ρ : En} {i j : Nat} (h : lone ρ i = true) (hj : j ≠ i) (ys : List (List D)) : ρ[j]? ≠ some (some (.rows ys)) := by
  intro e
  have hl := (List.getElem?_eq_some_iff.mp e).1
  have := List.all_eq_true.mp h j (List.mem_range.mpr hl)
  rw [e] at this
  simp [hj] at this
theorem noRows_get {ρ : En} (h : noRows ρ = true) (j : Nat) (ys : List (List D)) : ρ[j]? ≠ some (some (.rows ys)) := by
  intro e
  have := List.all_eq_true.mp h _ (List.mem_of_getElem? e)
  cases this
section
variable {S : Sx} {sa : Option Addr} {F F' Hs H H' : Hp} {ρ : En} {σ : St} {v : V} {p q : Addr} {qs : List Addr} {xs : List (List D)}
theorem RelS.rowsV (R : RelS S F sa Hs ρ σ H) {i : Nat} (e : ρ[i]? = some (some (.rows xs))) : ∃ p qs, σ[i]? = some (some (.ref p)) ∧ F p = some (.lst (qs.map V.ref)) ∧ S.F0 p = none ∧ (p :: qs).Nodup ∧ RowsR S F Hs qs xs := by
  obtain ⟨v, h1, p, qs, rfl, h2, h3, h4, h5⟩ := R.vars i _ e
  exact ⟨p, qs, h1, h2, h3, h4, h5⟩
theorem RowsR.len : ∀ {qs : List Addr} {xs : List (List D)}, RowsR S F Hs qs xs → qs.length = xs.length
  | [], [], _ => rfl
  | _ :: _, _ :: _, ⟨_, _, h⟩ => by simp [RowsR.len h]
  | [], _ :: _, h => h.elim
  | _ :: _, [], h => h.elim
theorem RowsR.get : ∀ {qs : List Addr} {xs : List (List D)} {j : Nat} {row : List D}, RowsR S F Hs qs xs → xs[j]? = some row → ∃ q vs, qs[j]? = some q ∧ F q = some (.lst vs) ∧ Reps S.K S.cl Hs vs row ∧ S.F0 q = none
  | q :: _, _ :: _, 0, _, ⟨⟨vs, h1, h2⟩, h0, _⟩, e => by cases e; exact ⟨q, vs, rfl, h1, h2, h0⟩
  | _ :: _, _ :: _, j + 1, _, ⟨_, _, h⟩, e => by
    obtain ⟨q, vs, h1, h2⟩ := RowsR.get (j := j) h (by simpa using e)
    exact ⟨q, vs, by simpa using h1, h2⟩
  | [], _ :: _, _, _, h, _ => h.elim
  | _ :: _, [], _, _, h, _ => h.elim
  | [], [], _, _, _, e => by simp at e
theorem RowsR.some : ∀ {qs : List Addr} {xs : List (List D)}, RowsR S F Hs qs xs → ∀ q ∈ qs, (∃ vs, F q = Option.some (.lst vs)) ∧ S.F0 q = none
  | [], [], _, _, h => by cases h
  | q :: _, _ :: _, ⟨⟨vs, h1, h2⟩, h0, h3⟩, a, ha => by
    rcases List.mem_cons.mp ha with rfl | ha
    · exact ⟨⟨vs, h1⟩, h0⟩
    · exact RowsR.some h3 a ha
  | [], _ :: _, h, _, _ => h.elim
  | _ :: _, [], h, _, _ => h.elim
/-- elsewhere nothing is changed -/
theorem RowsR.keep (hF : ∀ q ∈ qs, F' q = F q) : ∀ {xs : List (List D)}, RowsR S F Hs qs xs → RowsR S F' Hs qs xs := by
  induction qs with
  | nil => intro xs h; cases xs <;> first | trivial | exact h.elim
  | cons q qs ih =>
    intro xs h
    cases xs with
    | nil => exact h.elim
    | cons x xs =>
      obtain ⟨⟨vs, h1, h2⟩, h0, h3⟩ := h
      exact ⟨⟨vs, by rw [hF q (by simp)]; exact h1, h2⟩, h0, ih (fun a ha => hF a (by simp [ha])) h3⟩
theorem RowsR.set {vs : List V} {row : List D} (h2 : Reps S.K S.cl Hs vs row) : ∀ {qs : List Addr} {xs : List (List D)} {j : Nat}, qs.Nodup → qs[j]? = Option.some q → RowsR S F Hs qs xs → RowsR S (upd F q (.lst vs)) Hs qs (xs.set j row)
  | a :: qs, x :: xs, 0, nd, e, ⟨h1, h0, h3⟩ => by
    cases e
    have hn := (List.nodup_cons.mp nd).1
    exact ⟨⟨vs, upd_same, h2⟩, h0, RowsR.keep (fun b hb => upd_ne (by rintro rfl; exact hn hb)) h3⟩
  | a :: qs, x :: xs, j + 1, nd, e, ⟨⟨ws, h1, h4⟩, h0, h3⟩ => by
    have e : qs[j]? = Option.some q := by simpa using e
    have hn := (List.nodup_cons.mp nd).1
    have na : a ≠ q := by rintro rfl; exact hn (List.mem_of_getElem? e)
    exact ⟨⟨ws, by rw [upd_ne na]; exact h1, h4⟩, h0, RowsR.set h2 (List.nodup_cons.mp nd).2 e h3⟩
  | [], _, _, _, e, _ => by simp at e
  | _ :: _, [], _, _, _, h => h.elim
theorem RowsR.push {vs : List V} {row : List D} {l : Addr} (hl : F l = Option.some (.lst vs)) (h0 : S.F0 l = none) (h2 : Reps S.K S.cl Hs vs row) : ∀ {qs : List Addr} {xs : List (List D)}, RowsR S F Hs qs xs → RowsR S F Hs (qs ++ [l]) (xs ++ [row])
  | [], [], _ => ⟨⟨vs, hl, h2⟩, h0, trivial⟩
  | _ :: _, _ :: _, ⟨h1, h4, h3⟩ => ⟨h1, h4, RowsR.push hl h0 h2 h3⟩
  | [], _ :: _, h => h.elim
  | _ :: _, [], h => h.elim
/-- the frame changes at L, no name holds lists there -/
theorem RelS.regrow (R : RelS S F sa Hs ρ σ H) {L : List Addr} (hout : ∀ b, b ∉ L → F' b = F b ∧ H' b = H b)
    (hin : ∀ b ∈ L, Hs b = none ∧ sa ≠ some b ∧ S.F0 b = none ∧ (∀ (j : Nat) (m : MO), ρ[j]? = some (some (.own m)) → σ[j]? ≠ some (some (.ref b))) ∧ ∃ o, F' b = some o ∧ H' b = some o)
    (hl : ∀ (j : Nat) (ys : List (List D)), ρ[j]? ≠ some (some (.rows ys))) : RelS S F' sa Hs ρ σ H' := by
  have no : ∀ {b : Addr}, (Hs b ≠ none ∨ sa = some b ∨ S.F0 b ≠ none) → b ∉ L := fun {b} h hm => by
    obtain ⟨h1, h2, h3, _⟩ := hin b hm
    rcases h with h | h | h
    · exact h h1
    · exact h2 h
    · exact h h3
  refine ⟨R.b0, fun b u e => ?_, fun b o e => ?_, R.len, R.sal, fun a ea => ?_, fun i b e => ?_, R.apart, R.slf, fun b o e => ?_⟩
  · rw [(hout b (no (.inl (by rw [e]; simp)))).2]; exact R.ex b u e
  · by_cases hb : b ∈ L
    · obtain ⟨h1, _, _, _, o', h4, h5⟩ := hin b hb
      rw [h4] at e
      cases e
      exact ⟨h1, h5⟩
    · rw [(hout b hb).1] at e
      rw [(hout b hb).2]
      exact R.fr b o e
  · obtain ⟨h1, h2, h3⟩ := R.sav a ea
    have hn := hout a (no (.inr (.inl ea)))
    exact ⟨h1.mono (Evl.Ex.refl _) fun o e => by rw [hn.2]; exact e, h2, by rw [hn.1]; exact h3⟩
  · obtain ⟨v, h1, h2⟩ := R.vars i b e
    refine ⟨v, h1, ?_⟩
    cases b with
    | d x => exact h2
    | own m =>
      obtain ⟨q, o, rfl, k1, k2, k3, k4, k5⟩ := h2
      have nq : q ∉ L := fun hm => (hin q hm).2.2.2.1 i m e h1
      exact ⟨q, o, rfl, k1, by rw [(hout q nq).1]; exact k2, k3, by rw [(hout q nq).2]; exact k4, k5⟩
    | st => exact h2
    | exn x => exact h2
    | rows ys => exact absurd e (hl i ys)
  · have hn := hout b (no (.inr (.inr (by rw [e]; simp))))
    rw [hn.1]
    exact R.f0 b o e
theorem RelS.forget (R : RelS S F sa Hs ρ σ H) (i : Nat) {σ' : St} (hs : ∀ j, j ≠ i → σ'[j]? = σ[j]?) (hlen : σ'.length = σ.length) (hz : S.self = none ∨ i ≠ 0) : RelS S F sa Hs (ρ.set i none) σ' H := by
  refine ⟨R.b0, R.ex, R.fr, by rw [List.length_set, hlen]; exact R.len, R.sal, R.sav, fun j c e => ?_, fun j j' q m m' hj e e' z z' => ?_, fun q eq hl => ?_, R.f0⟩
  · rcases set_get? e with ⟨_, h⟩ | ⟨ne, h⟩
    · cases h
    · obtain ⟨w, h1, h2⟩ := R.vars j c h
      exact ⟨w, by rw [hs j (Ne.symm ne)]; exact h1, h2⟩
  · rcases set_get? e with ⟨_, h⟩ | ⟨ne, h⟩
    · cases h
    · rcases set_get? e' with ⟨_, h'⟩ | ⟨ne', h'⟩
      · cases h'
      · rw [hs j (Ne.symm ne)] at z
        rw [hs j' (Ne.symm ne')] at z'
        exact R.apart j j' q m m' hj h h' z z'
  · rcases hz with hz | hz
    · rw [hz] at eq; cases eq
    · rw [hs 0 (Ne.symm hz)]
      exact R.slf q eq (by simpa using hl)
theorem forget_lone {ρ : En} {i : Nat} (h : lone ρ i = true) (j : Nat) (ys : List (List D)) : (ρ.set i none)[j]? ≠ some (some (.rows ys)) := by
  intro e
  rcases set_get? e with ⟨_, z⟩ | ⟨ne, z⟩
  · cases z
  · exact lone_get h (Ne.symm ne) ys z
theorem set_same {α : Type} {l : List α} {i : Nat} {x : α} (h : l[i]? = some x) : l.set i x = l := by
  apply List.ext_getElem?
  intro j
  by_cases e : i = j
  · subst e
    rw [List.getElem?_set_self (List.getElem?_eq_some_iff.mp h).1, h]
  · rw [List.getElem?_set_ne e]
/-- the lists of the name i are changed at L -/
theorem RelS.rowsSet (R : RelS S F sa Hs ρ σ H) {i : Nat} {v : V} {L : List Addr} (hl : lone ρ i = true) (hz : S.self = none ∨ i ≠ 0) (hout : ∀ b, b ∉ L → F' b = F b ∧ H' b = H b)
    (hin : ∀ b ∈ L, Hs b = none ∧ sa ≠ some b ∧ S.F0 b = none ∧ (∀ (j : Nat) (m : MO), ρ[j]? = some (some (.own m)) → σ[j]? ≠ some (some (.ref b))) ∧ ∃ o, F' b = some o ∧ H' b = some o)
    (hr : RepRows S F' Hs v xs) : RelS S F' sa Hs (ρ.set i (some (.rows xs))) (σ.set i (some v)) H' := by
  have R1 := R.forget i (fun _ _ => rfl) rfl hz
  have R2 := R1.regrow hout (fun b hb => by
    obtain ⟨h1, h2, h3, h4, h5⟩ := hin b hb
    refine ⟨h1, h2, h3, fun j m e => ?_, h5⟩
    rcases set_get? e with ⟨_, z⟩ | ⟨ne, z⟩
    · cases z
    · exact h4 j m z) (forget_lone hl)
  have R3 := R2.put (i := i) (b := .rows xs) hr (fun m j m' e => by cases e) hz
  rw [List.set_set] at R3
  exact R3
/-- what the name holds, it alone: the frame knows it -/
theorem foot_in {i : Nat} (R : RelS S F sa Hs ρ σ H) {b : Addr} (hb : ∃ o, F b = some o) : Hs b = none ∧ sa ≠ some b ∧ (∀ (j : Nat) (m : MO), ρ[j]? = some (some (.own m)) → σ[j]? ≠ some (some (.ref b))) := by
  obtain ⟨o, hb⟩ := hb
  refine ⟨(R.fr b o hb).1, fun e => ?_, fun j m e z => ?_⟩
  · rw [(R.sav b e).2.2] at hb; cases hb
  · obtain ⟨v, h1, q, u, rfl, _, k2, _⟩ := R.vars j _ e
    rw [z] at h1
    cases h1
    rw [hb] at k2; cases k2
end
end Y

/-! Sim18: rules for lists of a list. -/
namespace Y
open PySem L2 Evl
section
variable {X : Cx} {S : Sx} {W : WX} {e a b : Expr} {es : List Expr} {t ta tb te : TE} {d da db de : DE} {pos p p2 : Pos} {sa : Option Addr} {F Hs H : Hp} {ρ : En} {σ : St}
theorem je_rowsLen (hK : X.K = S.K) (i : Nat) {x y : Str} (hg : Gl X x) (hm : X.mg x = none) (hv2 : bootBuiltins x = some (.builtin "len")) (hN : X.N[i]? = some y := by rfl) (hv : Vis X.env.scope y := by first | exact Or.inl rfl | exact Or.inr (Or.inl rfl) | exact Or.inr (Or.inr rfl)) (hd : (y == ("__debug__" : Str)) = false := by decide)
    (hcd : (y == ("__classdict__" : Str)) = false := by decide) (hn : x ≠ "__name__" := by decide) (hdb : (x == ("__debug__" : Str)) = false := by decide)
    (he : starEach (.Name y p2 :: []) X.env = (false, eval (.Name y p2) X.env) :: starEach [] X.env := by rfl) (hpl : (backTo pos (starEach [] X.env)).any (·.1) = false := by rfl) :
    JE X S W (.Call (.Name x p) [.Name y p2] [] pos) (tCB (rLen S.K) (tCons (tVar i) tNil)) (dRowsLen i) := by
  refine ⟨hK, pe_callB (call_lenAny hK) hg hm hv2 (pa_cons (pe_var hN hv hd hcd) pa_nil he) hn hdb he hpl, fun F sa Hs ρ σ H x Q QH R h hx k => ?_⟩
  unfold dRowsLen at h
  split at h
  · rename_i xs e
    obtain ⟨p, qs, h1, h2, h3, h4, h5⟩ := R.rowsV e
    refine ⟨_, h1, .inl ⟨p, _, rfl, .inl (.of (R.fr p _ h2).2), ?_⟩⟩
    have hl : (qs.map V.ref).length = xs.length := by rw [List.length_map]; exact h5.len
    rw [hl]
    exact k Hs ρ H _ (iv xs.length) (Evl.Ex.refl _) R (Rep.int _) h
  · exact h.elim
theorem rix_list {p : Addr} {vs : List V} {k : Int} {j : Nat} {w : V} {QH : VK} (hp : H p = some (.lst vs)) (hj : ixOf vs.length k = some j) (hw : vs[j]? = some w) (q : QH w H) : rIx S.K (.ref p) (.int k) H QH := by
  refine .inl ⟨p, vs, k, w, rfl, rfl, .of hp, ?_, q⟩
  unfold atI
  rw [← ixOf_eq, hj]
  exact hw
theorem je_rowsIx (hK : X.K = S.K) (i : Nat) {y : Str} (ha : JE X S W a ta da) (hb : JE X S W b tb db) (hN : X.N[i]? = some y := by rfl) (hv : Vis X.env.scope y := by first | exact Or.inl rfl | exact Or.inr (Or.inl rfl) | exact Or.inr (Or.inr rfl)) (hd : (y == ("__debug__" : Str)) = false := by decide)
    (hcd : (y == ("__classdict__" : Str)) = false := by decide) (hs : PlainIx a := by exact fun _ _ => rfl) (hs2 : PlainIx b := by exact fun _ _ => rfl) :
    JE X S W (.Subscript (.Subscript (.Name y p2) a p) b pos) (tOp (rIx S.K) (tOp (rIx S.K) (tVar i) ta) tb) (dRowsIx i da db) := by
  refine ⟨hK, by rw [← hK]; exact pe_ix ix_seq (pe_ix ix_seq (pe_var hN hv hd hcd) ha.pe hs) hb.pe hs2, fun F sa Hs ρ σ H x Q QH R h hx k => ?_⟩
  obtain ⟨⟨xs0, e0⟩, h⟩ := h
  obtain ⟨p0, qs0, h1, _⟩ := R.rowsV e0
  refine ⟨_, h1, ?_⟩
  refine ha.sim F sa Hs ρ σ H x _ _ R h hx fun Hs1 ρ1 H1 v1 r1 e1 R1 q1 g1 => ?_
  split at g1
  · rename_i xs ex
    obtain ⟨m, j, row, rfl, hj, hrow, g2⟩ := g1
    cases (show Rep S.K S.cl Hs1 v1 (.int m) from q1)
    obtain ⟨p, qs, k1, k2, k3, k4, k5⟩ := R1.rowsV ex
    rw [h1] at k1
    cases k1
    obtain ⟨q, vs, l1, l2, l3, l4⟩ := k5.get hrow
    refine rix_list (R1.fr _ _ k2).2 (by rw [List.length_map, k5.len]; exact hj) (by rw [List.getElem?_map, l1]; rfl) ?_
    refine hb.sim F sa Hs1 ρ1 σ H1 x _ _ R1 g2 (hx.mono e1) fun Hs2 ρ2 H2 v2 r2 e2 R2 q2 g3 => ?_
    obtain ⟨n, c, w, rfl, hc, hw, g4⟩ := g3
    cases (show Rep S.K S.cl Hs2 v2 (.int n) from q2)
    obtain ⟨u, u1, u2⟩ := (l3.mono e2).get hw
    exact rix_list (R2.fr _ _ l2).2 (by rw [l3.length]; exact hc) u1 (k Hs2 ρ2 H2 u (.d w) (e1.trans e2) R2 u2 g4)
  · exact g1.elim
theorem je_rowsCopy (hK : X.K = S.K) (i : Nat) {x y : Str} {p3 : Pos} (hg : Gl X x) (hm : X.mg x = none) (hv2 : bootBuiltins x = some (.type "list")) (ha : JE X S W a ta da) (hN : X.N[i]? = some y := by rfl) (hv : Vis X.env.scope y := by first | exact Or.inl rfl | exact Or.inr (Or.inl rfl) | exact Or.inr (Or.inr rfl)) (hd : (y == ("__debug__" : Str)) = false := by decide)
    (hcd : (y == ("__classdict__" : Str)) = false := by decide) (hs : PlainIx a := by exact fun _ _ => rfl) (hn : x ≠ "__name__" := by decide) (hdb : (x == ("__debug__" : Str)) = false := by decide)
    (he : starEach (.Subscript (.Name y p2) a p3 :: []) X.env = (false, eval (.Subscript (.Name y p2) a p3) X.env) :: starEach [] X.env := by rfl) (hpl : (backTo pos (starEach [] X.env)).any (·.1) = false := by rfl) :
    JE X S W (.Call (.Name x p) [.Subscript (.Name y p2) a p3] [] pos) (tCB (rListOf S.K) (tCons (tOp (rIx S.K) (tVar i) ta) tNil)) (dRowsCopy i da) := by
  refine ⟨hK, pe_callTy (call_listAny hK) hg hm hv2 (pa_cons (by rw [← hK]; exact pe_ix ix_seq (pe_var hN hv hd hcd) ha.pe hs) pa_nil he) hn hdb he hpl, fun F sa Hs ρ σ H x Q QH R h hx k => ?_⟩
  obtain ⟨⟨xs0, e0⟩, h⟩ := h
  obtain ⟨p0, qs0, h1, _⟩ := R.rowsV e0
  refine ⟨_, h1, ?_⟩
  refine ha.sim F sa Hs ρ σ H x _ _ R h hx fun Hs1 ρ1 H1 v1 r1 e1 R1 q1 g1 => ?_
  split at g1
  · rename_i xs ex
    obtain ⟨m, j, row, rfl, hj, hrow, g2⟩ := g1
    cases (show Rep S.K S.cl Hs1 v1 (.int m) from q1)
    obtain ⟨p, qs, k1, k2, k3, k4, k5⟩ := R1.rowsV ex
    rw [h1] at k1
    cases k1
    obtain ⟨q, vs, l1, l2, l3, l4⟩ := k5.get hrow
    refine rix_list (R1.fr _ _ k2).2 (by rw [List.length_map, k5.len]; exact hj) (by rw [List.getElem?_map, l1]; rfl) ?_
    refine ⟨q, vs, rfl, .inl (.of (R1.fr _ _ l2).2), fun l hl => ?_⟩
    obtain ⟨R2, t2⟩ := R1.newOwn (o := .lst vs) (m := .lst row) hl l3
    exact k Hs1 ρ1 _ _ (.own (.lst row)) e1 R2 ⟨l, _, rfl, t2⟩ g2
  · exact g1.elim
theorem js_rowsPut {i : Nat} {y : Str} {pn p1 ps : Pos} {val : Expr} {tv : TE} {dv : DE} (hK : X.K = S.K) (ha : JE X S W a ta da) (hb : JE X S W b tb db) (hv' : JE X S W val tv dv) (hN : X.N[i]? = some y := by rfl) (hv : Vis X.env.scope y := by first | exact Or.inl rfl | exact Or.inr (Or.inl rfl) | exact Or.inr (Or.inr rfl))
    (hd : (y == ("__debug__" : Str)) = false := by decide) (hcd : (y == ("__classdict__" : Str)) = false := by decide) (hix : PlainIx a := by exact fun _ _ => rfl) (hz : S.self = none ∨ i ≠ 0 := by first | exact .inl rfl | exact .inr (by decide))
    (has : ∀ v, assign (.Subscript (.Subscript (.Name y pn) a p1) b ps) X.env v = (do
      let ov ← holding [v] (eval (.Subscript (.Name y pn) a p1) X.env)
      let iv ← holding [v, ov] (eval b X.env)
      standAt ps
      holding [v, ov, iv] (setItem ov iv v)
      release [v, ov, iv] []) := by intro _; rfl)
    (hs : swapsWithSole [.Subscript (.Subscript (.Name y pn) a p1) b ps] val pos.line X.env = pure false := by rfl) (hw : swappedStores [.Subscript (.Subscript (.Name y pn) a p1) b ps] val X.env = pure none := by rfl)
    (h1 : (assignEach [.Subscript (.Subscript (.Name y pn) a p1) b ps] X.env).map (·.2) = [assign (.Subscript (.Subscript (.Name y pn) a p1) b ps) X.env] := by rfl) :
    JS X S W (.Assign [.Subscript (.Subscript (.Name y pn) a p1) b ps] val pos) (tAsg tv (gSub (tOp (rIx S.K) (tVar i) ta) tb rSetL)) (sRowsPut i da db dv) := by
  refine ⟨hK, ps_asg hv'.pe (pg_sub (by rw [← hK]; exact pe_ix ix_seq (pe_var hN hv hd hcd) ha.pe hix) hb.pe set_list has) hs hw h1, fun F sa Hs ρ σ H Z D R h c => ?_⟩
  refine hv'.sim F sa Hs ρ σ H Z.ex _ _ R h (c.ex sa σ) fun Hs0 ρ0 H0 v0 r0 e0 R0 q0 h0 => ?_
  obtain ⟨Hs1, ρ1, yv, e1, R1, r1, ⟨xs0, ex0⟩, h1⟩ := esc_of R0 q0 h0
  obtain ⟨p0, qs0, g1, _⟩ := R1.rowsV ex0
  refine ⟨_, g1, ?_⟩
  refine ha.sim F sa Hs1 ρ1 σ H0 Z.ex _ _ R1 h1 ((c.ex sa σ).mono (e0.trans e1)) fun Hs2 ρ2 H2 v2 r2 e2 R2 q2 h2 => ?_
  split at h2
  · rename_i xs ex
    obtain ⟨m, j, row, rfl, hj, hrow, h2⟩ := h2
    cases (show Rep S.K S.cl Hs2 v2 (.int m) from q2)
    obtain ⟨p, qs, k1, k2, k3, k4, k5⟩ := R2.rowsV ex
    rw [g1] at k1
    cases k1
    obtain ⟨q, vs, l1, l2, l3, l4⟩ := k5.get hrow
    refine rix_list (R2.fr _ _ k2).2 (by rw [List.length_map, k5.len]; exact hj) (by rw [List.getElem?_map, l1]; rfl) ?_
    refine hb.sim F sa Hs2 ρ2 σ H2 Z.ex _ _ R2 h2 ((c.ex sa σ).mono ((e0.trans e1).trans e2)) fun Hs3 ρ3 H3 v3 r3 e3 R3 q3 h3 => ?_
    obtain ⟨ex3, lo, n, kk, rfl, hk, h3⟩ := h3
    cases (show Rep S.K S.cl Hs3 v3 (.int n) from q3)
    have r3 : Rep S.K S.cl Hs3 v0 yv := r1.mono (e2.trans e3)
    have l3' := l3.mono e3
    refine ⟨q, vs, n, kk, rfl, rfl, (R3.fr _ _ l2).2, by rw [l3.length, ← ixOf_eq]; exact hk, ?_⟩
    have hq : ∃ o, F q = some o := ⟨_, l2⟩
    obtain ⟨f1, f2, f3⟩ := foot_in (i := i) R3 hq
    have nqp : p0 ≠ q := by
      have := (List.nodup_cons.mp k4).1
      rintro rfl
      exact this (List.mem_of_getElem? l1)
    have RR := R3.rowsSet (i := i) (v := .ref p0) (xs := xs.set j (row.set kk yv)) (F' := upd F q (.lst (vs.set kk v0))) (H' := upd H3 q (.lst (vs.set kk v0))) (L := [q]) lo hz
      (fun b hb => by simp at hb; exact ⟨upd_ne hb, upd_ne hb⟩) (fun b hb => by simp at hb; subst hb; exact ⟨f1, f2, l4, f3, _, upd_same, upd_same⟩)
      ⟨p0, qs, rfl, by rw [upd_ne nqp]; exact k2, k3, k4, RowsR.set (Reps.set r3 kk l3') (List.nodup_cons.mp k4).2 l1 (k5.mono e3)⟩
    rw [set_same g1] at RR
    exact c.nx sa Hs3 _ σ _ (((e0.trans e1).trans e2).trans e3) RR h3
  · exact h2.elim
theorem f0_none (R : RelS S F sa Hs ρ σ H) {b : Addr} (h : F b = none) : S.F0 b = none := by
  cases q : S.F0 b with
  | none => rfl
  | some o => rw [R.f0 b o q] at h; cases h
theorem own_lst {l : Addr} {o : HO} {row : List D} (t : Tmp S F sa Hs ρ σ H l o (.lst row)) : ∃ vs, o = .lst vs ∧ Reps S.K S.cl Hs vs row := by
  have h := t.r
  cases o with
  | lst vs => exact ⟨vs, rfl, h⟩
  | _ => exact h.elim
theorem ref_snoc (qs : List Addr) (l : Addr) : (qs ++ [l]).map V.ref = qs.map V.ref ++ [V.ref l] := by simp
theorem nodup_push {p l : Addr} {qs : List Addr} (h : (p :: qs).Nodup) (h1 : l ≠ p) (h2 : l ∉ qs) : (p :: (qs ++ [l])).Nodup := by
  rw [List.nodup_cons] at h ⊢
  refine ⟨by simp; exact ⟨h.1, Ne.symm h1⟩, ?_⟩
  rw [List.nodup_append]
  exact ⟨h.2, by simp, fun a ha b hb => by simp at hb; subst hb; rintro rfl; exact h2 ha⟩
theorem js_rowsApp {i : Nat} {x : Str} {apos cpos pn : Pos} (hK : X.K = S.K) (ha : JE X S W a ta da) (hN : X.N[i]? = some x := by rfl) (hv : Vis X.env.scope x := by first | exact Or.inl rfl | exact Or.inr (Or.inl rfl) | exact Or.inr (Or.inr rfl))
    (hd : (x == ("__debug__" : Str)) = false := by decide) (hcd : (x == ("__classdict__" : Str)) = false := by decide) (hz : S.self = none ∨ i ≠ 0 := by first | exact .inl rfl | exact .inr (by decide))
    (hbase : attributeBase (.Name x pn) "append" X.env (eval (.Name x pn) X.env) = eval (.Name x pn) X.env := by rfl)
    (hfew : ((backTo cpos (starEach (a :: []) X.env)).all (fun x => !x.1) && (backToKw cpos (keywordEach [] X.env)).all (fun x => x.1.isSome)
      && decide ((a :: ([] : List Expr)).length + ([] : List Keyword).length + (if ([] : List Keyword).isEmpty then 0 else 1) < 30)) = true := by rfl)
    (hline : (apos.endLine == cpos.line) = true := by rfl) (hs : starEach (a :: []) X.env = (false, eval a X.env) :: starEach [] X.env := by rfl) (hplain : (backTo cpos (starEach [] X.env)).any (·.1) = false := by rfl)
    (hsw : swapsWith (.Call (.Attribute (.Name x pn) "append" apos) [a] [] cpos) none pos.line X.env = pure false := by rfl) :
    JS X S W (.Expr (.Call (.Attribute (.Name x pn) "append" apos) [a] [] cpos) pos) (tDrop (tBM S.K "list" rAppend (tVar i) (tCons ta tNil))) (sRowsApp i da) := by
  refine ⟨hK, ?_, fun F sa Hs ρ σ H Z D R h c => ?_⟩
  · rw [← hK]
    exact ps_expr (pe_bm PySem.F.plainAttrs_list PySem.F.slot_list_append PySem.F.type_list_append mt_append (pe_var hN hv hd hcd) (pa_cons ha.pe pa_nil hs) hbase hfew hline hs hplain) hsw
  · obtain ⟨⟨xs0, e0⟩, h⟩ := h
    obtain ⟨p0, qs0, g1, g2, _⟩ := R.rowsV e0
    refine ⟨_, g1, .inl ⟨rfl, _, .of (R.fr _ _ g2).2⟩, ?_⟩
    refine ha.sim F sa Hs ρ σ H Z.ex _ _ R h (c.ex sa σ) fun Hs1 ρ1 H1 v r e1 R1 q1 h1 => ?_
    obtain ⟨row, rfl, h1⟩ := h1
    obtain ⟨l, o, rfl, t⟩ := q1
    obtain ⟨vs, rfl, rr⟩ := own_lst t
    split at h1
    · rename_i xs ex
      obtain ⟨lo, hsz, h1⟩ := h1
      obtain ⟨p, qs, k1, k2, k3, k4, k5⟩ := R1.rowsV ex
      rw [g1] at k1
      cases k1
      have nlp : l ≠ p0 := by rintro rfl; rw [t.f] at k2; cases k2
      have nlq : ∀ q ∈ qs, q ≠ l := fun q hq => by
        obtain ⟨⟨ws, hw⟩, _⟩ := k5.some q hq
        rintro rfl
        rw [t.f] at hw; cases hw
      have npq : ∀ q ∈ qs, q ≠ p0 := fun q hq => by rintro rfl; exact (List.nodup_cons.mp k4).1 hq
      obtain ⟨f1, f2, f3⟩ := foot_in (i := i) R1 ⟨_, k2⟩
      refine ⟨p0, _, _, rfl, rfl, (R1.fr _ _ k2).2, by rw [List.length_map, k5.len, ← sz_eq]; exact hsz, ?_⟩
      have RR := R1.rowsSet (i := i) (v := .ref p0) (xs := xs ++ [row]) (F' := upd (upd F l (.lst vs)) p0 (.lst (qs.map V.ref ++ [.ref l]))) (H' := upd H1 p0 (.lst (qs.map V.ref ++ [.ref l]))) (L := [p0, l]) lo hz
        (fun b hb => by
          simp at hb
          rw [upd_ne hb.1, upd_ne hb.1, upd_ne hb.2]
          exact ⟨rfl, rfl⟩)
        (fun b hb => by
          simp at hb
          rcases hb with rfl | rfl
          · exact ⟨f1, f2, k3, f3, _, upd_same, upd_same⟩
          · exact ⟨t.hs, t.s, f0_none R1 t.f, t.na, .lst vs, by rw [upd_ne nlp, upd_same], by rw [upd_ne nlp]; exact t.h⟩)
        ⟨p0, qs ++ [l], rfl, by rw [upd_same, ref_snoc], k3, nodup_push k4 nlp (fun hm => nlq l hm rfl), by
          refine RowsR.push (vs := vs) ?_ (f0_none R1 t.f) rr (RowsR.keep (fun q hq => ?_) k5)
          · rw [upd_ne nlp, upd_same]
          · rw [upd_ne (npq q hq), upd_ne (nlq q hq)]⟩
      rw [set_same g1] at RR
      exact c.nx sa Hs1 _ σ _ e1 RR h1
    · exact h1.elim
theorem js_rows1 {i : Nat} {x : Str} {pos' pl : Pos} (hN : X.N.Nodup) (hi : X.N[i]? = some x) (hx : Loc X.env.scope x) (ha : JE X S W a ta da) (he : starEach (a :: []) X.env = (false, eval a X.env) :: starEach [] X.env := by rfl) (hs : swapsWith (.List [a] pl) (some (.Name x pos')) pos.line X.env = pure false := by rfl)
    (hf : X.fn x = true ∨ X.env.scope.names.lookup x = some .local := by first | exact .inl rfl | exact .inr rfl | assumption) (hz : S.self = none ∨ i ≠ 0 := by first | exact .inl rfl | exact .inr (by decide)) :
    JS X S W (.Assign [.Name x pos'] (.List [a] pl) pos) (tAsg (L2.tLst (tCons ta tNil)) (L2.gName i)) (sRows1 i da) := by
  refine ⟨ha.k, ps_set hN hi hx (pe_lst (pa_cons ha.pe pa_nil he)) hs hf, fun F sa Hs ρ σ H Z D R h c => ?_⟩
  refine ha.sim F sa Hs ρ σ H Z.ex _ _ R h (c.ex sa σ) fun Hs1 ρ1 H1 v r e1 R1 q1 h1 => ?_
  obtain ⟨row, rfl, lo, h1⟩ := h1
  obtain ⟨l, o, rfl, t⟩ := q1
  obtain ⟨vs, rfl, rr⟩ := own_lst t
  refine ⟨by show 1 ≤ sizeLine; rw [← sz_eq]; decide, fun p hp => ?_⟩
  have hpH : Hs1 p = none := by
    cases q : Hs1 p with
    | none => rfl
    | some o => rw [R1.ex p o q] at hp; cases hp
  have hpF : F p = none := by
    cases q : F p with
    | none => rfl
    | some o => rw [(R1.fr p o q).2] at hp; cases hp
  have nlp : l ≠ p := by rintro rfl; rw [t.h] at hp; cases hp
  have RR := R1.rowsSet (i := i) (v := .ref p) (xs := [row]) (F' := upd (upd F l (.lst vs)) p (.lst [.ref l])) (H' := upd H1 p (.lst [.ref l])) (L := [p, l]) lo hz
    (fun b hb => by
      simp at hb
      rw [upd_ne hb.1, upd_ne hb.1, upd_ne hb.2]
      exact ⟨rfl, rfl⟩)
    (fun b hb => by
      simp at hb
      rcases hb with rfl | rfl
      · refine ⟨hpH, fun e => ?_, f0_none R1 hpF, fun j m ej z => ?_, _, upd_same, upd_same⟩
        · obtain ⟨⟨pc, i', j', k', cells, y1, _⟩, _⟩ := R1.sav b e
          rw [hp] at y1; cases y1
        · obtain ⟨w, z1, q, u, rfl, _, _, _, z5, _⟩ := R1.vars j _ ej
          rw [z] at z1; cases z1
          rw [hp] at z5; cases z5
      · exact ⟨t.hs, t.s, f0_none R1 t.f, t.na, .lst vs, by rw [upd_ne nlp, upd_same], by rw [upd_ne nlp]; exact t.h⟩)
    ⟨p, [l], rfl, by rw [upd_same]; rfl, f0_none R1 hpF, by simp; exact Ne.symm nlp, ⟨vs, by rw [upd_ne nlp, upd_same], rr⟩, f0_none R1 t.f, trivial⟩
  exact c.nx sa Hs1 _ _ _ e1 RR h1
theorem js_frz {st : Stmt} {ts : TS} {ds : DS} (i : Nat) (h : JS X S W st ts ds) (hz : S.self = none ∨ i ≠ 0 := by first | exact .inl rfl | exact .inr (by decide)) : JS X S W st ts (sFrz i ds) := by
  refine ⟨h.k, h.ps, fun F sa Hs ρ σ H Z D R hd c => ?_⟩
  unfold sFrz at hd
  split at hd
  · rename_i xs e
    obtain ⟨lo, hd⟩ := hd
    obtain ⟨p, qs, g1, g2, g3, g4, g5⟩ := R.rowsV e
    have hin : ∀ b ∈ p :: qs, (∃ o, F b = some o) ∧ S.F0 b = none := fun b hb => by
      rcases List.mem_cons.mp hb with rfl | hb
      · exact ⟨⟨_, g2⟩, g3⟩
      · obtain ⟨⟨vs, h1⟩, h2⟩ := g5.some b hb
        exact ⟨⟨_, h1⟩, h2⟩
    obtain ⟨Hs', hHs⟩ : ∃ Hs' : Hp, Hs' = fun b => if b ∈ p :: qs then F b else Hs b := ⟨_, rfl⟩
    obtain ⟨F', hF⟩ : ∃ F' : Hp, F' = fun b => if b ∈ p :: qs then none else F b := ⟨_, rfl⟩
    have Hin : ∀ {b}, b ∈ p :: qs → Hs' b = F b := fun {b} hb => by rw [hHs]; exact if_pos hb
    have Hout : ∀ {b}, b ∉ p :: qs → Hs' b = Hs b := fun {b} hb => by rw [hHs]; exact if_neg hb
    have Fin : ∀ {b}, b ∈ p :: qs → F' b = none := fun {b} hb => by rw [hF]; exact if_pos hb
    have Fout : ∀ {b}, b ∉ p :: qs → F' b = F b := fun {b} hb => by rw [hF]; exact if_neg hb
    have e0 : Evl.Ex Hs Hs' := fun b o eb => by
      by_cases hb : b ∈ p :: qs
      · obtain ⟨⟨o', h1⟩, _⟩ := hin b hb
        rw [(R.fr b o' h1).1] at eb; cases eb
      · rw [Hout hb]; exact eb
    have rr : ∀ {qs : List Addr} {xs : List (List Y.D)}, (∀ q ∈ qs, Hs' q = F q) → RowsR S F Hs qs xs → Reps S.K S.cl Hs' (qs.map V.ref) (xs.map Y.D.lst) := by
      intro qs
      induction qs with
      | nil => intro xs _ h; cases xs with
        | nil => exact .nil
        | cons => exact h.elim
      | cons q qs ih =>
        intro xs hq h
        cases xs with
        | nil => exact h.elim
        | cons x xs =>
          obtain ⟨⟨vs, h1, h2⟩, _, h3⟩ := h
          exact .cons (.lst (by rw [hq q (by simp)]; exact h1) (h2.mono e0)) (ih (fun a ha => hq a (by simp [ha])) h3)
    have R1 := R.forget i (σ' := σ) (fun _ _ => rfl) rfl hz
    have R2 : RelS S F' sa Hs' (ρ.set i none) σ H := by
      refine ⟨R1.b0.trans e0, fun b o eb => ?_, fun b o eb => ?_, R1.len, R1.sal, fun a ea => ?_, fun j b ej => ?_, R1.apart, R1.slf, fun b o eb => ?_⟩
      · by_cases hb : b ∈ p :: qs
        · rw [Hin hb] at eb; exact (R.fr b o eb).2
        · rw [Hout hb] at eb; exact R.ex b o eb
      · by_cases hb : b ∈ p :: qs
        · rw [Fin hb] at eb; cases eb
        · rw [Fout hb] at eb
          rw [Hout hb]
          exact R.fr b o eb
      · obtain ⟨z1, z2, z3⟩ := R1.sav a ea
        have na : a ∉ p :: qs := fun hm => by
          obtain ⟨⟨o, h1⟩, _⟩ := hin a hm
          rw [z3] at h1; cases h1
        exact ⟨z1.mono e0 fun _ h => h, by rw [Hout na]; exact z2, by rw [Fout na]; exact z3⟩
      · obtain ⟨v, h1, h2⟩ := R1.vars j b ej
        refine ⟨v, h1, ?_⟩
        cases b with
        | d x => exact Rep.mono e0 h2
        | own m =>
          obtain ⟨q, o, rfl, k1, k2, k3, k4, k5⟩ := h2
          have nq : q ∉ p :: qs := fun hm => by
            obtain ⟨⟨o, h1⟩, _⟩ := hin q hm
            rw [k2] at h1; cases h1
          exact ⟨q, o, rfl, by rw [Hout nq]; exact k1, by rw [Fout nq]; exact k2, k3, k4, k5.mono e0⟩
        | st => exact h2
        | exn x => exact RepXB.mono e0 h2
        | rows ys => exact absurd ej (forget_lone lo j ys)
      · have hb : b ∉ p :: qs := fun hm => by rw [(hin b hm).2] at eb; cases eb
        rw [Fout hb]
        exact R.f0 b o eb
    have R3 := R2.putD (v := .ref p) (x := .lst (xs.map .lst)) i (.lst (by rw [Hin (by simp)]; exact g2) (rr (fun q hq => Hin (by simp [hq])) g5)) hz
    rw [List.set_set, set_same g1] at R3
    exact h.sim F' sa Hs' _ σ H Z D R3 hd (c.mono e0).to
  · exact h.sim F sa Hs ρ σ H Z D R hd c
theorem xno' : XOk S F noW sa Hs σ noX := fun _ _ _ _ _ _ _ _ _ h => h.elim
theorem sim_rowsLc {i : Nat} {wi : TI} {di : DI} {g : TG} {dg : DG} {gs vs : List Nat} {tt : TT} {dt : DT} (hsub : ∀ i ∈ gs, i ∈ vs) (hz : S.self = none ∨ 0 ∉ vs) (hzi : S.self = none ∨ i ≠ 0) (hi : SimI S W wi di) (hg : SimG S g dg gs) (ht : SimT S noW tt dt) (he : SimE S noW te de) :
    SimS S W (tAsg (tLc wi g tt te vs) (L2.gName i)) (sRowsLc i di dg dt de vs) := by
  intro F sa Hs ρ σ H Z D0 R h c
  refine hi F sa Hs ρ σ H Z.ex _ _ R h (c.ex sa σ) fun Hs1 ρ1 H1 J xs e1 R1 ok h1 D hD => ?_
  obtain ⟨hn, hnr, h1⟩ := h1
  obtain ⟨R1', t1⟩ := R1.newOwn (o := .lst []) (m := .lst []) hD Reps.nil
  have hDF : F D = none := t1.f
  have hS0 : S.F0 D = none := f0_none R1 hDF
  have RB : RelS S (upd F D (.lst [])) sa Hs1 ρ1 σ (upd H1 D (.lst [])) :=
    R1'.regrow (L := [D]) (fun b hb => by simp at hb; exact ⟨upd_ne hb, rfl⟩) (fun b hb => by simp at hb; subst hb; exact ⟨t1.hs, t1.s, hS0, t1.na, _, upd_same, upd_same⟩) (noRows_get hnr)
  refine ⟨fun i' m H' => m = xs.length - i' ∧ i' ≤ xs.length ∧ ∃ F' Hs' ρ' acc qs, Evl.Ex Hs1 Hs' ∧ RelS S F' sa Hs' ρ' σ H' ∧ noOwn ρ' vs = true ∧ noRows ρ' = true ∧ F' D = some (.lst (qs.map V.ref)) ∧ (D :: qs).Nodup ∧ RowsR S F' Hs' qs acc ∧
      rlcL dg dt de vs (fun acc ρ2 => Z.nx (ρ2.set i (some (.rows acc)))) (xs.drop i') acc ρ',
    ⟨_, rfl, Nat.zero_le _, _, Hs1, ρ1, [], [], Evl.Ex.refl _, RB, hn, hnr, upd_same, by simp, trivial, h1⟩, ?_⟩
  rintro i' m H' ⟨rfl, hi, F', Hs', ρ', acc, qs, e', R', hn', hr', fD, nd, rw', h'⟩
  cases hx' : xs[i']? with
  | none =>
    have hl := List.getElem?_eq_none_iff.mp hx'
    rw [List.drop_eq_nil_of_le hl] at h'
    have RP := R'.put (i := i) (v := .ref D) (b := .rows acc) ⟨D, qs, rfl, fD, hS0, nd, rw'⟩ (fun m j m' e => by cases e) hzi
    exact .inl ⟨ok.stop S.F0 F' sa Hs' ρ' σ H' i' e' R' (Nat.le_antisymm hl hi), c.nx sa Hs' _ _ H' (e1.trans e') RP h'⟩
  | some y =>
    have hl : i' < xs.length := (List.getElem?_eq_some_iff.mp hx').1
    rw [drop_cons hx'] at h'
    obtain ⟨g1, g2⟩ := ok.go S.F0 F' sa Hs' ρ' σ H' i' y e' R' hx'
    refine .inr ⟨g1, fun H2 => i' + 1 ≤ xs.length ∧ ∃ F' Hs' ρ' acc qs, Evl.Ex Hs1 Hs' ∧ RelS S F' sa Hs' ρ' σ H2 ∧ noOwn ρ' vs = true ∧ noRows ρ' = true ∧ F' D = some (.lst (qs.map V.ref)) ∧ (D :: qs).Nodup ∧ RowsR S F' Hs' qs acc ∧
        rlcL dg dt de vs (fun acc ρ2 => Z.nx (ρ2.set i (some (.rows acc)))) (xs.drop (i' + 1)) acc ρ', fun H2 ⟨n1, n2⟩ => ⟨xs.length - (i' + 1), by omega, rfl, n1, n2⟩, fun v H2 yl => ?_⟩
    obtain ⟨Hs2, e2, R2, r2⟩ := g2 v H2 yl
    refine hg F' sa Hs2 (wipeD ρ' vs) (L2.wipe σ vs) H2 v y _ _ (R2.wipe vs hz) r2 h' fun ρ3 σ3 R3 l3 j3 i3 h3 => ?_
    have hs3 : ∀ j, j ∉ vs → σ3[j]? = σ[j]? := fun j hj => (j3 j fun z => hj (hsub j z)).trans (wipe_get hj)
    have hl3 : σ3.length = σ.length := l3.trans (wipe_length σ vs)
    refine ⟨by rw [wipe_eq hl3 hs3], ?_⟩
    refine ht F' sa Hs2 ρ3 σ3 H2 noX _ _ R3 h3 xno' fun Hs4 ρ4 H4 b e4 R4 h4 => ?_
    cases b with
    | true =>
      rw [if_pos rfl] at h4 ⊢
      refine he F' sa Hs4 ρ4 σ3 H4 noX _ _ R4 h4 xno' fun Hs5 ρ5 H5 v5 r5 e5 R5 q5 h5 => ?_
      obtain ⟨row, rfl, nr, hsz, h5⟩ := h5
      obtain ⟨l, o, rfl, t⟩ := q5
      obtain ⟨ws, rfl, rr⟩ := own_lst t
      have ee := (e2.trans e4).trans e5
      have RU := R'.unwipe hn' ee R5 hl3 hs3
      have nlD : l ≠ D := by rintro rfl; rw [t.f] at fD; cases fD
      have nlq : ∀ q ∈ qs, q ≠ l := fun q hq => by
        obtain ⟨⟨zs, hw⟩, _⟩ := rw'.some q hq
        rintro rfl
        rw [t.f] at hw; cases hw
      have nDq : ∀ q ∈ qs, q ≠ D := fun q hq => by rintro rfl; exact (List.nodup_cons.mp nd).1 hq
      have tna : ∀ (j : Nat) (m : MO), (Y.unwipe ρ' vs ρ5)[j]? = some (some (.own m)) → σ[j]? ≠ some (some (.ref l)) := fun j m ej z => by
        rcases unwipe_get ej with ⟨k1, k2⟩ | ⟨k1, k2⟩
        · exact noOwn_get hn' k1 k2
        · exact t.na j m k2 (by rw [hs3 j k1]; exact z)
      obtain ⟨f1, f2, f3⟩ := foot_in (i := i) RU ⟨_, fD⟩
      refine ⟨qs.map V.ref, (R5.fr _ _ fD).2, by rw [List.length_map, rw'.len, ← sz_eq]; exact hsz, hl, upd (upd F' l (.lst ws)) D (.lst (qs.map V.ref ++ [.ref l])), Hs5, _, acc ++ [row], qs ++ [l], e'.trans ee, ?_, noOwn_unwipe hn', nr, by rw [upd_same, ref_snoc], nodup_push nd nlD (fun hm => nlq l hm rfl), ?_, h5⟩
      · refine RU.regrow (L := [D, l]) (fun b hb => ?_) (fun b hb => ?_) (noRows_get nr)
        · simp at hb
          rw [upd_ne hb.1, upd_ne hb.1, upd_ne hb.2]
          exact ⟨rfl, rfl⟩
        · simp at hb
          rcases hb with rfl | rfl
          · exact ⟨f1, f2, hS0, f3, _, upd_same, upd_same⟩
          · exact ⟨t.hs, t.s, f0_none R5 t.f, tna, .lst ws, by rw [upd_ne nlD, upd_same], by rw [upd_ne nlD]; exact t.h⟩
      · refine RowsR.push (vs := ws) ?_ (f0_none R5 t.f) rr (RowsR.keep (fun q hq => ?_) (rw'.mono ee))
        · rw [upd_ne nlD, upd_same]
        · rw [upd_ne (nDq q hq), upd_ne (nlq q hq)]
    | false =>
      rw [if_neg Bool.false_ne_true] at h4 ⊢
      obtain ⟨nr, h4⟩ := h4
      have ee := e2.trans e4
      exact ⟨hl, F', Hs4, _, acc, qs, e'.trans ee, R'.unwipe hn' ee R4 hl3 hs3, noOwn_unwipe hn', nr, fD, nd, rw'.mono ee, h4⟩
section
variable {iter elt : Expr} {ifs : List Expr} {scope : Scope} {own : List (Str × Nat)} {wi : TI} {di : DI} {g : Hp → TG} {dg : DG} {gs : List Nat} {tt : Hp → TT} {dt : DT} {te : Hp → TE} {tg : Expr}
theorem js_rowsLc {i : Nat} {y : Str} {py spos : Pos} (hc : X.calm = true) (hN : X.N.Nodup) (hy : X.N[i]? = some y) (hyl : X.env.scope.names.lookup y = some .local)
    (hsw : swapsWith (.ListComp elt [⟨tg, iter, ifs, 0⟩] scope pos) (some (.Name y py)) spos.line X.env = pure true) (hi : JI X S W tg iter wi di) (ok : BlkOk X.N X.env.scope scope own)
    (hg : ∀ (F0 : Hp) (s : Shared) (H : Hp) (C : Addr) (cl : List (Str × Addr)) (fp : List Addr), JG (X.blk s H scope (compEnvC scope cl C X.env) fp) (S.at0 F0) tg (g F0) dg gs)
    (ht : ∀ (F0 : Hp) (s : Shared) (H : Hp) (C : Addr) (cl : List (Str × Addr)) (fp : List Addr), JTs (X.blk s H scope (compEnvC scope cl C X.env) fp) (S.at0 F0) noW ifs (tt F0) dt)
    (he : ∀ (F0 : Hp) (s : Shared) (H : Hp) (C : Addr) (cl : List (Str × Addr)) (fp : List Addr), JE (X.blk s H scope (compEnvC scope cl C X.env) fp) (S.at0 F0) noW elt (te F0) de)
    (hsub : ∀ i ∈ gs, i ∈ own.map (·.2) := by decide) (hF0 : ∀ F0, g F0 = g S.F0 ∧ tt F0 = tt S.F0 ∧ te F0 = te S.F0 := by intro _; exact ⟨rfl, rfl, rfl⟩) (hz : S.self = none ∨ 0 ∉ own.map (·.2) := by first | exact .inl rfl | exact .inr (by decide)) (hs : ∀ x, foldedSetIterable iter X.env x = pure x := by intro _; rfl)
    (hz2 : S.self = none ∨ i ≠ 0 := by first | exact .inl rfl | exact .inr (by decide)) : JS X S W (.Assign [.Name y py] (.ListComp elt [⟨tg, iter, ifs, 0⟩] scope pos) spos) (tAsg (tLc wi (g S.F0) (tt S.F0) (te S.F0) (own.map (·.2))) (L2.gName i)) (sRowsLc i di dg dt de (own.map (·.2))) :=
  ⟨hi.k, ps_setLc hc hN hy hyl hsw hi.pi ok (fun s H C cl fp => (hg S.F0 s H C cl fp).pg) (fun s H C cl fp => (ht S.F0 s H C cl fp).pt) (fun s H C cl fp => (he S.F0 s H C cl fp).pe) hs,
    sim_rowsLc hsub hz hz2 hi.sim (hg S.F0 X.s_0 X.H_0 0 [] []).sim (ht S.F0 X.s_0 X.H_0 0 [] []).sim (he S.F0 X.s_0 X.H_0 0 [] []).sim⟩
end
theorem mapM_len {f : List Y.D → Option (List Y.D)} : ∀ {xs ys : List (List Y.D)}, xs.mapM f = some ys → xs.length = ys.length ∧ ∀ (k : Nat) (x : List Y.D), xs[k]? = some x → ∃ y : List Y.D, f x = some y ∧ ys[k]? = some y
  | [], ys, h => by cases h; exact ⟨rfl, fun k x e => by simp at e⟩
  | x :: xs, ys, h => by
    rw [List.mapM_cons] at h
    cases e : f x with
    | none => rw [e] at h; cases h
    | some y =>
      rw [e] at h
      cases e2 : xs.mapM f with
      | none => rw [e2] at h; cases h
      | some zs =>
        rw [e2] at h
        cases h
        obtain ⟨h1, h2⟩ := mapM_len e2
        refine ⟨by simp [h1], fun k z ez => ?_⟩
        cases k with
        | zero => cases ez; exact ⟨y, e, rfl⟩
        | succ k => exact h2 k z (by simpa using ez)
theorem js_rowsFix {i j aI wI nI : Nat} {xr xj : Str} {pj pr : Pos} {body : List Stmt} {req : R2} {db : DS} (hK : X.K = S.K) (hp : PassesOwn (model X.prog X.w) X.A X.env X.xe) (hc : X.calm = true) (hNd : X.N.Nodup) (ho : SimO S req oEq)
    (hb : JSs X S W body (tIfS (tTest (tOp req (tOp (rIx S.K) (tVar j) (tVar aI)) (tVar wI))) (tAsg (tVar nI) (gSub (tVar j) (tVar aI) rSetL)) tNext) db)
    (hNi : X.N[i]? = some xr) (hNj : X.N[j]? = some xj) (hxj : Loc X.env.scope xj) (hij : j ≠ i) (hja : j ≠ aI) (hjw : j ≠ wI) (hjn : j ≠ nI)
    (hv : Vis X.env.scope xr := by first | exact Or.inl rfl | exact Or.inr (Or.inl rfl) | exact Or.inr (Or.inr rfl))
    (hd : (xr == ("__debug__" : Str)) = false := by decide) (hcd : (xr == ("__classdict__" : Str)) = false := by decide) (hs : ∀ x, foldedSetIterable (.Name xr pr) X.env x = pure x := by intro _; rfl)
    (hf : X.fn xj = true ∨ X.env.scope.names.lookup xj = some .local := by first | exact .inl rfl | exact .inr rfl | assumption) (hz : S.self = none := by rfl) :
    JS X S W (.For (.Name xj pj) (.Name xr pr) body [] pos) (tFor (iSeq S.K (tVar i)) (L2.gName j) (tIfS (tTest (tOp req (tOp (rIx S.K) (tVar j) (tVar aI)) (tVar wI))) (tAsg (tVar nI) (gSub (tVar j) (tVar aI) rSetL)) tNext)) (sRowsFix i j aI wI nI) := by
  refine ⟨hK, by rw [← hK]; exact ps_for hp hc (pi_any (pe_var hNi hv hd hcd)) (pg_name hNd hNj hxj hf) (by rw [hK]; exact hb.ps) hs, fun F sa Hs ρ σ H Z D R h c => ?_⟩
  obtain ⟨xs, ys, ka, kw, kn, ex, ea, ew, en, lo, hjl, hm, hnx⟩ := h
  obtain ⟨hlen, hfix⟩ := mapM_len hm
  obtain ⟨p, qs, g1, g2, g3, g4, g5⟩ := R.rowsV ex
  have va : σ[aI]? = some (some (.int ka)) := by
    obtain ⟨v, h1, h2⟩ := R.vars _ _ ea
    cases (show Rep S.K S.cl Hs v (.int ka) from h2)
    exact h1
  have vw : σ[wI]? = some (some (.int kw)) := by
    obtain ⟨v, h1, h2⟩ := R.vars _ _ ew
    cases (show Rep S.K S.cl Hs v (.int kw) from h2)
    exact h1
  have vn : σ[nI]? = some (some (.int kn)) := by
    obtain ⟨v, h1, h2⟩ := R.vars _ _ en
    cases (show Rep S.K S.cl Hs v (.int kn) from h2)
    exact h1
  have R0 := (R.forget i (σ' := σ) (fun _ _ => rfl) rfl (.inl hz)).forget j (σ' := σ) (fun _ _ => rfl) rfl (.inl hz)
  have nor : ∀ (k : Nat) (zs : List (List Y.D)), ((ρ.set i none).set j none)[k]? ≠ some (some (.rows zs)) := fun k zs e => by
    rcases set_get? e with ⟨_, z⟩ | ⟨_, z⟩
    · cases z
    · exact forget_lone lo k zs z
  refine ⟨_, g1, .inl ⟨p, _, rfl, .inl (.of (R.fr _ _ g2).2), ?_⟩⟩
  refine ⟨fun t m σ' H' => m = xs.length - t ∧ t ≤ xs.length ∧ ∃ F' Hs' cur, Evl.Ex Hs Hs' ∧ RelS S F' sa Hs' ((ρ.set i none).set j none) σ' H' ∧ (∀ k, k ≠ j → σ'[k]? = σ[k]?) ∧ σ'.length = σ.length ∧ F' p = some (.lst (qs.map V.ref)) ∧ RowsR S F' Hs' qs cur ∧ (∀ k, k < t → cur[k]? = ys[k]?) ∧ (∀ k, t ≤ k → cur[k]? = xs[k]?),
    ⟨_, rfl, Nat.zero_le _, F, Hs, xs, Evl.Ex.refl _, R0, fun _ _ => rfl, rfl, g2, g5, fun k hk => absurd hk (Nat.not_lt_zero k), fun _ _ => rfl⟩, ?_⟩
  rintro t m σ' H' ⟨rfl, ht, F', Hs', cur, e', R', hσ, hσl, hFp, hrw, hlow, hhigh⟩
  have hcl : qs.length = cur.length := hrw.len
  have hql : qs.length = xs.length := g5.len
  have hHp : H' p = some (.lst (qs.map V.ref)) := (R'.fr _ _ hFp).2
  cases hxt : xs[t]? with
  | none =>
    have hge := List.getElem?_eq_none_iff.mp hxt
    have htl : t = xs.length := Nat.le_antisymm ht hge
    have hcur : cur = ys := by
      apply List.ext_getElem?
      intro k
      by_cases hk : k < t
      · exact hlow k hk
      · rw [hhigh k (Nat.le_of_not_lt hk), List.getElem?_eq_none (by omega), List.getElem?_eq_none (by omega)]
    subst hcur
    refine .inl ⟨⟨_, .of hHp, by rw [List.length_map]; omega⟩, ?_⟩
    have hip : σ'[i]? = some (some (.ref p)) := by rw [hσ i (Ne.symm hij)]; exact g1
    have RP := R'.put (i := i) (v := .ref p) (b := .rows cur) ⟨p, qs, rfl, hFp, g3, g4, hrw⟩ (fun m j m' e => by cases e) (.inl hz)
    rw [set_same hip] at RP
    have e : ((ρ.set i none).set j none).set i (some (.rows cur)) = (ρ.set i (some (.rows cur))).set j none := by
      rw [List.set_comm _ _ hij, List.set_set]
    rw [e] at RP
    exact c.nx sa Hs' _ σ' H' e' RP hnx
  | some row =>
    have htl : t < xs.length := (List.getElem?_eq_some_iff.mp hxt).1
    have hct : cur[t]? = some row := by rw [hhigh t (Nat.le_refl _)]; exact hxt
    obtain ⟨q, vs, l1, l2, l3, l4⟩ := hrw.get hct
    obtain ⟨row', hr1, hr2⟩ := hfix t row hxt
    have hHq : H' q = some (.lst vs) := (R'.fr _ _ l2).2
    have hqt : (qs.map V.ref)[t]? = some (.ref q) := by rw [List.getElem?_map, l1]; rfl
    refine .inr ⟨⟨_, _, .of hHp, hqt⟩, fun σ2 H2 => t + 1 ≤ xs.length ∧ ∃ F' Hs' cur, Evl.Ex Hs Hs' ∧ RelS S F' sa Hs' ((ρ.set i none).set j none) σ2 H2 ∧ (∀ k, k ≠ j → σ2[k]? = σ[k]?) ∧ σ2.length = σ.length ∧ F' p = some (.lst (qs.map V.ref)) ∧ RowsR S F' Hs' qs cur ∧ (∀ k, k < t + 1 → cur[k]? = ys[k]?) ∧ (∀ k, t + 1 ≤ k → cur[k]? = xs[k]?),
      fun σ2 H2 ⟨n1, n2⟩ => ⟨xs.length - (t + 1), by omega, rfl, n1, n2⟩, fun v H2 yl => ?_⟩
    obtain ⟨rfl, yl⟩ := yl
    have hv := yl _ (.of hHp)
    rw [hqt] at hv
    cases hv
    have hj : j < σ'.length := by rw [hσl, R.len]; exact hjl
    have R2 := R'.forget j (σ' := σ'.set j (some (.ref q))) (fun k hk => List.getElem?_set_ne (Ne.symm hk)) (by simp) (.inl hz)
    rw [List.set_set] at R2
    have s2 : ∀ k, k ≠ j → (σ'.set j (some (.ref q)))[k]? = σ[k]? := fun k hk => by rw [List.getElem?_set_ne (Ne.symm hk)]; exact hσ k hk
    have s2j : (σ'.set j (some (.ref q)))[j]? = some (some (.ref q)) := List.getElem?_set_self hj
    unfold fixRow at hr1
    cases hix : ixOf row.length ka with
    | none => rw [hix] at hr1; cases hr1
    | some z =>
      rw [hix] at hr1
      cases hz' : row[z]? with
      | none => simp only [hz'] at hr1; cases hr1
      | some dz =>
        cases dz with
        | int yz =>
          simp only [hz'] at hr1
          obtain ⟨wv, w1, w2⟩ := l3.get hz'
          cases (show Rep S.K S.cl Hs' wv (.int yz) from w2)
          refine ⟨_, s2j, _, by rw [s2 aI (Ne.symm hja)]; exact va, ?_⟩
          refine rix_list hHq (by rw [l3.length]; exact hix) w1 ?_
          refine ⟨_, by rw [s2 wI (Ne.symm hjw)]; exact vw, ?_⟩
          refine ho F' sa Hs' _ _ H2 (.int yz) (.int kw) (.int yz) (.int kw) (fun r => r = bv (yz == kw)) _ R2 (.inl (Rep.int _)) (.inl (Rep.int _)) ⟨.inl rfl, rfl⟩ fun Hs3 H3 w r e3 R3 q3 h3 => ?_
          subst h3
          cases (show Rep S.K S.cl Hs3 w (.bl (yz == kw)) from q3)
          refine ⟨_, rfl, ?_⟩
          show ite ((yz == kw) = true) _ _
          have hHq3 : H3 q = some (.lst vs) := (R3.fr _ _ l2).2
          by_cases hb : yz = kw
          · rw [if_pos (by simpa using hb)]
            rw [if_pos hb] at hr1
            cases hr1
            refine ⟨_, by rw [s2 nI (Ne.symm hjn)]; exact vn, _, s2j, _, by rw [s2 aI (Ne.symm hja)]; exact va, q, vs, ka, z, rfl, rfl, hHq3, by rw [l3.length, ← ixOf_eq]; exact hix, ?_⟩
            have npq : p ≠ q := by rintro rfl; exact (List.nodup_cons.mp g4).1 (List.mem_of_getElem? l1)
            obtain ⟨f1, f2, f3⟩ := foot_in (i := i) R3 ⟨_, l2⟩
            refine ⟨htl, upd F' q (.lst (vs.set z (.int kn))), Hs3, cur.set t (row.set z (.int kn)), e'.trans e3, R3.regrow (L := [q]) (fun b hb => by simp at hb; exact ⟨upd_ne hb, upd_ne hb⟩) (fun b hb => by simp at hb; subst hb; exact ⟨f1, f2, l4, f3, _, upd_same, upd_same⟩) nor,
              s2, by rw [List.length_set]; exact hσl, by rw [upd_ne npq]; exact hFp, RowsR.set (Reps.set (Rep.int _) z (l3.mono e3)) (List.nodup_cons.mp g4).2 l1 (hrw.mono e3), fun k hk => ?_, fun k hk => ?_⟩
            · by_cases hkt : t = k
              · subst hkt
                rw [List.getElem?_set_self (by omega), hr2]
              · rw [List.getElem?_set_ne hkt]; exact hlow k (by omega)
            · rw [List.getElem?_set_ne (by omega)]; exact hhigh k (by omega)
          · rw [if_neg (by simpa using hb)]
            rw [if_neg hb] at hr1
            cases hr1
            refine ⟨htl, F', Hs3, cur, e'.trans e3, R3, s2, by rw [List.length_set]; exact hσl, hFp, hrw.mono e3, fun k hk => ?_, fun k hk => hhigh k (by omega)⟩
            by_cases hkt : k = t
            · rw [hkt, hct, hr2]
            · exact hlow k (by omega)
        | _ => simp only [hz'] at hr1; cases hr1
end
end Y

/-! Sim19: += of numbers, isinstance of what a clause holds. -/
namespace Y
open PySem L2 Evl
section
variable {X : Cx} {S : Sx} {W : WX} {e a b : Expr} {es : List Expr} {t ta tb te : TE} {d da db de : DE} {pos p p1 p2 : Pos} {sa : Option Addr} {F Hs H : Hp} {ρ : En} {σ : St}
theorem js_augAdd {i : Nat} {x : Str} {pos' : Pos} (hN : X.N.Nodup) (hi : X.N[i]? = some x) (hx : Loc X.env.scope x) (ha : JE X S W e te d) (hf : X.fn x = true ∨ X.env.scope.names.lookup x = some .local := by first | exact .inl rfl | exact .inr rfl | assumption) (hz : S.self = none ∨ i ≠ 0 := by first | exact .inl rfl | exact .inr (by decide)) :
    JS X S W (.AugAssign (.Name x pos') .Add e pos) (tAug i te (ipI fun i j => i + j)) (sAugAdd i d) := by
  refine ⟨ha.k, ps_aug hN hi hx ha.pe ip_add hf, fun F sa Hs ρ σ H Z D R h c => ?_⟩
  obtain ⟨m, em, h⟩ := h
  obtain ⟨v, h1, h2⟩ := R.vars _ _ em
  cases (show Rep S.K S.cl Hs v (.int m) from h2)
  refine ⟨_, h1, ?_⟩
  refine ha.sim F sa Hs ρ σ H Z.ex _ _ R h (c.ex sa σ) fun Hs1 ρ1 H1 v1 r1 e1 R1 q1 g1 => ?_
  obtain ⟨n, rfl, g1⟩ := g1
  cases (show Rep S.K S.cl Hs1 v1 (.int n) from q1)
  exact ⟨m, n, rfl, rfl, c.nx sa Hs1 _ _ H1 e1 (R1.putD i (Rep.int _) hz) g1⟩
/-- isinstance(e, c), of an exception of any class, without fields -/
def rIsX (K : PySem.W.Frag) (cls : Value) (dd : Option Addr) (a : Addr) : List V → Hp → VK → Prop := fun xs H Q => ∃ D, cls = .ref D ∧ dd = none ∧ ExcC K D ∧ rIsE K D a xs H Q
theorem call_isX {X : Cx} {a : Addr} {cls : Value} {dd : Option Addr} {oe : Obj} {pn : List (Addr × Obj)} (hz : Zc cls dd oe) (hf : ∃ vs, oe.data = .fields vs) : CallR (X.suite a ((a, oe) :: pn)) (.builtin "isinstance") (rIsX X.K cls dd a) := by
  intro pins s σ H xs us Q I r h
  obtain ⟨D, rfl, rfl, C, h⟩ := h
  exact call_isE C hz hf pins s σ H xs us Q I r h
/-- of each class: is its instance one of c -/
structure TabE (K : PySem.W.Frag) (cl : String → Addr) (c : Value) (tab : List (String × Bool)) : Prop where
  ok : ∀ C b, tab.lookup C = some b → PySem.W.kitOne K (.ref (cl C)) c = some b
  cx : ∀ C b, tab.lookup C = some b → ExcC K (cl C)
theorem je_isE {i : Nat} {xi y : Str} {c : V} {cv : Value} {cls : Value} {dd : Option Addr} {aa : Addr} {oe : Obj} {pn : List (Addr × Obj)} {tab : List (String × Bool)} (hK : X.K = S.K) (hzc : Zc cls dd oe) (hfl : ∃ vs, oe.data = .fields vs) (T : TabE X.K S.cl cv tab)
    (hg : Gl (X.suite aa ((aa, oe) :: pn)) "isinstance") (hm : X.mg "isinstance" = none) (hc : PE (X.suite aa ((aa, oe) :: pn)) (.Name y p2) (tC c)) (hcv : ∀ u, RelV c u → u = cv)
    (hN : X.N[i]? = some xi := by rfl) (hv : Vis X.env.scope xi := by first | exact Or.inl rfl | exact Or.inr (Or.inl rfl) | exact Or.inr (Or.inr rfl)) (hd : (xi == ("__debug__" : Str)) = false := by decide) (hcd : (xi == ("__classdict__" : Str)) = false := by decide)
    (he : starEach (.Name xi p1 :: [.Name y p2]) (X.suite aa ((aa, oe) :: pn)).env = (false, eval (.Name xi p1) (X.suite aa ((aa, oe) :: pn)).env) :: starEach [.Name y p2] (X.suite aa ((aa, oe) :: pn)).env := by rfl)
    (he2 : starEach (.Name y p2 :: []) (X.suite aa ((aa, oe) :: pn)).env = (false, eval (.Name y p2) (X.suite aa ((aa, oe) :: pn)).env) :: starEach [] (X.suite aa ((aa, oe) :: pn)).env := by rfl)
    (hpl : (backTo pos (starEach [.Name y p2] (X.suite aa ((aa, oe) :: pn)).env)).any (·.1) = false := by rfl) :
    JE (X.suite aa ((aa, oe) :: pn)) (S.held aa cls dd) W (.Call (.Name "isinstance" p) [.Name xi p1, .Name y p2] [] pos) (tCB (rIsX X.K cls dd aa) (tCons (tVar i) (tCons (tC c) tNil))) (dIsE i tab) := by
  refine ⟨hK, pe_callB (call_isX hzc hfl) hg hm (by decide +kernel) (pa_cons (pe_var (X := X.suite aa ((aa, oe) :: pn)) hN hv hd hcd) (pa_cons hc pa_nil he2) he) (by decide) (by decide) he hpl, fun F sa Hs ρ σ H x Q QH R h hx k => ?_⟩
  unfold dIsE at h
  split at h
  · rename_i ex ei
    obtain ⟨hfs, b, hb, h⟩ := h
    obtain ⟨v, h1, h2⟩ := R.vars _ _ ei
    obtain ⟨rfl, rc, rd⟩ := RepXB.un h2
    refine ⟨_, h1, S.cl ex.cls, rc, ?_, T.cx _ _ hb, c, cv, b, rfl, hcv, T.ok _ _ hb, k Hs ρ H _ (bv b) (Evl.Ex.refl _) R (Rep.bl b) h⟩
    rcases rd with ⟨_, z⟩ | ⟨dx, fs, ⟨_, z⟩, _⟩
    · exact z
    · exact absurd hfs z
  · exact h.elim
end
theorem kit_own {K : PySem.W.Frag} {D C : Addr} {b : Bool} (hdct : PySem.W.hasDictIn K C = true) (h1 : PySem.W.subIn K (.ref C) (.type "BaseException") = some true) (ht : PySem.W.typeIn K (.ref C) = some (.type "type")) (hs : PySem.W.subIn K (.ref D) (.ref C) = some b) (hd : PySem.W.subIn K (.ref D) (.ref D) = some true) : PySem.W.kitOne K (.ref D) (.ref C) = some b := by
  have e := PySem.W.exm_ref (cls := .ref D) h1 hdct ht hs
  unfold PySem.W.exmOne at e
  rw [if_pos (by rw [h1] <;> rfl)] at e
  unfold PySem.W.kitOne
  by_cases q : ((Value.ref D == Value.ref C) = true)
  · rw [if_pos q]
    have q2 : D = C := by
      have := eq_of_beq q
      cases this; rfl
    subst q2
    rw [hd] at hs
    exact hs
  · rw [if_neg q]; exact e
theorem kit_blt {K : PySem.W.Frag} {D : Addr} {T : String} {b : Bool} (hm : PySem.W.kitMeta T = true) (hs : PySem.W.subIn K (.ref D) (.type T) = some b) : PySem.W.kitOne K (.ref D) (.type T) = some b := by
  unfold PySem.W.kitOne
  rw [if_neg (by simp)]
  show (if PySem.W.kitMeta T = true then PySem.W.subIn K (.ref D) (.type T) else none) = some b
  rw [if_pos hm]
  exact hs
end Y

namespace Z
open Y
def d_check_letters : DS := sSeq (sIf (tOr (tB (dBin oLt (dUn oLen (dVar 0)) (dC (.int 1)))) (tB (dBin oGt (dUn oLen (dVar 0)) (dC (.int 4))))) (sRaise0 "BadLetters") (sNext)) (sSeq (sSet 1 (dC (.str []))) (sFor (iOf (dVar 0)) (gName 2) (sSeq (sIf (tOr (tB (dBin (oIn true) (dVar 2) (dC (.str [97, 98, 99, 100, 101, 102, 103, 104, 105, 106, 107, 108, 109, 110, 111, 112, 113, 114, 115, 116, 117, 118, 119, 120, 121, 122])))) (tB (dBin oLe (dVar 2) (dVar 1)))) (sRaise0 "BadLetters") (sNext)) (sSet 1 (dVar 2)))))
def f_check_letters : FSem := semOf 3 d_check_letters
def d_check_rows : DS := sSeq (sIf (tB (dBin oEq (dUn oLen (dVar 1)) (dC (.int 0)))) (sNever) (sNext)) (sSeq (sIf (tB (dBin oGt (dUn oLen (dVar 1)) (dC (.int 128)))) (sNever) (sNext)) (sSeq (sFor (iEnum (dVar 1)) (gTup [gName 3, gName 4]) (sSeq (sIf (tB (dBin oNe (dUn oLen (dVar 4)) (dUn oLen (dVar 0)))) (sNever) (sNext)) (sFor (iOf (dVar 4)) (gName 5) (sIf (tOr (tB (dBin oLt (dVar 5) (dUn oNeg (dC (.int 1))))) (tB (dBin oGe (dVar 5) (dUn oLen (dVar 1))))) (sNever) (sNext))))) (sSeq (sSet 6 (dUn oNeg (dC (.int 1)))) (sFor (iOf (dVar 2)) (gName 5) (sSeq (sIf (tOr (tB (dBin oLe (dVar 5) (dVar 6))) (tB (dBin oGe (dVar 5) (dUn oLen (dVar 1))))) (sNever) (sNext)) (sSet 6 (dVar 5)))))))
def f_check_rows : FSem := semOf 7 d_check_rows
def d_Machine___init__ : DS := sSeq (sExpr (dCall 1 f_check_letters (aCons (dVar 1) (aNil)))) (sSeq (sExpr (dCall 3 f_check_rows (aCons (dVar 1) (aCons (dVar 2) (aCons (dVar 3) (aNil)))))) (sSeq (sFld ["Machine"] 0 "letters" (dVar 1)) (sSeq (sFld ["Machine"] 0 "arrows" (dUn oTuple (dLc (iOf (dVar 2)) (gName 4) (tYes) (dUn oTuple (dVar 4)) [4]))) (sFld ["Machine"] 0 "ends" (dUn oTuple (dVar 3))))))
def f_Machine___init__ : FSem := initOf "Machine" 5 d_Machine___init__
def d_nothing : DS := sSeq (sExpr (dCall 1 f_check_letters (aCons (dVar 0) (aNil)))) (sRet (dMake 3 f_Machine___init__ (aCons (dVar 0) (aCons (dLst (aCons (dLc (iOf (dVar 0)) (gName 1) (tYes) (dUn oNeg (dC (.int 1))) [1]) (aNil))) (aCons (dLst (aNil)) (aNil))))))
def f_nothing : FSem := semOf 2 d_nothing
def d_check_same_letters : DS := sIf (tB (dBin oNe (dFld ["Machine"] "letters" (dVar 0)) (dFld ["Machine"] "letters" (dVar 1)))) (sRaise0 "BadLetters") (sNext)
def f_check_same_letters : FSem := semOf 2 d_check_same_letters
def d_step : DS := sSeq (sIf (tB (dBin oLt (dVar 1) (dC (.int 0)))) (sRet (dUn oNeg (dC (.int 1)))) (sNext)) (sRet (dBin oIx (dBin oIx (dFld ["Machine"] "arrows" (dVar 0)) (dVar 1)) (dVar 2)))
def f_step : FSem := semOf 3 d_step
def d_first_difference_1 : DS := sIf (tB (dBin (oDin true) (dVar 13) (dVar 3))) (sSeq (sDput 3 (dVar 13) (dC (.bl true))) (sAppend 4 (dTup (aCons (dBin oAdd (dVar 6) (dVar 12)) (aCons (dBin oIx (dVar 13) (dC (.int 0))) (aCons (dBin oIx (dVar 13) (dC (.int 1))) (aNil))))))) (sNext)
def d_first_difference_2 : DS := sFor (iEnum (dFld ["Machine"] "letters" (dVar 0))) (gTup [gName 11, gName 12]) (sSeq (sSet 13 (dTup (aCons (dCall 3 f_step (aCons (dVar 0) (aCons (dVar 7) (aCons (dVar 11) (aNil))))) (aCons (dCall 3 f_step (aCons (dVar 1) (aCons (dVar 8) (aCons (dVar 11) (aNil))))) (aNil))))) (d_first_difference_1))
def d_first_difference_3 : DS := sIf (tOr (tAnd (tB (dVar 9)) (tNot (tB (dVar 10)))) (tAnd (tB (dVar 2)) (tAnd (tB (dVar 10)) (tNot (tB (dVar 9)))))) (sRet (dVar 6)) (sNext)
def d_first_difference_4 : DS := sWhile (tB (dBin oLt (dVar 5) (dUn oLen (dVar 4)))) (sSeq (sPart (gTup [gName 6, gName 7, gName 8]) (dBin oIx (dVar 4) (dVar 5))) (sSeq (sAugAdd 5 (dC (.int 1))) (sSeq (sSet 9 (dBin (oIn false) (dVar 7) (dFld ["Machine"] "ends" (dVar 0)))) (sSeq (sSet 10 (dBin (oIn false) (dVar 8) (dFld ["Machine"] "ends" (dVar 1)))) (sSeq (d_first_difference_3) (d_first_difference_2))))))
def d_first_difference : DS := sSeq (sExpr (dCall 2 f_check_same_letters (aCons (dVar 0) (aCons (dVar 1) (aNil))))) (sSeq (sSet 3 (dDispT (dTup (aCons (dC (.int 0)) (aCons (dC (.int 0)) (aNil)))) (dC (.bl true)))) (sSeq (sSet 4 (dLst (aCons (dTup (aCons (dC (.str [])) (aCons (dC (.int 0)) (aCons (dC (.int 0)) (aNil))))) (aNil)))) (sSeq (sSet 5 (dC (.int 0))) (sSeq (d_first_difference_4) (sRet (dC .non))))))
def f_first_difference : FSem := semOf 14 d_first_difference
def d_parting_word : DS := sRet (dCall 3 f_first_difference (aCons (dVar 0) (aCons (dVar 1) (aCons (dC (.bl true)) (aNil)))))
def f_parting_word : FSem := semOf 2 d_parting_word
def d_extra_word : DS := sRet (dCall 3 f_first_difference (aCons (dVar 0) (aCons (dVar 1) (aCons (dC (.bl false)) (aNil)))))
def f_extra_word : FSem := semOf 2 d_extra_word
def d_first_word : DS := sRet (dCall 3 f_first_difference (aCons (dVar 0) (aCons (dCall 1 f_nothing (aCons (dFld ["Machine"] "letters" (dVar 0)) (aNil))) (aCons (dC (.bl false)) (aNil)))))
def f_first_word : FSem := semOf 1 d_first_word
def d__law_start (ns : List Int) : DS := sSeq (sSet 1 (dLc (iScr ns) (gName 2) (tYes) (dUn oAbs (dVar 2)) [2])) (sSeq (sIf (tB (dBin oEq (dUn oLen (dVar 1)) (dC (.int 0)))) (sSet 1 (dLst (aCons (dC (.int 0)) (aNil)))) (sNext)) (sRet (dLst (aCons (dVar 1) (aCons (dC (.int 0)) (aCons (dC (.int 0)) (aCons (dC (.int 0)) (aNil))))))))
def d__law_next : DS := sSeq (sSet 2 (dStC 0)) (sSeq (sSet 3 (dBin oIx (dVar 2) (dBin oMod (dUn oInt (dStI 0)) (dUn oLen (dVar 2))))) (sSeq (sIf (tAnd (tB (dBin oGe (dVar 3) (dBin oPow (dC (.int 10)) (dC (.int 18))))) (tB (dBin oLt (dStI 0) (dUn oLen (dVar 2))))) (sSeq (sIf (tB (dBin oEq (dStI 0) (dC (.int 0)))) (sStPut 0 (dVar 3)) (sNext)) (sSeq (sSet 4 (dBin oMod (dUn oInt (dStI 0)) (dVar 1))) (sSeq (sStPut 0 (dBin oDiv (dUn oInt (dStI 0)) (dVar 1))) (sSeq (sStPut 0 (dBin oAdd (dStI 0) (dC (.int 1)))) (sSeq (sIf (tOr (tB (dBin oEq (dStI 0) (dC (.int 0)))) (tB (dBin oGe (dStI 0) (dC (.int 60))))) (sSeq (sStPut 0 (dBin oAdd (dStI 0) (dC (.int 1)))) (sStPut 0 (dC (.int 0)))) (sNext)) (sRet (dVar 4))))))) (sNext)) (sSeq (sSet 5 (dBin oAdd (dStI 0) (dBin oMul (dC (.int 7)) (dStI 0)))) (sSeq (sSet 6 (dBin oMul (dBin oAdd (dBin oMod (dUn oInt (dVar 3)) (dC (.int 2147483629))) (dC (.int 1))) (dBin oAdd (dC (.int 48271)) (dBin oMul (dC (.int 2)) (dVar 5))))) (sSeq (sSet 6 (dBin oMod (dUn oInt (dVar 6)) (dC (.int 2147483647)))) (sSeq (sSet 6 (dBin oMod (dUn oInt (dBin oAdd (dBin oAdd (dBin oMul (dVar 6) (dVar 6)) (dBin oMul (dC (.int 69621)) (dVar 5))) (dC (.int 7)))) (dC (.int 2147483629)))) (sSeq (sStPut 0 (dBin oAdd (dStI 0) (dC (.int 1)))) (sSeq (sIf (tB (dBin oGe (dStI 0) (dC (.int 6)))) (sSeq (sStPut 0 (dBin oAdd (dStI 0) (dC (.int 1)))) (sStPut 0 (dC (.int 0)))) (sNext)) (sRet (dBin oMod (dUn oInt (dBin oDiv (dVar 6) (dC (.int 5)))) (dVar 1)))))))))))
def f__law_next : FSem := semOf 7 d__law_next
def d__law_rows : DS := sSeq (sSet 3 (dLst (aNil))) (sSeq (sFor (iRange1 (dVar 2)) (gName 4) (sSeq (sSet 5 (dLst (aNil))) (sSeq (sFor (iOf (dVar 1)) (gName 6) (sSeq (sSet 7 (dNext (dVar 0) (dC (.int 5)))) (sIf (tB (dBin oEq (dVar 7) (dC (.int 0)))) (sAppend 5 (dUn oNeg (dC (.int 1)))) (sIf (tB (dBin oEq (dVar 7) (dC (.int 1)))) (sAppend 5 (dBin oMod (dUn oInt (dBin oAdd (dVar 4) (dC (.int 1)))) (dVar 2))) (sAppend 5 (dNext (dVar 0) (dVar 2))))))) (sAppend 3 (dVar 5))))) (sRet (dVar 3)))
def f__law_rows : FSem := semOf 8 d__law_rows
def d__law_changed_1 : DS := sIf (tB (dBin (oIn false) (dVar 5) (dVar 3))) (sAppend 3 (dVar 8)) (sNext)
def d__law_changed_2 : DS := sIf (tB (dBin oEq (dBin oIx (dVar 9) (dVar 6)) (dVar 5))) (sStore 9 (dVar 6) (dVar 8)) (sNext)
def d__law_changed_3 : DS := sRowsFix 2 9 6 5 8
def d__law_changed_4 : DS := sIf (tB (dBin oEq (dVar 4) (dC (.int 2)))) (sSet 3 (dLc (iRange1 (dRowsLen 2)) (gName 10) (tB (dBin oNe (dBin (oIn false) (dVar 10) (dVar 3)) (dBin oEq (dVar 10) (dVar 5)))) (dVar 10) [10])) (sSeq (sSet 8 (dRowsLen 2)) (sSeq (sRowsApp 2 (dRowsCopy 2 (dVar 5))) (sSeq (d__law_changed_3) (d__law_changed_1))))
def d__law_changed_5 : DS := sIf (tB (dBin oEq (dVar 4) (dC (.int 1)))) (sRowsPut 2 (dVar 5) (dVar 6) (dBin oSub (dNext (dVar 0) (dBin oAdd (dRowsLen 2) (dC (.int 1)))) (dC (.int 1)))) (d__law_changed_4)
def d__law_changed_6 : DS := sIf (tB (dBin oEq (dVar 4) (dC (.int 0)))) (sSeq (sSet 7 (dBin oAdd (dC (.int 1)) (dNext (dVar 0) (dC (.int 5))))) (sSeq (sSet 2 (dCall 3 f__law_rows (aCons (dVar 0) (aCons (dVar 1) (aCons (dVar 7) (aNil)))))) (sSet 3 (dLc (iRange1 (dVar 7)) (gName 10) (tB (dBin oEq (dNext (dVar 0) (dC (.int 2))) (dC (.int 0)))) (dVar 10) [10])))) (d__law_changed_5)
def d__law_changed : DS := sSeq (sRowsLc 2 (iOf (dVar 2)) (gName 9) (tYes) (dUn oListS (dVar 9)) [9]) (sSeq (sSet 3 (dUn oListS (dVar 3))) (sSeq (sSet 4 (dNext (dVar 0) (dC (.int 4)))) (sSeq (sSet 5 (dNext (dVar 0) (dRowsLen 2))) (sSeq (sSet 6 (dNext (dVar 0) (dUn oLen (dVar 1)))) (sSeq (d__law_changed_6) (sFrz 2 (sRet (dTup (aCons (dVar 2) (aCons (dVar 3) (aNil)))))))))))
def f__law_changed : FSem := semOf 11 d__law_changed
def d__law_ring : DS := sSeq (sSet 4 (dLst (aNil))) (sSeq (sFor (iRange1 (dVar 2)) (gName 5) (sSeq (sSet 6 (dLc (iOf (dVar 0)) (gName 7) (tYes) (dUn oNeg (dC (.int 1))) [7])) (sSeq (sStore 6 (dVar 1) (dBin oMod (dUn oInt (dBin oAdd (dVar 5) (dC (.int 1)))) (dVar 2))) (sAppend 4 (dVar 6))))) (sRet (dTup (aCons (dVar 4) (aCons (dVar 3) (aNil))))))
def f__law_ring : FSem := semOf 8 d__law_ring
def d__law_step : DS := sSeq (sIf (tB (dBin oLt (dVar 1) (dC (.int 0)))) (sRet (dUn oNeg (dC (.int 1)))) (sNext)) (sRet (dBin oIx (dBin oIx (dVar 0) (dVar 1)) (dVar 2)))
def f__law_step : FSem := semOf 3 d__law_step
def d__law_first_1 : DS := sIf (tB (dBin (oDin true) (dVar 13) (dVar 5))) (sSeq (sDput 5 (dVar 13) (dC (.bl true))) (sAppend 4 (dTup (aCons (dBin oAdd (dVar 7) (dBin oIx (dVar 0) (dVar 12))) (aCons (dBin oIx (dVar 13) (dC (.int 0))) (aCons (dBin oIx (dVar 13) (dC (.int 1))) (aNil))))))) (sNext)
def d__law_first_2 : DS := sFor (iRange1 (dUn oLen (dVar 0))) (gName 12) (sSeq (sSet 13 (dTup (aCons (dCall 3 f__law_step (aCons (dBin oIx (dVar 1) (dC (.int 0))) (aCons (dVar 8) (aCons (dVar 12) (aNil))))) (aCons (dCall 3 f__law_step (aCons (dBin oIx (dVar 2) (dC (.int 0))) (aCons (dVar 9) (aCons (dVar 12) (aNil))))) (aNil))))) (d__law_first_1))
def d__law_first_3 : DS := sIf (tAnd (tB (dVar 3)) (tAnd (tB (dVar 11)) (tNot (tB (dVar 10))))) (sRet (dVar 7)) (sNext)
def d__law_first_4 : DS := sIf (tAnd (tB (dVar 10)) (tNot (tB (dVar 11)))) (sRet (dVar 7)) (sNext)
def d__law_first_5 : DS := sIf (tB (dBin oGe (dVar 6) (dUn oLen (dVar 4)))) (sRet (dC .non)) (sNext)
def d__law_first_6 : DS := sFor (iRange1 (dBin oMul (dBin oAdd (dUn oLen (dBin oIx (dVar 1) (dC (.int 0)))) (dC (.int 1))) (dBin oAdd (dUn oLen (dBin oIx (dVar 2) (dC (.int 0)))) (dC (.int 1))))) (gName 6) (sSeq (d__law_first_5) (sSeq (sPart (gTup [gName 7, gName 8, gName 9]) (dBin oIx (dVar 4) (dVar 6))) (sSeq (sSet 10 (dBin (oIn false) (dVar 8) (dBin oIx (dVar 1) (dC (.int 1))))) (sSeq (sSet 11 (dBin (oIn false) (dVar 9) (dBin oIx (dVar 2) (dC (.int 1))))) (sSeq (d__law_first_4) (sSeq (d__law_first_3) (d__law_first_2)))))))
def d__law_first : DS := sSeq (sSet 4 (dLst (aCons (dTup (aCons (dC (.str [])) (aCons (dC (.int 0)) (aCons (dC (.int 0)) (aNil))))) (aNil)))) (sSeq (sSet 5 (dNewT)) (sSeq (sDput 5 (dTup (aCons (dC (.int 0)) (aCons (dC (.int 0)) (aNil)))) (dC (.bl true))) (sSeq (d__law_first_6) (sRet (dC .non)))))
def f__law_first : FSem := semOf 14 d__law_first
def d__law_equal : DS := sSeq (sIf (tB (dBin oIsN (dVar 1) (dC .non))) (sRet (dBin oIsN (dVar 0) (dC .non))) (sNext)) (sRet (dAnd (dUn (oIsi "str") (dVar 0)) (dBin oEq (dVar 0) (dVar 1))))
def f__law_equal : FSem := semOf 2 d__law_equal
def d__law_refused : DS := sSeq (sTry [("BadLetters", true)] (some 3) (sIf (tB (dVar 2)) (sExpr (dCall 2 f_parting_word (aCons (dVar 0) (aCons (dVar 1) (aNil))))) (sExpr (dCall 2 f_extra_word (aCons (dVar 0) (aCons (dVar 1) (aNil)))))) (sRet (dAnd (dIsE 3 [("BadLetters", true)]) (dAnd (dIsE 3 [("BadLetters", true)]) (dNot (dIsE 3 [("BadLetters", false)])))))) (sRet (dC (.bl false)))
def f__law_refused : FSem := semOf 4 d__law_refused
def d_law_1 : DS := sIf (tOr (tB (dBin oNe (dFld ["Machine"] "arrows" (dVar 7)) (dUn oTuple (dLc (iOf (dBin oIx (dVar 6) (dC (.int 0)))) (gName 15) (tYes) (dUn oTuple (dVar 15)) [15])))) (tB (dBin oNe (dFld ["Machine"] "ends" (dVar 7)) (dUn oTuple (dBin oIx (dVar 6) (dC (.int 1))))))) (sRet (dC (.bl false))) (sNext)
def d_law_2 : DS := sIf (tNot (tB (dCall 2 f__law_equal (aCons (dCall 1 f_first_word (aCons (dVar 9) (aNil))) (aCons (dCall 4 f__law_first (aCons (dVar 2) (aCons (dVar 11) (aCons (dVar 13) (aCons (dC (.bl false)) (aNil)))))) (aNil)))))) (sRet (dC (.bl false))) (sNext)
def d_law_3 : DS := sIf (tNot (tB (dCall 2 f__law_equal (aCons (dCall 1 f_first_word (aCons (dVar 7) (aNil))) (aCons (dCall 4 f__law_first (aCons (dVar 2) (aCons (dVar 6) (aCons (dVar 13) (aCons (dC (.bl false)) (aNil)))))) (aNil)))))) (sRet (dC (.bl false))) (sNext)
def d_law_4 : DS := sIf (tNot (tB (dCall 2 f__law_equal (aCons (dCall 2 f_extra_word (aCons (dVar 9) (aCons (dVar 7) (aNil)))) (aCons (dCall 4 f__law_first (aCons (dVar 2) (aCons (dVar 11) (aCons (dVar 6) (aCons (dC (.bl false)) (aNil)))))) (aNil)))))) (sRet (dC (.bl false))) (sNext)
def d_law_5 : DS := sIf (tNot (tB (dCall 2 f__law_equal (aCons (dCall 2 f_extra_word (aCons (dVar 7) (aCons (dVar 9) (aNil)))) (aCons (dCall 4 f__law_first (aCons (dVar 2) (aCons (dVar 6) (aCons (dVar 11) (aCons (dC (.bl false)) (aNil)))))) (aNil)))))) (sRet (dC (.bl false))) (sNext)
def d_law_6 : DS := sIf (tNot (tB (dCall 2 f__law_equal (aCons (dCall 2 f_parting_word (aCons (dVar 7) (aCons (dVar 9) (aNil)))) (aCons (dCall 4 f__law_first (aCons (dVar 2) (aCons (dVar 6) (aCons (dVar 11) (aCons (dC (.bl true)) (aNil)))))) (aNil)))))) (sRet (dC (.bl false))) (sNext)
def d_law_t1 : DS := sSeq (d_law_6) (sSeq (d_law_5) (sSeq (d_law_4) (sSeq (d_law_3) (sSeq (d_law_2) (sSeq (d_law_1) (sRet (dAnd (dBin oEq (dFld ["Machine"] "arrows" (dVar 9)) (dUn oTuple (dLc (iOf (dBin oIx (dVar 11) (dC (.int 0)))) (gName 15) (tYes) (dUn oTuple (dVar 15)) [15]))) (dBin oEq (dFld ["Machine"] "ends" (dVar 9)) (dUn oTuple (dBin oIx (dVar 11) (dC (.int 1))))))))))))
def d_law_t2 : DS := sSeq (sSet 13 (dTup (aCons (dLst (aCons (dLc (iOf (dVar 2)) (gName 16) (tYes) (dUn oNeg (dC (.int 1))) [16]) (aNil))) (aCons (dLst (aNil)) (aNil))))) (d_law_t1)
def d_law_t3 : DS := sSet 7 (dMake 3 f_Machine___init__ (aCons (dVar 2) (aCons (dLc (iOf (dBin oIx (dVar 6) (dC (.int 0)))) (gName 15) (tYes) (dUn oListS (dVar 15)) [15]) (aCons (dUn oListS (dBin oIx (dVar 6) (dC (.int 1)))) (aNil)))))
def d_law_t4 : DS := sSeq (sSet 3 (dBin oAdd (dC (.int 2)) (dNext (dVar 1) (dC (.int 12))))) (sSeq (sSet 11 (dCall 4 f__law_ring (aCons (dVar 2) (aCons (dVar 12) (aCons (dVar 3) (aCons (dLc (iRange1 (dBin oSub (dVar 3) (dC (.int 1)))) (gName 14) (tYes) (dVar 14) [14]) (aNil))))))) (d_law_t3))
def d_law_7 : DS := sIf (tB (dBin oEq (dNext (dVar 1) (dC (.int 6))) (dC (.int 3)))) (sSeq (sSet 12 (dNext (dVar 1) (dUn oLen (dVar 2)))) (sSeq (sSet 3 (dBin oAdd (dC (.int 2)) (dNext (dVar 1) (dC (.int 12))))) (sSeq (sSet 6 (dCall 4 f__law_ring (aCons (dVar 2) (aCons (dVar 12) (aCons (dVar 3) (aCons (dLst (aCons (dBin oSub (dVar 3) (dC (.int 1))) (aNil))) (aNil))))))) (d_law_t4)))) (sNext)
def d_law_t5 : DS := sSeq (d_law_7) (sSeq (sSet 9 (dMake 3 f_Machine___init__ (aCons (dVar 2) (aCons (dLc (iOf (dBin oIx (dVar 11) (dC (.int 0)))) (gName 15) (tYes) (dUn oListS (dVar 15)) [15]) (aCons (dUn oListS (dBin oIx (dVar 11) (dC (.int 1)))) (aNil)))))) (d_law_t2))
def d_law_t6 : DS := sRet (dAnd (dVar 10) (dCall 3 f__law_refused (aCons (dVar 7) (aCons (dVar 9) (aCons (dC (.bl false)) (aNil))))))
def d_law_t7 : DS := sSeq (sSet 10 (dAnd (dCall 3 f__law_refused (aCons (dVar 7) (aCons (dVar 9) (aCons (dC (.bl true)) (aNil))))) (dCall 3 f__law_refused (aCons (dVar 9) (aCons (dVar 7) (aCons (dC (.bl false)) (aNil))))))) (d_law_t6)
def d_law_8 : DS := sIf (tB (dBin oEq (dNext (dVar 1) (dC (.int 8))) (dC (.int 1)))) (sSeq (sSet 8 (dBin oIx (dLst (aCons (dC (.str [120, 121])) (aCons (dC (.str [113])) (aCons (dC (.str [120, 121, 122])) (aCons (dC (.str [98, 101])) (aCons (dC (.str [98, 99, 122])) (aCons (dC (.str [97, 98, 99, 122])) (aNil)))))))) (dIndexL (dLst (aCons (dC (.str [97, 98])) (aCons (dC (.str [97])) (aCons (dC (.str [97, 98, 99])) (aCons (dC (.str [98, 100])) (aCons (dC (.str [97, 99, 122])) (aCons (dC (.str [97, 98, 99, 100])) (aNil)))))))) (dVar 2)))) (sSeq (sSet 9 (dMake 3 f_Machine___init__ (aCons (dVar 8) (aCons (dLc (iOf (dVar 4)) (gName 15) (tYes) (dUn oListS (dVar 15)) [15]) (aCons (dUn oListS (dVar 5)) (aNil)))))) (d_law_t7))) (sNext)
def d_law_t8 : DS := sSeq (d_law_8) (sSeq (sSet 11 (dCall 4 f__law_changed (aCons (dVar 1) (aCons (dVar 2) (aCons (dVar 4) (aCons (dVar 5) (aNil))))))) (d_law_t5))
def d_law_t9 : DS := sSeq (sSet 6 (dTup (aCons (dVar 4) (aCons (dVar 5) (aNil))))) (sSeq (sSet 7 (dMake 3 f_Machine___init__ (aCons (dVar 2) (aCons (dLc (iOf (dVar 4)) (gName 15) (tYes) (dUn oListS (dVar 15)) [15]) (aCons (dUn oListS (dVar 5)) (aNil)))))) (d_law_t8))
def d_law_t10 : DS := sSeq (sSet 5 (dLc (iRange1 (dVar 3)) (gName 14) (tB (dBin oEq (dNext (dVar 1) (dC (.int 3))) (dC (.int 0)))) (dVar 14) [14])) (d_law_t9)
def d_law_9 : DS := sIf (tB (dBin oEq (dNext (dVar 1) (dC (.int 24))) (dC (.int 5)))) (sSet 3 (dBin oAdd (dC (.int 10)) (dNext (dVar 1) (dC (.int 31))))) (sNext)
def d_law : DS := sSeq (sSet 2 (dBin oIx (dLst (aCons (dC (.str [97, 98])) (aCons (dC (.str [97])) (aCons (dC (.str [97, 98, 99])) (aCons (dC (.str [98, 100])) (aCons (dC (.str [97, 99, 122])) (aCons (dC (.str [97, 98, 99, 100])) (aNil)))))))) (dNext (dVar 1) (dC (.int 6))))) (sSeq (sSet 3 (dBin oAdd (dC (.int 1)) (dNext (dVar 1) (dC (.int 5))))) (sSeq (d_law_9) (sSeq (sSet 4 (dCall 3 f__law_rows (aCons (dVar 1) (aCons (dVar 2) (aCons (dVar 3) (aNil)))))) (d_law_t10))))
end Z

namespace Z
open PySem L2 Y
open PyProof.Rows (envOfC)
def topS (i : Nat) : Stmt := PySem.Challenge.pw_fromyesalone_k01_parting_words.main.body.getD i (.Pass ⟨0, 0, 0, 0⟩)
def inClass (s : Stmt) (j : Nat) : Stmt := match s with
  | .ClassDef (body := b) .. => b.getD j (.Pass ⟨0, 0, 0, 0⟩)
  | _ => .Pass ⟨0, 0, 0, 0⟩
structure Tt (K : PySem.W.Frag) (mg : Str → Option Value) (cl : String → Addr) : Prop where
  n_ValueError : mg "ValueError" = none
  n_abs : mg "abs" = none
  n_enumerate : mg "enumerate" = none
  n_int : mg "int" = none
  n_isinstance : mg "isinstance" = none
  n_len : mg "len" = none
  n_list : mg "list" = none
  n_range : mg "range" = none
  n_str : mg "str" = none
  n_tuple : mg "tuple" = none
  c_MOST_KINDS_OF_LETTERS : ∃ u, mg "MOST_KINDS_OF_LETTERS" = some u ∧ RelV (V.int 4) u
  c_MOST_STATES : ∃ u, mg "MOST_STATES" = some u ∧ RelV (V.int 128) u
  c_SMALL : ∃ u, mg "SMALL" = some u ∧ RelV (V.str "abcdefghijklmnopqrstuvwxyz") u
  cls : Clss K cl ["Machine"]
  na_arrows : NoAs K cl ["Machine"] "arrows"
  na_ends : NoAs K cl ["Machine"] "ends"
  na_letters : NoAs K cl ["Machine"] "letters"
  g_BadLetters : mg "BadLetters" = some (.ref (cl "BadLetters"))
  g_BadMachine : mg "BadMachine" = some (.ref (cl "BadMachine"))
  g_LanguageError : mg "LanguageError" = some (.ref (cl "LanguageError"))
  x_BadLetters : ExF K mg cl "BadLetters"
  t_LanguageError : TabOk K cl (.ref (cl "LanguageError")) [("BadLetters", true)]
  e_BadLetters : TabE K cl (.ref (cl "BadLetters")) [("BadLetters", true)]
  e_BadMachine : TabE K cl (.ref (cl "BadMachine")) [("BadLetters", false)]
  e_ValueError : TabE K cl (.type "ValueError") [("BadLetters", true)]
section
variable {P : Program} {w : World} {K : PySem.W.Frag} {mg : Str → Option Value} {base : Heap} {cl : String → Addr}
abbrev s_check_letters : Stmt := topS 10
theorem sc_check_letters : FnScope ["letters", "before", "letter"] ["letters"] (defScope s_check_letters) := ⟨rfl, rfl, rfl, by decide +kernel, rfl, by decide +kernel, by decide +kernel⟩
theorem jb_check_letters {f : Addr} {fd : FuncData} (F : Fun K "check_letters" "check_letters" s_check_letters f fd) (hm : mg "check_letters" = some (.ref f)) (bd : Binds K fd ["letters"] []) (T : Tt K mg cl) : HasF P w K mg base cl "check_letters" ["letters"] 1 f_check_letters := by
  refine hasF_of F hm bd sc_check_letters rfl fun cdv A outer s H E Hs sa hr => ?_
  have tk : Takes (cxOf (L2.CX P w) P w K mg base ["letters", "before", "letter"] "check_letters" (defScope s_check_letters) f cdv A outer s H E) (fun c d _ H => E c d H) := takes_of rfl rfl rfl rfl
  have hp := passes_of (X := (cxOf (L2.CX P w) P w K mg base ["letters", "before", "letter"] "check_letters" (defScope s_check_letters) f cdv A outer s H E)) rfl
  have sc := sc_check_letters
  exact ⟨_, js_cons (js_if ((jw_or (jt_cmp op_ltAny so_lt (je_b1 (call_lenAny (by rfl)) su_len (by rfl) T.n_len b_len (je_var rfl 0)) (je_int rfl) (nomark _)) (jw_or1 (jt_cmp op_gtAny so_gt (je_b1 (call_lenAny (by rfl)) su_len (by rfl) T.n_len b_len (je_var rfl 0)) (je_glob (by rfl) T.c_MOST_KINDS_OF_LETTERS (by rfl)) (nomark _)))).jt) (js_one (js_raise0 rfl rfl T.x_BadLetters tk)) (js_nil rfl))
    (js_cons (js_set (i := 1) sc.nd rfl (by first | exact Or.inl rfl | exact Or.inr rfl) (je_str rfl [] (by decide +kernel)))
    (js_one (js_for hp rfl (ji_any (je_var rfl 0)) (jg_name (i := 2) sc.nd rfl (by first | exact Or.inl rfl | exact Or.inr rfl)) (js_cons (js_if ((jw_or (jt_cmp (op_ninAny rfl) so_in (je_var rfl 2) (je_glob (by rfl) T.c_SMALL (by rfl)) rfl) (jw_or1 (jt_cmp op_leAny so_le (je_var rfl 2) (je_var rfl 1) (nomark _)))).jt) (js_one (js_raise0 rfl rfl T.x_BadLetters tk)) (js_nil rfl))
    (js_one (js_set (i := 1) sc.nd rfl (by first | exact Or.inl rfl | exact Or.inr rfl) (je_var rfl 2)))))))⟩
abbrev s_check_rows : Stmt := topS 14
theorem sc_check_rows : FnScope ["letters", "arrows", "ends", "number", "row", "state", "before"] ["letters", "arrows", "ends"] (defScope s_check_rows) := ⟨rfl, rfl, rfl, by decide +kernel, rfl, by decide +kernel, by decide +kernel⟩
theorem jb_check_rows {f : Addr} {fd : FuncData} (F : Fun K "check_rows" "check_rows" s_check_rows f fd) (hm : mg "check_rows" = some (.ref f)) (bd : Binds K fd ["letters", "arrows", "ends"] []) (T : Tt K mg cl) : HasF P w K mg base cl "check_rows" ["letters", "arrows", "ends"] 1 f_check_rows := by
  refine hasF_of F hm bd sc_check_rows rfl fun cdv A outer s H E Hs sa hr => ?_
  have tk : Takes (cxOf (L2.CX P w) P w K mg base ["letters", "arrows", "ends", "number", "row", "state", "before"] "check_rows" (defScope s_check_rows) f cdv A outer s H E) (fun c d _ H => E c d H) := takes_of rfl rfl rfl rfl
  have hp := passes_of (X := (cxOf (L2.CX P w) P w K mg base ["letters", "arrows", "ends", "number", "row", "state", "before"] "check_rows" (defScope s_check_rows) f cdv A outer s H E)) rfl
  have sc := sc_check_rows
  exact ⟨_, js_cons (js_if (jt_cmp (op_eqAny rfl hr.units) so_eq (je_b1 (call_lenAny (by rfl)) su_len (by rfl) T.n_len b_len (je_var rfl 1)) (je_int rfl) (nomark _)) (js_one (js_never rfl)) (js_nil rfl))
    (js_cons (js_if (jt_cmp op_gtAny so_gt (je_b1 (call_lenAny (by rfl)) su_len (by rfl) T.n_len b_len (je_var rfl 1)) (je_glob (by rfl) T.c_MOST_STATES (by rfl)) (nomark _)) (js_one (js_never rfl)) (js_nil rfl))
    (js_cons (js_for hp rfl (ji_enum rfl T.n_enumerate (je_var rfl 1)) (jg_tup rfl rfl (jg_cons (jg_name (i := 3) sc.nd rfl (by first | exact Or.inl rfl | exact Or.inr rfl)) (jg_cons (jg_name (i := 4) sc.nd rfl (by first | exact Or.inl rfl | exact Or.inr rfl)) (jg_nil)))) (js_cons (js_if (jt_cmp (op_neAny rfl hr.units) so_ne (je_b1 (call_lenAny (by rfl)) su_len (by rfl) T.n_len b_len (je_var rfl 4)) (je_b1 (call_lenAny (by rfl)) su_len (by rfl) T.n_len b_len (je_var rfl 0)) (nomark _)) (js_one (js_never rfl)) (js_nil rfl))
    (js_one (js_for hp rfl (ji_any (je_var rfl 4)) (jg_name (i := 5) sc.nd rfl (by first | exact Or.inl rfl | exact Or.inr rfl)) (js_one (js_if ((jw_or (jt_cmp op_ltAny so_lt (je_var rfl 5) (je_neg (je_int rfl)) (nomark _)) (jw_or1 (jt_cmp op_geAny so_ge (je_var rfl 5) (je_b1 (call_lenAny (by rfl)) su_len (by rfl) T.n_len b_len (je_var rfl 1)) (nomark _)))).jt) (js_one (js_never rfl)) (js_nil rfl)))))))
    (js_cons (js_set (i := 6) sc.nd rfl (by first | exact Or.inl rfl | exact Or.inr rfl) (je_neg (je_int rfl)))
    (js_one (js_for hp rfl (ji_any (je_var rfl 2)) (jg_name (i := 5) sc.nd rfl (by first | exact Or.inl rfl | exact Or.inr rfl)) (js_cons (js_if ((jw_or (jt_cmp op_leAny so_le (je_var rfl 5) (je_var rfl 6) (nomark _)) (jw_or1 (jt_cmp op_geAny so_ge (je_var rfl 5) (je_b1 (call_lenAny (by rfl)) su_len (by rfl) T.n_len b_len (je_var rfl 1)) (nomark _)))).jt) (js_one (js_never rfl)) (js_nil rfl))
    (js_one (js_set (i := 6) sc.nd rfl (by first | exact Or.inl rfl | exact Or.inr rfl) (je_var rfl 5)))))))))⟩
abbrev s_Machine___init__ : Stmt := inClass (topS 15) 0
theorem sc_Machine___init__ : FnScope ["self", "letters", "arrows", "ends", "row"] ["self", "letters", "arrows", "ends"] (defScope s_Machine___init__) := ⟨rfl, rfl, rfl, by decide +kernel, rfl, by decide +kernel, by decide +kernel⟩
theorem jb_Machine___init__ {f : Addr} {fd : FuncData} (F : Fun K "__init__" "Machine.__init__" s_Machine___init__ f fd) (hm : mg "Machine" = some (.ref (cl "Machine"))) (M : Mk K (cl "Machine") f) (bd : Binds K fd ["self", "letters", "arrows", "ends"] []) (T : Tt K mg cl) (h_check_letters : HasF P w K mg base cl "check_letters" ["letters"] 1 f_check_letters) (h_check_rows : HasF P w K mg base cl "check_rows" ["letters", "arrows", "ends"] 1 f_check_rows) : HasI P w K mg base cl "Machine" "Machine" ["self", "letters", "arrows", "ends"] 2 f_Machine___init__ := by
  refine hasI_of F hm M bd sc_Machine___init__ rfl (fun cdv A outer s H E Hs sa p hr => ?_) (by decide)
  have tk : Takes (cxOf (L2.CX P w) P w K mg base ["self", "letters", "arrows", "ends", "row"] "Machine.__init__" (defScope s_Machine___init__) f cdv A outer s H E) (fun c d _ H => E c d H) := takes_of rfl rfl rfl rfl
  have hp := passes_of (X := (cxOf (L2.CX P w) P w K mg base ["self", "letters", "arrows", "ends", "row"] "Machine.__init__" (defScope s_Machine___init__) f cdv A outer s H E)) rfl
  have sc := sc_Machine___init__
  exact ⟨_, js_cons (js_expr (je_call h_check_letters (hr.mono (by decide)) tk (by rfl) (ja_cons (je_var rfl 1) (ja_nil rfl))))
    (js_cons (js_expr (je_call h_check_rows (hr.mono (by decide)) tk (by rfl) (ja_cons (je_var rfl 1) (ja_cons (je_var rfl 2) (ja_cons (je_var rfl 3) (ja_nil rfl))))))
    (js_cons (js_fld T.cls T.na_letters (i := 0) (je_var rfl 1))
    (js_cons (js_fld T.cls T.na_arrows (i := 0) (je_t1 (call_tupleAny (by rfl)) su_tuple (by rfl) T.n_tuple b_tuple (je_lc (own := [("row", 4)]) rfl sc.nd (ji_any (je_var rfl 2)) (blkOk_by (own := [("row", 4)]) (N := ["self", "letters", "arrows", "ends", "row"]) (sc := defScope s_Machine___init__) (by decide +kernel)) (fun _ _ _ _ _ _ => jg_name (i := 4) sc.nd rfl (by first | exact Or.inl rfl | exact Or.inr rfl)) (fun _ _ _ _ _ _ => jts_nil) (fun _ _ _ _ _ _ => je_t1 (call_tupleAny (by rfl)) su_tuple (by rfl) T.n_tuple b_tuple (je_var rfl 4)))))
    (js_one (js_fld T.cls T.na_ends (i := 0) (je_t1 (call_tupleAny (by rfl)) su_tuple (by rfl) T.n_tuple b_tuple (je_var rfl 3)))))))⟩
abbrev s_nothing : Stmt := topS 16
theorem sc_nothing : FnScope ["letters", "_"] ["letters"] (defScope s_nothing) := ⟨rfl, rfl, rfl, by decide +kernel, rfl, by decide +kernel, by decide +kernel⟩
theorem jb_nothing {f : Addr} {fd : FuncData} (F : Fun K "nothing" "nothing" s_nothing f fd) (hm : mg "nothing" = some (.ref f)) (bd : Binds K fd ["letters"] []) (T : Tt K mg cl) (h_Machine___init__ : HasI P w K mg base cl "Machine" "Machine" ["self", "letters", "arrows", "ends"] 2 f_Machine___init__) (h_check_letters : HasF P w K mg base cl "check_letters" ["letters"] 1 f_check_letters) : HasF P w K mg base cl "nothing" ["letters"] 4 f_nothing := by
  refine hasF_of F hm bd sc_nothing rfl fun cdv A outer s H E Hs sa hr => ?_
  have tk : Takes (cxOf (L2.CX P w) P w K mg base ["letters", "_"] "nothing" (defScope s_nothing) f cdv A outer s H E) (fun c d _ H => E c d H) := takes_of rfl rfl rfl rfl
  have hp := passes_of (X := (cxOf (L2.CX P w) P w K mg base ["letters", "_"] "nothing" (defScope s_nothing) f cdv A outer s H E)) rfl
  have sc := sc_nothing
  exact ⟨_, js_cons (js_expr (je_call h_check_letters (hr.mono (by decide)) tk (by rfl) (ja_cons (je_var rfl 0) (ja_nil rfl))))
    (js_one (js_ret (je_make h_Machine___init__ (hr.mono (by decide)) tk (by rfl) (ja_cons (je_var rfl 0) (ja_cons (je_lst (ja_cons (je_lc (own := [("_", 1)]) rfl sc.nd (ji_any (je_var rfl 0)) (blkOk_by (own := [("_", 1)]) (N := ["letters", "_"]) (sc := defScope s_nothing) (by decide +kernel)) (fun _ _ _ _ _ _ => jg_name (i := 1) sc.nd rfl (by first | exact Or.inl rfl | exact Or.inr rfl)) (fun _ _ _ _ _ _ => jts_nil) (fun _ _ _ _ _ _ => je_neg (je_int rfl))) (ja_nil rfl))) (ja_cons (je_lst (ja_nil rfl)) (ja_nil rfl)))))))⟩
abbrev s_check_same_letters : Stmt := topS 18
theorem sc_check_same_letters : FnScope ["first", "second"] ["first", "second"] (defScope s_check_same_letters) := ⟨rfl, rfl, rfl, by decide +kernel, rfl, by decide +kernel, by decide +kernel⟩
theorem jb_check_same_letters {f : Addr} {fd : FuncData} (F : Fun K "check_same_letters" "check_same_letters" s_check_same_letters f fd) (hm : mg "check_same_letters" = some (.ref f)) (bd : Binds K fd ["first", "second"] []) (T : Tt K mg cl) : HasF P w K mg base cl "check_same_letters" ["first", "second"] 1 f_check_same_letters := by
  refine hasF_of F hm bd sc_check_same_letters rfl fun cdv A outer s H E Hs sa hr => ?_
  have tk : Takes (cxOf (L2.CX P w) P w K mg base ["first", "second"] "check_same_letters" (defScope s_check_same_letters) f cdv A outer s H E) (fun c d _ H => E c d H) := takes_of rfl rfl rfl rfl
  have hp := passes_of (X := (cxOf (L2.CX P w) P w K mg base ["first", "second"] "check_same_letters" (defScope s_check_same_letters) f cdv A outer s H E)) rfl
  have sc := sc_check_same_letters
  exact ⟨_, js_one (js_if (jt_cmp (op_neAny rfl hr.units) so_ne (je_fld T.cls T.na_letters (je_var rfl 0)) (je_fld T.cls T.na_letters (je_var rfl 1)) (nomark _)) (js_one (js_raise0 rfl rfl T.x_BadLetters tk)) (js_nil rfl))⟩
abbrev s_step : Stmt := topS 19
theorem sc_step : FnScope ["machine", "state", "at"] ["machine", "state", "at"] (defScope s_step) := ⟨rfl, rfl, rfl, by decide +kernel, rfl, by decide +kernel, by decide +kernel⟩
theorem jb_step {f : Addr} {fd : FuncData} (F : Fun K "step" "step" s_step f fd) (hm : mg "step" = some (.ref f)) (bd : Binds K fd ["machine", "state", "at"] []) (T : Tt K mg cl) : HasF P w K mg base cl "step" ["machine", "state", "at"] 1 f_step := by
  refine hasF_of F hm bd sc_step rfl fun cdv A outer s H E Hs sa hr => ?_
  have tk : Takes (cxOf (L2.CX P w) P w K mg base ["machine", "state", "at"] "step" (defScope s_step) f cdv A outer s H E) (fun c d _ H => E c d H) := takes_of rfl rfl rfl rfl
  have hp := passes_of (X := (cxOf (L2.CX P w) P w K mg base ["machine", "state", "at"] "step" (defScope s_step) f cdv A outer s H E)) rfl
  have sc := sc_step
  exact ⟨_, js_cons (js_if (jt_cmp op_ltAny so_lt (je_var rfl 1) (je_int rfl) (nomark _)) (js_one (js_ret (je_neg (je_int rfl)))) (js_nil rfl))
    (js_one (js_ret (je_ix rfl (je_ix rfl (je_fld T.cls T.na_arrows (je_var rfl 0)) (je_var rfl 1)) (je_var rfl 2))))⟩
abbrev s_first_difference : Stmt := topS 20
theorem sc_first_difference : FnScope ["first", "second", "either", "seen", "queue", "at", "word", "left", "right", "held", "other", "place", "letter", "pair"] ["first", "second", "either"] (defScope s_first_difference) := ⟨rfl, rfl, rfl, by decide +kernel, rfl, by decide +kernel, by decide +kernel⟩
theorem jb_first_difference {f : Addr} {fd : FuncData} (F : Fun K "first_difference" "first_difference" s_first_difference f fd) (hm : mg "first_difference" = some (.ref f)) (bd : Binds K fd ["first", "second", "either"] []) (T : Tt K mg cl) (h_check_same_letters : HasF P w K mg base cl "check_same_letters" ["first", "second"] 1 f_check_same_letters) (h_step : HasF P w K mg base cl "step" ["machine", "state", "at"] 1 f_step) : HasF P w K mg base cl "first_difference" ["first", "second", "either"] 2 f_first_difference := by
  refine hasF_of F hm bd sc_first_difference rfl fun cdv A outer s H E Hs sa hr => ?_
  have tk : Takes (cxOf (L2.CX P w) P w K mg base ["first", "second", "either", "seen", "queue", "at", "word", "left", "right", "held", "other", "place", "letter", "pair"] "first_difference" (defScope s_first_difference) f cdv A outer s H E) (fun c d _ H => E c d H) := takes_of rfl rfl rfl rfl
  have hp := passes_of (X := (cxOf (L2.CX P w) P w K mg base ["first", "second", "either", "seen", "queue", "at", "word", "left", "right", "held", "other", "place", "letter", "pair"] "first_difference" (defScope s_first_difference) f cdv A outer s H E)) rfl
  have sc := sc_first_difference
  exact ⟨_, js_cons (js_expr (je_call h_check_same_letters (hr.mono (by decide)) tk (by rfl) (ja_cons (je_var rfl 0) (ja_cons (je_var rfl 1) (ja_nil rfl)))))
    (js_cons (js_set (i := 3) sc.nd rfl (by first | exact Or.inl rfl | exact Or.inr rfl) (je_dispT rfl (hu_of hr) (fun _ => je_tup (ja_cons (je_int rfl) (ja_cons (je_int rfl) (ja_nil rfl)))) (fun _ => je_bl rfl)))
    (js_cons (js_set (i := 4) sc.nd rfl (by first | exact Or.inl rfl | exact Or.inr rfl) (je_lst (ja_cons (je_tup (ja_cons (je_str rfl [] (by decide +kernel)) (ja_cons (je_int rfl) (ja_cons (je_int rfl) (ja_nil rfl))))) (ja_nil rfl))))
    (js_cons (js_set (i := 5) sc.nd rfl (by first | exact Or.inl rfl | exact Or.inr rfl) (je_int rfl))
    (js_cons (js_while hp (jt_cmp op_ltAny so_lt (je_var rfl 5) (je_b1 (call_lenAny (by rfl)) su_len (by rfl) T.n_len b_len (je_var rfl 4)) (nomark _)) (js_cons (js_part (je_ix rfl (je_var rfl 4) (je_var rfl 5)) (jg_tup rfl rfl (jg_cons (jg_name (i := 6) sc.nd rfl (by first | exact Or.inl rfl | exact Or.inr rfl)) (jg_cons (jg_name (i := 7) sc.nd rfl (by first | exact Or.inl rfl | exact Or.inr rfl)) (jg_cons (jg_name (i := 8) sc.nd rfl (by first | exact Or.inl rfl | exact Or.inr rfl)) (jg_nil))))))
    (js_cons (js_augAdd (i := 5) sc.nd rfl (by first | exact Or.inl rfl | exact Or.inr rfl) (je_int rfl))
    (js_cons (js_set (i := 9) sc.nd rfl (by first | exact Or.inl rfl | exact Or.inr rfl) (je_cmp (op_inAny rfl) so_in (je_var rfl 7) (je_fld T.cls T.na_ends (je_var rfl 0)) rfl))
    (js_cons (js_set (i := 10) sc.nd rfl (by first | exact Or.inl rfl | exact Or.inr rfl) (je_cmp (op_inAny rfl) so_in (je_var rfl 8) (je_fld T.cls T.na_ends (je_var rfl 1)) rfl))
    (js_cons (js_if ((jw_or ((jw_and (jt_val (je_var rfl 9)) (jw_and1 (jt_not (jt_val (je_var rfl 10))))).jt) (jw_or1 ((jw_and (jt_val (je_var rfl 2)) (jw_and (jt_val (je_var rfl 10)) (jw_and1 (jt_not (jt_val (je_var rfl 9)))))).jt))).jt) (js_one (js_ret (je_var rfl 6))) (js_nil rfl))
    (js_one (js_for hp rfl (ji_enum rfl T.n_enumerate (je_fld T.cls T.na_letters (je_var rfl 0))) (jg_tup rfl rfl (jg_cons (jg_name (i := 11) sc.nd rfl (by first | exact Or.inl rfl | exact Or.inr rfl)) (jg_cons (jg_name (i := 12) sc.nd rfl (by first | exact Or.inl rfl | exact Or.inr rfl)) (jg_nil)))) (js_cons (js_set (i := 13) sc.nd rfl (by first | exact Or.inl rfl | exact Or.inr rfl) (je_tup (ja_cons (je_call h_step (hr.mono (by decide)) tk (by rfl) (ja_cons (je_var rfl 0) (ja_cons (je_var rfl 7) (ja_cons (je_var rfl 11) (ja_nil rfl))))) (ja_cons (je_call h_step (hr.mono (by decide)) tk (by rfl) (ja_cons (je_var rfl 1) (ja_cons (je_var rfl 8) (ja_cons (je_var rfl 11) (ja_nil rfl))))) (ja_nil rfl)))))
    (js_one (js_if (jt_dinN rfl (hu_of hr) (je_var rfl 13) (je_var rfl 3)) (js_cons (js_dput rfl (hu_of hr) (i := 3) (je_var rfl 13) (je_bl rfl))
    (js_one (js_append (i := 4) rfl (je_tup (ja_cons (je_bin op_addAny so_add (je_var rfl 6) (je_var rfl 12)) (ja_cons (je_ix rfl (je_var rfl 13) (je_int rfl)) (ja_cons (je_ix rfl (je_var rfl 13) (je_int rfl)) (ja_nil rfl)))))))) (js_nil rfl))))))))))))
    (js_one (js_ret (je_non rfl)))))))⟩
abbrev s_parting_word : Stmt := topS 21
theorem sc_parting_word : FnScope ["first", "second"] ["first", "second"] (defScope s_parting_word) := ⟨rfl, rfl, rfl, by decide +kernel, rfl, by decide +kernel, by decide +kernel⟩
theorem jb_parting_word {f : Addr} {fd : FuncData} (F : Fun K "parting_word" "parting_word" s_parting_word f fd) (hm : mg "parting_word" = some (.ref f)) (bd : Binds K fd ["first", "second"] []) (T : Tt K mg cl) (h_first_difference : HasF P w K mg base cl "first_difference" ["first", "second", "either"] 2 f_first_difference) : HasF P w K mg base cl "parting_word" ["first", "second"] 3 f_parting_word := by
  refine hasF_of F hm bd sc_parting_word rfl fun cdv A outer s H E Hs sa hr => ?_
  have tk : Takes (cxOf (L2.CX P w) P w K mg base ["first", "second"] "parting_word" (defScope s_parting_word) f cdv A outer s H E) (fun c d _ H => E c d H) := takes_of rfl rfl rfl rfl
  have hp := passes_of (X := (cxOf (L2.CX P w) P w K mg base ["first", "second"] "parting_word" (defScope s_parting_word) f cdv A outer s H E)) rfl
  have sc := sc_parting_word
  exact ⟨_, js_one (js_ret (je_call h_first_difference (hr.mono (by decide)) tk (by rfl) (ja_cons (je_var rfl 0) (ja_cons (je_var rfl 1) (ja_cons (je_bl rfl) (ja_nil rfl))))))⟩
abbrev s_extra_word : Stmt := topS 22
theorem sc_extra_word : FnScope ["first", "second"] ["first", "second"] (defScope s_extra_word) := ⟨rfl, rfl, rfl, by decide +kernel, rfl, by decide +kernel, by decide +kernel⟩
theorem jb_extra_word {f : Addr} {fd : FuncData} (F : Fun K "extra_word" "extra_word" s_extra_word f fd) (hm : mg "extra_word" = some (.ref f)) (bd : Binds K fd ["first", "second"] []) (T : Tt K mg cl) (h_first_difference : HasF P w K mg base cl "first_difference" ["first", "second", "either"] 2 f_first_difference) : HasF P w K mg base cl "extra_word" ["first", "second"] 3 f_extra_word := by
  refine hasF_of F hm bd sc_extra_word rfl fun cdv A outer s H E Hs sa hr => ?_
  have tk : Takes (cxOf (L2.CX P w) P w K mg base ["first", "second"] "extra_word" (defScope s_extra_word) f cdv A outer s H E) (fun c d _ H => E c d H) := takes_of rfl rfl rfl rfl
  have hp := passes_of (X := (cxOf (L2.CX P w) P w K mg base ["first", "second"] "extra_word" (defScope s_extra_word) f cdv A outer s H E)) rfl
  have sc := sc_extra_word
  exact ⟨_, js_one (js_ret (je_call h_first_difference (hr.mono (by decide)) tk (by rfl) (ja_cons (je_var rfl 0) (ja_cons (je_var rfl 1) (ja_cons (je_bl rfl) (ja_nil rfl))))))⟩
abbrev s_first_word : Stmt := topS 23
theorem sc_first_word : FnScope ["machine"] ["machine"] (defScope s_first_word) := ⟨rfl, rfl, rfl, by decide +kernel, rfl, by decide +kernel, by decide +kernel⟩
theorem jb_first_word {f : Addr} {fd : FuncData} (F : Fun K "first_word" "first_word" s_first_word f fd) (hm : mg "first_word" = some (.ref f)) (bd : Binds K fd ["machine"] []) (T : Tt K mg cl) (h_first_difference : HasF P w K mg base cl "first_difference" ["first", "second", "either"] 2 f_first_difference) (h_nothing : HasF P w K mg base cl "nothing" ["letters"] 4 f_nothing) : HasF P w K mg base cl "first_word" ["machine"] 5 f_first_word := by
  refine hasF_of F hm bd sc_first_word rfl fun cdv A outer s H E Hs sa hr => ?_
  have tk : Takes (cxOf (L2.CX P w) P w K mg base ["machine"] "first_word" (defScope s_first_word) f cdv A outer s H E) (fun c d _ H => E c d H) := takes_of rfl rfl rfl rfl
  have hp := passes_of (X := (cxOf (L2.CX P w) P w K mg base ["machine"] "first_word" (defScope s_first_word) f cdv A outer s H E)) rfl
  have sc := sc_first_word
  exact ⟨_, js_one (js_ret (je_call h_first_difference (hr.mono (by decide)) tk (by rfl) (ja_cons (je_var rfl 0) (ja_cons (je_call h_nothing (hr.mono (by decide)) tk (by rfl) (ja_cons (je_fld T.cls T.na_letters (je_var rfl 0)) (ja_nil rfl))) (ja_cons (je_bl rfl) (ja_nil rfl))))))⟩
abbrev s__law_start : Stmt := topS 25
theorem sc__law_start : FnScope ["script", "cells", "cell"] ["script"] (defScope s__law_start) := ⟨rfl, rfl, rfl, by decide +kernel, rfl, by decide +kernel, by decide +kernel⟩
theorem jb__law_start {f : Addr} {fd : FuncData} (F : Fun K "_law_start" "_law_start" s__law_start f fd) (hm : mg "_law_start" = some (.ref f)) (bd : Binds K fd ["script"] []) (T : Tt K mg cl) (hd : ∀ (ns : List Int) (Q : Y.T → Prop), ns.length ≤ 63 → startQ Q → d__law_start ns { nx := fun _ => Q (.d .non), rt := Q, bk := fun _ => False, ct := fun _ => False, ex := fun _ _ => False } [none, none, none]) : HasStart P w K mg base "_law_start" 1 := by
  refine hasStart_of (cl := cl) F hm bd sc__law_start (fun cdv A outer s H E a ns hr hS => ?_) hd
  have tk : Takes (cxOf (L2.CX P w) P w K mg base ["script", "cells", "cell"] "_law_start" (defScope s__law_start) f cdv A outer s H E) (fun c d _ H => E c d H) := takes_of rfl rfl rfl rfl
  have hp := passes_of (X := (cxOf (L2.CX P w) P w K mg base ["script", "cells", "cell"] "_law_start" (defScope s__law_start) f cdv A outer s H E)) rfl
  have sc := sc__law_start
  exact ⟨_, js_cons (js_setLc (i := 1) (own := [("cell", 2)]) rfl sc.nd rfl rfl (sw_true rfl rfl rfl (by decide +kernel)) (ji_scr rfl rfl hS) (blkOk_by (own := [("cell", 2)]) (N := ["script", "cells", "cell"]) (sc := defScope s__law_start) (by decide +kernel)) (fun _ _ _ _ _ _ => jg_name (i := 2) sc.nd rfl (by first | exact Or.inl rfl | exact Or.inr rfl)) (fun _ _ _ _ _ _ => jts_nil) (fun _ _ _ _ _ _ => je_b1 call_absAny su_abs (by rfl) T.n_abs b_abs (je_var rfl 2)))
    (js_cons (js_if (jt_cmp (op_eqAny rfl hr.units) so_eq (je_b1 (call_lenAny (by rfl)) su_len (by rfl) T.n_len b_len (je_var rfl 1)) (je_int rfl) (nomark _)) (js_one (js_set (i := 1) sc.nd rfl (by first | exact Or.inl rfl | exact Or.inr rfl) (je_lst (ja_cons (je_int rfl) (ja_nil rfl))))) (js_nil rfl))
    (js_one (js_ret (je_lst (ja_cons (je_var rfl 1) (ja_cons (je_int rfl) (ja_cons (je_int rfl) (ja_cons (je_int rfl) (ja_nil rfl)))))))))⟩
abbrev s__law_next : Stmt := topS 26
theorem sc__law_next : FnScope ["state", "many", "cells", "cell", "told", "turn", "mixed"] ["state", "many"] (defScope s__law_next) := ⟨rfl, rfl, rfl, by decide +kernel, rfl, by decide +kernel, by decide +kernel⟩
theorem jb__law_next {f : Addr} {fd : FuncData} (F : Fun K "_law_next" "_law_next" s__law_next f fd) (hm : mg "_law_next" = some (.ref f)) (bd : Binds K fd ["state", "many"] []) (T : Tt K mg cl) : HasF P w K mg base cl "_law_next" ["state", "many"] 1 f__law_next := by
  refine hasF_of F hm bd sc__law_next rfl fun cdv A outer s H E Hs sa hr => ?_
  have tk : Takes (cxOf (L2.CX P w) P w K mg base ["state", "many", "cells", "cell", "told", "turn", "mixed"] "_law_next" (defScope s__law_next) f cdv A outer s H E) (fun c d _ H => E c d H) := takes_of rfl rfl rfl rfl
  have hp := passes_of (X := (cxOf (L2.CX P w) P w K mg base ["state", "many", "cells", "cell", "told", "turn", "mixed"] "_law_next" (defScope s__law_next) f cdv A outer s H E)) rfl
  have sc := sc__law_next
  exact ⟨_, js_cons (js_set (i := 2) sc.nd rfl (by first | exact Or.inl rfl | exact Or.inr rfl) (je_st0 rfl 0))
    (js_cons (js_set (i := 3) sc.nd rfl (by first | exact Or.inl rfl | exact Or.inr rfl) (je_ix rfl (je_var rfl 2) (je_bin op_mod so_mod (je_t1 call_intAny su_int (by rfl) T.n_int b_int (je_stk rfl 0 1 (by decide))) (je_b1 (call_lenAny (by rfl)) su_len (by rfl) T.n_len b_len (je_var rfl 2)))))
    (js_cons (js_if ((jw_and (jt_cmp op_geAny so_ge (je_var rfl 3) (je_bin op_pow so_pow (je_int rfl) (je_int rfl)) (nomark _)) (jw_and1 (jt_cmp op_ltAny so_lt (je_stk rfl 0 1 (by decide)) (je_b1 (call_lenAny (by rfl)) su_len (by rfl) T.n_len b_len (je_var rfl 2)) (nomark _)))).jt) (js_cons (js_if (jt_cmp (op_eqAny rfl hr.units) so_eq (je_stk rfl 0 3 (by decide)) (je_int rfl) (nomark _)) (js_one (js_stput (k := 2) rfl (by decide) (je_var rfl 3))) (js_nil rfl))
    (js_cons (js_set (i := 4) sc.nd rfl (by first | exact Or.inl rfl | exact Or.inr rfl) (je_bin op_mod so_mod (je_t1 call_intAny su_int (by rfl) T.n_int b_int (je_stk rfl 0 2 (by decide))) (je_var rfl 1)))
    (js_cons (js_stput (k := 2) rfl (by decide) (je_bin op_fdiv so_div (je_t1 call_intAny su_int (by rfl) T.n_int b_int (je_stk rfl 0 2 (by decide))) (je_var rfl 1)))
    (js_cons (js_stput (k := 3) rfl (by decide) (je_bin op_addAny so_add (je_stk rfl 0 3 (by decide)) (je_int rfl)))
    (js_cons (js_if ((jw_or (jt_cmp (op_eqAny rfl hr.units) so_eq (je_stk rfl 0 2 (by decide)) (je_int rfl) (nomark _)) (jw_or1 (jt_cmp op_geAny so_ge (je_stk rfl 0 3 (by decide)) (je_int rfl) (nomark _)))).jt) (js_cons (js_stput (k := 1) rfl (by decide) (je_bin op_addAny so_add (je_stk rfl 0 1 (by decide)) (je_int rfl)))
    (js_one (js_stput (k := 3) rfl (by decide) (je_int rfl)))) (js_nil rfl))
    (js_one (js_ret (je_var rfl 4)))))))) (js_nil rfl))
    (js_cons (js_set (i := 5) sc.nd rfl (by first | exact Or.inl rfl | exact Or.inr rfl) (je_bin op_addAny so_add (je_stk rfl 0 3 (by decide)) (je_bin op_mul so_mul (je_int rfl) (je_stk rfl 0 1 (by decide)))))
    (js_cons (js_set (i := 6) sc.nd rfl (by first | exact Or.inl rfl | exact Or.inr rfl) (je_bin op_mul so_mul (je_bin op_addAny so_add (je_bin op_mod so_mod (je_t1 call_intAny su_int (by rfl) T.n_int b_int (je_var rfl 3)) (je_int rfl)) (je_int rfl)) (je_bin op_addAny so_add (je_int rfl) (je_bin op_mul so_mul (je_int rfl) (je_var rfl 5)))))
    (js_cons (js_set (i := 6) sc.nd rfl (by first | exact Or.inl rfl | exact Or.inr rfl) (je_bin op_mod so_mod (je_t1 call_intAny su_int (by rfl) T.n_int b_int (je_var rfl 6)) (je_int rfl)))
    (js_cons (js_set (i := 6) sc.nd rfl (by first | exact Or.inl rfl | exact Or.inr rfl) (je_bin op_mod so_mod (je_t1 call_intAny su_int (by rfl) T.n_int b_int (je_bin op_addAny so_add (je_bin op_addAny so_add (je_bin op_mul so_mul (je_var rfl 6) (je_var rfl 6)) (je_bin op_mul so_mul (je_int rfl) (je_var rfl 5))) (je_int rfl))) (je_int rfl)))
    (js_cons (js_stput (k := 3) rfl (by decide) (je_bin op_addAny so_add (je_stk rfl 0 3 (by decide)) (je_int rfl)))
    (js_cons (js_if (jt_cmp op_geAny so_ge (je_stk rfl 0 3 (by decide)) (je_int rfl) (nomark _)) (js_cons (js_stput (k := 1) rfl (by decide) (je_bin op_addAny so_add (je_stk rfl 0 1 (by decide)) (je_int rfl)))
    (js_one (js_stput (k := 3) rfl (by decide) (je_int rfl)))) (js_nil rfl))
    (js_one (js_ret (je_bin op_mod so_mod (je_t1 call_intAny su_int (by rfl) T.n_int b_int (je_bin op_fdiv so_div (je_var rfl 6) (je_int rfl))) (je_var rfl 1))))))))))))⟩
abbrev s__law_rows : Stmt := topS 27
theorem sc__law_rows : FnScope ["state", "letters", "size", "rows", "k", "row", "letter", "choice"] ["state", "letters", "size"] (defScope s__law_rows) := ⟨rfl, rfl, rfl, by decide +kernel, rfl, by decide +kernel, by decide +kernel⟩
theorem jb__law_rows {f : Addr} {fd : FuncData} (F : Fun K "_law_rows" "_law_rows" s__law_rows f fd) (hm : mg "_law_rows" = some (.ref f)) (bd : Binds K fd ["state", "letters", "size"] []) (T : Tt K mg cl) (h__law_next : HasF P w K mg base cl "_law_next" ["state", "many"] 1 fNext) : HasF P w K mg base cl "_law_rows" ["state", "letters", "size"] 2 f__law_rows := by
  refine hasF_of F hm bd sc__law_rows rfl fun cdv A outer s H E Hs sa hr => ?_
  have tk : Takes (cxOf (L2.CX P w) P w K mg base ["state", "letters", "size", "rows", "k", "row", "letter", "choice"] "_law_rows" (defScope s__law_rows) f cdv A outer s H E) (fun c d _ H => E c d H) := takes_of rfl rfl rfl rfl
  have hp := passes_of (X := (cxOf (L2.CX P w) P w K mg base ["state", "letters", "size", "rows", "k", "row", "letter", "choice"] "_law_rows" (defScope s__law_rows) f cdv A outer s H E)) rfl
  have sc := sc__law_rows
  exact ⟨_, js_cons (js_set (i := 3) sc.nd rfl (by first | exact Or.inl rfl | exact Or.inr rfl) (je_lst (ja_nil rfl)))
    (js_cons (js_for hp rfl (ji_range1 rfl T.n_range (je_var rfl 2)) (jg_name (i := 4) sc.nd rfl (by first | exact Or.inl rfl | exact Or.inr rfl)) (js_cons (js_set (i := 5) sc.nd rfl (by first | exact Or.inl rfl | exact Or.inr rfl) (je_lst (ja_nil rfl)))
    (js_cons (js_for hp rfl (ji_any (je_var rfl 1)) (jg_name (i := 6) sc.nd rfl (by first | exact Or.inl rfl | exact Or.inr rfl)) (js_cons (js_set (i := 7) sc.nd rfl (by first | exact Or.inl rfl | exact Or.inr rfl) (je_draw h__law_next (hr.mono (by decide)) tk (by rfl) (je_var rfl 0) (je_int rfl)))
    (js_one (js_if (jt_cmp (op_eqAny rfl hr.units) so_eq (je_var rfl 7) (je_int rfl) (nomark _)) (js_one (js_append (i := 5) rfl (je_neg (je_int rfl)))) (js_one (js_if (jt_cmp (op_eqAny rfl hr.units) so_eq (je_var rfl 7) (je_int rfl) (nomark _)) (js_one (js_append (i := 5) rfl (je_bin op_mod so_mod (je_t1 call_intAny su_int (by rfl) T.n_int b_int (je_bin op_addAny so_add (je_var rfl 4) (je_int rfl))) (je_var rfl 2)))) (js_one (js_append (i := 5) rfl (je_draw h__law_next (hr.mono (by decide)) tk (by rfl) (je_var rfl 0) (je_var rfl 2))))))))))
    (js_one (js_append (i := 3) rfl (je_var rfl 5))))))
    (js_one (js_ret (je_var rfl 3))))⟩
abbrev s__law_changed : Stmt := topS 28
theorem sc__law_changed : FnScope ["state", "letters", "rows", "ends", "choice", "where", "at", "size", "double", "row", "k"] ["state", "letters", "rows", "ends"] (defScope s__law_changed) := ⟨rfl, rfl, rfl, by decide +kernel, rfl, by decide +kernel, by decide +kernel⟩
theorem jb__law_changed {f : Addr} {fd : FuncData} (F : Fun K "_law_changed" "_law_changed" s__law_changed f fd) (hm : mg "_law_changed" = some (.ref f)) (bd : Binds K fd ["state", "letters", "rows", "ends"] []) (T : Tt K mg cl) (h__law_next : HasF P w K mg base cl "_law_next" ["state", "many"] 1 fNext) (h__law_rows : HasF P w K mg base cl "_law_rows" ["state", "letters", "size"] 2 f__law_rows) : HasF P w K mg base cl "_law_changed" ["state", "letters", "rows", "ends"] 3 f__law_changed := by
  refine hasF_of F hm bd sc__law_changed rfl fun cdv A outer s H E Hs sa hr => ?_
  have tk : Takes (cxOf (L2.CX P w) P w K mg base ["state", "letters", "rows", "ends", "choice", "where", "at", "size", "double", "row", "k"] "_law_changed" (defScope s__law_changed) f cdv A outer s H E) (fun c d _ H => E c d H) := takes_of rfl rfl rfl rfl
  have hp := passes_of (X := (cxOf (L2.CX P w) P w K mg base ["state", "letters", "rows", "ends", "choice", "where", "at", "size", "double", "row", "k"] "_law_changed" (defScope s__law_changed) f cdv A outer s H E)) rfl
  have sc := sc__law_changed
  exact ⟨_, js_cons (js_rowsLc (i := 2) (own := [("row", 9)]) rfl sc.nd rfl rfl (sw_true rfl rfl rfl (by decide +kernel)) (ji_any (je_var rfl 2)) (blkOk_by (own := [("row", 9)]) (N := ["state", "letters", "rows", "ends", "choice", "where", "at", "size", "double", "row", "k"]) (sc := defScope s__law_changed) (by decide +kernel)) (fun _ _ _ _ _ _ => jg_name (i := 9) sc.nd rfl (by first | exact Or.inl rfl | exact Or.inr rfl)) (fun _ _ _ _ _ _ => jts_nil) (fun _ _ _ _ _ _ => je_t1 (call_listAny (by rfl)) su_list (by rfl) T.n_list b_list (je_var rfl 9)))
    (js_cons (js_set (i := 3) sc.nd rfl (by first | exact Or.inl rfl | exact Or.inr rfl) (je_t1 (call_listAny (by rfl)) su_list (by rfl) T.n_list b_list (je_var rfl 3)))
    (js_cons (js_set (i := 4) sc.nd rfl (by first | exact Or.inl rfl | exact Or.inr rfl) (je_draw h__law_next (hr.mono (by decide)) tk (by rfl) (je_var rfl 0) (je_int rfl)))
    (js_cons (js_set (i := 5) sc.nd rfl (by first | exact Or.inl rfl | exact Or.inr rfl) (je_draw h__law_next (hr.mono (by decide)) tk (by rfl) (je_var rfl 0) (je_rowsLen rfl 2 (by rfl) T.n_len b_len)))
    (js_cons (js_set (i := 6) sc.nd rfl (by first | exact Or.inl rfl | exact Or.inr rfl) (je_draw h__law_next (hr.mono (by decide)) tk (by rfl) (je_var rfl 0) (je_b1 (call_lenAny (by rfl)) su_len (by rfl) T.n_len b_len (je_var rfl 1))))
    (js_cons (js_if (jt_cmp (op_eqAny rfl hr.units) so_eq (je_var rfl 4) (je_int rfl) (nomark _)) (js_cons (js_set (i := 7) sc.nd rfl (by first | exact Or.inl rfl | exact Or.inr rfl) (je_bin op_addAny so_add (je_int rfl) (je_draw h__law_next (hr.mono (by decide)) tk (by rfl) (je_var rfl 0) (je_int rfl))))
    (js_cons (js_set (i := 2) sc.nd rfl (by first | exact Or.inl rfl | exact Or.inr rfl) (je_call h__law_rows (hr.mono (by decide)) tk (by rfl) (ja_cons (je_var rfl 0) (ja_cons (je_var rfl 1) (ja_cons (je_var rfl 7) (ja_nil rfl))))))
    (js_one (js_set (i := 3) sc.nd rfl (by first | exact Or.inl rfl | exact Or.inr rfl) (je_lc (own := [("k", 10)]) rfl sc.nd (ji_range1 rfl T.n_range (je_var rfl 7)) (blkOk_by (own := [("k", 10)]) (N := ["state", "letters", "rows", "ends", "choice", "where", "at", "size", "double", "row", "k"]) (sc := defScope s__law_changed) (by decide +kernel)) (fun _ _ _ _ _ _ => jg_name (i := 10) sc.nd rfl (by first | exact Or.inl rfl | exact Or.inr rfl)) (fun _ _ _ _ _ _ => jts_one (jt_cmp (op_eqAny rfl hr.units) so_eq (by exact je_draw h__law_next (hr.mono (by decide)) takes0 (by rfl) (je_var rfl 0) (je_int rfl)) (je_int rfl) (nomark _))) (fun _ _ _ _ _ _ => je_var rfl 10)))))) (js_one (js_if (jt_cmp (op_eqAny rfl hr.units) so_eq (je_var rfl 4) (je_int rfl) (nomark _)) (js_one (js_rowsPut rfl (i := 2) (je_var rfl 5) (je_var rfl 6) (je_bin op_sub so_sub (je_draw h__law_next (hr.mono (by decide)) tk (by rfl) (je_var rfl 0) (je_bin op_addAny so_add (je_rowsLen rfl 2 (by rfl) T.n_len b_len) (je_int rfl))) (je_int rfl)))) (js_one (js_if (jt_cmp (op_eqAny rfl hr.units) so_eq (je_var rfl 4) (je_int rfl) (nomark _)) (js_one (js_set (i := 3) sc.nd rfl (by first | exact Or.inl rfl | exact Or.inr rfl) (je_lc (own := [("k", 10)]) rfl sc.nd (ji_range1 rfl T.n_range (je_rowsLen rfl 2 (by rfl) T.n_len b_len)) (blkOk_by (own := [("k", 10)]) (N := ["state", "letters", "rows", "ends", "choice", "where", "at", "size", "double", "row", "k"]) (sc := defScope s__law_changed) (by decide +kernel)) (fun _ _ _ _ _ _ => jg_name (i := 10) sc.nd rfl (by first | exact Or.inl rfl | exact Or.inr rfl)) (fun _ _ _ _ _ _ => jts_one (jt_cmp (op_neAny rfl hr.units) so_ne (je_cmp (op_inAny rfl) so_in (je_var rfl 10) (je_var rfl 3) rfl) (je_cmp (op_eqAny rfl hr.units) so_eq (je_var rfl 10) (je_var rfl 5) (nomark _)) (nomark _))) (fun _ _ _ _ _ _ => je_var rfl 10)))) (js_cons (js_set (i := 8) sc.nd rfl (by first | exact Or.inl rfl | exact Or.inr rfl) (je_rowsLen rfl 2 (by rfl) T.n_len b_len))
    (js_cons (js_rowsApp (i := 2) rfl (je_rowsCopy rfl 2 (by rfl) T.n_list b_list (je_var rfl 5)))
    (js_cons (js_rowsFix (i := 2) (j := 9) (aI := 6) (wI := 5) (nI := 8) rfl hp rfl sc.nd so_eq (js_one (js_if (jt_cmp (op_eqAny rfl hr.units) so_eq (je_ix rfl (je_var rfl 9) (je_var rfl 6)) (je_var rfl 5) (nomark _)) (js_one (js_store rfl (i := 9) (je_var rfl 6) (je_var rfl 8))) (js_nil rfl))) rfl rfl (by first | exact Or.inl rfl | exact Or.inr rfl) (by decide) (by decide) (by decide) (by decide))
    (js_one (js_if (jt_cmp (op_inAny rfl) so_in (je_var rfl 5) (je_var rfl 3) rfl) (js_one (js_append (i := 3) rfl (je_var rfl 8))) (js_nil rfl)))))))))))
    (js_one (js_frz 2 (js_ret (je_tup (ja_cons (je_var rfl 2) (ja_cons (je_var rfl 3) (ja_nil rfl))))))))))))⟩
abbrev s__law_ring : Stmt := topS 29
theorem sc__law_ring : FnScope ["letters", "place", "size", "ends", "rows", "k", "row", "letter"] ["letters", "place", "size", "ends"] (defScope s__law_ring) := ⟨rfl, rfl, rfl, by decide +kernel, rfl, by decide +kernel, by decide +kernel⟩
theorem jb__law_ring {f : Addr} {fd : FuncData} (F : Fun K "_law_ring" "_law_ring" s__law_ring f fd) (hm : mg "_law_ring" = some (.ref f)) (bd : Binds K fd ["letters", "place", "size", "ends"] []) (T : Tt K mg cl) : HasF P w K mg base cl "_law_ring" ["letters", "place", "size", "ends"] 1 f__law_ring := by
  refine hasF_of F hm bd sc__law_ring rfl fun cdv A outer s H E Hs sa hr => ?_
  have tk : Takes (cxOf (L2.CX P w) P w K mg base ["letters", "place", "size", "ends", "rows", "k", "row", "letter"] "_law_ring" (defScope s__law_ring) f cdv A outer s H E) (fun c d _ H => E c d H) := takes_of rfl rfl rfl rfl
  have hp := passes_of (X := (cxOf (L2.CX P w) P w K mg base ["letters", "place", "size", "ends", "rows", "k", "row", "letter"] "_law_ring" (defScope s__law_ring) f cdv A outer s H E)) rfl
  have sc := sc__law_ring
  exact ⟨_, js_cons (js_set (i := 4) sc.nd rfl (by first | exact Or.inl rfl | exact Or.inr rfl) (je_lst (ja_nil rfl)))
    (js_cons (js_for hp rfl (ji_range1 rfl T.n_range (je_var rfl 2)) (jg_name (i := 5) sc.nd rfl (by first | exact Or.inl rfl | exact Or.inr rfl)) (js_cons (js_setLc (i := 6) (own := [("letter", 7)]) rfl sc.nd rfl rfl (sw_true rfl rfl rfl (by decide +kernel)) (ji_any (je_var rfl 0)) (blkOk_by (own := [("letter", 7)]) (N := ["letters", "place", "size", "ends", "rows", "k", "row", "letter"]) (sc := defScope s__law_ring) (by decide +kernel)) (fun _ _ _ _ _ _ => jg_name (i := 7) sc.nd rfl (by first | exact Or.inl rfl | exact Or.inr rfl)) (fun _ _ _ _ _ _ => jts_nil) (fun _ _ _ _ _ _ => je_neg (je_int rfl)))
    (js_cons (js_store rfl (i := 6) (je_var rfl 1) (je_bin op_mod so_mod (je_t1 call_intAny su_int (by rfl) T.n_int b_int (je_bin op_addAny so_add (je_var rfl 5) (je_int rfl))) (je_var rfl 2)))
    (js_one (js_append (i := 4) rfl (je_var rfl 6))))))
    (js_one (js_ret (je_tup (ja_cons (je_var rfl 4) (ja_cons (je_var rfl 3) (ja_nil rfl)))))))⟩
abbrev s__law_step : Stmt := topS 30
theorem sc__law_step : FnScope ["rows", "state", "at"] ["rows", "state", "at"] (defScope s__law_step) := ⟨rfl, rfl, rfl, by decide +kernel, rfl, by decide +kernel, by decide +kernel⟩
theorem jb__law_step {f : Addr} {fd : FuncData} (F : Fun K "_law_step" "_law_step" s__law_step f fd) (hm : mg "_law_step" = some (.ref f)) (bd : Binds K fd ["rows", "state", "at"] []) (T : Tt K mg cl) : HasF P w K mg base cl "_law_step" ["rows", "state", "at"] 1 f__law_step := by
  refine hasF_of F hm bd sc__law_step rfl fun cdv A outer s H E Hs sa hr => ?_
  have tk : Takes (cxOf (L2.CX P w) P w K mg base ["rows", "state", "at"] "_law_step" (defScope s__law_step) f cdv A outer s H E) (fun c d _ H => E c d H) := takes_of rfl rfl rfl rfl
  have hp := passes_of (X := (cxOf (L2.CX P w) P w K mg base ["rows", "state", "at"] "_law_step" (defScope s__law_step) f cdv A outer s H E)) rfl
  have sc := sc__law_step
  exact ⟨_, js_cons (js_if (jt_cmp op_ltAny so_lt (je_var rfl 1) (je_int rfl) (nomark _)) (js_one (js_ret (je_neg (je_int rfl)))) (js_nil rfl))
    (js_one (js_ret (je_ix rfl (je_ix rfl (je_var rfl 0) (je_var rfl 1)) (je_var rfl 2))))⟩
abbrev s__law_first : Stmt := topS 31
theorem sc__law_first : FnScope ["letters", "one", "other", "either", "queue", "seen", "turn", "word", "left", "right", "held", "also", "at", "pair"] ["letters", "one", "other", "either"] (defScope s__law_first) := ⟨rfl, rfl, rfl, by decide +kernel, rfl, by decide +kernel, by decide +kernel⟩
theorem jb__law_first {f : Addr} {fd : FuncData} (F : Fun K "_law_first" "_law_first" s__law_first f fd) (hm : mg "_law_first" = some (.ref f)) (bd : Binds K fd ["letters", "one", "other", "either"] []) (T : Tt K mg cl) (h__law_step : HasF P w K mg base cl "_law_step" ["rows", "state", "at"] 1 f__law_step) : HasF P w K mg base cl "_law_first" ["letters", "one", "other", "either"] 2 f__law_first := by
  refine hasF_of F hm bd sc__law_first rfl fun cdv A outer s H E Hs sa hr => ?_
  have tk : Takes (cxOf (L2.CX P w) P w K mg base ["letters", "one", "other", "either", "queue", "seen", "turn", "word", "left", "right", "held", "also", "at", "pair"] "_law_first" (defScope s__law_first) f cdv A outer s H E) (fun c d _ H => E c d H) := takes_of rfl rfl rfl rfl
  have hp := passes_of (X := (cxOf (L2.CX P w) P w K mg base ["letters", "one", "other", "either", "queue", "seen", "turn", "word", "left", "right", "held", "also", "at", "pair"] "_law_first" (defScope s__law_first) f cdv A outer s H E)) rfl
  have sc := sc__law_first
  exact ⟨_, js_cons (js_set (i := 4) sc.nd rfl (by first | exact Or.inl rfl | exact Or.inr rfl) (je_lst (ja_cons (je_tup (ja_cons (je_str rfl [] (by decide +kernel)) (ja_cons (je_int rfl) (ja_cons (je_int rfl) (ja_nil rfl))))) (ja_nil rfl))))
    (js_cons (js_set (i := 5) sc.nd rfl (by first | exact Or.inl rfl | exact Or.inr rfl) (je_dnewT rfl))
    (js_cons (js_dput rfl (hu_of hr) (i := 5) (je_tup (ja_cons (je_int rfl) (ja_cons (je_int rfl) (ja_nil rfl)))) (je_bl rfl))
    (js_cons (js_for hp rfl (ji_range1 rfl T.n_range (je_bin op_mul so_mul (je_bin op_addAny so_add (je_b1 (call_lenAny (by rfl)) su_len (by rfl) T.n_len b_len (je_ix rfl (je_var rfl 1) (je_int rfl))) (je_int rfl)) (je_bin op_addAny so_add (je_b1 (call_lenAny (by rfl)) su_len (by rfl) T.n_len b_len (je_ix rfl (je_var rfl 2) (je_int rfl))) (je_int rfl)))) (jg_name (i := 6) sc.nd rfl (by first | exact Or.inl rfl | exact Or.inr rfl)) (js_cons (js_if (jt_cmp op_geAny so_ge (je_var rfl 6) (je_b1 (call_lenAny (by rfl)) su_len (by rfl) T.n_len b_len (je_var rfl 4)) (nomark _)) (js_one (js_ret (je_non rfl))) (js_nil rfl))
    (js_cons (js_part (je_ix rfl (je_var rfl 4) (je_var rfl 6)) (jg_tup rfl rfl (jg_cons (jg_name (i := 7) sc.nd rfl (by first | exact Or.inl rfl | exact Or.inr rfl)) (jg_cons (jg_name (i := 8) sc.nd rfl (by first | exact Or.inl rfl | exact Or.inr rfl)) (jg_cons (jg_name (i := 9) sc.nd rfl (by first | exact Or.inl rfl | exact Or.inr rfl)) (jg_nil))))))
    (js_cons (js_set (i := 10) sc.nd rfl (by first | exact Or.inl rfl | exact Or.inr rfl) (je_cmp (op_inAny rfl) so_in (je_var rfl 8) (je_ix rfl (je_var rfl 1) (je_int rfl)) rfl))
    (js_cons (js_set (i := 11) sc.nd rfl (by first | exact Or.inl rfl | exact Or.inr rfl) (je_cmp (op_inAny rfl) so_in (je_var rfl 9) (je_ix rfl (je_var rfl 2) (je_int rfl)) rfl))
    (js_cons (js_if ((jw_and (jt_val (je_var rfl 10)) (jw_and1 (jt_not (jt_val (je_var rfl 11))))).jt) (js_one (js_ret (je_var rfl 7))) (js_nil rfl))
    (js_cons (js_if ((jw_and (jt_val (je_var rfl 3)) (jw_and (jt_val (je_var rfl 11)) (jw_and1 (jt_not (jt_val (je_var rfl 10)))))).jt) (js_one (js_ret (je_var rfl 7))) (js_nil rfl))
    (js_one (js_for hp rfl (ji_range1 rfl T.n_range (je_b1 (call_lenAny (by rfl)) su_len (by rfl) T.n_len b_len (je_var rfl 0))) (jg_name (i := 12) sc.nd rfl (by first | exact Or.inl rfl | exact Or.inr rfl)) (js_cons (js_set (i := 13) sc.nd rfl (by first | exact Or.inl rfl | exact Or.inr rfl) (je_tup (ja_cons (je_call h__law_step (hr.mono (by decide)) tk (by rfl) (ja_cons (je_ix rfl (je_var rfl 1) (je_int rfl)) (ja_cons (je_var rfl 8) (ja_cons (je_var rfl 12) (ja_nil rfl))))) (ja_cons (je_call h__law_step (hr.mono (by decide)) tk (by rfl) (ja_cons (je_ix rfl (je_var rfl 2) (je_int rfl)) (ja_cons (je_var rfl 9) (ja_cons (je_var rfl 12) (ja_nil rfl))))) (ja_nil rfl)))))
    (js_one (js_if (jt_dinN rfl (hu_of hr) (je_var rfl 13) (je_var rfl 5)) (js_cons (js_dput rfl (hu_of hr) (i := 5) (je_var rfl 13) (je_bl rfl))
    (js_one (js_append (i := 4) rfl (je_tup (ja_cons (je_bin op_addAny so_add (je_var rfl 7) (je_ix rfl (je_var rfl 0) (je_var rfl 12))) (ja_cons (je_ix rfl (je_var rfl 13) (je_int rfl)) (ja_cons (je_ix rfl (je_var rfl 13) (je_int rfl)) (ja_nil rfl)))))))) (js_nil rfl)))))))))))))
    (js_one (js_ret (je_non rfl))))))⟩
abbrev s__law_equal : Stmt := topS 32
theorem sc__law_equal : FnScope ["actual", "due"] ["actual", "due"] (defScope s__law_equal) := ⟨rfl, rfl, rfl, by decide +kernel, rfl, by decide +kernel, by decide +kernel⟩
theorem jb__law_equal {f : Addr} {fd : FuncData} (F : Fun K "_law_equal" "_law_equal" s__law_equal f fd) (hm : mg "_law_equal" = some (.ref f)) (bd : Binds K fd ["actual", "due"] []) (T : Tt K mg cl) : HasF P w K mg base cl "_law_equal" ["actual", "due"] 1 f__law_equal := by
  refine hasF_of F hm bd sc__law_equal rfl fun cdv A outer s H E Hs sa hr => ?_
  have tk : Takes (cxOf (L2.CX P w) P w K mg base ["actual", "due"] "_law_equal" (defScope s__law_equal) f cdv A outer s H E) (fun c d _ H => E c d H) := takes_of rfl rfl rfl rfl
  have hp := passes_of (X := (cxOf (L2.CX P w) P w K mg base ["actual", "due"] "_law_equal" (defScope s__law_equal) f cdv A outer s H E)) rfl
  have sc := sc__law_equal
  exact ⟨_, js_cons (js_if (jt_cmp op_isN so_isN (je_var rfl 1) (je_non rfl) (nomark _)) (js_one (js_ret (je_cmp op_isN so_isN (je_var rfl 0) (je_non rfl) (nomark _)))) (js_nil rfl))
    (js_one (js_ret (je_and (je_isi (n := "str") (by decide) rfl T.n_isinstance b_isinstance rfl T.n_str b_str (je_var rfl 0)) (je_one (je_cmp (op_eqAny rfl hr.units) so_eq (je_var rfl 0) (je_var rfl 1) (nomark _))))))⟩
abbrev s__law_refused : Stmt := topS 33
theorem sc__law_refused : FnScope ["first", "second", "parting", "e"] ["first", "second", "parting"] (defScope s__law_refused) := ⟨rfl, rfl, rfl, by decide +kernel, rfl, by decide +kernel, by decide +kernel⟩
theorem jb__law_refused {f : Addr} {fd : FuncData} (F : Fun K "_law_refused" "_law_refused" s__law_refused f fd) (hm : mg "_law_refused" = some (.ref f)) (bd : Binds K fd ["first", "second", "parting"] []) (T : Tt K mg cl) (h_extra_word : HasF P w K mg base cl "extra_word" ["first", "second"] 3 f_extra_word) (h_parting_word : HasF P w K mg base cl "parting_word" ["first", "second"] 3 f_parting_word) : HasF P w K mg base cl "_law_refused" ["first", "second", "parting"] 4 f__law_refused := by
  refine hasF_of F hm bd sc__law_refused rfl fun cdv A outer s H E Hs sa hr => ?_
  have tk : Takes (cxOf (L2.CX P w) P w K mg base ["first", "second", "parting", "e"] "_law_refused" (defScope s__law_refused) f cdv A outer s H E) (fun c d _ H => E c d H) := takes_of rfl rfl rfl rfl
  have hp := passes_of (X := (cxOf (L2.CX P w) P w K mg base ["first", "second", "parting", "e"] "_law_refused" (defScope s__law_refused) f cdv A outer s H E)) rfl
  have sc := sc__law_refused
  exact ⟨_, js_cons (js_try_as (i := 3) rfl rfl rfl rfl sc.nd rfl rfl ⟨rfl, by decide, .inl T.g_LanguageError⟩ tk T.t_LanguageError (fun _ _ _ tk hp => js_one (js_if (jt_val (je_var rfl 2)) (js_one (js_expr (je_call h_parting_word (hr.mono (by decide)) tk (by rfl) (ja_cons (je_var rfl 0) (ja_cons (je_var rfl 1) (ja_nil rfl)))))) (js_one (js_expr (je_call h_extra_word (hr.mono (by decide)) tk (by rfl) (ja_cons (je_var rfl 0) (ja_cons (je_var rfl 1) (ja_nil rfl)))))))) (fun _ _ _ _ _ zc fl => js_one (js_ret (je_and (je_isE (c := .ref (cl "BadLetters")) rfl zc fl T.e_BadLetters rfl T.n_isinstance (pe_glob rfl T.g_BadLetters rfl) (fun _ h => h)) (je_and (je_isE (c := .ty "ValueError") rfl zc fl T.e_ValueError rfl T.n_isinstance (pe_bltn (v := .ty "ValueError") rfl T.n_ValueError (by decide +kernel) rfl) (fun _ h => h)) (je_one (je_not (je_isE (c := .ref (cl "BadMachine")) rfl zc fl T.e_BadMachine rfl T.n_isinstance (pe_glob rfl T.g_BadMachine rfl) (fun _ h => h)))))))))
    (js_one (js_ret (je_bl rfl)))⟩
abbrev s_law : Stmt := topS 34
theorem sc_law : FnScope ["script", "state", "letters", "size", "rows", "ends", "one", "first", "others", "second", "refused", "other", "place", "empty", "k", "row", "letter"] ["script"] (defScope s_law) := ⟨rfl, rfl, rfl, by decide +kernel, rfl, by decide +kernel, by decide +kernel⟩
theorem jb_law {f : Addr} {fd : FuncData} (F : Fun K "law" "law" s_law f fd) (T : Tt K mg cl) (h_Machine___init__ : HasI P w K mg base cl "Machine" "Machine" ["self", "letters", "arrows", "ends"] 2 f_Machine___init__) (h__law_changed : HasF P w K mg base cl "_law_changed" ["state", "letters", "rows", "ends"] 3 f__law_changed) (h__law_equal : HasF P w K mg base cl "_law_equal" ["actual", "due"] 1 f__law_equal) (h__law_first : HasF P w K mg base cl "_law_first" ["letters", "one", "other", "either"] 2 f__law_first) (h__law_next : HasF P w K mg base cl "_law_next" ["state", "many"] 1 fNext) (h__law_refused : HasF P w K mg base cl "_law_refused" ["first", "second", "parting"] 4 f__law_refused) (h__law_ring : HasF P w K mg base cl "_law_ring" ["letters", "place", "size", "ends"] 1 f__law_ring) (h__law_rows : HasF P w K mg base cl "_law_rows" ["state", "letters", "size"] 2 f__law_rows) (h_extra_word : HasF P w K mg base cl "extra_word" ["first", "second"] 3 f_extra_word) (h_first_word : HasF P w K mg base cl "first_word" ["machine"] 5 f_first_word) (h_parting_word : HasF P w K mg base cl "parting_word" ["first", "second"] 3 f_parting_word) (h__law_start : HasStart P w K mg base "_law_start" 1) (hd : d_law { nx := fun _ => False, rt := fun t => t = .d (.bl true), bk := fun _ => False, ct := fun _ => False, ex := fun _ _ => False } (none :: some .st :: List.replicate 15 none)) : FnOk P w K mg base (L2.CX P w) 30 f fd ["script"] (spLaw K) := by
  refine law_fn (cl := cl) F sc_law rfl (fun cdv A outer s H E hr => ?_) (n := 15) rfl hd
  have tk : Takes (cxOf (L2.CX P w) P w K mg base ["script", "state", "letters", "size", "rows", "ends", "one", "first", "others", "second", "refused", "other", "place", "empty", "k", "row", "letter"] "law" (defScope s_law) f cdv A outer s H E) (fun c d _ H => E c d H) := takes_of rfl rfl rfl rfl
  have hp := passes_of (X := (cxOf (L2.CX P w) P w K mg base ["script", "state", "letters", "size", "rows", "ends", "one", "first", "others", "second", "refused", "other", "place", "empty", "k", "row", "letter"] "law" (defScope s_law) f cdv A outer s H E)) rfl
  have sc := sc_law
  exact ⟨ps_start h__law_start (hr.mono (by decide)) tk sc.nd rfl, _, js_cons (js_set (i := 2) sc.nd rfl (by first | exact Or.inl rfl | exact Or.inr rfl) (je_ix rfl (je_lst (ja_cons (je_str rfl [97, 98] (by decide +kernel)) (ja_cons (je_str rfl [97] (by decide +kernel)) (ja_cons (je_str rfl [97, 98, 99] (by decide +kernel)) (ja_cons (je_str rfl [98, 100] (by decide +kernel)) (ja_cons (je_str rfl [97, 99, 122] (by decide +kernel)) (ja_cons (je_str rfl [97, 98, 99, 100] (by decide +kernel)) (ja_nil rfl)))))))) (je_draw h__law_next (hr.mono (by decide)) tk (by rfl) (je_var rfl 1) (je_int rfl))))
    (js_cons (js_set (i := 3) sc.nd rfl (by first | exact Or.inl rfl | exact Or.inr rfl) (je_bin op_addAny so_add (je_int rfl) (je_draw h__law_next (hr.mono (by decide)) tk (by rfl) (je_var rfl 1) (je_int rfl))))
    (js_cons (js_if (jt_cmp (op_eqAny rfl hr.units) so_eq (je_draw h__law_next (hr.mono (by decide)) tk (by rfl) (je_var rfl 1) (je_int rfl)) (je_int rfl) (nomark _)) (js_one (js_set (i := 3) sc.nd rfl (by first | exact Or.inl rfl | exact Or.inr rfl) (je_bin op_addAny so_add (je_int rfl) (je_draw h__law_next (hr.mono (by decide)) tk (by rfl) (je_var rfl 1) (je_int rfl))))) (js_nil rfl))
    (js_cons (js_set (i := 4) sc.nd rfl (by first | exact Or.inl rfl | exact Or.inr rfl) (je_call h__law_rows (hr.mono (by decide)) tk (by rfl) (ja_cons (je_var rfl 1) (ja_cons (je_var rfl 2) (ja_cons (je_var rfl 3) (ja_nil rfl))))))
    (js_cons (js_setLc (i := 5) (own := [("k", 14)]) rfl sc.nd rfl rfl (sw_true rfl rfl rfl (by decide +kernel)) (ji_range1 rfl T.n_range (je_var rfl 3)) (blkOk_by (own := [("k", 14)]) (N := ["script", "state", "letters", "size", "rows", "ends", "one", "first", "others", "second", "refused", "other", "place", "empty", "k", "row", "letter"]) (sc := defScope s_law) (by decide +kernel)) (fun _ _ _ _ _ _ => jg_name (i := 14) sc.nd rfl (by first | exact Or.inl rfl | exact Or.inr rfl)) (fun _ _ _ _ _ _ => jts_one (jt_cmp (op_eqAny rfl hr.units) so_eq (by exact je_draw h__law_next (hr.mono (by decide)) takes0 (by rfl) (je_var rfl 1) (je_int rfl)) (je_int rfl) (nomark _))) (fun _ _ _ _ _ _ => je_var rfl 14))
    (js_cons (js_set (i := 6) sc.nd rfl (by first | exact Or.inl rfl | exact Or.inr rfl) (je_tup (ja_cons (je_var rfl 4) (ja_cons (je_var rfl 5) (ja_nil rfl)))))
    (js_cons (js_set (i := 7) sc.nd rfl (by first | exact Or.inl rfl | exact Or.inr rfl) (je_make h_Machine___init__ (hr.mono (by decide)) tk (by rfl) (ja_cons (je_var rfl 2) (ja_cons (je_lc (own := [("row", 15)]) rfl sc.nd (ji_any (je_var rfl 4)) (blkOk_by (own := [("row", 15)]) (N := ["script", "state", "letters", "size", "rows", "ends", "one", "first", "others", "second", "refused", "other", "place", "empty", "k", "row", "letter"]) (sc := defScope s_law) (by decide +kernel)) (fun _ _ _ _ _ _ => jg_name (i := 15) sc.nd rfl (by first | exact Or.inl rfl | exact Or.inr rfl)) (fun _ _ _ _ _ _ => jts_nil) (fun _ _ _ _ _ _ => je_t1 (call_listAny (by rfl)) su_list (by rfl) T.n_list b_list (je_var rfl 15))) (ja_cons (je_t1 (call_listAny (by rfl)) su_list (by rfl) T.n_list b_list (je_var rfl 5)) (ja_nil rfl))))))
    (js_cons (js_if (jt_cmp (op_eqAny rfl hr.units) so_eq (je_draw h__law_next (hr.mono (by decide)) tk (by rfl) (je_var rfl 1) (je_int rfl)) (je_int rfl) (nomark _)) (js_cons (js_set (i := 8) sc.nd rfl (by first | exact Or.inl rfl | exact Or.inr rfl) (je_ix rfl (je_lst (ja_cons (je_str rfl [120, 121] (by decide +kernel)) (ja_cons (je_str rfl [113] (by decide +kernel)) (ja_cons (je_str rfl [120, 121, 122] (by decide +kernel)) (ja_cons (je_str rfl [98, 101] (by decide +kernel)) (ja_cons (je_str rfl [98, 99, 122] (by decide +kernel)) (ja_cons (je_str rfl [97, 98, 99, 122] (by decide +kernel)) (ja_nil rfl)))))))) (je_indexL rfl (je_lst (ja_cons (je_str rfl [97, 98] (by decide +kernel)) (ja_cons (je_str rfl [97] (by decide +kernel)) (ja_cons (je_str rfl [97, 98, 99] (by decide +kernel)) (ja_cons (je_str rfl [98, 100] (by decide +kernel)) (ja_cons (je_str rfl [97, 99, 122] (by decide +kernel)) (ja_cons (je_str rfl [97, 98, 99, 100] (by decide +kernel)) (ja_nil rfl)))))))) (je_var rfl 2))))
    (js_cons (js_set (i := 9) sc.nd rfl (by first | exact Or.inl rfl | exact Or.inr rfl) (je_make h_Machine___init__ (hr.mono (by decide)) tk (by rfl) (ja_cons (je_var rfl 8) (ja_cons (je_lc (own := [("row", 15)]) rfl sc.nd (ji_any (je_var rfl 4)) (blkOk_by (own := [("row", 15)]) (N := ["script", "state", "letters", "size", "rows", "ends", "one", "first", "others", "second", "refused", "other", "place", "empty", "k", "row", "letter"]) (sc := defScope s_law) (by decide +kernel)) (fun _ _ _ _ _ _ => jg_name (i := 15) sc.nd rfl (by first | exact Or.inl rfl | exact Or.inr rfl)) (fun _ _ _ _ _ _ => jts_nil) (fun _ _ _ _ _ _ => je_t1 (call_listAny (by rfl)) su_list (by rfl) T.n_list b_list (je_var rfl 15))) (ja_cons (je_t1 (call_listAny (by rfl)) su_list (by rfl) T.n_list b_list (je_var rfl 5)) (ja_nil rfl))))))
    (js_cons (js_set (i := 10) sc.nd rfl (by first | exact Or.inl rfl | exact Or.inr rfl) (je_and (je_call h__law_refused (hr.mono (by decide)) tk (by rfl) (ja_cons (je_var rfl 7) (ja_cons (je_var rfl 9) (ja_cons (je_bl rfl) (ja_nil rfl))))) (je_one (je_call h__law_refused (hr.mono (by decide)) tk (by rfl) (ja_cons (je_var rfl 9) (ja_cons (je_var rfl 7) (ja_cons (je_bl rfl) (ja_nil rfl))))))))
    (js_one (js_ret (je_and (je_var rfl 10) (je_one (je_call h__law_refused (hr.mono (by decide)) tk (by rfl) (ja_cons (je_var rfl 7) (ja_cons (je_var rfl 9) (ja_cons (je_bl rfl) (ja_nil rfl)))))))))))) (js_nil rfl))
    (js_cons (js_set (i := 11) sc.nd rfl (by first | exact Or.inl rfl | exact Or.inr rfl) (je_call h__law_changed (hr.mono (by decide)) tk (by rfl) (ja_cons (je_var rfl 1) (ja_cons (je_var rfl 2) (ja_cons (je_var rfl 4) (ja_cons (je_var rfl 5) (ja_nil rfl)))))))
    (js_cons (js_if (jt_cmp (op_eqAny rfl hr.units) so_eq (je_draw h__law_next (hr.mono (by decide)) tk (by rfl) (je_var rfl 1) (je_int rfl)) (je_int rfl) (nomark _)) (js_cons (js_set (i := 12) sc.nd rfl (by first | exact Or.inl rfl | exact Or.inr rfl) (je_draw h__law_next (hr.mono (by decide)) tk (by rfl) (je_var rfl 1) (je_b1 (call_lenAny (by rfl)) su_len (by rfl) T.n_len b_len (je_var rfl 2))))
    (js_cons (js_set (i := 3) sc.nd rfl (by first | exact Or.inl rfl | exact Or.inr rfl) (je_bin op_addAny so_add (je_int rfl) (je_draw h__law_next (hr.mono (by decide)) tk (by rfl) (je_var rfl 1) (je_int rfl))))
    (js_cons (js_set (i := 6) sc.nd rfl (by first | exact Or.inl rfl | exact Or.inr rfl) (je_call h__law_ring (hr.mono (by decide)) tk (by rfl) (ja_cons (je_var rfl 2) (ja_cons (je_var rfl 12) (ja_cons (je_var rfl 3) (ja_cons (je_lst (ja_cons (je_bin op_sub so_sub (je_var rfl 3) (je_int rfl)) (ja_nil rfl))) (ja_nil rfl)))))))
    (js_cons (js_set (i := 3) sc.nd rfl (by first | exact Or.inl rfl | exact Or.inr rfl) (je_bin op_addAny so_add (je_int rfl) (je_draw h__law_next (hr.mono (by decide)) tk (by rfl) (je_var rfl 1) (je_int rfl))))
    (js_cons (js_set (i := 11) sc.nd rfl (by first | exact Or.inl rfl | exact Or.inr rfl) (je_call h__law_ring (hr.mono (by decide)) tk (by rfl) (ja_cons (je_var rfl 2) (ja_cons (je_var rfl 12) (ja_cons (je_var rfl 3) (ja_cons (je_lc (own := [("k", 14)]) rfl sc.nd (ji_range1 rfl T.n_range (je_bin op_sub so_sub (je_var rfl 3) (je_int rfl))) (blkOk_by (own := [("k", 14)]) (N := ["script", "state", "letters", "size", "rows", "ends", "one", "first", "others", "second", "refused", "other", "place", "empty", "k", "row", "letter"]) (sc := defScope s_law) (by decide +kernel)) (fun _ _ _ _ _ _ => jg_name (i := 14) sc.nd rfl (by first | exact Or.inl rfl | exact Or.inr rfl)) (fun _ _ _ _ _ _ => jts_nil) (fun _ _ _ _ _ _ => je_var rfl 14)) (ja_nil rfl)))))))
    (js_one (js_set (i := 7) sc.nd rfl (by first | exact Or.inl rfl | exact Or.inr rfl) (je_make h_Machine___init__ (hr.mono (by decide)) tk (by rfl) (ja_cons (je_var rfl 2) (ja_cons (je_lc (own := [("row", 15)]) rfl sc.nd (ji_any (je_ix rfl (je_var rfl 6) (je_int rfl))) (blkOk_by (own := [("row", 15)]) (N := ["script", "state", "letters", "size", "rows", "ends", "one", "first", "others", "second", "refused", "other", "place", "empty", "k", "row", "letter"]) (sc := defScope s_law) (by decide +kernel)) (fun _ _ _ _ _ _ => jg_name (i := 15) sc.nd rfl (by first | exact Or.inl rfl | exact Or.inr rfl)) (fun _ _ _ _ _ _ => jts_nil) (fun _ _ _ _ _ _ => je_t1 (call_listAny (by rfl)) su_list (by rfl) T.n_list b_list (je_var rfl 15))) (ja_cons (je_t1 (call_listAny (by rfl)) su_list (by rfl) T.n_list b_list (je_ix rfl (je_var rfl 6) (je_int rfl))) (ja_nil rfl)))))))))))) (js_nil rfl))
    (js_cons (js_set (i := 9) sc.nd rfl (by first | exact Or.inl rfl | exact Or.inr rfl) (je_make h_Machine___init__ (hr.mono (by decide)) tk (by rfl) (ja_cons (je_var rfl 2) (ja_cons (je_lc (own := [("row", 15)]) rfl sc.nd (ji_any (je_ix rfl (je_var rfl 11) (je_int rfl))) (blkOk_by (own := [("row", 15)]) (N := ["script", "state", "letters", "size", "rows", "ends", "one", "first", "others", "second", "refused", "other", "place", "empty", "k", "row", "letter"]) (sc := defScope s_law) (by decide +kernel)) (fun _ _ _ _ _ _ => jg_name (i := 15) sc.nd rfl (by first | exact Or.inl rfl | exact Or.inr rfl)) (fun _ _ _ _ _ _ => jts_nil) (fun _ _ _ _ _ _ => je_t1 (call_listAny (by rfl)) su_list (by rfl) T.n_list b_list (je_var rfl 15))) (ja_cons (je_t1 (call_listAny (by rfl)) su_list (by rfl) T.n_list b_list (je_ix rfl (je_var rfl 11) (je_int rfl))) (ja_nil rfl))))))
    (js_cons (js_set (i := 13) sc.nd rfl (by first | exact Or.inl rfl | exact Or.inr rfl) (je_tup (ja_cons (je_lst (ja_cons (je_lc (own := [("letter", 16)]) rfl sc.nd (ji_any (je_var rfl 2)) (blkOk_by (own := [("letter", 16)]) (N := ["script", "state", "letters", "size", "rows", "ends", "one", "first", "others", "second", "refused", "other", "place", "empty", "k", "row", "letter"]) (sc := defScope s_law) (by decide +kernel)) (fun _ _ _ _ _ _ => jg_name (i := 16) sc.nd rfl (by first | exact Or.inl rfl | exact Or.inr rfl)) (fun _ _ _ _ _ _ => jts_nil) (fun _ _ _ _ _ _ => je_neg (je_int rfl))) (ja_nil rfl))) (ja_cons (je_lst (ja_nil rfl)) (ja_nil rfl)))))
    (js_cons (js_if (jt_not (jt_val (je_call h__law_equal (hr.mono (by decide)) tk (by rfl) (ja_cons (je_call h_parting_word (hr.mono (by decide)) tk (by rfl) (ja_cons (je_var rfl 7) (ja_cons (je_var rfl 9) (ja_nil rfl)))) (ja_cons (je_call h__law_first (hr.mono (by decide)) tk (by rfl) (ja_cons (je_var rfl 2) (ja_cons (je_var rfl 6) (ja_cons (je_var rfl 11) (ja_cons (je_bl rfl) (ja_nil rfl)))))) (ja_nil rfl)))))) (js_one (js_ret (je_bl rfl))) (js_nil rfl))
    (js_cons (js_if (jt_not (jt_val (je_call h__law_equal (hr.mono (by decide)) tk (by rfl) (ja_cons (je_call h_extra_word (hr.mono (by decide)) tk (by rfl) (ja_cons (je_var rfl 7) (ja_cons (je_var rfl 9) (ja_nil rfl)))) (ja_cons (je_call h__law_first (hr.mono (by decide)) tk (by rfl) (ja_cons (je_var rfl 2) (ja_cons (je_var rfl 6) (ja_cons (je_var rfl 11) (ja_cons (je_bl rfl) (ja_nil rfl)))))) (ja_nil rfl)))))) (js_one (js_ret (je_bl rfl))) (js_nil rfl))
    (js_cons (js_if (jt_not (jt_val (je_call h__law_equal (hr.mono (by decide)) tk (by rfl) (ja_cons (je_call h_extra_word (hr.mono (by decide)) tk (by rfl) (ja_cons (je_var rfl 9) (ja_cons (je_var rfl 7) (ja_nil rfl)))) (ja_cons (je_call h__law_first (hr.mono (by decide)) tk (by rfl) (ja_cons (je_var rfl 2) (ja_cons (je_var rfl 11) (ja_cons (je_var rfl 6) (ja_cons (je_bl rfl) (ja_nil rfl)))))) (ja_nil rfl)))))) (js_one (js_ret (je_bl rfl))) (js_nil rfl))
    (js_cons (js_if (jt_not (jt_val (je_call h__law_equal (hr.mono (by decide)) tk (by rfl) (ja_cons (je_call h_first_word (hr.mono (by decide)) tk (by rfl) (ja_cons (je_var rfl 7) (ja_nil rfl))) (ja_cons (je_call h__law_first (hr.mono (by decide)) tk (by rfl) (ja_cons (je_var rfl 2) (ja_cons (je_var rfl 6) (ja_cons (je_var rfl 13) (ja_cons (je_bl rfl) (ja_nil rfl)))))) (ja_nil rfl)))))) (js_one (js_ret (je_bl rfl))) (js_nil rfl))
    (js_cons (js_if (jt_not (jt_val (je_call h__law_equal (hr.mono (by decide)) tk (by rfl) (ja_cons (je_call h_first_word (hr.mono (by decide)) tk (by rfl) (ja_cons (je_var rfl 9) (ja_nil rfl))) (ja_cons (je_call h__law_first (hr.mono (by decide)) tk (by rfl) (ja_cons (je_var rfl 2) (ja_cons (je_var rfl 11) (ja_cons (je_var rfl 13) (ja_cons (je_bl rfl) (ja_nil rfl)))))) (ja_nil rfl)))))) (js_one (js_ret (je_bl rfl))) (js_nil rfl))
    (js_cons (js_if ((jw_or (jt_cmp (op_neAny rfl hr.units) so_ne (je_fld T.cls T.na_arrows (je_var rfl 7)) (je_t1 (call_tupleAny (by rfl)) su_tuple (by rfl) T.n_tuple b_tuple (je_lc (own := [("row", 15)]) rfl sc.nd (ji_any (je_ix rfl (je_var rfl 6) (je_int rfl))) (blkOk_by (own := [("row", 15)]) (N := ["script", "state", "letters", "size", "rows", "ends", "one", "first", "others", "second", "refused", "other", "place", "empty", "k", "row", "letter"]) (sc := defScope s_law) (by decide +kernel)) (fun _ _ _ _ _ _ => jg_name (i := 15) sc.nd rfl (by first | exact Or.inl rfl | exact Or.inr rfl)) (fun _ _ _ _ _ _ => jts_nil) (fun _ _ _ _ _ _ => je_t1 (call_tupleAny (by rfl)) su_tuple (by rfl) T.n_tuple b_tuple (je_var rfl 15)))) (nomark _)) (jw_or1 (jt_cmp (op_neAny rfl hr.units) so_ne (je_fld T.cls T.na_ends (je_var rfl 7)) (je_t1 (call_tupleAny (by rfl)) su_tuple (by rfl) T.n_tuple b_tuple (je_ix rfl (je_var rfl 6) (je_int rfl))) (nomark _)))).jt) (js_one (js_ret (je_bl rfl))) (js_nil rfl))
    (js_one (js_ret (je_and (je_cmp (op_eqAny rfl hr.units) so_eq (je_fld T.cls T.na_arrows (je_var rfl 9)) (je_t1 (call_tupleAny (by rfl)) su_tuple (by rfl) T.n_tuple b_tuple (je_lc (own := [("row", 15)]) rfl sc.nd (ji_any (je_ix rfl (je_var rfl 11) (je_int rfl))) (blkOk_by (own := [("row", 15)]) (N := ["script", "state", "letters", "size", "rows", "ends", "one", "first", "others", "second", "refused", "other", "place", "empty", "k", "row", "letter"]) (sc := defScope s_law) (by decide +kernel)) (fun _ _ _ _ _ _ => jg_name (i := 15) sc.nd rfl (by first | exact Or.inl rfl | exact Or.inr rfl)) (fun _ _ _ _ _ _ => jts_nil) (fun _ _ _ _ _ _ => je_t1 (call_tupleAny (by rfl)) su_tuple (by rfl) T.n_tuple b_tuple (je_var rfl 15)))) (nomark _)) (je_one (je_cmp (op_eqAny rfl hr.units) so_eq (je_fld T.cls T.na_ends (je_var rfl 9)) (je_t1 (call_tupleAny (by rfl)) su_tuple (by rfl) T.n_tuple b_tuple (je_ix rfl (je_var rfl 11) (je_int rfl))) (nomark _)))))))))))))))))))))))⟩
end
end Z

namespace Z
open Y
theorem next_ok (ts : List T) (x : Exn → Prop) (Q : T → Prop) (h : fNext ts x Q) : f__law_next ts x Q := by
  obtain ⟨n, rfl, ⟨h1, h2⟩, h⟩ := h
  have hq : ∀ v : Int, Q (T.d (D.int (v % n))) := fun v => h _ (Int.emod_nonneg v (by omega)) (Int.emod_lt_of_pos v (by omega))
  have hn : 0 < n := by omega
  have s1 : ∀ c : Int, small64 (c % 2147483629 + 1) := fun c => by unfold small64; have := Int.emod_nonneg c (b := 2147483629) (by omega); have := Int.emod_lt_of_pos c (b := 2147483629) (by omega); omega
  have s2 : ∀ c : Int, small64 (c % 2147483647) := fun c => by unfold small64; have := Int.emod_nonneg c (b := 2147483647) (by omega); have := Int.emod_lt_of_pos c (b := 2147483647) (by omega); omega
  have s7 : small64 7 := by unfold small64; omega
  have s3 : small64 2 := by unfold small64; omega
  have s4 : small64 69621 := by unfold small64; omega
  unfold f__law_next d__law_next
  simp only [↓semOf, ↓toB, ↓sNext, ↓sSeq, ↓sSet, ↓sIf, ↓sRet, ↓sRetN, ↓sPart, ↓sExpr, ↓sBreak, ↓sCont, ↓tAnd, ↓tOr, ↓tNot, ↓tB, ↓dBin, ↓dUn, ↓dVar, ↓dC, ↓dIf, ↓dAnd, ↓dOr, ↓dNot, ↓dCall, ↓dNext, ↓look, ↓esc, ↓Y.bind, ↓arg, ↓iv, ↓bv, ↓sv, ↓oAdd, ↓oSub, ↓oMul, ↓oDiv, ↓oMod, ↓oPow, ↓oNeg, ↓oEq, ↓oNe, ↓oLt, ↓oLe, ↓oGt, ↓oGe, ↓oLen, ↓oIx, ↓oInt, ↓dLst, ↓dTup, ↓aNil, ↓aCons, ↓datas, ↓dStC, ↓dStI, ↓sStPut, ↓scalD, ↓D.eqv, ↓MO.data, ↓oIsN, ↓oNotN, ↓isN, ↓oTuple, ↓oIn, ↓oAbs, List.map_cons, List.map_nil, List.length_cons, List.length_nil, List.replicate, List.cons_append, List.nil_append, List.getElem?_cons_zero, List.getElem?_cons_succ, List.set_cons_zero, List.set_cons_succ, Option.map_some, T.d.injEq, D.bl.injEq, D.int.injEq, Option.some.injEq, exists_eq_left', exists_eq_left, exists_eq_right, true_and, and_true, true_or, or_true, decide_eq_true_eq, if_true, if_false, reduceIte, Nat.reduceAdd, Nat.reduceSub, Nat.zero_add]
  intro cells hc hl v
  have hp : (0 : Int) < (List.map D.int cells).length := by
    rw [List.length_map]
    cases cells with
    | nil => exact absurd rfl hc
    | cons a b => simp only [List.length_cons]; omega
  refine ⟨hp, ?_⟩
  have hi := Int.emod_nonneg v (b := (List.map D.int cells).length) (by omega)
  have hj := Int.emod_lt_of_pos v hp
  have hk : (v % ((List.map D.int cells).length : Int)).toNat < cells.length := by
    have : (List.map D.int cells).length = cells.length := List.length_map ..
    omega
  refine ⟨_, D.int (cells[(v % ((List.map D.int cells).length : Int)).toNat]'hk), ixOf_ok hi hj, ?_, by decide, ?_⟩
  · rw [List.getElem?_map, List.getElem?_eq_getElem hk]; rfl
  · generalize cells[(v % ((List.map D.int cells).length : Int)).toNat]'hk = c
    simp only [↓semOf, ↓toB, ↓sNext, ↓sSeq, ↓sSet, ↓sIf, ↓sRet, ↓sRetN, ↓sPart, ↓sExpr, ↓sBreak, ↓sCont, ↓tAnd, ↓tOr, ↓tNot, ↓tB, ↓dBin, ↓dUn, ↓dVar, ↓dC, ↓dIf, ↓dAnd, ↓dOr, ↓dNot, ↓dCall, ↓dNext, ↓look, ↓esc, ↓Y.bind, ↓arg, ↓iv, ↓bv, ↓sv, ↓oAdd, ↓oSub, ↓oMul, ↓oDiv, ↓oMod, ↓oPow, ↓oNeg, ↓oEq, ↓oNe, ↓oLt, ↓oLe, ↓oGt, ↓oGe, ↓oLen, ↓oIx, ↓oInt, ↓dLst, ↓dTup, ↓aNil, ↓aCons, ↓datas, ↓dStC, ↓dStI, ↓sStPut, ↓scalD, ↓D.eqv, ↓MO.data, ↓oIsN, ↓oNotN, ↓isN, ↓oTuple, ↓oIn, ↓oAbs, List.map_cons, List.map_nil, List.length_cons, List.length_nil, List.replicate, List.cons_append, List.nil_append, List.getElem?_cons_zero, List.getElem?_cons_succ, List.set_cons_zero, List.set_cons_succ, Option.map_some, T.d.injEq, D.bl.injEq, D.int.injEq, Option.some.injEq, exists_eq_left', exists_eq_left, exists_eq_right, true_and, and_true, true_or, or_true, decide_eq_true_eq, if_true, if_false, reduceIte, Nat.reduceAdd, Nat.reduceSub, Nat.zero_add, s1, s2, s3, s4, s7, hn, h2, hq, true_or, or_true, implies_true, ite_self, Int.reduceLT, ite_true, exists_eq', ite_self]
theorem start_ok (ns : List Int) (Q : T → Prop) (hl : ns.length ≤ 63) (h : ∀ cells : List Int, cells ≠ [] → cells.length ≤ 63 → Q (.own (.lst [.lst (cells.map D.int), .int 0, .int 0, .int 0]))) :
    d__law_start ns { nx := fun _ => Q (.d .non), rt := Q, bk := fun _ => False, ct := fun _ => False, ex := fun _ _ => False } [none, none, none] := by
  unfold d__law_start
  have hz : (ns.map D.int).length ≤ SZ := by rw [List.length_map]; unfold SZ; omega
  simp only [↓semOf, ↓toB, ↓sNext, ↓sSeq, ↓sSet, ↓sIf, ↓sRet, ↓sRetN, ↓sPart, ↓sExpr, ↓sBreak, ↓sCont, ↓tAnd, ↓tOr, ↓tNot, ↓tB, ↓dBin, ↓dUn, ↓dVar, ↓dC, ↓dIf, ↓dAnd, ↓dOr, ↓dNot, ↓dCall, ↓dNext, ↓look, ↓esc, ↓Y.bind, ↓arg, ↓iv, ↓bv, ↓sv, ↓oAdd, ↓oSub, ↓oMul, ↓oDiv, ↓oMod, ↓oPow, ↓oNeg, ↓oEq, ↓oNe, ↓oLt, ↓oLe, ↓oGt, ↓oGe, ↓oLen, ↓oIx, ↓oInt, ↓dLst, ↓dTup, ↓aNil, ↓aCons, ↓datas, ↓dStC, ↓dStI, ↓sStPut, ↓scalD, ↓D.eqv, ↓MO.data, ↓oIsN, ↓oNotN, ↓isN, ↓oTuple, ↓oIn, ↓oAbs, List.map_cons, List.map_nil, List.length_cons, List.length_nil, List.replicate, List.cons_append, List.nil_append, List.getElem?_cons_zero, List.getElem?_cons_succ, List.set_cons_zero, List.set_cons_succ, Option.map_some, T.d.injEq, D.bl.injEq, D.int.injEq, Option.some.injEq, exists_eq_left', exists_eq_left, exists_eq_right, true_and, and_true, true_or, or_true, decide_eq_true_eq, if_true, if_false, reduceIte, Nat.reduceAdd, Nat.reduceSub, Nat.zero_add, dLc, iScr, Nat.zero_lt_succ]
  refine ⟨rfl, lcL_map (fun d => match d with | .int i => .int (if i < 0 then -i else i) | x => x) hz (fun d hd k1 hk => ?_) ?_⟩
  · obtain ⟨i, _, rfl⟩ := List.mem_map.mp hd
    exact hk
  · have em : (ns.map D.int).map (fun d => match d with | .int i => D.int (if i < 0 then -i else i) | x => x) = (ns.map fun i => if i < 0 then -i else i).map D.int := by
      rw [List.map_map, List.map_map]; rfl
    rw [em]
    generalize hc : (ns.map fun i => if i < 0 then -i else i) = cs
    have lc : cs.length ≤ 63 := by rw [← hc, List.length_map]; exact hl
    cases cs with
    | nil =>
      simp only [↓semOf, ↓toB, ↓sNext, ↓sSeq, ↓sSet, ↓sIf, ↓sRet, ↓sRetN, ↓sPart, ↓sExpr, ↓sBreak, ↓sCont, ↓tAnd, ↓tOr, ↓tNot, ↓tB, ↓dBin, ↓dUn, ↓dVar, ↓dC, ↓dIf, ↓dAnd, ↓dOr, ↓dNot, ↓dCall, ↓dNext, ↓look, ↓esc, ↓Y.bind, ↓arg, ↓iv, ↓bv, ↓sv, ↓oAdd, ↓oSub, ↓oMul, ↓oDiv, ↓oMod, ↓oPow, ↓oNeg, ↓oEq, ↓oNe, ↓oLt, ↓oLe, ↓oGt, ↓oGe, ↓oLen, ↓oIx, ↓oInt, ↓dLst, ↓dTup, ↓aNil, ↓aCons, ↓datas, ↓dStC, ↓dStI, ↓sStPut, ↓scalD, ↓D.eqv, ↓MO.data, ↓oIsN, ↓oNotN, ↓isN, ↓oTuple, ↓oIn, ↓oAbs, List.map_cons, List.map_nil, List.length_cons, List.length_nil, List.replicate, List.cons_append, List.nil_append, List.getElem?_cons_zero, List.getElem?_cons_succ, List.set_cons_zero, List.set_cons_succ, Option.map_some, T.d.injEq, D.bl.injEq, D.int.injEq, Option.some.injEq, exists_eq_left', exists_eq_left, exists_eq_right, true_and, and_true, true_or, or_true, decide_eq_true_eq, if_true, if_false, reduceIte, Nat.reduceAdd, Nat.reduceSub, Nat.zero_add]
      exact ⟨by decide, by decide, h [0] (by simp) (by simp)⟩
    | cons c cs =>
      simp only [↓semOf, ↓toB, ↓sNext, ↓sSeq, ↓sSet, ↓sIf, ↓sRet, ↓sRetN, ↓sPart, ↓sExpr, ↓sBreak, ↓sCont, ↓tAnd, ↓tOr, ↓tNot, ↓tB, ↓dBin, ↓dUn, ↓dVar, ↓dC, ↓dIf, ↓dAnd, ↓dOr, ↓dNot, ↓dCall, ↓dNext, ↓look, ↓esc, ↓Y.bind, ↓arg, ↓iv, ↓bv, ↓sv, ↓oAdd, ↓oSub, ↓oMul, ↓oDiv, ↓oMod, ↓oPow, ↓oNeg, ↓oEq, ↓oNe, ↓oLt, ↓oLe, ↓oGt, ↓oGe, ↓oLen, ↓oIx, ↓oInt, ↓dLst, ↓dTup, ↓aNil, ↓aCons, ↓datas, ↓dStC, ↓dStI, ↓sStPut, ↓scalD, ↓D.eqv, ↓MO.data, ↓oIsN, ↓oNotN, ↓isN, ↓oTuple, ↓oIn, ↓oAbs, List.map_cons, List.map_nil, List.length_cons, List.length_nil, List.replicate, List.cons_append, List.nil_append, List.getElem?_cons_zero, List.getElem?_cons_succ, List.set_cons_zero, List.set_cons_succ, Option.map_some, T.d.injEq, D.bl.injEq, D.int.injEq, Option.some.injEq, exists_eq_left', exists_eq_left, exists_eq_right, true_and, and_true, true_or, or_true, decide_eq_true_eq, if_true, if_false, reduceIte, Nat.reduceAdd, Nat.reduceSub, Nat.zero_add]
      rw [if_neg (by simp; omega)]
      exact ⟨by decide, h (c :: cs) (by simp) lc⟩
end Z

namespace Z
open Y
abbrev Row := List Int
def rowD (r : Row) : D := .lst (r.map D.int)
def rowT (r : Row) : D := .tup (r.map D.int)
def mach (L : Tx) (A : List Row) (E : List Int) : List (String × D) := [("letters", .str L), ("arrows", .tup (A.map rowT)), ("ends", .tup (E.map D.int))]
def pairD (A : List Row) (E : List Int) : D := .tup [.lst (A.map rowD), .lst (E.map D.int)]
structure Good (L : Tx) (A : List Row) (E : List Int) : Prop where
  ne : 1 ≤ A.length
  sz : A.length ≤ 128
  rows : ∀ r ∈ A, r.length = L.length ∧ ∀ x ∈ r, -1 ≤ x ∧ x < A.length
  ends : E.Pairwise (· < ·)
  endr : ∀ x ∈ E, 0 ≤ x ∧ x < A.length
def LS : List Tx := [[97, 98], [97], [97, 98, 99], [98, 100], [97, 99, 122], [97, 98, 99, 100]]
def OS : List Tx := [[120, 121], [113], [120, 121, 122], [98, 101], [98, 99, 122], [97, 98, 99, 122]]
theorem letters_ok {L : Tx} (h : L ∈ LS ++ OS) (x : Exn → Prop) (Q : T → Prop) (q : Q (.d .non)) : f_check_letters [.d (.str L)] x Q := by
  simp only [LS, OS, List.cons_append, List.nil_append, List.mem_cons, List.mem_nil_iff, or_false] at h
  unfold f_check_letters d_check_letters
  rcases h with rfl | rfl | rfl | rfl | rfl | rfl | rfl | rfl | rfl | rfl | rfl | rfl
  all_goals (
    simp only [↓semOf, ↓toB, ↓sNext, ↓sSeq, ↓sSet, ↓sIf, ↓sRet, ↓sRetN, ↓sPart, ↓sExpr, ↓sBreak, ↓sCont, ↓tAnd, ↓tOr, ↓tNot, ↓tB, ↓dBin, ↓dUn, ↓dVar, ↓dC, ↓dIf, ↓dAnd, ↓dOr, ↓dNot, ↓dCall, ↓dNext, ↓look, ↓esc, ↓Y.bind, ↓arg, ↓iv, ↓bv, ↓sv, ↓oAdd, ↓oSub, ↓oMul, ↓oDiv, ↓oMod, ↓oPow, ↓oNeg, ↓oEq, ↓oNe, ↓oLt, ↓oLe, ↓oGt, ↓oGe, ↓oLen, ↓oIx, ↓oInt, ↓dLst, ↓dTup, ↓aNil, ↓aCons, ↓datas, ↓dStC, ↓dStI, ↓sStPut, ↓scalD, ↓D.eqv, ↓MO.data, ↓oIsN, ↓oNotN, ↓isN, ↓oTuple, ↓oIn, ↓oAbs, ↓dFld, ↓sFld, ↓initOf, ↓dMake, ↓dLc, ↓iOf, ↓items, ↓iEnum, ↓iRange1, ↓sFor, ↓gName, ↓gTup, ↓gTup.go, ↓sRaise0, ↓isTup, ↓sAppend, ↓sStore, ↓sAugAdd, ↓dNewT, ↓dDispT, ↓sDput, ↓putAtM, ↓oDin, ↓oDix, ↓atD, ↓toKeys, ↓toKey, ↓sFrz, ↓oIsi, ↓tyName, ↓isiB, ↓dIndexL, List.map_cons, List.map_nil, List.length_cons, List.length_nil, List.replicate, List.cons_append, List.nil_append, List.getElem?_cons_zero, List.getElem?_cons_succ, List.set_cons_zero, List.set_cons_succ, Option.map_some, T.d.injEq, D.bl.injEq, D.int.injEq, Option.some.injEq, exists_eq_left', exists_eq_left, exists_eq_right, true_and, and_true, true_or, or_true, decide_eq_true_eq, if_true, if_false, reduceIte, Nat.reduceAdd, Nat.reduceSub, Nat.zero_add, Option.bind_some, List.map_nil, forL, List.map_cons, List.map_nil]
    refine ⟨by decide, ?_⟩
    simp (decide := true) only [txLt, if_false, if_true, Bool.not_true, Bool.not_false, Bool.xor_false, Bool.xor_true, Bool.true_xor, Bool.false_eq_true]
    exact ⟨trivial, q⟩)
theorem numbered_mem {xs : List D} {d : D} (h : d ∈ numbered xs) : ∃ (i : Nat) (x : D), x ∈ xs ∧ d = .tup [.int i, x] := by
  obtain ⟨k, hk⟩ := List.mem_iff_getElem?.mp h
  unfold numbered at hk
  rw [List.getElem?_zipWith] at hk
  cases h1 : (List.range xs.length)[k]? with
  | none => rw [h1] at hk; simp at hk
  | some i =>
    cases h2 : xs[k]? with
    | none => rw [h1, h2] at hk; simp at hk
    | some x =>
      rw [h1, h2] at hk
      simp at hk
      exact ⟨i, x, List.mem_of_getElem? h2, hk.symm⟩
theorem rows_ok {L : Tx} {A : List Row} {E : List Int} (hL : L.length ≤ 4) (g : Good L A E) (x : Exn → Prop) (Q : T → Prop) (q : Q (.d .non)) : f_check_rows [.d (.str L), .d (.lst (A.map rowD)), .d (.lst (E.map D.int))] x Q := by
  have hn := g.ne
  have hz := g.sz
  have hS : L.length ≤ SZ := Nat.le_trans hL (by decide)
  unfold f_check_rows d_check_rows
  simp only [↓semOf, ↓toB, ↓sNext, ↓sSeq, ↓sSet, ↓sIf, ↓sRet, ↓sRetN, ↓sPart, ↓sExpr, ↓sBreak, ↓sCont, ↓tAnd, ↓tOr, ↓tNot, ↓tB, ↓dBin, ↓dUn, ↓dVar, ↓dC, ↓dIf, ↓dAnd, ↓dOr, ↓dNot, ↓dCall, ↓dNext, ↓look, ↓esc, ↓Y.bind, ↓arg, ↓iv, ↓bv, ↓sv, ↓oAdd, ↓oSub, ↓oMul, ↓oDiv, ↓oMod, ↓oPow, ↓oNeg, ↓oEq, ↓oNe, ↓oLt, ↓oLe, ↓oGt, ↓oGe, ↓oLen, ↓oIx, ↓oInt, ↓dLst, ↓dTup, ↓aNil, ↓aCons, ↓datas, ↓dStC, ↓dStI, ↓sStPut, ↓scalD, ↓D.eqv, ↓MO.data, ↓oIsN, ↓oNotN, ↓isN, ↓oTuple, ↓oIn, ↓oAbs, ↓dFld, ↓sFld, ↓initOf, ↓dMake, ↓dLc, ↓iOf, ↓items, ↓iEnum, ↓iRange1, ↓sFor, ↓gName, ↓gTup, ↓gTup.go, ↓sRaise0, ↓isTup, ↓sAppend, ↓sStore, ↓sAugAdd, ↓dNewT, ↓dDispT, ↓sDput, ↓putAtM, ↓oDin, ↓oDix, ↓atD, ↓toKeys, ↓toKey, ↓sFrz, ↓oIsi, ↓tyName, ↓isiB, ↓dIndexL, List.map_cons, List.map_nil, List.length_cons, List.length_nil, List.replicate, List.cons_append, List.nil_append, List.getElem?_cons_zero, List.getElem?_cons_succ, List.set_cons_zero, List.set_cons_succ, Option.map_some, T.d.injEq, D.bl.injEq, D.int.injEq, Option.some.injEq, exists_eq_left', exists_eq_left, exists_eq_right, true_and, and_true, true_or, or_true, decide_eq_true_eq, if_true, if_false, reduceIte, Nat.reduceAdd, Nat.reduceSub, Nat.zero_add, Option.bind_some, List.map_nil, List.length_map, hS]
  rw [if_neg (by simp only [beq_iff_eq]; omega)]
  rw [if_neg (by omega)]
  refine ⟨not_false, ?_⟩
  refine forL_inv (I := fun xs ρ => (∃ a b c, ρ = [some (.d (.str L)), some (.d (.lst (A.map rowD))), some (.d (.lst (E.map D.int))), a, b, c, none]) ∧ ∀ x ∈ xs, ∃ (i : Nat) (r : Row), r ∈ A ∧ x = .tup [.int i, rowD r]) (fun x xs ρ h k hk => ?_) (fun ρ h => ?_) _ _ ⟨⟨_, _, _, rfl⟩, fun x hx => ?_⟩
  · obtain ⟨⟨a, b, c, rfl⟩, hx⟩ := h
    obtain ⟨i, r, hr, rfl⟩ := hx x (by simp)
    obtain ⟨r1, r2⟩ := g.rows r hr
    simp only [↓semOf, ↓toB, ↓sNext, ↓sSeq, ↓sSet, ↓sIf, ↓sRet, ↓sRetN, ↓sPart, ↓sExpr, ↓sBreak, ↓sCont, ↓tAnd, ↓tOr, ↓tNot, ↓tB, ↓dBin, ↓dUn, ↓dVar, ↓dC, ↓dIf, ↓dAnd, ↓dOr, ↓dNot, ↓dCall, ↓dNext, ↓look, ↓esc, ↓Y.bind, ↓arg, ↓iv, ↓bv, ↓sv, ↓oAdd, ↓oSub, ↓oMul, ↓oDiv, ↓oMod, ↓oPow, ↓oNeg, ↓oEq, ↓oNe, ↓oLt, ↓oLe, ↓oGt, ↓oGe, ↓oLen, ↓oIx, ↓oInt, ↓dLst, ↓dTup, ↓aNil, ↓aCons, ↓datas, ↓dStC, ↓dStI, ↓sStPut, ↓scalD, ↓D.eqv, ↓MO.data, ↓oIsN, ↓oNotN, ↓isN, ↓oTuple, ↓oIn, ↓oAbs, ↓dFld, ↓sFld, ↓initOf, ↓dMake, ↓dLc, ↓iOf, ↓items, ↓iEnum, ↓iRange1, ↓sFor, ↓gName, ↓gTup, ↓gTup.go, ↓sRaise0, ↓isTup, ↓sAppend, ↓sStore, ↓sAugAdd, ↓dNewT, ↓dDispT, ↓sDput, ↓putAtM, ↓oDin, ↓oDix, ↓atD, ↓toKeys, ↓toKey, ↓sFrz, ↓oIsi, ↓tyName, ↓isiB, ↓dIndexL, List.map_cons, List.map_nil, List.length_cons, List.length_nil, List.replicate, List.cons_append, List.nil_append, List.getElem?_cons_zero, List.getElem?_cons_succ, List.set_cons_zero, List.set_cons_succ, Option.map_some, T.d.injEq, D.bl.injEq, D.int.injEq, Option.some.injEq, exists_eq_left', exists_eq_left, exists_eq_right, true_and, and_true, true_or, or_true, decide_eq_true_eq, if_true, if_false, reduceIte, Nat.reduceAdd, Nat.reduceSub, Nat.zero_add, Option.bind_some, List.map_nil, rowD, List.length_map, hS, r1]
    rw [if_neg (by simp)]
    refine forL_inv (I := fun ys ρ => (∃ c, ρ = [some (.d (.str L)), some (.d (.lst (A.map rowD))), some (.d (.lst (E.map D.int))), some (.d (.int i)), some (.d (rowD r)), c, none]) ∧ ∀ y ∈ ys, ∃ z : Int, z ∈ r ∧ y = .int z) (fun y ys ρ h k hk => ?_) (fun ρ h => ?_) _ _ ⟨⟨_, rfl⟩, fun y hy => ?_⟩
    · obtain ⟨⟨c, rfl⟩, hy⟩ := h
      obtain ⟨z, hz, rfl⟩ := hy y (by simp)
      obtain ⟨z1, z2⟩ := r2 z hz
      simp only [↓semOf, ↓toB, ↓sNext, ↓sSeq, ↓sSet, ↓sIf, ↓sRet, ↓sRetN, ↓sPart, ↓sExpr, ↓sBreak, ↓sCont, ↓tAnd, ↓tOr, ↓tNot, ↓tB, ↓dBin, ↓dUn, ↓dVar, ↓dC, ↓dIf, ↓dAnd, ↓dOr, ↓dNot, ↓dCall, ↓dNext, ↓look, ↓esc, ↓Y.bind, ↓arg, ↓iv, ↓bv, ↓sv, ↓oAdd, ↓oSub, ↓oMul, ↓oDiv, ↓oMod, ↓oPow, ↓oNeg, ↓oEq, ↓oNe, ↓oLt, ↓oLe, ↓oGt, ↓oGe, ↓oLen, ↓oIx, ↓oInt, ↓dLst, ↓dTup, ↓aNil, ↓aCons, ↓datas, ↓dStC, ↓dStI, ↓sStPut, ↓scalD, ↓D.eqv, ↓MO.data, ↓oIsN, ↓oNotN, ↓isN, ↓oTuple, ↓oIn, ↓oAbs, ↓dFld, ↓sFld, ↓initOf, ↓dMake, ↓dLc, ↓iOf, ↓items, ↓iEnum, ↓iRange1, ↓sFor, ↓gName, ↓gTup, ↓gTup.go, ↓sRaise0, ↓isTup, ↓sAppend, ↓sStore, ↓sAugAdd, ↓dNewT, ↓dDispT, ↓sDput, ↓putAtM, ↓oDin, ↓oDix, ↓atD, ↓toKeys, ↓toKey, ↓sFrz, ↓oIsi, ↓tyName, ↓isiB, ↓dIndexL, List.map_cons, List.map_nil, List.length_cons, List.length_nil, List.replicate, List.cons_append, List.nil_append, List.getElem?_cons_zero, List.getElem?_cons_succ, List.set_cons_zero, List.set_cons_succ, Option.map_some, T.d.injEq, D.bl.injEq, D.int.injEq, Option.some.injEq, exists_eq_left', exists_eq_left, exists_eq_right, true_and, and_true, true_or, or_true, decide_eq_true_eq, if_true, if_false, reduceIte, Nat.reduceAdd, Nat.reduceSub, Nat.zero_add, Option.bind_some, List.map_nil, List.length_map]
      rw [if_neg (by omega), if_neg (by omega)]
      exact hk _ ⟨⟨_, rfl⟩, fun y h => hy y (by simp [h])⟩
    · obtain ⟨⟨c, rfl⟩, _⟩ := h
      exact hk _ ⟨⟨_, _, _, rfl⟩, fun y h => hx y (by simp [h])⟩
    · obtain ⟨z, hz, rfl⟩ := List.mem_map.mp hy
      exact ⟨z, hz, rfl⟩
  · obtain ⟨⟨a, b, c, rfl⟩, _⟩ := h
    simp only [↓semOf, ↓toB, ↓sNext, ↓sSeq, ↓sSet, ↓sIf, ↓sRet, ↓sRetN, ↓sPart, ↓sExpr, ↓sBreak, ↓sCont, ↓tAnd, ↓tOr, ↓tNot, ↓tB, ↓dBin, ↓dUn, ↓dVar, ↓dC, ↓dIf, ↓dAnd, ↓dOr, ↓dNot, ↓dCall, ↓dNext, ↓look, ↓esc, ↓Y.bind, ↓arg, ↓iv, ↓bv, ↓sv, ↓oAdd, ↓oSub, ↓oMul, ↓oDiv, ↓oMod, ↓oPow, ↓oNeg, ↓oEq, ↓oNe, ↓oLt, ↓oLe, ↓oGt, ↓oGe, ↓oLen, ↓oIx, ↓oInt, ↓dLst, ↓dTup, ↓aNil, ↓aCons, ↓datas, ↓dStC, ↓dStI, ↓sStPut, ↓scalD, ↓D.eqv, ↓MO.data, ↓oIsN, ↓oNotN, ↓isN, ↓oTuple, ↓oIn, ↓oAbs, ↓dFld, ↓sFld, ↓initOf, ↓dMake, ↓dLc, ↓iOf, ↓items, ↓iEnum, ↓iRange1, ↓sFor, ↓gName, ↓gTup, ↓gTup.go, ↓sRaise0, ↓isTup, ↓sAppend, ↓sStore, ↓sAugAdd, ↓dNewT, ↓dDispT, ↓sDput, ↓putAtM, ↓oDin, ↓oDix, ↓atD, ↓toKeys, ↓toKey, ↓sFrz, ↓oIsi, ↓tyName, ↓isiB, ↓dIndexL, List.map_cons, List.map_nil, List.length_cons, List.length_nil, List.replicate, List.cons_append, List.nil_append, List.getElem?_cons_zero, List.getElem?_cons_succ, List.set_cons_zero, List.set_cons_succ, Option.map_some, T.d.injEq, D.bl.injEq, D.int.injEq, Option.some.injEq, exists_eq_left', exists_eq_left, exists_eq_right, true_and, and_true, true_or, or_true, decide_eq_true_eq, if_true, if_false, reduceIte, Nat.reduceAdd, Nat.reduceSub, Nat.zero_add, Option.bind_some, List.map_nil]
    refine forL_inv (I := fun xs ρ => ∃ (es : List Int) (p : Int) (c : Option B), xs = es.map D.int ∧ (∀ e ∈ es, p < e ∧ e < A.length) ∧ es.Pairwise (· < ·) ∧ ρ = [some (.d (.str L)), some (.d (.lst (A.map rowD))), some (.d (.lst (E.map D.int))), a, b, c, some (.d (.int p))]) (fun x xs ρ h k hk => ?_) (fun ρ h => ?_) _ _ ⟨E, -1, c, rfl, fun e he => ?_, g.ends, rfl⟩
    · obtain ⟨es, p, c, he, hb, hp, rfl⟩ := h
      cases es with
      | nil => cases he
      | cons e es =>
        cases he
        obtain ⟨h1, h2⟩ := hb e (by simp)
        simp only [↓semOf, ↓toB, ↓sNext, ↓sSeq, ↓sSet, ↓sIf, ↓sRet, ↓sRetN, ↓sPart, ↓sExpr, ↓sBreak, ↓sCont, ↓tAnd, ↓tOr, ↓tNot, ↓tB, ↓dBin, ↓dUn, ↓dVar, ↓dC, ↓dIf, ↓dAnd, ↓dOr, ↓dNot, ↓dCall, ↓dNext, ↓look, ↓esc, ↓Y.bind, ↓arg, ↓iv, ↓bv, ↓sv, ↓oAdd, ↓oSub, ↓oMul, ↓oDiv, ↓oMod, ↓oPow, ↓oNeg, ↓oEq, ↓oNe, ↓oLt, ↓oLe, ↓oGt, ↓oGe, ↓oLen, ↓oIx, ↓oInt, ↓dLst, ↓dTup, ↓aNil, ↓aCons, ↓datas, ↓dStC, ↓dStI, ↓sStPut, ↓scalD, ↓D.eqv, ↓MO.data, ↓oIsN, ↓oNotN, ↓isN, ↓oTuple, ↓oIn, ↓oAbs, ↓dFld, ↓sFld, ↓initOf, ↓dMake, ↓dLc, ↓iOf, ↓items, ↓iEnum, ↓iRange1, ↓sFor, ↓gName, ↓gTup, ↓gTup.go, ↓sRaise0, ↓isTup, ↓sAppend, ↓sStore, ↓sAugAdd, ↓dNewT, ↓dDispT, ↓sDput, ↓putAtM, ↓oDin, ↓oDix, ↓atD, ↓toKeys, ↓toKey, ↓sFrz, ↓oIsi, ↓tyName, ↓isiB, ↓dIndexL, List.map_cons, List.map_nil, List.length_cons, List.length_nil, List.replicate, List.cons_append, List.nil_append, List.getElem?_cons_zero, List.getElem?_cons_succ, List.set_cons_zero, List.set_cons_succ, Option.map_some, T.d.injEq, D.bl.injEq, D.int.injEq, Option.some.injEq, exists_eq_left', exists_eq_left, exists_eq_right, true_and, and_true, true_or, or_true, decide_eq_true_eq, if_true, if_false, reduceIte, Nat.reduceAdd, Nat.reduceSub, Nat.zero_add, Option.bind_some, List.map_nil, List.length_map]
        rw [if_neg (by omega), if_neg (by omega)]
        rw [List.pairwise_cons] at hp
        exact hk _ ⟨es, e, _, rfl, fun e' he' => ⟨hp.1 e' he', (hb e' (by simp [he'])).2⟩, hp.2, rfl⟩
    · exact q
    · obtain ⟨h1, h2⟩ := g.endr e he
      exact ⟨by omega, h2⟩
  · obtain ⟨i, d, hd, rfl⟩ := numbered_mem hx
    obtain ⟨r, hr, rfl⟩ := List.mem_map.mp hd
    exact ⟨i, r, hr, rfl⟩
theorem init_ok {L : Tx} {A : List Row} {E : List Int} (hL : L ∈ LS ++ OS) (g : Good L A E) (x : Exn → Prop) (Q : T → Prop) (q : Q (.own (.ins "Machine" (mach L A E)))) :
    f_Machine___init__ [.d (.str L), .d (.lst (A.map rowD)), .d (.lst (E.map D.int))] x Q := by
  have hl : L.length ≤ 4 := by
    simp only [LS, OS, List.cons_append, List.nil_append, List.mem_cons, List.mem_nil_iff, or_false] at hL
    rcases hL with rfl | rfl | rfl | rfl | rfl | rfl | rfl | rfl | rfl | rfl | rfl | rfl <;> decide
  unfold f_Machine___init__ d_Machine___init__
  simp only [↓semOf, ↓toB, ↓sNext, ↓sSeq, ↓sSet, ↓sIf, ↓sRet, ↓sRetN, ↓sPart, ↓sExpr, ↓sBreak, ↓sCont, ↓tAnd, ↓tOr, ↓tNot, ↓tB, ↓dBin, ↓dUn, ↓dVar, ↓dC, ↓dIf, ↓dAnd, ↓dOr, ↓dNot, ↓dCall, ↓dNext, ↓look, ↓esc, ↓Y.bind, ↓arg, ↓iv, ↓bv, ↓sv, ↓oAdd, ↓oSub, ↓oMul, ↓oDiv, ↓oMod, ↓oPow, ↓oNeg, ↓oEq, ↓oNe, ↓oLt, ↓oLe, ↓oGt, ↓oGe, ↓oLen, ↓oIx, ↓oInt, ↓dLst, ↓dTup, ↓aNil, ↓aCons, ↓datas, ↓dStC, ↓dStI, ↓sStPut, ↓scalD, ↓D.eqv, ↓MO.data, ↓oIsN, ↓oNotN, ↓isN, ↓oTuple, ↓oIn, ↓oAbs, ↓dFld, ↓sFld, ↓initOf, ↓dMake, ↓dLc, ↓iOf, ↓items, ↓iEnum, ↓iRange1, ↓sFor, ↓gName, ↓gTup, ↓gTup.go, ↓sRaise0, ↓isTup, ↓sAppend, ↓sStore, ↓sAugAdd, ↓dNewT, ↓dDispT, ↓sDput, ↓putAtM, ↓oDin, ↓oDix, ↓atD, ↓toKeys, ↓toKey, ↓sFrz, ↓oIsi, ↓tyName, ↓isiB, ↓dIndexL, List.map_cons, List.map_nil, List.length_cons, List.length_nil, List.replicate, List.cons_append, List.nil_append, List.getElem?_cons_zero, List.getElem?_cons_succ, List.set_cons_zero, List.set_cons_succ, Option.map_some, T.d.injEq, D.bl.injEq, D.int.injEq, Option.some.injEq, exists_eq_left', exists_eq_left, exists_eq_right, true_and, and_true, true_or, or_true, decide_eq_true_eq, if_true, if_false, reduceIte, Nat.reduceAdd, Nat.reduceSub, Nat.zero_add, Option.bind_some, List.map_nil]
  refine letters_ok hL _ _ ?_
  refine rows_ok hl g _ _ ?_
  refine ⟨by decide, rfl, by decide, rfl, lcL_map (fun d => match d with | .lst xs => .tup xs | d => d) ?_ (fun d hd k1 hk => ?_) ?_⟩
  · rw [List.length_map]; exact Nat.le_trans g.sz (by decide)
  · obtain ⟨r, hr, rfl⟩ := List.mem_map.mp hd
    exact hk
  · have em : (A.map rowD).map (fun d => match d with | .lst xs => .tup xs | d => d) = A.map rowT := by rw [List.map_map]; rfl
    rw [em]
    simp only [↓semOf, ↓toB, ↓sNext, ↓sSeq, ↓sSet, ↓sIf, ↓sRet, ↓sRetN, ↓sPart, ↓sExpr, ↓sBreak, ↓sCont, ↓tAnd, ↓tOr, ↓tNot, ↓tB, ↓dBin, ↓dUn, ↓dVar, ↓dC, ↓dIf, ↓dAnd, ↓dOr, ↓dNot, ↓dCall, ↓dNext, ↓look, ↓esc, ↓Y.bind, ↓arg, ↓iv, ↓bv, ↓sv, ↓oAdd, ↓oSub, ↓oMul, ↓oDiv, ↓oMod, ↓oPow, ↓oNeg, ↓oEq, ↓oNe, ↓oLt, ↓oLe, ↓oGt, ↓oGe, ↓oLen, ↓oIx, ↓oInt, ↓dLst, ↓dTup, ↓aNil, ↓aCons, ↓datas, ↓dStC, ↓dStI, ↓sStPut, ↓scalD, ↓D.eqv, ↓MO.data, ↓oIsN, ↓oNotN, ↓isN, ↓oTuple, ↓oIn, ↓oAbs, ↓dFld, ↓sFld, ↓initOf, ↓dMake, ↓dLc, ↓iOf, ↓items, ↓iEnum, ↓iRange1, ↓sFor, ↓gName, ↓gTup, ↓gTup.go, ↓sRaise0, ↓isTup, ↓sAppend, ↓sStore, ↓sAugAdd, ↓dNewT, ↓dDispT, ↓sDput, ↓putAtM, ↓oDin, ↓oDix, ↓atD, ↓toKeys, ↓toKey, ↓sFrz, ↓oIsi, ↓tyName, ↓isiB, ↓dIndexL, List.map_cons, List.map_nil, List.length_cons, List.length_nil, List.replicate, List.cons_append, List.nil_append, List.getElem?_cons_zero, List.getElem?_cons_succ, List.set_cons_zero, List.set_cons_succ, Option.map_some, T.d.injEq, D.bl.injEq, D.int.injEq, Option.some.injEq, exists_eq_left', exists_eq_left, exists_eq_right, true_and, and_true, true_or, or_true, decide_eq_true_eq, if_true, if_false, reduceIte, Nat.reduceAdd, Nat.reduceSub, Nat.zero_add, Option.bind_some, List.map_nil]
    refine ⟨by decide, rfl, by decide, by decide, rfl, by decide, q⟩
end Z

namespace Z
open Y
def stp (A : List Row) (s a : Int) : Int := if s < 0 then -1 else (A.getD s.toNat []).getD a.toNat 0
theorem Good.get {L : Tx} {A : List Row} {E : List Int} (g : Good L A E) {s a : Int} (h0 : 0 ≤ s) (h1 : s < A.length) (h2 : 0 ≤ a) (h3 : a < L.length) :
    ∃ r, A[s.toNat]? = some r ∧ r.length = L.length ∧ r[a.toNat]? = some (stp A s a) ∧ -1 ≤ stp A s a ∧ stp A s a < A.length := by
  have hs : s.toNat < A.length := by omega
  have hr : A[s.toNat] ∈ A := List.getElem_mem hs
  obtain ⟨r1, r2⟩ := g.rows _ hr
  have ha : a.toNat < (A[s.toNat]).length := by rw [r1]; omega
  have e : stp A s a = (A[s.toNat])[a.toNat] := by
    unfold stp
    rw [if_neg (by omega)]
    simp only [List.getD_eq_getElem?_getD, List.getElem?_eq_getElem hs, List.getElem?_eq_getElem ha, Option.getD_some]
  refine ⟨A[s.toNat], List.getElem?_eq_getElem hs, r1, by rw [e]; exact List.getElem?_eq_getElem ha, ?_⟩
  rw [e]
  exact r2 _ (List.getElem_mem ha)
theorem stp_ok {L : Tx} {A : List Row} {E : List Int} (g : Good L A E) {s a : Int} (h1 : s < A.length) (h2 : 0 ≤ a) (h3 : a < L.length) : -1 ≤ stp A s a ∧ stp A s a < A.length := by
  by_cases h : s < 0
  · unfold stp
    rw [if_pos h]
    have := g.ne
    omega
  · obtain ⟨r, _, _, _, h4⟩ := g.get (by omega) h1 h2 h3
    exact h4
theorem step_ok {L : Tx} {A : List Row} {E : List Int} (g : Good L A E) {s a : Int} (h1 : s < A.length) (h2 : 0 ≤ a) (h3 : a < L.length) (x : Exn → Prop) (Q : T → Prop) (q : Q (.d (.int (stp A s a)))) :
    f_step [.d (.ins "Machine" (mach L A E)), .d (.int s), .d (.int a)] x Q := by
  unfold f_step d_step
  simp only [↓semOf, ↓toB, ↓sNext, ↓sSeq, ↓sSet, ↓sIf, ↓sRet, ↓sRetN, ↓sPart, ↓sExpr, ↓sBreak, ↓sCont, ↓tAnd, ↓tOr, ↓tNot, ↓tB, ↓dBin, ↓dUn, ↓dVar, ↓dC, ↓dIf, ↓dAnd, ↓dOr, ↓dNot, ↓dCall, ↓dNext, ↓look, ↓esc, ↓Y.bind, ↓arg, ↓iv, ↓bv, ↓sv, ↓oAdd, ↓oSub, ↓oMul, ↓oDiv, ↓oMod, ↓oPow, ↓oNeg, ↓oEq, ↓oNe, ↓oLt, ↓oLe, ↓oGt, ↓oGe, ↓oLen, ↓oIx, ↓oInt, ↓dLst, ↓dTup, ↓aNil, ↓aCons, ↓datas, ↓dStC, ↓dStI, ↓sStPut, ↓scalD, ↓D.eqv, ↓MO.data, ↓oIsN, ↓oNotN, ↓isN, ↓oTuple, ↓oIn, ↓oAbs, ↓dFld, ↓sFld, ↓initOf, ↓dMake, ↓dLc, ↓iOf, ↓items, ↓iEnum, ↓iRange1, ↓sFor, ↓gName, ↓gTup, ↓gTup.go, ↓sRaise0, ↓isTup, ↓sAppend, ↓sStore, ↓sAugAdd, ↓dNewT, ↓dDispT, ↓sDput, ↓putAtM, ↓oDin, ↓oDix, ↓atD, ↓toKeys, ↓toKey, ↓sFrz, ↓oIsi, ↓tyName, ↓isiB, ↓dIndexL, List.map_cons, List.map_nil, List.length_cons, List.length_nil, List.replicate, List.cons_append, List.nil_append, List.getElem?_cons_zero, List.getElem?_cons_succ, List.set_cons_zero, List.set_cons_succ, Option.map_some, T.d.injEq, D.bl.injEq, D.int.injEq, Option.some.injEq, exists_eq_left', exists_eq_left, exists_eq_right, true_and, and_true, true_or, or_true, decide_eq_true_eq, if_true, if_false, reduceIte, Nat.reduceAdd, Nat.reduceSub, Nat.zero_add, Option.bind_some, List.map_nil]
  by_cases h : s < 0
  · rw [if_pos h]
    unfold stp at q
    rw [if_pos h] at q
    exact q
  · rw [if_neg h]
    obtain ⟨r, e1, e2, e3, _⟩ := g.get (by omega) h1 h2 h3
    simp only [↓semOf, ↓toB, ↓sNext, ↓sSeq, ↓sSet, ↓sIf, ↓sRet, ↓sRetN, ↓sPart, ↓sExpr, ↓sBreak, ↓sCont, ↓tAnd, ↓tOr, ↓tNot, ↓tB, ↓dBin, ↓dUn, ↓dVar, ↓dC, ↓dIf, ↓dAnd, ↓dOr, ↓dNot, ↓dCall, ↓dNext, ↓look, ↓esc, ↓Y.bind, ↓arg, ↓iv, ↓bv, ↓sv, ↓oAdd, ↓oSub, ↓oMul, ↓oDiv, ↓oMod, ↓oPow, ↓oNeg, ↓oEq, ↓oNe, ↓oLt, ↓oLe, ↓oGt, ↓oGe, ↓oLen, ↓oIx, ↓oInt, ↓dLst, ↓dTup, ↓aNil, ↓aCons, ↓datas, ↓dStC, ↓dStI, ↓sStPut, ↓scalD, ↓D.eqv, ↓MO.data, ↓oIsN, ↓oNotN, ↓isN, ↓oTuple, ↓oIn, ↓oAbs, ↓dFld, ↓sFld, ↓initOf, ↓dMake, ↓dLc, ↓iOf, ↓items, ↓iEnum, ↓iRange1, ↓sFor, ↓gName, ↓gTup, ↓gTup.go, ↓sRaise0, ↓isTup, ↓sAppend, ↓sStore, ↓sAugAdd, ↓dNewT, ↓dDispT, ↓sDput, ↓putAtM, ↓oDin, ↓oDix, ↓atD, ↓toKeys, ↓toKey, ↓sFrz, ↓oIsi, ↓tyName, ↓isiB, ↓dIndexL, List.map_cons, List.map_nil, List.length_cons, List.length_nil, List.replicate, List.cons_append, List.nil_append, List.getElem?_cons_zero, List.getElem?_cons_succ, List.set_cons_zero, List.set_cons_succ, Option.map_some, T.d.injEq, D.bl.injEq, D.int.injEq, Option.some.injEq, exists_eq_left', exists_eq_left, exists_eq_right, true_and, and_true, true_or, or_true, decide_eq_true_eq, if_true, if_false, reduceIte, Nat.reduceAdd, Nat.reduceSub, Nat.zero_add, Option.bind_some, List.map_nil, mach]
    refine ⟨by decide, _, rfl, s.toNat, rowT r, ?_, ?_, ?_⟩
    · rw [List.length_map]; exact ixOf_ok (by omega) h1
    · rw [List.getElem?_map, e1]; rfl
    · simp only [↓semOf, ↓toB, ↓sNext, ↓sSeq, ↓sSet, ↓sIf, ↓sRet, ↓sRetN, ↓sPart, ↓sExpr, ↓sBreak, ↓sCont, ↓tAnd, ↓tOr, ↓tNot, ↓tB, ↓dBin, ↓dUn, ↓dVar, ↓dC, ↓dIf, ↓dAnd, ↓dOr, ↓dNot, ↓dCall, ↓dNext, ↓look, ↓esc, ↓Y.bind, ↓arg, ↓iv, ↓bv, ↓sv, ↓oAdd, ↓oSub, ↓oMul, ↓oDiv, ↓oMod, ↓oPow, ↓oNeg, ↓oEq, ↓oNe, ↓oLt, ↓oLe, ↓oGt, ↓oGe, ↓oLen, ↓oIx, ↓oInt, ↓dLst, ↓dTup, ↓aNil, ↓aCons, ↓datas, ↓dStC, ↓dStI, ↓sStPut, ↓scalD, ↓D.eqv, ↓MO.data, ↓oIsN, ↓oNotN, ↓isN, ↓oTuple, ↓oIn, ↓oAbs, ↓dFld, ↓sFld, ↓initOf, ↓dMake, ↓dLc, ↓iOf, ↓items, ↓iEnum, ↓iRange1, ↓sFor, ↓gName, ↓gTup, ↓gTup.go, ↓sRaise0, ↓isTup, ↓sAppend, ↓sStore, ↓sAugAdd, ↓dNewT, ↓dDispT, ↓sDput, ↓putAtM, ↓oDin, ↓oDix, ↓atD, ↓toKeys, ↓toKey, ↓sFrz, ↓oIsi, ↓tyName, ↓isiB, ↓dIndexL, List.map_cons, List.map_nil, List.length_cons, List.length_nil, List.replicate, List.cons_append, List.nil_append, List.getElem?_cons_zero, List.getElem?_cons_succ, List.set_cons_zero, List.set_cons_succ, Option.map_some, T.d.injEq, D.bl.injEq, D.int.injEq, Option.some.injEq, exists_eq_left', exists_eq_left, exists_eq_right, true_and, and_true, true_or, or_true, decide_eq_true_eq, if_true, if_false, reduceIte, Nat.reduceAdd, Nat.reduceSub, Nat.zero_add, Option.bind_some, List.map_nil, rowT]
      refine ⟨a.toNat, .int (stp A s a), ?_, ?_, q⟩
      · rw [List.length_map, e2]; exact ixOf_ok h2 h3
      · rw [List.getElem?_map, e3]; rfl
theorem lstep_ok {L : Tx} {A : List Row} {E : List Int} (g : Good L A E) {s a : Int} (h1 : s < A.length) (h2 : 0 ≤ a) (h3 : a < L.length) (x : Exn → Prop) (Q : T → Prop) (q : Q (.d (.int (stp A s a)))) :
    f__law_step [.d (.lst (A.map rowD)), .d (.int s), .d (.int a)] x Q := by
  unfold f__law_step d__law_step
  simp only [↓semOf, ↓toB, ↓sNext, ↓sSeq, ↓sSet, ↓sIf, ↓sRet, ↓sRetN, ↓sPart, ↓sExpr, ↓sBreak, ↓sCont, ↓tAnd, ↓tOr, ↓tNot, ↓tB, ↓dBin, ↓dUn, ↓dVar, ↓dC, ↓dIf, ↓dAnd, ↓dOr, ↓dNot, ↓dCall, ↓dNext, ↓look, ↓esc, ↓Y.bind, ↓arg, ↓iv, ↓bv, ↓sv, ↓oAdd, ↓oSub, ↓oMul, ↓oDiv, ↓oMod, ↓oPow, ↓oNeg, ↓oEq, ↓oNe, ↓oLt, ↓oLe, ↓oGt, ↓oGe, ↓oLen, ↓oIx, ↓oInt, ↓dLst, ↓dTup, ↓aNil, ↓aCons, ↓datas, ↓dStC, ↓dStI, ↓sStPut, ↓scalD, ↓D.eqv, ↓MO.data, ↓oIsN, ↓oNotN, ↓isN, ↓oTuple, ↓oIn, ↓oAbs, ↓dFld, ↓sFld, ↓initOf, ↓dMake, ↓dLc, ↓iOf, ↓items, ↓iEnum, ↓iRange1, ↓sFor, ↓gName, ↓gTup, ↓gTup.go, ↓sRaise0, ↓isTup, ↓sAppend, ↓sStore, ↓sAugAdd, ↓dNewT, ↓dDispT, ↓sDput, ↓putAtM, ↓oDin, ↓oDix, ↓atD, ↓toKeys, ↓toKey, ↓sFrz, ↓oIsi, ↓tyName, ↓isiB, ↓dIndexL, List.map_cons, List.map_nil, List.length_cons, List.length_nil, List.replicate, List.cons_append, List.nil_append, List.getElem?_cons_zero, List.getElem?_cons_succ, List.set_cons_zero, List.set_cons_succ, Option.map_some, T.d.injEq, D.bl.injEq, D.int.injEq, Option.some.injEq, exists_eq_left', exists_eq_left, exists_eq_right, true_and, and_true, true_or, or_true, decide_eq_true_eq, if_true, if_false, reduceIte, Nat.reduceAdd, Nat.reduceSub, Nat.zero_add, Option.bind_some, List.map_nil]
  by_cases h : s < 0
  · rw [if_pos h]
    unfold stp at q
    rw [if_pos h] at q
    exact q
  · rw [if_neg h]
    obtain ⟨r, e1, e2, e3, _⟩ := g.get (by omega) h1 h2 h3
    refine ⟨s.toNat, rowD r, ?_, ?_, ?_⟩
    · rw [List.length_map]; exact ixOf_ok (by omega) h1
    · rw [List.getElem?_map, e1]; rfl
    · simp only [↓semOf, ↓toB, ↓sNext, ↓sSeq, ↓sSet, ↓sIf, ↓sRet, ↓sRetN, ↓sPart, ↓sExpr, ↓sBreak, ↓sCont, ↓tAnd, ↓tOr, ↓tNot, ↓tB, ↓dBin, ↓dUn, ↓dVar, ↓dC, ↓dIf, ↓dAnd, ↓dOr, ↓dNot, ↓dCall, ↓dNext, ↓look, ↓esc, ↓Y.bind, ↓arg, ↓iv, ↓bv, ↓sv, ↓oAdd, ↓oSub, ↓oMul, ↓oDiv, ↓oMod, ↓oPow, ↓oNeg, ↓oEq, ↓oNe, ↓oLt, ↓oLe, ↓oGt, ↓oGe, ↓oLen, ↓oIx, ↓oInt, ↓dLst, ↓dTup, ↓aNil, ↓aCons, ↓datas, ↓dStC, ↓dStI, ↓sStPut, ↓scalD, ↓D.eqv, ↓MO.data, ↓oIsN, ↓oNotN, ↓isN, ↓oTuple, ↓oIn, ↓oAbs, ↓dFld, ↓sFld, ↓initOf, ↓dMake, ↓dLc, ↓iOf, ↓items, ↓iEnum, ↓iRange1, ↓sFor, ↓gName, ↓gTup, ↓gTup.go, ↓sRaise0, ↓isTup, ↓sAppend, ↓sStore, ↓sAugAdd, ↓dNewT, ↓dDispT, ↓sDput, ↓putAtM, ↓oDin, ↓oDix, ↓atD, ↓toKeys, ↓toKey, ↓sFrz, ↓oIsi, ↓tyName, ↓isiB, ↓dIndexL, List.map_cons, List.map_nil, List.length_cons, List.length_nil, List.replicate, List.cons_append, List.nil_append, List.getElem?_cons_zero, List.getElem?_cons_succ, List.set_cons_zero, List.set_cons_succ, Option.map_some, T.d.injEq, D.bl.injEq, D.int.injEq, Option.some.injEq, exists_eq_left', exists_eq_left, exists_eq_right, true_and, and_true, true_or, or_true, decide_eq_true_eq, if_true, if_false, reduceIte, Nat.reduceAdd, Nat.reduceSub, Nat.zero_add, Option.bind_some, List.map_nil, rowD]
      refine ⟨a.toNat, .int (stp A s a), ?_, ?_, q⟩
      · rw [List.length_map, e2]; exact ixOf_ok h2 h3
      · rw [List.getElem?_map, e3]; rfl
def missing (L : Tx) : Row := L.map fun _ => -1
theorem good_none (L : Tx) : Good L [missing L] [] := ⟨by simp, by simp, fun r hr => by
  simp at hr; subst hr
  refine ⟨by simp [missing], fun x hx => ?_⟩
  simp [missing] at hx
  obtain ⟨_, rfl⟩ := hx
  simp, List.Pairwise.nil, fun x hx => by cases hx⟩
theorem missing_lc (L : Tx) : (L.map fun c => D.str [c]).map (fun _ => D.int (-1)) = (missing L).map D.int := by
  unfold missing; rw [List.map_map, List.map_map]; rfl
theorem nothing_ok {L : Tx} (hL : L ∈ LS ++ OS) (x : Exn → Prop) (Q : T → Prop) (q : Q (.own (.ins "Machine" (mach L [missing L] [])))) : f_nothing [.d (.str L)] x Q := by
  have hl : L.length ≤ 4 := by
    simp only [LS, OS, List.cons_append, List.nil_append, List.mem_cons, List.mem_nil_iff, or_false] at hL
    rcases hL with rfl | rfl | rfl | rfl | rfl | rfl | rfl | rfl | rfl | rfl | rfl | rfl <;> decide
  unfold f_nothing d_nothing
  simp only [↓semOf, ↓toB, ↓sNext, ↓sSeq, ↓sSet, ↓sIf, ↓sRet, ↓sRetN, ↓sPart, ↓sExpr, ↓sBreak, ↓sCont, ↓tAnd, ↓tOr, ↓tNot, ↓tB, ↓dBin, ↓dUn, ↓dVar, ↓dC, ↓dIf, ↓dAnd, ↓dOr, ↓dNot, ↓dCall, ↓dNext, ↓look, ↓esc, ↓Y.bind, ↓arg, ↓iv, ↓bv, ↓sv, ↓oAdd, ↓oSub, ↓oMul, ↓oDiv, ↓oMod, ↓oPow, ↓oNeg, ↓oEq, ↓oNe, ↓oLt, ↓oLe, ↓oGt, ↓oGe, ↓oLen, ↓oIx, ↓oInt, ↓dLst, ↓dTup, ↓aNil, ↓aCons, ↓datas, ↓dStC, ↓dStI, ↓sStPut, ↓scalD, ↓D.eqv, ↓MO.data, ↓oIsN, ↓oNotN, ↓isN, ↓oTuple, ↓oIn, ↓oAbs, ↓dFld, ↓sFld, ↓initOf, ↓dMake, ↓dLc, ↓iOf, ↓items, ↓iEnum, ↓iRange1, ↓sFor, ↓gName, ↓gTup, ↓gTup.go, ↓sRaise0, ↓isTup, ↓sAppend, ↓sStore, ↓sAugAdd, ↓dNewT, ↓dDispT, ↓sDput, ↓putAtM, ↓oDin, ↓oDix, ↓atD, ↓toKeys, ↓toKey, ↓sFrz, ↓oIsi, ↓tyName, ↓isiB, ↓dIndexL, List.map_cons, List.map_nil, List.length_cons, List.length_nil, List.replicate, List.cons_append, List.nil_append, List.getElem?_cons_zero, List.getElem?_cons_succ, List.set_cons_zero, List.set_cons_succ, Option.map_some, T.d.injEq, D.bl.injEq, D.int.injEq, Option.some.injEq, exists_eq_left', exists_eq_left, exists_eq_right, true_and, and_true, true_or, or_true, decide_eq_true_eq, if_true, if_false, reduceIte, Nat.reduceAdd, Nat.reduceSub, Nat.zero_add, Option.bind_some, List.map_nil]
  refine letters_ok hL _ _ ?_
  refine ⟨rfl, lcL_map (fun _ => .int (-1)) ?_ (fun d hd k1 hk => hk) ?_⟩
  · rw [List.length_map]; exact Nat.le_trans hl (by decide)
  · rw [missing_lc]
    simp only [↓semOf, ↓toB, ↓sNext, ↓sSeq, ↓sSet, ↓sIf, ↓sRet, ↓sRetN, ↓sPart, ↓sExpr, ↓sBreak, ↓sCont, ↓tAnd, ↓tOr, ↓tNot, ↓tB, ↓dBin, ↓dUn, ↓dVar, ↓dC, ↓dIf, ↓dAnd, ↓dOr, ↓dNot, ↓dCall, ↓dNext, ↓look, ↓esc, ↓Y.bind, ↓arg, ↓iv, ↓bv, ↓sv, ↓oAdd, ↓oSub, ↓oMul, ↓oDiv, ↓oMod, ↓oPow, ↓oNeg, ↓oEq, ↓oNe, ↓oLt, ↓oLe, ↓oGt, ↓oGe, ↓oLen, ↓oIx, ↓oInt, ↓dLst, ↓dTup, ↓aNil, ↓aCons, ↓datas, ↓dStC, ↓dStI, ↓sStPut, ↓scalD, ↓D.eqv, ↓MO.data, ↓oIsN, ↓oNotN, ↓isN, ↓oTuple, ↓oIn, ↓oAbs, ↓dFld, ↓sFld, ↓initOf, ↓dMake, ↓dLc, ↓iOf, ↓items, ↓iEnum, ↓iRange1, ↓sFor, ↓gName, ↓gTup, ↓gTup.go, ↓sRaise0, ↓isTup, ↓sAppend, ↓sStore, ↓sAugAdd, ↓dNewT, ↓dDispT, ↓sDput, ↓putAtM, ↓oDin, ↓oDix, ↓atD, ↓toKeys, ↓toKey, ↓sFrz, ↓oIsi, ↓tyName, ↓isiB, ↓dIndexL, List.map_cons, List.map_nil, List.length_cons, List.length_nil, List.replicate, List.cons_append, List.nil_append, List.getElem?_cons_zero, List.getElem?_cons_succ, List.set_cons_zero, List.set_cons_succ, Option.map_some, T.d.injEq, D.bl.injEq, D.int.injEq, Option.some.injEq, exists_eq_left', exists_eq_left, exists_eq_right, true_and, and_true, true_or, or_true, decide_eq_true_eq, if_true, if_false, reduceIte, Nat.reduceAdd, Nat.reduceSub, Nat.zero_add, Option.bind_some, List.map_nil]
    refine ⟨by decide, by decide, ?_⟩
    exact init_ok hL (good_none L) _ _ q
theorem upTo_mem {lo : Int} {n : Nat} {x : D} (h : x ∈ upTo lo n) : ∃ i : Nat, i < n ∧ x = .int (lo + i) := by
  unfold upTo at h
  obtain ⟨i, hi, rfl⟩ := List.mem_map.mp h
  exact ⟨i, List.mem_range.mp hi, rfl⟩
def RowsOk (L : Tx) (n : Int) (A : List Row) : Prop := ∀ r ∈ A, r.length = L.length ∧ ∀ x ∈ r, -1 ≤ x ∧ x < n
theorem lrows_ok {L : Tx} (hl : L.length ≤ 4) {n : Int} (h1 : 1 ≤ n) (h2 : n ≤ 128) (x : Exn → Prop) (Q : T → Prop) (q : ∀ A : List Row, (A.length : Int) = n → RowsOk L n A → Q (.own (.lst (A.map rowD)))) :
    f__law_rows [.st, .d (.str L), .d (.int n)] x Q := by
  unfold f__law_rows d__law_rows
  simp only [↓semOf, ↓toB, ↓sNext, ↓sSeq, ↓sSet, ↓sIf, ↓sRet, ↓sRetN, ↓sPart, ↓sExpr, ↓sBreak, ↓sCont, ↓tAnd, ↓tOr, ↓tNot, ↓tB, ↓dBin, ↓dUn, ↓dVar, ↓dC, ↓dIf, ↓dAnd, ↓dOr, ↓dNot, ↓dCall, ↓dNext, ↓look, ↓esc, ↓Y.bind, ↓arg, ↓iv, ↓bv, ↓sv, ↓oAdd, ↓oSub, ↓oMul, ↓oDiv, ↓oMod, ↓oPow, ↓oNeg, ↓oEq, ↓oNe, ↓oLt, ↓oLe, ↓oGt, ↓oGe, ↓oLen, ↓oIx, ↓oInt, ↓dLst, ↓dTup, ↓aNil, ↓aCons, ↓datas, ↓dStC, ↓dStI, ↓sStPut, ↓scalD, ↓D.eqv, ↓MO.data, ↓oIsN, ↓oNotN, ↓isN, ↓oTuple, ↓oIn, ↓oAbs, ↓dFld, ↓sFld, ↓initOf, ↓dMake, ↓dLc, ↓iOf, ↓items, ↓iEnum, ↓iRange1, ↓sFor, ↓gName, ↓gTup, ↓gTup.go, ↓sRaise0, ↓isTup, ↓sAppend, ↓sStore, ↓sAugAdd, ↓dNewT, ↓dDispT, ↓sDput, ↓putAtM, ↓oDin, ↓oDix, ↓atD, ↓toKeys, ↓toKey, ↓sFrz, ↓oIsi, ↓tyName, ↓isiB, ↓dIndexL, List.map_cons, List.map_nil, List.length_cons, List.length_nil, List.replicate, List.cons_append, List.nil_append, List.getElem?_cons_zero, List.getElem?_cons_succ, List.set_cons_zero, List.set_cons_succ, Option.map_some, T.d.injEq, D.bl.injEq, D.int.injEq, Option.some.injEq, exists_eq_left', exists_eq_left, exists_eq_right, true_and, and_true, true_or, or_true, decide_eq_true_eq, if_true, if_false, reduceIte, Nat.reduceAdd, Nat.reduceSub, Nat.zero_add, Option.bind_some, List.map_nil]
  refine ⟨by decide, by omega, ?_⟩
  refine forL_inv (I := fun xs ρ => ∃ (A : List Row) (a b c d : Option B), A.length + xs.length = n.toNat ∧ RowsOk L n A ∧ (∀ x ∈ xs, ∃ i : Int, x = .int i) ∧ ρ = [some .st, some (.d (.str L)), some (.d (.int n)), some (.own (.lst (A.map rowD))), a, b, c, d]) (fun x xs ρ h k hk => ?_) (fun ρ h => ?_) _ _ ⟨[], _, _, _, _, ?_, fun r hr => (by cases hr), fun y hy => ?_, rfl⟩
  · obtain ⟨A, a, b, c, d, hn, hr, hx, rfl⟩ := h
    obtain ⟨i, rfl⟩ := hx x (by simp)
    simp only [↓semOf, ↓toB, ↓sNext, ↓sSeq, ↓sSet, ↓sIf, ↓sRet, ↓sRetN, ↓sPart, ↓sExpr, ↓sBreak, ↓sCont, ↓tAnd, ↓tOr, ↓tNot, ↓tB, ↓dBin, ↓dUn, ↓dVar, ↓dC, ↓dIf, ↓dAnd, ↓dOr, ↓dNot, ↓dCall, ↓dNext, ↓look, ↓esc, ↓Y.bind, ↓arg, ↓iv, ↓bv, ↓sv, ↓oAdd, ↓oSub, ↓oMul, ↓oDiv, ↓oMod, ↓oPow, ↓oNeg, ↓oEq, ↓oNe, ↓oLt, ↓oLe, ↓oGt, ↓oGe, ↓oLen, ↓oIx, ↓oInt, ↓dLst, ↓dTup, ↓aNil, ↓aCons, ↓datas, ↓dStC, ↓dStI, ↓sStPut, ↓scalD, ↓D.eqv, ↓MO.data, ↓oIsN, ↓oNotN, ↓isN, ↓oTuple, ↓oIn, ↓oAbs, ↓dFld, ↓sFld, ↓initOf, ↓dMake, ↓dLc, ↓iOf, ↓items, ↓iEnum, ↓iRange1, ↓sFor, ↓gName, ↓gTup, ↓gTup.go, ↓sRaise0, ↓isTup, ↓sAppend, ↓sStore, ↓sAugAdd, ↓dNewT, ↓dDispT, ↓sDput, ↓putAtM, ↓oDin, ↓oDix, ↓atD, ↓toKeys, ↓toKey, ↓sFrz, ↓oIsi, ↓tyName, ↓isiB, ↓dIndexL, List.map_cons, List.map_nil, List.length_cons, List.length_nil, List.replicate, List.cons_append, List.nil_append, List.getElem?_cons_zero, List.getElem?_cons_succ, List.set_cons_zero, List.set_cons_succ, Option.map_some, T.d.injEq, D.bl.injEq, D.int.injEq, Option.some.injEq, exists_eq_left', exists_eq_left, exists_eq_right, true_and, and_true, true_or, or_true, decide_eq_true_eq, if_true, if_false, reduceIte, Nat.reduceAdd, Nat.reduceSub, Nat.zero_add, Option.bind_some, List.map_nil]
    refine ⟨by decide, ?_⟩
    refine forL_inv (I := fun ys ρ => ∃ (r : Row) (c d : Option B), r.length + ys.length = L.length ∧ (∀ x ∈ r, -1 ≤ x ∧ x < n) ∧ ρ = [some .st, some (.d (.str L)), some (.d (.int n)), some (.own (.lst (A.map rowD))), some (.d (.int i)), some (.own (.lst (r.map D.int))), c, d]) (fun y ys ρ h k' hk' => ?_) (fun ρ h => ?_) _ _ ⟨[], c, d, by simp, fun x hx => (by cases hx), rfl⟩
    · obtain ⟨r, c, d, hlr, hb, rfl⟩ := h
      have hsz : r.length < SZ := by
        simp only [List.length_cons] at hlr
        exact Nat.lt_of_lt_of_le (show r.length < 5 by omega) (by decide)
      have fin : ∀ (c d : Option B) (z : Int), -1 ≤ z → z < n → k' [some .st, some (.d (.str L)), some (.d (.int n)), some (.own (.lst (A.map rowD))), some (.d (.int i)), some (.own (.lst (r.map D.int ++ [.int z]))), c, d] := fun c d z z1 z2 =>
        hk' _ ⟨r ++ [z], c, d, by simp only [List.length_append, List.length_cons, List.length_nil] at hlr ⊢; omega, fun x hx => by
          rcases List.mem_append.mp hx with h | h
          · exact hb x h
          · simp at h; subst h; exact ⟨z1, z2⟩, by simp⟩
      simp only [↓semOf, ↓toB, ↓sNext, ↓sSeq, ↓sSet, ↓sIf, ↓sRet, ↓sRetN, ↓sPart, ↓sExpr, ↓sBreak, ↓sCont, ↓tAnd, ↓tOr, ↓tNot, ↓tB, ↓dBin, ↓dUn, ↓dVar, ↓dC, ↓dIf, ↓dAnd, ↓dOr, ↓dNot, ↓dCall, ↓dNext, ↓look, ↓esc, ↓Y.bind, ↓arg, ↓iv, ↓bv, ↓sv, ↓oAdd, ↓oSub, ↓oMul, ↓oDiv, ↓oMod, ↓oPow, ↓oNeg, ↓oEq, ↓oNe, ↓oLt, ↓oLe, ↓oGt, ↓oGe, ↓oLen, ↓oIx, ↓oInt, ↓dLst, ↓dTup, ↓aNil, ↓aCons, ↓datas, ↓dStC, ↓dStI, ↓sStPut, ↓scalD, ↓D.eqv, ↓MO.data, ↓oIsN, ↓oNotN, ↓isN, ↓oTuple, ↓oIn, ↓oAbs, ↓dFld, ↓sFld, ↓initOf, ↓dMake, ↓dLc, ↓iOf, ↓items, ↓iEnum, ↓iRange1, ↓sFor, ↓gName, ↓gTup, ↓gTup.go, ↓sRaise0, ↓isTup, ↓sAppend, ↓sStore, ↓sAugAdd, ↓dNewT, ↓dDispT, ↓sDput, ↓putAtM, ↓oDin, ↓oDix, ↓atD, ↓toKeys, ↓toKey, ↓sFrz, ↓oIsi, ↓tyName, ↓isiB, ↓dIndexL, List.map_cons, List.map_nil, List.length_cons, List.length_nil, List.replicate, List.cons_append, List.nil_append, List.getElem?_cons_zero, List.getElem?_cons_succ, List.set_cons_zero, List.set_cons_succ, Option.map_some, T.d.injEq, D.bl.injEq, D.int.injEq, Option.some.injEq, exists_eq_left', exists_eq_left, exists_eq_right, true_and, and_true, true_or, or_true, decide_eq_true_eq, if_true, if_false, reduceIte, Nat.reduceAdd, Nat.reduceSub, Nat.zero_add, Option.bind_some, List.map_nil]
      refine ⟨by decide, fun v v1 v2 => ?_⟩
      by_cases e0 : v = 0
      · rw [if_pos (by simp [e0])]
        refine ⟨⟨_, rfl⟩, ?_⟩
        simp only [↓semOf, ↓toB, ↓sNext, ↓sSeq, ↓sSet, ↓sIf, ↓sRet, ↓sRetN, ↓sPart, ↓sExpr, ↓sBreak, ↓sCont, ↓tAnd, ↓tOr, ↓tNot, ↓tB, ↓dBin, ↓dUn, ↓dVar, ↓dC, ↓dIf, ↓dAnd, ↓dOr, ↓dNot, ↓dCall, ↓dNext, ↓look, ↓esc, ↓Y.bind, ↓arg, ↓iv, ↓bv, ↓sv, ↓oAdd, ↓oSub, ↓oMul, ↓oDiv, ↓oMod, ↓oPow, ↓oNeg, ↓oEq, ↓oNe, ↓oLt, ↓oLe, ↓oGt, ↓oGe, ↓oLen, ↓oIx, ↓oInt, ↓dLst, ↓dTup, ↓aNil, ↓aCons, ↓datas, ↓dStC, ↓dStI, ↓sStPut, ↓scalD, ↓D.eqv, ↓MO.data, ↓oIsN, ↓oNotN, ↓isN, ↓oTuple, ↓oIn, ↓oAbs, ↓dFld, ↓sFld, ↓initOf, ↓dMake, ↓dLc, ↓iOf, ↓items, ↓iEnum, ↓iRange1, ↓sFor, ↓gName, ↓gTup, ↓gTup.go, ↓sRaise0, ↓isTup, ↓sAppend, ↓sStore, ↓sAugAdd, ↓dNewT, ↓dDispT, ↓sDput, ↓putAtM, ↓oDin, ↓oDix, ↓atD, ↓toKeys, ↓toKey, ↓sFrz, ↓oIsi, ↓tyName, ↓isiB, ↓dIndexL, List.map_cons, List.map_nil, List.length_cons, List.length_nil, List.replicate, List.cons_append, List.nil_append, List.getElem?_cons_zero, List.getElem?_cons_succ, List.set_cons_zero, List.set_cons_succ, Option.map_some, T.d.injEq, D.bl.injEq, D.int.injEq, Option.some.injEq, exists_eq_left', exists_eq_left, exists_eq_right, true_and, and_true, true_or, or_true, decide_eq_true_eq, if_true, if_false, reduceIte, Nat.reduceAdd, Nat.reduceSub, Nat.zero_add, Option.bind_some, List.map_nil, List.length_map]
        exact ⟨hsz, fin _ _ _ (by omega) (by omega)⟩
      · rw [if_neg (by simp [e0])]
        by_cases e1 : v = 1
        · rw [if_pos (by simp [e1])]
          refine ⟨⟨_, rfl⟩, ?_⟩
          simp only [↓semOf, ↓toB, ↓sNext, ↓sSeq, ↓sSet, ↓sIf, ↓sRet, ↓sRetN, ↓sPart, ↓sExpr, ↓sBreak, ↓sCont, ↓tAnd, ↓tOr, ↓tNot, ↓tB, ↓dBin, ↓dUn, ↓dVar, ↓dC, ↓dIf, ↓dAnd, ↓dOr, ↓dNot, ↓dCall, ↓dNext, ↓look, ↓esc, ↓Y.bind, ↓arg, ↓iv, ↓bv, ↓sv, ↓oAdd, ↓oSub, ↓oMul, ↓oDiv, ↓oMod, ↓oPow, ↓oNeg, ↓oEq, ↓oNe, ↓oLt, ↓oLe, ↓oGt, ↓oGe, ↓oLen, ↓oIx, ↓oInt, ↓dLst, ↓dTup, ↓aNil, ↓aCons, ↓datas, ↓dStC, ↓dStI, ↓sStPut, ↓scalD, ↓D.eqv, ↓MO.data, ↓oIsN, ↓oNotN, ↓isN, ↓oTuple, ↓oIn, ↓oAbs, ↓dFld, ↓sFld, ↓initOf, ↓dMake, ↓dLc, ↓iOf, ↓items, ↓iEnum, ↓iRange1, ↓sFor, ↓gName, ↓gTup, ↓gTup.go, ↓sRaise0, ↓isTup, ↓sAppend, ↓sStore, ↓sAugAdd, ↓dNewT, ↓dDispT, ↓sDput, ↓putAtM, ↓oDin, ↓oDix, ↓atD, ↓toKeys, ↓toKey, ↓sFrz, ↓oIsi, ↓tyName, ↓isiB, ↓dIndexL, List.map_cons, List.map_nil, List.length_cons, List.length_nil, List.replicate, List.cons_append, List.nil_append, List.getElem?_cons_zero, List.getElem?_cons_succ, List.set_cons_zero, List.set_cons_succ, Option.map_some, T.d.injEq, D.bl.injEq, D.int.injEq, Option.some.injEq, exists_eq_left', exists_eq_left, exists_eq_right, true_and, and_true, true_or, or_true, decide_eq_true_eq, if_true, if_false, reduceIte, Nat.reduceAdd, Nat.reduceSub, Nat.zero_add, Option.bind_some, List.map_nil, List.length_map]
          exact ⟨by omega, hsz, fin _ _ _ (by have := Int.emod_nonneg (i + 1) (b := n) (by omega); omega) (Int.emod_lt_of_pos _ (by omega))⟩
        · rw [if_neg (by simp [e1])]
          refine ⟨⟨_, rfl⟩, ?_⟩
          simp only [↓semOf, ↓toB, ↓sNext, ↓sSeq, ↓sSet, ↓sIf, ↓sRet, ↓sRetN, ↓sPart, ↓sExpr, ↓sBreak, ↓sCont, ↓tAnd, ↓tOr, ↓tNot, ↓tB, ↓dBin, ↓dUn, ↓dVar, ↓dC, ↓dIf, ↓dAnd, ↓dOr, ↓dNot, ↓dCall, ↓dNext, ↓look, ↓esc, ↓Y.bind, ↓arg, ↓iv, ↓bv, ↓sv, ↓oAdd, ↓oSub, ↓oMul, ↓oDiv, ↓oMod, ↓oPow, ↓oNeg, ↓oEq, ↓oNe, ↓oLt, ↓oLe, ↓oGt, ↓oGe, ↓oLen, ↓oIx, ↓oInt, ↓dLst, ↓dTup, ↓aNil, ↓aCons, ↓datas, ↓dStC, ↓dStI, ↓sStPut, ↓scalD, ↓D.eqv, ↓MO.data, ↓oIsN, ↓oNotN, ↓isN, ↓oTuple, ↓oIn, ↓oAbs, ↓dFld, ↓sFld, ↓initOf, ↓dMake, ↓dLc, ↓iOf, ↓items, ↓iEnum, ↓iRange1, ↓sFor, ↓gName, ↓gTup, ↓gTup.go, ↓sRaise0, ↓isTup, ↓sAppend, ↓sStore, ↓sAugAdd, ↓dNewT, ↓dDispT, ↓sDput, ↓putAtM, ↓oDin, ↓oDix, ↓atD, ↓toKeys, ↓toKey, ↓sFrz, ↓oIsi, ↓tyName, ↓isiB, ↓dIndexL, List.map_cons, List.map_nil, List.length_cons, List.length_nil, List.replicate, List.cons_append, List.nil_append, List.getElem?_cons_zero, List.getElem?_cons_succ, List.set_cons_zero, List.set_cons_succ, Option.map_some, T.d.injEq, D.bl.injEq, D.int.injEq, Option.some.injEq, exists_eq_left', exists_eq_left, exists_eq_right, true_and, and_true, true_or, or_true, decide_eq_true_eq, if_true, if_false, reduceIte, Nat.reduceAdd, Nat.reduceSub, Nat.zero_add, Option.bind_some, List.map_nil, List.length_map]
          exact ⟨⟨by omega, by omega⟩, fun w w1 w2 => ⟨hsz, fin _ _ _ (by omega) w2⟩⟩
    · obtain ⟨r, c, d, hlr, hb, rfl⟩ := h
      simp only [↓semOf, ↓toB, ↓sNext, ↓sSeq, ↓sSet, ↓sIf, ↓sRet, ↓sRetN, ↓sPart, ↓sExpr, ↓sBreak, ↓sCont, ↓tAnd, ↓tOr, ↓tNot, ↓tB, ↓dBin, ↓dUn, ↓dVar, ↓dC, ↓dIf, ↓dAnd, ↓dOr, ↓dNot, ↓dCall, ↓dNext, ↓look, ↓esc, ↓Y.bind, ↓arg, ↓iv, ↓bv, ↓sv, ↓oAdd, ↓oSub, ↓oMul, ↓oDiv, ↓oMod, ↓oPow, ↓oNeg, ↓oEq, ↓oNe, ↓oLt, ↓oLe, ↓oGt, ↓oGe, ↓oLen, ↓oIx, ↓oInt, ↓dLst, ↓dTup, ↓aNil, ↓aCons, ↓datas, ↓dStC, ↓dStI, ↓sStPut, ↓scalD, ↓D.eqv, ↓MO.data, ↓oIsN, ↓oNotN, ↓isN, ↓oTuple, ↓oIn, ↓oAbs, ↓dFld, ↓sFld, ↓initOf, ↓dMake, ↓dLc, ↓iOf, ↓items, ↓iEnum, ↓iRange1, ↓sFor, ↓gName, ↓gTup, ↓gTup.go, ↓sRaise0, ↓isTup, ↓sAppend, ↓sStore, ↓sAugAdd, ↓dNewT, ↓dDispT, ↓sDput, ↓putAtM, ↓oDin, ↓oDix, ↓atD, ↓toKeys, ↓toKey, ↓sFrz, ↓oIsi, ↓tyName, ↓isiB, ↓dIndexL, List.map_cons, List.map_nil, List.length_cons, List.length_nil, List.replicate, List.cons_append, List.nil_append, List.getElem?_cons_zero, List.getElem?_cons_succ, List.set_cons_zero, List.set_cons_succ, Option.map_some, T.d.injEq, D.bl.injEq, D.int.injEq, Option.some.injEq, exists_eq_left', exists_eq_left, exists_eq_right, true_and, and_true, true_or, or_true, decide_eq_true_eq, if_true, if_false, reduceIte, Nat.reduceAdd, Nat.reduceSub, Nat.zero_add, Option.bind_some, List.map_nil, List.length_map]
      refine ⟨⟨_, rfl⟩, ?_, ?_⟩
      · simp only [List.length_cons] at hn
        exact Nat.lt_of_lt_of_le (show A.length < 129 by omega) (by decide)
      · refine hk _ ⟨A ++ [r], some (.d (.int i)), some (.d (rowD r)), c, d, by simp only [List.length_append, List.length_cons, List.length_nil] at hn ⊢; omega, fun r' hr' => ?_, fun y hy => hx y (by simp [hy]), by simp [rowD]⟩
        rcases List.mem_append.mp hr' with h | h
        · exact hr r' h
        · simp at h; subst h
          exact ⟨by simpa using hlr, hb⟩
  · obtain ⟨A, a, b, c, d, hn, hr, hx, rfl⟩ := h
    simp only [↓semOf, ↓toB, ↓sNext, ↓sSeq, ↓sSet, ↓sIf, ↓sRet, ↓sRetN, ↓sPart, ↓sExpr, ↓sBreak, ↓sCont, ↓tAnd, ↓tOr, ↓tNot, ↓tB, ↓dBin, ↓dUn, ↓dVar, ↓dC, ↓dIf, ↓dAnd, ↓dOr, ↓dNot, ↓dCall, ↓dNext, ↓look, ↓esc, ↓Y.bind, ↓arg, ↓iv, ↓bv, ↓sv, ↓oAdd, ↓oSub, ↓oMul, ↓oDiv, ↓oMod, ↓oPow, ↓oNeg, ↓oEq, ↓oNe, ↓oLt, ↓oLe, ↓oGt, ↓oGe, ↓oLen, ↓oIx, ↓oInt, ↓dLst, ↓dTup, ↓aNil, ↓aCons, ↓datas, ↓dStC, ↓dStI, ↓sStPut, ↓scalD, ↓D.eqv, ↓MO.data, ↓oIsN, ↓oNotN, ↓isN, ↓oTuple, ↓oIn, ↓oAbs, ↓dFld, ↓sFld, ↓initOf, ↓dMake, ↓dLc, ↓iOf, ↓items, ↓iEnum, ↓iRange1, ↓sFor, ↓gName, ↓gTup, ↓gTup.go, ↓sRaise0, ↓isTup, ↓sAppend, ↓sStore, ↓sAugAdd, ↓dNewT, ↓dDispT, ↓sDput, ↓putAtM, ↓oDin, ↓oDix, ↓atD, ↓toKeys, ↓toKey, ↓sFrz, ↓oIsi, ↓tyName, ↓isiB, ↓dIndexL, List.map_cons, List.map_nil, List.length_cons, List.length_nil, List.replicate, List.cons_append, List.nil_append, List.getElem?_cons_zero, List.getElem?_cons_succ, List.set_cons_zero, List.set_cons_succ, Option.map_some, T.d.injEq, D.bl.injEq, D.int.injEq, Option.some.injEq, exists_eq_left', exists_eq_left, exists_eq_right, true_and, and_true, true_or, or_true, decide_eq_true_eq, if_true, if_false, reduceIte, Nat.reduceAdd, Nat.reduceSub, Nat.zero_add, Option.bind_some, List.map_nil]
    exact q A (by simp at hn; omega) hr
  · simp [upTo_length]
  · obtain ⟨i, _, rfl⟩ := upTo_mem hy
    exact ⟨_, rfl⟩
end Z

namespace Z
open Y
theorem upTo_range (n : Nat) : upTo 0 n = (List.range' 0 n).map fun i : Nat => D.int i := by
  unfold upTo
  rw [List.range_eq_range']
  apply List.map_congr_left
  intro i _
  simp
/-- numbers below n, some of them, ascending -/
theorem ends_lc {g : DG} {tt : DT} {te : DE} {vs : List Nat} {Q : T → En → Prop} {ρ : En} {n : Nat} (hz : n ≤ SZ)
    (hs : ∀ i : Nat, i < n → ∀ (k1 : D → En → Prop) (k2 : En → Prop), k1 (.int i) ρ → k2 ρ →
      g (.int i) (wipeD ρ vs) fun ρ1 => tt ρ1 noX fun b ρ2 => if b = true then te ρ2 noX fun t ρ3 => esc t ρ3 fun y ρ4 => k1 y (unwipe ρ vs ρ4) else k2 (unwipe ρ vs ρ2))
    (he : ∀ es : List Int, es.Pairwise (· < ·) → (∀ e ∈ es, 0 ≤ e ∧ e < n) → Q (.own (.lst (es.map D.int))) ρ) : lcL g tt te vs Q (upTo 0 n) [] ρ := by
  rw [upTo_range]
  refine lcL_inv (I := fun r acc => ∃ (t m : Nat) (es : List Int), t + m = n ∧ r = (List.range' t m).map (fun i : Nat => D.int i) ∧ acc = es.map D.int ∧ es.length ≤ t ∧ es.Pairwise (· < ·) ∧ ∀ e ∈ es, 0 ≤ e ∧ e < t) (fun d ds acc h => ?_) (fun acc h => ?_) _ _ ⟨0, n, [], by omega, rfl, rfl, Nat.zero_le _, List.Pairwise.nil, fun e h => by cases h⟩
  · obtain ⟨t, m, es, h1, h2, rfl, h3, h4, h5⟩ := h
    cases m with
    | zero => cases h2
    | succ m =>
      rw [List.range'_succ, List.map_cons] at h2
      cases h2
      refine ⟨by rw [List.length_map]; omega, fun k1 k2 a1 a2 => hs t (by omega) k1 k2 (a1 _ ⟨t + 1, m, es ++ [(t : Int)], by omega, rfl, by simp, by simp; omega, ?_, fun e he => ?_⟩) (a2 ⟨t + 1, m, es, by omega, rfl, rfl, by omega, h4, fun e he => ?_⟩)⟩
      · rw [List.pairwise_append]
        exact ⟨h4, List.pairwise_singleton _ _, fun a ha b hb => by simp at hb; subst hb; exact (h5 a ha).2⟩
      · rcases List.mem_append.mp he with h | h
        · have := h5 e h; omega
        · simp at h; subst h; omega
      · have := h5 e he; omega
  · obtain ⟨t, m, es, h1, h2, rfl, h3, h4, h5⟩ := h
    have hm : m = 0 := by cases m with | zero => rfl | succ m => rw [List.range'_succ] at h2; cases h2
    subst hm
    exact he es h4 fun e h => by have := h5 e h; omega
theorem ring_ok {L : Tx} (hl : L.length ≤ 4) {p n : Int} (p0 : 0 ≤ p) (p1 : p < L.length) (h1 : 1 ≤ n) (h2 : n ≤ 128) (E : List Int) (x : Exn → Prop) (Q : T → Prop) (q : ∀ A : List Row, (A.length : Int) = n → RowsOk L n A → Q (.d (pairD A E))) :
    f__law_ring [.d (.str L), .d (.int p), .d (.int n), .d (.lst (E.map D.int))] x Q := by
  unfold f__law_ring d__law_ring
  simp only [↓semOf, ↓toB, ↓sNext, ↓sSeq, ↓sSet, ↓sIf, ↓sRet, ↓sRetN, ↓sPart, ↓sExpr, ↓sBreak, ↓sCont, ↓tAnd, ↓tOr, ↓tNot, ↓tB, ↓dBin, ↓dUn, ↓dVar, ↓dC, ↓dIf, ↓dAnd, ↓dOr, ↓dNot, ↓dCall, ↓dNext, ↓look, ↓esc, ↓Y.bind, ↓arg, ↓iv, ↓bv, ↓sv, ↓oAdd, ↓oSub, ↓oMul, ↓oDiv, ↓oMod, ↓oPow, ↓oNeg, ↓oEq, ↓oNe, ↓oLt, ↓oLe, ↓oGt, ↓oGe, ↓oLen, ↓oIx, ↓oInt, ↓dLst, ↓dTup, ↓aNil, ↓aCons, ↓datas, ↓dStC, ↓dStI, ↓sStPut, ↓scalD, ↓D.eqv, ↓MO.data, ↓oIsN, ↓oNotN, ↓isN, ↓oTuple, ↓oIn, ↓oAbs, ↓dFld, ↓sFld, ↓initOf, ↓dMake, ↓dLc, ↓iOf, ↓items, ↓iEnum, ↓iRange1, ↓sFor, ↓gName, ↓gTup, ↓gTup.go, ↓sRaise0, ↓isTup, ↓sAppend, ↓sStore, ↓sAugAdd, ↓dNewT, ↓dDispT, ↓sDput, ↓putAtM, ↓oDin, ↓oDix, ↓atD, ↓toKeys, ↓toKey, ↓sFrz, ↓oIsi, ↓tyName, ↓isiB, ↓dIndexL, List.map_cons, List.map_nil, List.length_cons, List.length_nil, List.replicate, List.cons_append, List.nil_append, List.getElem?_cons_zero, List.getElem?_cons_succ, List.set_cons_zero, List.set_cons_succ, Option.map_some, T.d.injEq, D.bl.injEq, D.int.injEq, Option.some.injEq, exists_eq_left', exists_eq_left, exists_eq_right, true_and, and_true, true_or, or_true, decide_eq_true_eq, if_true, if_false, reduceIte, Nat.reduceAdd, Nat.reduceSub, Nat.zero_add, Option.bind_some, List.map_nil]
  refine ⟨by decide, by omega, ?_⟩
  refine forL_inv (I := fun xs ρ => ∃ (A : List Row) (a b c : Option B), A.length + xs.length = n.toNat ∧ RowsOk L n A ∧ (∀ x ∈ xs, ∃ i : Int, x = .int i) ∧ noOwn [some (.d (.str L)), some (.d (.int p)), some (.d (.int n)), some (.d (.lst (E.map D.int))), some (.own (.lst (A.map rowD))), a, b, c] [7] = true ∧ ρ = [some (.d (.str L)), some (.d (.int p)), some (.d (.int n)), some (.d (.lst (E.map D.int))), some (.own (.lst (A.map rowD))), a, b, c]) (fun x xs ρ h k hk => ?_) (fun ρ h => ?_) _ _ ⟨[], _, _, _, ?_, fun r hr => (by cases hr), fun y hy => ?_, rfl, rfl⟩
  · obtain ⟨A, a, b, c, hn, hr, hx, hno, rfl⟩ := h
    obtain ⟨i, rfl⟩ := hx x (by simp)
    simp only [↓semOf, ↓toB, ↓sNext, ↓sSeq, ↓sSet, ↓sIf, ↓sRet, ↓sRetN, ↓sPart, ↓sExpr, ↓sBreak, ↓sCont, ↓tAnd, ↓tOr, ↓tNot, ↓tB, ↓dBin, ↓dUn, ↓dVar, ↓dC, ↓dIf, ↓dAnd, ↓dOr, ↓dNot, ↓dCall, ↓dNext, ↓look, ↓esc, ↓Y.bind, ↓arg, ↓iv, ↓bv, ↓sv, ↓oAdd, ↓oSub, ↓oMul, ↓oDiv, ↓oMod, ↓oPow, ↓oNeg, ↓oEq, ↓oNe, ↓oLt, ↓oLe, ↓oGt, ↓oGe, ↓oLen, ↓oIx, ↓oInt, ↓dLst, ↓dTup, ↓aNil, ↓aCons, ↓datas, ↓dStC, ↓dStI, ↓sStPut, ↓scalD, ↓D.eqv, ↓MO.data, ↓oIsN, ↓oNotN, ↓isN, ↓oTuple, ↓oIn, ↓oAbs, ↓dFld, ↓sFld, ↓initOf, ↓dMake, ↓dLc, ↓iOf, ↓items, ↓iEnum, ↓iRange1, ↓sFor, ↓gName, ↓gTup, ↓gTup.go, ↓sRaise0, ↓isTup, ↓sAppend, ↓sStore, ↓sAugAdd, ↓dNewT, ↓dDispT, ↓sDput, ↓putAtM, ↓oDin, ↓oDix, ↓atD, ↓toKeys, ↓toKey, ↓sFrz, ↓oIsi, ↓tyName, ↓isiB, ↓dIndexL, List.map_cons, List.map_nil, List.length_cons, List.length_nil, List.replicate, List.cons_append, List.nil_append, List.getElem?_cons_zero, List.getElem?_cons_succ, List.set_cons_zero, List.set_cons_succ, Option.map_some, T.d.injEq, D.bl.injEq, D.int.injEq, Option.some.injEq, exists_eq_left', exists_eq_left, exists_eq_right, true_and, and_true, true_or, or_true, decide_eq_true_eq, if_true, if_false, reduceIte, Nat.reduceAdd, Nat.reduceSub, Nat.zero_add, Option.bind_some, List.map_nil]
    refine ⟨hno, lcL_map (fun _ => .int (-1)) ?_ (fun d hd k1 hk => hk) ?_⟩
    · rw [List.length_map]; exact Nat.le_trans hl (by decide)
    · rw [missing_lc]
      simp only [↓semOf, ↓toB, ↓sNext, ↓sSeq, ↓sSet, ↓sIf, ↓sRet, ↓sRetN, ↓sPart, ↓sExpr, ↓sBreak, ↓sCont, ↓tAnd, ↓tOr, ↓tNot, ↓tB, ↓dBin, ↓dUn, ↓dVar, ↓dC, ↓dIf, ↓dAnd, ↓dOr, ↓dNot, ↓dCall, ↓dNext, ↓look, ↓esc, ↓Y.bind, ↓arg, ↓iv, ↓bv, ↓sv, ↓oAdd, ↓oSub, ↓oMul, ↓oDiv, ↓oMod, ↓oPow, ↓oNeg, ↓oEq, ↓oNe, ↓oLt, ↓oLe, ↓oGt, ↓oGe, ↓oLen, ↓oIx, ↓oInt, ↓dLst, ↓dTup, ↓aNil, ↓aCons, ↓datas, ↓dStC, ↓dStI, ↓sStPut, ↓scalD, ↓D.eqv, ↓MO.data, ↓oIsN, ↓oNotN, ↓isN, ↓oTuple, ↓oIn, ↓oAbs, ↓dFld, ↓sFld, ↓initOf, ↓dMake, ↓dLc, ↓iOf, ↓items, ↓iEnum, ↓iRange1, ↓sFor, ↓gName, ↓gTup, ↓gTup.go, ↓sRaise0, ↓isTup, ↓sAppend, ↓sStore, ↓sAugAdd, ↓dNewT, ↓dDispT, ↓sDput, ↓putAtM, ↓oDin, ↓oDix, ↓atD, ↓toKeys, ↓toKey, ↓sFrz, ↓oIsi, ↓tyName, ↓isiB, ↓dIndexL, List.map_cons, List.map_nil, List.length_cons, List.length_nil, List.replicate, List.cons_append, List.nil_append, List.getElem?_cons_zero, List.getElem?_cons_succ, List.set_cons_zero, List.set_cons_succ, Option.map_some, T.d.injEq, D.bl.injEq, D.int.injEq, Option.some.injEq, exists_eq_left', exists_eq_left, exists_eq_right, true_and, and_true, true_or, or_true, decide_eq_true_eq, if_true, if_false, reduceIte, Nat.reduceAdd, Nat.reduceSub, Nat.zero_add, Option.bind_some, List.map_nil]
      refine ⟨by omega, ⟨_, rfl⟩, p.toNat, ?_, ⟨_, rfl⟩, ?_, ?_⟩
      · rw [List.length_map]
        exact ixOf_ok p0 (by simpa [missing] using p1)
      · rw [List.length_map]
        simp only [List.length_cons] at hn
        exact Nat.lt_of_lt_of_le (show A.length < 129 by omega) (by decide)
      · refine hk _ ⟨A ++ [(missing L).set p.toNat ((i + 1) % n)], some (.d (.int i)), some (.d (.lst (((missing L).map D.int).set p.toNat (.int ((i + 1) % n))))), c, by simp only [List.length_append, List.length_cons, List.length_nil] at hn ⊢; omega, fun r' hr' => ?_, fun y hy => hx y (by simp [hy]), hno, by simp [rowD, List.map_set]⟩
        rcases List.mem_append.mp hr' with h | h
        · exact hr r' h
        · simp at h; subst h
          refine ⟨by simp [missing], fun x hx => ?_⟩
          rcases List.mem_or_eq_of_mem_set hx with h | h
          · simp [missing] at h
            obtain ⟨_, rfl⟩ := h
            omega
          · subst h
            have := Int.emod_nonneg (i + 1) (b := n) (by omega)
            have := Int.emod_lt_of_pos (i + 1) (b := n) (by omega)
            omega
  · obtain ⟨A, a, b, c, hn, hr, hx, hno, rfl⟩ := h
    simp only [↓semOf, ↓toB, ↓sNext, ↓sSeq, ↓sSet, ↓sIf, ↓sRet, ↓sRetN, ↓sPart, ↓sExpr, ↓sBreak, ↓sCont, ↓tAnd, ↓tOr, ↓tNot, ↓tB, ↓dBin, ↓dUn, ↓dVar, ↓dC, ↓dIf, ↓dAnd, ↓dOr, ↓dNot, ↓dCall, ↓dNext, ↓look, ↓esc, ↓Y.bind, ↓arg, ↓iv, ↓bv, ↓sv, ↓oAdd, ↓oSub, ↓oMul, ↓oDiv, ↓oMod, ↓oPow, ↓oNeg, ↓oEq, ↓oNe, ↓oLt, ↓oLe, ↓oGt, ↓oGe, ↓oLen, ↓oIx, ↓oInt, ↓dLst, ↓dTup, ↓aNil, ↓aCons, ↓datas, ↓dStC, ↓dStI, ↓sStPut, ↓scalD, ↓D.eqv, ↓MO.data, ↓oIsN, ↓oNotN, ↓isN, ↓oTuple, ↓oIn, ↓oAbs, ↓dFld, ↓sFld, ↓initOf, ↓dMake, ↓dLc, ↓iOf, ↓items, ↓iEnum, ↓iRange1, ↓sFor, ↓gName, ↓gTup, ↓gTup.go, ↓sRaise0, ↓isTup, ↓sAppend, ↓sStore, ↓sAugAdd, ↓dNewT, ↓dDispT, ↓sDput, ↓putAtM, ↓oDin, ↓oDix, ↓atD, ↓toKeys, ↓toKey, ↓sFrz, ↓oIsi, ↓tyName, ↓isiB, ↓dIndexL, List.map_cons, List.map_nil, List.length_cons, List.length_nil, List.replicate, List.cons_append, List.nil_append, List.getElem?_cons_zero, List.getElem?_cons_succ, List.set_cons_zero, List.set_cons_succ, Option.map_some, T.d.injEq, D.bl.injEq, D.int.injEq, Option.some.injEq, exists_eq_left', exists_eq_left, exists_eq_right, true_and, and_true, true_or, or_true, decide_eq_true_eq, if_true, if_false, reduceIte, Nat.reduceAdd, Nat.reduceSub, Nat.zero_add, Option.bind_some, List.map_nil]
    exact ⟨by decide, q A (by simp at hn; omega) hr⟩
  · simp [upTo_length]
  · obtain ⟨i, _, rfl⟩ := upTo_mem hy
    exact ⟨_, rfl⟩
end Z

namespace Z
open Y
theorem rlc_copy {Q : List (List D) → En → Prop} {ρ : En} (hs : ∀ (r : Row) (k : List D → En → Prop), k (r.map D.int) ρ → gName 9 (rowD r) (wipeD ρ [9]) fun ρ1 => dUn oListS (dVar 9) ρ1 noX fun t ρ3 => ∃ row, t = .own (.lst row) ∧ noRows (unwipe ρ [9] ρ3) = true ∧ k row (unwipe ρ [9] ρ3)) :
    ∀ (B : List Row) (acc : List (List D)), acc.length + B.length ≤ SZ → Q (acc ++ B.map (·.map D.int)) ρ → rlcL (gName 9) tYes (dUn oListS (dVar 9)) [9] Q (B.map rowD) acc ρ
  | [], acc, _, q => by unfold rlcL; simpa using q
  | r :: B, acc, hz, q => by
    simp only [List.map_cons]
    unfold rlcL tYes
    simp only [if_true]
    have h := hs r (fun row ρ' => acc.length < SZ ∧ rlcL (gName 9) tYes (dUn oListS (dVar 9)) [9] Q (B.map rowD) (acc ++ [row]) ρ') ⟨by simp at hz; omega, rlc_copy hs B _ (by simp at hz ⊢; omega) (by simpa using q)⟩
    exact h
def fixR (a : Nat) (w n : Int) (r : Row) : Row := if r.getD a 0 = w then r.set a n else r
theorem fix_map {a w n : Int} : ∀ (B : List Row), (∀ r ∈ B, 0 ≤ a ∧ a < r.length) → (B.map (·.map D.int)).mapM (fixRow a w n) = some ((B.map (fixR a.toNat w n)).map (·.map D.int))
  | [], _ => rfl
  | r :: B, h => by
    obtain ⟨h0, h1⟩ := h r (by simp)
    have ha : a.toNat < r.length := by omega
    have e : fixRow a w n (r.map D.int) = some ((fixR a.toNat w n r).map D.int) := by
      unfold fixRow fixR
      rw [List.length_map, ixOf_ok h0 h1]
      simp only [List.getElem?_map, List.getElem?_eq_getElem ha, Option.map_some, List.getD_eq_getElem?_getD, Option.getD_some]
      split <;> simp [List.map_set]
    rw [List.map_cons, List.mapM_cons, e, fix_map B fun r h' => h r (by simp [h'])]
    rfl
theorem rows_mono {L : Tx} {n m : Int} {A : List Row} (h : RowsOk L n A) (hm : n ≤ m) : RowsOk L m A := fun r hr => ⟨(h r hr).1, fun x hx => ⟨((h r hr).2 x hx).1, by have := ((h r hr).2 x hx).2; omega⟩⟩
theorem lst_map (B : List Row) : (B.map (·.map D.int)).map D.lst = B.map rowD := by rw [List.map_map]; rfl
theorem asc_len {n : Nat} : ∀ {es : List Int}, es.Pairwise (· < ·) → (∀ e ∈ es, 0 ≤ e ∧ e < n) → es.length ≤ n := by
  have key : ∀ (es : List Int) (lo : Int), es.Pairwise (· < ·) → (∀ e ∈ es, lo ≤ e ∧ e < n) → (es.length : Int) ≤ max 0 (n - lo) := by
    intro es
    induction es with
    | nil => intro lo _ _; simp; omega
    | cons e es ih =>
      intro lo h1 h2
      rw [List.pairwise_cons] at h1
      have := ih (e + 1) h1.2 fun e' he' => ⟨by have := h1.1 e' he'; omega, (h2 e' (by simp [he'])).2⟩
      have := h2 e (by simp)
      simp only [List.length_cons]
      omega
  intro es h1 h2
  have := key es 0 h1 h2
  omega
section
variable {L : Tx} {A : List Row} {E : List Int} {c w a : Int} {Z : DEnds}
abbrev chEnv (L : Tx) (R : B) (E : List Int) (b4 b5 b6 b7 b8 b9 b10 : Option B) : En := [some .st, some (.d (.str L)), some R, some (.own (.lst (E.map D.int))), b4, b5, b6, b7, b8, b9, b10]
theorem changed6 (hl : L.length ≤ 4) (hl1 : 1 ≤ L.length) (g : Good L A E) (hA : A.length ≤ 127) (w0 : 0 ≤ w) (w1 : w < A.length) (a0 : 0 ≤ a) (a1 : a < L.length)
    (hZ1 : ∀ (B : List Row) (es : List Int) (b4 b5 b6 b7 b8 b9 b10 : Option Y.B), Good L B es → Z.nx (chEnv L (.own (.lst (B.map rowD))) es b4 b5 b6 b7 b8 b9 b10))
    (hZ2 : ∀ (B : List Row) (es : List Int) (c w a : Int) (b7 b8 : Option Y.B), lone (chEnv L (.rows (B.map (·.map D.int))) es (some (.d (.int c))) (some (.d (.int w))) (some (.d (.int a))) b7 b8 none none) 2 = true → Good L B es → Z.nx (chEnv L (.rows (B.map (·.map D.int))) es (some (.d (.int c))) (some (.d (.int w))) (some (.d (.int a))) b7 b8 none none)) :
    d__law_changed_6 Z (chEnv L (.rows (A.map (·.map D.int))) E (some (.d (.int c))) (some (.d (.int w))) (some (.d (.int a))) none none none none) := by
  have hn := g.ne
  have hS : A.length < SZ := Nat.lt_of_le_of_lt hA (by decide)
  have hLS : L.length ≤ SZ := Nat.le_trans hl (by decide)
  unfold d__law_changed_6
  simp only [↓semOf, ↓toB, ↓sNext, ↓sSeq, ↓sSet, ↓sIf, ↓sRet, ↓sRetN, ↓sPart, ↓sExpr, ↓sBreak, ↓sCont, ↓tAnd, ↓tOr, ↓tNot, ↓tB, ↓dBin, ↓dUn, ↓dVar, ↓dC, ↓dIf, ↓dAnd, ↓dOr, ↓dNot, ↓dCall, ↓dNext, ↓look, ↓esc, ↓Y.bind, ↓arg, ↓iv, ↓bv, ↓sv, ↓oAdd, ↓oSub, ↓oMul, ↓oDiv, ↓oMod, ↓oPow, ↓oNeg, ↓oEq, ↓oNe, ↓oLt, ↓oLe, ↓oGt, ↓oGe, ↓oLen, ↓oIx, ↓oInt, ↓dLst, ↓dTup, ↓aNil, ↓aCons, ↓datas, ↓dStC, ↓dStI, ↓sStPut, ↓scalD, ↓D.eqv, ↓MO.data, ↓oIsN, ↓oNotN, ↓isN, ↓oTuple, ↓oIn, ↓oAbs, ↓dFld, ↓sFld, ↓initOf, ↓dMake, ↓dLc, ↓iOf, ↓items, ↓iEnum, ↓iRange1, ↓sFor, ↓gName, ↓gTup, ↓gTup.go, ↓sRaise0, ↓isTup, ↓sAppend, ↓sStore, ↓sAugAdd, ↓dNewT, ↓dDispT, ↓sDput, ↓putAtM, ↓oDin, ↓oDix, ↓atD, ↓toKeys, ↓toKey, ↓sFrz, ↓oIsi, ↓tyName, ↓isiB, ↓dIndexL, ↓dRowsLen, ↓dRowsIx, ↓dRowsCopy, ↓sRowsPut, ↓sRowsApp, ↓sRows1, ↓sRowsLc, ↓sFrz, ↓sRowsFix, ↓isRows, List.map_cons, List.map_nil, List.length_cons, List.length_nil, List.replicate, List.cons_append, List.nil_append, List.getElem?_cons_zero, List.getElem?_cons_succ, List.set_cons_zero, List.set_cons_succ, Option.map_some, T.d.injEq, D.bl.injEq, D.int.injEq, Option.some.injEq, exists_eq_left', exists_eq_left, exists_eq_right, true_and, and_true, true_or, or_true, decide_eq_true_eq, if_true, if_false, reduceIte, Nat.reduceAdd, Nat.reduceSub, Nat.zero_add, Option.bind_some, List.map_nil]
  by_cases e0 : c = 0
  · rw [if_pos (by simp [e0])]
    refine ⟨by decide, fun v v0 v1 => ?_⟩
    refine lrows_ok hl (by omega) (by omega) _ _ fun B hB hR => ?_
    simp only [↓semOf, ↓toB, ↓sNext, ↓sSeq, ↓sSet, ↓sIf, ↓sRet, ↓sRetN, ↓sPart, ↓sExpr, ↓sBreak, ↓sCont, ↓tAnd, ↓tOr, ↓tNot, ↓tB, ↓dBin, ↓dUn, ↓dVar, ↓dC, ↓dIf, ↓dAnd, ↓dOr, ↓dNot, ↓dCall, ↓dNext, ↓look, ↓esc, ↓Y.bind, ↓arg, ↓iv, ↓bv, ↓sv, ↓oAdd, ↓oSub, ↓oMul, ↓oDiv, ↓oMod, ↓oPow, ↓oNeg, ↓oEq, ↓oNe, ↓oLt, ↓oLe, ↓oGt, ↓oGe, ↓oLen, ↓oIx, ↓oInt, ↓dLst, ↓dTup, ↓aNil, ↓aCons, ↓datas, ↓dStC, ↓dStI, ↓sStPut, ↓scalD, ↓D.eqv, ↓MO.data, ↓oIsN, ↓oNotN, ↓isN, ↓oTuple, ↓oIn, ↓oAbs, ↓dFld, ↓sFld, ↓initOf, ↓dMake, ↓dLc, ↓iOf, ↓items, ↓iEnum, ↓iRange1, ↓sFor, ↓gName, ↓gTup, ↓gTup.go, ↓sRaise0, ↓isTup, ↓sAppend, ↓sStore, ↓sAugAdd, ↓dNewT, ↓dDispT, ↓sDput, ↓putAtM, ↓oDin, ↓oDix, ↓atD, ↓toKeys, ↓toKey, ↓sFrz, ↓oIsi, ↓tyName, ↓isiB, ↓dIndexL, ↓dRowsLen, ↓dRowsIx, ↓dRowsCopy, ↓sRowsPut, ↓sRowsApp, ↓sRows1, ↓sRowsLc, ↓sFrz, ↓sRowsFix, ↓isRows, List.map_cons, List.map_nil, List.length_cons, List.length_nil, List.replicate, List.cons_append, List.nil_append, List.getElem?_cons_zero, List.getElem?_cons_succ, List.set_cons_zero, List.set_cons_succ, Option.map_some, T.d.injEq, D.bl.injEq, D.int.injEq, Option.some.injEq, exists_eq_left', exists_eq_left, exists_eq_right, true_and, and_true, true_or, or_true, decide_eq_true_eq, if_true, if_false, reduceIte, Nat.reduceAdd, Nat.reduceSub, Nat.zero_add, Option.bind_some, List.map_nil, List.length_map]
    refine ⟨by omega, rfl, ?_⟩
    refine ends_lc (Nat.le_trans (show (1 + v).toNat ≤ 128 by omega) (by decide)) (fun i hi k1 k2 q1 q2 => ?_) fun es h1 h2 => ?_
    · simp only [↓semOf, ↓toB, ↓sNext, ↓sSeq, ↓sSet, ↓sIf, ↓sRet, ↓sRetN, ↓sPart, ↓sExpr, ↓sBreak, ↓sCont, ↓tAnd, ↓tOr, ↓tNot, ↓tB, ↓dBin, ↓dUn, ↓dVar, ↓dC, ↓dIf, ↓dAnd, ↓dOr, ↓dNot, ↓dCall, ↓dNext, ↓look, ↓esc, ↓Y.bind, ↓arg, ↓iv, ↓bv, ↓sv, ↓oAdd, ↓oSub, ↓oMul, ↓oDiv, ↓oMod, ↓oPow, ↓oNeg, ↓oEq, ↓oNe, ↓oLt, ↓oLe, ↓oGt, ↓oGe, ↓oLen, ↓oIx, ↓oInt, ↓dLst, ↓dTup, ↓aNil, ↓aCons, ↓datas, ↓dStC, ↓dStI, ↓sStPut, ↓scalD, ↓D.eqv, ↓MO.data, ↓oIsN, ↓oNotN, ↓isN, ↓oTuple, ↓oIn, ↓oAbs, ↓dFld, ↓sFld, ↓initOf, ↓dMake, ↓dLc, ↓iOf, ↓items, ↓iEnum, ↓iRange1, ↓sFor, ↓gName, ↓gTup, ↓gTup.go, ↓sRaise0, ↓isTup, ↓sAppend, ↓sStore, ↓sAugAdd, ↓dNewT, ↓dDispT, ↓sDput, ↓putAtM, ↓oDin, ↓oDix, ↓atD, ↓toKeys, ↓toKey, ↓sFrz, ↓oIsi, ↓tyName, ↓isiB, ↓dIndexL, ↓dRowsLen, ↓dRowsIx, ↓dRowsCopy, ↓sRowsPut, ↓sRowsApp, ↓sRows1, ↓sRowsLc, ↓sFrz, ↓sRowsFix, ↓isRows, List.map_cons, List.map_nil, List.length_cons, List.length_nil, List.replicate, List.cons_append, List.nil_append, List.getElem?_cons_zero, List.getElem?_cons_succ, List.set_cons_zero, List.set_cons_succ, Option.map_some, T.d.injEq, D.bl.injEq, D.int.injEq, Option.some.injEq, exists_eq_left', exists_eq_left, exists_eq_right, true_and, and_true, true_or, or_true, decide_eq_true_eq, if_true, if_false, reduceIte, Nat.reduceAdd, Nat.reduceSub, Nat.zero_add, Option.bind_some, List.map_nil, wipeD, unwipe]
      refine ⟨by decide, fun r r0 r1 => ?_⟩
      split
      · exact q1
      · exact q2
    · simp only [↓semOf, ↓toB, ↓sNext, ↓sSeq, ↓sSet, ↓sIf, ↓sRet, ↓sRetN, ↓sPart, ↓sExpr, ↓sBreak, ↓sCont, ↓tAnd, ↓tOr, ↓tNot, ↓tB, ↓dBin, ↓dUn, ↓dVar, ↓dC, ↓dIf, ↓dAnd, ↓dOr, ↓dNot, ↓dCall, ↓dNext, ↓look, ↓esc, ↓Y.bind, ↓arg, ↓iv, ↓bv, ↓sv, ↓oAdd, ↓oSub, ↓oMul, ↓oDiv, ↓oMod, ↓oPow, ↓oNeg, ↓oEq, ↓oNe, ↓oLt, ↓oLe, ↓oGt, ↓oGe, ↓oLen, ↓oIx, ↓oInt, ↓dLst, ↓dTup, ↓aNil, ↓aCons, ↓datas, ↓dStC, ↓dStI, ↓sStPut, ↓scalD, ↓D.eqv, ↓MO.data, ↓oIsN, ↓oNotN, ↓isN, ↓oTuple, ↓oIn, ↓oAbs, ↓dFld, ↓sFld, ↓initOf, ↓dMake, ↓dLc, ↓iOf, ↓items, ↓iEnum, ↓iRange1, ↓sFor, ↓gName, ↓gTup, ↓gTup.go, ↓sRaise0, ↓isTup, ↓sAppend, ↓sStore, ↓sAugAdd, ↓dNewT, ↓dDispT, ↓sDput, ↓putAtM, ↓oDin, ↓oDix, ↓atD, ↓toKeys, ↓toKey, ↓sFrz, ↓oIsi, ↓tyName, ↓isiB, ↓dIndexL, ↓dRowsLen, ↓dRowsIx, ↓dRowsCopy, ↓sRowsPut, ↓sRowsApp, ↓sRows1, ↓sRowsLc, ↓sFrz, ↓sRowsFix, ↓isRows, List.map_cons, List.map_nil, List.length_cons, List.length_nil, List.replicate, List.cons_append, List.nil_append, List.getElem?_cons_zero, List.getElem?_cons_succ, List.set_cons_zero, List.set_cons_succ, Option.map_some, T.d.injEq, D.bl.injEq, D.int.injEq, Option.some.injEq, exists_eq_left', exists_eq_left, exists_eq_right, true_and, and_true, true_or, or_true, decide_eq_true_eq, if_true, if_false, reduceIte, Nat.reduceAdd, Nat.reduceSub, Nat.zero_add, Option.bind_some, List.map_nil]
      exact hZ1 B es _ _ _ _ _ _ _ ⟨by omega, by omega, by rw [hB]; exact hR, h1, fun e he => by have := h2 e he; omega⟩
  · rw [if_neg (by simp [e0])]
    unfold d__law_changed_5
    simp only [↓semOf, ↓toB, ↓sNext, ↓sSeq, ↓sSet, ↓sIf, ↓sRet, ↓sRetN, ↓sPart, ↓sExpr, ↓sBreak, ↓sCont, ↓tAnd, ↓tOr, ↓tNot, ↓tB, ↓dBin, ↓dUn, ↓dVar, ↓dC, ↓dIf, ↓dAnd, ↓dOr, ↓dNot, ↓dCall, ↓dNext, ↓look, ↓esc, ↓Y.bind, ↓arg, ↓iv, ↓bv, ↓sv, ↓oAdd, ↓oSub, ↓oMul, ↓oDiv, ↓oMod, ↓oPow, ↓oNeg, ↓oEq, ↓oNe, ↓oLt, ↓oLe, ↓oGt, ↓oGe, ↓oLen, ↓oIx, ↓oInt, ↓dLst, ↓dTup, ↓aNil, ↓aCons, ↓datas, ↓dStC, ↓dStI, ↓sStPut, ↓scalD, ↓D.eqv, ↓MO.data, ↓oIsN, ↓oNotN, ↓isN, ↓oTuple, ↓oIn, ↓oAbs, ↓dFld, ↓sFld, ↓initOf, ↓dMake, ↓dLc, ↓iOf, ↓items, ↓iEnum, ↓iRange1, ↓sFor, ↓gName, ↓gTup, ↓gTup.go, ↓sRaise0, ↓isTup, ↓sAppend, ↓sStore, ↓sAugAdd, ↓dNewT, ↓dDispT, ↓sDput, ↓putAtM, ↓oDin, ↓oDix, ↓atD, ↓toKeys, ↓toKey, ↓sFrz, ↓oIsi, ↓tyName, ↓isiB, ↓dIndexL, ↓dRowsLen, ↓dRowsIx, ↓dRowsCopy, ↓sRowsPut, ↓sRowsApp, ↓sRows1, ↓sRowsLc, ↓sFrz, ↓sRowsFix, ↓isRows, List.map_cons, List.map_nil, List.length_cons, List.length_nil, List.replicate, List.cons_append, List.nil_append, List.getElem?_cons_zero, List.getElem?_cons_succ, List.set_cons_zero, List.set_cons_succ, Option.map_some, T.d.injEq, D.bl.injEq, D.int.injEq, Option.some.injEq, exists_eq_left', exists_eq_left, exists_eq_right, true_and, and_true, true_or, or_true, decide_eq_true_eq, if_true, if_false, reduceIte, Nat.reduceAdd, Nat.reduceSub, Nat.zero_add, Option.bind_some, List.map_nil]
    by_cases e1 : c = 1
    · rw [if_pos (by simp [e1])]
      simp only [↓semOf, ↓toB, ↓sNext, ↓sSeq, ↓sSet, ↓sIf, ↓sRet, ↓sRetN, ↓sPart, ↓sExpr, ↓sBreak, ↓sCont, ↓tAnd, ↓tOr, ↓tNot, ↓tB, ↓dBin, ↓dUn, ↓dVar, ↓dC, ↓dIf, ↓dAnd, ↓dOr, ↓dNot, ↓dCall, ↓dNext, ↓look, ↓esc, ↓Y.bind, ↓arg, ↓iv, ↓bv, ↓sv, ↓oAdd, ↓oSub, ↓oMul, ↓oDiv, ↓oMod, ↓oPow, ↓oNeg, ↓oEq, ↓oNe, ↓oLt, ↓oLe, ↓oGt, ↓oGe, ↓oLen, ↓oIx, ↓oInt, ↓dLst, ↓dTup, ↓aNil, ↓aCons, ↓datas, ↓dStC, ↓dStI, ↓sStPut, ↓scalD, ↓D.eqv, ↓MO.data, ↓oIsN, ↓oNotN, ↓isN, ↓oTuple, ↓oIn, ↓oAbs, ↓dFld, ↓sFld, ↓initOf, ↓dMake, ↓dLc, ↓iOf, ↓items, ↓iEnum, ↓iRange1, ↓sFor, ↓gName, ↓gTup, ↓gTup.go, ↓sRaise0, ↓isTup, ↓sAppend, ↓sStore, ↓sAugAdd, ↓dNewT, ↓dDispT, ↓sDput, ↓putAtM, ↓oDin, ↓oDix, ↓atD, ↓toKeys, ↓toKey, ↓sFrz, ↓oIsi, ↓tyName, ↓isiB, ↓dIndexL, ↓dRowsLen, ↓dRowsIx, ↓dRowsCopy, ↓sRowsPut, ↓sRowsApp, ↓sRows1, ↓sRowsLc, ↓sFrz, ↓sRowsFix, ↓isRows, List.map_cons, List.map_nil, List.length_cons, List.length_nil, List.replicate, List.cons_append, List.nil_append, List.getElem?_cons_zero, List.getElem?_cons_succ, List.set_cons_zero, List.set_cons_succ, Option.map_some, T.d.injEq, D.bl.injEq, D.int.injEq, Option.some.injEq, exists_eq_left', exists_eq_left, exists_eq_right, true_and, and_true, true_or, or_true, decide_eq_true_eq, if_true, if_false, reduceIte, Nat.reduceAdd, Nat.reduceSub, Nat.zero_add, Option.bind_some, List.map_nil, chEnv, List.length_map]
      refine ⟨by omega, fun v v0 v1 => ⟨⟨_, rfl⟩, w, w.toNat, _, rfl, ixOf_ok w0 w1, by rw [List.getElem?_map, List.getElem?_eq_getElem (show w.toNat < A.length by omega)]; rfl, rfl, a, a.toNat, rfl, ?_, ?_⟩⟩
      · rw [List.length_map, (g.rows _ (List.getElem_mem _)).1]; exact ixOf_ok a0 a1
      · rw [← List.map_set, ← List.map_set]
        refine hZ2 _ E c w a _ _ (by rfl) ⟨by simpa using hn, by simpa using g.sz, fun r hr => ?_, g.ends, fun e he => by simpa using g.endr e he⟩
        rw [List.length_set]
        rcases List.mem_or_eq_of_mem_set hr with h | h
        · exact g.rows r h
        · subst h
          obtain ⟨z1, z2⟩ := g.rows _ (List.getElem_mem (show w.toNat < A.length by omega))
          refine ⟨by rw [List.length_set]; exact z1, fun x hx => ?_⟩
          rcases List.mem_or_eq_of_mem_set hx with h | h
          · exact z2 x h
          · subst h; omega
    · rw [if_neg (by simp [e1])]
      unfold d__law_changed_4
      simp only [↓semOf, ↓toB, ↓sNext, ↓sSeq, ↓sSet, ↓sIf, ↓sRet, ↓sRetN, ↓sPart, ↓sExpr, ↓sBreak, ↓sCont, ↓tAnd, ↓tOr, ↓tNot, ↓tB, ↓dBin, ↓dUn, ↓dVar, ↓dC, ↓dIf, ↓dAnd, ↓dOr, ↓dNot, ↓dCall, ↓dNext, ↓look, ↓esc, ↓Y.bind, ↓arg, ↓iv, ↓bv, ↓sv, ↓oAdd, ↓oSub, ↓oMul, ↓oDiv, ↓oMod, ↓oPow, ↓oNeg, ↓oEq, ↓oNe, ↓oLt, ↓oLe, ↓oGt, ↓oGe, ↓oLen, ↓oIx, ↓oInt, ↓dLst, ↓dTup, ↓aNil, ↓aCons, ↓datas, ↓dStC, ↓dStI, ↓sStPut, ↓scalD, ↓D.eqv, ↓MO.data, ↓oIsN, ↓oNotN, ↓isN, ↓oTuple, ↓oIn, ↓oAbs, ↓dFld, ↓sFld, ↓initOf, ↓dMake, ↓dLc, ↓iOf, ↓items, ↓iEnum, ↓iRange1, ↓sFor, ↓gName, ↓gTup, ↓gTup.go, ↓sRaise0, ↓isTup, ↓sAppend, ↓sStore, ↓sAugAdd, ↓dNewT, ↓dDispT, ↓sDput, ↓putAtM, ↓oDin, ↓oDix, ↓atD, ↓toKeys, ↓toKey, ↓sFrz, ↓oIsi, ↓tyName, ↓isiB, ↓dIndexL, ↓dRowsLen, ↓dRowsIx, ↓dRowsCopy, ↓sRowsPut, ↓sRowsApp, ↓sRows1, ↓sRowsLc, ↓sFrz, ↓sRowsFix, ↓isRows, List.map_cons, List.map_nil, List.length_cons, List.length_nil, List.replicate, List.cons_append, List.nil_append, List.getElem?_cons_zero, List.getElem?_cons_succ, List.set_cons_zero, List.set_cons_succ, Option.map_some, T.d.injEq, D.bl.injEq, D.int.injEq, Option.some.injEq, exists_eq_left', exists_eq_left, exists_eq_right, true_and, and_true, true_or, or_true, decide_eq_true_eq, if_true, if_false, reduceIte, Nat.reduceAdd, Nat.reduceSub, Nat.zero_add, Option.bind_some, List.map_nil]
      by_cases e2 : c = 2
      · rw [if_pos (by simp [e2])]
        simp only [↓semOf, ↓toB, ↓sNext, ↓sSeq, ↓sSet, ↓sIf, ↓sRet, ↓sRetN, ↓sPart, ↓sExpr, ↓sBreak, ↓sCont, ↓tAnd, ↓tOr, ↓tNot, ↓tB, ↓dBin, ↓dUn, ↓dVar, ↓dC, ↓dIf, ↓dAnd, ↓dOr, ↓dNot, ↓dCall, ↓dNext, ↓look, ↓esc, ↓Y.bind, ↓arg, ↓iv, ↓bv, ↓sv, ↓oAdd, ↓oSub, ↓oMul, ↓oDiv, ↓oMod, ↓oPow, ↓oNeg, ↓oEq, ↓oNe, ↓oLt, ↓oLe, ↓oGt, ↓oGe, ↓oLen, ↓oIx, ↓oInt, ↓dLst, ↓dTup, ↓aNil, ↓aCons, ↓datas, ↓dStC, ↓dStI, ↓sStPut, ↓scalD, ↓D.eqv, ↓MO.data, ↓oIsN, ↓oNotN, ↓isN, ↓oTuple, ↓oIn, ↓oAbs, ↓dFld, ↓sFld, ↓initOf, ↓dMake, ↓dLc, ↓iOf, ↓items, ↓iEnum, ↓iRange1, ↓sFor, ↓gName, ↓gTup, ↓gTup.go, ↓sRaise0, ↓isTup, ↓sAppend, ↓sStore, ↓sAugAdd, ↓dNewT, ↓dDispT, ↓sDput, ↓putAtM, ↓oDin, ↓oDix, ↓atD, ↓toKeys, ↓toKey, ↓sFrz, ↓oIsi, ↓tyName, ↓isiB, ↓dIndexL, ↓dRowsLen, ↓dRowsIx, ↓dRowsCopy, ↓sRowsPut, ↓sRowsApp, ↓sRows1, ↓sRowsLc, ↓sFrz, ↓sRowsFix, ↓isRows, List.map_cons, List.map_nil, List.length_cons, List.length_nil, List.replicate, List.cons_append, List.nil_append, List.getElem?_cons_zero, List.getElem?_cons_succ, List.set_cons_zero, List.set_cons_succ, Option.map_some, T.d.injEq, D.bl.injEq, D.int.injEq, Option.some.injEq, exists_eq_left', exists_eq_left, exists_eq_right, true_and, and_true, true_or, or_true, decide_eq_true_eq, if_true, if_false, reduceIte, Nat.reduceAdd, Nat.reduceSub, Nat.zero_add, Option.bind_some, List.map_nil, List.length_map]
        refine ⟨by omega, rfl, ?_⟩
        refine ends_lc (by simpa using Nat.le_of_lt hS) (fun i hi k1 k2 q1 q2 => ?_) fun es h1 h2 => ?_
        · simp only [↓semOf, ↓toB, ↓sNext, ↓sSeq, ↓sSet, ↓sIf, ↓sRet, ↓sRetN, ↓sPart, ↓sExpr, ↓sBreak, ↓sCont, ↓tAnd, ↓tOr, ↓tNot, ↓tB, ↓dBin, ↓dUn, ↓dVar, ↓dC, ↓dIf, ↓dAnd, ↓dOr, ↓dNot, ↓dCall, ↓dNext, ↓look, ↓esc, ↓Y.bind, ↓arg, ↓iv, ↓bv, ↓sv, ↓oAdd, ↓oSub, ↓oMul, ↓oDiv, ↓oMod, ↓oPow, ↓oNeg, ↓oEq, ↓oNe, ↓oLt, ↓oLe, ↓oGt, ↓oGe, ↓oLen, ↓oIx, ↓oInt, ↓dLst, ↓dTup, ↓aNil, ↓aCons, ↓datas, ↓dStC, ↓dStI, ↓sStPut, ↓scalD, ↓D.eqv, ↓MO.data, ↓oIsN, ↓oNotN, ↓isN, ↓oTuple, ↓oIn, ↓oAbs, ↓dFld, ↓sFld, ↓initOf, ↓dMake, ↓dLc, ↓iOf, ↓items, ↓iEnum, ↓iRange1, ↓sFor, ↓gName, ↓gTup, ↓gTup.go, ↓sRaise0, ↓isTup, ↓sAppend, ↓sStore, ↓sAugAdd, ↓dNewT, ↓dDispT, ↓sDput, ↓putAtM, ↓oDin, ↓oDix, ↓atD, ↓toKeys, ↓toKey, ↓sFrz, ↓oIsi, ↓tyName, ↓isiB, ↓dIndexL, ↓dRowsLen, ↓dRowsIx, ↓dRowsCopy, ↓sRowsPut, ↓sRowsApp, ↓sRows1, ↓sRowsLc, ↓sFrz, ↓sRowsFix, ↓isRows, List.map_cons, List.map_nil, List.length_cons, List.length_nil, List.replicate, List.cons_append, List.nil_append, List.getElem?_cons_zero, List.getElem?_cons_succ, List.set_cons_zero, List.set_cons_succ, Option.map_some, T.d.injEq, D.bl.injEq, D.int.injEq, Option.some.injEq, exists_eq_left', exists_eq_left, exists_eq_right, true_and, and_true, true_or, or_true, decide_eq_true_eq, if_true, if_false, reduceIte, Nat.reduceAdd, Nat.reduceSub, Nat.zero_add, Option.bind_some, List.map_nil, wipeD, unwipe, D.flat]
          refine ⟨by simp [D.flat], ?_⟩
          split
          · exact q1
          · exact q2
        · simp only [↓semOf, ↓toB, ↓sNext, ↓sSeq, ↓sSet, ↓sIf, ↓sRet, ↓sRetN, ↓sPart, ↓sExpr, ↓sBreak, ↓sCont, ↓tAnd, ↓tOr, ↓tNot, ↓tB, ↓dBin, ↓dUn, ↓dVar, ↓dC, ↓dIf, ↓dAnd, ↓dOr, ↓dNot, ↓dCall, ↓dNext, ↓look, ↓esc, ↓Y.bind, ↓arg, ↓iv, ↓bv, ↓sv, ↓oAdd, ↓oSub, ↓oMul, ↓oDiv, ↓oMod, ↓oPow, ↓oNeg, ↓oEq, ↓oNe, ↓oLt, ↓oLe, ↓oGt, ↓oGe, ↓oLen, ↓oIx, ↓oInt, ↓dLst, ↓dTup, ↓aNil, ↓aCons, ↓datas, ↓dStC, ↓dStI, ↓sStPut, ↓scalD, ↓D.eqv, ↓MO.data, ↓oIsN, ↓oNotN, ↓isN, ↓oTuple, ↓oIn, ↓oAbs, ↓dFld, ↓sFld, ↓initOf, ↓dMake, ↓dLc, ↓iOf, ↓items, ↓iEnum, ↓iRange1, ↓sFor, ↓gName, ↓gTup, ↓gTup.go, ↓sRaise0, ↓isTup, ↓sAppend, ↓sStore, ↓sAugAdd, ↓dNewT, ↓dDispT, ↓sDput, ↓putAtM, ↓oDin, ↓oDix, ↓atD, ↓toKeys, ↓toKey, ↓sFrz, ↓oIsi, ↓tyName, ↓isiB, ↓dIndexL, ↓dRowsLen, ↓dRowsIx, ↓dRowsCopy, ↓sRowsPut, ↓sRowsApp, ↓sRows1, ↓sRowsLc, ↓sFrz, ↓sRowsFix, ↓isRows, List.map_cons, List.map_nil, List.length_cons, List.length_nil, List.replicate, List.cons_append, List.nil_append, List.getElem?_cons_zero, List.getElem?_cons_succ, List.set_cons_zero, List.set_cons_succ, Option.map_some, T.d.injEq, D.bl.injEq, D.int.injEq, Option.some.injEq, exists_eq_left', exists_eq_left, exists_eq_right, true_and, and_true, true_or, or_true, decide_eq_true_eq, if_true, if_false, reduceIte, Nat.reduceAdd, Nat.reduceSub, Nat.zero_add, Option.bind_some, List.map_nil]
          exact hZ2 _ es c w a _ _ (by rfl) ⟨hn, g.sz, g.rows, h1, fun e he => by have := h2 e he; omega⟩
      · rw [if_neg (by simp [e2])]
        simp only [↓semOf, ↓toB, ↓sNext, ↓sSeq, ↓sSet, ↓sIf, ↓sRet, ↓sRetN, ↓sPart, ↓sExpr, ↓sBreak, ↓sCont, ↓tAnd, ↓tOr, ↓tNot, ↓tB, ↓dBin, ↓dUn, ↓dVar, ↓dC, ↓dIf, ↓dAnd, ↓dOr, ↓dNot, ↓dCall, ↓dNext, ↓look, ↓esc, ↓Y.bind, ↓arg, ↓iv, ↓bv, ↓sv, ↓oAdd, ↓oSub, ↓oMul, ↓oDiv, ↓oMod, ↓oPow, ↓oNeg, ↓oEq, ↓oNe, ↓oLt, ↓oLe, ↓oGt, ↓oGe, ↓oLen, ↓oIx, ↓oInt, ↓dLst, ↓dTup, ↓aNil, ↓aCons, ↓datas, ↓dStC, ↓dStI, ↓sStPut, ↓scalD, ↓D.eqv, ↓MO.data, ↓oIsN, ↓oNotN, ↓isN, ↓oTuple, ↓oIn, ↓oAbs, ↓dFld, ↓sFld, ↓initOf, ↓dMake, ↓dLc, ↓iOf, ↓items, ↓iEnum, ↓iRange1, ↓sFor, ↓gName, ↓gTup, ↓gTup.go, ↓sRaise0, ↓isTup, ↓sAppend, ↓sStore, ↓sAugAdd, ↓dNewT, ↓dDispT, ↓sDput, ↓putAtM, ↓oDin, ↓oDix, ↓atD, ↓toKeys, ↓toKey, ↓sFrz, ↓oIsi, ↓tyName, ↓isiB, ↓dIndexL, ↓dRowsLen, ↓dRowsIx, ↓dRowsCopy, ↓sRowsPut, ↓sRowsApp, ↓sRows1, ↓sRowsLc, ↓sFrz, ↓sRowsFix, ↓isRows, List.map_cons, List.map_nil, List.length_cons, List.length_nil, List.replicate, List.cons_append, List.nil_append, List.getElem?_cons_zero, List.getElem?_cons_succ, List.set_cons_zero, List.set_cons_succ, Option.map_some, T.d.injEq, D.bl.injEq, D.int.injEq, Option.some.injEq, exists_eq_left', exists_eq_left, exists_eq_right, true_and, and_true, true_or, or_true, decide_eq_true_eq, if_true, if_false, reduceIte, Nat.reduceAdd, Nat.reduceSub, Nat.zero_add, Option.bind_some, List.map_nil, chEnv, List.length_map]
        have hw : w.toNat < A.length := by omega
        refine ⟨⟨_, rfl⟩, ⟨_, rfl⟩, w, w.toNat, _, rfl, ixOf_ok w0 w1, by rw [List.getElem?_map, List.getElem?_eq_getElem hw]; rfl, _, rfl, rfl, hS, ?_⟩
        have eM : A.map (·.map D.int) ++ [(A[w.toNat]).map D.int] = (A ++ [A[w.toNat]]).map (·.map D.int) := by simp
        have hg1 : ∀ r ∈ A ++ [A[w.toNat]], r.length = L.length ∧ ∀ x ∈ r, -1 ≤ x ∧ x < A.length := fun r hr => by
          rcases List.mem_append.mp hr with h | h
          · exact g.rows r h
          · simp at h; subst h; exact g.rows _ (List.getElem_mem _)
        unfold d__law_changed_3
        simp only [↓semOf, ↓toB, ↓sNext, ↓sSeq, ↓sSet, ↓sIf, ↓sRet, ↓sRetN, ↓sPart, ↓sExpr, ↓sBreak, ↓sCont, ↓tAnd, ↓tOr, ↓tNot, ↓tB, ↓dBin, ↓dUn, ↓dVar, ↓dC, ↓dIf, ↓dAnd, ↓dOr, ↓dNot, ↓dCall, ↓dNext, ↓look, ↓esc, ↓Y.bind, ↓arg, ↓iv, ↓bv, ↓sv, ↓oAdd, ↓oSub, ↓oMul, ↓oDiv, ↓oMod, ↓oPow, ↓oNeg, ↓oEq, ↓oNe, ↓oLt, ↓oLe, ↓oGt, ↓oGe, ↓oLen, ↓oIx, ↓oInt, ↓dLst, ↓dTup, ↓aNil, ↓aCons, ↓datas, ↓dStC, ↓dStI, ↓sStPut, ↓scalD, ↓D.eqv, ↓MO.data, ↓oIsN, ↓oNotN, ↓isN, ↓oTuple, ↓oIn, ↓oAbs, ↓dFld, ↓sFld, ↓initOf, ↓dMake, ↓dLc, ↓iOf, ↓items, ↓iEnum, ↓iRange1, ↓sFor, ↓gName, ↓gTup, ↓gTup.go, ↓sRaise0, ↓isTup, ↓sAppend, ↓sStore, ↓sAugAdd, ↓dNewT, ↓dDispT, ↓sDput, ↓putAtM, ↓oDin, ↓oDix, ↓atD, ↓toKeys, ↓toKey, ↓sFrz, ↓oIsi, ↓tyName, ↓isiB, ↓dIndexL, ↓dRowsLen, ↓dRowsIx, ↓dRowsCopy, ↓sRowsPut, ↓sRowsApp, ↓sRows1, ↓sRowsLc, ↓sFrz, ↓sRowsFix, ↓isRows, List.map_cons, List.map_nil, List.length_cons, List.length_nil, List.replicate, List.cons_append, List.nil_append, List.getElem?_cons_zero, List.getElem?_cons_succ, List.set_cons_zero, List.set_cons_succ, Option.map_some, T.d.injEq, D.bl.injEq, D.int.injEq, Option.some.injEq, exists_eq_left', exists_eq_left, exists_eq_right, true_and, and_true, true_or, or_true, decide_eq_true_eq, if_true, if_false, reduceIte, Nat.reduceAdd, Nat.reduceSub, Nat.zero_add, Option.bind_some, List.map_nil]
        refine ⟨_, _, _, _, _, rfl, rfl, rfl, rfl, rfl, by decide, by rw [eM]; exact fix_map _ (fun r hr => by rw [(hg1 r hr).1]; exact ⟨a0, a1⟩), ?_⟩
        have good : ∀ E' : List Int, E'.Pairwise (· < ·) → (∀ e ∈ E', 0 ≤ e ∧ e < A.length + 1) → Good L ((A ++ [A[w.toNat]]).map (fixR a.toNat w A.length)) E' := fun E' h1 h2 => by
          refine ⟨by simp, by simp; omega, fun r hr => ?_, h1, fun e he => by simpa using h2 e he⟩
          obtain ⟨r', hr', rfl⟩ := List.mem_map.mp hr
          obtain ⟨z1, z2⟩ := hg1 r' hr'
          simp only [List.length_map, List.length_append, List.length_cons, List.length_nil]
          unfold fixR
          split
          · refine ⟨by rw [List.length_set]; exact z1, fun x hx => ?_⟩
            rcases List.mem_or_eq_of_mem_set hx with h | h
            · have := z2 x h; omega
            · subst h; omega
          · exact ⟨z1, fun x hx => by have := z2 x hx; omega⟩
        unfold d__law_changed_1
        simp only [↓semOf, ↓toB, ↓sNext, ↓sSeq, ↓sSet, ↓sIf, ↓sRet, ↓sRetN, ↓sPart, ↓sExpr, ↓sBreak, ↓sCont, ↓tAnd, ↓tOr, ↓tNot, ↓tB, ↓dBin, ↓dUn, ↓dVar, ↓dC, ↓dIf, ↓dAnd, ↓dOr, ↓dNot, ↓dCall, ↓dNext, ↓look, ↓esc, ↓Y.bind, ↓arg, ↓iv, ↓bv, ↓sv, ↓oAdd, ↓oSub, ↓oMul, ↓oDiv, ↓oMod, ↓oPow, ↓oNeg, ↓oEq, ↓oNe, ↓oLt, ↓oLe, ↓oGt, ↓oGe, ↓oLen, ↓oIx, ↓oInt, ↓dLst, ↓dTup, ↓aNil, ↓aCons, ↓datas, ↓dStC, ↓dStI, ↓sStPut, ↓scalD, ↓D.eqv, ↓MO.data, ↓oIsN, ↓oNotN, ↓isN, ↓oTuple, ↓oIn, ↓oAbs, ↓dFld, ↓sFld, ↓initOf, ↓dMake, ↓dLc, ↓iOf, ↓items, ↓iEnum, ↓iRange1, ↓sFor, ↓gName, ↓gTup, ↓gTup.go, ↓sRaise0, ↓isTup, ↓sAppend, ↓sStore, ↓sAugAdd, ↓dNewT, ↓dDispT, ↓sDput, ↓putAtM, ↓oDin, ↓oDix, ↓atD, ↓toKeys, ↓toKey, ↓sFrz, ↓oIsi, ↓tyName, ↓isiB, ↓dIndexL, ↓dRowsLen, ↓dRowsIx, ↓dRowsCopy, ↓sRowsPut, ↓sRowsApp, ↓sRows1, ↓sRowsLc, ↓sFrz, ↓sRowsFix, ↓isRows, List.map_cons, List.map_nil, List.length_cons, List.length_nil, List.replicate, List.cons_append, List.nil_append, List.getElem?_cons_zero, List.getElem?_cons_succ, List.set_cons_zero, List.set_cons_succ, Option.map_some, T.d.injEq, D.bl.injEq, D.int.injEq, Option.some.injEq, exists_eq_left', exists_eq_left, exists_eq_right, true_and, and_true, true_or, or_true, decide_eq_true_eq, if_true, if_false, reduceIte, Nat.reduceAdd, Nat.reduceSub, Nat.zero_add, Option.bind_some, List.map_nil, D.flat]
        refine ⟨by simp [D.flat], ?_⟩
        split
        · refine ⟨⟨_, rfl⟩, ?_, ?_⟩
          · rw [List.length_map]
            have := asc_len g.ends g.endr
            omega
          · refine cast ?_ (hZ2 _ (E ++ [(A.length : Int)]) c w a none (some (.d (.int A.length))) (by rfl) (good _ ?_ fun e he => ?_))
            · simp [chEnv]
            · rw [List.pairwise_append]
              exact ⟨g.ends, List.pairwise_singleton _ _, fun a ha b hb => by simp at hb; subst hb; exact (g.endr a ha).2⟩
            · rcases List.mem_append.mp he with h | h
              · have := g.endr e h; omega
              · simp at h; subst h; omega
        · exact hZ2 _ E c w a _ _ (by rfl) (good _ g.ends fun e he => by have := g.endr e he; omega)
end
theorem changed_ok {L : Tx} (hl : L.length ≤ 4) (hl1 : 1 ≤ L.length) {A : List Row} {E : List Int} (g : Good L A E) (hA : A.length ≤ 127) (x : Exn → Prop) (Q : T → Prop) (q : ∀ A' E', Good L A' E' → Q (.d (pairD A' E'))) :
    f__law_changed [.st, .d (.str L), .d (.lst (A.map rowD)), .d (.lst (E.map D.int))] x Q := by
  have hn := g.ne
  have hS : A.length < SZ := Nat.lt_of_le_of_lt hA (by decide)
  have hLS : L.length ≤ SZ := Nat.le_trans hl (by decide)
  unfold f__law_changed d__law_changed
  simp only [↓semOf, ↓toB, ↓sNext, ↓sSeq, ↓sSet, ↓sIf, ↓sRet, ↓sRetN, ↓sPart, ↓sExpr, ↓sBreak, ↓sCont, ↓tAnd, ↓tOr, ↓tNot, ↓tB, ↓dBin, ↓dUn, ↓dVar, ↓dC, ↓dIf, ↓dAnd, ↓dOr, ↓dNot, ↓dCall, ↓dNext, ↓look, ↓esc, ↓Y.bind, ↓arg, ↓iv, ↓bv, ↓sv, ↓oAdd, ↓oSub, ↓oMul, ↓oDiv, ↓oMod, ↓oPow, ↓oNeg, ↓oEq, ↓oNe, ↓oLt, ↓oLe, ↓oGt, ↓oGe, ↓oLen, ↓oIx, ↓oInt, ↓dLst, ↓dTup, ↓aNil, ↓aCons, ↓datas, ↓dStC, ↓dStI, ↓sStPut, ↓scalD, ↓D.eqv, ↓MO.data, ↓oIsN, ↓oNotN, ↓isN, ↓oTuple, ↓oIn, ↓oAbs, ↓dFld, ↓sFld, ↓initOf, ↓dMake, ↓dLc, ↓iOf, ↓items, ↓iEnum, ↓iRange1, ↓sFor, ↓gName, ↓gTup, ↓gTup.go, ↓sRaise0, ↓isTup, ↓sAppend, ↓sStore, ↓sAugAdd, ↓dNewT, ↓dDispT, ↓sDput, ↓putAtM, ↓oDin, ↓oDix, ↓atD, ↓toKeys, ↓toKey, ↓sFrz, ↓oIsi, ↓tyName, ↓isiB, ↓dIndexL, ↓dRowsLen, ↓dRowsIx, ↓dRowsCopy, ↓sRowsPut, ↓sRowsApp, ↓sRows1, ↓sRowsLc, ↓sFrz, ↓sRowsFix, ↓isRows, List.map_cons, List.map_nil, List.length_cons, List.length_nil, List.replicate, List.cons_append, List.nil_append, List.getElem?_cons_zero, List.getElem?_cons_succ, List.set_cons_zero, List.set_cons_succ, Option.map_some, T.d.injEq, D.bl.injEq, D.int.injEq, Option.some.injEq, exists_eq_left', exists_eq_left, exists_eq_right, true_and, and_true, true_or, or_true, decide_eq_true_eq, if_true, if_false, reduceIte, Nat.reduceAdd, Nat.reduceSub, Nat.zero_add, Option.bind_some, List.map_nil]
  refine ⟨rfl, rfl, rlc_copy (fun r k hk => ?_) A [] (by simp; omega) ?_⟩
  · simp only [↓semOf, ↓toB, ↓sNext, ↓sSeq, ↓sSet, ↓sIf, ↓sRet, ↓sRetN, ↓sPart, ↓sExpr, ↓sBreak, ↓sCont, ↓tAnd, ↓tOr, ↓tNot, ↓tB, ↓dBin, ↓dUn, ↓dVar, ↓dC, ↓dIf, ↓dAnd, ↓dOr, ↓dNot, ↓dCall, ↓dNext, ↓look, ↓esc, ↓Y.bind, ↓arg, ↓iv, ↓bv, ↓sv, ↓oAdd, ↓oSub, ↓oMul, ↓oDiv, ↓oMod, ↓oPow, ↓oNeg, ↓oEq, ↓oNe, ↓oLt, ↓oLe, ↓oGt, ↓oGe, ↓oLen, ↓oIx, ↓oInt, ↓dLst, ↓dTup, ↓aNil, ↓aCons, ↓datas, ↓dStC, ↓dStI, ↓sStPut, ↓scalD, ↓D.eqv, ↓MO.data, ↓oIsN, ↓oNotN, ↓isN, ↓oTuple, ↓oIn, ↓oAbs, ↓dFld, ↓sFld, ↓initOf, ↓dMake, ↓dLc, ↓iOf, ↓items, ↓iEnum, ↓iRange1, ↓sFor, ↓gName, ↓gTup, ↓gTup.go, ↓sRaise0, ↓isTup, ↓sAppend, ↓sStore, ↓sAugAdd, ↓dNewT, ↓dDispT, ↓sDput, ↓putAtM, ↓oDin, ↓oDix, ↓atD, ↓toKeys, ↓toKey, ↓sFrz, ↓oIsi, ↓tyName, ↓isiB, ↓dIndexL, ↓dRowsLen, ↓dRowsIx, ↓dRowsCopy, ↓sRowsPut, ↓sRowsApp, ↓sRows1, ↓sRowsLc, ↓sFrz, ↓sRowsFix, ↓isRows, List.map_cons, List.map_nil, List.length_cons, List.length_nil, List.replicate, List.cons_append, List.nil_append, List.getElem?_cons_zero, List.getElem?_cons_succ, List.set_cons_zero, List.set_cons_succ, Option.map_some, T.d.injEq, D.bl.injEq, D.int.injEq, Option.some.injEq, exists_eq_left', exists_eq_left, exists_eq_right, true_and, and_true, true_or, or_true, decide_eq_true_eq, if_true, if_false, reduceIte, Nat.reduceAdd, Nat.reduceSub, Nat.zero_add, Option.bind_some, List.map_nil, rowD, wipeD, unwipe]
    exact ⟨_, rfl, rfl, hk⟩
  simp only [↓semOf, ↓toB, ↓sNext, ↓sSeq, ↓sSet, ↓sIf, ↓sRet, ↓sRetN, ↓sPart, ↓sExpr, ↓sBreak, ↓sCont, ↓tAnd, ↓tOr, ↓tNot, ↓tB, ↓dBin, ↓dUn, ↓dVar, ↓dC, ↓dIf, ↓dAnd, ↓dOr, ↓dNot, ↓dCall, ↓dNext, ↓look, ↓esc, ↓Y.bind, ↓arg, ↓iv, ↓bv, ↓sv, ↓oAdd, ↓oSub, ↓oMul, ↓oDiv, ↓oMod, ↓oPow, ↓oNeg, ↓oEq, ↓oNe, ↓oLt, ↓oLe, ↓oGt, ↓oGe, ↓oLen, ↓oIx, ↓oInt, ↓dLst, ↓dTup, ↓aNil, ↓aCons, ↓datas, ↓dStC, ↓dStI, ↓sStPut, ↓scalD, ↓D.eqv, ↓MO.data, ↓oIsN, ↓oNotN, ↓isN, ↓oTuple, ↓oIn, ↓oAbs, ↓dFld, ↓sFld, ↓initOf, ↓dMake, ↓dLc, ↓iOf, ↓items, ↓iEnum, ↓iRange1, ↓sFor, ↓gName, ↓gTup, ↓gTup.go, ↓sRaise0, ↓isTup, ↓sAppend, ↓sStore, ↓sAugAdd, ↓dNewT, ↓dDispT, ↓sDput, ↓putAtM, ↓oDin, ↓oDix, ↓atD, ↓toKeys, ↓toKey, ↓sFrz, ↓oIsi, ↓tyName, ↓isiB, ↓dIndexL, ↓dRowsLen, ↓dRowsIx, ↓dRowsCopy, ↓sRowsPut, ↓sRowsApp, ↓sRows1, ↓sRowsLc, ↓sFrz, ↓sRowsFix, ↓isRows, List.map_cons, List.map_nil, List.length_cons, List.length_nil, List.replicate, List.cons_append, List.nil_append, List.getElem?_cons_zero, List.getElem?_cons_succ, List.set_cons_zero, List.set_cons_succ, Option.map_some, T.d.injEq, D.bl.injEq, D.int.injEq, Option.some.injEq, exists_eq_left', exists_eq_left, exists_eq_right, true_and, and_true, true_or, or_true, decide_eq_true_eq, if_true, if_false, reduceIte, Nat.reduceAdd, Nat.reduceSub, Nat.zero_add, Option.bind_some, List.map_nil, List.nil_append, List.length_map, hLS]
  refine ⟨by decide, fun c c0 c1 => ⟨by omega, fun w w0 w1 => ⟨by omega, fun a a0 a1 => ?_⟩⟩⟩
  refine changed6 hl hl1 g hA w0 w1 a0 a1 (fun B es b4 b5 b6 b7 b8 b9 b10 hg => ?_) (fun B es c w a b7 b8 hlo hg => ?_)
  · simp only [↓semOf, ↓toB, ↓sNext, ↓sSeq, ↓sSet, ↓sIf, ↓sRet, ↓sRetN, ↓sPart, ↓sExpr, ↓sBreak, ↓sCont, ↓tAnd, ↓tOr, ↓tNot, ↓tB, ↓dBin, ↓dUn, ↓dVar, ↓dC, ↓dIf, ↓dAnd, ↓dOr, ↓dNot, ↓dCall, ↓dNext, ↓look, ↓esc, ↓Y.bind, ↓arg, ↓iv, ↓bv, ↓sv, ↓oAdd, ↓oSub, ↓oMul, ↓oDiv, ↓oMod, ↓oPow, ↓oNeg, ↓oEq, ↓oNe, ↓oLt, ↓oLe, ↓oGt, ↓oGe, ↓oLen, ↓oIx, ↓oInt, ↓dLst, ↓dTup, ↓aNil, ↓aCons, ↓datas, ↓dStC, ↓dStI, ↓sStPut, ↓scalD, ↓D.eqv, ↓MO.data, ↓oIsN, ↓oNotN, ↓isN, ↓oTuple, ↓oIn, ↓oAbs, ↓dFld, ↓sFld, ↓initOf, ↓dMake, ↓dLc, ↓iOf, ↓items, ↓iEnum, ↓iRange1, ↓sFor, ↓gName, ↓gTup, ↓gTup.go, ↓sRaise0, ↓isTup, ↓sAppend, ↓sStore, ↓sAugAdd, ↓dNewT, ↓dDispT, ↓sDput, ↓putAtM, ↓oDin, ↓oDix, ↓atD, ↓toKeys, ↓toKey, ↓sFrz, ↓oIsi, ↓tyName, ↓isiB, ↓dIndexL, ↓dRowsLen, ↓dRowsIx, ↓dRowsCopy, ↓sRowsPut, ↓sRowsApp, ↓sRows1, ↓sRowsLc, ↓sFrz, ↓sRowsFix, ↓isRows, List.map_cons, List.map_nil, List.length_cons, List.length_nil, List.replicate, List.cons_append, List.nil_append, List.getElem?_cons_zero, List.getElem?_cons_succ, List.set_cons_zero, List.set_cons_succ, Option.map_some, T.d.injEq, D.bl.injEq, D.int.injEq, Option.some.injEq, exists_eq_left', exists_eq_left, exists_eq_right, true_and, and_true, true_or, or_true, decide_eq_true_eq, if_true, if_false, reduceIte, Nat.reduceAdd, Nat.reduceSub, Nat.zero_add, Option.bind_some, List.map_nil, chEnv]
    exact ⟨by decide, q B es hg⟩
  · simp only [↓semOf, ↓toB, ↓sNext, ↓sSeq, ↓sSet, ↓sIf, ↓sRet, ↓sRetN, ↓sPart, ↓sExpr, ↓sBreak, ↓sCont, ↓tAnd, ↓tOr, ↓tNot, ↓tB, ↓dBin, ↓dUn, ↓dVar, ↓dC, ↓dIf, ↓dAnd, ↓dOr, ↓dNot, ↓dCall, ↓dNext, ↓look, ↓esc, ↓Y.bind, ↓arg, ↓iv, ↓bv, ↓sv, ↓oAdd, ↓oSub, ↓oMul, ↓oDiv, ↓oMod, ↓oPow, ↓oNeg, ↓oEq, ↓oNe, ↓oLt, ↓oLe, ↓oGt, ↓oGe, ↓oLen, ↓oIx, ↓oInt, ↓dLst, ↓dTup, ↓aNil, ↓aCons, ↓datas, ↓dStC, ↓dStI, ↓sStPut, ↓scalD, ↓D.eqv, ↓MO.data, ↓oIsN, ↓oNotN, ↓isN, ↓oTuple, ↓oIn, ↓oAbs, ↓dFld, ↓sFld, ↓initOf, ↓dMake, ↓dLc, ↓iOf, ↓items, ↓iEnum, ↓iRange1, ↓sFor, ↓gName, ↓gTup, ↓gTup.go, ↓sRaise0, ↓isTup, ↓sAppend, ↓sStore, ↓sAugAdd, ↓dNewT, ↓dDispT, ↓sDput, ↓putAtM, ↓oDin, ↓oDix, ↓atD, ↓toKeys, ↓toKey, ↓sFrz, ↓oIsi, ↓tyName, ↓isiB, ↓dIndexL, ↓dRowsLen, ↓dRowsIx, ↓dRowsCopy, ↓sRowsPut, ↓sRowsApp, ↓sRows1, ↓sRowsLc, ↓sFrz, ↓sRowsFix, ↓isRows, List.map_cons, List.map_nil, List.length_cons, List.length_nil, List.replicate, List.cons_append, List.nil_append, List.getElem?_cons_zero, List.getElem?_cons_succ, List.set_cons_zero, List.set_cons_succ, Option.map_some, T.d.injEq, D.bl.injEq, D.int.injEq, Option.some.injEq, exists_eq_left', exists_eq_left, exists_eq_right, true_and, and_true, true_or, or_true, decide_eq_true_eq, if_true, if_false, reduceIte, Nat.reduceAdd, Nat.reduceSub, Nat.zero_add, Option.bind_some, List.map_nil, chEnv, lst_map]
    exact ⟨hlo, by decide, q B es hg⟩
end Z

namespace Z
open Y
abbrev Item := Tx × Int × Int
abbrev Seen := List (Int × Int)
def itemD (i : Item) : D := .tup [.str i.1, .int i.2.1, .int i.2.2]
def pk (p : Int × Int) : List DK := [.inl p.1, .inl p.2]
def seenM (s : Seen) : List (List DK × D) := s.map fun p => (pk p, .bl true)
theorem pk_inj {p q : Int × Int} (h : pk p = pk q) : p = q := by
  unfold pk at h
  cases p; cases q
  simp at h
  exact Prod.ext h.1 h.2
theorem getK_seen (s : Seen) (p : Int × Int) : (getK (seenM s) (pk p)).isSome = decide (p ∈ s) := by
  unfold getK seenM
  rw [Option.isSome_map]
  apply Bool.eq_iff_iff.mpr
  rw [List.find?_isSome]
  simp only [List.mem_map, decide_eq_true_eq]
  constructor
  · rintro ⟨_, ⟨q, hq, rfl⟩, e⟩
    rw [← pk_inj e]; exact hq
  · intro h
    exact ⟨_, ⟨p, h, rfl⟩, rfl⟩
theorem setK_seen {s : Seen} {p : Int × Int} (h : p ∉ s) : setK (seenM s) (pk p) (.bl true) = seenM (s ++ [p]) := by
  unfold setK
  rw [if_neg]
  · simp [seenM]
  · intro e
    obtain ⟨x, hx, e⟩ := List.any_eq_true.mp e
    obtain ⟨q, hq, rfl⟩ := List.mem_map.mp hx
    rw [← pk_inj (of_decide_eq_true e)] at h
    exact h hq
def exp1 (A B : List Row) (L : Tx) (w : Tx) (l r : Int) (sq : Seen × List Item) (i : Nat) : Seen × List Item :=
  if (stp A l i, stp B r i) ∈ sq.1 then sq else (sq.1 ++ [(stp A l i, stp B r i)], sq.2 ++ [(w ++ [L.getD i 0], stp A l i, stp B r i)])
def hit (E F : List Int) (e : Bool) (l r : Int) : Bool := (decide (l ∈ E) && !decide (r ∈ F)) || (e && (decide (r ∈ F) && !decide (l ∈ E)))
def run (L : Tx) (A : List Row) (E : List Int) (B : List Row) (F : List Int) (e : Bool) : Nat → Nat → Seen → List Item → Option Tx
  | 0, _, _, _ => none
  | f + 1, t, s, q => match q[t]? with
    | none => none
    | some (w, l, r) => if hit E F e l r = true then some w else run L A E B F e f (t + 1) ((List.range' 0 L.length).foldl (Z.exp1 A B L w l r) (s, q)).1 ((List.range' 0 L.length).foldl (Z.exp1 A B L w l r) (s, q)).2
def resD : Option Tx → D
  | none => .non
  | some w => .str w
structure Inv (n m : Nat) (s : Seen) (q : List Item) : Prop where
  nd : s.Nodup
  bx : ∀ p ∈ s, (-1 ≤ p.1 ∧ p.1 < n) ∧ (-1 ≤ p.2 ∧ p.2 < m)
  eq : q.map (·.2) = s
  wl : ∀ (i : Nat) (it : Item), q[i]? = some it → it.1.length ≤ i
theorem nodup_lt : ∀ (N : Nat) (l : List Nat), l.Nodup → (∀ x ∈ l, x < N) → l.length ≤ N
  | 0, l, _, h => by
    cases l with
    | nil => simp
    | cons a l => exact absurd (h a (by simp)) (Nat.not_lt_zero a)
  | N + 1, l, nd, h => by
    have h1 := nodup_lt N (l.erase N) (nd.erase N) (fun x hx => by
      obtain ⟨ne, hm⟩ := (nd.mem_erase_iff).mp hx
      have := h x hm
      omega)
    have h2 := List.length_erase (a := N) (l := l)
    split at h2 <;> omega
theorem map_nodup {α β : Type} {f : α → β} : ∀ {l : List α}, l.Nodup → (∀ a ∈ l, ∀ b ∈ l, f a = f b → a = b) → (l.map f).Nodup
  | [], _, _ => by simp
  | x :: l, nd, h => by
    rw [List.nodup_cons] at nd
    rw [List.map_cons, List.nodup_cons]
    refine ⟨fun hm => ?_, map_nodup nd.2 fun a ha b hb => h a (by simp [ha]) b (by simp [hb])⟩
    obtain ⟨b, hb, e⟩ := List.mem_map.mp hm
    have := h b (by simp [hb]) x (by simp) e
    subst this
    exact nd.1 hb
theorem Inv.len {n m : Nat} {s : Seen} {q : List Item} (I : Inv n m s q) : q.length ≤ (n + 1) * (m + 1) := by
  have h1 : q.length = s.length := by rw [← I.eq, List.length_map]
  have h2 := nodup_lt ((n + 1) * (m + 1)) (s.map fun p => (p.1 + 1).toNat * (m + 1) + (p.2 + 1).toNat) (map_nodup I.nd fun a ha b hb e => by
    obtain ⟨⟨a1, a2⟩, a3, a4⟩ := I.bx a ha
    obtain ⟨⟨b1, b2⟩, b3, b4⟩ := I.bx b hb
    have x1 : (a.2 + 1).toNat < m + 1 := by omega
    have x2 : (b.2 + 1).toNat < m + 1 := by omega
    have e1 : (a.1 + 1).toNat = (b.1 + 1).toNat := by
      have := congrArg (· / (m + 1)) e
      simp only [Nat.mul_comm _ (m + 1)] at this
      rw [Nat.mul_add_div (by omega), Nat.mul_add_div (by omega), Nat.div_eq_of_lt x1, Nat.div_eq_of_lt x2] at this
      omega
    have e2 : (a.2 + 1).toNat = (b.2 + 1).toNat := by rw [e1] at e; omega
    exact Prod.ext (by omega) (by omega)) (fun x hx => by
    obtain ⟨p, hp, rfl⟩ := List.mem_map.mp hx
    obtain ⟨⟨a1, a2⟩, a3, a4⟩ := I.bx p hp
    have x0 : (p.1 + 1).toNat ≤ n := by omega
    have x1 : (p.2 + 1).toNat < m + 1 := by omega
    calc (p.1 + 1).toNat * (m + 1) + (p.2 + 1).toNat < (p.1 + 1).toNat * (m + 1) + (m + 1) := by omega
      _ = ((p.1 + 1).toNat + 1) * (m + 1) := by rw [Nat.add_mul]; omega
      _ ≤ (n + 1) * (m + 1) := Nat.mul_le_mul_right _ (by omega))
  rw [List.length_map] at h2
  omega
section
variable {L : Tx} {A B : List Row} {E F : List Int}
theorem Inv.exp1 (gA : Good L A E) (gB : Good L B F) {s : Seen} {q : List Item} (I : Inv A.length B.length s q) {w : Tx} {l r : Int} {i : Nat} (hl : l < A.length) (hr : r < B.length) (hi : i < L.length) (hw : w.length + 1 ≤ q.length) :
    Inv A.length B.length (exp1 A B L w l r (s, q) i).1 (exp1 A B L w l r (s, q) i).2 ∧ q.length ≤ (Z.exp1 A B L w l r (s, q) i).2.length := by
  unfold Z.exp1
  split
  · exact ⟨I, Nat.le_refl _⟩
  · rename_i h
    have b1 := stp_ok gA (a := i) hl (by omega) (by omega)
    have b2 := stp_ok gB (a := i) hr (by omega) (by omega)
    refine ⟨⟨?_, fun p hp => ?_, by simp [I.eq], fun k it hk => ?_⟩, by simp⟩
    · rw [List.nodup_append]
      exact ⟨I.nd, by simp, fun a ha b hb => by simp at hb; subst hb; rintro rfl; exact h ha⟩
    · rcases List.mem_append.mp hp with h | h
      · exact I.bx p h
      · simp at h; subst h; exact ⟨b1, b2⟩
    · simp only at hk
      by_cases hkq : k < q.length
      · rw [List.getElem?_append_left hkq] at hk
        exact I.wl k it hk
      · rw [List.getElem?_append_right (by omega)] at hk
        have : k - q.length = 0 := by
          have := (List.getElem?_eq_some_iff.mp hk).1
          simp at this; omega
        rw [this] at hk
        simp at hk
        subst hk
        simp
        omega
theorem Inv.expand (gA : Good L A E) (gB : Good L B F) {w : Tx} {l r : Int} (hl : l < A.length) (hr : r < B.length) : ∀ (m t : Nat) (s : Seen) (q : List Item), t + m ≤ L.length → Inv A.length B.length s q → w.length + 1 ≤ q.length →
    Inv A.length B.length ((List.range' t m).foldl (Z.exp1 A B L w l r) (s, q)).1 ((List.range' t m).foldl (Z.exp1 A B L w l r) (s, q)).2 ∧ q.length ≤ ((List.range' t m).foldl (Z.exp1 A B L w l r) (s, q)).2.length
  | 0, _, _, _, _, I, _ => ⟨I, Nat.le_refl _⟩
  | m + 1, t, s, q, h, I, hw => by
    rw [List.range'_succ, List.foldl_cons]
    have h1 := I.exp1 gA gB (i := t) hl hr (by omega) hw
    have h2 := Inv.expand gA gB hl hr m (t + 1) _ _ (by omega) h1.1 (Nat.le_trans hw h1.2)
    exact ⟨h2.1, Nat.le_trans h1.2 h2.2⟩
end
theorem any_int (E : List Int) (l : Int) : ((E.map D.int).any fun y => y.eqv (.int l)) = decide (l ∈ E) := by
  apply Bool.eq_iff_iff.mpr
  rw [List.any_eq_true]
  simp only [List.mem_map, decide_eq_true_eq]
  constructor
  · rintro ⟨_, ⟨e, he, rfl⟩, h⟩
    have : e = l := by simpa [D.eqv] using h
    rw [← this]; exact he
  · intro h
    exact ⟨_, ⟨l, h, rfl⟩, by simp [D.eqv]⟩
theorem flat_ints (E : List Int) : (E.map D.int).all D.flat = true := by simp [D.flat]
theorem numbered_str (L : Tx) : numbered (L.map fun c => D.str [c]) = (List.range' 0 L.length).map fun i : Nat => D.tup [.int i, .str [L.getD i 0]] := by
  unfold numbered
  apply List.ext_getElem?
  intro k
  rw [List.getElem?_zipWith, List.getElem?_map, List.getElem?_map, List.length_map, List.range_eq_range']
  by_cases hk : k < L.length
  · rw [List.getElem?_range' (by simpa using hk), List.getElem?_eq_getElem hk]
    simp [List.getElem?_eq_getElem hk]
  · rw [List.getElem?_eq_none (show (List.range' 0 L.length).length ≤ k by simp; omega)]
    rfl
end Z

namespace Z
open Y
section
variable {L : Tx} {A B : List Row} {E F : List Int} {e : Bool} {Z0 : DEnds}
abbrev fEnv (L : Tx) (A : List Row) (E : List Int) (B : List Row) (F : List Int) (e : Bool) (s : Seen) (q : List Item) (t : Nat) (b6 b7 b8 b9 b10 b11 b12 b13 : Option Y.B) : En :=
  [some (.d (.ins "Machine" (mach L A E))), some (.d (.ins "Machine" (mach L B F))), some (.d (.bl e)), some (.own (.dit (seenM s))), some (.own (.lst (q.map itemD))), some (.d (.int t)), b6, b7, b8, b9, b10, b11, b12, b13]
theorem fd1 (gA : Good L A E) (gB : Good L B F) (hl4 : L.length ≤ 4) {w : Tx} {l r : Int} {t i : Nat} {s : Seen} {q : List Item} (hi : i < L.length) (hw : w.length < SZ) (hq : q.length < SZ) (hs : s.length < SZ) (b9 b10 : Option Y.B)
    (h : Z0.nx (fEnv L A E B F e (exp1 A B L w l r (s, q) i).1 (exp1 A B L w l r (s, q) i).2 t (some (.d (.str w))) (some (.d (.int l))) (some (.d (.int r))) b9 b10 (some (.d (.int i))) (some (.d (.str [L.getD i 0]))) (some (.d (.tup [.int (stp A l i), .int (stp B r i)]))))) :
    d_first_difference_1 Z0 (fEnv L A E B F e s q t (some (.d (.str w))) (some (.d (.int l))) (some (.d (.int r))) b9 b10 (some (.d (.int i))) (some (.d (.str [L.getD i 0]))) (some (.d (.tup [.int (stp A l i), .int (stp B r i)])))) := by
  have hk : ([.inl (stp A l i), .inl (stp B r i)] : List DK) = pk (stp A l i, stp B r i) := rfl
  unfold d_first_difference_1
  simp only [↓semOf, ↓toB, ↓sNext, ↓sSeq, ↓sSet, ↓sIf, ↓sRet, ↓sRetN, ↓sPart, ↓sExpr, ↓sBreak, ↓sCont, ↓tAnd, ↓tOr, ↓tNot, ↓tB, ↓dBin, ↓dUn, ↓dVar, ↓dC, ↓dIf, ↓dAnd, ↓dOr, ↓dNot, ↓dCall, ↓dNext, ↓look, ↓esc, ↓Y.bind, ↓arg, ↓iv, ↓bv, ↓sv, ↓oAdd, ↓oSub, ↓oMul, ↓oDiv, ↓oMod, ↓oPow, ↓oNeg, ↓oEq, ↓oNe, ↓oLt, ↓oLe, ↓oGt, ↓oGe, ↓oLen, ↓oIx, ↓oInt, ↓dLst, ↓dTup, ↓aNil, ↓aCons, ↓datas, ↓dStC, ↓dStI, ↓sStPut, ↓scalD, ↓D.eqv, ↓MO.data, ↓oIsN, ↓oNotN, ↓isN, ↓oTuple, ↓oIn, ↓oAbs, ↓dFld, ↓sFld, ↓initOf, ↓dMake, ↓dLc, ↓iOf, ↓items, ↓iEnum, ↓iRange1, ↓sFor, ↓gName, ↓gTup, ↓gTup.go, ↓sRaise0, ↓isTup, ↓sAppend, ↓sStore, ↓sAugAdd, ↓dNewT, ↓dDispT, ↓sDput, ↓putAtM, ↓oDin, ↓oDix, ↓atD, ↓toKeys, ↓toKey, ↓sFrz, ↓oIsi, ↓tyName, ↓isiB, ↓dIndexL, ↓dRowsLen, ↓dRowsIx, ↓dRowsCopy, ↓sRowsPut, ↓sRowsApp, ↓sRows1, ↓sRowsLc, ↓sFrz, ↓sRowsFix, ↓isRows, List.map_cons, List.map_nil, List.length_cons, List.length_nil, List.replicate, List.cons_append, List.nil_append, List.getElem?_cons_zero, List.getElem?_cons_succ, List.set_cons_zero, List.set_cons_succ, Option.map_some, T.d.injEq, D.bl.injEq, D.int.injEq, Option.some.injEq, exists_eq_left', exists_eq_left, exists_eq_right, true_and, and_true, true_or, or_true, decide_eq_true_eq, if_true, if_false, reduceIte, Nat.reduceAdd, Nat.reduceSub, Nat.zero_add, Option.bind_some, List.map_nil, fEnv, hk, getK_seen]
  by_cases hm : (stp A l i, stp B r i) ∈ s
  · rw [if_neg (by simp [hm])]
    unfold exp1 at h
    rw [if_pos hm] at h
    exact h
  · rw [if_pos (by simp [hm])]
    unfold exp1 at h
    rw [if_neg hm] at h
    simp only [↓semOf, ↓toB, ↓sNext, ↓sSeq, ↓sSet, ↓sIf, ↓sRet, ↓sRetN, ↓sPart, ↓sExpr, ↓sBreak, ↓sCont, ↓tAnd, ↓tOr, ↓tNot, ↓tB, ↓dBin, ↓dUn, ↓dVar, ↓dC, ↓dIf, ↓dAnd, ↓dOr, ↓dNot, ↓dCall, ↓dNext, ↓look, ↓esc, ↓Y.bind, ↓arg, ↓iv, ↓bv, ↓sv, ↓oAdd, ↓oSub, ↓oMul, ↓oDiv, ↓oMod, ↓oPow, ↓oNeg, ↓oEq, ↓oNe, ↓oLt, ↓oLe, ↓oGt, ↓oGe, ↓oLen, ↓oIx, ↓oInt, ↓dLst, ↓dTup, ↓aNil, ↓aCons, ↓datas, ↓dStC, ↓dStI, ↓sStPut, ↓scalD, ↓D.eqv, ↓MO.data, ↓oIsN, ↓oNotN, ↓isN, ↓oTuple, ↓oIn, ↓oAbs, ↓dFld, ↓sFld, ↓initOf, ↓dMake, ↓dLc, ↓iOf, ↓items, ↓iEnum, ↓iRange1, ↓sFor, ↓gName, ↓gTup, ↓gTup.go, ↓sRaise0, ↓isTup, ↓sAppend, ↓sStore, ↓sAugAdd, ↓dNewT, ↓dDispT, ↓sDput, ↓putAtM, ↓oDin, ↓oDix, ↓atD, ↓toKeys, ↓toKey, ↓sFrz, ↓oIsi, ↓tyName, ↓isiB, ↓dIndexL, ↓dRowsLen, ↓dRowsIx, ↓dRowsCopy, ↓sRowsPut, ↓sRowsApp, ↓sRows1, ↓sRowsLc, ↓sFrz, ↓sRowsFix, ↓isRows, List.map_cons, List.map_nil, List.length_cons, List.length_nil, List.replicate, List.cons_append, List.nil_append, List.getElem?_cons_zero, List.getElem?_cons_succ, List.set_cons_zero, List.set_cons_succ, Option.map_some, T.d.injEq, D.bl.injEq, D.int.injEq, Option.some.injEq, exists_eq_left', exists_eq_left, exists_eq_right, true_and, and_true, true_or, or_true, decide_eq_true_eq, if_true, if_false, reduceIte, Nat.reduceAdd, Nat.reduceSub, Nat.zero_add, Option.bind_some, List.map_nil, hk, setK_seen hm, List.length_map]
    refine ⟨⟨_, rfl⟩, by simpa [seenM] using hs, ⟨_, rfl⟩, hw, 0, _, rfl, rfl, 1, _, rfl, rfl, by decide, hq, ?_⟩
    refine cast ?_ h
    simp [fEnv, itemD]
theorem fd2 (gA : Good L A E) (gB : Good L B F) (hl4 : L.length ≤ 4) {w : Tx} {l r : Int} {t : Nat} {s : Seen} {q : List Item} (hl : l < A.length) (hr : r < B.length) (I : Inv A.length B.length s q) (hw : w.length + 1 ≤ q.length) (hN : (A.length + 1) * (B.length + 1) < SZ) (b9 b10 b11 b12 b13 : Option Y.B)
    (h : ∀ (b11 b12 b13 : Option Y.B), Z0.nx (fEnv L A E B F e ((List.range' 0 L.length).foldl (exp1 A B L w l r) (s, q)).1 ((List.range' 0 L.length).foldl (exp1 A B L w l r) (s, q)).2 t (some (.d (.str w))) (some (.d (.int l))) (some (.d (.int r))) b9 b10 b11 b12 b13)) :
    d_first_difference_2 Z0 (fEnv L A E B F e s q t (some (.d (.str w))) (some (.d (.int l))) (some (.d (.int r))) b9 b10 b11 b12 b13) := by
  unfold d_first_difference_2
  simp only [↓semOf, ↓toB, ↓sNext, ↓sSeq, ↓sSet, ↓sIf, ↓sRet, ↓sRetN, ↓sPart, ↓sExpr, ↓sBreak, ↓sCont, ↓tAnd, ↓tOr, ↓tNot, ↓tB, ↓dBin, ↓dUn, ↓dVar, ↓dC, ↓dIf, ↓dAnd, ↓dOr, ↓dNot, ↓dCall, ↓dNext, ↓look, ↓esc, ↓Y.bind, ↓arg, ↓iv, ↓bv, ↓sv, ↓oAdd, ↓oSub, ↓oMul, ↓oDiv, ↓oMod, ↓oPow, ↓oNeg, ↓oEq, ↓oNe, ↓oLt, ↓oLe, ↓oGt, ↓oGe, ↓oLen, ↓oIx, ↓oInt, ↓dLst, ↓dTup, ↓aNil, ↓aCons, ↓datas, ↓dStC, ↓dStI, ↓sStPut, ↓scalD, ↓D.eqv, ↓MO.data, ↓oIsN, ↓oNotN, ↓isN, ↓oTuple, ↓oIn, ↓oAbs, ↓dFld, ↓sFld, ↓initOf, ↓dMake, ↓dLc, ↓iOf, ↓items, ↓iEnum, ↓iRange1, ↓sFor, ↓gName, ↓gTup, ↓gTup.go, ↓sRaise0, ↓isTup, ↓sAppend, ↓sStore, ↓sAugAdd, ↓dNewT, ↓dDispT, ↓sDput, ↓putAtM, ↓oDin, ↓oDix, ↓atD, ↓toKeys, ↓toKey, ↓sFrz, ↓oIsi, ↓tyName, ↓isiB, ↓dIndexL, ↓dRowsLen, ↓dRowsIx, ↓dRowsCopy, ↓sRowsPut, ↓sRowsApp, ↓sRows1, ↓sRowsLc, ↓sFrz, ↓sRowsFix, ↓isRows, List.map_cons, List.map_nil, List.length_cons, List.length_nil, List.replicate, List.cons_append, List.nil_append, List.getElem?_cons_zero, List.getElem?_cons_succ, List.set_cons_zero, List.set_cons_succ, Option.map_some, T.d.injEq, D.bl.injEq, D.int.injEq, Option.some.injEq, exists_eq_left', exists_eq_left, exists_eq_right, true_and, and_true, true_or, or_true, decide_eq_true_eq, if_true, if_false, reduceIte, Nat.reduceAdd, Nat.reduceSub, Nat.zero_add, Option.bind_some, List.map_nil, fEnv, mach]
  refine ⟨by decide, _, rfl, ?_⟩
  simp only [↓semOf, ↓toB, ↓sNext, ↓sSeq, ↓sSet, ↓sIf, ↓sRet, ↓sRetN, ↓sPart, ↓sExpr, ↓sBreak, ↓sCont, ↓tAnd, ↓tOr, ↓tNot, ↓tB, ↓dBin, ↓dUn, ↓dVar, ↓dC, ↓dIf, ↓dAnd, ↓dOr, ↓dNot, ↓dCall, ↓dNext, ↓look, ↓esc, ↓Y.bind, ↓arg, ↓iv, ↓bv, ↓sv, ↓oAdd, ↓oSub, ↓oMul, ↓oDiv, ↓oMod, ↓oPow, ↓oNeg, ↓oEq, ↓oNe, ↓oLt, ↓oLe, ↓oGt, ↓oGe, ↓oLen, ↓oIx, ↓oInt, ↓dLst, ↓dTup, ↓aNil, ↓aCons, ↓datas, ↓dStC, ↓dStI, ↓sStPut, ↓scalD, ↓D.eqv, ↓MO.data, ↓oIsN, ↓oNotN, ↓isN, ↓oTuple, ↓oIn, ↓oAbs, ↓dFld, ↓sFld, ↓initOf, ↓dMake, ↓dLc, ↓iOf, ↓items, ↓iEnum, ↓iRange1, ↓sFor, ↓gName, ↓gTup, ↓gTup.go, ↓sRaise0, ↓isTup, ↓sAppend, ↓sStore, ↓sAugAdd, ↓dNewT, ↓dDispT, ↓sDput, ↓putAtM, ↓oDin, ↓oDix, ↓atD, ↓toKeys, ↓toKey, ↓sFrz, ↓oIsi, ↓tyName, ↓isiB, ↓dIndexL, ↓dRowsLen, ↓dRowsIx, ↓dRowsCopy, ↓sRowsPut, ↓sRowsApp, ↓sRows1, ↓sRowsLc, ↓sFrz, ↓sRowsFix, ↓isRows, List.map_cons, List.map_nil, List.length_cons, List.length_nil, List.replicate, List.cons_append, List.nil_append, List.getElem?_cons_zero, List.getElem?_cons_succ, List.set_cons_zero, List.set_cons_succ, Option.map_some, T.d.injEq, D.bl.injEq, D.int.injEq, Option.some.injEq, exists_eq_left', exists_eq_left, exists_eq_right, true_and, and_true, true_or, or_true, decide_eq_true_eq, if_true, if_false, reduceIte, Nat.reduceAdd, Nat.reduceSub, Nat.zero_add, Option.bind_some, List.map_nil, numbered_str]
  refine ⟨not_false, ?_⟩
  refine forL_inv (I := fun xs ρ => ∃ (j m : Nat) (s' : Seen) (q' : List Item) (b11 b12 b13 : Option Y.B), j + m = L.length ∧ xs = (List.range' j m).map (fun i : Nat => D.tup [.int i, .str [L.getD i 0]]) ∧ Inv A.length B.length s' q' ∧ q.length ≤ q'.length ∧
      (List.range' j m).foldl (exp1 A B L w l r) (s', q') = (List.range' 0 L.length).foldl (exp1 A B L w l r) (s, q) ∧ ρ = fEnv L A E B F e s' q' t (some (.d (.str w))) (some (.d (.int l))) (some (.d (.int r))) b9 b10 b11 b12 b13) (fun x xs ρ h' k hk => ?_) (fun ρ h' => ?_) _ _ ⟨0, L.length, s, q, b11, b12, b13, by omega, rfl, I, Nat.le_refl _, rfl, rfl⟩
  · obtain ⟨j, m, s', q', b11, b12, b13, h1, h2, I', hqq, h3, rfl⟩ := h'
    cases m with
    | zero => cases h2
    | succ m =>
      rw [List.range'_succ, List.map_cons] at h2
      cases h2
      rw [List.range'_succ, List.foldl_cons] at h3
      have hlen := I'.len
      have hls : s'.length = q'.length := by rw [← I'.eq, List.length_map]
      simp only [↓semOf, ↓toB, ↓sNext, ↓sSeq, ↓sSet, ↓sIf, ↓sRet, ↓sRetN, ↓sPart, ↓sExpr, ↓sBreak, ↓sCont, ↓tAnd, ↓tOr, ↓tNot, ↓tB, ↓dBin, ↓dUn, ↓dVar, ↓dC, ↓dIf, ↓dAnd, ↓dOr, ↓dNot, ↓dCall, ↓dNext, ↓look, ↓esc, ↓Y.bind, ↓arg, ↓iv, ↓bv, ↓sv, ↓oAdd, ↓oSub, ↓oMul, ↓oDiv, ↓oMod, ↓oPow, ↓oNeg, ↓oEq, ↓oNe, ↓oLt, ↓oLe, ↓oGt, ↓oGe, ↓oLen, ↓oIx, ↓oInt, ↓dLst, ↓dTup, ↓aNil, ↓aCons, ↓datas, ↓dStC, ↓dStI, ↓sStPut, ↓scalD, ↓D.eqv, ↓MO.data, ↓oIsN, ↓oNotN, ↓isN, ↓oTuple, ↓oIn, ↓oAbs, ↓dFld, ↓sFld, ↓initOf, ↓dMake, ↓dLc, ↓iOf, ↓items, ↓iEnum, ↓iRange1, ↓sFor, ↓gName, ↓gTup, ↓gTup.go, ↓sRaise0, ↓isTup, ↓sAppend, ↓sStore, ↓sAugAdd, ↓dNewT, ↓dDispT, ↓sDput, ↓putAtM, ↓oDin, ↓oDix, ↓atD, ↓toKeys, ↓toKey, ↓sFrz, ↓oIsi, ↓tyName, ↓isiB, ↓dIndexL, ↓dRowsLen, ↓dRowsIx, ↓dRowsCopy, ↓sRowsPut, ↓sRowsApp, ↓sRows1, ↓sRowsLc, ↓sFrz, ↓sRowsFix, ↓isRows, List.map_cons, List.map_nil, List.length_cons, List.length_nil, List.replicate, List.cons_append, List.nil_append, List.getElem?_cons_zero, List.getElem?_cons_succ, List.set_cons_zero, List.set_cons_succ, Option.map_some, T.d.injEq, D.bl.injEq, D.int.injEq, Option.some.injEq, exists_eq_left', exists_eq_left, exists_eq_right, true_and, and_true, true_or, or_true, decide_eq_true_eq, if_true, if_false, reduceIte, Nat.reduceAdd, Nat.reduceSub, Nat.zero_add, Option.bind_some, List.map_nil, fEnv]
      refine step_ok gA hl (by omega) (by omega) _ _ ?_
      simp only [↓semOf, ↓toB, ↓sNext, ↓sSeq, ↓sSet, ↓sIf, ↓sRet, ↓sRetN, ↓sPart, ↓sExpr, ↓sBreak, ↓sCont, ↓tAnd, ↓tOr, ↓tNot, ↓tB, ↓dBin, ↓dUn, ↓dVar, ↓dC, ↓dIf, ↓dAnd, ↓dOr, ↓dNot, ↓dCall, ↓dNext, ↓look, ↓esc, ↓Y.bind, ↓arg, ↓iv, ↓bv, ↓sv, ↓oAdd, ↓oSub, ↓oMul, ↓oDiv, ↓oMod, ↓oPow, ↓oNeg, ↓oEq, ↓oNe, ↓oLt, ↓oLe, ↓oGt, ↓oGe, ↓oLen, ↓oIx, ↓oInt, ↓dLst, ↓dTup, ↓aNil, ↓aCons, ↓datas, ↓dStC, ↓dStI, ↓sStPut, ↓scalD, ↓D.eqv, ↓MO.data, ↓oIsN, ↓oNotN, ↓isN, ↓oTuple, ↓oIn, ↓oAbs, ↓dFld, ↓sFld, ↓initOf, ↓dMake, ↓dLc, ↓iOf, ↓items, ↓iEnum, ↓iRange1, ↓sFor, ↓gName, ↓gTup, ↓gTup.go, ↓sRaise0, ↓isTup, ↓sAppend, ↓sStore, ↓sAugAdd, ↓dNewT, ↓dDispT, ↓sDput, ↓putAtM, ↓oDin, ↓oDix, ↓atD, ↓toKeys, ↓toKey, ↓sFrz, ↓oIsi, ↓tyName, ↓isiB, ↓dIndexL, ↓dRowsLen, ↓dRowsIx, ↓dRowsCopy, ↓sRowsPut, ↓sRowsApp, ↓sRows1, ↓sRowsLc, ↓sFrz, ↓sRowsFix, ↓isRows, List.map_cons, List.map_nil, List.length_cons, List.length_nil, List.replicate, List.cons_append, List.nil_append, List.getElem?_cons_zero, List.getElem?_cons_succ, List.set_cons_zero, List.set_cons_succ, Option.map_some, T.d.injEq, D.bl.injEq, D.int.injEq, Option.some.injEq, exists_eq_left', exists_eq_left, exists_eq_right, true_and, and_true, true_or, or_true, decide_eq_true_eq, if_true, if_false, reduceIte, Nat.reduceAdd, Nat.reduceSub, Nat.zero_add, Option.bind_some, List.map_nil]
      refine step_ok gB hr (by omega) (by omega) _ _ ?_
      simp only [↓semOf, ↓toB, ↓sNext, ↓sSeq, ↓sSet, ↓sIf, ↓sRet, ↓sRetN, ↓sPart, ↓sExpr, ↓sBreak, ↓sCont, ↓tAnd, ↓tOr, ↓tNot, ↓tB, ↓dBin, ↓dUn, ↓dVar, ↓dC, ↓dIf, ↓dAnd, ↓dOr, ↓dNot, ↓dCall, ↓dNext, ↓look, ↓esc, ↓Y.bind, ↓arg, ↓iv, ↓bv, ↓sv, ↓oAdd, ↓oSub, ↓oMul, ↓oDiv, ↓oMod, ↓oPow, ↓oNeg, ↓oEq, ↓oNe, ↓oLt, ↓oLe, ↓oGt, ↓oGe, ↓oLen, ↓oIx, ↓oInt, ↓dLst, ↓dTup, ↓aNil, ↓aCons, ↓datas, ↓dStC, ↓dStI, ↓sStPut, ↓scalD, ↓D.eqv, ↓MO.data, ↓oIsN, ↓oNotN, ↓isN, ↓oTuple, ↓oIn, ↓oAbs, ↓dFld, ↓sFld, ↓initOf, ↓dMake, ↓dLc, ↓iOf, ↓items, ↓iEnum, ↓iRange1, ↓sFor, ↓gName, ↓gTup, ↓gTup.go, ↓sRaise0, ↓isTup, ↓sAppend, ↓sStore, ↓sAugAdd, ↓dNewT, ↓dDispT, ↓sDput, ↓putAtM, ↓oDin, ↓oDix, ↓atD, ↓toKeys, ↓toKey, ↓sFrz, ↓oIsi, ↓tyName, ↓isiB, ↓dIndexL, ↓dRowsLen, ↓dRowsIx, ↓dRowsCopy, ↓sRowsPut, ↓sRowsApp, ↓sRows1, ↓sRowsLc, ↓sFrz, ↓sRowsFix, ↓isRows, List.map_cons, List.map_nil, List.length_cons, List.length_nil, List.replicate, List.cons_append, List.nil_append, List.getElem?_cons_zero, List.getElem?_cons_succ, List.set_cons_zero, List.set_cons_succ, Option.map_some, T.d.injEq, D.bl.injEq, D.int.injEq, Option.some.injEq, exists_eq_left', exists_eq_left, exists_eq_right, true_and, and_true, true_or, or_true, decide_eq_true_eq, if_true, if_false, reduceIte, Nat.reduceAdd, Nat.reduceSub, Nat.zero_add, Option.bind_some, List.map_nil]
      refine ⟨by decide, ?_⟩
      have h4 := I'.exp1 gA gB (i := j) (w := w) hl hr (by omega) (by omega)
      refine fd1 gA gB hl4 (by omega) (by omega) (by omega) (by omega) b9 b10 ?_
      exact hk _ ⟨j + 1, m, _, _, _, _, _, by omega, rfl, h4.1, by omega, h3, rfl⟩
  · obtain ⟨j, m, s', q', b11, b12, b13, h1, h2, I', hqq, h3, rfl⟩ := h'
    have hm : m = 0 := by cases m with | zero => rfl | succ m => rw [List.range'_succ] at h2; cases h2
    subst hm
    have h3 : (s', q') = _ := h3
    have := h b11 b12 b13
    rw [← h3] at this
    exact this
theorem fd3 {w : Tx} {l r : Int} {t : Nat} {s : Seen} {q : List Item} (b11 b12 b13 : Option Y.B) (h1 : hit E F e l r = true → Z0.rt (.d (.str w)))
    (h2 : hit E F e l r = false → Z0.nx (fEnv L A E B F e s q t (some (.d (.str w))) (some (.d (.int l))) (some (.d (.int r))) (some (.d (.bl (decide (l ∈ E))))) (some (.d (.bl (decide (r ∈ F))))) b11 b12 b13)) :
    d_first_difference_3 Z0 (fEnv L A E B F e s q t (some (.d (.str w))) (some (.d (.int l))) (some (.d (.int r))) (some (.d (.bl (decide (l ∈ E))))) (some (.d (.bl (decide (r ∈ F))))) b11 b12 b13) := by
  unfold hit at h1 h2
  generalize decide (l ∈ E) = x1 at *
  generalize decide (r ∈ F) = x2 at *
  unfold d_first_difference_3
  simp only [↓semOf, ↓toB, ↓sNext, ↓sSeq, ↓sSet, ↓sIf, ↓sRet, ↓sRetN, ↓sPart, ↓sExpr, ↓sBreak, ↓sCont, ↓tAnd, ↓tOr, ↓tNot, ↓tB, ↓dBin, ↓dUn, ↓dVar, ↓dC, ↓dIf, ↓dAnd, ↓dOr, ↓dNot, ↓dCall, ↓dNext, ↓look, ↓esc, ↓Y.bind, ↓arg, ↓iv, ↓bv, ↓sv, ↓oAdd, ↓oSub, ↓oMul, ↓oDiv, ↓oMod, ↓oPow, ↓oNeg, ↓oEq, ↓oNe, ↓oLt, ↓oLe, ↓oGt, ↓oGe, ↓oLen, ↓oIx, ↓oInt, ↓dLst, ↓dTup, ↓aNil, ↓aCons, ↓datas, ↓dStC, ↓dStI, ↓sStPut, ↓scalD, ↓D.eqv, ↓MO.data, ↓oIsN, ↓oNotN, ↓isN, ↓oTuple, ↓oIn, ↓oAbs, ↓dFld, ↓sFld, ↓initOf, ↓dMake, ↓dLc, ↓iOf, ↓items, ↓iEnum, ↓iRange1, ↓sFor, ↓gName, ↓gTup, ↓gTup.go, ↓sRaise0, ↓isTup, ↓sAppend, ↓sStore, ↓sAugAdd, ↓dNewT, ↓dDispT, ↓sDput, ↓putAtM, ↓oDin, ↓oDix, ↓atD, ↓toKeys, ↓toKey, ↓sFrz, ↓oIsi, ↓tyName, ↓isiB, ↓dIndexL, ↓dRowsLen, ↓dRowsIx, ↓dRowsCopy, ↓sRowsPut, ↓sRowsApp, ↓sRows1, ↓sRowsLc, ↓sFrz, ↓sRowsFix, ↓isRows, List.map_cons, List.map_nil, List.length_cons, List.length_nil, List.replicate, List.cons_append, List.nil_append, List.getElem?_cons_zero, List.getElem?_cons_succ, List.set_cons_zero, List.set_cons_succ, Option.map_some, T.d.injEq, D.bl.injEq, D.int.injEq, Option.some.injEq, exists_eq_left', exists_eq_left, exists_eq_right, true_and, and_true, true_or, or_true, decide_eq_true_eq, if_true, if_false, reduceIte, Nat.reduceAdd, Nat.reduceSub, Nat.zero_add, Option.bind_some, List.map_nil, fEnv]
  cases x1 <;> cases x2 <;> cases e <;> first | exact h1 rfl | exact h2 rfl
theorem fd_ok (hL : L.length ≤ 4) (gA : Good L A E) (gB : Good L B F) (x : Exn → Prop) (Q : T → Prop) (hQ : Q (.d (resD (run L A E B F e ((A.length + 1) * (B.length + 1)) 0 [(0, 0)] [([], 0, 0)])))) :
    f_first_difference [.d (.ins "Machine" (mach L A E)), .d (.ins "Machine" (mach L B F)), .d (.bl e)] x Q := by
  obtain ⟨res, hr0⟩ : ∃ res, res = run L A E B F e ((A.length + 1) * (B.length + 1)) 0 [(0, 0)] [([], 0, 0)] := ⟨_, rfl⟩
  rw [← hr0] at hQ
  have nA := gA.ne
  have nB := gB.ne
  have zA := gA.sz
  have zB := gB.sz
  have hN : (A.length + 1) * (B.length + 1) < SZ := Nat.lt_of_le_of_lt (Nat.mul_le_mul (show A.length + 1 ≤ 129 by omega) (show B.length + 1 ≤ 129 by omega)) (by decide)
  unfold f_first_difference d_first_difference f_check_same_letters d_check_same_letters
  simp only [↓semOf, ↓toB, ↓sNext, ↓sSeq, ↓sSet, ↓sIf, ↓sRet, ↓sRetN, ↓sPart, ↓sExpr, ↓sBreak, ↓sCont, ↓tAnd, ↓tOr, ↓tNot, ↓tB, ↓dBin, ↓dUn, ↓dVar, ↓dC, ↓dIf, ↓dAnd, ↓dOr, ↓dNot, ↓dCall, ↓dNext, ↓look, ↓esc, ↓Y.bind, ↓arg, ↓iv, ↓bv, ↓sv, ↓oAdd, ↓oSub, ↓oMul, ↓oDiv, ↓oMod, ↓oPow, ↓oNeg, ↓oEq, ↓oNe, ↓oLt, ↓oLe, ↓oGt, ↓oGe, ↓oLen, ↓oIx, ↓oInt, ↓dLst, ↓dTup, ↓aNil, ↓aCons, ↓datas, ↓dStC, ↓dStI, ↓sStPut, ↓scalD, ↓D.eqv, ↓MO.data, ↓oIsN, ↓oNotN, ↓isN, ↓oTuple, ↓oIn, ↓oAbs, ↓dFld, ↓sFld, ↓initOf, ↓dMake, ↓dLc, ↓iOf, ↓items, ↓iEnum, ↓iRange1, ↓sFor, ↓gName, ↓gTup, ↓gTup.go, ↓sRaise0, ↓isTup, ↓sAppend, ↓sStore, ↓sAugAdd, ↓dNewT, ↓dDispT, ↓sDput, ↓putAtM, ↓oDin, ↓oDix, ↓atD, ↓toKeys, ↓toKey, ↓sFrz, ↓oIsi, ↓tyName, ↓isiB, ↓dIndexL, ↓dRowsLen, ↓dRowsIx, ↓dRowsCopy, ↓sRowsPut, ↓sRowsApp, ↓sRows1, ↓sRowsLc, ↓sFrz, ↓sRowsFix, ↓isRows, List.map_cons, List.map_nil, List.length_cons, List.length_nil, List.replicate, List.cons_append, List.nil_append, List.getElem?_cons_zero, List.getElem?_cons_succ, List.set_cons_zero, List.set_cons_succ, Option.map_some, T.d.injEq, D.bl.injEq, D.int.injEq, Option.some.injEq, exists_eq_left', exists_eq_left, exists_eq_right, true_and, and_true, true_or, or_true, decide_eq_true_eq, if_true, if_false, reduceIte, Nat.reduceAdd, Nat.reduceSub, Nat.zero_add, Option.bind_some, List.map_nil, mach]
  refine ⟨by decide, _, rfl, by decide, _, rfl, ?_⟩
  simp only [↓semOf, ↓toB, ↓sNext, ↓sSeq, ↓sSet, ↓sIf, ↓sRet, ↓sRetN, ↓sPart, ↓sExpr, ↓sBreak, ↓sCont, ↓tAnd, ↓tOr, ↓tNot, ↓tB, ↓dBin, ↓dUn, ↓dVar, ↓dC, ↓dIf, ↓dAnd, ↓dOr, ↓dNot, ↓dCall, ↓dNext, ↓look, ↓esc, ↓Y.bind, ↓arg, ↓iv, ↓bv, ↓sv, ↓oAdd, ↓oSub, ↓oMul, ↓oDiv, ↓oMod, ↓oPow, ↓oNeg, ↓oEq, ↓oNe, ↓oLt, ↓oLe, ↓oGt, ↓oGe, ↓oLen, ↓oIx, ↓oInt, ↓dLst, ↓dTup, ↓aNil, ↓aCons, ↓datas, ↓dStC, ↓dStI, ↓sStPut, ↓scalD, ↓D.eqv, ↓MO.data, ↓oIsN, ↓oNotN, ↓isN, ↓oTuple, ↓oIn, ↓oAbs, ↓dFld, ↓sFld, ↓initOf, ↓dMake, ↓dLc, ↓iOf, ↓items, ↓iEnum, ↓iRange1, ↓sFor, ↓gName, ↓gTup, ↓gTup.go, ↓sRaise0, ↓isTup, ↓sAppend, ↓sStore, ↓sAugAdd, ↓dNewT, ↓dDispT, ↓sDput, ↓putAtM, ↓oDin, ↓oDix, ↓atD, ↓toKeys, ↓toKey, ↓sFrz, ↓oIsi, ↓tyName, ↓isiB, ↓dIndexL, ↓dRowsLen, ↓dRowsIx, ↓dRowsCopy, ↓sRowsPut, ↓sRowsApp, ↓sRows1, ↓sRowsLc, ↓sFrz, ↓sRowsFix, ↓isRows, List.map_cons, List.map_nil, List.length_cons, List.length_nil, List.replicate, List.cons_append, List.nil_append, List.getElem?_cons_zero, List.getElem?_cons_succ, List.set_cons_zero, List.set_cons_succ, Option.map_some, T.d.injEq, D.bl.injEq, D.int.injEq, Option.some.injEq, exists_eq_left', exists_eq_left, exists_eq_right, true_and, and_true, true_or, or_true, decide_eq_true_eq, if_true, if_false, reduceIte, Nat.reduceAdd, Nat.reduceSub, Nat.zero_add, Option.bind_some, List.map_nil, beq_self_eq_true, Bool.not_true, Bool.false_eq_true, if_false]
  refine ⟨by decide, by decide, by decide, ?_⟩
  unfold d_first_difference_4
  unfold sWhile
  refine ⟨fun k ρ => ∃ (t : Nat) (s : Seen) (q : List Item) (b6 b7 b8 b9 b10 b11 b12 b13 : Option Y.B), ρ = fEnv L A E B F e s q t b6 b7 b8 b9 b10 b11 b12 b13 ∧ Inv A.length B.length s q ∧ t ≤ q.length ∧ k = (A.length + 1) * (B.length + 1) - t ∧
    run L A E B F e ((A.length + 1) * (B.length + 1) - t) t s q = res, ⟨_, 0, [(0, 0)], [([], 0, 0)], none, none, none, none, none, none, none, none, rfl, ?_, Nat.zero_le _, rfl, hr0.symm⟩, ?_⟩
  · refine ⟨by simp, fun p hp => ?_, rfl, fun i it hi => ?_⟩
    · simp at hp; subst hp; simp; omega
    · cases i with
      | zero => cases hi; simp
      | succ i => simp at hi
  · rintro k ρ ⟨t, s, q, b6, b7, b8, b9, b10, b11, b12, b13, rfl, I, ht, rfl, hrun⟩
    have hlen := I.len
    simp only [↓semOf, ↓toB, ↓sNext, ↓sSeq, ↓sSet, ↓sIf, ↓sRet, ↓sRetN, ↓sPart, ↓sExpr, ↓sBreak, ↓sCont, ↓tAnd, ↓tOr, ↓tNot, ↓tB, ↓dBin, ↓dUn, ↓dVar, ↓dC, ↓dIf, ↓dAnd, ↓dOr, ↓dNot, ↓dCall, ↓dNext, ↓look, ↓esc, ↓Y.bind, ↓arg, ↓iv, ↓bv, ↓sv, ↓oAdd, ↓oSub, ↓oMul, ↓oDiv, ↓oMod, ↓oPow, ↓oNeg, ↓oEq, ↓oNe, ↓oLt, ↓oLe, ↓oGt, ↓oGe, ↓oLen, ↓oIx, ↓oInt, ↓dLst, ↓dTup, ↓aNil, ↓aCons, ↓datas, ↓dStC, ↓dStI, ↓sStPut, ↓scalD, ↓D.eqv, ↓MO.data, ↓oIsN, ↓oNotN, ↓isN, ↓oTuple, ↓oIn, ↓oAbs, ↓dFld, ↓sFld, ↓initOf, ↓dMake, ↓dLc, ↓iOf, ↓items, ↓iEnum, ↓iRange1, ↓sFor, ↓gName, ↓gTup, ↓gTup.go, ↓sRaise0, ↓isTup, ↓sAppend, ↓sStore, ↓sAugAdd, ↓dNewT, ↓dDispT, ↓sDput, ↓putAtM, ↓oDin, ↓oDix, ↓atD, ↓toKeys, ↓toKey, ↓sFrz, ↓oIsi, ↓tyName, ↓isiB, ↓dIndexL, ↓dRowsLen, ↓dRowsIx, ↓dRowsCopy, ↓sRowsPut, ↓sRowsApp, ↓sRows1, ↓sRowsLc, ↓sFrz, ↓sRowsFix, ↓isRows, List.map_cons, List.map_nil, List.length_cons, List.length_nil, List.replicate, List.cons_append, List.nil_append, List.getElem?_cons_zero, List.getElem?_cons_succ, List.set_cons_zero, List.set_cons_succ, Option.map_some, T.d.injEq, D.bl.injEq, D.int.injEq, Option.some.injEq, exists_eq_left', exists_eq_left, exists_eq_right, true_and, and_true, true_or, or_true, decide_eq_true_eq, if_true, if_false, reduceIte, Nat.reduceAdd, Nat.reduceSub, Nat.zero_add, Option.bind_some, List.map_nil, fEnv, List.length_map]
    by_cases hc : t < q.length
    · rw [if_pos (by omega)]
      obtain ⟨f, hf⟩ : ∃ f, (A.length + 1) * (B.length + 1) - t = f + 1 := ⟨(A.length + 1) * (B.length + 1) - t - 1, by omega⟩
      rw [hf] at hrun
      obtain ⟨⟨w, l, r⟩, hq⟩ : ∃ it, q[t]? = some it := ⟨_, List.getElem?_eq_getElem hc⟩
      have hwl := I.wl t _ hq
      have hbx : (-1 ≤ l ∧ l < A.length) ∧ (-1 ≤ r ∧ r < B.length) := I.bx (l, r) (by
        rw [← I.eq]
        exact List.mem_map.mpr ⟨_, List.mem_of_getElem? hq, rfl⟩)
      unfold run at hrun
      simp only [hq] at hrun
      have hwl : w.length ≤ t := hwl
      refine ⟨t, itemD (w, l, r), ixOf_nat hc, by rw [List.getElem?_map, hq]; rfl, ?_⟩
      simp only [↓semOf, ↓toB, ↓sNext, ↓sSeq, ↓sSet, ↓sIf, ↓sRet, ↓sRetN, ↓sPart, ↓sExpr, ↓sBreak, ↓sCont, ↓tAnd, ↓tOr, ↓tNot, ↓tB, ↓dBin, ↓dUn, ↓dVar, ↓dC, ↓dIf, ↓dAnd, ↓dOr, ↓dNot, ↓dCall, ↓dNext, ↓look, ↓esc, ↓Y.bind, ↓arg, ↓iv, ↓bv, ↓sv, ↓oAdd, ↓oSub, ↓oMul, ↓oDiv, ↓oMod, ↓oPow, ↓oNeg, ↓oEq, ↓oNe, ↓oLt, ↓oLe, ↓oGt, ↓oGe, ↓oLen, ↓oIx, ↓oInt, ↓dLst, ↓dTup, ↓aNil, ↓aCons, ↓datas, ↓dStC, ↓dStI, ↓sStPut, ↓scalD, ↓D.eqv, ↓MO.data, ↓oIsN, ↓oNotN, ↓isN, ↓oTuple, ↓oIn, ↓oAbs, ↓dFld, ↓sFld, ↓initOf, ↓dMake, ↓dLc, ↓iOf, ↓items, ↓iEnum, ↓iRange1, ↓sFor, ↓gName, ↓gTup, ↓gTup.go, ↓sRaise0, ↓isTup, ↓sAppend, ↓sStore, ↓sAugAdd, ↓dNewT, ↓dDispT, ↓sDput, ↓putAtM, ↓oDin, ↓oDix, ↓atD, ↓toKeys, ↓toKey, ↓sFrz, ↓oIsi, ↓tyName, ↓isiB, ↓dIndexL, ↓dRowsLen, ↓dRowsIx, ↓dRowsCopy, ↓sRowsPut, ↓sRowsApp, ↓sRows1, ↓sRowsLc, ↓sFrz, ↓sRowsFix, ↓isRows, List.map_cons, List.map_nil, List.length_cons, List.length_nil, List.replicate, List.cons_append, List.nil_append, List.getElem?_cons_zero, List.getElem?_cons_succ, List.set_cons_zero, List.set_cons_succ, Option.map_some, T.d.injEq, D.bl.injEq, D.int.injEq, Option.some.injEq, exists_eq_left', exists_eq_left, exists_eq_right, true_and, and_true, true_or, or_true, decide_eq_true_eq, if_true, if_false, reduceIte, Nat.reduceAdd, Nat.reduceSub, Nat.zero_add, Option.bind_some, List.map_nil, itemD]
      refine ⟨t, rfl, by decide, _, rfl, ?_⟩
      simp only [↓semOf, ↓toB, ↓sNext, ↓sSeq, ↓sSet, ↓sIf, ↓sRet, ↓sRetN, ↓sPart, ↓sExpr, ↓sBreak, ↓sCont, ↓tAnd, ↓tOr, ↓tNot, ↓tB, ↓dBin, ↓dUn, ↓dVar, ↓dC, ↓dIf, ↓dAnd, ↓dOr, ↓dNot, ↓dCall, ↓dNext, ↓look, ↓esc, ↓Y.bind, ↓arg, ↓iv, ↓bv, ↓sv, ↓oAdd, ↓oSub, ↓oMul, ↓oDiv, ↓oMod, ↓oPow, ↓oNeg, ↓oEq, ↓oNe, ↓oLt, ↓oLe, ↓oGt, ↓oGe, ↓oLen, ↓oIx, ↓oInt, ↓dLst, ↓dTup, ↓aNil, ↓aCons, ↓datas, ↓dStC, ↓dStI, ↓sStPut, ↓scalD, ↓D.eqv, ↓MO.data, ↓oIsN, ↓oNotN, ↓isN, ↓oTuple, ↓oIn, ↓oAbs, ↓dFld, ↓sFld, ↓initOf, ↓dMake, ↓dLc, ↓iOf, ↓items, ↓iEnum, ↓iRange1, ↓sFor, ↓gName, ↓gTup, ↓gTup.go, ↓sRaise0, ↓isTup, ↓sAppend, ↓sStore, ↓sAugAdd, ↓dNewT, ↓dDispT, ↓sDput, ↓putAtM, ↓oDin, ↓oDix, ↓atD, ↓toKeys, ↓toKey, ↓sFrz, ↓oIsi, ↓tyName, ↓isiB, ↓dIndexL, ↓dRowsLen, ↓dRowsIx, ↓dRowsCopy, ↓sRowsPut, ↓sRowsApp, ↓sRows1, ↓sRowsLc, ↓sFrz, ↓sRowsFix, ↓isRows, List.map_cons, List.map_nil, List.length_cons, List.length_nil, List.replicate, List.cons_append, List.nil_append, List.getElem?_cons_zero, List.getElem?_cons_succ, List.set_cons_zero, List.set_cons_succ, Option.map_some, T.d.injEq, D.bl.injEq, D.int.injEq, Option.some.injEq, exists_eq_left', exists_eq_left, exists_eq_right, true_and, and_true, true_or, or_true, decide_eq_true_eq, if_true, if_false, reduceIte, Nat.reduceAdd, Nat.reduceSub, Nat.zero_add, Option.bind_some, List.map_nil]
      refine ⟨⟨rfl, flat_ints E⟩, by decide, _, rfl, ?_⟩
      simp only [↓semOf, ↓toB, ↓sNext, ↓sSeq, ↓sSet, ↓sIf, ↓sRet, ↓sRetN, ↓sPart, ↓sExpr, ↓sBreak, ↓sCont, ↓tAnd, ↓tOr, ↓tNot, ↓tB, ↓dBin, ↓dUn, ↓dVar, ↓dC, ↓dIf, ↓dAnd, ↓dOr, ↓dNot, ↓dCall, ↓dNext, ↓look, ↓esc, ↓Y.bind, ↓arg, ↓iv, ↓bv, ↓sv, ↓oAdd, ↓oSub, ↓oMul, ↓oDiv, ↓oMod, ↓oPow, ↓oNeg, ↓oEq, ↓oNe, ↓oLt, ↓oLe, ↓oGt, ↓oGe, ↓oLen, ↓oIx, ↓oInt, ↓dLst, ↓dTup, ↓aNil, ↓aCons, ↓datas, ↓dStC, ↓dStI, ↓sStPut, ↓scalD, ↓D.eqv, ↓MO.data, ↓oIsN, ↓oNotN, ↓isN, ↓oTuple, ↓oIn, ↓oAbs, ↓dFld, ↓sFld, ↓initOf, ↓dMake, ↓dLc, ↓iOf, ↓items, ↓iEnum, ↓iRange1, ↓sFor, ↓gName, ↓gTup, ↓gTup.go, ↓sRaise0, ↓isTup, ↓sAppend, ↓sStore, ↓sAugAdd, ↓dNewT, ↓dDispT, ↓sDput, ↓putAtM, ↓oDin, ↓oDix, ↓atD, ↓toKeys, ↓toKey, ↓sFrz, ↓oIsi, ↓tyName, ↓isiB, ↓dIndexL, ↓dRowsLen, ↓dRowsIx, ↓dRowsCopy, ↓sRowsPut, ↓sRowsApp, ↓sRows1, ↓sRowsLc, ↓sFrz, ↓sRowsFix, ↓isRows, List.map_cons, List.map_nil, List.length_cons, List.length_nil, List.replicate, List.cons_append, List.nil_append, List.getElem?_cons_zero, List.getElem?_cons_succ, List.set_cons_zero, List.set_cons_succ, Option.map_some, T.d.injEq, D.bl.injEq, D.int.injEq, Option.some.injEq, exists_eq_left', exists_eq_left, exists_eq_right, true_and, and_true, true_or, or_true, decide_eq_true_eq, if_true, if_false, reduceIte, Nat.reduceAdd, Nat.reduceSub, Nat.zero_add, Option.bind_some, List.map_nil, any_int, Bool.false_xor]
      refine ⟨⟨rfl, flat_ints F⟩, ?_⟩
      refine fd3 _ _ _ (fun hh => ?_) (fun hh => ?_)
      · rw [if_pos hh] at hrun
        rw [← hrun] at hQ
        exact hQ
      · rw [if_neg (by rw [hh]; exact Bool.false_ne_true)] at hrun
        refine fd2 gA gB hL hbx.1.2 hbx.2.2 I (by omega) hN _ _ _ _ _ fun b11 b12 b13 => ?_
        have h4 := Inv.expand gA gB (w := w) hbx.1.2 hbx.2.2 L.length 0 s q (by omega) I (by omega)
        refine ⟨(A.length + 1) * (B.length + 1) - (t + 1), by omega, t + 1, _, _, _, _, _, _, _, _, _, _, rfl, h4.1, by omega, rfl, ?_⟩
        have : (A.length + 1) * (B.length + 1) - (t + 1) = f := by omega
        rw [this]
        exact hrun
    · rw [if_neg (by omega)]
      have hres : resD res = .non := by
        rw [← hrun]
        cases (A.length + 1) * (B.length + 1) - t with
        | zero => rfl
        | succ f =>
          unfold run
          rw [List.getElem?_eq_none (by omega)]
          rfl
      rw [hres] at hQ
      exact hQ
end
end Z

namespace Z
open Y
section
variable {L : Tx} {A B : List Row} {E F : List Int} {e : Bool} {Z0 : DEnds}
abbrev lEnv (L : Tx) (A : List Row) (E : List Int) (B : List Row) (F : List Int) (e : Bool) (s : Seen) (q : List Item) (b6 b7 b8 b9 b10 b11 b12 b13 : Option Y.B) : En :=
  [some (.d (.str L)), some (.d (pairD A E)), some (.d (pairD B F)), some (.d (.bl e)), some (.own (.lst (q.map itemD))), some (.own (.dit (seenM s))), b6, b7, b8, b9, b10, b11, b12, b13]
theorem lf1 (gA : Good L A E) (gB : Good L B F) (hl4 : L.length ≤ 4) {w : Tx} {l r : Int} {i : Nat} {s : Seen} {q : List Item} (hi : i < L.length) (hw : w.length < SZ) (hq : q.length < SZ) (hs : s.length < SZ) (b6 b10 b11 : Option Y.B)
    (h : Z0.nx (lEnv L A E B F e (exp1 A B L w l r (s, q) i).1 (exp1 A B L w l r (s, q) i).2 b6 (some (.d (.str w))) (some (.d (.int l))) (some (.d (.int r))) b10 b11 (some (.d (.int i))) (some (.d (.tup [.int (stp A l i), .int (stp B r i)]))))) :
    d__law_first_1 Z0 (lEnv L A E B F e s q b6 (some (.d (.str w))) (some (.d (.int l))) (some (.d (.int r))) b10 b11 (some (.d (.int i))) (some (.d (.tup [.int (stp A l i), .int (stp B r i)])))) := by
  have hk : ([.inl (stp A l i), .inl (stp B r i)] : List DK) = pk (stp A l i, stp B r i) := rfl
  have hLS : L.length ≤ SZ := Nat.le_trans hl4 (by decide)
  unfold d__law_first_1
  simp only [↓semOf, ↓toB, ↓sNext, ↓sSeq, ↓sSet, ↓sIf, ↓sRet, ↓sRetN, ↓sPart, ↓sExpr, ↓sBreak, ↓sCont, ↓tAnd, ↓tOr, ↓tNot, ↓tB, ↓dBin, ↓dUn, ↓dVar, ↓dC, ↓dIf, ↓dAnd, ↓dOr, ↓dNot, ↓dCall, ↓dNext, ↓look, ↓esc, ↓Y.bind, ↓arg, ↓iv, ↓bv, ↓sv, ↓oAdd, ↓oSub, ↓oMul, ↓oDiv, ↓oMod, ↓oPow, ↓oNeg, ↓oEq, ↓oNe, ↓oLt, ↓oLe, ↓oGt, ↓oGe, ↓oLen, ↓oIx, ↓oInt, ↓dLst, ↓dTup, ↓aNil, ↓aCons, ↓datas, ↓dStC, ↓dStI, ↓sStPut, ↓scalD, ↓D.eqv, ↓MO.data, ↓oIsN, ↓oNotN, ↓isN, ↓oTuple, ↓oIn, ↓oAbs, ↓dFld, ↓sFld, ↓initOf, ↓dMake, ↓dLc, ↓iOf, ↓items, ↓iEnum, ↓iRange1, ↓sFor, ↓gName, ↓gTup, ↓gTup.go, ↓sRaise0, ↓isTup, ↓sAppend, ↓sStore, ↓sAugAdd, ↓dNewT, ↓dDispT, ↓sDput, ↓putAtM, ↓oDin, ↓oDix, ↓atD, ↓toKeys, ↓toKey, ↓sFrz, ↓oIsi, ↓tyName, ↓isiB, ↓dIndexL, ↓dRowsLen, ↓dRowsIx, ↓dRowsCopy, ↓sRowsPut, ↓sRowsApp, ↓sRows1, ↓sRowsLc, ↓sFrz, ↓sRowsFix, ↓isRows, List.map_cons, List.map_nil, List.length_cons, List.length_nil, List.replicate, List.cons_append, List.nil_append, List.getElem?_cons_zero, List.getElem?_cons_succ, List.set_cons_zero, List.set_cons_succ, Option.map_some, T.d.injEq, D.bl.injEq, D.int.injEq, Option.some.injEq, exists_eq_left', exists_eq_left, exists_eq_right, true_and, and_true, true_or, or_true, decide_eq_true_eq, if_true, if_false, reduceIte, Nat.reduceAdd, Nat.reduceSub, Nat.zero_add, Option.bind_some, List.map_nil, lEnv, hk, getK_seen]
  by_cases hm : (stp A l i, stp B r i) ∈ s
  · rw [if_neg (by simp [hm])]
    unfold exp1 at h
    rw [if_pos hm] at h
    exact h
  · rw [if_pos (by simp [hm])]
    unfold exp1 at h
    rw [if_neg hm] at h
    simp only [↓semOf, ↓toB, ↓sNext, ↓sSeq, ↓sSet, ↓sIf, ↓sRet, ↓sRetN, ↓sPart, ↓sExpr, ↓sBreak, ↓sCont, ↓tAnd, ↓tOr, ↓tNot, ↓tB, ↓dBin, ↓dUn, ↓dVar, ↓dC, ↓dIf, ↓dAnd, ↓dOr, ↓dNot, ↓dCall, ↓dNext, ↓look, ↓esc, ↓Y.bind, ↓arg, ↓iv, ↓bv, ↓sv, ↓oAdd, ↓oSub, ↓oMul, ↓oDiv, ↓oMod, ↓oPow, ↓oNeg, ↓oEq, ↓oNe, ↓oLt, ↓oLe, ↓oGt, ↓oGe, ↓oLen, ↓oIx, ↓oInt, ↓dLst, ↓dTup, ↓aNil, ↓aCons, ↓datas, ↓dStC, ↓dStI, ↓sStPut, ↓scalD, ↓D.eqv, ↓MO.data, ↓oIsN, ↓oNotN, ↓isN, ↓oTuple, ↓oIn, ↓oAbs, ↓dFld, ↓sFld, ↓initOf, ↓dMake, ↓dLc, ↓iOf, ↓items, ↓iEnum, ↓iRange1, ↓sFor, ↓gName, ↓gTup, ↓gTup.go, ↓sRaise0, ↓isTup, ↓sAppend, ↓sStore, ↓sAugAdd, ↓dNewT, ↓dDispT, ↓sDput, ↓putAtM, ↓oDin, ↓oDix, ↓atD, ↓toKeys, ↓toKey, ↓sFrz, ↓oIsi, ↓tyName, ↓isiB, ↓dIndexL, ↓dRowsLen, ↓dRowsIx, ↓dRowsCopy, ↓sRowsPut, ↓sRowsApp, ↓sRows1, ↓sRowsLc, ↓sFrz, ↓sRowsFix, ↓isRows, List.map_cons, List.map_nil, List.length_cons, List.length_nil, List.replicate, List.cons_append, List.nil_append, List.getElem?_cons_zero, List.getElem?_cons_succ, List.set_cons_zero, List.set_cons_succ, Option.map_some, T.d.injEq, D.bl.injEq, D.int.injEq, Option.some.injEq, exists_eq_left', exists_eq_left, exists_eq_right, true_and, and_true, true_or, or_true, decide_eq_true_eq, if_true, if_false, reduceIte, Nat.reduceAdd, Nat.reduceSub, Nat.zero_add, Option.bind_some, List.map_nil, hk, setK_seen hm, List.length_map]
    refine ⟨⟨_, rfl⟩, by simpa [seenM] using hs, ⟨_, rfl⟩, hLS, i, L.getD i 0, ixOf_nat hi, ?_, ?_⟩
    · rw [List.getElem?_eq_getElem hi, List.getD_eq_getElem?_getD, List.getElem?_eq_getElem hi]; rfl
    refine ⟨hw, 0, _, rfl, rfl, 1, _, rfl, rfl, by decide, hq, ?_⟩
    refine cast ?_ h
    simp [lEnv, itemD]
theorem lf2 (gA : Good L A E) (gB : Good L B F) (hl4 : L.length ≤ 4) {w : Tx} {l r : Int} {s : Seen} {q : List Item} (hl : l < A.length) (hr : r < B.length) (I : Inv A.length B.length s q) (hw : w.length + 1 ≤ q.length) (hN : (A.length + 1) * (B.length + 1) < SZ) (b6 b10 b11 b12 b13 : Option Y.B)
    (h : ∀ (b12 b13 : Option Y.B), Z0.nx (lEnv L A E B F e ((List.range' 0 L.length).foldl (exp1 A B L w l r) (s, q)).1 ((List.range' 0 L.length).foldl (exp1 A B L w l r) (s, q)).2 b6 (some (.d (.str w))) (some (.d (.int l))) (some (.d (.int r))) b10 b11 b12 b13)) :
    d__law_first_2 Z0 (lEnv L A E B F e s q b6 (some (.d (.str w))) (some (.d (.int l))) (some (.d (.int r))) b10 b11 b12 b13) := by
  have hLS : L.length ≤ SZ := Nat.le_trans hl4 (by decide)
  unfold d__law_first_2
  simp only [↓semOf, ↓toB, ↓sNext, ↓sSeq, ↓sSet, ↓sIf, ↓sRet, ↓sRetN, ↓sPart, ↓sExpr, ↓sBreak, ↓sCont, ↓tAnd, ↓tOr, ↓tNot, ↓tB, ↓dBin, ↓dUn, ↓dVar, ↓dC, ↓dIf, ↓dAnd, ↓dOr, ↓dNot, ↓dCall, ↓dNext, ↓look, ↓esc, ↓Y.bind, ↓arg, ↓iv, ↓bv, ↓sv, ↓oAdd, ↓oSub, ↓oMul, ↓oDiv, ↓oMod, ↓oPow, ↓oNeg, ↓oEq, ↓oNe, ↓oLt, ↓oLe, ↓oGt, ↓oGe, ↓oLen, ↓oIx, ↓oInt, ↓dLst, ↓dTup, ↓aNil, ↓aCons, ↓datas, ↓dStC, ↓dStI, ↓sStPut, ↓scalD, ↓D.eqv, ↓MO.data, ↓oIsN, ↓oNotN, ↓isN, ↓oTuple, ↓oIn, ↓oAbs, ↓dFld, ↓sFld, ↓initOf, ↓dMake, ↓dLc, ↓iOf, ↓items, ↓iEnum, ↓iRange1, ↓sFor, ↓gName, ↓gTup, ↓gTup.go, ↓sRaise0, ↓isTup, ↓sAppend, ↓sStore, ↓sAugAdd, ↓dNewT, ↓dDispT, ↓sDput, ↓putAtM, ↓oDin, ↓oDix, ↓atD, ↓toKeys, ↓toKey, ↓sFrz, ↓oIsi, ↓tyName, ↓isiB, ↓dIndexL, ↓dRowsLen, ↓dRowsIx, ↓dRowsCopy, ↓sRowsPut, ↓sRowsApp, ↓sRows1, ↓sRowsLc, ↓sFrz, ↓sRowsFix, ↓isRows, List.map_cons, List.map_nil, List.length_cons, List.length_nil, List.replicate, List.cons_append, List.nil_append, List.getElem?_cons_zero, List.getElem?_cons_succ, List.set_cons_zero, List.set_cons_succ, Option.map_some, T.d.injEq, D.bl.injEq, D.int.injEq, Option.some.injEq, exists_eq_left', exists_eq_left, exists_eq_right, true_and, and_true, true_or, or_true, decide_eq_true_eq, if_true, if_false, reduceIte, Nat.reduceAdd, Nat.reduceSub, Nat.zero_add, Option.bind_some, List.map_nil, lEnv]
  refine ⟨hLS, by omega, ?_⟩
  rw [show ((L.length : Int)).toNat = L.length by simp, upTo_range]
  refine forL_inv (I := fun xs ρ => ∃ (j m : Nat) (s' : Seen) (q' : List Item) (b12 b13 : Option Y.B), j + m = L.length ∧ xs = (List.range' j m).map (fun i : Nat => D.int i) ∧ Inv A.length B.length s' q' ∧ q.length ≤ q'.length ∧
      (List.range' j m).foldl (exp1 A B L w l r) (s', q') = (List.range' 0 L.length).foldl (exp1 A B L w l r) (s, q) ∧ ρ = lEnv L A E B F e s' q' b6 (some (.d (.str w))) (some (.d (.int l))) (some (.d (.int r))) b10 b11 b12 b13) (fun x xs ρ h' k hk => ?_) (fun ρ h' => ?_) _ _ ⟨0, L.length, s, q, b12, b13, by omega, rfl, I, Nat.le_refl _, rfl, rfl⟩
  · obtain ⟨j, m, s', q', b12, b13, h1, h2, I', hqq, h3, rfl⟩ := h'
    cases m with
    | zero => cases h2
    | succ m =>
      rw [List.range'_succ, List.map_cons] at h2
      cases h2
      rw [List.range'_succ, List.foldl_cons] at h3
      have hlen := I'.len
      have hls : s'.length = q'.length := by rw [← I'.eq, List.length_map]
      simp only [↓semOf, ↓toB, ↓sNext, ↓sSeq, ↓sSet, ↓sIf, ↓sRet, ↓sRetN, ↓sPart, ↓sExpr, ↓sBreak, ↓sCont, ↓tAnd, ↓tOr, ↓tNot, ↓tB, ↓dBin, ↓dUn, ↓dVar, ↓dC, ↓dIf, ↓dAnd, ↓dOr, ↓dNot, ↓dCall, ↓dNext, ↓look, ↓esc, ↓Y.bind, ↓arg, ↓iv, ↓bv, ↓sv, ↓oAdd, ↓oSub, ↓oMul, ↓oDiv, ↓oMod, ↓oPow, ↓oNeg, ↓oEq, ↓oNe, ↓oLt, ↓oLe, ↓oGt, ↓oGe, ↓oLen, ↓oIx, ↓oInt, ↓dLst, ↓dTup, ↓aNil, ↓aCons, ↓datas, ↓dStC, ↓dStI, ↓sStPut, ↓scalD, ↓D.eqv, ↓MO.data, ↓oIsN, ↓oNotN, ↓isN, ↓oTuple, ↓oIn, ↓oAbs, ↓dFld, ↓sFld, ↓initOf, ↓dMake, ↓dLc, ↓iOf, ↓items, ↓iEnum, ↓iRange1, ↓sFor, ↓gName, ↓gTup, ↓gTup.go, ↓sRaise0, ↓isTup, ↓sAppend, ↓sStore, ↓sAugAdd, ↓dNewT, ↓dDispT, ↓sDput, ↓putAtM, ↓oDin, ↓oDix, ↓atD, ↓toKeys, ↓toKey, ↓sFrz, ↓oIsi, ↓tyName, ↓isiB, ↓dIndexL, ↓dRowsLen, ↓dRowsIx, ↓dRowsCopy, ↓sRowsPut, ↓sRowsApp, ↓sRows1, ↓sRowsLc, ↓sFrz, ↓sRowsFix, ↓isRows, List.map_cons, List.map_nil, List.length_cons, List.length_nil, List.replicate, List.cons_append, List.nil_append, List.getElem?_cons_zero, List.getElem?_cons_succ, List.set_cons_zero, List.set_cons_succ, Option.map_some, T.d.injEq, D.bl.injEq, D.int.injEq, Option.some.injEq, exists_eq_left', exists_eq_left, exists_eq_right, true_and, and_true, true_or, or_true, decide_eq_true_eq, if_true, if_false, reduceIte, Nat.reduceAdd, Nat.reduceSub, Nat.zero_add, Option.bind_some, List.map_nil, lEnv, pairD]
      refine ⟨0, _, rfl, rfl, ?_⟩
      refine lstep_ok gA hl (by omega) (by omega) _ _ ?_
      simp only [↓semOf, ↓toB, ↓sNext, ↓sSeq, ↓sSet, ↓sIf, ↓sRet, ↓sRetN, ↓sPart, ↓sExpr, ↓sBreak, ↓sCont, ↓tAnd, ↓tOr, ↓tNot, ↓tB, ↓dBin, ↓dUn, ↓dVar, ↓dC, ↓dIf, ↓dAnd, ↓dOr, ↓dNot, ↓dCall, ↓dNext, ↓look, ↓esc, ↓Y.bind, ↓arg, ↓iv, ↓bv, ↓sv, ↓oAdd, ↓oSub, ↓oMul, ↓oDiv, ↓oMod, ↓oPow, ↓oNeg, ↓oEq, ↓oNe, ↓oLt, ↓oLe, ↓oGt, ↓oGe, ↓oLen, ↓oIx, ↓oInt, ↓dLst, ↓dTup, ↓aNil, ↓aCons, ↓datas, ↓dStC, ↓dStI, ↓sStPut, ↓scalD, ↓D.eqv, ↓MO.data, ↓oIsN, ↓oNotN, ↓isN, ↓oTuple, ↓oIn, ↓oAbs, ↓dFld, ↓sFld, ↓initOf, ↓dMake, ↓dLc, ↓iOf, ↓items, ↓iEnum, ↓iRange1, ↓sFor, ↓gName, ↓gTup, ↓gTup.go, ↓sRaise0, ↓isTup, ↓sAppend, ↓sStore, ↓sAugAdd, ↓dNewT, ↓dDispT, ↓sDput, ↓putAtM, ↓oDin, ↓oDix, ↓atD, ↓toKeys, ↓toKey, ↓sFrz, ↓oIsi, ↓tyName, ↓isiB, ↓dIndexL, ↓dRowsLen, ↓dRowsIx, ↓dRowsCopy, ↓sRowsPut, ↓sRowsApp, ↓sRows1, ↓sRowsLc, ↓sFrz, ↓sRowsFix, ↓isRows, List.map_cons, List.map_nil, List.length_cons, List.length_nil, List.replicate, List.cons_append, List.nil_append, List.getElem?_cons_zero, List.getElem?_cons_succ, List.set_cons_zero, List.set_cons_succ, Option.map_some, T.d.injEq, D.bl.injEq, D.int.injEq, Option.some.injEq, exists_eq_left', exists_eq_left, exists_eq_right, true_and, and_true, true_or, or_true, decide_eq_true_eq, if_true, if_false, reduceIte, Nat.reduceAdd, Nat.reduceSub, Nat.zero_add, Option.bind_some, List.map_nil]
      refine ⟨0, _, rfl, rfl, ?_⟩
      refine lstep_ok gB hr (by omega) (by omega) _ _ ?_
      simp only [↓semOf, ↓toB, ↓sNext, ↓sSeq, ↓sSet, ↓sIf, ↓sRet, ↓sRetN, ↓sPart, ↓sExpr, ↓sBreak, ↓sCont, ↓tAnd, ↓tOr, ↓tNot, ↓tB, ↓dBin, ↓dUn, ↓dVar, ↓dC, ↓dIf, ↓dAnd, ↓dOr, ↓dNot, ↓dCall, ↓dNext, ↓look, ↓esc, ↓Y.bind, ↓arg, ↓iv, ↓bv, ↓sv, ↓oAdd, ↓oSub, ↓oMul, ↓oDiv, ↓oMod, ↓oPow, ↓oNeg, ↓oEq, ↓oNe, ↓oLt, ↓oLe, ↓oGt, ↓oGe, ↓oLen, ↓oIx, ↓oInt, ↓dLst, ↓dTup, ↓aNil, ↓aCons, ↓datas, ↓dStC, ↓dStI, ↓sStPut, ↓scalD, ↓D.eqv, ↓MO.data, ↓oIsN, ↓oNotN, ↓isN, ↓oTuple, ↓oIn, ↓oAbs, ↓dFld, ↓sFld, ↓initOf, ↓dMake, ↓dLc, ↓iOf, ↓items, ↓iEnum, ↓iRange1, ↓sFor, ↓gName, ↓gTup, ↓gTup.go, ↓sRaise0, ↓isTup, ↓sAppend, ↓sStore, ↓sAugAdd, ↓dNewT, ↓dDispT, ↓sDput, ↓putAtM, ↓oDin, ↓oDix, ↓atD, ↓toKeys, ↓toKey, ↓sFrz, ↓oIsi, ↓tyName, ↓isiB, ↓dIndexL, ↓dRowsLen, ↓dRowsIx, ↓dRowsCopy, ↓sRowsPut, ↓sRowsApp, ↓sRows1, ↓sRowsLc, ↓sFrz, ↓sRowsFix, ↓isRows, List.map_cons, List.map_nil, List.length_cons, List.length_nil, List.replicate, List.cons_append, List.nil_append, List.getElem?_cons_zero, List.getElem?_cons_succ, List.set_cons_zero, List.set_cons_succ, Option.map_some, T.d.injEq, D.bl.injEq, D.int.injEq, Option.some.injEq, exists_eq_left', exists_eq_left, exists_eq_right, true_and, and_true, true_or, or_true, decide_eq_true_eq, if_true, if_false, reduceIte, Nat.reduceAdd, Nat.reduceSub, Nat.zero_add, Option.bind_some, List.map_nil]
      refine ⟨by decide, ?_⟩
      have h4 := I'.exp1 gA gB (i := j) (w := w) hl hr (by omega) (by omega)
      refine lf1 gA gB hl4 (by omega) (by omega) (by omega) (by omega) _ _ _ ?_
      exact hk _ ⟨j + 1, m, _, _, _, _, by omega, rfl, h4.1, by omega, h3, rfl⟩
  · obtain ⟨j, m, s', q', b12, b13, h1, h2, I', hqq, h3, rfl⟩ := h'
    have hm : m = 0 := by cases m with | zero => rfl | succ m => rw [List.range'_succ] at h2; cases h2
    subst hm
    have h3 : (s', q') = _ := h3
    have := h b12 b13
    rw [← h3] at this
    exact this
theorem lf34 {w : Tx} {l r : Int} {s : Seen} {q : List Item} (b6 b12 b13 : Option Y.B) (h1 : hit E F e l r = true → Z0.rt (.d (.str w)))
    (h2 : hit E F e l r = false → Z0.nx (lEnv L A E B F e s q b6 (some (.d (.str w))) (some (.d (.int l))) (some (.d (.int r))) (some (.d (.bl (decide (l ∈ E))))) (some (.d (.bl (decide (r ∈ F))))) b12 b13)) :
    d__law_first_4 { Z0 with nx := d__law_first_3 Z0 } (lEnv L A E B F e s q b6 (some (.d (.str w))) (some (.d (.int l))) (some (.d (.int r))) (some (.d (.bl (decide (l ∈ E))))) (some (.d (.bl (decide (r ∈ F))))) b12 b13) := by
  unfold hit at h1 h2
  generalize decide (l ∈ E) = x1 at *
  generalize decide (r ∈ F) = x2 at *
  unfold d__law_first_4 d__law_first_3
  simp only [↓semOf, ↓toB, ↓sNext, ↓sSeq, ↓sSet, ↓sIf, ↓sRet, ↓sRetN, ↓sPart, ↓sExpr, ↓sBreak, ↓sCont, ↓tAnd, ↓tOr, ↓tNot, ↓tB, ↓dBin, ↓dUn, ↓dVar, ↓dC, ↓dIf, ↓dAnd, ↓dOr, ↓dNot, ↓dCall, ↓dNext, ↓look, ↓esc, ↓Y.bind, ↓arg, ↓iv, ↓bv, ↓sv, ↓oAdd, ↓oSub, ↓oMul, ↓oDiv, ↓oMod, ↓oPow, ↓oNeg, ↓oEq, ↓oNe, ↓oLt, ↓oLe, ↓oGt, ↓oGe, ↓oLen, ↓oIx, ↓oInt, ↓dLst, ↓dTup, ↓aNil, ↓aCons, ↓datas, ↓dStC, ↓dStI, ↓sStPut, ↓scalD, ↓D.eqv, ↓MO.data, ↓oIsN, ↓oNotN, ↓isN, ↓oTuple, ↓oIn, ↓oAbs, ↓dFld, ↓sFld, ↓initOf, ↓dMake, ↓dLc, ↓iOf, ↓items, ↓iEnum, ↓iRange1, ↓sFor, ↓gName, ↓gTup, ↓gTup.go, ↓sRaise0, ↓isTup, ↓sAppend, ↓sStore, ↓sAugAdd, ↓dNewT, ↓dDispT, ↓sDput, ↓putAtM, ↓oDin, ↓oDix, ↓atD, ↓toKeys, ↓toKey, ↓sFrz, ↓oIsi, ↓tyName, ↓isiB, ↓dIndexL, ↓dRowsLen, ↓dRowsIx, ↓dRowsCopy, ↓sRowsPut, ↓sRowsApp, ↓sRows1, ↓sRowsLc, ↓sFrz, ↓sRowsFix, ↓isRows, List.map_cons, List.map_nil, List.length_cons, List.length_nil, List.replicate, List.cons_append, List.nil_append, List.getElem?_cons_zero, List.getElem?_cons_succ, List.set_cons_zero, List.set_cons_succ, Option.map_some, T.d.injEq, D.bl.injEq, D.int.injEq, Option.some.injEq, exists_eq_left', exists_eq_left, exists_eq_right, true_and, and_true, true_or, or_true, decide_eq_true_eq, if_true, if_false, reduceIte, Nat.reduceAdd, Nat.reduceSub, Nat.zero_add, Option.bind_some, List.map_nil, lEnv]
  cases x1 <;> cases x2 <;> cases e <;> first | exact h1 rfl | exact h2 rfl
theorem lf_ok (hL : L.length ≤ 4) (gA : Good L A E) (gB : Good L B F) (x : Exn → Prop) (Q : T → Prop) (hQ : Q (.d (resD (run L A E B F e ((A.length + 1) * (B.length + 1)) 0 [(0, 0)] [([], 0, 0)])))) :
    f__law_first [.d (.str L), .d (pairD A E), .d (pairD B F), .d (.bl e)] x Q := by
  obtain ⟨res, hr0⟩ : ∃ res, res = run L A E B F e ((A.length + 1) * (B.length + 1)) 0 [(0, 0)] [([], 0, 0)] := ⟨_, rfl⟩
  rw [← hr0] at hQ
  have nA := gA.ne
  have nB := gB.ne
  have zA := gA.sz
  have zB := gB.sz
  have hN' := Nat.mul_le_mul (show A.length + 1 ≤ 129 by omega) (show B.length + 1 ≤ 129 by omega)
  have hN : (A.length + 1) * (B.length + 1) < SZ := Nat.lt_of_le_of_lt hN' (by decide)
  unfold f__law_first d__law_first
  simp only [↓semOf, ↓toB, ↓sNext, ↓sSeq, ↓sSet, ↓sIf, ↓sRet, ↓sRetN, ↓sPart, ↓sExpr, ↓sBreak, ↓sCont, ↓tAnd, ↓tOr, ↓tNot, ↓tB, ↓dBin, ↓dUn, ↓dVar, ↓dC, ↓dIf, ↓dAnd, ↓dOr, ↓dNot, ↓dCall, ↓dNext, ↓look, ↓esc, ↓Y.bind, ↓arg, ↓iv, ↓bv, ↓sv, ↓oAdd, ↓oSub, ↓oMul, ↓oDiv, ↓oMod, ↓oPow, ↓oNeg, ↓oEq, ↓oNe, ↓oLt, ↓oLe, ↓oGt, ↓oGe, ↓oLen, ↓oIx, ↓oInt, ↓dLst, ↓dTup, ↓aNil, ↓aCons, ↓datas, ↓dStC, ↓dStI, ↓sStPut, ↓scalD, ↓D.eqv, ↓MO.data, ↓oIsN, ↓oNotN, ↓isN, ↓oTuple, ↓oIn, ↓oAbs, ↓dFld, ↓sFld, ↓initOf, ↓dMake, ↓dLc, ↓iOf, ↓items, ↓iEnum, ↓iRange1, ↓sFor, ↓gName, ↓gTup, ↓gTup.go, ↓sRaise0, ↓isTup, ↓sAppend, ↓sStore, ↓sAugAdd, ↓dNewT, ↓dDispT, ↓sDput, ↓putAtM, ↓oDin, ↓oDix, ↓atD, ↓toKeys, ↓toKey, ↓sFrz, ↓oIsi, ↓tyName, ↓isiB, ↓dIndexL, ↓dRowsLen, ↓dRowsIx, ↓dRowsCopy, ↓sRowsPut, ↓sRowsApp, ↓sRows1, ↓sRowsLc, ↓sFrz, ↓sRowsFix, ↓isRows, List.map_cons, List.map_nil, List.length_cons, List.length_nil, List.replicate, List.cons_append, List.nil_append, List.getElem?_cons_zero, List.getElem?_cons_succ, List.set_cons_zero, List.set_cons_succ, Option.map_some, T.d.injEq, D.bl.injEq, D.int.injEq, Option.some.injEq, exists_eq_left', exists_eq_left, exists_eq_right, true_and, and_true, true_or, or_true, decide_eq_true_eq, if_true, if_false, reduceIte, Nat.reduceAdd, Nat.reduceSub, Nat.zero_add, Option.bind_some, List.map_nil]
  refine ⟨by decide, by decide, ⟨_, rfl⟩, by decide, by decide, ?_⟩
  unfold d__law_first_6
  simp only [↓semOf, ↓toB, ↓sNext, ↓sSeq, ↓sSet, ↓sIf, ↓sRet, ↓sRetN, ↓sPart, ↓sExpr, ↓sBreak, ↓sCont, ↓tAnd, ↓tOr, ↓tNot, ↓tB, ↓dBin, ↓dUn, ↓dVar, ↓dC, ↓dIf, ↓dAnd, ↓dOr, ↓dNot, ↓dCall, ↓dNext, ↓look, ↓esc, ↓Y.bind, ↓arg, ↓iv, ↓bv, ↓sv, ↓oAdd, ↓oSub, ↓oMul, ↓oDiv, ↓oMod, ↓oPow, ↓oNeg, ↓oEq, ↓oNe, ↓oLt, ↓oLe, ↓oGt, ↓oGe, ↓oLen, ↓oIx, ↓oInt, ↓dLst, ↓dTup, ↓aNil, ↓aCons, ↓datas, ↓dStC, ↓dStI, ↓sStPut, ↓scalD, ↓D.eqv, ↓MO.data, ↓oIsN, ↓oNotN, ↓isN, ↓oTuple, ↓oIn, ↓oAbs, ↓dFld, ↓sFld, ↓initOf, ↓dMake, ↓dLc, ↓iOf, ↓items, ↓iEnum, ↓iRange1, ↓sFor, ↓gName, ↓gTup, ↓gTup.go, ↓sRaise0, ↓isTup, ↓sAppend, ↓sStore, ↓sAugAdd, ↓dNewT, ↓dDispT, ↓sDput, ↓putAtM, ↓oDin, ↓oDix, ↓atD, ↓toKeys, ↓toKey, ↓sFrz, ↓oIsi, ↓tyName, ↓isiB, ↓dIndexL, ↓dRowsLen, ↓dRowsIx, ↓dRowsCopy, ↓sRowsPut, ↓sRowsApp, ↓sRows1, ↓sRowsLc, ↓sFrz, ↓sRowsFix, ↓isRows, List.map_cons, List.map_nil, List.length_cons, List.length_nil, List.replicate, List.cons_append, List.nil_append, List.getElem?_cons_zero, List.getElem?_cons_succ, List.set_cons_zero, List.set_cons_succ, Option.map_some, T.d.injEq, D.bl.injEq, D.int.injEq, Option.some.injEq, exists_eq_left', exists_eq_left, exists_eq_right, true_and, and_true, true_or, or_true, decide_eq_true_eq, if_true, if_false, reduceIte, Nat.reduceAdd, Nat.reduceSub, Nat.zero_add, Option.bind_some, List.map_nil, pairD]
  refine ⟨0, _, rfl, rfl, ?_⟩
  simp only [↓semOf, ↓toB, ↓sNext, ↓sSeq, ↓sSet, ↓sIf, ↓sRet, ↓sRetN, ↓sPart, ↓sExpr, ↓sBreak, ↓sCont, ↓tAnd, ↓tOr, ↓tNot, ↓tB, ↓dBin, ↓dUn, ↓dVar, ↓dC, ↓dIf, ↓dAnd, ↓dOr, ↓dNot, ↓dCall, ↓dNext, ↓look, ↓esc, ↓Y.bind, ↓arg, ↓iv, ↓bv, ↓sv, ↓oAdd, ↓oSub, ↓oMul, ↓oDiv, ↓oMod, ↓oPow, ↓oNeg, ↓oEq, ↓oNe, ↓oLt, ↓oLe, ↓oGt, ↓oGe, ↓oLen, ↓oIx, ↓oInt, ↓dLst, ↓dTup, ↓aNil, ↓aCons, ↓datas, ↓dStC, ↓dStI, ↓sStPut, ↓scalD, ↓D.eqv, ↓MO.data, ↓oIsN, ↓oNotN, ↓isN, ↓oTuple, ↓oIn, ↓oAbs, ↓dFld, ↓sFld, ↓initOf, ↓dMake, ↓dLc, ↓iOf, ↓items, ↓iEnum, ↓iRange1, ↓sFor, ↓gName, ↓gTup, ↓gTup.go, ↓sRaise0, ↓isTup, ↓sAppend, ↓sStore, ↓sAugAdd, ↓dNewT, ↓dDispT, ↓sDput, ↓putAtM, ↓oDin, ↓oDix, ↓atD, ↓toKeys, ↓toKey, ↓sFrz, ↓oIsi, ↓tyName, ↓isiB, ↓dIndexL, ↓dRowsLen, ↓dRowsIx, ↓dRowsCopy, ↓sRowsPut, ↓sRowsApp, ↓sRows1, ↓sRowsLc, ↓sFrz, ↓sRowsFix, ↓isRows, List.map_cons, List.map_nil, List.length_cons, List.length_nil, List.replicate, List.cons_append, List.nil_append, List.getElem?_cons_zero, List.getElem?_cons_succ, List.set_cons_zero, List.set_cons_succ, Option.map_some, T.d.injEq, D.bl.injEq, D.int.injEq, Option.some.injEq, exists_eq_left', exists_eq_left, exists_eq_right, true_and, and_true, true_or, or_true, decide_eq_true_eq, if_true, if_false, reduceIte, Nat.reduceAdd, Nat.reduceSub, Nat.zero_add, Option.bind_some, List.map_nil]
  refine ⟨0, _, rfl, rfl, ?_⟩
  simp only [↓semOf, ↓toB, ↓sNext, ↓sSeq, ↓sSet, ↓sIf, ↓sRet, ↓sRetN, ↓sPart, ↓sExpr, ↓sBreak, ↓sCont, ↓tAnd, ↓tOr, ↓tNot, ↓tB, ↓dBin, ↓dUn, ↓dVar, ↓dC, ↓dIf, ↓dAnd, ↓dOr, ↓dNot, ↓dCall, ↓dNext, ↓look, ↓esc, ↓Y.bind, ↓arg, ↓iv, ↓bv, ↓sv, ↓oAdd, ↓oSub, ↓oMul, ↓oDiv, ↓oMod, ↓oPow, ↓oNeg, ↓oEq, ↓oNe, ↓oLt, ↓oLe, ↓oGt, ↓oGe, ↓oLen, ↓oIx, ↓oInt, ↓dLst, ↓dTup, ↓aNil, ↓aCons, ↓datas, ↓dStC, ↓dStI, ↓sStPut, ↓scalD, ↓D.eqv, ↓MO.data, ↓oIsN, ↓oNotN, ↓isN, ↓oTuple, ↓oIn, ↓oAbs, ↓dFld, ↓sFld, ↓initOf, ↓dMake, ↓dLc, ↓iOf, ↓items, ↓iEnum, ↓iRange1, ↓sFor, ↓gName, ↓gTup, ↓gTup.go, ↓sRaise0, ↓isTup, ↓sAppend, ↓sStore, ↓sAugAdd, ↓dNewT, ↓dDispT, ↓sDput, ↓putAtM, ↓oDin, ↓oDix, ↓atD, ↓toKeys, ↓toKey, ↓sFrz, ↓oIsi, ↓tyName, ↓isiB, ↓dIndexL, ↓dRowsLen, ↓dRowsIx, ↓dRowsCopy, ↓sRowsPut, ↓sRowsApp, ↓sRows1, ↓sRowsLc, ↓sFrz, ↓sRowsFix, ↓isRows, List.map_cons, List.map_nil, List.length_cons, List.length_nil, List.replicate, List.cons_append, List.nil_append, List.getElem?_cons_zero, List.getElem?_cons_succ, List.set_cons_zero, List.set_cons_succ, Option.map_some, T.d.injEq, D.bl.injEq, D.int.injEq, Option.some.injEq, exists_eq_left', exists_eq_left, exists_eq_right, true_and, and_true, true_or, or_true, decide_eq_true_eq, if_true, if_false, reduceIte, Nat.reduceAdd, Nat.reduceSub, Nat.zero_add, Option.bind_some, List.map_nil, List.length_map]
  have hc : ((A.length : Int) + 1) * ((B.length : Int) + 1) = (((A.length + 1) * (B.length + 1) : Nat) : Int) := by push_cast; rfl
  rw [hc]
  refine ⟨.inl (by unfold small64; omega), ⟨by omega, by omega⟩, ?_⟩
  rw [Int.toNat_natCast, upTo_range]
  refine forL_inv (I := fun xs ρ => ∃ (t k : Nat) (s : Seen) (q : List Item) (b6 b7 b8 b9 b10 b11 b12 b13 : Option Y.B), t + k = (A.length + 1) * (B.length + 1) ∧ xs = (List.range' t k).map (fun i : Nat => D.int i) ∧ Inv A.length B.length s q ∧ run L A E B F e k t s q = res ∧
      ρ = lEnv L A E B F e s q b6 b7 b8 b9 b10 b11 b12 b13) (fun y ys ρ h' k' hk => ?_) (fun ρ h' => ?_) _ _ ⟨0, _, [(0, 0)], [([], 0, 0)], none, none, none, none, none, none, none, none, Nat.zero_add _, rfl, ?_, hr0.symm, rfl⟩
  · obtain ⟨t, k, s, q, b6, b7, b8, b9, b10, b11, b12, b13, h1, h2, I, hrun, rfl⟩ := h'
    have hlen := I.len
    cases k with
    | zero => cases h2
    | succ k =>
      rw [List.range'_succ, List.map_cons] at h2
      cases h2
      unfold run at hrun
      simp only [↓semOf, ↓toB, ↓sNext, ↓sSeq, ↓sSet, ↓sIf, ↓sRet, ↓sRetN, ↓sPart, ↓sExpr, ↓sBreak, ↓sCont, ↓tAnd, ↓tOr, ↓tNot, ↓tB, ↓dBin, ↓dUn, ↓dVar, ↓dC, ↓dIf, ↓dAnd, ↓dOr, ↓dNot, ↓dCall, ↓dNext, ↓look, ↓esc, ↓Y.bind, ↓arg, ↓iv, ↓bv, ↓sv, ↓oAdd, ↓oSub, ↓oMul, ↓oDiv, ↓oMod, ↓oPow, ↓oNeg, ↓oEq, ↓oNe, ↓oLt, ↓oLe, ↓oGt, ↓oGe, ↓oLen, ↓oIx, ↓oInt, ↓dLst, ↓dTup, ↓aNil, ↓aCons, ↓datas, ↓dStC, ↓dStI, ↓sStPut, ↓scalD, ↓D.eqv, ↓MO.data, ↓oIsN, ↓oNotN, ↓isN, ↓oTuple, ↓oIn, ↓oAbs, ↓dFld, ↓sFld, ↓initOf, ↓dMake, ↓dLc, ↓iOf, ↓items, ↓iEnum, ↓iRange1, ↓sFor, ↓gName, ↓gTup, ↓gTup.go, ↓sRaise0, ↓isTup, ↓sAppend, ↓sStore, ↓sAugAdd, ↓dNewT, ↓dDispT, ↓sDput, ↓putAtM, ↓oDin, ↓oDix, ↓atD, ↓toKeys, ↓toKey, ↓sFrz, ↓oIsi, ↓tyName, ↓isiB, ↓dIndexL, ↓dRowsLen, ↓dRowsIx, ↓dRowsCopy, ↓sRowsPut, ↓sRowsApp, ↓sRows1, ↓sRowsLc, ↓sFrz, ↓sRowsFix, ↓isRows, List.map_cons, List.map_nil, List.length_cons, List.length_nil, List.replicate, List.cons_append, List.nil_append, List.getElem?_cons_zero, List.getElem?_cons_succ, List.set_cons_zero, List.set_cons_succ, Option.map_some, T.d.injEq, D.bl.injEq, D.int.injEq, Option.some.injEq, exists_eq_left', exists_eq_left, exists_eq_right, true_and, and_true, true_or, or_true, decide_eq_true_eq, if_true, if_false, reduceIte, Nat.reduceAdd, Nat.reduceSub, Nat.zero_add, Option.bind_some, List.map_nil, lEnv]
      unfold d__law_first_5
      simp only [↓semOf, ↓toB, ↓sNext, ↓sSeq, ↓sSet, ↓sIf, ↓sRet, ↓sRetN, ↓sPart, ↓sExpr, ↓sBreak, ↓sCont, ↓tAnd, ↓tOr, ↓tNot, ↓tB, ↓dBin, ↓dUn, ↓dVar, ↓dC, ↓dIf, ↓dAnd, ↓dOr, ↓dNot, ↓dCall, ↓dNext, ↓look, ↓esc, ↓Y.bind, ↓arg, ↓iv, ↓bv, ↓sv, ↓oAdd, ↓oSub, ↓oMul, ↓oDiv, ↓oMod, ↓oPow, ↓oNeg, ↓oEq, ↓oNe, ↓oLt, ↓oLe, ↓oGt, ↓oGe, ↓oLen, ↓oIx, ↓oInt, ↓dLst, ↓dTup, ↓aNil, ↓aCons, ↓datas, ↓dStC, ↓dStI, ↓sStPut, ↓scalD, ↓D.eqv, ↓MO.data, ↓oIsN, ↓oNotN, ↓isN, ↓oTuple, ↓oIn, ↓oAbs, ↓dFld, ↓sFld, ↓initOf, ↓dMake, ↓dLc, ↓iOf, ↓items, ↓iEnum, ↓iRange1, ↓sFor, ↓gName, ↓gTup, ↓gTup.go, ↓sRaise0, ↓isTup, ↓sAppend, ↓sStore, ↓sAugAdd, ↓dNewT, ↓dDispT, ↓sDput, ↓putAtM, ↓oDin, ↓oDix, ↓atD, ↓toKeys, ↓toKey, ↓sFrz, ↓oIsi, ↓tyName, ↓isiB, ↓dIndexL, ↓dRowsLen, ↓dRowsIx, ↓dRowsCopy, ↓sRowsPut, ↓sRowsApp, ↓sRows1, ↓sRowsLc, ↓sFrz, ↓sRowsFix, ↓isRows, List.map_cons, List.map_nil, List.length_cons, List.length_nil, List.replicate, List.cons_append, List.nil_append, List.getElem?_cons_zero, List.getElem?_cons_succ, List.set_cons_zero, List.set_cons_succ, Option.map_some, T.d.injEq, D.bl.injEq, D.int.injEq, Option.some.injEq, exists_eq_left', exists_eq_left, exists_eq_right, true_and, and_true, true_or, or_true, decide_eq_true_eq, if_true, if_false, reduceIte, Nat.reduceAdd, Nat.reduceSub, Nat.zero_add, Option.bind_some, List.map_nil, List.length_map]
      by_cases hc : t < q.length
      · rw [if_neg (by omega)]
        obtain ⟨⟨w, l, r⟩, hq⟩ : ∃ it, q[t]? = some it := ⟨_, List.getElem?_eq_getElem hc⟩
        simp only [hq] at hrun
        have hwl := I.wl t _ hq
        have hwl : w.length ≤ t := hwl
        have hbx : (-1 ≤ l ∧ l < A.length) ∧ (-1 ≤ r ∧ r < B.length) := I.bx (l, r) (by
          rw [← I.eq]
          exact List.mem_map.mpr ⟨_, List.mem_of_getElem? hq, rfl⟩)
        refine ⟨t, itemD (w, l, r), ixOf_nat hc, by rw [List.getElem?_map, hq]; rfl, ?_⟩
        simp only [↓semOf, ↓toB, ↓sNext, ↓sSeq, ↓sSet, ↓sIf, ↓sRet, ↓sRetN, ↓sPart, ↓sExpr, ↓sBreak, ↓sCont, ↓tAnd, ↓tOr, ↓tNot, ↓tB, ↓dBin, ↓dUn, ↓dVar, ↓dC, ↓dIf, ↓dAnd, ↓dOr, ↓dNot, ↓dCall, ↓dNext, ↓look, ↓esc, ↓Y.bind, ↓arg, ↓iv, ↓bv, ↓sv, ↓oAdd, ↓oSub, ↓oMul, ↓oDiv, ↓oMod, ↓oPow, ↓oNeg, ↓oEq, ↓oNe, ↓oLt, ↓oLe, ↓oGt, ↓oGe, ↓oLen, ↓oIx, ↓oInt, ↓dLst, ↓dTup, ↓aNil, ↓aCons, ↓datas, ↓dStC, ↓dStI, ↓sStPut, ↓scalD, ↓D.eqv, ↓MO.data, ↓oIsN, ↓oNotN, ↓isN, ↓oTuple, ↓oIn, ↓oAbs, ↓dFld, ↓sFld, ↓initOf, ↓dMake, ↓dLc, ↓iOf, ↓items, ↓iEnum, ↓iRange1, ↓sFor, ↓gName, ↓gTup, ↓gTup.go, ↓sRaise0, ↓isTup, ↓sAppend, ↓sStore, ↓sAugAdd, ↓dNewT, ↓dDispT, ↓sDput, ↓putAtM, ↓oDin, ↓oDix, ↓atD, ↓toKeys, ↓toKey, ↓sFrz, ↓oIsi, ↓tyName, ↓isiB, ↓dIndexL, ↓dRowsLen, ↓dRowsIx, ↓dRowsCopy, ↓sRowsPut, ↓sRowsApp, ↓sRows1, ↓sRowsLc, ↓sFrz, ↓sRowsFix, ↓isRows, List.map_cons, List.map_nil, List.length_cons, List.length_nil, List.replicate, List.cons_append, List.nil_append, List.getElem?_cons_zero, List.getElem?_cons_succ, List.set_cons_zero, List.set_cons_succ, Option.map_some, T.d.injEq, D.bl.injEq, D.int.injEq, Option.some.injEq, exists_eq_left', exists_eq_left, exists_eq_right, true_and, and_true, true_or, or_true, decide_eq_true_eq, if_true, if_false, reduceIte, Nat.reduceAdd, Nat.reduceSub, Nat.zero_add, Option.bind_some, List.map_nil, itemD, pairD]
        refine ⟨1, _, rfl, rfl, ?_⟩
        simp only [↓semOf, ↓toB, ↓sNext, ↓sSeq, ↓sSet, ↓sIf, ↓sRet, ↓sRetN, ↓sPart, ↓sExpr, ↓sBreak, ↓sCont, ↓tAnd, ↓tOr, ↓tNot, ↓tB, ↓dBin, ↓dUn, ↓dVar, ↓dC, ↓dIf, ↓dAnd, ↓dOr, ↓dNot, ↓dCall, ↓dNext, ↓look, ↓esc, ↓Y.bind, ↓arg, ↓iv, ↓bv, ↓sv, ↓oAdd, ↓oSub, ↓oMul, ↓oDiv, ↓oMod, ↓oPow, ↓oNeg, ↓oEq, ↓oNe, ↓oLt, ↓oLe, ↓oGt, ↓oGe, ↓oLen, ↓oIx, ↓oInt, ↓dLst, ↓dTup, ↓aNil, ↓aCons, ↓datas, ↓dStC, ↓dStI, ↓sStPut, ↓scalD, ↓D.eqv, ↓MO.data, ↓oIsN, ↓oNotN, ↓isN, ↓oTuple, ↓oIn, ↓oAbs, ↓dFld, ↓sFld, ↓initOf, ↓dMake, ↓dLc, ↓iOf, ↓items, ↓iEnum, ↓iRange1, ↓sFor, ↓gName, ↓gTup, ↓gTup.go, ↓sRaise0, ↓isTup, ↓sAppend, ↓sStore, ↓sAugAdd, ↓dNewT, ↓dDispT, ↓sDput, ↓putAtM, ↓oDin, ↓oDix, ↓atD, ↓toKeys, ↓toKey, ↓sFrz, ↓oIsi, ↓tyName, ↓isiB, ↓dIndexL, ↓dRowsLen, ↓dRowsIx, ↓dRowsCopy, ↓sRowsPut, ↓sRowsApp, ↓sRows1, ↓sRowsLc, ↓sFrz, ↓sRowsFix, ↓isRows, List.map_cons, List.map_nil, List.length_cons, List.length_nil, List.replicate, List.cons_append, List.nil_append, List.getElem?_cons_zero, List.getElem?_cons_succ, List.set_cons_zero, List.set_cons_succ, Option.map_some, T.d.injEq, D.bl.injEq, D.int.injEq, Option.some.injEq, exists_eq_left', exists_eq_left, exists_eq_right, true_and, and_true, true_or, or_true, decide_eq_true_eq, if_true, if_false, reduceIte, Nat.reduceAdd, Nat.reduceSub, Nat.zero_add, Option.bind_some, List.map_nil]
        refine ⟨⟨rfl, flat_ints E⟩, 1, _, rfl, rfl, ?_⟩
        simp only [↓semOf, ↓toB, ↓sNext, ↓sSeq, ↓sSet, ↓sIf, ↓sRet, ↓sRetN, ↓sPart, ↓sExpr, ↓sBreak, ↓sCont, ↓tAnd, ↓tOr, ↓tNot, ↓tB, ↓dBin, ↓dUn, ↓dVar, ↓dC, ↓dIf, ↓dAnd, ↓dOr, ↓dNot, ↓dCall, ↓dNext, ↓look, ↓esc, ↓Y.bind, ↓arg, ↓iv, ↓bv, ↓sv, ↓oAdd, ↓oSub, ↓oMul, ↓oDiv, ↓oMod, ↓oPow, ↓oNeg, ↓oEq, ↓oNe, ↓oLt, ↓oLe, ↓oGt, ↓oGe, ↓oLen, ↓oIx, ↓oInt, ↓dLst, ↓dTup, ↓aNil, ↓aCons, ↓datas, ↓dStC, ↓dStI, ↓sStPut, ↓scalD, ↓D.eqv, ↓MO.data, ↓oIsN, ↓oNotN, ↓isN, ↓oTuple, ↓oIn, ↓oAbs, ↓dFld, ↓sFld, ↓initOf, ↓dMake, ↓dLc, ↓iOf, ↓items, ↓iEnum, ↓iRange1, ↓sFor, ↓gName, ↓gTup, ↓gTup.go, ↓sRaise0, ↓isTup, ↓sAppend, ↓sStore, ↓sAugAdd, ↓dNewT, ↓dDispT, ↓sDput, ↓putAtM, ↓oDin, ↓oDix, ↓atD, ↓toKeys, ↓toKey, ↓sFrz, ↓oIsi, ↓tyName, ↓isiB, ↓dIndexL, ↓dRowsLen, ↓dRowsIx, ↓dRowsCopy, ↓sRowsPut, ↓sRowsApp, ↓sRows1, ↓sRowsLc, ↓sFrz, ↓sRowsFix, ↓isRows, List.map_cons, List.map_nil, List.length_cons, List.length_nil, List.replicate, List.cons_append, List.nil_append, List.getElem?_cons_zero, List.getElem?_cons_succ, List.set_cons_zero, List.set_cons_succ, Option.map_some, T.d.injEq, D.bl.injEq, D.int.injEq, Option.some.injEq, exists_eq_left', exists_eq_left, exists_eq_right, true_and, and_true, true_or, or_true, decide_eq_true_eq, if_true, if_false, reduceIte, Nat.reduceAdd, Nat.reduceSub, Nat.zero_add, Option.bind_some, List.map_nil, any_int, Bool.false_xor]
        refine ⟨⟨rfl, flat_ints F⟩, ?_⟩
        refine lf34 (Z0 := { nx := d__law_first_2 _, rt := _, bk := _, ct := _, ex := _ }) _ _ _ (fun hh => ?_) (fun hh => ?_)
        · rw [if_pos hh] at hrun
          rw [← hrun] at hQ
          exact hQ
        · rw [if_neg (by rw [hh]; exact Bool.false_ne_true)] at hrun
          refine lf2 gA gB hL hbx.1.2 hbx.2.2 I (by omega) hN _ _ _ _ _ fun b12 b13 => ?_
          have h4 := Inv.expand gA gB (w := w) hbx.1.2 hbx.2.2 L.length 0 s q (by omega) I (by omega)
          exact hk _ ⟨t + 1, k, _, _, _, _, _, _, _, _, _, _, by omega, rfl, h4.1, hrun, rfl⟩
      · rw [if_pos (by omega)]
        rw [List.getElem?_eq_none (by omega)] at hrun
        have hrun : none = res := hrun
        rw [← hrun] at hQ
        exact hQ
  · obtain ⟨t, k, s, q, b6, b7, b8, b9, b10, b11, b12, b13, h1, h2, I, hrun, rfl⟩ := h'
    have hk0 : k = 0 := by cases k with | zero => rfl | succ m => rw [List.range'_succ] at h2; cases h2
    subst hk0
    have hrun : none = res := hrun
    rw [← hrun] at hQ
    exact hQ
  · refine ⟨by simp, fun p hp => ?_, rfl, fun i it hi => ?_⟩
    · simp at hp; subst hp; simp; omega
    · cases i with
      | zero => cases hi; simp
      | succ i => simp at hi
end
end Z

namespace Z
open Y
theorem equal_ok (o : Option Tx) (x : Exn → Prop) (Q : T → Prop) (q : Q (.d (.bl true))) : f__law_equal [.d (resD o), .d (resD o)] x Q := by
  unfold f__law_equal d__law_equal
  cases o with
  | none =>
    simp only [↓semOf, ↓toB, ↓sNext, ↓sSeq, ↓sSet, ↓sIf, ↓sRet, ↓sRetN, ↓sPart, ↓sExpr, ↓sBreak, ↓sCont, ↓tAnd, ↓tOr, ↓tNot, ↓tB, ↓dBin, ↓dUn, ↓dVar, ↓dC, ↓dIf, ↓dAnd, ↓dOr, ↓dNot, ↓dCall, ↓dNext, ↓look, ↓esc, ↓Y.bind, ↓arg, ↓iv, ↓bv, ↓sv, ↓oAdd, ↓oSub, ↓oMul, ↓oDiv, ↓oMod, ↓oPow, ↓oNeg, ↓oEq, ↓oNe, ↓oLt, ↓oLe, ↓oGt, ↓oGe, ↓oLen, ↓oIx, ↓oInt, ↓dLst, ↓dTup, ↓aNil, ↓aCons, ↓datas, ↓dStC, ↓dStI, ↓sStPut, ↓scalD, ↓D.eqv, ↓MO.data, ↓oIsN, ↓oNotN, ↓isN, ↓oTuple, ↓oIn, ↓oAbs, ↓dFld, ↓sFld, ↓initOf, ↓dMake, ↓dLc, ↓iOf, ↓items, ↓iEnum, ↓iRange1, ↓sFor, ↓gName, ↓gTup, ↓gTup.go, ↓sRaise0, ↓isTup, ↓sAppend, ↓sStore, ↓sAugAdd, ↓dNewT, ↓dDispT, ↓sDput, ↓putAtM, ↓oDin, ↓oDix, ↓atD, ↓toKeys, ↓toKey, ↓sFrz, ↓oIsi, ↓tyName, ↓isiB, ↓dIndexL, ↓dRowsLen, ↓dRowsIx, ↓dRowsCopy, ↓sRowsPut, ↓sRowsApp, ↓sRows1, ↓sRowsLc, ↓sFrz, ↓sRowsFix, ↓isRows, List.map_cons, List.map_nil, List.length_cons, List.length_nil, List.replicate, List.cons_append, List.nil_append, List.getElem?_cons_zero, List.getElem?_cons_succ, List.set_cons_zero, List.set_cons_succ, Option.map_some, T.d.injEq, D.bl.injEq, D.int.injEq, Option.some.injEq, exists_eq_left', exists_eq_left, exists_eq_right, true_and, and_true, true_or, or_true, decide_eq_true_eq, if_true, if_false, reduceIte, Nat.reduceAdd, Nat.reduceSub, Nat.zero_add, Option.bind_some, List.map_nil, resD]
    exact q
  | some w =>
    simp only [↓semOf, ↓toB, ↓sNext, ↓sSeq, ↓sSet, ↓sIf, ↓sRet, ↓sRetN, ↓sPart, ↓sExpr, ↓sBreak, ↓sCont, ↓tAnd, ↓tOr, ↓tNot, ↓tB, ↓dBin, ↓dUn, ↓dVar, ↓dC, ↓dIf, ↓dAnd, ↓dOr, ↓dNot, ↓dCall, ↓dNext, ↓look, ↓esc, ↓Y.bind, ↓arg, ↓iv, ↓bv, ↓sv, ↓oAdd, ↓oSub, ↓oMul, ↓oDiv, ↓oMod, ↓oPow, ↓oNeg, ↓oEq, ↓oNe, ↓oLt, ↓oLe, ↓oGt, ↓oGe, ↓oLen, ↓oIx, ↓oInt, ↓dLst, ↓dTup, ↓aNil, ↓aCons, ↓datas, ↓dStC, ↓dStI, ↓sStPut, ↓scalD, ↓D.eqv, ↓MO.data, ↓oIsN, ↓oNotN, ↓isN, ↓oTuple, ↓oIn, ↓oAbs, ↓dFld, ↓sFld, ↓initOf, ↓dMake, ↓dLc, ↓iOf, ↓items, ↓iEnum, ↓iRange1, ↓sFor, ↓gName, ↓gTup, ↓gTup.go, ↓sRaise0, ↓isTup, ↓sAppend, ↓sStore, ↓sAugAdd, ↓dNewT, ↓dDispT, ↓sDput, ↓putAtM, ↓oDin, ↓oDix, ↓atD, ↓toKeys, ↓toKey, ↓sFrz, ↓oIsi, ↓tyName, ↓isiB, ↓dIndexL, ↓dRowsLen, ↓dRowsIx, ↓dRowsCopy, ↓sRowsPut, ↓sRowsApp, ↓sRows1, ↓sRowsLc, ↓sFrz, ↓sRowsFix, ↓isRows, List.map_cons, List.map_nil, List.length_cons, List.length_nil, List.replicate, List.cons_append, List.nil_append, List.getElem?_cons_zero, List.getElem?_cons_succ, List.set_cons_zero, List.set_cons_succ, Option.map_some, T.d.injEq, D.bl.injEq, D.int.injEq, Option.some.injEq, exists_eq_left', exists_eq_left, exists_eq_right, true_and, and_true, true_or, or_true, decide_eq_true_eq, if_true, if_false, reduceIte, Nat.reduceAdd, Nat.reduceSub, Nat.zero_add, Option.bind_some, List.map_nil, resD]
    simp
    exact q
section
variable {L : Tx} {A B : List Row} {E F : List Int}
abbrev mD (L : Tx) (A : List Row) (E : List Int) : D := .ins "Machine" (mach L A E)
def best (L : Tx) (A : List Row) (E : List Int) (B : List Row) (F : List Int) (e : Bool) : D := resD (run L A E B F e ((A.length + 1) * (B.length + 1)) 0 [(0, 0)] [([], 0, 0)])
theorem parting_ok (hL : L.length ≤ 4) (gA : Good L A E) (gB : Good L B F) (x : Exn → Prop) (Q : T → Prop) (hQ : Q (.d (best L A E B F true))) : f_parting_word [.d (mD L A E), .d (mD L B F)] x Q := by
  unfold f_parting_word d_parting_word
  simp only [↓semOf, ↓toB, ↓sNext, ↓sSeq, ↓sSet, ↓sIf, ↓sRet, ↓sRetN, ↓sPart, ↓sExpr, ↓sBreak, ↓sCont, ↓tAnd, ↓tOr, ↓tNot, ↓tB, ↓dBin, ↓dUn, ↓dVar, ↓dC, ↓dIf, ↓dAnd, ↓dOr, ↓dNot, ↓dCall, ↓dNext, ↓look, ↓esc, ↓Y.bind, ↓arg, ↓iv, ↓bv, ↓sv, ↓oAdd, ↓oSub, ↓oMul, ↓oDiv, ↓oMod, ↓oPow, ↓oNeg, ↓oEq, ↓oNe, ↓oLt, ↓oLe, ↓oGt, ↓oGe, ↓oLen, ↓oIx, ↓oInt, ↓dLst, ↓dTup, ↓aNil, ↓aCons, ↓datas, ↓dStC, ↓dStI, ↓sStPut, ↓scalD, ↓D.eqv, ↓MO.data, ↓oIsN, ↓oNotN, ↓isN, ↓oTuple, ↓oIn, ↓oAbs, ↓dFld, ↓sFld, ↓initOf, ↓dMake, ↓dLc, ↓iOf, ↓items, ↓iEnum, ↓iRange1, ↓sFor, ↓gName, ↓gTup, ↓gTup.go, ↓sRaise0, ↓isTup, ↓sAppend, ↓sStore, ↓sAugAdd, ↓dNewT, ↓dDispT, ↓sDput, ↓putAtM, ↓oDin, ↓oDix, ↓atD, ↓toKeys, ↓toKey, ↓sFrz, ↓oIsi, ↓tyName, ↓isiB, ↓dIndexL, ↓dRowsLen, ↓dRowsIx, ↓dRowsCopy, ↓sRowsPut, ↓sRowsApp, ↓sRows1, ↓sRowsLc, ↓sFrz, ↓sRowsFix, ↓isRows, List.map_cons, List.map_nil, List.length_cons, List.length_nil, List.replicate, List.cons_append, List.nil_append, List.getElem?_cons_zero, List.getElem?_cons_succ, List.set_cons_zero, List.set_cons_succ, Option.map_some, T.d.injEq, D.bl.injEq, D.int.injEq, Option.some.injEq, exists_eq_left', exists_eq_left, exists_eq_right, true_and, and_true, true_or, or_true, decide_eq_true_eq, if_true, if_false, reduceIte, Nat.reduceAdd, Nat.reduceSub, Nat.zero_add, Option.bind_some, List.map_nil, mD]
  exact fd_ok hL gA gB _ _ hQ
theorem extra_ok (hL : L.length ≤ 4) (gA : Good L A E) (gB : Good L B F) (x : Exn → Prop) (Q : T → Prop) (hQ : Q (.d (best L A E B F false))) : f_extra_word [.d (mD L A E), .d (mD L B F)] x Q := by
  unfold f_extra_word d_extra_word
  simp only [↓semOf, ↓toB, ↓sNext, ↓sSeq, ↓sSet, ↓sIf, ↓sRet, ↓sRetN, ↓sPart, ↓sExpr, ↓sBreak, ↓sCont, ↓tAnd, ↓tOr, ↓tNot, ↓tB, ↓dBin, ↓dUn, ↓dVar, ↓dC, ↓dIf, ↓dAnd, ↓dOr, ↓dNot, ↓dCall, ↓dNext, ↓look, ↓esc, ↓Y.bind, ↓arg, ↓iv, ↓bv, ↓sv, ↓oAdd, ↓oSub, ↓oMul, ↓oDiv, ↓oMod, ↓oPow, ↓oNeg, ↓oEq, ↓oNe, ↓oLt, ↓oLe, ↓oGt, ↓oGe, ↓oLen, ↓oIx, ↓oInt, ↓dLst, ↓dTup, ↓aNil, ↓aCons, ↓datas, ↓dStC, ↓dStI, ↓sStPut, ↓scalD, ↓D.eqv, ↓MO.data, ↓oIsN, ↓oNotN, ↓isN, ↓oTuple, ↓oIn, ↓oAbs, ↓dFld, ↓sFld, ↓initOf, ↓dMake, ↓dLc, ↓iOf, ↓items, ↓iEnum, ↓iRange1, ↓sFor, ↓gName, ↓gTup, ↓gTup.go, ↓sRaise0, ↓isTup, ↓sAppend, ↓sStore, ↓sAugAdd, ↓dNewT, ↓dDispT, ↓sDput, ↓putAtM, ↓oDin, ↓oDix, ↓atD, ↓toKeys, ↓toKey, ↓sFrz, ↓oIsi, ↓tyName, ↓isiB, ↓dIndexL, ↓dRowsLen, ↓dRowsIx, ↓dRowsCopy, ↓sRowsPut, ↓sRowsApp, ↓sRows1, ↓sRowsLc, ↓sFrz, ↓sRowsFix, ↓isRows, List.map_cons, List.map_nil, List.length_cons, List.length_nil, List.replicate, List.cons_append, List.nil_append, List.getElem?_cons_zero, List.getElem?_cons_succ, List.set_cons_zero, List.set_cons_succ, Option.map_some, T.d.injEq, D.bl.injEq, D.int.injEq, Option.some.injEq, exists_eq_left', exists_eq_left, exists_eq_right, true_and, and_true, true_or, or_true, decide_eq_true_eq, if_true, if_false, reduceIte, Nat.reduceAdd, Nat.reduceSub, Nat.zero_add, Option.bind_some, List.map_nil, mD]
  exact fd_ok hL gA gB _ _ hQ
theorem firstw_ok (hm : L ∈ LS ++ OS) (hL : L.length ≤ 4) (gA : Good L A E) (x : Exn → Prop) (Q : T → Prop) (hQ : Q (.d (best L A E [missing L] [] false))) : f_first_word [.d (mD L A E)] x Q := by
  unfold f_first_word d_first_word
  simp only [↓semOf, ↓toB, ↓sNext, ↓sSeq, ↓sSet, ↓sIf, ↓sRet, ↓sRetN, ↓sPart, ↓sExpr, ↓sBreak, ↓sCont, ↓tAnd, ↓tOr, ↓tNot, ↓tB, ↓dBin, ↓dUn, ↓dVar, ↓dC, ↓dIf, ↓dAnd, ↓dOr, ↓dNot, ↓dCall, ↓dNext, ↓look, ↓esc, ↓Y.bind, ↓arg, ↓iv, ↓bv, ↓sv, ↓oAdd, ↓oSub, ↓oMul, ↓oDiv, ↓oMod, ↓oPow, ↓oNeg, ↓oEq, ↓oNe, ↓oLt, ↓oLe, ↓oGt, ↓oGe, ↓oLen, ↓oIx, ↓oInt, ↓dLst, ↓dTup, ↓aNil, ↓aCons, ↓datas, ↓dStC, ↓dStI, ↓sStPut, ↓scalD, ↓D.eqv, ↓MO.data, ↓oIsN, ↓oNotN, ↓isN, ↓oTuple, ↓oIn, ↓oAbs, ↓dFld, ↓sFld, ↓initOf, ↓dMake, ↓dLc, ↓iOf, ↓items, ↓iEnum, ↓iRange1, ↓sFor, ↓gName, ↓gTup, ↓gTup.go, ↓sRaise0, ↓isTup, ↓sAppend, ↓sStore, ↓sAugAdd, ↓dNewT, ↓dDispT, ↓sDput, ↓putAtM, ↓oDin, ↓oDix, ↓atD, ↓toKeys, ↓toKey, ↓sFrz, ↓oIsi, ↓tyName, ↓isiB, ↓dIndexL, ↓dRowsLen, ↓dRowsIx, ↓dRowsCopy, ↓sRowsPut, ↓sRowsApp, ↓sRows1, ↓sRowsLc, ↓sFrz, ↓sRowsFix, ↓isRows, List.map_cons, List.map_nil, List.length_cons, List.length_nil, List.replicate, List.cons_append, List.nil_append, List.getElem?_cons_zero, List.getElem?_cons_succ, List.set_cons_zero, List.set_cons_succ, Option.map_some, T.d.injEq, D.bl.injEq, D.int.injEq, Option.some.injEq, exists_eq_left', exists_eq_left, exists_eq_right, true_and, and_true, true_or, or_true, decide_eq_true_eq, if_true, if_false, reduceIte, Nat.reduceAdd, Nat.reduceSub, Nat.zero_add, Option.bind_some, List.map_nil, mD, mach]
  refine ⟨by decide, _, rfl, ?_⟩
  refine nothing_ok hm _ _ ?_
  simp only [↓semOf, ↓toB, ↓sNext, ↓sSeq, ↓sSet, ↓sIf, ↓sRet, ↓sRetN, ↓sPart, ↓sExpr, ↓sBreak, ↓sCont, ↓tAnd, ↓tOr, ↓tNot, ↓tB, ↓dBin, ↓dUn, ↓dVar, ↓dC, ↓dIf, ↓dAnd, ↓dOr, ↓dNot, ↓dCall, ↓dNext, ↓look, ↓esc, ↓Y.bind, ↓arg, ↓iv, ↓bv, ↓sv, ↓oAdd, ↓oSub, ↓oMul, ↓oDiv, ↓oMod, ↓oPow, ↓oNeg, ↓oEq, ↓oNe, ↓oLt, ↓oLe, ↓oGt, ↓oGe, ↓oLen, ↓oIx, ↓oInt, ↓dLst, ↓dTup, ↓aNil, ↓aCons, ↓datas, ↓dStC, ↓dStI, ↓sStPut, ↓scalD, ↓D.eqv, ↓MO.data, ↓oIsN, ↓oNotN, ↓isN, ↓oTuple, ↓oIn, ↓oAbs, ↓dFld, ↓sFld, ↓initOf, ↓dMake, ↓dLc, ↓iOf, ↓items, ↓iEnum, ↓iRange1, ↓sFor, ↓gName, ↓gTup, ↓gTup.go, ↓sRaise0, ↓isTup, ↓sAppend, ↓sStore, ↓sAugAdd, ↓dNewT, ↓dDispT, ↓sDput, ↓putAtM, ↓oDin, ↓oDix, ↓atD, ↓toKeys, ↓toKey, ↓sFrz, ↓oIsi, ↓tyName, ↓isiB, ↓dIndexL, ↓dRowsLen, ↓dRowsIx, ↓dRowsCopy, ↓sRowsPut, ↓sRowsApp, ↓sRows1, ↓sRowsLc, ↓sFrz, ↓sRowsFix, ↓isRows, List.map_cons, List.map_nil, List.length_cons, List.length_nil, List.replicate, List.cons_append, List.nil_append, List.getElem?_cons_zero, List.getElem?_cons_succ, List.set_cons_zero, List.set_cons_succ, Option.map_some, T.d.injEq, D.bl.injEq, D.int.injEq, Option.some.injEq, exists_eq_left', exists_eq_left, exists_eq_right, true_and, and_true, true_or, or_true, decide_eq_true_eq, if_true, if_false, reduceIte, Nat.reduceAdd, Nat.reduceSub, Nat.zero_add, Option.bind_some, List.map_nil]
  exact fd_ok hL gA (good_none L) _ _ hQ
theorem fd_bad {L' : Tx} (h : L ≠ L') {e : Bool} (x : Exn → Prop) (Q : T → Prop) (hQ : x ⟨"BadLetters", []⟩) : f_first_difference [.d (mD L A E), .d (mD L' B F), .d (.bl e)] x Q := by
  unfold f_first_difference d_first_difference f_check_same_letters d_check_same_letters
  simp only [↓semOf, ↓toB, ↓sNext, ↓sSeq, ↓sSet, ↓sIf, ↓sRet, ↓sRetN, ↓sPart, ↓sExpr, ↓sBreak, ↓sCont, ↓tAnd, ↓tOr, ↓tNot, ↓tB, ↓dBin, ↓dUn, ↓dVar, ↓dC, ↓dIf, ↓dAnd, ↓dOr, ↓dNot, ↓dCall, ↓dNext, ↓look, ↓esc, ↓Y.bind, ↓arg, ↓iv, ↓bv, ↓sv, ↓oAdd, ↓oSub, ↓oMul, ↓oDiv, ↓oMod, ↓oPow, ↓oNeg, ↓oEq, ↓oNe, ↓oLt, ↓oLe, ↓oGt, ↓oGe, ↓oLen, ↓oIx, ↓oInt, ↓dLst, ↓dTup, ↓aNil, ↓aCons, ↓datas, ↓dStC, ↓dStI, ↓sStPut, ↓scalD, ↓D.eqv, ↓MO.data, ↓oIsN, ↓oNotN, ↓isN, ↓oTuple, ↓oIn, ↓oAbs, ↓dFld, ↓sFld, ↓initOf, ↓dMake, ↓dLc, ↓iOf, ↓items, ↓iEnum, ↓iRange1, ↓sFor, ↓gName, ↓gTup, ↓gTup.go, ↓sRaise0, ↓isTup, ↓sAppend, ↓sStore, ↓sAugAdd, ↓dNewT, ↓dDispT, ↓sDput, ↓putAtM, ↓oDin, ↓oDix, ↓atD, ↓toKeys, ↓toKey, ↓sFrz, ↓oIsi, ↓tyName, ↓isiB, ↓dIndexL, ↓dRowsLen, ↓dRowsIx, ↓dRowsCopy, ↓sRowsPut, ↓sRowsApp, ↓sRows1, ↓sRowsLc, ↓sFrz, ↓sRowsFix, ↓isRows, List.map_cons, List.map_nil, List.length_cons, List.length_nil, List.replicate, List.cons_append, List.nil_append, List.getElem?_cons_zero, List.getElem?_cons_succ, List.set_cons_zero, List.set_cons_succ, Option.map_some, T.d.injEq, D.bl.injEq, D.int.injEq, Option.some.injEq, exists_eq_left', exists_eq_left, exists_eq_right, true_and, and_true, true_or, or_true, decide_eq_true_eq, if_true, if_false, reduceIte, Nat.reduceAdd, Nat.reduceSub, Nat.zero_add, Option.bind_some, List.map_nil, mD, mach]
  refine ⟨by decide, _, rfl, by decide, _, rfl, ?_⟩
  simp only [↓semOf, ↓toB, ↓sNext, ↓sSeq, ↓sSet, ↓sIf, ↓sRet, ↓sRetN, ↓sPart, ↓sExpr, ↓sBreak, ↓sCont, ↓tAnd, ↓tOr, ↓tNot, ↓tB, ↓dBin, ↓dUn, ↓dVar, ↓dC, ↓dIf, ↓dAnd, ↓dOr, ↓dNot, ↓dCall, ↓dNext, ↓look, ↓esc, ↓Y.bind, ↓arg, ↓iv, ↓bv, ↓sv, ↓oAdd, ↓oSub, ↓oMul, ↓oDiv, ↓oMod, ↓oPow, ↓oNeg, ↓oEq, ↓oNe, ↓oLt, ↓oLe, ↓oGt, ↓oGe, ↓oLen, ↓oIx, ↓oInt, ↓dLst, ↓dTup, ↓aNil, ↓aCons, ↓datas, ↓dStC, ↓dStI, ↓sStPut, ↓scalD, ↓D.eqv, ↓MO.data, ↓oIsN, ↓oNotN, ↓isN, ↓oTuple, ↓oIn, ↓oAbs, ↓dFld, ↓sFld, ↓initOf, ↓dMake, ↓dLc, ↓iOf, ↓items, ↓iEnum, ↓iRange1, ↓sFor, ↓gName, ↓gTup, ↓gTup.go, ↓sRaise0, ↓isTup, ↓sAppend, ↓sStore, ↓sAugAdd, ↓dNewT, ↓dDispT, ↓sDput, ↓putAtM, ↓oDin, ↓oDix, ↓atD, ↓toKeys, ↓toKey, ↓sFrz, ↓oIsi, ↓tyName, ↓isiB, ↓dIndexL, ↓dRowsLen, ↓dRowsIx, ↓dRowsCopy, ↓sRowsPut, ↓sRowsApp, ↓sRows1, ↓sRowsLc, ↓sFrz, ↓sRowsFix, ↓isRows, List.map_cons, List.map_nil, List.length_cons, List.length_nil, List.replicate, List.cons_append, List.nil_append, List.getElem?_cons_zero, List.getElem?_cons_succ, List.set_cons_zero, List.set_cons_succ, Option.map_some, T.d.injEq, D.bl.injEq, D.int.injEq, Option.some.injEq, exists_eq_left', exists_eq_left, exists_eq_right, true_and, and_true, true_or, or_true, decide_eq_true_eq, if_true, if_false, reduceIte, Nat.reduceAdd, Nat.reduceSub, Nat.zero_add, Option.bind_some, List.map_nil]
  exact Eq.mpr (if_pos (by simp [h])) hQ
theorem refused_ok {L' : Tx} (h : L ≠ L') (p : Bool) (x : Exn → Prop) (Q : T → Prop) (hQ : Q (.d (.bl true))) : f__law_refused [.d (mD L A E), .d (mD L' B F), .d (.bl p)] x Q := by
  unfold f__law_refused d__law_refused f_parting_word d_parting_word f_extra_word d_extra_word
  simp only [↓semOf, ↓toB, ↓sNext, ↓sSeq, ↓sSet, ↓sIf, ↓sRet, ↓sRetN, ↓sPart, ↓sExpr, ↓sBreak, ↓sCont, ↓tAnd, ↓tOr, ↓tNot, ↓tB, ↓dBin, ↓dUn, ↓dVar, ↓dC, ↓dIf, ↓dAnd, ↓dOr, ↓dNot, ↓dCall, ↓dNext, ↓look, ↓esc, ↓Y.bind, ↓arg, ↓iv, ↓bv, ↓sv, ↓oAdd, ↓oSub, ↓oMul, ↓oDiv, ↓oMod, ↓oPow, ↓oNeg, ↓oEq, ↓oNe, ↓oLt, ↓oLe, ↓oGt, ↓oGe, ↓oLen, ↓oIx, ↓oInt, ↓dLst, ↓dTup, ↓aNil, ↓aCons, ↓datas, ↓dStC, ↓dStI, ↓sStPut, ↓scalD, ↓D.eqv, ↓MO.data, ↓oIsN, ↓oNotN, ↓isN, ↓oTuple, ↓oIn, ↓oAbs, ↓dFld, ↓sFld, ↓initOf, ↓dMake, ↓dLc, ↓iOf, ↓items, ↓iEnum, ↓iRange1, ↓sFor, ↓gName, ↓gTup, ↓gTup.go, ↓sRaise0, ↓isTup, ↓sAppend, ↓sStore, ↓sAugAdd, ↓dNewT, ↓dDispT, ↓sDput, ↓putAtM, ↓oDin, ↓oDix, ↓atD, ↓toKeys, ↓toKey, ↓sFrz, ↓oIsi, ↓tyName, ↓isiB, ↓dIndexL, ↓dRowsLen, ↓dRowsIx, ↓dRowsCopy, ↓sRowsPut, ↓sRowsApp, ↓sRows1, ↓sRowsLc, ↓sFrz, ↓sRowsFix, ↓isRows, List.map_cons, List.map_nil, List.length_cons, List.length_nil, List.replicate, List.cons_append, List.nil_append, List.getElem?_cons_zero, List.getElem?_cons_succ, List.set_cons_zero, List.set_cons_succ, Option.map_some, T.d.injEq, D.bl.injEq, D.int.injEq, Option.some.injEq, exists_eq_left', exists_eq_left, exists_eq_right, true_and, and_true, true_or, or_true, decide_eq_true_eq, if_true, if_false, reduceIte, Nat.reduceAdd, Nat.reduceSub, Nat.zero_add, Option.bind_some, List.map_nil, mD, sTry, noExn, dIsE]
  refine ⟨rfl, ?_⟩
  have key : ∀ (R : Exn → Prop) (K : T → Prop) (e : Bool), R ⟨"BadLetters", []⟩ → f_first_difference [.d (mD L A E), .d (mD L' B F), .d (.bl e)] R K := fun R K e hR => fd_bad h R K hR
  cases p
  · rw [if_neg Bool.false_ne_true]
    refine key _ _ _ ?_
    simp [List.lookup]
    exact hQ
  · rw [if_pos rfl]
    refine key _ _ _ ?_
    simp [List.lookup]
    exact hQ
end
theorem copy_lc {A : List Row} {g : DG} {vs : List Nat} {i : Nat} {Q : T → En → Prop} {ρ : En} (hz : A.length ≤ SZ) (hs : ∀ (r : Row) (k1 : D → En → Prop), k1 (rowD r) ρ → g (rowD r) (wipeD ρ vs) fun ρ1 => dUn oListS (dVar i) ρ1 noX fun t ρ3 => esc t ρ3 fun y ρ4 => k1 y (unwipe ρ vs ρ4))
    (he : Q (.own (.lst (A.map rowD))) ρ) : lcL g tYes (dUn oListS (dVar i)) vs Q (A.map rowD) [] ρ := by
  refine lcL_map (fun d => d) (by rw [List.length_map]; exact hz) (fun d hd k1 hk => ?_) ?_
  · obtain ⟨r, _, rfl⟩ := List.mem_map.mp hd
    exact hs r k1 hk
  · exact (List.map_id (A.map rowD)).symm ▸ he
theorem tup_lc {A : List Row} {g : DG} {vs : List Nat} {i : Nat} {Q : T → En → Prop} {ρ : En} (hz : A.length ≤ SZ) (hs : ∀ (r : Row) (k1 : D → En → Prop), k1 (rowT r) ρ → g (rowD r) (wipeD ρ vs) fun ρ1 => dUn oTuple (dVar i) ρ1 noX fun t ρ3 => esc t ρ3 fun y ρ4 => k1 y (unwipe ρ vs ρ4))
    (he : Q (.own (.lst (A.map rowT))) ρ) : lcL g tYes (dUn oTuple (dVar i)) vs Q (A.map rowD) [] ρ := by
  refine lcL_map (fun d => match d with | .lst xs => .tup xs | d => d) (by rw [List.length_map]; exact hz) (fun d hd k1 hk => ?_) ?_
  · obtain ⟨r, _, rfl⟩ := List.mem_map.mp hd
    exact hs r k1 hk
  · rw [List.map_map]; exact he
def LSD : List D := [.str [97, 98], .str [97], .str [97, 98, 99], .str [98, 100], .str [97, 99, 122], .str [97, 98, 99, 100]]
abbrev wEnv (L : Tx) (b3 b4 b5 b6 b7 b8 b9 b10 b11 b12 b13 : Option Y.B) : En := [none, some .st, some (.d (.str L)), b3, b4, b5, b6, b7, b8, b9, b10, b11, b12, b13, none, none, none]
section
variable {L : Tx} {Z0 : DEnds}
theorem law9 {n : Int} (h1 : 1 ≤ n) (h2 : n ≤ 40) (h : ∀ n : Int, 1 ≤ n → n ≤ 40 → Z0.nx (wEnv L (some (.d (.int n))) none none none none none none none none none none)) : d_law_9 Z0 (wEnv L (some (.d (.int n))) none none none none none none none none none none) := by
  unfold d_law_9
  simp only [↓semOf, ↓toB, ↓sNext, ↓sSeq, ↓sSet, ↓sIf, ↓sRet, ↓sRetN, ↓sPart, ↓sExpr, ↓sBreak, ↓sCont, ↓tAnd, ↓tOr, ↓tNot, ↓tB, ↓dBin, ↓dUn, ↓dVar, ↓dC, ↓dIf, ↓dAnd, ↓dOr, ↓dNot, ↓dCall, ↓dNext, ↓look, ↓esc, ↓Y.bind, ↓arg, ↓iv, ↓bv, ↓sv, ↓oAdd, ↓oSub, ↓oMul, ↓oDiv, ↓oMod, ↓oPow, ↓oNeg, ↓oEq, ↓oNe, ↓oLt, ↓oLe, ↓oGt, ↓oGe, ↓oLen, ↓oIx, ↓oInt, ↓dLst, ↓dTup, ↓aNil, ↓aCons, ↓datas, ↓dStC, ↓dStI, ↓sStPut, ↓scalD, ↓D.eqv, ↓MO.data, ↓oIsN, ↓oNotN, ↓isN, ↓oTuple, ↓oIn, ↓oAbs, ↓dFld, ↓sFld, ↓initOf, ↓dMake, ↓dLc, ↓iOf, ↓items, ↓iEnum, ↓iRange1, ↓sFor, ↓gName, ↓gTup, ↓gTup.go, ↓sRaise0, ↓isTup, ↓sAppend, ↓sStore, ↓sAugAdd, ↓dNewT, ↓dDispT, ↓sDput, ↓putAtM, ↓oDin, ↓oDix, ↓atD, ↓toKeys, ↓toKey, ↓sFrz, ↓oIsi, ↓tyName, ↓isiB, ↓dIndexL, ↓dRowsLen, ↓dRowsIx, ↓dRowsCopy, ↓sRowsPut, ↓sRowsApp, ↓sRows1, ↓sRowsLc, ↓sFrz, ↓sRowsFix, ↓isRows, List.map_cons, List.map_nil, List.length_cons, List.length_nil, List.replicate, List.cons_append, List.nil_append, List.getElem?_cons_zero, List.getElem?_cons_succ, List.set_cons_zero, List.set_cons_succ, Option.map_some, T.d.injEq, D.bl.injEq, D.int.injEq, Option.some.injEq, exists_eq_left', exists_eq_left, exists_eq_right, true_and, and_true, true_or, or_true, decide_eq_true_eq, if_true, if_false, reduceIte, Nat.reduceAdd, Nat.reduceSub, Nat.zero_add, Option.bind_some, List.map_nil, wEnv]
  refine ⟨by decide, fun r r0 r1 => ?_⟩
  split
  · refine ⟨by decide, fun v v0 v1 => h _ (by omega) (by omega)⟩
  · exact h n h1 h2
theorem law8 (hL : L ∈ LS) {A : List Row} {E : List Int} (g : Good L A E) (b3 : Option Y.B) (hrt : Z0.rt (.d (.bl true)))
    (h : Z0.nx (wEnv L b3 (some (.d (.lst (A.map rowD)))) (some (.d (.lst (E.map D.int)))) (some (.d (pairD A E))) (some (.own (.ins "Machine" (mach L A E)))) none none none none none none)) :
    d_law_8 Z0 (wEnv L b3 (some (.d (.lst (A.map rowD)))) (some (.d (.lst (E.map D.int)))) (some (.d (pairD A E))) (some (.own (.ins "Machine" (mach L A E)))) none none none none none none) := by
  have hS : A.length ≤ SZ := Nat.le_trans g.sz (by decide)
  unfold d_law_8
  simp only [↓semOf, ↓toB, ↓sNext, ↓sSeq, ↓sSet, ↓sIf, ↓sRet, ↓sRetN, ↓sPart, ↓sExpr, ↓sBreak, ↓sCont, ↓tAnd, ↓tOr, ↓tNot, ↓tB, ↓dBin, ↓dUn, ↓dVar, ↓dC, ↓dIf, ↓dAnd, ↓dOr, ↓dNot, ↓dCall, ↓dNext, ↓look, ↓esc, ↓Y.bind, ↓arg, ↓iv, ↓bv, ↓sv, ↓oAdd, ↓oSub, ↓oMul, ↓oDiv, ↓oMod, ↓oPow, ↓oNeg, ↓oEq, ↓oNe, ↓oLt, ↓oLe, ↓oGt, ↓oGe, ↓oLen, ↓oIx, ↓oInt, ↓dLst, ↓dTup, ↓aNil, ↓aCons, ↓datas, ↓dStC, ↓dStI, ↓sStPut, ↓scalD, ↓D.eqv, ↓MO.data, ↓oIsN, ↓oNotN, ↓isN, ↓oTuple, ↓oIn, ↓oAbs, ↓dFld, ↓sFld, ↓initOf, ↓dMake, ↓dLc, ↓iOf, ↓items, ↓iEnum, ↓iRange1, ↓sFor, ↓gName, ↓gTup, ↓gTup.go, ↓sRaise0, ↓isTup, ↓sAppend, ↓sStore, ↓sAugAdd, ↓dNewT, ↓dDispT, ↓sDput, ↓putAtM, ↓oDin, ↓oDix, ↓atD, ↓toKeys, ↓toKey, ↓sFrz, ↓oIsi, ↓tyName, ↓isiB, ↓dIndexL, ↓dRowsLen, ↓dRowsIx, ↓dRowsCopy, ↓sRowsPut, ↓sRowsApp, ↓sRows1, ↓sRowsLc, ↓sFrz, ↓sRowsFix, ↓isRows, List.map_cons, List.map_nil, List.length_cons, List.length_nil, List.replicate, List.cons_append, List.nil_append, List.getElem?_cons_zero, List.getElem?_cons_succ, List.set_cons_zero, List.set_cons_succ, Option.map_some, T.d.injEq, D.bl.injEq, D.int.injEq, Option.some.injEq, exists_eq_left', exists_eq_left, exists_eq_right, true_and, and_true, true_or, or_true, decide_eq_true_eq, if_true, if_false, reduceIte, Nat.reduceAdd, Nat.reduceSub, Nat.zero_add, Option.bind_some, List.map_nil, wEnv]
  refine ⟨by decide, fun r r0 r1 => ?_⟩
  split
  · obtain ⟨O, hO, hOl, hne, j, hj, hOj⟩ : ∃ O, O ∈ LS ++ OS ∧ O.length = L.length ∧ L ≠ O ∧ ∃ j : Nat, List.findIdx? (fun y => D.eqv y (.str L)) LSD = some j ∧ ([.str [120, 121], .str [113], .str [120, 121, 122], .str [98, 101], .str [98, 99, 122], .str [97, 98, 99, 122]] : List D)[j]? = some (.str O) ∧ j < 6 := by
      simp only [LS, List.mem_cons, List.mem_nil_iff, or_false] at hL
      rcases hL with rfl | rfl | rfl | rfl | rfl | rfl
      · exact ⟨[120, 121], by decide, rfl, by decide, 0, rfl, rfl, by decide⟩
      · exact ⟨[113], by decide, rfl, by decide, 1, rfl, rfl, by decide⟩
      · exact ⟨[120, 121, 122], by decide, rfl, by decide, 2, rfl, rfl, by decide⟩
      · exact ⟨[98, 101], by decide, rfl, by decide, 3, rfl, rfl, by decide⟩
      · exact ⟨[98, 99, 122], by decide, rfl, by decide, 4, rfl, rfl, by decide⟩
      · exact ⟨[97, 98, 99, 122], by decide, rfl, by decide, 5, rfl, rfl, by decide⟩
    have gO : Good O A E := ⟨g.ne, g.sz, fun r hr => by rw [hOl]; exact g.rows r hr, g.ends, g.endr⟩
    refine ⟨by decide, by decide, ⟨_, rfl⟩, rfl, rfl, j, hj, j, _, ixOf_nat hOj.2, hOj.1, ?_⟩
    refine ⟨rfl, copy_lc hS (fun r k1 hk => hk) ?_⟩
    simp only [↓semOf, ↓toB, ↓sNext, ↓sSeq, ↓sSet, ↓sIf, ↓sRet, ↓sRetN, ↓sPart, ↓sExpr, ↓sBreak, ↓sCont, ↓tAnd, ↓tOr, ↓tNot, ↓tB, ↓dBin, ↓dUn, ↓dVar, ↓dC, ↓dIf, ↓dAnd, ↓dOr, ↓dNot, ↓dCall, ↓dNext, ↓look, ↓esc, ↓Y.bind, ↓arg, ↓iv, ↓bv, ↓sv, ↓oAdd, ↓oSub, ↓oMul, ↓oDiv, ↓oMod, ↓oPow, ↓oNeg, ↓oEq, ↓oNe, ↓oLt, ↓oLe, ↓oGt, ↓oGe, ↓oLen, ↓oIx, ↓oInt, ↓dLst, ↓dTup, ↓aNil, ↓aCons, ↓datas, ↓dStC, ↓dStI, ↓sStPut, ↓scalD, ↓D.eqv, ↓MO.data, ↓oIsN, ↓oNotN, ↓isN, ↓oTuple, ↓oIn, ↓oAbs, ↓dFld, ↓sFld, ↓initOf, ↓dMake, ↓dLc, ↓iOf, ↓items, ↓iEnum, ↓iRange1, ↓sFor, ↓gName, ↓gTup, ↓gTup.go, ↓sRaise0, ↓isTup, ↓sAppend, ↓sStore, ↓sAugAdd, ↓dNewT, ↓dDispT, ↓sDput, ↓putAtM, ↓oDin, ↓oDix, ↓atD, ↓toKeys, ↓toKey, ↓sFrz, ↓oIsi, ↓tyName, ↓isiB, ↓dIndexL, ↓dRowsLen, ↓dRowsIx, ↓dRowsCopy, ↓sRowsPut, ↓sRowsApp, ↓sRows1, ↓sRowsLc, ↓sFrz, ↓sRowsFix, ↓isRows, List.map_cons, List.map_nil, List.length_cons, List.length_nil, List.replicate, List.cons_append, List.nil_append, List.getElem?_cons_zero, List.getElem?_cons_succ, List.set_cons_zero, List.set_cons_succ, Option.map_some, T.d.injEq, D.bl.injEq, D.int.injEq, Option.some.injEq, exists_eq_left', exists_eq_left, exists_eq_right, true_and, and_true, true_or, or_true, decide_eq_true_eq, if_true, if_false, reduceIte, Nat.reduceAdd, Nat.reduceSub, Nat.zero_add, Option.bind_some, List.map_nil]
    refine init_ok hO gO _ _ ?_
    simp only [↓semOf, ↓toB, ↓sNext, ↓sSeq, ↓sSet, ↓sIf, ↓sRet, ↓sRetN, ↓sPart, ↓sExpr, ↓sBreak, ↓sCont, ↓tAnd, ↓tOr, ↓tNot, ↓tB, ↓dBin, ↓dUn, ↓dVar, ↓dC, ↓dIf, ↓dAnd, ↓dOr, ↓dNot, ↓dCall, ↓dNext, ↓look, ↓esc, ↓Y.bind, ↓arg, ↓iv, ↓bv, ↓sv, ↓oAdd, ↓oSub, ↓oMul, ↓oDiv, ↓oMod, ↓oPow, ↓oNeg, ↓oEq, ↓oNe, ↓oLt, ↓oLe, ↓oGt, ↓oGe, ↓oLen, ↓oIx, ↓oInt, ↓dLst, ↓dTup, ↓aNil, ↓aCons, ↓datas, ↓dStC, ↓dStI, ↓sStPut, ↓scalD, ↓D.eqv, ↓MO.data, ↓oIsN, ↓oNotN, ↓isN, ↓oTuple, ↓oIn, ↓oAbs, ↓dFld, ↓sFld, ↓initOf, ↓dMake, ↓dLc, ↓iOf, ↓items, ↓iEnum, ↓iRange1, ↓sFor, ↓gName, ↓gTup, ↓gTup.go, ↓sRaise0, ↓isTup, ↓sAppend, ↓sStore, ↓sAugAdd, ↓dNewT, ↓dDispT, ↓sDput, ↓putAtM, ↓oDin, ↓oDix, ↓atD, ↓toKeys, ↓toKey, ↓sFrz, ↓oIsi, ↓tyName, ↓isiB, ↓dIndexL, ↓dRowsLen, ↓dRowsIx, ↓dRowsCopy, ↓sRowsPut, ↓sRowsApp, ↓sRows1, ↓sRowsLc, ↓sFrz, ↓sRowsFix, ↓isRows, List.map_cons, List.map_nil, List.length_cons, List.length_nil, List.replicate, List.cons_append, List.nil_append, List.getElem?_cons_zero, List.getElem?_cons_succ, List.set_cons_zero, List.set_cons_succ, Option.map_some, T.d.injEq, D.bl.injEq, D.int.injEq, Option.some.injEq, exists_eq_left', exists_eq_left, exists_eq_right, true_and, and_true, true_or, or_true, decide_eq_true_eq, if_true, if_false, reduceIte, Nat.reduceAdd, Nat.reduceSub, Nat.zero_add, Option.bind_some, List.map_nil]
    unfold d_law_t7
    simp only [↓semOf, ↓toB, ↓sNext, ↓sSeq, ↓sSet, ↓sIf, ↓sRet, ↓sRetN, ↓sPart, ↓sExpr, ↓sBreak, ↓sCont, ↓tAnd, ↓tOr, ↓tNot, ↓tB, ↓dBin, ↓dUn, ↓dVar, ↓dC, ↓dIf, ↓dAnd, ↓dOr, ↓dNot, ↓dCall, ↓dNext, ↓look, ↓esc, ↓Y.bind, ↓arg, ↓iv, ↓bv, ↓sv, ↓oAdd, ↓oSub, ↓oMul, ↓oDiv, ↓oMod, ↓oPow, ↓oNeg, ↓oEq, ↓oNe, ↓oLt, ↓oLe, ↓oGt, ↓oGe, ↓oLen, ↓oIx, ↓oInt, ↓dLst, ↓dTup, ↓aNil, ↓aCons, ↓datas, ↓dStC, ↓dStI, ↓sStPut, ↓scalD, ↓D.eqv, ↓MO.data, ↓oIsN, ↓oNotN, ↓isN, ↓oTuple, ↓oIn, ↓oAbs, ↓dFld, ↓sFld, ↓initOf, ↓dMake, ↓dLc, ↓iOf, ↓items, ↓iEnum, ↓iRange1, ↓sFor, ↓gName, ↓gTup, ↓gTup.go, ↓sRaise0, ↓isTup, ↓sAppend, ↓sStore, ↓sAugAdd, ↓dNewT, ↓dDispT, ↓sDput, ↓putAtM, ↓oDin, ↓oDix, ↓atD, ↓toKeys, ↓toKey, ↓sFrz, ↓oIsi, ↓tyName, ↓isiB, ↓dIndexL, ↓dRowsLen, ↓dRowsIx, ↓dRowsCopy, ↓sRowsPut, ↓sRowsApp, ↓sRows1, ↓sRowsLc, ↓sFrz, ↓sRowsFix, ↓isRows, List.map_cons, List.map_nil, List.length_cons, List.length_nil, List.replicate, List.cons_append, List.nil_append, List.getElem?_cons_zero, List.getElem?_cons_succ, List.set_cons_zero, List.set_cons_succ, Option.map_some, T.d.injEq, D.bl.injEq, D.int.injEq, Option.some.injEq, exists_eq_left', exists_eq_left, exists_eq_right, true_and, and_true, true_or, or_true, decide_eq_true_eq, if_true, if_false, reduceIte, Nat.reduceAdd, Nat.reduceSub, Nat.zero_add, Option.bind_some, List.map_nil]
    refine refused_ok hne _ _ _ ?_
    simp only [↓semOf, ↓toB, ↓sNext, ↓sSeq, ↓sSet, ↓sIf, ↓sRet, ↓sRetN, ↓sPart, ↓sExpr, ↓sBreak, ↓sCont, ↓tAnd, ↓tOr, ↓tNot, ↓tB, ↓dBin, ↓dUn, ↓dVar, ↓dC, ↓dIf, ↓dAnd, ↓dOr, ↓dNot, ↓dCall, ↓dNext, ↓look, ↓esc, ↓Y.bind, ↓arg, ↓iv, ↓bv, ↓sv, ↓oAdd, ↓oSub, ↓oMul, ↓oDiv, ↓oMod, ↓oPow, ↓oNeg, ↓oEq, ↓oNe, ↓oLt, ↓oLe, ↓oGt, ↓oGe, ↓oLen, ↓oIx, ↓oInt, ↓dLst, ↓dTup, ↓aNil, ↓aCons, ↓datas, ↓dStC, ↓dStI, ↓sStPut, ↓scalD, ↓D.eqv, ↓MO.data, ↓oIsN, ↓oNotN, ↓isN, ↓oTuple, ↓oIn, ↓oAbs, ↓dFld, ↓sFld, ↓initOf, ↓dMake, ↓dLc, ↓iOf, ↓items, ↓iEnum, ↓iRange1, ↓sFor, ↓gName, ↓gTup, ↓gTup.go, ↓sRaise0, ↓isTup, ↓sAppend, ↓sStore, ↓sAugAdd, ↓dNewT, ↓dDispT, ↓sDput, ↓putAtM, ↓oDin, ↓oDix, ↓atD, ↓toKeys, ↓toKey, ↓sFrz, ↓oIsi, ↓tyName, ↓isiB, ↓dIndexL, ↓dRowsLen, ↓dRowsIx, ↓dRowsCopy, ↓sRowsPut, ↓sRowsApp, ↓sRows1, ↓sRowsLc, ↓sFrz, ↓sRowsFix, ↓isRows, List.map_cons, List.map_nil, List.length_cons, List.length_nil, List.replicate, List.cons_append, List.nil_append, List.getElem?_cons_zero, List.getElem?_cons_succ, List.set_cons_zero, List.set_cons_succ, Option.map_some, T.d.injEq, D.bl.injEq, D.int.injEq, Option.some.injEq, exists_eq_left', exists_eq_left, exists_eq_right, true_and, and_true, true_or, or_true, decide_eq_true_eq, if_true, if_false, reduceIte, Nat.reduceAdd, Nat.reduceSub, Nat.zero_add, Option.bind_some, List.map_nil]
    refine refused_ok (Ne.symm hne) _ _ _ ?_
    simp only [↓semOf, ↓toB, ↓sNext, ↓sSeq, ↓sSet, ↓sIf, ↓sRet, ↓sRetN, ↓sPart, ↓sExpr, ↓sBreak, ↓sCont, ↓tAnd, ↓tOr, ↓tNot, ↓tB, ↓dBin, ↓dUn, ↓dVar, ↓dC, ↓dIf, ↓dAnd, ↓dOr, ↓dNot, ↓dCall, ↓dNext, ↓look, ↓esc, ↓Y.bind, ↓arg, ↓iv, ↓bv, ↓sv, ↓oAdd, ↓oSub, ↓oMul, ↓oDiv, ↓oMod, ↓oPow, ↓oNeg, ↓oEq, ↓oNe, ↓oLt, ↓oLe, ↓oGt, ↓oGe, ↓oLen, ↓oIx, ↓oInt, ↓dLst, ↓dTup, ↓aNil, ↓aCons, ↓datas, ↓dStC, ↓dStI, ↓sStPut, ↓scalD, ↓D.eqv, ↓MO.data, ↓oIsN, ↓oNotN, ↓isN, ↓oTuple, ↓oIn, ↓oAbs, ↓dFld, ↓sFld, ↓initOf, ↓dMake, ↓dLc, ↓iOf, ↓items, ↓iEnum, ↓iRange1, ↓sFor, ↓gName, ↓gTup, ↓gTup.go, ↓sRaise0, ↓isTup, ↓sAppend, ↓sStore, ↓sAugAdd, ↓dNewT, ↓dDispT, ↓sDput, ↓putAtM, ↓oDin, ↓oDix, ↓atD, ↓toKeys, ↓toKey, ↓sFrz, ↓oIsi, ↓tyName, ↓isiB, ↓dIndexL, ↓dRowsLen, ↓dRowsIx, ↓dRowsCopy, ↓sRowsPut, ↓sRowsApp, ↓sRows1, ↓sRowsLc, ↓sFrz, ↓sRowsFix, ↓isRows, List.map_cons, List.map_nil, List.length_cons, List.length_nil, List.replicate, List.cons_append, List.nil_append, List.getElem?_cons_zero, List.getElem?_cons_succ, List.set_cons_zero, List.set_cons_succ, Option.map_some, T.d.injEq, D.bl.injEq, D.int.injEq, Option.some.injEq, exists_eq_left', exists_eq_left, exists_eq_right, true_and, and_true, true_or, or_true, decide_eq_true_eq, if_true, if_false, reduceIte, Nat.reduceAdd, Nat.reduceSub, Nat.zero_add, Option.bind_some, List.map_nil]
    unfold d_law_t6
    simp only [↓semOf, ↓toB, ↓sNext, ↓sSeq, ↓sSet, ↓sIf, ↓sRet, ↓sRetN, ↓sPart, ↓sExpr, ↓sBreak, ↓sCont, ↓tAnd, ↓tOr, ↓tNot, ↓tB, ↓dBin, ↓dUn, ↓dVar, ↓dC, ↓dIf, ↓dAnd, ↓dOr, ↓dNot, ↓dCall, ↓dNext, ↓look, ↓esc, ↓Y.bind, ↓arg, ↓iv, ↓bv, ↓sv, ↓oAdd, ↓oSub, ↓oMul, ↓oDiv, ↓oMod, ↓oPow, ↓oNeg, ↓oEq, ↓oNe, ↓oLt, ↓oLe, ↓oGt, ↓oGe, ↓oLen, ↓oIx, ↓oInt, ↓dLst, ↓dTup, ↓aNil, ↓aCons, ↓datas, ↓dStC, ↓dStI, ↓sStPut, ↓scalD, ↓D.eqv, ↓MO.data, ↓oIsN, ↓oNotN, ↓isN, ↓oTuple, ↓oIn, ↓oAbs, ↓dFld, ↓sFld, ↓initOf, ↓dMake, ↓dLc, ↓iOf, ↓items, ↓iEnum, ↓iRange1, ↓sFor, ↓gName, ↓gTup, ↓gTup.go, ↓sRaise0, ↓isTup, ↓sAppend, ↓sStore, ↓sAugAdd, ↓dNewT, ↓dDispT, ↓sDput, ↓putAtM, ↓oDin, ↓oDix, ↓atD, ↓toKeys, ↓toKey, ↓sFrz, ↓oIsi, ↓tyName, ↓isiB, ↓dIndexL, ↓dRowsLen, ↓dRowsIx, ↓dRowsCopy, ↓sRowsPut, ↓sRowsApp, ↓sRows1, ↓sRowsLc, ↓sFrz, ↓sRowsFix, ↓isRows, List.map_cons, List.map_nil, List.length_cons, List.length_nil, List.replicate, List.cons_append, List.nil_append, List.getElem?_cons_zero, List.getElem?_cons_succ, List.set_cons_zero, List.set_cons_succ, Option.map_some, T.d.injEq, D.bl.injEq, D.int.injEq, Option.some.injEq, exists_eq_left', exists_eq_left, exists_eq_right, true_and, and_true, true_or, or_true, decide_eq_true_eq, if_true, if_false, reduceIte, Nat.reduceAdd, Nat.reduceSub, Nat.zero_add, Option.bind_some, List.map_nil]
    refine refused_ok hne _ _ _ ?_
    simp only [↓semOf, ↓toB, ↓sNext, ↓sSeq, ↓sSet, ↓sIf, ↓sRet, ↓sRetN, ↓sPart, ↓sExpr, ↓sBreak, ↓sCont, ↓tAnd, ↓tOr, ↓tNot, ↓tB, ↓dBin, ↓dUn, ↓dVar, ↓dC, ↓dIf, ↓dAnd, ↓dOr, ↓dNot, ↓dCall, ↓dNext, ↓look, ↓esc, ↓Y.bind, ↓arg, ↓iv, ↓bv, ↓sv, ↓oAdd, ↓oSub, ↓oMul, ↓oDiv, ↓oMod, ↓oPow, ↓oNeg, ↓oEq, ↓oNe, ↓oLt, ↓oLe, ↓oGt, ↓oGe, ↓oLen, ↓oIx, ↓oInt, ↓dLst, ↓dTup, ↓aNil, ↓aCons, ↓datas, ↓dStC, ↓dStI, ↓sStPut, ↓scalD, ↓D.eqv, ↓MO.data, ↓oIsN, ↓oNotN, ↓isN, ↓oTuple, ↓oIn, ↓oAbs, ↓dFld, ↓sFld, ↓initOf, ↓dMake, ↓dLc, ↓iOf, ↓items, ↓iEnum, ↓iRange1, ↓sFor, ↓gName, ↓gTup, ↓gTup.go, ↓sRaise0, ↓isTup, ↓sAppend, ↓sStore, ↓sAugAdd, ↓dNewT, ↓dDispT, ↓sDput, ↓putAtM, ↓oDin, ↓oDix, ↓atD, ↓toKeys, ↓toKey, ↓sFrz, ↓oIsi, ↓tyName, ↓isiB, ↓dIndexL, ↓dRowsLen, ↓dRowsIx, ↓dRowsCopy, ↓sRowsPut, ↓sRowsApp, ↓sRows1, ↓sRowsLc, ↓sFrz, ↓sRowsFix, ↓isRows, List.map_cons, List.map_nil, List.length_cons, List.length_nil, List.replicate, List.cons_append, List.nil_append, List.getElem?_cons_zero, List.getElem?_cons_succ, List.set_cons_zero, List.set_cons_succ, Option.map_some, T.d.injEq, D.bl.injEq, D.int.injEq, Option.some.injEq, exists_eq_left', exists_eq_left, exists_eq_right, true_and, and_true, true_or, or_true, decide_eq_true_eq, if_true, if_false, reduceIte, Nat.reduceAdd, Nat.reduceSub, Nat.zero_add, Option.bind_some, List.map_nil]
    exact hrt
  · exact h
end
end Z

namespace Z
open Y
theorem LS_len {L : Tx} (h : L ∈ LS) : 1 ≤ L.length ∧ L.length ≤ 4 ∧ L ∈ LS ++ OS := by
  refine ⟨?_, ?_, List.mem_append_left _ h⟩ <;>
  · simp only [LS, List.mem_cons, List.mem_nil_iff, or_false] at h
    rcases h with rfl | rfl | rfl | rfl | rfl | rfl <;> decide
theorem ring_good {L : Tx} {n : Int} {A : List Row} {E : List Int} (hn : (A.length : Int) = n) (h1 : 1 ≤ n) (h2 : n ≤ 128) (h : RowsOk L n A) (e1 : E.Pairwise (· < ·)) (e2 : ∀ e ∈ E, 0 ≤ e ∧ e < n) : Good L A E :=
  ⟨by omega, by omega, by rw [hn]; exact h, e1, by rw [hn]; exact e2⟩
theorem upTo_ints (n : Nat) : upTo 0 n = ((List.range' 0 n).map fun i : Nat => (i : Int)).map D.int := by rw [upTo_range, List.map_map]; rfl
theorem asc_range : ∀ (t n : Nat), ((List.range' t n).map fun i : Nat => (i : Int)).Pairwise (· < ·)
  | _, 0 => List.Pairwise.nil
  | t, n + 1 => by
    rw [List.range'_succ, List.map_cons, List.pairwise_cons]
    refine ⟨fun a ha => ?_, asc_range (t + 1) n⟩
    obtain ⟨i, hi, rfl⟩ := List.mem_map.mp ha
    have := List.mem_range'.mp hi
    obtain ⟨k, _, rfl⟩ := this
    omega
section
variable {L : Tx} {Z0 : DEnds}
theorem law7 (hL : L ∈ LS) {A B : List Row} {E F : List Int} (gA : Good L A E) (gB : Good L B F) (b3 b4 b5 : Option Y.B)
    (h : ∀ (b3 b12 : Option Y.B) (A : List Row) (E : List Int) (B : List Row) (F : List Int), Good L A E → Good L B F → Z0.nx (wEnv L b3 b4 b5 (some (.d (pairD A E))) (some (.own (.ins "Machine" (mach L A E)))) none none none (some (.d (pairD B F))) b12 none)) :
    d_law_7 Z0 (wEnv L b3 b4 b5 (some (.d (pairD A E))) (some (.own (.ins "Machine" (mach L A E)))) none none none (some (.d (pairD B F))) none none) := by
  obtain ⟨l1, l4, lm⟩ := LS_len hL
  have hLS : L.length ≤ SZ := Nat.le_trans l4 (by decide)
  unfold d_law_7
  simp only [↓semOf, ↓toB, ↓sNext, ↓sSeq, ↓sSet, ↓sIf, ↓sRet, ↓sRetN, ↓sPart, ↓sExpr, ↓sBreak, ↓sCont, ↓tAnd, ↓tOr, ↓tNot, ↓tB, ↓dBin, ↓dUn, ↓dVar, ↓dC, ↓dIf, ↓dAnd, ↓dOr, ↓dNot, ↓dCall, ↓dNext, ↓look, ↓esc, ↓Y.bind, ↓arg, ↓iv, ↓bv, ↓sv, ↓oAdd, ↓oSub, ↓oMul, ↓oDiv, ↓oMod, ↓oPow, ↓oNeg, ↓oEq, ↓oNe, ↓oLt, ↓oLe, ↓oGt, ↓oGe, ↓oLen, ↓oIx, ↓oInt, ↓dLst, ↓dTup, ↓aNil, ↓aCons, ↓datas, ↓dStC, ↓dStI, ↓sStPut, ↓scalD, ↓D.eqv, ↓MO.data, ↓oIsN, ↓oNotN, ↓isN, ↓oTuple, ↓oIn, ↓oAbs, ↓dFld, ↓sFld, ↓initOf, ↓dMake, ↓dLc, ↓iOf, ↓items, ↓iEnum, ↓iRange1, ↓sFor, ↓gName, ↓gTup, ↓gTup.go, ↓sRaise0, ↓isTup, ↓sAppend, ↓sStore, ↓sAugAdd, ↓dNewT, ↓dDispT, ↓sDput, ↓putAtM, ↓oDin, ↓oDix, ↓atD, ↓toKeys, ↓toKey, ↓sFrz, ↓oIsi, ↓tyName, ↓isiB, ↓dIndexL, ↓dRowsLen, ↓dRowsIx, ↓dRowsCopy, ↓sRowsPut, ↓sRowsApp, ↓sRows1, ↓sRowsLc, ↓sFrz, ↓sRowsFix, ↓isRows, List.map_cons, List.map_nil, List.length_cons, List.length_nil, List.replicate, List.cons_append, List.nil_append, List.getElem?_cons_zero, List.getElem?_cons_succ, List.set_cons_zero, List.set_cons_succ, Option.map_some, T.d.injEq, D.bl.injEq, D.int.injEq, Option.some.injEq, exists_eq_left', exists_eq_left, exists_eq_right, true_and, and_true, true_or, or_true, decide_eq_true_eq, if_true, if_false, reduceIte, Nat.reduceAdd, Nat.reduceSub, Nat.zero_add, Option.bind_some, List.map_nil, wEnv]
  refine ⟨by decide, fun r r0 r1 => ?_⟩
  split
  · simp only [hLS]
    refine ⟨trivial, by omega, fun p p0 p1 => ⟨by decide, fun u u0 u1 => ⟨by decide, ?_⟩⟩⟩
    have e1 : ([D.int (2 + u - 1)] : List D) = [2 + u - 1].map D.int := rfl
    rw [e1]
    refine ring_ok l4 p0 p1 (by omega) (by omega) _ _ _ fun A1 hA1 hR1 => ?_
    have g1 : Good L A1 [2 + u - 1] := ring_good hA1 (by omega) (by omega) hR1 (List.pairwise_singleton _ _) (fun e he => by simp at he; subst he; omega)
    simp only [↓semOf, ↓toB, ↓sNext, ↓sSeq, ↓sSet, ↓sIf, ↓sRet, ↓sRetN, ↓sPart, ↓sExpr, ↓sBreak, ↓sCont, ↓tAnd, ↓tOr, ↓tNot, ↓tB, ↓dBin, ↓dUn, ↓dVar, ↓dC, ↓dIf, ↓dAnd, ↓dOr, ↓dNot, ↓dCall, ↓dNext, ↓look, ↓esc, ↓Y.bind, ↓arg, ↓iv, ↓bv, ↓sv, ↓oAdd, ↓oSub, ↓oMul, ↓oDiv, ↓oMod, ↓oPow, ↓oNeg, ↓oEq, ↓oNe, ↓oLt, ↓oLe, ↓oGt, ↓oGe, ↓oLen, ↓oIx, ↓oInt, ↓dLst, ↓dTup, ↓aNil, ↓aCons, ↓datas, ↓dStC, ↓dStI, ↓sStPut, ↓scalD, ↓D.eqv, ↓MO.data, ↓oIsN, ↓oNotN, ↓isN, ↓oTuple, ↓oIn, ↓oAbs, ↓dFld, ↓sFld, ↓initOf, ↓dMake, ↓dLc, ↓iOf, ↓items, ↓iEnum, ↓iRange1, ↓sFor, ↓gName, ↓gTup, ↓gTup.go, ↓sRaise0, ↓isTup, ↓sAppend, ↓sStore, ↓sAugAdd, ↓dNewT, ↓dDispT, ↓sDput, ↓putAtM, ↓oDin, ↓oDix, ↓atD, ↓toKeys, ↓toKey, ↓sFrz, ↓oIsi, ↓tyName, ↓isiB, ↓dIndexL, ↓dRowsLen, ↓dRowsIx, ↓dRowsCopy, ↓sRowsPut, ↓sRowsApp, ↓sRows1, ↓sRowsLc, ↓sFrz, ↓sRowsFix, ↓isRows, List.map_cons, List.map_nil, List.length_cons, List.length_nil, List.replicate, List.cons_append, List.nil_append, List.getElem?_cons_zero, List.getElem?_cons_succ, List.set_cons_zero, List.set_cons_succ, Option.map_some, T.d.injEq, D.bl.injEq, D.int.injEq, Option.some.injEq, exists_eq_left', exists_eq_left, exists_eq_right, true_and, and_true, true_or, or_true, decide_eq_true_eq, if_true, if_false, reduceIte, Nat.reduceAdd, Nat.reduceSub, Nat.zero_add, Option.bind_some, List.map_nil]
    unfold d_law_t4
    simp only [↓semOf, ↓toB, ↓sNext, ↓sSeq, ↓sSet, ↓sIf, ↓sRet, ↓sRetN, ↓sPart, ↓sExpr, ↓sBreak, ↓sCont, ↓tAnd, ↓tOr, ↓tNot, ↓tB, ↓dBin, ↓dUn, ↓dVar, ↓dC, ↓dIf, ↓dAnd, ↓dOr, ↓dNot, ↓dCall, ↓dNext, ↓look, ↓esc, ↓Y.bind, ↓arg, ↓iv, ↓bv, ↓sv, ↓oAdd, ↓oSub, ↓oMul, ↓oDiv, ↓oMod, ↓oPow, ↓oNeg, ↓oEq, ↓oNe, ↓oLt, ↓oLe, ↓oGt, ↓oGe, ↓oLen, ↓oIx, ↓oInt, ↓dLst, ↓dTup, ↓aNil, ↓aCons, ↓datas, ↓dStC, ↓dStI, ↓sStPut, ↓scalD, ↓D.eqv, ↓MO.data, ↓oIsN, ↓oNotN, ↓isN, ↓oTuple, ↓oIn, ↓oAbs, ↓dFld, ↓sFld, ↓initOf, ↓dMake, ↓dLc, ↓iOf, ↓items, ↓iEnum, ↓iRange1, ↓sFor, ↓gName, ↓gTup, ↓gTup.go, ↓sRaise0, ↓isTup, ↓sAppend, ↓sStore, ↓sAugAdd, ↓dNewT, ↓dDispT, ↓sDput, ↓putAtM, ↓oDin, ↓oDix, ↓atD, ↓toKeys, ↓toKey, ↓sFrz, ↓oIsi, ↓tyName, ↓isiB, ↓dIndexL, ↓dRowsLen, ↓dRowsIx, ↓dRowsCopy, ↓sRowsPut, ↓sRowsApp, ↓sRows1, ↓sRowsLc, ↓sFrz, ↓sRowsFix, ↓isRows, List.map_cons, List.map_nil, List.length_cons, List.length_nil, List.replicate, List.cons_append, List.nil_append, List.getElem?_cons_zero, List.getElem?_cons_succ, List.set_cons_zero, List.set_cons_succ, Option.map_some, T.d.injEq, D.bl.injEq, D.int.injEq, Option.some.injEq, exists_eq_left', exists_eq_left, exists_eq_right, true_and, and_true, true_or, or_true, decide_eq_true_eq, if_true, if_false, reduceIte, Nat.reduceAdd, Nat.reduceSub, Nat.zero_add, Option.bind_some, List.map_nil]
    refine ⟨by decide, fun v v0 v1 => ⟨⟨by omega, by omega⟩, rfl, ?_⟩⟩
    rw [upTo_ints]
    refine lcL_map (fun d => d) ?_ (fun d hd k1 hk => ?_) ?_
    · rw [List.length_map, List.length_map, List.length_range']
      exact Nat.le_trans (show (2 + v - 1).toNat ≤ 14 by omega) (show 14 ≤ SZ by decide)
    · obtain ⟨i, _, rfl⟩ := List.mem_map.mp hd
      exact hk
    · rw [show (fun d : D => d) = id from rfl, List.map_id]
      simp only [↓semOf, ↓toB, ↓sNext, ↓sSeq, ↓sSet, ↓sIf, ↓sRet, ↓sRetN, ↓sPart, ↓sExpr, ↓sBreak, ↓sCont, ↓tAnd, ↓tOr, ↓tNot, ↓tB, ↓dBin, ↓dUn, ↓dVar, ↓dC, ↓dIf, ↓dAnd, ↓dOr, ↓dNot, ↓dCall, ↓dNext, ↓look, ↓esc, ↓Y.bind, ↓arg, ↓iv, ↓bv, ↓sv, ↓oAdd, ↓oSub, ↓oMul, ↓oDiv, ↓oMod, ↓oPow, ↓oNeg, ↓oEq, ↓oNe, ↓oLt, ↓oLe, ↓oGt, ↓oGe, ↓oLen, ↓oIx, ↓oInt, ↓dLst, ↓dTup, ↓aNil, ↓aCons, ↓datas, ↓dStC, ↓dStI, ↓sStPut, ↓scalD, ↓D.eqv, ↓MO.data, ↓oIsN, ↓oNotN, ↓isN, ↓oTuple, ↓oIn, ↓oAbs, ↓dFld, ↓sFld, ↓initOf, ↓dMake, ↓dLc, ↓iOf, ↓items, ↓iEnum, ↓iRange1, ↓sFor, ↓gName, ↓gTup, ↓gTup.go, ↓sRaise0, ↓isTup, ↓sAppend, ↓sStore, ↓sAugAdd, ↓dNewT, ↓dDispT, ↓sDput, ↓putAtM, ↓oDin, ↓oDix, ↓atD, ↓toKeys, ↓toKey, ↓sFrz, ↓oIsi, ↓tyName, ↓isiB, ↓dIndexL, ↓dRowsLen, ↓dRowsIx, ↓dRowsCopy, ↓sRowsPut, ↓sRowsApp, ↓sRows1, ↓sRowsLc, ↓sFrz, ↓sRowsFix, ↓isRows, List.map_cons, List.map_nil, List.length_cons, List.length_nil, List.replicate, List.cons_append, List.nil_append, List.getElem?_cons_zero, List.getElem?_cons_succ, List.set_cons_zero, List.set_cons_succ, Option.map_some, T.d.injEq, D.bl.injEq, D.int.injEq, Option.some.injEq, exists_eq_left', exists_eq_left, exists_eq_right, true_and, and_true, true_or, or_true, decide_eq_true_eq, if_true, if_false, reduceIte, Nat.reduceAdd, Nat.reduceSub, Nat.zero_add, Option.bind_some, List.map_nil]
      refine ring_ok l4 p0 p1 (by omega) (by omega) _ _ _ fun A2 hA2 hR2 => ?_
      have g2 : Good L A2 ((List.range' 0 (2 + v - 1).toNat).map fun i : Nat => (i : Int)) := ring_good hA2 (by omega) (by omega) hR2 (asc_range _ _) (fun e he => by
        obtain ⟨i, hi, rfl⟩ := List.mem_map.mp he
        obtain ⟨k, _, rfl⟩ := List.mem_range'.mp hi
        omega)
      simp only [↓semOf, ↓toB, ↓sNext, ↓sSeq, ↓sSet, ↓sIf, ↓sRet, ↓sRetN, ↓sPart, ↓sExpr, ↓sBreak, ↓sCont, ↓tAnd, ↓tOr, ↓tNot, ↓tB, ↓dBin, ↓dUn, ↓dVar, ↓dC, ↓dIf, ↓dAnd, ↓dOr, ↓dNot, ↓dCall, ↓dNext, ↓look, ↓esc, ↓Y.bind, ↓arg, ↓iv, ↓bv, ↓sv, ↓oAdd, ↓oSub, ↓oMul, ↓oDiv, ↓oMod, ↓oPow, ↓oNeg, ↓oEq, ↓oNe, ↓oLt, ↓oLe, ↓oGt, ↓oGe, ↓oLen, ↓oIx, ↓oInt, ↓dLst, ↓dTup, ↓aNil, ↓aCons, ↓datas, ↓dStC, ↓dStI, ↓sStPut, ↓scalD, ↓D.eqv, ↓MO.data, ↓oIsN, ↓oNotN, ↓isN, ↓oTuple, ↓oIn, ↓oAbs, ↓dFld, ↓sFld, ↓initOf, ↓dMake, ↓dLc, ↓iOf, ↓items, ↓iEnum, ↓iRange1, ↓sFor, ↓gName, ↓gTup, ↓gTup.go, ↓sRaise0, ↓isTup, ↓sAppend, ↓sStore, ↓sAugAdd, ↓dNewT, ↓dDispT, ↓sDput, ↓putAtM, ↓oDin, ↓oDix, ↓atD, ↓toKeys, ↓toKey, ↓sFrz, ↓oIsi, ↓tyName, ↓isiB, ↓dIndexL, ↓dRowsLen, ↓dRowsIx, ↓dRowsCopy, ↓sRowsPut, ↓sRowsApp, ↓sRows1, ↓sRowsLc, ↓sFrz, ↓sRowsFix, ↓isRows, List.map_cons, List.map_nil, List.length_cons, List.length_nil, List.replicate, List.cons_append, List.nil_append, List.getElem?_cons_zero, List.getElem?_cons_succ, List.set_cons_zero, List.set_cons_succ, Option.map_some, T.d.injEq, D.bl.injEq, D.int.injEq, Option.some.injEq, exists_eq_left', exists_eq_left, exists_eq_right, true_and, and_true, true_or, or_true, decide_eq_true_eq, if_true, if_false, reduceIte, Nat.reduceAdd, Nat.reduceSub, Nat.zero_add, Option.bind_some, List.map_nil]
      unfold d_law_t3
      simp only [↓semOf, ↓toB, ↓sNext, ↓sSeq, ↓sSet, ↓sIf, ↓sRet, ↓sRetN, ↓sPart, ↓sExpr, ↓sBreak, ↓sCont, ↓tAnd, ↓tOr, ↓tNot, ↓tB, ↓dBin, ↓dUn, ↓dVar, ↓dC, ↓dIf, ↓dAnd, ↓dOr, ↓dNot, ↓dCall, ↓dNext, ↓look, ↓esc, ↓Y.bind, ↓arg, ↓iv, ↓bv, ↓sv, ↓oAdd, ↓oSub, ↓oMul, ↓oDiv, ↓oMod, ↓oPow, ↓oNeg, ↓oEq, ↓oNe, ↓oLt, ↓oLe, ↓oGt, ↓oGe, ↓oLen, ↓oIx, ↓oInt, ↓dLst, ↓dTup, ↓aNil, ↓aCons, ↓datas, ↓dStC, ↓dStI, ↓sStPut, ↓scalD, ↓D.eqv, ↓MO.data, ↓oIsN, ↓oNotN, ↓isN, ↓oTuple, ↓oIn, ↓oAbs, ↓dFld, ↓sFld, ↓initOf, ↓dMake, ↓dLc, ↓iOf, ↓items, ↓iEnum, ↓iRange1, ↓sFor, ↓gName, ↓gTup, ↓gTup.go, ↓sRaise0, ↓isTup, ↓sAppend, ↓sStore, ↓sAugAdd, ↓dNewT, ↓dDispT, ↓sDput, ↓putAtM, ↓oDin, ↓oDix, ↓atD, ↓toKeys, ↓toKey, ↓sFrz, ↓oIsi, ↓tyName, ↓isiB, ↓dIndexL, ↓dRowsLen, ↓dRowsIx, ↓dRowsCopy, ↓sRowsPut, ↓sRowsApp, ↓sRows1, ↓sRowsLc, ↓sFrz, ↓sRowsFix, ↓isRows, List.map_cons, List.map_nil, List.length_cons, List.length_nil, List.replicate, List.cons_append, List.nil_append, List.getElem?_cons_zero, List.getElem?_cons_succ, List.set_cons_zero, List.set_cons_succ, Option.map_some, T.d.injEq, D.bl.injEq, D.int.injEq, Option.some.injEq, exists_eq_left', exists_eq_left, exists_eq_right, true_and, and_true, true_or, or_true, decide_eq_true_eq, if_true, if_false, reduceIte, Nat.reduceAdd, Nat.reduceSub, Nat.zero_add, Option.bind_some, List.map_nil, pairD]
      refine ⟨0, _, rfl, rfl, _, rfl, rfl, copy_lc (Nat.le_trans g1.sz (by decide)) (fun r k1 hk => hk) ?_⟩
      simp only [↓semOf, ↓toB, ↓sNext, ↓sSeq, ↓sSet, ↓sIf, ↓sRet, ↓sRetN, ↓sPart, ↓sExpr, ↓sBreak, ↓sCont, ↓tAnd, ↓tOr, ↓tNot, ↓tB, ↓dBin, ↓dUn, ↓dVar, ↓dC, ↓dIf, ↓dAnd, ↓dOr, ↓dNot, ↓dCall, ↓dNext, ↓look, ↓esc, ↓Y.bind, ↓arg, ↓iv, ↓bv, ↓sv, ↓oAdd, ↓oSub, ↓oMul, ↓oDiv, ↓oMod, ↓oPow, ↓oNeg, ↓oEq, ↓oNe, ↓oLt, ↓oLe, ↓oGt, ↓oGe, ↓oLen, ↓oIx, ↓oInt, ↓dLst, ↓dTup, ↓aNil, ↓aCons, ↓datas, ↓dStC, ↓dStI, ↓sStPut, ↓scalD, ↓D.eqv, ↓MO.data, ↓oIsN, ↓oNotN, ↓isN, ↓oTuple, ↓oIn, ↓oAbs, ↓dFld, ↓sFld, ↓initOf, ↓dMake, ↓dLc, ↓iOf, ↓items, ↓iEnum, ↓iRange1, ↓sFor, ↓gName, ↓gTup, ↓gTup.go, ↓sRaise0, ↓isTup, ↓sAppend, ↓sStore, ↓sAugAdd, ↓dNewT, ↓dDispT, ↓sDput, ↓putAtM, ↓oDin, ↓oDix, ↓atD, ↓toKeys, ↓toKey, ↓sFrz, ↓oIsi, ↓tyName, ↓isiB, ↓dIndexL, ↓dRowsLen, ↓dRowsIx, ↓dRowsCopy, ↓sRowsPut, ↓sRowsApp, ↓sRows1, ↓sRowsLc, ↓sFrz, ↓sRowsFix, ↓isRows, List.map_cons, List.map_nil, List.length_cons, List.length_nil, List.replicate, List.cons_append, List.nil_append, List.getElem?_cons_zero, List.getElem?_cons_succ, List.set_cons_zero, List.set_cons_succ, Option.map_some, T.d.injEq, D.bl.injEq, D.int.injEq, Option.some.injEq, exists_eq_left', exists_eq_left, exists_eq_right, true_and, and_true, true_or, or_true, decide_eq_true_eq, if_true, if_false, reduceIte, Nat.reduceAdd, Nat.reduceSub, Nat.zero_add, Option.bind_some, List.map_nil]
      refine ⟨1, _, rfl, rfl, ?_⟩
      refine init_ok lm g1 _ _ ?_
      simp only [↓semOf, ↓toB, ↓sNext, ↓sSeq, ↓sSet, ↓sIf, ↓sRet, ↓sRetN, ↓sPart, ↓sExpr, ↓sBreak, ↓sCont, ↓tAnd, ↓tOr, ↓tNot, ↓tB, ↓dBin, ↓dUn, ↓dVar, ↓dC, ↓dIf, ↓dAnd, ↓dOr, ↓dNot, ↓dCall, ↓dNext, ↓look, ↓esc, ↓Y.bind, ↓arg, ↓iv, ↓bv, ↓sv, ↓oAdd, ↓oSub, ↓oMul, ↓oDiv, ↓oMod, ↓oPow, ↓oNeg, ↓oEq, ↓oNe, ↓oLt, ↓oLe, ↓oGt, ↓oGe, ↓oLen, ↓oIx, ↓oInt, ↓dLst, ↓dTup, ↓aNil, ↓aCons, ↓datas, ↓dStC, ↓dStI, ↓sStPut, ↓scalD, ↓D.eqv, ↓MO.data, ↓oIsN, ↓oNotN, ↓isN, ↓oTuple, ↓oIn, ↓oAbs, ↓dFld, ↓sFld, ↓initOf, ↓dMake, ↓dLc, ↓iOf, ↓items, ↓iEnum, ↓iRange1, ↓sFor, ↓gName, ↓gTup, ↓gTup.go, ↓sRaise0, ↓isTup, ↓sAppend, ↓sStore, ↓sAugAdd, ↓dNewT, ↓dDispT, ↓sDput, ↓putAtM, ↓oDin, ↓oDix, ↓atD, ↓toKeys, ↓toKey, ↓sFrz, ↓oIsi, ↓tyName, ↓isiB, ↓dIndexL, ↓dRowsLen, ↓dRowsIx, ↓dRowsCopy, ↓sRowsPut, ↓sRowsApp, ↓sRows1, ↓sRowsLc, ↓sFrz, ↓sRowsFix, ↓isRows, List.map_cons, List.map_nil, List.length_cons, List.length_nil, List.replicate, List.cons_append, List.nil_append, List.getElem?_cons_zero, List.getElem?_cons_succ, List.set_cons_zero, List.set_cons_succ, Option.map_some, T.d.injEq, D.bl.injEq, D.int.injEq, Option.some.injEq, exists_eq_left', exists_eq_left, exists_eq_right, true_and, and_true, true_or, or_true, decide_eq_true_eq, if_true, if_false, reduceIte, Nat.reduceAdd, Nat.reduceSub, Nat.zero_add, Option.bind_some, List.map_nil]
      exact h _ _ A1 _ A2 _ g1 g2
  · exact h _ _ A E B F gA gB
theorem plain_rows {A : List Row} : (D.tup (A.map rowT)).plain 20 = true := by
  have h2 : ∀ (r : List Int), D.plainAll 18 (r.map D.int) = true := by
    intro r
    induction r with
    | nil => rfl
    | cons a r ih => simp [D.plainAll, D.plain, ih]
  have h1 : ∀ (A : List Row), D.plainAll 19 (A.map rowT) = true := by
    intro A
    induction A with
    | nil => rfl
    | cons r A ih =>
      rw [List.map_cons]
      unfold D.plainAll
      rw [ih]
      simp [rowT, D.plain, h2]
  show D.plainAll 19 (A.map rowT) = true
  exact h1 A
theorem plain_ends {E : List Int} : (D.tup (E.map D.int)).plain 20 = true := by
  show D.plainAll 19 (E.map D.int) = true
  induction E with
  | nil => rfl
  | cons a r ih => simp [D.plainAll, D.plain, ih]
theorem eqv_ints : ∀ (E : List Int), D.eqvAll (E.map D.int) (E.map D.int) = true
  | [] => rfl
  | e :: E => by simp [D.eqvAll, D.eqv, eqv_ints E]
theorem eqv_ends {E : List Int} : D.eqv (.tup (E.map D.int)) (.tup (E.map D.int)) = true := by
  unfold D.eqv; exact eqv_ints E
theorem eqv_rowsA (A : List Row) : D.eqvAll (A.map rowT) (A.map rowT) = true := by
  induction A with
  | nil => rfl
  | cons r A ih =>
    rw [List.map_cons]
    unfold D.eqvAll
    rw [ih]
    unfold rowT
    rw [eqv_ends]
    rfl
end
section
variable {L : Tx} {Z0 : DEnds} {A B : List Row} {E F : List Int}
theorem law6 (l4 : L.length ≤ 4) (gA : Good L A E) (gB : Good L B F) (b3 b4 b5 b12 b13 : Option Y.B) (h : Z0.nx (wEnv L b3 b4 b5 (some (.d (pairD A E))) (some (.d (mD L A E))) none (some (.d (mD L B F))) none (some (.d (pairD B F))) b12 b13)) :
    d_law_6 Z0 (wEnv L b3 b4 b5 (some (.d (pairD A E))) (some (.own (.ins "Machine" (mach L A E)))) none (some (.own (.ins "Machine" (mach L B F)))) none (some (.d (pairD B F))) b12 b13) := by
  unfold d_law_6
  simp only [↓semOf, ↓toB, ↓sNext, ↓sSeq, ↓sSet, ↓sIf, ↓sRet, ↓sRetN, ↓sPart, ↓sExpr, ↓sBreak, ↓sCont, ↓tAnd, ↓tOr, ↓tNot, ↓tB, ↓dBin, ↓dUn, ↓dVar, ↓dC, ↓dIf, ↓dAnd, ↓dOr, ↓dNot, ↓dCall, ↓dNext, ↓look, ↓esc, ↓Y.bind, ↓arg, ↓iv, ↓bv, ↓sv, ↓oAdd, ↓oSub, ↓oMul, ↓oDiv, ↓oMod, ↓oPow, ↓oNeg, ↓oEq, ↓oNe, ↓oLt, ↓oLe, ↓oGt, ↓oGe, ↓oLen, ↓oIx, ↓oInt, ↓dLst, ↓dTup, ↓aNil, ↓aCons, ↓datas, ↓dStC, ↓dStI, ↓sStPut, ↓scalD, ↓D.eqv, ↓MO.data, ↓oIsN, ↓oNotN, ↓isN, ↓oTuple, ↓oIn, ↓oAbs, ↓dFld, ↓sFld, ↓initOf, ↓dMake, ↓dLc, ↓iOf, ↓items, ↓iEnum, ↓iRange1, ↓sFor, ↓gName, ↓gTup, ↓gTup.go, ↓sRaise0, ↓isTup, ↓sAppend, ↓sStore, ↓sAugAdd, ↓dNewT, ↓dDispT, ↓sDput, ↓putAtM, ↓oDin, ↓oDix, ↓atD, ↓toKeys, ↓toKey, ↓sFrz, ↓oIsi, ↓tyName, ↓isiB, ↓dIndexL, ↓dRowsLen, ↓dRowsIx, ↓dRowsCopy, ↓sRowsPut, ↓sRowsApp, ↓sRows1, ↓sRowsLc, ↓sFrz, ↓sRowsFix, ↓isRows, List.map_cons, List.map_nil, List.length_cons, List.length_nil, List.replicate, List.cons_append, List.nil_append, List.getElem?_cons_zero, List.getElem?_cons_succ, List.set_cons_zero, List.set_cons_succ, Option.map_some, T.d.injEq, D.bl.injEq, D.int.injEq, Option.some.injEq, exists_eq_left', exists_eq_left, exists_eq_right, true_and, and_true, true_or, or_true, decide_eq_true_eq, if_true, if_false, reduceIte, Nat.reduceAdd, Nat.reduceSub, Nat.zero_add, Option.bind_some, List.map_nil, wEnv]
  refine parting_ok l4 gA gB _ _ ?_
  simp only [↓semOf, ↓toB, ↓sNext, ↓sSeq, ↓sSet, ↓sIf, ↓sRet, ↓sRetN, ↓sPart, ↓sExpr, ↓sBreak, ↓sCont, ↓tAnd, ↓tOr, ↓tNot, ↓tB, ↓dBin, ↓dUn, ↓dVar, ↓dC, ↓dIf, ↓dAnd, ↓dOr, ↓dNot, ↓dCall, ↓dNext, ↓look, ↓esc, ↓Y.bind, ↓arg, ↓iv, ↓bv, ↓sv, ↓oAdd, ↓oSub, ↓oMul, ↓oDiv, ↓oMod, ↓oPow, ↓oNeg, ↓oEq, ↓oNe, ↓oLt, ↓oLe, ↓oGt, ↓oGe, ↓oLen, ↓oIx, ↓oInt, ↓dLst, ↓dTup, ↓aNil, ↓aCons, ↓datas, ↓dStC, ↓dStI, ↓sStPut, ↓scalD, ↓D.eqv, ↓MO.data, ↓oIsN, ↓oNotN, ↓isN, ↓oTuple, ↓oIn, ↓oAbs, ↓dFld, ↓sFld, ↓initOf, ↓dMake, ↓dLc, ↓iOf, ↓items, ↓iEnum, ↓iRange1, ↓sFor, ↓gName, ↓gTup, ↓gTup.go, ↓sRaise0, ↓isTup, ↓sAppend, ↓sStore, ↓sAugAdd, ↓dNewT, ↓dDispT, ↓sDput, ↓putAtM, ↓oDin, ↓oDix, ↓atD, ↓toKeys, ↓toKey, ↓sFrz, ↓oIsi, ↓tyName, ↓isiB, ↓dIndexL, ↓dRowsLen, ↓dRowsIx, ↓dRowsCopy, ↓sRowsPut, ↓sRowsApp, ↓sRows1, ↓sRowsLc, ↓sFrz, ↓sRowsFix, ↓isRows, List.map_cons, List.map_nil, List.length_cons, List.length_nil, List.replicate, List.cons_append, List.nil_append, List.getElem?_cons_zero, List.getElem?_cons_succ, List.set_cons_zero, List.set_cons_succ, Option.map_some, T.d.injEq, D.bl.injEq, D.int.injEq, Option.some.injEq, exists_eq_left', exists_eq_left, exists_eq_right, true_and, and_true, true_or, or_true, decide_eq_true_eq, if_true, if_false, reduceIte, Nat.reduceAdd, Nat.reduceSub, Nat.zero_add, Option.bind_some, List.map_nil]
  refine lf_ok l4 gA gB _ _ ?_
  simp only [↓semOf, ↓toB, ↓sNext, ↓sSeq, ↓sSet, ↓sIf, ↓sRet, ↓sRetN, ↓sPart, ↓sExpr, ↓sBreak, ↓sCont, ↓tAnd, ↓tOr, ↓tNot, ↓tB, ↓dBin, ↓dUn, ↓dVar, ↓dC, ↓dIf, ↓dAnd, ↓dOr, ↓dNot, ↓dCall, ↓dNext, ↓look, ↓esc, ↓Y.bind, ↓arg, ↓iv, ↓bv, ↓sv, ↓oAdd, ↓oSub, ↓oMul, ↓oDiv, ↓oMod, ↓oPow, ↓oNeg, ↓oEq, ↓oNe, ↓oLt, ↓oLe, ↓oGt, ↓oGe, ↓oLen, ↓oIx, ↓oInt, ↓dLst, ↓dTup, ↓aNil, ↓aCons, ↓datas, ↓dStC, ↓dStI, ↓sStPut, ↓scalD, ↓D.eqv, ↓MO.data, ↓oIsN, ↓oNotN, ↓isN, ↓oTuple, ↓oIn, ↓oAbs, ↓dFld, ↓sFld, ↓initOf, ↓dMake, ↓dLc, ↓iOf, ↓items, ↓iEnum, ↓iRange1, ↓sFor, ↓gName, ↓gTup, ↓gTup.go, ↓sRaise0, ↓isTup, ↓sAppend, ↓sStore, ↓sAugAdd, ↓dNewT, ↓dDispT, ↓sDput, ↓putAtM, ↓oDin, ↓oDix, ↓atD, ↓toKeys, ↓toKey, ↓sFrz, ↓oIsi, ↓tyName, ↓isiB, ↓dIndexL, ↓dRowsLen, ↓dRowsIx, ↓dRowsCopy, ↓sRowsPut, ↓sRowsApp, ↓sRows1, ↓sRowsLc, ↓sFrz, ↓sRowsFix, ↓isRows, List.map_cons, List.map_nil, List.length_cons, List.length_nil, List.replicate, List.cons_append, List.nil_append, List.getElem?_cons_zero, List.getElem?_cons_succ, List.set_cons_zero, List.set_cons_succ, Option.map_some, T.d.injEq, D.bl.injEq, D.int.injEq, Option.some.injEq, exists_eq_left', exists_eq_left, exists_eq_right, true_and, and_true, true_or, or_true, decide_eq_true_eq, if_true, if_false, reduceIte, Nat.reduceAdd, Nat.reduceSub, Nat.zero_add, Option.bind_some, List.map_nil]
  refine equal_ok (run L A E B F true ((A.length + 1) * (B.length + 1)) 0 [(0, 0)] [([], 0, 0)]) _ _ ?_
  simp only [↓semOf, ↓toB, ↓sNext, ↓sSeq, ↓sSet, ↓sIf, ↓sRet, ↓sRetN, ↓sPart, ↓sExpr, ↓sBreak, ↓sCont, ↓tAnd, ↓tOr, ↓tNot, ↓tB, ↓dBin, ↓dUn, ↓dVar, ↓dC, ↓dIf, ↓dAnd, ↓dOr, ↓dNot, ↓dCall, ↓dNext, ↓look, ↓esc, ↓Y.bind, ↓arg, ↓iv, ↓bv, ↓sv, ↓oAdd, ↓oSub, ↓oMul, ↓oDiv, ↓oMod, ↓oPow, ↓oNeg, ↓oEq, ↓oNe, ↓oLt, ↓oLe, ↓oGt, ↓oGe, ↓oLen, ↓oIx, ↓oInt, ↓dLst, ↓dTup, ↓aNil, ↓aCons, ↓datas, ↓dStC, ↓dStI, ↓sStPut, ↓scalD, ↓D.eqv, ↓MO.data, ↓oIsN, ↓oNotN, ↓isN, ↓oTuple, ↓oIn, ↓oAbs, ↓dFld, ↓sFld, ↓initOf, ↓dMake, ↓dLc, ↓iOf, ↓items, ↓iEnum, ↓iRange1, ↓sFor, ↓gName, ↓gTup, ↓gTup.go, ↓sRaise0, ↓isTup, ↓sAppend, ↓sStore, ↓sAugAdd, ↓dNewT, ↓dDispT, ↓sDput, ↓putAtM, ↓oDin, ↓oDix, ↓atD, ↓toKeys, ↓toKey, ↓sFrz, ↓oIsi, ↓tyName, ↓isiB, ↓dIndexL, ↓dRowsLen, ↓dRowsIx, ↓dRowsCopy, ↓sRowsPut, ↓sRowsApp, ↓sRows1, ↓sRowsLc, ↓sFrz, ↓sRowsFix, ↓isRows, List.map_cons, List.map_nil, List.length_cons, List.length_nil, List.replicate, List.cons_append, List.nil_append, List.getElem?_cons_zero, List.getElem?_cons_succ, List.set_cons_zero, List.set_cons_succ, Option.map_some, T.d.injEq, D.bl.injEq, D.int.injEq, Option.some.injEq, exists_eq_left', exists_eq_left, exists_eq_right, true_and, and_true, true_or, or_true, decide_eq_true_eq, if_true, if_false, reduceIte, Nat.reduceAdd, Nat.reduceSub, Nat.zero_add, Option.bind_some, List.map_nil]
  exact h
theorem law5 (l4 : L.length ≤ 4) (gA : Good L A E) (gB : Good L B F) (b3 b4 b5 b12 b13 : Option Y.B) (h : Z0.nx (wEnv L b3 b4 b5 (some (.d (pairD A E))) (some (.d (mD L A E))) none (some (.d (mD L B F))) none (some (.d (pairD B F))) b12 b13)) :
    d_law_5 Z0 (wEnv L b3 b4 b5 (some (.d (pairD A E))) (some (.d (mD L A E))) none (some (.d (mD L B F))) none (some (.d (pairD B F))) b12 b13) := by
  unfold d_law_5
  simp only [↓semOf, ↓toB, ↓sNext, ↓sSeq, ↓sSet, ↓sIf, ↓sRet, ↓sRetN, ↓sPart, ↓sExpr, ↓sBreak, ↓sCont, ↓tAnd, ↓tOr, ↓tNot, ↓tB, ↓dBin, ↓dUn, ↓dVar, ↓dC, ↓dIf, ↓dAnd, ↓dOr, ↓dNot, ↓dCall, ↓dNext, ↓look, ↓esc, ↓Y.bind, ↓arg, ↓iv, ↓bv, ↓sv, ↓oAdd, ↓oSub, ↓oMul, ↓oDiv, ↓oMod, ↓oPow, ↓oNeg, ↓oEq, ↓oNe, ↓oLt, ↓oLe, ↓oGt, ↓oGe, ↓oLen, ↓oIx, ↓oInt, ↓dLst, ↓dTup, ↓aNil, ↓aCons, ↓datas, ↓dStC, ↓dStI, ↓sStPut, ↓scalD, ↓D.eqv, ↓MO.data, ↓oIsN, ↓oNotN, ↓isN, ↓oTuple, ↓oIn, ↓oAbs, ↓dFld, ↓sFld, ↓initOf, ↓dMake, ↓dLc, ↓iOf, ↓items, ↓iEnum, ↓iRange1, ↓sFor, ↓gName, ↓gTup, ↓gTup.go, ↓sRaise0, ↓isTup, ↓sAppend, ↓sStore, ↓sAugAdd, ↓dNewT, ↓dDispT, ↓sDput, ↓putAtM, ↓oDin, ↓oDix, ↓atD, ↓toKeys, ↓toKey, ↓sFrz, ↓oIsi, ↓tyName, ↓isiB, ↓dIndexL, ↓dRowsLen, ↓dRowsIx, ↓dRowsCopy, ↓sRowsPut, ↓sRowsApp, ↓sRows1, ↓sRowsLc, ↓sFrz, ↓sRowsFix, ↓isRows, List.map_cons, List.map_nil, List.length_cons, List.length_nil, List.replicate, List.cons_append, List.nil_append, List.getElem?_cons_zero, List.getElem?_cons_succ, List.set_cons_zero, List.set_cons_succ, Option.map_some, T.d.injEq, D.bl.injEq, D.int.injEq, Option.some.injEq, exists_eq_left', exists_eq_left, exists_eq_right, true_and, and_true, true_or, or_true, decide_eq_true_eq, if_true, if_false, reduceIte, Nat.reduceAdd, Nat.reduceSub, Nat.zero_add, Option.bind_some, List.map_nil, wEnv]
  refine extra_ok l4 gA gB _ _ ?_
  simp only [↓semOf, ↓toB, ↓sNext, ↓sSeq, ↓sSet, ↓sIf, ↓sRet, ↓sRetN, ↓sPart, ↓sExpr, ↓sBreak, ↓sCont, ↓tAnd, ↓tOr, ↓tNot, ↓tB, ↓dBin, ↓dUn, ↓dVar, ↓dC, ↓dIf, ↓dAnd, ↓dOr, ↓dNot, ↓dCall, ↓dNext, ↓look, ↓esc, ↓Y.bind, ↓arg, ↓iv, ↓bv, ↓sv, ↓oAdd, ↓oSub, ↓oMul, ↓oDiv, ↓oMod, ↓oPow, ↓oNeg, ↓oEq, ↓oNe, ↓oLt, ↓oLe, ↓oGt, ↓oGe, ↓oLen, ↓oIx, ↓oInt, ↓dLst, ↓dTup, ↓aNil, ↓aCons, ↓datas, ↓dStC, ↓dStI, ↓sStPut, ↓scalD, ↓D.eqv, ↓MO.data, ↓oIsN, ↓oNotN, ↓isN, ↓oTuple, ↓oIn, ↓oAbs, ↓dFld, ↓sFld, ↓initOf, ↓dMake, ↓dLc, ↓iOf, ↓items, ↓iEnum, ↓iRange1, ↓sFor, ↓gName, ↓gTup, ↓gTup.go, ↓sRaise0, ↓isTup, ↓sAppend, ↓sStore, ↓sAugAdd, ↓dNewT, ↓dDispT, ↓sDput, ↓putAtM, ↓oDin, ↓oDix, ↓atD, ↓toKeys, ↓toKey, ↓sFrz, ↓oIsi, ↓tyName, ↓isiB, ↓dIndexL, ↓dRowsLen, ↓dRowsIx, ↓dRowsCopy, ↓sRowsPut, ↓sRowsApp, ↓sRows1, ↓sRowsLc, ↓sFrz, ↓sRowsFix, ↓isRows, List.map_cons, List.map_nil, List.length_cons, List.length_nil, List.replicate, List.cons_append, List.nil_append, List.getElem?_cons_zero, List.getElem?_cons_succ, List.set_cons_zero, List.set_cons_succ, Option.map_some, T.d.injEq, D.bl.injEq, D.int.injEq, Option.some.injEq, exists_eq_left', exists_eq_left, exists_eq_right, true_and, and_true, true_or, or_true, decide_eq_true_eq, if_true, if_false, reduceIte, Nat.reduceAdd, Nat.reduceSub, Nat.zero_add, Option.bind_some, List.map_nil]
  refine lf_ok l4 gA gB _ _ ?_
  simp only [↓semOf, ↓toB, ↓sNext, ↓sSeq, ↓sSet, ↓sIf, ↓sRet, ↓sRetN, ↓sPart, ↓sExpr, ↓sBreak, ↓sCont, ↓tAnd, ↓tOr, ↓tNot, ↓tB, ↓dBin, ↓dUn, ↓dVar, ↓dC, ↓dIf, ↓dAnd, ↓dOr, ↓dNot, ↓dCall, ↓dNext, ↓look, ↓esc, ↓Y.bind, ↓arg, ↓iv, ↓bv, ↓sv, ↓oAdd, ↓oSub, ↓oMul, ↓oDiv, ↓oMod, ↓oPow, ↓oNeg, ↓oEq, ↓oNe, ↓oLt, ↓oLe, ↓oGt, ↓oGe, ↓oLen, ↓oIx, ↓oInt, ↓dLst, ↓dTup, ↓aNil, ↓aCons, ↓datas, ↓dStC, ↓dStI, ↓sStPut, ↓scalD, ↓D.eqv, ↓MO.data, ↓oIsN, ↓oNotN, ↓isN, ↓oTuple, ↓oIn, ↓oAbs, ↓dFld, ↓sFld, ↓initOf, ↓dMake, ↓dLc, ↓iOf, ↓items, ↓iEnum, ↓iRange1, ↓sFor, ↓gName, ↓gTup, ↓gTup.go, ↓sRaise0, ↓isTup, ↓sAppend, ↓sStore, ↓sAugAdd, ↓dNewT, ↓dDispT, ↓sDput, ↓putAtM, ↓oDin, ↓oDix, ↓atD, ↓toKeys, ↓toKey, ↓sFrz, ↓oIsi, ↓tyName, ↓isiB, ↓dIndexL, ↓dRowsLen, ↓dRowsIx, ↓dRowsCopy, ↓sRowsPut, ↓sRowsApp, ↓sRows1, ↓sRowsLc, ↓sFrz, ↓sRowsFix, ↓isRows, List.map_cons, List.map_nil, List.length_cons, List.length_nil, List.replicate, List.cons_append, List.nil_append, List.getElem?_cons_zero, List.getElem?_cons_succ, List.set_cons_zero, List.set_cons_succ, Option.map_some, T.d.injEq, D.bl.injEq, D.int.injEq, Option.some.injEq, exists_eq_left', exists_eq_left, exists_eq_right, true_and, and_true, true_or, or_true, decide_eq_true_eq, if_true, if_false, reduceIte, Nat.reduceAdd, Nat.reduceSub, Nat.zero_add, Option.bind_some, List.map_nil]
  refine equal_ok (run L A E B F false ((A.length + 1) * (B.length + 1)) 0 [(0, 0)] [([], 0, 0)]) _ _ ?_
  simp only [↓semOf, ↓toB, ↓sNext, ↓sSeq, ↓sSet, ↓sIf, ↓sRet, ↓sRetN, ↓sPart, ↓sExpr, ↓sBreak, ↓sCont, ↓tAnd, ↓tOr, ↓tNot, ↓tB, ↓dBin, ↓dUn, ↓dVar, ↓dC, ↓dIf, ↓dAnd, ↓dOr, ↓dNot, ↓dCall, ↓dNext, ↓look, ↓esc, ↓Y.bind, ↓arg, ↓iv, ↓bv, ↓sv, ↓oAdd, ↓oSub, ↓oMul, ↓oDiv, ↓oMod, ↓oPow, ↓oNeg, ↓oEq, ↓oNe, ↓oLt, ↓oLe, ↓oGt, ↓oGe, ↓oLen, ↓oIx, ↓oInt, ↓dLst, ↓dTup, ↓aNil, ↓aCons, ↓datas, ↓dStC, ↓dStI, ↓sStPut, ↓scalD, ↓D.eqv, ↓MO.data, ↓oIsN, ↓oNotN, ↓isN, ↓oTuple, ↓oIn, ↓oAbs, ↓dFld, ↓sFld, ↓initOf, ↓dMake, ↓dLc, ↓iOf, ↓items, ↓iEnum, ↓iRange1, ↓sFor, ↓gName, ↓gTup, ↓gTup.go, ↓sRaise0, ↓isTup, ↓sAppend, ↓sStore, ↓sAugAdd, ↓dNewT, ↓dDispT, ↓sDput, ↓putAtM, ↓oDin, ↓oDix, ↓atD, ↓toKeys, ↓toKey, ↓sFrz, ↓oIsi, ↓tyName, ↓isiB, ↓dIndexL, ↓dRowsLen, ↓dRowsIx, ↓dRowsCopy, ↓sRowsPut, ↓sRowsApp, ↓sRows1, ↓sRowsLc, ↓sFrz, ↓sRowsFix, ↓isRows, List.map_cons, List.map_nil, List.length_cons, List.length_nil, List.replicate, List.cons_append, List.nil_append, List.getElem?_cons_zero, List.getElem?_cons_succ, List.set_cons_zero, List.set_cons_succ, Option.map_some, T.d.injEq, D.bl.injEq, D.int.injEq, Option.some.injEq, exists_eq_left', exists_eq_left, exists_eq_right, true_and, and_true, true_or, or_true, decide_eq_true_eq, if_true, if_false, reduceIte, Nat.reduceAdd, Nat.reduceSub, Nat.zero_add, Option.bind_some, List.map_nil]
  exact h
theorem law4 (l4 : L.length ≤ 4) (gA : Good L A E) (gB : Good L B F) (b3 b4 b5 b12 b13 : Option Y.B) (h : Z0.nx (wEnv L b3 b4 b5 (some (.d (pairD A E))) (some (.d (mD L A E))) none (some (.d (mD L B F))) none (some (.d (pairD B F))) b12 b13)) :
    d_law_4 Z0 (wEnv L b3 b4 b5 (some (.d (pairD A E))) (some (.d (mD L A E))) none (some (.d (mD L B F))) none (some (.d (pairD B F))) b12 b13) := by
  unfold d_law_4
  simp only [↓semOf, ↓toB, ↓sNext, ↓sSeq, ↓sSet, ↓sIf, ↓sRet, ↓sRetN, ↓sPart, ↓sExpr, ↓sBreak, ↓sCont, ↓tAnd, ↓tOr, ↓tNot, ↓tB, ↓dBin, ↓dUn, ↓dVar, ↓dC, ↓dIf, ↓dAnd, ↓dOr, ↓dNot, ↓dCall, ↓dNext, ↓look, ↓esc, ↓Y.bind, ↓arg, ↓iv, ↓bv, ↓sv, ↓oAdd, ↓oSub, ↓oMul, ↓oDiv, ↓oMod, ↓oPow, ↓oNeg, ↓oEq, ↓oNe, ↓oLt, ↓oLe, ↓oGt, ↓oGe, ↓oLen, ↓oIx, ↓oInt, ↓dLst, ↓dTup, ↓aNil, ↓aCons, ↓datas, ↓dStC, ↓dStI, ↓sStPut, ↓scalD, ↓D.eqv, ↓MO.data, ↓oIsN, ↓oNotN, ↓isN, ↓oTuple, ↓oIn, ↓oAbs, ↓dFld, ↓sFld, ↓initOf, ↓dMake, ↓dLc, ↓iOf, ↓items, ↓iEnum, ↓iRange1, ↓sFor, ↓gName, ↓gTup, ↓gTup.go, ↓sRaise0, ↓isTup, ↓sAppend, ↓sStore, ↓sAugAdd, ↓dNewT, ↓dDispT, ↓sDput, ↓putAtM, ↓oDin, ↓oDix, ↓atD, ↓toKeys, ↓toKey, ↓sFrz, ↓oIsi, ↓tyName, ↓isiB, ↓dIndexL, ↓dRowsLen, ↓dRowsIx, ↓dRowsCopy, ↓sRowsPut, ↓sRowsApp, ↓sRows1, ↓sRowsLc, ↓sFrz, ↓sRowsFix, ↓isRows, List.map_cons, List.map_nil, List.length_cons, List.length_nil, List.replicate, List.cons_append, List.nil_append, List.getElem?_cons_zero, List.getElem?_cons_succ, List.set_cons_zero, List.set_cons_succ, Option.map_some, T.d.injEq, D.bl.injEq, D.int.injEq, Option.some.injEq, exists_eq_left', exists_eq_left, exists_eq_right, true_and, and_true, true_or, or_true, decide_eq_true_eq, if_true, if_false, reduceIte, Nat.reduceAdd, Nat.reduceSub, Nat.zero_add, Option.bind_some, List.map_nil, wEnv]
  refine extra_ok l4 gB gA _ _ ?_
  simp only [↓semOf, ↓toB, ↓sNext, ↓sSeq, ↓sSet, ↓sIf, ↓sRet, ↓sRetN, ↓sPart, ↓sExpr, ↓sBreak, ↓sCont, ↓tAnd, ↓tOr, ↓tNot, ↓tB, ↓dBin, ↓dUn, ↓dVar, ↓dC, ↓dIf, ↓dAnd, ↓dOr, ↓dNot, ↓dCall, ↓dNext, ↓look, ↓esc, ↓Y.bind, ↓arg, ↓iv, ↓bv, ↓sv, ↓oAdd, ↓oSub, ↓oMul, ↓oDiv, ↓oMod, ↓oPow, ↓oNeg, ↓oEq, ↓oNe, ↓oLt, ↓oLe, ↓oGt, ↓oGe, ↓oLen, ↓oIx, ↓oInt, ↓dLst, ↓dTup, ↓aNil, ↓aCons, ↓datas, ↓dStC, ↓dStI, ↓sStPut, ↓scalD, ↓D.eqv, ↓MO.data, ↓oIsN, ↓oNotN, ↓isN, ↓oTuple, ↓oIn, ↓oAbs, ↓dFld, ↓sFld, ↓initOf, ↓dMake, ↓dLc, ↓iOf, ↓items, ↓iEnum, ↓iRange1, ↓sFor, ↓gName, ↓gTup, ↓gTup.go, ↓sRaise0, ↓isTup, ↓sAppend, ↓sStore, ↓sAugAdd, ↓dNewT, ↓dDispT, ↓sDput, ↓putAtM, ↓oDin, ↓oDix, ↓atD, ↓toKeys, ↓toKey, ↓sFrz, ↓oIsi, ↓tyName, ↓isiB, ↓dIndexL, ↓dRowsLen, ↓dRowsIx, ↓dRowsCopy, ↓sRowsPut, ↓sRowsApp, ↓sRows1, ↓sRowsLc, ↓sFrz, ↓sRowsFix, ↓isRows, List.map_cons, List.map_nil, List.length_cons, List.length_nil, List.replicate, List.cons_append, List.nil_append, List.getElem?_cons_zero, List.getElem?_cons_succ, List.set_cons_zero, List.set_cons_succ, Option.map_some, T.d.injEq, D.bl.injEq, D.int.injEq, Option.some.injEq, exists_eq_left', exists_eq_left, exists_eq_right, true_and, and_true, true_or, or_true, decide_eq_true_eq, if_true, if_false, reduceIte, Nat.reduceAdd, Nat.reduceSub, Nat.zero_add, Option.bind_some, List.map_nil]
  refine lf_ok l4 gB gA _ _ ?_
  simp only [↓semOf, ↓toB, ↓sNext, ↓sSeq, ↓sSet, ↓sIf, ↓sRet, ↓sRetN, ↓sPart, ↓sExpr, ↓sBreak, ↓sCont, ↓tAnd, ↓tOr, ↓tNot, ↓tB, ↓dBin, ↓dUn, ↓dVar, ↓dC, ↓dIf, ↓dAnd, ↓dOr, ↓dNot, ↓dCall, ↓dNext, ↓look, ↓esc, ↓Y.bind, ↓arg, ↓iv, ↓bv, ↓sv, ↓oAdd, ↓oSub, ↓oMul, ↓oDiv, ↓oMod, ↓oPow, ↓oNeg, ↓oEq, ↓oNe, ↓oLt, ↓oLe, ↓oGt, ↓oGe, ↓oLen, ↓oIx, ↓oInt, ↓dLst, ↓dTup, ↓aNil, ↓aCons, ↓datas, ↓dStC, ↓dStI, ↓sStPut, ↓scalD, ↓D.eqv, ↓MO.data, ↓oIsN, ↓oNotN, ↓isN, ↓oTuple, ↓oIn, ↓oAbs, ↓dFld, ↓sFld, ↓initOf, ↓dMake, ↓dLc, ↓iOf, ↓items, ↓iEnum, ↓iRange1, ↓sFor, ↓gName, ↓gTup, ↓gTup.go, ↓sRaise0, ↓isTup, ↓sAppend, ↓sStore, ↓sAugAdd, ↓dNewT, ↓dDispT, ↓sDput, ↓putAtM, ↓oDin, ↓oDix, ↓atD, ↓toKeys, ↓toKey, ↓sFrz, ↓oIsi, ↓tyName, ↓isiB, ↓dIndexL, ↓dRowsLen, ↓dRowsIx, ↓dRowsCopy, ↓sRowsPut, ↓sRowsApp, ↓sRows1, ↓sRowsLc, ↓sFrz, ↓sRowsFix, ↓isRows, List.map_cons, List.map_nil, List.length_cons, List.length_nil, List.replicate, List.cons_append, List.nil_append, List.getElem?_cons_zero, List.getElem?_cons_succ, List.set_cons_zero, List.set_cons_succ, Option.map_some, T.d.injEq, D.bl.injEq, D.int.injEq, Option.some.injEq, exists_eq_left', exists_eq_left, exists_eq_right, true_and, and_true, true_or, or_true, decide_eq_true_eq, if_true, if_false, reduceIte, Nat.reduceAdd, Nat.reduceSub, Nat.zero_add, Option.bind_some, List.map_nil]
  refine equal_ok (run L B F A E false ((B.length + 1) * (A.length + 1)) 0 [(0, 0)] [([], 0, 0)]) _ _ ?_
  simp only [↓semOf, ↓toB, ↓sNext, ↓sSeq, ↓sSet, ↓sIf, ↓sRet, ↓sRetN, ↓sPart, ↓sExpr, ↓sBreak, ↓sCont, ↓tAnd, ↓tOr, ↓tNot, ↓tB, ↓dBin, ↓dUn, ↓dVar, ↓dC, ↓dIf, ↓dAnd, ↓dOr, ↓dNot, ↓dCall, ↓dNext, ↓look, ↓esc, ↓Y.bind, ↓arg, ↓iv, ↓bv, ↓sv, ↓oAdd, ↓oSub, ↓oMul, ↓oDiv, ↓oMod, ↓oPow, ↓oNeg, ↓oEq, ↓oNe, ↓oLt, ↓oLe, ↓oGt, ↓oGe, ↓oLen, ↓oIx, ↓oInt, ↓dLst, ↓dTup, ↓aNil, ↓aCons, ↓datas, ↓dStC, ↓dStI, ↓sStPut, ↓scalD, ↓D.eqv, ↓MO.data, ↓oIsN, ↓oNotN, ↓isN, ↓oTuple, ↓oIn, ↓oAbs, ↓dFld, ↓sFld, ↓initOf, ↓dMake, ↓dLc, ↓iOf, ↓items, ↓iEnum, ↓iRange1, ↓sFor, ↓gName, ↓gTup, ↓gTup.go, ↓sRaise0, ↓isTup, ↓sAppend, ↓sStore, ↓sAugAdd, ↓dNewT, ↓dDispT, ↓sDput, ↓putAtM, ↓oDin, ↓oDix, ↓atD, ↓toKeys, ↓toKey, ↓sFrz, ↓oIsi, ↓tyName, ↓isiB, ↓dIndexL, ↓dRowsLen, ↓dRowsIx, ↓dRowsCopy, ↓sRowsPut, ↓sRowsApp, ↓sRows1, ↓sRowsLc, ↓sFrz, ↓sRowsFix, ↓isRows, List.map_cons, List.map_nil, List.length_cons, List.length_nil, List.replicate, List.cons_append, List.nil_append, List.getElem?_cons_zero, List.getElem?_cons_succ, List.set_cons_zero, List.set_cons_succ, Option.map_some, T.d.injEq, D.bl.injEq, D.int.injEq, Option.some.injEq, exists_eq_left', exists_eq_left, exists_eq_right, true_and, and_true, true_or, or_true, decide_eq_true_eq, if_true, if_false, reduceIte, Nat.reduceAdd, Nat.reduceSub, Nat.zero_add, Option.bind_some, List.map_nil]
  exact h
theorem law3 (l4 : L.length ≤ 4) (lm : L ∈ LS ++ OS) (gA : Good L A E) (gB : Good L B F) (b3 b4 b5 b12 : Option Y.B) (h : Z0.nx (wEnv L b3 b4 b5 (some (.d (pairD A E))) (some (.d (mD L A E))) none (some (.d (mD L B F))) none (some (.d (pairD B F))) b12 (some (.d (pairD [missing L] []))))) :
    d_law_3 Z0 (wEnv L b3 b4 b5 (some (.d (pairD A E))) (some (.d (mD L A E))) none (some (.d (mD L B F))) none (some (.d (pairD B F))) b12 (some (.d (pairD [missing L] [])))) := by
  unfold d_law_3
  simp only [↓semOf, ↓toB, ↓sNext, ↓sSeq, ↓sSet, ↓sIf, ↓sRet, ↓sRetN, ↓sPart, ↓sExpr, ↓sBreak, ↓sCont, ↓tAnd, ↓tOr, ↓tNot, ↓tB, ↓dBin, ↓dUn, ↓dVar, ↓dC, ↓dIf, ↓dAnd, ↓dOr, ↓dNot, ↓dCall, ↓dNext, ↓look, ↓esc, ↓Y.bind, ↓arg, ↓iv, ↓bv, ↓sv, ↓oAdd, ↓oSub, ↓oMul, ↓oDiv, ↓oMod, ↓oPow, ↓oNeg, ↓oEq, ↓oNe, ↓oLt, ↓oLe, ↓oGt, ↓oGe, ↓oLen, ↓oIx, ↓oInt, ↓dLst, ↓dTup, ↓aNil, ↓aCons, ↓datas, ↓dStC, ↓dStI, ↓sStPut, ↓scalD, ↓D.eqv, ↓MO.data, ↓oIsN, ↓oNotN, ↓isN, ↓oTuple, ↓oIn, ↓oAbs, ↓dFld, ↓sFld, ↓initOf, ↓dMake, ↓dLc, ↓iOf, ↓items, ↓iEnum, ↓iRange1, ↓sFor, ↓gName, ↓gTup, ↓gTup.go, ↓sRaise0, ↓isTup, ↓sAppend, ↓sStore, ↓sAugAdd, ↓dNewT, ↓dDispT, ↓sDput, ↓putAtM, ↓oDin, ↓oDix, ↓atD, ↓toKeys, ↓toKey, ↓sFrz, ↓oIsi, ↓tyName, ↓isiB, ↓dIndexL, ↓dRowsLen, ↓dRowsIx, ↓dRowsCopy, ↓sRowsPut, ↓sRowsApp, ↓sRows1, ↓sRowsLc, ↓sFrz, ↓sRowsFix, ↓isRows, List.map_cons, List.map_nil, List.length_cons, List.length_nil, List.replicate, List.cons_append, List.nil_append, List.getElem?_cons_zero, List.getElem?_cons_succ, List.set_cons_zero, List.set_cons_succ, Option.map_some, T.d.injEq, D.bl.injEq, D.int.injEq, Option.some.injEq, exists_eq_left', exists_eq_left, exists_eq_right, true_and, and_true, true_or, or_true, decide_eq_true_eq, if_true, if_false, reduceIte, Nat.reduceAdd, Nat.reduceSub, Nat.zero_add, Option.bind_some, List.map_nil, wEnv]
  refine firstw_ok lm l4 gA _ _ ?_
  simp only [↓semOf, ↓toB, ↓sNext, ↓sSeq, ↓sSet, ↓sIf, ↓sRet, ↓sRetN, ↓sPart, ↓sExpr, ↓sBreak, ↓sCont, ↓tAnd, ↓tOr, ↓tNot, ↓tB, ↓dBin, ↓dUn, ↓dVar, ↓dC, ↓dIf, ↓dAnd, ↓dOr, ↓dNot, ↓dCall, ↓dNext, ↓look, ↓esc, ↓Y.bind, ↓arg, ↓iv, ↓bv, ↓sv, ↓oAdd, ↓oSub, ↓oMul, ↓oDiv, ↓oMod, ↓oPow, ↓oNeg, ↓oEq, ↓oNe, ↓oLt, ↓oLe, ↓oGt, ↓oGe, ↓oLen, ↓oIx, ↓oInt, ↓dLst, ↓dTup, ↓aNil, ↓aCons, ↓datas, ↓dStC, ↓dStI, ↓sStPut, ↓scalD, ↓D.eqv, ↓MO.data, ↓oIsN, ↓oNotN, ↓isN, ↓oTuple, ↓oIn, ↓oAbs, ↓dFld, ↓sFld, ↓initOf, ↓dMake, ↓dLc, ↓iOf, ↓items, ↓iEnum, ↓iRange1, ↓sFor, ↓gName, ↓gTup, ↓gTup.go, ↓sRaise0, ↓isTup, ↓sAppend, ↓sStore, ↓sAugAdd, ↓dNewT, ↓dDispT, ↓sDput, ↓putAtM, ↓oDin, ↓oDix, ↓atD, ↓toKeys, ↓toKey, ↓sFrz, ↓oIsi, ↓tyName, ↓isiB, ↓dIndexL, ↓dRowsLen, ↓dRowsIx, ↓dRowsCopy, ↓sRowsPut, ↓sRowsApp, ↓sRows1, ↓sRowsLc, ↓sFrz, ↓sRowsFix, ↓isRows, List.map_cons, List.map_nil, List.length_cons, List.length_nil, List.replicate, List.cons_append, List.nil_append, List.getElem?_cons_zero, List.getElem?_cons_succ, List.set_cons_zero, List.set_cons_succ, Option.map_some, T.d.injEq, D.bl.injEq, D.int.injEq, Option.some.injEq, exists_eq_left', exists_eq_left, exists_eq_right, true_and, and_true, true_or, or_true, decide_eq_true_eq, if_true, if_false, reduceIte, Nat.reduceAdd, Nat.reduceSub, Nat.zero_add, Option.bind_some, List.map_nil]
  refine lf_ok l4 gA (good_none L) _ _ ?_
  simp only [↓semOf, ↓toB, ↓sNext, ↓sSeq, ↓sSet, ↓sIf, ↓sRet, ↓sRetN, ↓sPart, ↓sExpr, ↓sBreak, ↓sCont, ↓tAnd, ↓tOr, ↓tNot, ↓tB, ↓dBin, ↓dUn, ↓dVar, ↓dC, ↓dIf, ↓dAnd, ↓dOr, ↓dNot, ↓dCall, ↓dNext, ↓look, ↓esc, ↓Y.bind, ↓arg, ↓iv, ↓bv, ↓sv, ↓oAdd, ↓oSub, ↓oMul, ↓oDiv, ↓oMod, ↓oPow, ↓oNeg, ↓oEq, ↓oNe, ↓oLt, ↓oLe, ↓oGt, ↓oGe, ↓oLen, ↓oIx, ↓oInt, ↓dLst, ↓dTup, ↓aNil, ↓aCons, ↓datas, ↓dStC, ↓dStI, ↓sStPut, ↓scalD, ↓D.eqv, ↓MO.data, ↓oIsN, ↓oNotN, ↓isN, ↓oTuple, ↓oIn, ↓oAbs, ↓dFld, ↓sFld, ↓initOf, ↓dMake, ↓dLc, ↓iOf, ↓items, ↓iEnum, ↓iRange1, ↓sFor, ↓gName, ↓gTup, ↓gTup.go, ↓sRaise0, ↓isTup, ↓sAppend, ↓sStore, ↓sAugAdd, ↓dNewT, ↓dDispT, ↓sDput, ↓putAtM, ↓oDin, ↓oDix, ↓atD, ↓toKeys, ↓toKey, ↓sFrz, ↓oIsi, ↓tyName, ↓isiB, ↓dIndexL, ↓dRowsLen, ↓dRowsIx, ↓dRowsCopy, ↓sRowsPut, ↓sRowsApp, ↓sRows1, ↓sRowsLc, ↓sFrz, ↓sRowsFix, ↓isRows, List.map_cons, List.map_nil, List.length_cons, List.length_nil, List.replicate, List.cons_append, List.nil_append, List.getElem?_cons_zero, List.getElem?_cons_succ, List.set_cons_zero, List.set_cons_succ, Option.map_some, T.d.injEq, D.bl.injEq, D.int.injEq, Option.some.injEq, exists_eq_left', exists_eq_left, exists_eq_right, true_and, and_true, true_or, or_true, decide_eq_true_eq, if_true, if_false, reduceIte, Nat.reduceAdd, Nat.reduceSub, Nat.zero_add, Option.bind_some, List.map_nil]
  refine equal_ok (run L A E [missing L] [] false ((A.length + 1) * ([missing L].length + 1)) 0 [(0, 0)] [([], 0, 0)]) _ _ ?_
  simp only [↓semOf, ↓toB, ↓sNext, ↓sSeq, ↓sSet, ↓sIf, ↓sRet, ↓sRetN, ↓sPart, ↓sExpr, ↓sBreak, ↓sCont, ↓tAnd, ↓tOr, ↓tNot, ↓tB, ↓dBin, ↓dUn, ↓dVar, ↓dC, ↓dIf, ↓dAnd, ↓dOr, ↓dNot, ↓dCall, ↓dNext, ↓look, ↓esc, ↓Y.bind, ↓arg, ↓iv, ↓bv, ↓sv, ↓oAdd, ↓oSub, ↓oMul, ↓oDiv, ↓oMod, ↓oPow, ↓oNeg, ↓oEq, ↓oNe, ↓oLt, ↓oLe, ↓oGt, ↓oGe, ↓oLen, ↓oIx, ↓oInt, ↓dLst, ↓dTup, ↓aNil, ↓aCons, ↓datas, ↓dStC, ↓dStI, ↓sStPut, ↓scalD, ↓D.eqv, ↓MO.data, ↓oIsN, ↓oNotN, ↓isN, ↓oTuple, ↓oIn, ↓oAbs, ↓dFld, ↓sFld, ↓initOf, ↓dMake, ↓dLc, ↓iOf, ↓items, ↓iEnum, ↓iRange1, ↓sFor, ↓gName, ↓gTup, ↓gTup.go, ↓sRaise0, ↓isTup, ↓sAppend, ↓sStore, ↓sAugAdd, ↓dNewT, ↓dDispT, ↓sDput, ↓putAtM, ↓oDin, ↓oDix, ↓atD, ↓toKeys, ↓toKey, ↓sFrz, ↓oIsi, ↓tyName, ↓isiB, ↓dIndexL, ↓dRowsLen, ↓dRowsIx, ↓dRowsCopy, ↓sRowsPut, ↓sRowsApp, ↓sRows1, ↓sRowsLc, ↓sFrz, ↓sRowsFix, ↓isRows, List.map_cons, List.map_nil, List.length_cons, List.length_nil, List.replicate, List.cons_append, List.nil_append, List.getElem?_cons_zero, List.getElem?_cons_succ, List.set_cons_zero, List.set_cons_succ, Option.map_some, T.d.injEq, D.bl.injEq, D.int.injEq, Option.some.injEq, exists_eq_left', exists_eq_left, exists_eq_right, true_and, and_true, true_or, or_true, decide_eq_true_eq, if_true, if_false, reduceIte, Nat.reduceAdd, Nat.reduceSub, Nat.zero_add, Option.bind_some, List.map_nil]
  exact h
theorem law2 (l4 : L.length ≤ 4) (lm : L ∈ LS ++ OS) (gA : Good L A E) (gB : Good L B F) (b3 b4 b5 b12 : Option Y.B) (h : Z0.nx (wEnv L b3 b4 b5 (some (.d (pairD A E))) (some (.d (mD L A E))) none (some (.d (mD L B F))) none (some (.d (pairD B F))) b12 (some (.d (pairD [missing L] []))))) :
    d_law_2 Z0 (wEnv L b3 b4 b5 (some (.d (pairD A E))) (some (.d (mD L A E))) none (some (.d (mD L B F))) none (some (.d (pairD B F))) b12 (some (.d (pairD [missing L] [])))) := by
  unfold d_law_2
  simp only [↓semOf, ↓toB, ↓sNext, ↓sSeq, ↓sSet, ↓sIf, ↓sRet, ↓sRetN, ↓sPart, ↓sExpr, ↓sBreak, ↓sCont, ↓tAnd, ↓tOr, ↓tNot, ↓tB, ↓dBin, ↓dUn, ↓dVar, ↓dC, ↓dIf, ↓dAnd, ↓dOr, ↓dNot, ↓dCall, ↓dNext, ↓look, ↓esc, ↓Y.bind, ↓arg, ↓iv, ↓bv, ↓sv, ↓oAdd, ↓oSub, ↓oMul, ↓oDiv, ↓oMod, ↓oPow, ↓oNeg, ↓oEq, ↓oNe, ↓oLt, ↓oLe, ↓oGt, ↓oGe, ↓oLen, ↓oIx, ↓oInt, ↓dLst, ↓dTup, ↓aNil, ↓aCons, ↓datas, ↓dStC, ↓dStI, ↓sStPut, ↓scalD, ↓D.eqv, ↓MO.data, ↓oIsN, ↓oNotN, ↓isN, ↓oTuple, ↓oIn, ↓oAbs, ↓dFld, ↓sFld, ↓initOf, ↓dMake, ↓dLc, ↓iOf, ↓items, ↓iEnum, ↓iRange1, ↓sFor, ↓gName, ↓gTup, ↓gTup.go, ↓sRaise0, ↓isTup, ↓sAppend, ↓sStore, ↓sAugAdd, ↓dNewT, ↓dDispT, ↓sDput, ↓putAtM, ↓oDin, ↓oDix, ↓atD, ↓toKeys, ↓toKey, ↓sFrz, ↓oIsi, ↓tyName, ↓isiB, ↓dIndexL, ↓dRowsLen, ↓dRowsIx, ↓dRowsCopy, ↓sRowsPut, ↓sRowsApp, ↓sRows1, ↓sRowsLc, ↓sFrz, ↓sRowsFix, ↓isRows, List.map_cons, List.map_nil, List.length_cons, List.length_nil, List.replicate, List.cons_append, List.nil_append, List.getElem?_cons_zero, List.getElem?_cons_succ, List.set_cons_zero, List.set_cons_succ, Option.map_some, T.d.injEq, D.bl.injEq, D.int.injEq, Option.some.injEq, exists_eq_left', exists_eq_left, exists_eq_right, true_and, and_true, true_or, or_true, decide_eq_true_eq, if_true, if_false, reduceIte, Nat.reduceAdd, Nat.reduceSub, Nat.zero_add, Option.bind_some, List.map_nil, wEnv]
  refine firstw_ok lm l4 gB _ _ ?_
  simp only [↓semOf, ↓toB, ↓sNext, ↓sSeq, ↓sSet, ↓sIf, ↓sRet, ↓sRetN, ↓sPart, ↓sExpr, ↓sBreak, ↓sCont, ↓tAnd, ↓tOr, ↓tNot, ↓tB, ↓dBin, ↓dUn, ↓dVar, ↓dC, ↓dIf, ↓dAnd, ↓dOr, ↓dNot, ↓dCall, ↓dNext, ↓look, ↓esc, ↓Y.bind, ↓arg, ↓iv, ↓bv, ↓sv, ↓oAdd, ↓oSub, ↓oMul, ↓oDiv, ↓oMod, ↓oPow, ↓oNeg, ↓oEq, ↓oNe, ↓oLt, ↓oLe, ↓oGt, ↓oGe, ↓oLen, ↓oIx, ↓oInt, ↓dLst, ↓dTup, ↓aNil, ↓aCons, ↓datas, ↓dStC, ↓dStI, ↓sStPut, ↓scalD, ↓D.eqv, ↓MO.data, ↓oIsN, ↓oNotN, ↓isN, ↓oTuple, ↓oIn, ↓oAbs, ↓dFld, ↓sFld, ↓initOf, ↓dMake, ↓dLc, ↓iOf, ↓items, ↓iEnum, ↓iRange1, ↓sFor, ↓gName, ↓gTup, ↓gTup.go, ↓sRaise0, ↓isTup, ↓sAppend, ↓sStore, ↓sAugAdd, ↓dNewT, ↓dDispT, ↓sDput, ↓putAtM, ↓oDin, ↓oDix, ↓atD, ↓toKeys, ↓toKey, ↓sFrz, ↓oIsi, ↓tyName, ↓isiB, ↓dIndexL, ↓dRowsLen, ↓dRowsIx, ↓dRowsCopy, ↓sRowsPut, ↓sRowsApp, ↓sRows1, ↓sRowsLc, ↓sFrz, ↓sRowsFix, ↓isRows, List.map_cons, List.map_nil, List.length_cons, List.length_nil, List.replicate, List.cons_append, List.nil_append, List.getElem?_cons_zero, List.getElem?_cons_succ, List.set_cons_zero, List.set_cons_succ, Option.map_some, T.d.injEq, D.bl.injEq, D.int.injEq, Option.some.injEq, exists_eq_left', exists_eq_left, exists_eq_right, true_and, and_true, true_or, or_true, decide_eq_true_eq, if_true, if_false, reduceIte, Nat.reduceAdd, Nat.reduceSub, Nat.zero_add, Option.bind_some, List.map_nil]
  refine lf_ok l4 gB (good_none L) _ _ ?_
  simp only [↓semOf, ↓toB, ↓sNext, ↓sSeq, ↓sSet, ↓sIf, ↓sRet, ↓sRetN, ↓sPart, ↓sExpr, ↓sBreak, ↓sCont, ↓tAnd, ↓tOr, ↓tNot, ↓tB, ↓dBin, ↓dUn, ↓dVar, ↓dC, ↓dIf, ↓dAnd, ↓dOr, ↓dNot, ↓dCall, ↓dNext, ↓look, ↓esc, ↓Y.bind, ↓arg, ↓iv, ↓bv, ↓sv, ↓oAdd, ↓oSub, ↓oMul, ↓oDiv, ↓oMod, ↓oPow, ↓oNeg, ↓oEq, ↓oNe, ↓oLt, ↓oLe, ↓oGt, ↓oGe, ↓oLen, ↓oIx, ↓oInt, ↓dLst, ↓dTup, ↓aNil, ↓aCons, ↓datas, ↓dStC, ↓dStI, ↓sStPut, ↓scalD, ↓D.eqv, ↓MO.data, ↓oIsN, ↓oNotN, ↓isN, ↓oTuple, ↓oIn, ↓oAbs, ↓dFld, ↓sFld, ↓initOf, ↓dMake, ↓dLc, ↓iOf, ↓items, ↓iEnum, ↓iRange1, ↓sFor, ↓gName, ↓gTup, ↓gTup.go, ↓sRaise0, ↓isTup, ↓sAppend, ↓sStore, ↓sAugAdd, ↓dNewT, ↓dDispT, ↓sDput, ↓putAtM, ↓oDin, ↓oDix, ↓atD, ↓toKeys, ↓toKey, ↓sFrz, ↓oIsi, ↓tyName, ↓isiB, ↓dIndexL, ↓dRowsLen, ↓dRowsIx, ↓dRowsCopy, ↓sRowsPut, ↓sRowsApp, ↓sRows1, ↓sRowsLc, ↓sFrz, ↓sRowsFix, ↓isRows, List.map_cons, List.map_nil, List.length_cons, List.length_nil, List.replicate, List.cons_append, List.nil_append, List.getElem?_cons_zero, List.getElem?_cons_succ, List.set_cons_zero, List.set_cons_succ, Option.map_some, T.d.injEq, D.bl.injEq, D.int.injEq, Option.some.injEq, exists_eq_left', exists_eq_left, exists_eq_right, true_and, and_true, true_or, or_true, decide_eq_true_eq, if_true, if_false, reduceIte, Nat.reduceAdd, Nat.reduceSub, Nat.zero_add, Option.bind_some, List.map_nil]
  refine equal_ok (run L B F [missing L] [] false ((B.length + 1) * ([missing L].length + 1)) 0 [(0, 0)] [([], 0, 0)]) _ _ ?_
  simp only [↓semOf, ↓toB, ↓sNext, ↓sSeq, ↓sSet, ↓sIf, ↓sRet, ↓sRetN, ↓sPart, ↓sExpr, ↓sBreak, ↓sCont, ↓tAnd, ↓tOr, ↓tNot, ↓tB, ↓dBin, ↓dUn, ↓dVar, ↓dC, ↓dIf, ↓dAnd, ↓dOr, ↓dNot, ↓dCall, ↓dNext, ↓look, ↓esc, ↓Y.bind, ↓arg, ↓iv, ↓bv, ↓sv, ↓oAdd, ↓oSub, ↓oMul, ↓oDiv, ↓oMod, ↓oPow, ↓oNeg, ↓oEq, ↓oNe, ↓oLt, ↓oLe, ↓oGt, ↓oGe, ↓oLen, ↓oIx, ↓oInt, ↓dLst, ↓dTup, ↓aNil, ↓aCons, ↓datas, ↓dStC, ↓dStI, ↓sStPut, ↓scalD, ↓D.eqv, ↓MO.data, ↓oIsN, ↓oNotN, ↓isN, ↓oTuple, ↓oIn, ↓oAbs, ↓dFld, ↓sFld, ↓initOf, ↓dMake, ↓dLc, ↓iOf, ↓items, ↓iEnum, ↓iRange1, ↓sFor, ↓gName, ↓gTup, ↓gTup.go, ↓sRaise0, ↓isTup, ↓sAppend, ↓sStore, ↓sAugAdd, ↓dNewT, ↓dDispT, ↓sDput, ↓putAtM, ↓oDin, ↓oDix, ↓atD, ↓toKeys, ↓toKey, ↓sFrz, ↓oIsi, ↓tyName, ↓isiB, ↓dIndexL, ↓dRowsLen, ↓dRowsIx, ↓dRowsCopy, ↓sRowsPut, ↓sRowsApp, ↓sRows1, ↓sRowsLc, ↓sFrz, ↓sRowsFix, ↓isRows, List.map_cons, List.map_nil, List.length_cons, List.length_nil, List.replicate, List.cons_append, List.nil_append, List.getElem?_cons_zero, List.getElem?_cons_succ, List.set_cons_zero, List.set_cons_succ, Option.map_some, T.d.injEq, D.bl.injEq, D.int.injEq, Option.some.injEq, exists_eq_left', exists_eq_left, exists_eq_right, true_and, and_true, true_or, or_true, decide_eq_true_eq, if_true, if_false, reduceIte, Nat.reduceAdd, Nat.reduceSub, Nat.zero_add, Option.bind_some, List.map_nil]
  exact h
theorem law1 (gA : Good L A E) (b3 b4 b5 b12 b13 : Option Y.B) (h : Z0.nx (wEnv L b3 b4 b5 (some (.d (pairD A E))) (some (.d (mD L A E))) none (some (.d (mD L B F))) none (some (.d (pairD B F))) b12 b13)) :
    d_law_1 Z0 (wEnv L b3 b4 b5 (some (.d (pairD A E))) (some (.d (mD L A E))) none (some (.d (mD L B F))) none (some (.d (pairD B F))) b12 b13) := by
  unfold d_law_1
  simp only [↓semOf, ↓toB, ↓sNext, ↓sSeq, ↓sSet, ↓sIf, ↓sRet, ↓sRetN, ↓sPart, ↓sExpr, ↓sBreak, ↓sCont, ↓tAnd, ↓tOr, ↓tNot, ↓tB, ↓dBin, ↓dUn, ↓dVar, ↓dC, ↓dIf, ↓dAnd, ↓dOr, ↓dNot, ↓dCall, ↓dNext, ↓look, ↓esc, ↓Y.bind, ↓arg, ↓iv, ↓bv, ↓sv, ↓oAdd, ↓oSub, ↓oMul, ↓oDiv, ↓oMod, ↓oPow, ↓oNeg, ↓oEq, ↓oNe, ↓oLt, ↓oLe, ↓oGt, ↓oGe, ↓oLen, ↓oIx, ↓oInt, ↓dLst, ↓dTup, ↓aNil, ↓aCons, ↓datas, ↓dStC, ↓dStI, ↓sStPut, ↓scalD, ↓D.eqv, ↓MO.data, ↓oIsN, ↓oNotN, ↓isN, ↓oTuple, ↓oIn, ↓oAbs, ↓dFld, ↓sFld, ↓initOf, ↓dMake, ↓dLc, ↓iOf, ↓items, ↓iEnum, ↓iRange1, ↓sFor, ↓gName, ↓gTup, ↓gTup.go, ↓sRaise0, ↓isTup, ↓sAppend, ↓sStore, ↓sAugAdd, ↓dNewT, ↓dDispT, ↓sDput, ↓putAtM, ↓oDin, ↓oDix, ↓atD, ↓toKeys, ↓toKey, ↓sFrz, ↓oIsi, ↓tyName, ↓isiB, ↓dIndexL, ↓dRowsLen, ↓dRowsIx, ↓dRowsCopy, ↓sRowsPut, ↓sRowsApp, ↓sRows1, ↓sRowsLc, ↓sFrz, ↓sRowsFix, ↓isRows, List.map_cons, List.map_nil, List.length_cons, List.length_nil, List.replicate, List.cons_append, List.nil_append, List.getElem?_cons_zero, List.getElem?_cons_succ, List.set_cons_zero, List.set_cons_succ, Option.map_some, T.d.injEq, D.bl.injEq, D.int.injEq, Option.some.injEq, exists_eq_left', exists_eq_left, exists_eq_right, true_and, and_true, true_or, or_true, decide_eq_true_eq, if_true, if_false, reduceIte, Nat.reduceAdd, Nat.reduceSub, Nat.zero_add, Option.bind_some, List.map_nil, wEnv, mD, pairD]
  refine ⟨by decide, _, rfl, 0, _, rfl, rfl, _, rfl, rfl, tup_lc (Nat.le_trans gA.sz (by decide)) (fun r k1 hk => hk) ?_⟩
  simp only [↓semOf, ↓toB, ↓sNext, ↓sSeq, ↓sSet, ↓sIf, ↓sRet, ↓sRetN, ↓sPart, ↓sExpr, ↓sBreak, ↓sCont, ↓tAnd, ↓tOr, ↓tNot, ↓tB, ↓dBin, ↓dUn, ↓dVar, ↓dC, ↓dIf, ↓dAnd, ↓dOr, ↓dNot, ↓dCall, ↓dNext, ↓look, ↓esc, ↓Y.bind, ↓arg, ↓iv, ↓bv, ↓sv, ↓oAdd, ↓oSub, ↓oMul, ↓oDiv, ↓oMod, ↓oPow, ↓oNeg, ↓oEq, ↓oNe, ↓oLt, ↓oLe, ↓oGt, ↓oGe, ↓oLen, ↓oIx, ↓oInt, ↓dLst, ↓dTup, ↓aNil, ↓aCons, ↓datas, ↓dStC, ↓dStI, ↓sStPut, ↓scalD, ↓D.eqv, ↓MO.data, ↓oIsN, ↓oNotN, ↓isN, ↓oTuple, ↓oIn, ↓oAbs, ↓dFld, ↓sFld, ↓initOf, ↓dMake, ↓dLc, ↓iOf, ↓items, ↓iEnum, ↓iRange1, ↓sFor, ↓gName, ↓gTup, ↓gTup.go, ↓sRaise0, ↓isTup, ↓sAppend, ↓sStore, ↓sAugAdd, ↓dNewT, ↓dDispT, ↓sDput, ↓putAtM, ↓oDin, ↓oDix, ↓atD, ↓toKeys, ↓toKey, ↓sFrz, ↓oIsi, ↓tyName, ↓isiB, ↓dIndexL, ↓dRowsLen, ↓dRowsIx, ↓dRowsCopy, ↓sRowsPut, ↓sRowsApp, ↓sRows1, ↓sRowsLc, ↓sFrz, ↓sRowsFix, ↓isRows, List.map_cons, List.map_nil, List.length_cons, List.length_nil, List.replicate, List.cons_append, List.nil_append, List.getElem?_cons_zero, List.getElem?_cons_succ, List.set_cons_zero, List.set_cons_succ, Option.map_some, T.d.injEq, D.bl.injEq, D.int.injEq, Option.some.injEq, exists_eq_left', exists_eq_left, exists_eq_right, true_and, and_true, true_or, or_true, decide_eq_true_eq, if_true, if_false, reduceIte, Nat.reduceAdd, Nat.reduceSub, Nat.zero_add, Option.bind_some, List.map_nil]
  refine ⟨.inr ⟨plain_rows, plain_rows⟩, ?_⟩
  refine Eq.mpr (if_neg (by rw [eqv_rowsA]; exact Bool.false_ne_true)) ?_
  refine ⟨by decide, _, rfl, ?_⟩
  simp only [↓semOf, ↓toB, ↓sNext, ↓sSeq, ↓sSet, ↓sIf, ↓sRet, ↓sRetN, ↓sPart, ↓sExpr, ↓sBreak, ↓sCont, ↓tAnd, ↓tOr, ↓tNot, ↓tB, ↓dBin, ↓dUn, ↓dVar, ↓dC, ↓dIf, ↓dAnd, ↓dOr, ↓dNot, ↓dCall, ↓dNext, ↓look, ↓esc, ↓Y.bind, ↓arg, ↓iv, ↓bv, ↓sv, ↓oAdd, ↓oSub, ↓oMul, ↓oDiv, ↓oMod, ↓oPow, ↓oNeg, ↓oEq, ↓oNe, ↓oLt, ↓oLe, ↓oGt, ↓oGe, ↓oLen, ↓oIx, ↓oInt, ↓dLst, ↓dTup, ↓aNil, ↓aCons, ↓datas, ↓dStC, ↓dStI, ↓sStPut, ↓scalD, ↓D.eqv, ↓MO.data, ↓oIsN, ↓oNotN, ↓isN, ↓oTuple, ↓oIn, ↓oAbs, ↓dFld, ↓sFld, ↓initOf, ↓dMake, ↓dLc, ↓iOf, ↓items, ↓iEnum, ↓iRange1, ↓sFor, ↓gName, ↓gTup, ↓gTup.go, ↓sRaise0, ↓isTup, ↓sAppend, ↓sStore, ↓sAugAdd, ↓dNewT, ↓dDispT, ↓sDput, ↓putAtM, ↓oDin, ↓oDix, ↓atD, ↓toKeys, ↓toKey, ↓sFrz, ↓oIsi, ↓tyName, ↓isiB, ↓dIndexL, ↓dRowsLen, ↓dRowsIx, ↓dRowsCopy, ↓sRowsPut, ↓sRowsApp, ↓sRows1, ↓sRowsLc, ↓sFrz, ↓sRowsFix, ↓isRows, List.map_cons, List.map_nil, List.length_cons, List.length_nil, List.replicate, List.cons_append, List.nil_append, List.getElem?_cons_zero, List.getElem?_cons_succ, List.set_cons_zero, List.set_cons_succ, Option.map_some, T.d.injEq, D.bl.injEq, D.int.injEq, Option.some.injEq, exists_eq_left', exists_eq_left, exists_eq_right, true_and, and_true, true_or, or_true, decide_eq_true_eq, if_true, if_false, reduceIte, Nat.reduceAdd, Nat.reduceSub, Nat.zero_add, Option.bind_some, List.map_nil]
  refine ⟨1, _, rfl, rfl, ?_⟩
  simp only [↓semOf, ↓toB, ↓sNext, ↓sSeq, ↓sSet, ↓sIf, ↓sRet, ↓sRetN, ↓sPart, ↓sExpr, ↓sBreak, ↓sCont, ↓tAnd, ↓tOr, ↓tNot, ↓tB, ↓dBin, ↓dUn, ↓dVar, ↓dC, ↓dIf, ↓dAnd, ↓dOr, ↓dNot, ↓dCall, ↓dNext, ↓look, ↓esc, ↓Y.bind, ↓arg, ↓iv, ↓bv, ↓sv, ↓oAdd, ↓oSub, ↓oMul, ↓oDiv, ↓oMod, ↓oPow, ↓oNeg, ↓oEq, ↓oNe, ↓oLt, ↓oLe, ↓oGt, ↓oGe, ↓oLen, ↓oIx, ↓oInt, ↓dLst, ↓dTup, ↓aNil, ↓aCons, ↓datas, ↓dStC, ↓dStI, ↓sStPut, ↓scalD, ↓D.eqv, ↓MO.data, ↓oIsN, ↓oNotN, ↓isN, ↓oTuple, ↓oIn, ↓oAbs, ↓dFld, ↓sFld, ↓initOf, ↓dMake, ↓dLc, ↓iOf, ↓items, ↓iEnum, ↓iRange1, ↓sFor, ↓gName, ↓gTup, ↓gTup.go, ↓sRaise0, ↓isTup, ↓sAppend, ↓sStore, ↓sAugAdd, ↓dNewT, ↓dDispT, ↓sDput, ↓putAtM, ↓oDin, ↓oDix, ↓atD, ↓toKeys, ↓toKey, ↓sFrz, ↓oIsi, ↓tyName, ↓isiB, ↓dIndexL, ↓dRowsLen, ↓dRowsIx, ↓dRowsCopy, ↓sRowsPut, ↓sRowsApp, ↓sRows1, ↓sRowsLc, ↓sFrz, ↓sRowsFix, ↓isRows, List.map_cons, List.map_nil, List.length_cons, List.length_nil, List.replicate, List.cons_append, List.nil_append, List.getElem?_cons_zero, List.getElem?_cons_succ, List.set_cons_zero, List.set_cons_succ, Option.map_some, T.d.injEq, D.bl.injEq, D.int.injEq, Option.some.injEq, exists_eq_left', exists_eq_left, exists_eq_right, true_and, and_true, true_or, or_true, decide_eq_true_eq, if_true, if_false, reduceIte, Nat.reduceAdd, Nat.reduceSub, Nat.zero_add, Option.bind_some, List.map_nil]
  refine ⟨.inr ⟨plain_ends, plain_ends⟩, ?_⟩
  refine Eq.mpr (if_neg (by rw [eqv_ints]; exact Bool.false_ne_true)) ?_
  exact h
end
theorem law_ok : d_law { nx := fun _ => False, rt := fun t => t = .d (.bl true), bk := fun _ => False, ct := fun _ => False, ex := fun _ _ => False } (none :: some .st :: List.replicate 15 none) := by
  unfold d_law
  simp only [↓semOf, ↓toB, ↓sNext, ↓sSeq, ↓sSet, ↓sIf, ↓sRet, ↓sRetN, ↓sPart, ↓sExpr, ↓sBreak, ↓sCont, ↓tAnd, ↓tOr, ↓tNot, ↓tB, ↓dBin, ↓dUn, ↓dVar, ↓dC, ↓dIf, ↓dAnd, ↓dOr, ↓dNot, ↓dCall, ↓dNext, ↓look, ↓esc, ↓Y.bind, ↓arg, ↓iv, ↓bv, ↓sv, ↓oAdd, ↓oSub, ↓oMul, ↓oDiv, ↓oMod, ↓oPow, ↓oNeg, ↓oEq, ↓oNe, ↓oLt, ↓oLe, ↓oGt, ↓oGe, ↓oLen, ↓oIx, ↓oInt, ↓dLst, ↓dTup, ↓aNil, ↓aCons, ↓datas, ↓dStC, ↓dStI, ↓sStPut, ↓scalD, ↓D.eqv, ↓MO.data, ↓oIsN, ↓oNotN, ↓isN, ↓oTuple, ↓oIn, ↓oAbs, ↓dFld, ↓sFld, ↓initOf, ↓dMake, ↓dLc, ↓iOf, ↓items, ↓iEnum, ↓iRange1, ↓sFor, ↓gName, ↓gTup, ↓gTup.go, ↓sRaise0, ↓isTup, ↓sAppend, ↓sStore, ↓sAugAdd, ↓dNewT, ↓dDispT, ↓sDput, ↓putAtM, ↓oDin, ↓oDix, ↓atD, ↓toKeys, ↓toKey, ↓sFrz, ↓oIsi, ↓tyName, ↓isiB, ↓dIndexL, ↓dRowsLen, ↓dRowsIx, ↓dRowsCopy, ↓sRowsPut, ↓sRowsApp, ↓sRows1, ↓sRowsLc, ↓sFrz, ↓sRowsFix, ↓isRows, List.map_cons, List.map_nil, List.length_cons, List.length_nil, List.replicate, List.cons_append, List.nil_append, List.getElem?_cons_zero, List.getElem?_cons_succ, List.set_cons_zero, List.set_cons_succ, Option.map_some, T.d.injEq, D.bl.injEq, D.int.injEq, Option.some.injEq, exists_eq_left', exists_eq_left, exists_eq_right, true_and, and_true, true_or, or_true, decide_eq_true_eq, if_true, if_false, reduceIte, Nat.reduceAdd, Nat.reduceSub, Nat.zero_add, Option.bind_some, List.map_nil]
  refine ⟨by decide, by decide, fun r r0 r1 => ?_⟩
  obtain ⟨L, hL, j, hj, hLj⟩ : ∃ L, L ∈ LS ∧ ∃ j, ixOf 6 r = some j ∧ LSD[j]? = some (.str L) := by
    have h : r = 0 ∨ r = 1 ∨ r = 2 ∨ r = 3 ∨ r = 4 ∨ r = 5 := by omega
    rcases h with rfl | rfl | rfl | rfl | rfl | rfl
    · exact ⟨[97, 98], by decide, 0, rfl, rfl⟩
    · exact ⟨[97], by decide, 1, rfl, rfl⟩
    · exact ⟨[97, 98, 99], by decide, 2, rfl, rfl⟩
    · exact ⟨[98, 100], by decide, 3, rfl, rfl⟩
    · exact ⟨[97, 99, 122], by decide, 4, rfl, rfl⟩
    · exact ⟨[97, 98, 99, 100], by decide, 5, rfl, rfl⟩
  obtain ⟨l1, l4, lm⟩ := LS_len hL
  refine ⟨j, _, hj, hLj, ?_⟩
  refine ⟨by decide, fun u u0 u1 => ?_⟩
  refine law9 (by omega) (by omega) fun n n1 n2 => ?_
  simp only [↓semOf, ↓toB, ↓sNext, ↓sSeq, ↓sSet, ↓sIf, ↓sRet, ↓sRetN, ↓sPart, ↓sExpr, ↓sBreak, ↓sCont, ↓tAnd, ↓tOr, ↓tNot, ↓tB, ↓dBin, ↓dUn, ↓dVar, ↓dC, ↓dIf, ↓dAnd, ↓dOr, ↓dNot, ↓dCall, ↓dNext, ↓look, ↓esc, ↓Y.bind, ↓arg, ↓iv, ↓bv, ↓sv, ↓oAdd, ↓oSub, ↓oMul, ↓oDiv, ↓oMod, ↓oPow, ↓oNeg, ↓oEq, ↓oNe, ↓oLt, ↓oLe, ↓oGt, ↓oGe, ↓oLen, ↓oIx, ↓oInt, ↓dLst, ↓dTup, ↓aNil, ↓aCons, ↓datas, ↓dStC, ↓dStI, ↓sStPut, ↓scalD, ↓D.eqv, ↓MO.data, ↓oIsN, ↓oNotN, ↓isN, ↓oTuple, ↓oIn, ↓oAbs, ↓dFld, ↓sFld, ↓initOf, ↓dMake, ↓dLc, ↓iOf, ↓items, ↓iEnum, ↓iRange1, ↓sFor, ↓gName, ↓gTup, ↓gTup.go, ↓sRaise0, ↓isTup, ↓sAppend, ↓sStore, ↓sAugAdd, ↓dNewT, ↓dDispT, ↓sDput, ↓putAtM, ↓oDin, ↓oDix, ↓atD, ↓toKeys, ↓toKey, ↓sFrz, ↓oIsi, ↓tyName, ↓isiB, ↓dIndexL, ↓dRowsLen, ↓dRowsIx, ↓dRowsCopy, ↓sRowsPut, ↓sRowsApp, ↓sRows1, ↓sRowsLc, ↓sFrz, ↓sRowsFix, ↓isRows, List.map_cons, List.map_nil, List.length_cons, List.length_nil, List.replicate, List.cons_append, List.nil_append, List.getElem?_cons_zero, List.getElem?_cons_succ, List.set_cons_zero, List.set_cons_succ, Option.map_some, T.d.injEq, D.bl.injEq, D.int.injEq, Option.some.injEq, exists_eq_left', exists_eq_left, exists_eq_right, true_and, and_true, true_or, or_true, decide_eq_true_eq, if_true, if_false, reduceIte, Nat.reduceAdd, Nat.reduceSub, Nat.zero_add, Option.bind_some, List.map_nil, wEnv]
  refine lrows_ok l4 n1 (by omega) _ _ fun A hA hR => ?_
  simp only [↓semOf, ↓toB, ↓sNext, ↓sSeq, ↓sSet, ↓sIf, ↓sRet, ↓sRetN, ↓sPart, ↓sExpr, ↓sBreak, ↓sCont, ↓tAnd, ↓tOr, ↓tNot, ↓tB, ↓dBin, ↓dUn, ↓dVar, ↓dC, ↓dIf, ↓dAnd, ↓dOr, ↓dNot, ↓dCall, ↓dNext, ↓look, ↓esc, ↓Y.bind, ↓arg, ↓iv, ↓bv, ↓sv, ↓oAdd, ↓oSub, ↓oMul, ↓oDiv, ↓oMod, ↓oPow, ↓oNeg, ↓oEq, ↓oNe, ↓oLt, ↓oLe, ↓oGt, ↓oGe, ↓oLen, ↓oIx, ↓oInt, ↓dLst, ↓dTup, ↓aNil, ↓aCons, ↓datas, ↓dStC, ↓dStI, ↓sStPut, ↓scalD, ↓D.eqv, ↓MO.data, ↓oIsN, ↓oNotN, ↓isN, ↓oTuple, ↓oIn, ↓oAbs, ↓dFld, ↓sFld, ↓initOf, ↓dMake, ↓dLc, ↓iOf, ↓items, ↓iEnum, ↓iRange1, ↓sFor, ↓gName, ↓gTup, ↓gTup.go, ↓sRaise0, ↓isTup, ↓sAppend, ↓sStore, ↓sAugAdd, ↓dNewT, ↓dDispT, ↓sDput, ↓putAtM, ↓oDin, ↓oDix, ↓atD, ↓toKeys, ↓toKey, ↓sFrz, ↓oIsi, ↓tyName, ↓isiB, ↓dIndexL, ↓dRowsLen, ↓dRowsIx, ↓dRowsCopy, ↓sRowsPut, ↓sRowsApp, ↓sRows1, ↓sRowsLc, ↓sFrz, ↓sRowsFix, ↓isRows, List.map_cons, List.map_nil, List.length_cons, List.length_nil, List.replicate, List.cons_append, List.nil_append, List.getElem?_cons_zero, List.getElem?_cons_succ, List.set_cons_zero, List.set_cons_succ, Option.map_some, T.d.injEq, D.bl.injEq, D.int.injEq, Option.some.injEq, exists_eq_left', exists_eq_left, exists_eq_right, true_and, and_true, true_or, or_true, decide_eq_true_eq, if_true, if_false, reduceIte, Nat.reduceAdd, Nat.reduceSub, Nat.zero_add, Option.bind_some, List.map_nil]
  unfold d_law_t10
  simp only [↓semOf, ↓toB, ↓sNext, ↓sSeq, ↓sSet, ↓sIf, ↓sRet, ↓sRetN, ↓sPart, ↓sExpr, ↓sBreak, ↓sCont, ↓tAnd, ↓tOr, ↓tNot, ↓tB, ↓dBin, ↓dUn, ↓dVar, ↓dC, ↓dIf, ↓dAnd, ↓dOr, ↓dNot, ↓dCall, ↓dNext, ↓look, ↓esc, ↓Y.bind, ↓arg, ↓iv, ↓bv, ↓sv, ↓oAdd, ↓oSub, ↓oMul, ↓oDiv, ↓oMod, ↓oPow, ↓oNeg, ↓oEq, ↓oNe, ↓oLt, ↓oLe, ↓oGt, ↓oGe, ↓oLen, ↓oIx, ↓oInt, ↓dLst, ↓dTup, ↓aNil, ↓aCons, ↓datas, ↓dStC, ↓dStI, ↓sStPut, ↓scalD, ↓D.eqv, ↓MO.data, ↓oIsN, ↓oNotN, ↓isN, ↓oTuple, ↓oIn, ↓oAbs, ↓dFld, ↓sFld, ↓initOf, ↓dMake, ↓dLc, ↓iOf, ↓items, ↓iEnum, ↓iRange1, ↓sFor, ↓gName, ↓gTup, ↓gTup.go, ↓sRaise0, ↓isTup, ↓sAppend, ↓sStore, ↓sAugAdd, ↓dNewT, ↓dDispT, ↓sDput, ↓putAtM, ↓oDin, ↓oDix, ↓atD, ↓toKeys, ↓toKey, ↓sFrz, ↓oIsi, ↓tyName, ↓isiB, ↓dIndexL, ↓dRowsLen, ↓dRowsIx, ↓dRowsCopy, ↓sRowsPut, ↓sRowsApp, ↓sRows1, ↓sRowsLc, ↓sFrz, ↓sRowsFix, ↓isRows, List.map_cons, List.map_nil, List.length_cons, List.length_nil, List.replicate, List.cons_append, List.nil_append, List.getElem?_cons_zero, List.getElem?_cons_succ, List.set_cons_zero, List.set_cons_succ, Option.map_some, T.d.injEq, D.bl.injEq, D.int.injEq, Option.some.injEq, exists_eq_left', exists_eq_left, exists_eq_right, true_and, and_true, true_or, or_true, decide_eq_true_eq, if_true, if_false, reduceIte, Nat.reduceAdd, Nat.reduceSub, Nat.zero_add, Option.bind_some, List.map_nil]
  refine ⟨⟨by omega, by omega⟩, rfl, ?_⟩
  refine ends_lc (Nat.le_trans (show n.toNat ≤ 40 by omega) (show 40 ≤ SZ by decide)) (fun i hi k1 k2 q1 q2 => ?_) fun es h1 h2 => ?_
  · simp only [↓semOf, ↓toB, ↓sNext, ↓sSeq, ↓sSet, ↓sIf, ↓sRet, ↓sRetN, ↓sPart, ↓sExpr, ↓sBreak, ↓sCont, ↓tAnd, ↓tOr, ↓tNot, ↓tB, ↓dBin, ↓dUn, ↓dVar, ↓dC, ↓dIf, ↓dAnd, ↓dOr, ↓dNot, ↓dCall, ↓dNext, ↓look, ↓esc, ↓Y.bind, ↓arg, ↓iv, ↓bv, ↓sv, ↓oAdd, ↓oSub, ↓oMul, ↓oDiv, ↓oMod, ↓oPow, ↓oNeg, ↓oEq, ↓oNe, ↓oLt, ↓oLe, ↓oGt, ↓oGe, ↓oLen, ↓oIx, ↓oInt, ↓dLst, ↓dTup, ↓aNil, ↓aCons, ↓datas, ↓dStC, ↓dStI, ↓sStPut, ↓scalD, ↓D.eqv, ↓MO.data, ↓oIsN, ↓oNotN, ↓isN, ↓oTuple, ↓oIn, ↓oAbs, ↓dFld, ↓sFld, ↓initOf, ↓dMake, ↓dLc, ↓iOf, ↓items, ↓iEnum, ↓iRange1, ↓sFor, ↓gName, ↓gTup, ↓gTup.go, ↓sRaise0, ↓isTup, ↓sAppend, ↓sStore, ↓sAugAdd, ↓dNewT, ↓dDispT, ↓sDput, ↓putAtM, ↓oDin, ↓oDix, ↓atD, ↓toKeys, ↓toKey, ↓sFrz, ↓oIsi, ↓tyName, ↓isiB, ↓dIndexL, ↓dRowsLen, ↓dRowsIx, ↓dRowsCopy, ↓sRowsPut, ↓sRowsApp, ↓sRows1, ↓sRowsLc, ↓sFrz, ↓sRowsFix, ↓isRows, List.map_cons, List.map_nil, List.length_cons, List.length_nil, List.replicate, List.cons_append, List.nil_append, List.getElem?_cons_zero, List.getElem?_cons_succ, List.set_cons_zero, List.set_cons_succ, Option.map_some, T.d.injEq, D.bl.injEq, D.int.injEq, Option.some.injEq, exists_eq_left', exists_eq_left, exists_eq_right, true_and, and_true, true_or, or_true, decide_eq_true_eq, if_true, if_false, reduceIte, Nat.reduceAdd, Nat.reduceSub, Nat.zero_add, Option.bind_some, List.map_nil, wipeD, unwipe]
    refine ⟨by decide, fun r r0 r1 => ?_⟩
    split
    · exact q1
    · exact q2
  have g : Good L A es := ring_good hA n1 (by omega) hR h1 (fun e he => by have := h2 e he; omega)
  simp only [↓semOf, ↓toB, ↓sNext, ↓sSeq, ↓sSet, ↓sIf, ↓sRet, ↓sRetN, ↓sPart, ↓sExpr, ↓sBreak, ↓sCont, ↓tAnd, ↓tOr, ↓tNot, ↓tB, ↓dBin, ↓dUn, ↓dVar, ↓dC, ↓dIf, ↓dAnd, ↓dOr, ↓dNot, ↓dCall, ↓dNext, ↓look, ↓esc, ↓Y.bind, ↓arg, ↓iv, ↓bv, ↓sv, ↓oAdd, ↓oSub, ↓oMul, ↓oDiv, ↓oMod, ↓oPow, ↓oNeg, ↓oEq, ↓oNe, ↓oLt, ↓oLe, ↓oGt, ↓oGe, ↓oLen, ↓oIx, ↓oInt, ↓dLst, ↓dTup, ↓aNil, ↓aCons, ↓datas, ↓dStC, ↓dStI, ↓sStPut, ↓scalD, ↓D.eqv, ↓MO.data, ↓oIsN, ↓oNotN, ↓isN, ↓oTuple, ↓oIn, ↓oAbs, ↓dFld, ↓sFld, ↓initOf, ↓dMake, ↓dLc, ↓iOf, ↓items, ↓iEnum, ↓iRange1, ↓sFor, ↓gName, ↓gTup, ↓gTup.go, ↓sRaise0, ↓isTup, ↓sAppend, ↓sStore, ↓sAugAdd, ↓dNewT, ↓dDispT, ↓sDput, ↓putAtM, ↓oDin, ↓oDix, ↓atD, ↓toKeys, ↓toKey, ↓sFrz, ↓oIsi, ↓tyName, ↓isiB, ↓dIndexL, ↓dRowsLen, ↓dRowsIx, ↓dRowsCopy, ↓sRowsPut, ↓sRowsApp, ↓sRows1, ↓sRowsLc, ↓sFrz, ↓sRowsFix, ↓isRows, List.map_cons, List.map_nil, List.length_cons, List.length_nil, List.replicate, List.cons_append, List.nil_append, List.getElem?_cons_zero, List.getElem?_cons_succ, List.set_cons_zero, List.set_cons_succ, Option.map_some, T.d.injEq, D.bl.injEq, D.int.injEq, Option.some.injEq, exists_eq_left', exists_eq_left, exists_eq_right, true_and, and_true, true_or, or_true, decide_eq_true_eq, if_true, if_false, reduceIte, Nat.reduceAdd, Nat.reduceSub, Nat.zero_add, Option.bind_some, List.map_nil]
  unfold d_law_t9
  simp only [↓semOf, ↓toB, ↓sNext, ↓sSeq, ↓sSet, ↓sIf, ↓sRet, ↓sRetN, ↓sPart, ↓sExpr, ↓sBreak, ↓sCont, ↓tAnd, ↓tOr, ↓tNot, ↓tB, ↓dBin, ↓dUn, ↓dVar, ↓dC, ↓dIf, ↓dAnd, ↓dOr, ↓dNot, ↓dCall, ↓dNext, ↓look, ↓esc, ↓Y.bind, ↓arg, ↓iv, ↓bv, ↓sv, ↓oAdd, ↓oSub, ↓oMul, ↓oDiv, ↓oMod, ↓oPow, ↓oNeg, ↓oEq, ↓oNe, ↓oLt, ↓oLe, ↓oGt, ↓oGe, ↓oLen, ↓oIx, ↓oInt, ↓dLst, ↓dTup, ↓aNil, ↓aCons, ↓datas, ↓dStC, ↓dStI, ↓sStPut, ↓scalD, ↓D.eqv, ↓MO.data, ↓oIsN, ↓oNotN, ↓isN, ↓oTuple, ↓oIn, ↓oAbs, ↓dFld, ↓sFld, ↓initOf, ↓dMake, ↓dLc, ↓iOf, ↓items, ↓iEnum, ↓iRange1, ↓sFor, ↓gName, ↓gTup, ↓gTup.go, ↓sRaise0, ↓isTup, ↓sAppend, ↓sStore, ↓sAugAdd, ↓dNewT, ↓dDispT, ↓sDput, ↓putAtM, ↓oDin, ↓oDix, ↓atD, ↓toKeys, ↓toKey, ↓sFrz, ↓oIsi, ↓tyName, ↓isiB, ↓dIndexL, ↓dRowsLen, ↓dRowsIx, ↓dRowsCopy, ↓sRowsPut, ↓sRowsApp, ↓sRows1, ↓sRowsLc, ↓sFrz, ↓sRowsFix, ↓isRows, List.map_cons, List.map_nil, List.length_cons, List.length_nil, List.replicate, List.cons_append, List.nil_append, List.getElem?_cons_zero, List.getElem?_cons_succ, List.set_cons_zero, List.set_cons_succ, Option.map_some, T.d.injEq, D.bl.injEq, D.int.injEq, Option.some.injEq, exists_eq_left', exists_eq_left, exists_eq_right, true_and, and_true, true_or, or_true, decide_eq_true_eq, if_true, if_false, reduceIte, Nat.reduceAdd, Nat.reduceSub, Nat.zero_add, Option.bind_some, List.map_nil]
  refine ⟨by decide, rfl, copy_lc (Nat.le_trans g.sz (by decide)) (fun r k1 hk => hk) ?_⟩
  simp only [↓semOf, ↓toB, ↓sNext, ↓sSeq, ↓sSet, ↓sIf, ↓sRet, ↓sRetN, ↓sPart, ↓sExpr, ↓sBreak, ↓sCont, ↓tAnd, ↓tOr, ↓tNot, ↓tB, ↓dBin, ↓dUn, ↓dVar, ↓dC, ↓dIf, ↓dAnd, ↓dOr, ↓dNot, ↓dCall, ↓dNext, ↓look, ↓esc, ↓Y.bind, ↓arg, ↓iv, ↓bv, ↓sv, ↓oAdd, ↓oSub, ↓oMul, ↓oDiv, ↓oMod, ↓oPow, ↓oNeg, ↓oEq, ↓oNe, ↓oLt, ↓oLe, ↓oGt, ↓oGe, ↓oLen, ↓oIx, ↓oInt, ↓dLst, ↓dTup, ↓aNil, ↓aCons, ↓datas, ↓dStC, ↓dStI, ↓sStPut, ↓scalD, ↓D.eqv, ↓MO.data, ↓oIsN, ↓oNotN, ↓isN, ↓oTuple, ↓oIn, ↓oAbs, ↓dFld, ↓sFld, ↓initOf, ↓dMake, ↓dLc, ↓iOf, ↓items, ↓iEnum, ↓iRange1, ↓sFor, ↓gName, ↓gTup, ↓gTup.go, ↓sRaise0, ↓isTup, ↓sAppend, ↓sStore, ↓sAugAdd, ↓dNewT, ↓dDispT, ↓sDput, ↓putAtM, ↓oDin, ↓oDix, ↓atD, ↓toKeys, ↓toKey, ↓sFrz, ↓oIsi, ↓tyName, ↓isiB, ↓dIndexL, ↓dRowsLen, ↓dRowsIx, ↓dRowsCopy, ↓sRowsPut, ↓sRowsApp, ↓sRows1, ↓sRowsLc, ↓sFrz, ↓sRowsFix, ↓isRows, List.map_cons, List.map_nil, List.length_cons, List.length_nil, List.replicate, List.cons_append, List.nil_append, List.getElem?_cons_zero, List.getElem?_cons_succ, List.set_cons_zero, List.set_cons_succ, Option.map_some, T.d.injEq, D.bl.injEq, D.int.injEq, Option.some.injEq, exists_eq_left', exists_eq_left, exists_eq_right, true_and, and_true, true_or, or_true, decide_eq_true_eq, if_true, if_false, reduceIte, Nat.reduceAdd, Nat.reduceSub, Nat.zero_add, Option.bind_some, List.map_nil]
  refine init_ok lm g _ _ ?_
  simp only [↓semOf, ↓toB, ↓sNext, ↓sSeq, ↓sSet, ↓sIf, ↓sRet, ↓sRetN, ↓sPart, ↓sExpr, ↓sBreak, ↓sCont, ↓tAnd, ↓tOr, ↓tNot, ↓tB, ↓dBin, ↓dUn, ↓dVar, ↓dC, ↓dIf, ↓dAnd, ↓dOr, ↓dNot, ↓dCall, ↓dNext, ↓look, ↓esc, ↓Y.bind, ↓arg, ↓iv, ↓bv, ↓sv, ↓oAdd, ↓oSub, ↓oMul, ↓oDiv, ↓oMod, ↓oPow, ↓oNeg, ↓oEq, ↓oNe, ↓oLt, ↓oLe, ↓oGt, ↓oGe, ↓oLen, ↓oIx, ↓oInt, ↓dLst, ↓dTup, ↓aNil, ↓aCons, ↓datas, ↓dStC, ↓dStI, ↓sStPut, ↓scalD, ↓D.eqv, ↓MO.data, ↓oIsN, ↓oNotN, ↓isN, ↓oTuple, ↓oIn, ↓oAbs, ↓dFld, ↓sFld, ↓initOf, ↓dMake, ↓dLc, ↓iOf, ↓items, ↓iEnum, ↓iRange1, ↓sFor, ↓gName, ↓gTup, ↓gTup.go, ↓sRaise0, ↓isTup, ↓sAppend, ↓sStore, ↓sAugAdd, ↓dNewT, ↓dDispT, ↓sDput, ↓putAtM, ↓oDin, ↓oDix, ↓atD, ↓toKeys, ↓toKey, ↓sFrz, ↓oIsi, ↓tyName, ↓isiB, ↓dIndexL, ↓dRowsLen, ↓dRowsIx, ↓dRowsCopy, ↓sRowsPut, ↓sRowsApp, ↓sRows1, ↓sRowsLc, ↓sFrz, ↓sRowsFix, ↓isRows, List.map_cons, List.map_nil, List.length_cons, List.length_nil, List.replicate, List.cons_append, List.nil_append, List.getElem?_cons_zero, List.getElem?_cons_succ, List.set_cons_zero, List.set_cons_succ, Option.map_some, T.d.injEq, D.bl.injEq, D.int.injEq, Option.some.injEq, exists_eq_left', exists_eq_left, exists_eq_right, true_and, and_true, true_or, or_true, decide_eq_true_eq, if_true, if_false, reduceIte, Nat.reduceAdd, Nat.reduceSub, Nat.zero_add, Option.bind_some, List.map_nil]
  unfold d_law_t8
  simp only [↓semOf, ↓toB, ↓sNext, ↓sSeq, ↓sSet, ↓sIf, ↓sRet, ↓sRetN, ↓sPart, ↓sExpr, ↓sBreak, ↓sCont, ↓tAnd, ↓tOr, ↓tNot, ↓tB, ↓dBin, ↓dUn, ↓dVar, ↓dC, ↓dIf, ↓dAnd, ↓dOr, ↓dNot, ↓dCall, ↓dNext, ↓look, ↓esc, ↓Y.bind, ↓arg, ↓iv, ↓bv, ↓sv, ↓oAdd, ↓oSub, ↓oMul, ↓oDiv, ↓oMod, ↓oPow, ↓oNeg, ↓oEq, ↓oNe, ↓oLt, ↓oLe, ↓oGt, ↓oGe, ↓oLen, ↓oIx, ↓oInt, ↓dLst, ↓dTup, ↓aNil, ↓aCons, ↓datas, ↓dStC, ↓dStI, ↓sStPut, ↓scalD, ↓D.eqv, ↓MO.data, ↓oIsN, ↓oNotN, ↓isN, ↓oTuple, ↓oIn, ↓oAbs, ↓dFld, ↓sFld, ↓initOf, ↓dMake, ↓dLc, ↓iOf, ↓items, ↓iEnum, ↓iRange1, ↓sFor, ↓gName, ↓gTup, ↓gTup.go, ↓sRaise0, ↓isTup, ↓sAppend, ↓sStore, ↓sAugAdd, ↓dNewT, ↓dDispT, ↓sDput, ↓putAtM, ↓oDin, ↓oDix, ↓atD, ↓toKeys, ↓toKey, ↓sFrz, ↓oIsi, ↓tyName, ↓isiB, ↓dIndexL, ↓dRowsLen, ↓dRowsIx, ↓dRowsCopy, ↓sRowsPut, ↓sRowsApp, ↓sRows1, ↓sRowsLc, ↓sFrz, ↓sRowsFix, ↓isRows, List.map_cons, List.map_nil, List.length_cons, List.length_nil, List.replicate, List.cons_append, List.nil_append, List.getElem?_cons_zero, List.getElem?_cons_succ, List.set_cons_zero, List.set_cons_succ, Option.map_some, T.d.injEq, D.bl.injEq, D.int.injEq, Option.some.injEq, exists_eq_left', exists_eq_left, exists_eq_right, true_and, and_true, true_or, or_true, decide_eq_true_eq, if_true, if_false, reduceIte, Nat.reduceAdd, Nat.reduceSub, Nat.zero_add, Option.bind_some, List.map_nil]
  refine law8 hL g _ rfl ?_
  simp only [↓semOf, ↓toB, ↓sNext, ↓sSeq, ↓sSet, ↓sIf, ↓sRet, ↓sRetN, ↓sPart, ↓sExpr, ↓sBreak, ↓sCont, ↓tAnd, ↓tOr, ↓tNot, ↓tB, ↓dBin, ↓dUn, ↓dVar, ↓dC, ↓dIf, ↓dAnd, ↓dOr, ↓dNot, ↓dCall, ↓dNext, ↓look, ↓esc, ↓Y.bind, ↓arg, ↓iv, ↓bv, ↓sv, ↓oAdd, ↓oSub, ↓oMul, ↓oDiv, ↓oMod, ↓oPow, ↓oNeg, ↓oEq, ↓oNe, ↓oLt, ↓oLe, ↓oGt, ↓oGe, ↓oLen, ↓oIx, ↓oInt, ↓dLst, ↓dTup, ↓aNil, ↓aCons, ↓datas, ↓dStC, ↓dStI, ↓sStPut, ↓scalD, ↓D.eqv, ↓MO.data, ↓oIsN, ↓oNotN, ↓isN, ↓oTuple, ↓oIn, ↓oAbs, ↓dFld, ↓sFld, ↓initOf, ↓dMake, ↓dLc, ↓iOf, ↓items, ↓iEnum, ↓iRange1, ↓sFor, ↓gName, ↓gTup, ↓gTup.go, ↓sRaise0, ↓isTup, ↓sAppend, ↓sStore, ↓sAugAdd, ↓dNewT, ↓dDispT, ↓sDput, ↓putAtM, ↓oDin, ↓oDix, ↓atD, ↓toKeys, ↓toKey, ↓sFrz, ↓oIsi, ↓tyName, ↓isiB, ↓dIndexL, ↓dRowsLen, ↓dRowsIx, ↓dRowsCopy, ↓sRowsPut, ↓sRowsApp, ↓sRows1, ↓sRowsLc, ↓sFrz, ↓sRowsFix, ↓isRows, List.map_cons, List.map_nil, List.length_cons, List.length_nil, List.replicate, List.cons_append, List.nil_append, List.getElem?_cons_zero, List.getElem?_cons_succ, List.set_cons_zero, List.set_cons_succ, Option.map_some, T.d.injEq, D.bl.injEq, D.int.injEq, Option.some.injEq, exists_eq_left', exists_eq_left, exists_eq_right, true_and, and_true, true_or, or_true, decide_eq_true_eq, if_true, if_false, reduceIte, Nat.reduceAdd, Nat.reduceSub, Nat.zero_add, Option.bind_some, List.map_nil, wEnv]
  refine changed_ok l4 l1 g (by omega) _ _ fun A' E' g' => ?_
  simp only [↓semOf, ↓toB, ↓sNext, ↓sSeq, ↓sSet, ↓sIf, ↓sRet, ↓sRetN, ↓sPart, ↓sExpr, ↓sBreak, ↓sCont, ↓tAnd, ↓tOr, ↓tNot, ↓tB, ↓dBin, ↓dUn, ↓dVar, ↓dC, ↓dIf, ↓dAnd, ↓dOr, ↓dNot, ↓dCall, ↓dNext, ↓look, ↓esc, ↓Y.bind, ↓arg, ↓iv, ↓bv, ↓sv, ↓oAdd, ↓oSub, ↓oMul, ↓oDiv, ↓oMod, ↓oPow, ↓oNeg, ↓oEq, ↓oNe, ↓oLt, ↓oLe, ↓oGt, ↓oGe, ↓oLen, ↓oIx, ↓oInt, ↓dLst, ↓dTup, ↓aNil, ↓aCons, ↓datas, ↓dStC, ↓dStI, ↓sStPut, ↓scalD, ↓D.eqv, ↓MO.data, ↓oIsN, ↓oNotN, ↓isN, ↓oTuple, ↓oIn, ↓oAbs, ↓dFld, ↓sFld, ↓initOf, ↓dMake, ↓dLc, ↓iOf, ↓items, ↓iEnum, ↓iRange1, ↓sFor, ↓gName, ↓gTup, ↓gTup.go, ↓sRaise0, ↓isTup, ↓sAppend, ↓sStore, ↓sAugAdd, ↓dNewT, ↓dDispT, ↓sDput, ↓putAtM, ↓oDin, ↓oDix, ↓atD, ↓toKeys, ↓toKey, ↓sFrz, ↓oIsi, ↓tyName, ↓isiB, ↓dIndexL, ↓dRowsLen, ↓dRowsIx, ↓dRowsCopy, ↓sRowsPut, ↓sRowsApp, ↓sRows1, ↓sRowsLc, ↓sFrz, ↓sRowsFix, ↓isRows, List.map_cons, List.map_nil, List.length_cons, List.length_nil, List.replicate, List.cons_append, List.nil_append, List.getElem?_cons_zero, List.getElem?_cons_succ, List.set_cons_zero, List.set_cons_succ, Option.map_some, T.d.injEq, D.bl.injEq, D.int.injEq, Option.some.injEq, exists_eq_left', exists_eq_left, exists_eq_right, true_and, and_true, true_or, or_true, decide_eq_true_eq, if_true, if_false, reduceIte, Nat.reduceAdd, Nat.reduceSub, Nat.zero_add, Option.bind_some, List.map_nil]
  unfold d_law_t5
  simp only [↓semOf, ↓toB, ↓sNext, ↓sSeq, ↓sSet, ↓sIf, ↓sRet, ↓sRetN, ↓sPart, ↓sExpr, ↓sBreak, ↓sCont, ↓tAnd, ↓tOr, ↓tNot, ↓tB, ↓dBin, ↓dUn, ↓dVar, ↓dC, ↓dIf, ↓dAnd, ↓dOr, ↓dNot, ↓dCall, ↓dNext, ↓look, ↓esc, ↓Y.bind, ↓arg, ↓iv, ↓bv, ↓sv, ↓oAdd, ↓oSub, ↓oMul, ↓oDiv, ↓oMod, ↓oPow, ↓oNeg, ↓oEq, ↓oNe, ↓oLt, ↓oLe, ↓oGt, ↓oGe, ↓oLen, ↓oIx, ↓oInt, ↓dLst, ↓dTup, ↓aNil, ↓aCons, ↓datas, ↓dStC, ↓dStI, ↓sStPut, ↓scalD, ↓D.eqv, ↓MO.data, ↓oIsN, ↓oNotN, ↓isN, ↓oTuple, ↓oIn, ↓oAbs, ↓dFld, ↓sFld, ↓initOf, ↓dMake, ↓dLc, ↓iOf, ↓items, ↓iEnum, ↓iRange1, ↓sFor, ↓gName, ↓gTup, ↓gTup.go, ↓sRaise0, ↓isTup, ↓sAppend, ↓sStore, ↓sAugAdd, ↓dNewT, ↓dDispT, ↓sDput, ↓putAtM, ↓oDin, ↓oDix, ↓atD, ↓toKeys, ↓toKey, ↓sFrz, ↓oIsi, ↓tyName, ↓isiB, ↓dIndexL, ↓dRowsLen, ↓dRowsIx, ↓dRowsCopy, ↓sRowsPut, ↓sRowsApp, ↓sRows1, ↓sRowsLc, ↓sFrz, ↓sRowsFix, ↓isRows, List.map_cons, List.map_nil, List.length_cons, List.length_nil, List.replicate, List.cons_append, List.nil_append, List.getElem?_cons_zero, List.getElem?_cons_succ, List.set_cons_zero, List.set_cons_succ, Option.map_some, T.d.injEq, D.bl.injEq, D.int.injEq, Option.some.injEq, exists_eq_left', exists_eq_left, exists_eq_right, true_and, and_true, true_or, or_true, decide_eq_true_eq, if_true, if_false, reduceIte, Nat.reduceAdd, Nat.reduceSub, Nat.zero_add, Option.bind_some, List.map_nil]
  refine law7 hL g g' _ _ _ fun b3 b12 A E B F gA gB => ?_
  simp only [↓semOf, ↓toB, ↓sNext, ↓sSeq, ↓sSet, ↓sIf, ↓sRet, ↓sRetN, ↓sPart, ↓sExpr, ↓sBreak, ↓sCont, ↓tAnd, ↓tOr, ↓tNot, ↓tB, ↓dBin, ↓dUn, ↓dVar, ↓dC, ↓dIf, ↓dAnd, ↓dOr, ↓dNot, ↓dCall, ↓dNext, ↓look, ↓esc, ↓Y.bind, ↓arg, ↓iv, ↓bv, ↓sv, ↓oAdd, ↓oSub, ↓oMul, ↓oDiv, ↓oMod, ↓oPow, ↓oNeg, ↓oEq, ↓oNe, ↓oLt, ↓oLe, ↓oGt, ↓oGe, ↓oLen, ↓oIx, ↓oInt, ↓dLst, ↓dTup, ↓aNil, ↓aCons, ↓datas, ↓dStC, ↓dStI, ↓sStPut, ↓scalD, ↓D.eqv, ↓MO.data, ↓oIsN, ↓oNotN, ↓isN, ↓oTuple, ↓oIn, ↓oAbs, ↓dFld, ↓sFld, ↓initOf, ↓dMake, ↓dLc, ↓iOf, ↓items, ↓iEnum, ↓iRange1, ↓sFor, ↓gName, ↓gTup, ↓gTup.go, ↓sRaise0, ↓isTup, ↓sAppend, ↓sStore, ↓sAugAdd, ↓dNewT, ↓dDispT, ↓sDput, ↓putAtM, ↓oDin, ↓oDix, ↓atD, ↓toKeys, ↓toKey, ↓sFrz, ↓oIsi, ↓tyName, ↓isiB, ↓dIndexL, ↓dRowsLen, ↓dRowsIx, ↓dRowsCopy, ↓sRowsPut, ↓sRowsApp, ↓sRows1, ↓sRowsLc, ↓sFrz, ↓sRowsFix, ↓isRows, List.map_cons, List.map_nil, List.length_cons, List.length_nil, List.replicate, List.cons_append, List.nil_append, List.getElem?_cons_zero, List.getElem?_cons_succ, List.set_cons_zero, List.set_cons_succ, Option.map_some, T.d.injEq, D.bl.injEq, D.int.injEq, Option.some.injEq, exists_eq_left', exists_eq_left, exists_eq_right, true_and, and_true, true_or, or_true, decide_eq_true_eq, if_true, if_false, reduceIte, Nat.reduceAdd, Nat.reduceSub, Nat.zero_add, Option.bind_some, List.map_nil, wEnv, pairD]
  refine ⟨0, _, rfl, rfl, _, rfl, rfl, copy_lc (Nat.le_trans gB.sz (by decide)) (fun r k1 hk => hk) ?_⟩
  simp only [↓semOf, ↓toB, ↓sNext, ↓sSeq, ↓sSet, ↓sIf, ↓sRet, ↓sRetN, ↓sPart, ↓sExpr, ↓sBreak, ↓sCont, ↓tAnd, ↓tOr, ↓tNot, ↓tB, ↓dBin, ↓dUn, ↓dVar, ↓dC, ↓dIf, ↓dAnd, ↓dOr, ↓dNot, ↓dCall, ↓dNext, ↓look, ↓esc, ↓Y.bind, ↓arg, ↓iv, ↓bv, ↓sv, ↓oAdd, ↓oSub, ↓oMul, ↓oDiv, ↓oMod, ↓oPow, ↓oNeg, ↓oEq, ↓oNe, ↓oLt, ↓oLe, ↓oGt, ↓oGe, ↓oLen, ↓oIx, ↓oInt, ↓dLst, ↓dTup, ↓aNil, ↓aCons, ↓datas, ↓dStC, ↓dStI, ↓sStPut, ↓scalD, ↓D.eqv, ↓MO.data, ↓oIsN, ↓oNotN, ↓isN, ↓oTuple, ↓oIn, ↓oAbs, ↓dFld, ↓sFld, ↓initOf, ↓dMake, ↓dLc, ↓iOf, ↓items, ↓iEnum, ↓iRange1, ↓sFor, ↓gName, ↓gTup, ↓gTup.go, ↓sRaise0, ↓isTup, ↓sAppend, ↓sStore, ↓sAugAdd, ↓dNewT, ↓dDispT, ↓sDput, ↓putAtM, ↓oDin, ↓oDix, ↓atD, ↓toKeys, ↓toKey, ↓sFrz, ↓oIsi, ↓tyName, ↓isiB, ↓dIndexL, ↓dRowsLen, ↓dRowsIx, ↓dRowsCopy, ↓sRowsPut, ↓sRowsApp, ↓sRows1, ↓sRowsLc, ↓sFrz, ↓sRowsFix, ↓isRows, List.map_cons, List.map_nil, List.length_cons, List.length_nil, List.replicate, List.cons_append, List.nil_append, List.getElem?_cons_zero, List.getElem?_cons_succ, List.set_cons_zero, List.set_cons_succ, Option.map_some, T.d.injEq, D.bl.injEq, D.int.injEq, Option.some.injEq, exists_eq_left', exists_eq_left, exists_eq_right, true_and, and_true, true_or, or_true, decide_eq_true_eq, if_true, if_false, reduceIte, Nat.reduceAdd, Nat.reduceSub, Nat.zero_add, Option.bind_some, List.map_nil]
  refine ⟨1, _, rfl, rfl, ?_⟩
  refine init_ok lm gB _ _ ?_
  simp only [↓semOf, ↓toB, ↓sNext, ↓sSeq, ↓sSet, ↓sIf, ↓sRet, ↓sRetN, ↓sPart, ↓sExpr, ↓sBreak, ↓sCont, ↓tAnd, ↓tOr, ↓tNot, ↓tB, ↓dBin, ↓dUn, ↓dVar, ↓dC, ↓dIf, ↓dAnd, ↓dOr, ↓dNot, ↓dCall, ↓dNext, ↓look, ↓esc, ↓Y.bind, ↓arg, ↓iv, ↓bv, ↓sv, ↓oAdd, ↓oSub, ↓oMul, ↓oDiv, ↓oMod, ↓oPow, ↓oNeg, ↓oEq, ↓oNe, ↓oLt, ↓oLe, ↓oGt, ↓oGe, ↓oLen, ↓oIx, ↓oInt, ↓dLst, ↓dTup, ↓aNil, ↓aCons, ↓datas, ↓dStC, ↓dStI, ↓sStPut, ↓scalD, ↓D.eqv, ↓MO.data, ↓oIsN, ↓oNotN, ↓isN, ↓oTuple, ↓oIn, ↓oAbs, ↓dFld, ↓sFld, ↓initOf, ↓dMake, ↓dLc, ↓iOf, ↓items, ↓iEnum, ↓iRange1, ↓sFor, ↓gName, ↓gTup, ↓gTup.go, ↓sRaise0, ↓isTup, ↓sAppend, ↓sStore, ↓sAugAdd, ↓dNewT, ↓dDispT, ↓sDput, ↓putAtM, ↓oDin, ↓oDix, ↓atD, ↓toKeys, ↓toKey, ↓sFrz, ↓oIsi, ↓tyName, ↓isiB, ↓dIndexL, ↓dRowsLen, ↓dRowsIx, ↓dRowsCopy, ↓sRowsPut, ↓sRowsApp, ↓sRows1, ↓sRowsLc, ↓sFrz, ↓sRowsFix, ↓isRows, List.map_cons, List.map_nil, List.length_cons, List.length_nil, List.replicate, List.cons_append, List.nil_append, List.getElem?_cons_zero, List.getElem?_cons_succ, List.set_cons_zero, List.set_cons_succ, Option.map_some, T.d.injEq, D.bl.injEq, D.int.injEq, Option.some.injEq, exists_eq_left', exists_eq_left, exists_eq_right, true_and, and_true, true_or, or_true, decide_eq_true_eq, if_true, if_false, reduceIte, Nat.reduceAdd, Nat.reduceSub, Nat.zero_add, Option.bind_some, List.map_nil]
  unfold d_law_t2
  simp only [↓semOf, ↓toB, ↓sNext, ↓sSeq, ↓sSet, ↓sIf, ↓sRet, ↓sRetN, ↓sPart, ↓sExpr, ↓sBreak, ↓sCont, ↓tAnd, ↓tOr, ↓tNot, ↓tB, ↓dBin, ↓dUn, ↓dVar, ↓dC, ↓dIf, ↓dAnd, ↓dOr, ↓dNot, ↓dCall, ↓dNext, ↓look, ↓esc, ↓Y.bind, ↓arg, ↓iv, ↓bv, ↓sv, ↓oAdd, ↓oSub, ↓oMul, ↓oDiv, ↓oMod, ↓oPow, ↓oNeg, ↓oEq, ↓oNe, ↓oLt, ↓oLe, ↓oGt, ↓oGe, ↓oLen, ↓oIx, ↓oInt, ↓dLst, ↓dTup, ↓aNil, ↓aCons, ↓datas, ↓dStC, ↓dStI, ↓sStPut, ↓scalD, ↓D.eqv, ↓MO.data, ↓oIsN, ↓oNotN, ↓isN, ↓oTuple, ↓oIn, ↓oAbs, ↓dFld, ↓sFld, ↓initOf, ↓dMake, ↓dLc, ↓iOf, ↓items, ↓iEnum, ↓iRange1, ↓sFor, ↓gName, ↓gTup, ↓gTup.go, ↓sRaise0, ↓isTup, ↓sAppend, ↓sStore, ↓sAugAdd, ↓dNewT, ↓dDispT, ↓sDput, ↓putAtM, ↓oDin, ↓oDix, ↓atD, ↓toKeys, ↓toKey, ↓sFrz, ↓oIsi, ↓tyName, ↓isiB, ↓dIndexL, ↓dRowsLen, ↓dRowsIx, ↓dRowsCopy, ↓sRowsPut, ↓sRowsApp, ↓sRows1, ↓sRowsLc, ↓sFrz, ↓sRowsFix, ↓isRows, List.map_cons, List.map_nil, List.length_cons, List.length_nil, List.replicate, List.cons_append, List.nil_append, List.getElem?_cons_zero, List.getElem?_cons_succ, List.set_cons_zero, List.set_cons_succ, Option.map_some, T.d.injEq, D.bl.injEq, D.int.injEq, Option.some.injEq, exists_eq_left', exists_eq_left, exists_eq_right, true_and, and_true, true_or, or_true, decide_eq_true_eq, if_true, if_false, reduceIte, Nat.reduceAdd, Nat.reduceSub, Nat.zero_add, Option.bind_some, List.map_nil]
  refine ⟨rfl, lcL_map (fun _ => .int (-1)) ?_ (fun d hd k1 hk => hk) ?_⟩
  · rw [List.length_map]; exact Nat.le_trans l4 (by decide)
  rw [missing_lc]
  simp only [↓semOf, ↓toB, ↓sNext, ↓sSeq, ↓sSet, ↓sIf, ↓sRet, ↓sRetN, ↓sPart, ↓sExpr, ↓sBreak, ↓sCont, ↓tAnd, ↓tOr, ↓tNot, ↓tB, ↓dBin, ↓dUn, ↓dVar, ↓dC, ↓dIf, ↓dAnd, ↓dOr, ↓dNot, ↓dCall, ↓dNext, ↓look, ↓esc, ↓Y.bind, ↓arg, ↓iv, ↓bv, ↓sv, ↓oAdd, ↓oSub, ↓oMul, ↓oDiv, ↓oMod, ↓oPow, ↓oNeg, ↓oEq, ↓oNe, ↓oLt, ↓oLe, ↓oGt, ↓oGe, ↓oLen, ↓oIx, ↓oInt, ↓dLst, ↓dTup, ↓aNil, ↓aCons, ↓datas, ↓dStC, ↓dStI, ↓sStPut, ↓scalD, ↓D.eqv, ↓MO.data, ↓oIsN, ↓oNotN, ↓isN, ↓oTuple, ↓oIn, ↓oAbs, ↓dFld, ↓sFld, ↓initOf, ↓dMake, ↓dLc, ↓iOf, ↓items, ↓iEnum, ↓iRange1, ↓sFor, ↓gName, ↓gTup, ↓gTup.go, ↓sRaise0, ↓isTup, ↓sAppend, ↓sStore, ↓sAugAdd, ↓dNewT, ↓dDispT, ↓sDput, ↓putAtM, ↓oDin, ↓oDix, ↓atD, ↓toKeys, ↓toKey, ↓sFrz, ↓oIsi, ↓tyName, ↓isiB, ↓dIndexL, ↓dRowsLen, ↓dRowsIx, ↓dRowsCopy, ↓sRowsPut, ↓sRowsApp, ↓sRows1, ↓sRowsLc, ↓sFrz, ↓sRowsFix, ↓isRows, List.map_cons, List.map_nil, List.length_cons, List.length_nil, List.replicate, List.cons_append, List.nil_append, List.getElem?_cons_zero, List.getElem?_cons_succ, List.set_cons_zero, List.set_cons_succ, Option.map_some, T.d.injEq, D.bl.injEq, D.int.injEq, Option.some.injEq, exists_eq_left', exists_eq_left, exists_eq_right, true_and, and_true, true_or, or_true, decide_eq_true_eq, if_true, if_false, reduceIte, Nat.reduceAdd, Nat.reduceSub, Nat.zero_add, Option.bind_some, List.map_nil]
  refine ⟨by decide, by decide, by decide, ?_⟩
  unfold d_law_t1
  simp only [↓semOf, ↓toB, ↓sNext, ↓sSeq, ↓sSet, ↓sIf, ↓sRet, ↓sRetN, ↓sPart, ↓sExpr, ↓sBreak, ↓sCont, ↓tAnd, ↓tOr, ↓tNot, ↓tB, ↓dBin, ↓dUn, ↓dVar, ↓dC, ↓dIf, ↓dAnd, ↓dOr, ↓dNot, ↓dCall, ↓dNext, ↓look, ↓esc, ↓Y.bind, ↓arg, ↓iv, ↓bv, ↓sv, ↓oAdd, ↓oSub, ↓oMul, ↓oDiv, ↓oMod, ↓oPow, ↓oNeg, ↓oEq, ↓oNe, ↓oLt, ↓oLe, ↓oGt, ↓oGe, ↓oLen, ↓oIx, ↓oInt, ↓dLst, ↓dTup, ↓aNil, ↓aCons, ↓datas, ↓dStC, ↓dStI, ↓sStPut, ↓scalD, ↓D.eqv, ↓MO.data, ↓oIsN, ↓oNotN, ↓isN, ↓oTuple, ↓oIn, ↓oAbs, ↓dFld, ↓sFld, ↓initOf, ↓dMake, ↓dLc, ↓iOf, ↓items, ↓iEnum, ↓iRange1, ↓sFor, ↓gName, ↓gTup, ↓gTup.go, ↓sRaise0, ↓isTup, ↓sAppend, ↓sStore, ↓sAugAdd, ↓dNewT, ↓dDispT, ↓sDput, ↓putAtM, ↓oDin, ↓oDix, ↓atD, ↓toKeys, ↓toKey, ↓sFrz, ↓oIsi, ↓tyName, ↓isiB, ↓dIndexL, ↓dRowsLen, ↓dRowsIx, ↓dRowsCopy, ↓sRowsPut, ↓sRowsApp, ↓sRows1, ↓sRowsLc, ↓sFrz, ↓sRowsFix, ↓isRows, List.map_cons, List.map_nil, List.length_cons, List.length_nil, List.replicate, List.cons_append, List.nil_append, List.getElem?_cons_zero, List.getElem?_cons_succ, List.set_cons_zero, List.set_cons_succ, Option.map_some, T.d.injEq, D.bl.injEq, D.int.injEq, Option.some.injEq, exists_eq_left', exists_eq_left, exists_eq_right, true_and, and_true, true_or, or_true, decide_eq_true_eq, if_true, if_false, reduceIte, Nat.reduceAdd, Nat.reduceSub, Nat.zero_add, Option.bind_some, List.map_nil]
  refine law6 l4 gA gB _ _ _ _ _ ?_
  simp only [↓semOf, ↓toB, ↓sNext, ↓sSeq, ↓sSet, ↓sIf, ↓sRet, ↓sRetN, ↓sPart, ↓sExpr, ↓sBreak, ↓sCont, ↓tAnd, ↓tOr, ↓tNot, ↓tB, ↓dBin, ↓dUn, ↓dVar, ↓dC, ↓dIf, ↓dAnd, ↓dOr, ↓dNot, ↓dCall, ↓dNext, ↓look, ↓esc, ↓Y.bind, ↓arg, ↓iv, ↓bv, ↓sv, ↓oAdd, ↓oSub, ↓oMul, ↓oDiv, ↓oMod, ↓oPow, ↓oNeg, ↓oEq, ↓oNe, ↓oLt, ↓oLe, ↓oGt, ↓oGe, ↓oLen, ↓oIx, ↓oInt, ↓dLst, ↓dTup, ↓aNil, ↓aCons, ↓datas, ↓dStC, ↓dStI, ↓sStPut, ↓scalD, ↓D.eqv, ↓MO.data, ↓oIsN, ↓oNotN, ↓isN, ↓oTuple, ↓oIn, ↓oAbs, ↓dFld, ↓sFld, ↓initOf, ↓dMake, ↓dLc, ↓iOf, ↓items, ↓iEnum, ↓iRange1, ↓sFor, ↓gName, ↓gTup, ↓gTup.go, ↓sRaise0, ↓isTup, ↓sAppend, ↓sStore, ↓sAugAdd, ↓dNewT, ↓dDispT, ↓sDput, ↓putAtM, ↓oDin, ↓oDix, ↓atD, ↓toKeys, ↓toKey, ↓sFrz, ↓oIsi, ↓tyName, ↓isiB, ↓dIndexL, ↓dRowsLen, ↓dRowsIx, ↓dRowsCopy, ↓sRowsPut, ↓sRowsApp, ↓sRows1, ↓sRowsLc, ↓sFrz, ↓sRowsFix, ↓isRows, List.map_cons, List.map_nil, List.length_cons, List.length_nil, List.replicate, List.cons_append, List.nil_append, List.getElem?_cons_zero, List.getElem?_cons_succ, List.set_cons_zero, List.set_cons_succ, Option.map_some, T.d.injEq, D.bl.injEq, D.int.injEq, Option.some.injEq, exists_eq_left', exists_eq_left, exists_eq_right, true_and, and_true, true_or, or_true, decide_eq_true_eq, if_true, if_false, reduceIte, Nat.reduceAdd, Nat.reduceSub, Nat.zero_add, Option.bind_some, List.map_nil]
  refine law5 l4 gA gB _ _ _ _ _ ?_
  simp only [↓semOf, ↓toB, ↓sNext, ↓sSeq, ↓sSet, ↓sIf, ↓sRet, ↓sRetN, ↓sPart, ↓sExpr, ↓sBreak, ↓sCont, ↓tAnd, ↓tOr, ↓tNot, ↓tB, ↓dBin, ↓dUn, ↓dVar, ↓dC, ↓dIf, ↓dAnd, ↓dOr, ↓dNot, ↓dCall, ↓dNext, ↓look, ↓esc, ↓Y.bind, ↓arg, ↓iv, ↓bv, ↓sv, ↓oAdd, ↓oSub, ↓oMul, ↓oDiv, ↓oMod, ↓oPow, ↓oNeg, ↓oEq, ↓oNe, ↓oLt, ↓oLe, ↓oGt, ↓oGe, ↓oLen, ↓oIx, ↓oInt, ↓dLst, ↓dTup, ↓aNil, ↓aCons, ↓datas, ↓dStC, ↓dStI, ↓sStPut, ↓scalD, ↓D.eqv, ↓MO.data, ↓oIsN, ↓oNotN, ↓isN, ↓oTuple, ↓oIn, ↓oAbs, ↓dFld, ↓sFld, ↓initOf, ↓dMake, ↓dLc, ↓iOf, ↓items, ↓iEnum, ↓iRange1, ↓sFor, ↓gName, ↓gTup, ↓gTup.go, ↓sRaise0, ↓isTup, ↓sAppend, ↓sStore, ↓sAugAdd, ↓dNewT, ↓dDispT, ↓sDput, ↓putAtM, ↓oDin, ↓oDix, ↓atD, ↓toKeys, ↓toKey, ↓sFrz, ↓oIsi, ↓tyName, ↓isiB, ↓dIndexL, ↓dRowsLen, ↓dRowsIx, ↓dRowsCopy, ↓sRowsPut, ↓sRowsApp, ↓sRows1, ↓sRowsLc, ↓sFrz, ↓sRowsFix, ↓isRows, List.map_cons, List.map_nil, List.length_cons, List.length_nil, List.replicate, List.cons_append, List.nil_append, List.getElem?_cons_zero, List.getElem?_cons_succ, List.set_cons_zero, List.set_cons_succ, Option.map_some, T.d.injEq, D.bl.injEq, D.int.injEq, Option.some.injEq, exists_eq_left', exists_eq_left, exists_eq_right, true_and, and_true, true_or, or_true, decide_eq_true_eq, if_true, if_false, reduceIte, Nat.reduceAdd, Nat.reduceSub, Nat.zero_add, Option.bind_some, List.map_nil]
  refine law4 l4 gA gB _ _ _ _ _ ?_
  simp only [↓semOf, ↓toB, ↓sNext, ↓sSeq, ↓sSet, ↓sIf, ↓sRet, ↓sRetN, ↓sPart, ↓sExpr, ↓sBreak, ↓sCont, ↓tAnd, ↓tOr, ↓tNot, ↓tB, ↓dBin, ↓dUn, ↓dVar, ↓dC, ↓dIf, ↓dAnd, ↓dOr, ↓dNot, ↓dCall, ↓dNext, ↓look, ↓esc, ↓Y.bind, ↓arg, ↓iv, ↓bv, ↓sv, ↓oAdd, ↓oSub, ↓oMul, ↓oDiv, ↓oMod, ↓oPow, ↓oNeg, ↓oEq, ↓oNe, ↓oLt, ↓oLe, ↓oGt, ↓oGe, ↓oLen, ↓oIx, ↓oInt, ↓dLst, ↓dTup, ↓aNil, ↓aCons, ↓datas, ↓dStC, ↓dStI, ↓sStPut, ↓scalD, ↓D.eqv, ↓MO.data, ↓oIsN, ↓oNotN, ↓isN, ↓oTuple, ↓oIn, ↓oAbs, ↓dFld, ↓sFld, ↓initOf, ↓dMake, ↓dLc, ↓iOf, ↓items, ↓iEnum, ↓iRange1, ↓sFor, ↓gName, ↓gTup, ↓gTup.go, ↓sRaise0, ↓isTup, ↓sAppend, ↓sStore, ↓sAugAdd, ↓dNewT, ↓dDispT, ↓sDput, ↓putAtM, ↓oDin, ↓oDix, ↓atD, ↓toKeys, ↓toKey, ↓sFrz, ↓oIsi, ↓tyName, ↓isiB, ↓dIndexL, ↓dRowsLen, ↓dRowsIx, ↓dRowsCopy, ↓sRowsPut, ↓sRowsApp, ↓sRows1, ↓sRowsLc, ↓sFrz, ↓sRowsFix, ↓isRows, List.map_cons, List.map_nil, List.length_cons, List.length_nil, List.replicate, List.cons_append, List.nil_append, List.getElem?_cons_zero, List.getElem?_cons_succ, List.set_cons_zero, List.set_cons_succ, Option.map_some, T.d.injEq, D.bl.injEq, D.int.injEq, Option.some.injEq, exists_eq_left', exists_eq_left, exists_eq_right, true_and, and_true, true_or, or_true, decide_eq_true_eq, if_true, if_false, reduceIte, Nat.reduceAdd, Nat.reduceSub, Nat.zero_add, Option.bind_some, List.map_nil]
  refine law3 l4 lm gA gB _ _ _ _ ?_
  simp only [↓semOf, ↓toB, ↓sNext, ↓sSeq, ↓sSet, ↓sIf, ↓sRet, ↓sRetN, ↓sPart, ↓sExpr, ↓sBreak, ↓sCont, ↓tAnd, ↓tOr, ↓tNot, ↓tB, ↓dBin, ↓dUn, ↓dVar, ↓dC, ↓dIf, ↓dAnd, ↓dOr, ↓dNot, ↓dCall, ↓dNext, ↓look, ↓esc, ↓Y.bind, ↓arg, ↓iv, ↓bv, ↓sv, ↓oAdd, ↓oSub, ↓oMul, ↓oDiv, ↓oMod, ↓oPow, ↓oNeg, ↓oEq, ↓oNe, ↓oLt, ↓oLe, ↓oGt, ↓oGe, ↓oLen, ↓oIx, ↓oInt, ↓dLst, ↓dTup, ↓aNil, ↓aCons, ↓datas, ↓dStC, ↓dStI, ↓sStPut, ↓scalD, ↓D.eqv, ↓MO.data, ↓oIsN, ↓oNotN, ↓isN, ↓oTuple, ↓oIn, ↓oAbs, ↓dFld, ↓sFld, ↓initOf, ↓dMake, ↓dLc, ↓iOf, ↓items, ↓iEnum, ↓iRange1, ↓sFor, ↓gName, ↓gTup, ↓gTup.go, ↓sRaise0, ↓isTup, ↓sAppend, ↓sStore, ↓sAugAdd, ↓dNewT, ↓dDispT, ↓sDput, ↓putAtM, ↓oDin, ↓oDix, ↓atD, ↓toKeys, ↓toKey, ↓sFrz, ↓oIsi, ↓tyName, ↓isiB, ↓dIndexL, ↓dRowsLen, ↓dRowsIx, ↓dRowsCopy, ↓sRowsPut, ↓sRowsApp, ↓sRows1, ↓sRowsLc, ↓sFrz, ↓sRowsFix, ↓isRows, List.map_cons, List.map_nil, List.length_cons, List.length_nil, List.replicate, List.cons_append, List.nil_append, List.getElem?_cons_zero, List.getElem?_cons_succ, List.set_cons_zero, List.set_cons_succ, Option.map_some, T.d.injEq, D.bl.injEq, D.int.injEq, Option.some.injEq, exists_eq_left', exists_eq_left, exists_eq_right, true_and, and_true, true_or, or_true, decide_eq_true_eq, if_true, if_false, reduceIte, Nat.reduceAdd, Nat.reduceSub, Nat.zero_add, Option.bind_some, List.map_nil]
  refine law2 l4 lm gA gB _ _ _ _ ?_
  simp only [↓semOf, ↓toB, ↓sNext, ↓sSeq, ↓sSet, ↓sIf, ↓sRet, ↓sRetN, ↓sPart, ↓sExpr, ↓sBreak, ↓sCont, ↓tAnd, ↓tOr, ↓tNot, ↓tB, ↓dBin, ↓dUn, ↓dVar, ↓dC, ↓dIf, ↓dAnd, ↓dOr, ↓dNot, ↓dCall, ↓dNext, ↓look, ↓esc, ↓Y.bind, ↓arg, ↓iv, ↓bv, ↓sv, ↓oAdd, ↓oSub, ↓oMul, ↓oDiv, ↓oMod, ↓oPow, ↓oNeg, ↓oEq, ↓oNe, ↓oLt, ↓oLe, ↓oGt, ↓oGe, ↓oLen, ↓oIx, ↓oInt, ↓dLst, ↓dTup, ↓aNil, ↓aCons, ↓datas, ↓dStC, ↓dStI, ↓sStPut, ↓scalD, ↓D.eqv, ↓MO.data, ↓oIsN, ↓oNotN, ↓isN, ↓oTuple, ↓oIn, ↓oAbs, ↓dFld, ↓sFld, ↓initOf, ↓dMake, ↓dLc, ↓iOf, ↓items, ↓iEnum, ↓iRange1, ↓sFor, ↓gName, ↓gTup, ↓gTup.go, ↓sRaise0, ↓isTup, ↓sAppend, ↓sStore, ↓sAugAdd, ↓dNewT, ↓dDispT, ↓sDput, ↓putAtM, ↓oDin, ↓oDix, ↓atD, ↓toKeys, ↓toKey, ↓sFrz, ↓oIsi, ↓tyName, ↓isiB, ↓dIndexL, ↓dRowsLen, ↓dRowsIx, ↓dRowsCopy, ↓sRowsPut, ↓sRowsApp, ↓sRows1, ↓sRowsLc, ↓sFrz, ↓sRowsFix, ↓isRows, List.map_cons, List.map_nil, List.length_cons, List.length_nil, List.replicate, List.cons_append, List.nil_append, List.getElem?_cons_zero, List.getElem?_cons_succ, List.set_cons_zero, List.set_cons_succ, Option.map_some, T.d.injEq, D.bl.injEq, D.int.injEq, Option.some.injEq, exists_eq_left', exists_eq_left, exists_eq_right, true_and, and_true, true_or, or_true, decide_eq_true_eq, if_true, if_false, reduceIte, Nat.reduceAdd, Nat.reduceSub, Nat.zero_add, Option.bind_some, List.map_nil]
  refine law1 gA _ _ _ _ _ ?_
  simp only [↓semOf, ↓toB, ↓sNext, ↓sSeq, ↓sSet, ↓sIf, ↓sRet, ↓sRetN, ↓sPart, ↓sExpr, ↓sBreak, ↓sCont, ↓tAnd, ↓tOr, ↓tNot, ↓tB, ↓dBin, ↓dUn, ↓dVar, ↓dC, ↓dIf, ↓dAnd, ↓dOr, ↓dNot, ↓dCall, ↓dNext, ↓look, ↓esc, ↓Y.bind, ↓arg, ↓iv, ↓bv, ↓sv, ↓oAdd, ↓oSub, ↓oMul, ↓oDiv, ↓oMod, ↓oPow, ↓oNeg, ↓oEq, ↓oNe, ↓oLt, ↓oLe, ↓oGt, ↓oGe, ↓oLen, ↓oIx, ↓oInt, ↓dLst, ↓dTup, ↓aNil, ↓aCons, ↓datas, ↓dStC, ↓dStI, ↓sStPut, ↓scalD, ↓D.eqv, ↓MO.data, ↓oIsN, ↓oNotN, ↓isN, ↓oTuple, ↓oIn, ↓oAbs, ↓dFld, ↓sFld, ↓initOf, ↓dMake, ↓dLc, ↓iOf, ↓items, ↓iEnum, ↓iRange1, ↓sFor, ↓gName, ↓gTup, ↓gTup.go, ↓sRaise0, ↓isTup, ↓sAppend, ↓sStore, ↓sAugAdd, ↓dNewT, ↓dDispT, ↓sDput, ↓putAtM, ↓oDin, ↓oDix, ↓atD, ↓toKeys, ↓toKey, ↓sFrz, ↓oIsi, ↓tyName, ↓isiB, ↓dIndexL, ↓dRowsLen, ↓dRowsIx, ↓dRowsCopy, ↓sRowsPut, ↓sRowsApp, ↓sRows1, ↓sRowsLc, ↓sFrz, ↓sRowsFix, ↓isRows, List.map_cons, List.map_nil, List.length_cons, List.length_nil, List.replicate, List.cons_append, List.nil_append, List.getElem?_cons_zero, List.getElem?_cons_succ, List.set_cons_zero, List.set_cons_succ, Option.map_some, T.d.injEq, D.bl.injEq, D.int.injEq, Option.some.injEq, exists_eq_left', exists_eq_left, exists_eq_right, true_and, and_true, true_or, or_true, decide_eq_true_eq, if_true, if_false, reduceIte, Nat.reduceAdd, Nat.reduceSub, Nat.zero_add, Option.bind_some, List.map_nil, wEnv, mD, pairD]
  refine ⟨by decide, _, rfl, 0, _, rfl, rfl, _, rfl, rfl, tup_lc (Nat.le_trans gB.sz (by decide)) (fun r k1 hk => hk) ?_⟩
  simp only [↓semOf, ↓toB, ↓sNext, ↓sSeq, ↓sSet, ↓sIf, ↓sRet, ↓sRetN, ↓sPart, ↓sExpr, ↓sBreak, ↓sCont, ↓tAnd, ↓tOr, ↓tNot, ↓tB, ↓dBin, ↓dUn, ↓dVar, ↓dC, ↓dIf, ↓dAnd, ↓dOr, ↓dNot, ↓dCall, ↓dNext, ↓look, ↓esc, ↓Y.bind, ↓arg, ↓iv, ↓bv, ↓sv, ↓oAdd, ↓oSub, ↓oMul, ↓oDiv, ↓oMod, ↓oPow, ↓oNeg, ↓oEq, ↓oNe, ↓oLt, ↓oLe, ↓oGt, ↓oGe, ↓oLen, ↓oIx, ↓oInt, ↓dLst, ↓dTup, ↓aNil, ↓aCons, ↓datas, ↓dStC, ↓dStI, ↓sStPut, ↓scalD, ↓D.eqv, ↓MO.data, ↓oIsN, ↓oNotN, ↓isN, ↓oTuple, ↓oIn, ↓oAbs, ↓dFld, ↓sFld, ↓initOf, ↓dMake, ↓dLc, ↓iOf, ↓items, ↓iEnum, ↓iRange1, ↓sFor, ↓gName, ↓gTup, ↓gTup.go, ↓sRaise0, ↓isTup, ↓sAppend, ↓sStore, ↓sAugAdd, ↓dNewT, ↓dDispT, ↓sDput, ↓putAtM, ↓oDin, ↓oDix, ↓atD, ↓toKeys, ↓toKey, ↓sFrz, ↓oIsi, ↓tyName, ↓isiB, ↓dIndexL, ↓dRowsLen, ↓dRowsIx, ↓dRowsCopy, ↓sRowsPut, ↓sRowsApp, ↓sRows1, ↓sRowsLc, ↓sFrz, ↓sRowsFix, ↓isRows, List.map_cons, List.map_nil, List.length_cons, List.length_nil, List.replicate, List.cons_append, List.nil_append, List.getElem?_cons_zero, List.getElem?_cons_succ, List.set_cons_zero, List.set_cons_succ, Option.map_some, T.d.injEq, D.bl.injEq, D.int.injEq, Option.some.injEq, exists_eq_left', exists_eq_left, exists_eq_right, true_and, and_true, true_or, or_true, decide_eq_true_eq, if_true, if_false, reduceIte, Nat.reduceAdd, Nat.reduceSub, Nat.zero_add, Option.bind_some, List.map_nil]
  refine ⟨.inr ⟨plain_rows, plain_rows⟩, ?_⟩
  refine Eq.mpr (if_pos (eqv_rowsA B)) ?_
  refine ⟨by decide, _, rfl, 1, _, rfl, rfl, ?_⟩
  exact ⟨.inr ⟨plain_ends, plain_ends⟩, eqv_ends⟩
end Z

namespace Z
open PySem L2 Y
open PyProof.Rows (envOfC)
def clOf (a_BadLetters : Addr) (a_BadMachine : Addr) (a_LanguageError : Addr) (a_Machine : Addr) : String → Addr := fun s => if s = "BadLetters" then a_BadLetters else if s = "BadMachine" then a_BadMachine else if s = "LanguageError" then a_LanguageError else if s = "Machine" then a_Machine else 0
theorem all_mk {l : PySem.W.OpenLaw} {w : World} {K : PySem.W.Frag} {h : Heap} {mg : Str → Option Value} {fa : Addr} (X : K.In h) (G : h.Ns mainGlobals mg) (hfa : mg "law" = some (.ref fa))
    {a_BadLetters : Addr}
    {a_BadMachine : Addr}
    {a_LanguageError : Addr}
    {a_Machine : Addr}
    {f_check_letters : Addr} {oc_0 kV_0 dc_0 pm_0 cd_0 ct_0 : Value} {od_0 an_0 : Option Addr} {sl_0 : Array (Option Value)}
    {f_check_rows : Addr} {oc_1 kV_1 dc_1 pm_1 cd_1 ct_1 : Value} {od_1 an_1 : Option Addr} {sl_1 : Array (Option Value)}
    {f_Machine___init__ : Addr} {oc_2 kV_2 dc_2 pm_2 cd_2 ct_2 : Value} {od_2 an_2 : Option Addr} {sl_2 : Array (Option Value)}
    {f_nothing : Addr} {oc_3 kV_3 dc_3 pm_3 cd_3 ct_3 : Value} {od_3 an_3 : Option Addr} {sl_3 : Array (Option Value)}
    {f_check_same_letters : Addr} {oc_4 kV_4 dc_4 pm_4 cd_4 ct_4 : Value} {od_4 an_4 : Option Addr} {sl_4 : Array (Option Value)}
    {f_step : Addr} {oc_5 kV_5 dc_5 pm_5 cd_5 ct_5 : Value} {od_5 an_5 : Option Addr} {sl_5 : Array (Option Value)}
    {f_first_difference : Addr} {oc_6 kV_6 dc_6 pm_6 cd_6 ct_6 : Value} {od_6 an_6 : Option Addr} {sl_6 : Array (Option Value)}
    {f_parting_word : Addr} {oc_7 kV_7 dc_7 pm_7 cd_7 ct_7 : Value} {od_7 an_7 : Option Addr} {sl_7 : Array (Option Value)}
    {f_extra_word : Addr} {oc_8 kV_8 dc_8 pm_8 cd_8 ct_8 : Value} {od_8 an_8 : Option Addr} {sl_8 : Array (Option Value)}
    {f_first_word : Addr} {oc_9 kV_9 dc_9 pm_9 cd_9 ct_9 : Value} {od_9 an_9 : Option Addr} {sl_9 : Array (Option Value)}
    {f__law_start : Addr} {oc_10 kV_10 dc_10 pm_10 cd_10 ct_10 : Value} {od_10 an_10 : Option Addr} {sl_10 : Array (Option Value)}
    {f__law_next : Addr} {oc_11 kV_11 dc_11 pm_11 cd_11 ct_11 : Value} {od_11 an_11 : Option Addr} {sl_11 : Array (Option Value)}
    {f__law_rows : Addr} {oc_12 kV_12 dc_12 pm_12 cd_12 ct_12 : Value} {od_12 an_12 : Option Addr} {sl_12 : Array (Option Value)}
    {f__law_changed : Addr} {oc_13 kV_13 dc_13 pm_13 cd_13 ct_13 : Value} {od_13 an_13 : Option Addr} {sl_13 : Array (Option Value)}
    {f__law_ring : Addr} {oc_14 kV_14 dc_14 pm_14 cd_14 ct_14 : Value} {od_14 an_14 : Option Addr} {sl_14 : Array (Option Value)}
    {f__law_step : Addr} {oc_15 kV_15 dc_15 pm_15 cd_15 ct_15 : Value} {od_15 an_15 : Option Addr} {sl_15 : Array (Option Value)}
    {f__law_first : Addr} {oc_16 kV_16 dc_16 pm_16 cd_16 ct_16 : Value} {od_16 an_16 : Option Addr} {sl_16 : Array (Option Value)}
    {f__law_equal : Addr} {oc_17 kV_17 dc_17 pm_17 cd_17 ct_17 : Value} {od_17 an_17 : Option Addr} {sl_17 : Array (Option Value)}
    {f__law_refused : Addr} {oc_18 kV_18 dc_18 pm_18 cd_18 ct_18 : Value} {od_18 an_18 : Option Addr} {sl_18 : Array (Option Value)}
    {f_law : Addr} {oc_19 kV_19 dc_19 pm_19 cd_19 ct_19 : Value} {od_19 an_19 : Option Addr} {sl_19 : Array (Option Value)}
    {tk_MOST_KINDS_OF_LETTERS : _}
    {tk_MOST_STATES : _}
    {tk_SMALL : _}
    (aC_BadLetters : PySem.W.nsIn K mainGlobals "BadLetters" = some (some (.ref a_BadLetters)))
    (aC_BadMachine : PySem.W.nsIn K mainGlobals "BadMachine" = some (some (.ref a_BadMachine)))
    (aC_LanguageError : PySem.W.nsIn K mainGlobals "LanguageError" = some (some (.ref a_LanguageError)))
    (aC_Machine : PySem.W.nsIn K mainGlobals "Machine" = some (some (.ref a_Machine)))
    (a_f0 : PySem.W.nsIn K mainGlobals "check_letters" = some (some (.ref f_check_letters)))
    (l_f0 : K.lookup f_check_letters = some ⟨oc_0, od_0, .func (PySem.W.fnOf "check_letters" "check_letters" (defArgs s_check_letters) (defBody s_check_letters) (defScope s_check_letters) .none kV_0 dc_0 pm_0 an_0 cd_0 ct_0), sl_0⟩)
    (c_f0 : PySem.W.codeIn K cd_0 "check_letters" = true)
    (k_f0 : PySem.W.keepIn K (.ref f_check_letters) = true)
    (a_f1 : PySem.W.nsIn K mainGlobals "check_rows" = some (some (.ref f_check_rows)))
    (l_f1 : K.lookup f_check_rows = some ⟨oc_1, od_1, .func (PySem.W.fnOf "check_rows" "check_rows" (defArgs s_check_rows) (defBody s_check_rows) (defScope s_check_rows) .none kV_1 dc_1 pm_1 an_1 cd_1 ct_1), sl_1⟩)
    (c_f1 : PySem.W.codeIn K cd_1 "check_rows" = true)
    (k_f1 : PySem.W.keepIn K (.ref f_check_rows) = true)
    (a_f2 : PySem.W.findIn K (.ref a_Machine) "__init__" = some (some (.ref f_Machine___init__)))
    (i_f2 : PySem.W.isFn K (.ref f_Machine___init__) = true)
    (l_f2 : K.lookup f_Machine___init__ = some ⟨oc_2, od_2, .func (PySem.W.fnOf "__init__" "Machine.__init__" (defArgs s_Machine___init__) (defBody s_Machine___init__) (defScope s_Machine___init__) .none kV_2 dc_2 pm_2 an_2 cd_2 ct_2), sl_2⟩)
    (c_f2 : PySem.W.codeIn K cd_2 "Machine.__init__" = true)
    (k_f2 : PySem.W.keepIn K (.ref f_Machine___init__) = true)
    (a_f3 : PySem.W.nsIn K mainGlobals "nothing" = some (some (.ref f_nothing)))
    (l_f3 : K.lookup f_nothing = some ⟨oc_3, od_3, .func (PySem.W.fnOf "nothing" "nothing" (defArgs s_nothing) (defBody s_nothing) (defScope s_nothing) .none kV_3 dc_3 pm_3 an_3 cd_3 ct_3), sl_3⟩)
    (c_f3 : PySem.W.codeIn K cd_3 "nothing" = true)
    (k_f3 : PySem.W.keepIn K (.ref f_nothing) = true)
    (a_f4 : PySem.W.nsIn K mainGlobals "check_same_letters" = some (some (.ref f_check_same_letters)))
    (l_f4 : K.lookup f_check_same_letters = some ⟨oc_4, od_4, .func (PySem.W.fnOf "check_same_letters" "check_same_letters" (defArgs s_check_same_letters) (defBody s_check_same_letters) (defScope s_check_same_letters) .none kV_4 dc_4 pm_4 an_4 cd_4 ct_4), sl_4⟩)
    (c_f4 : PySem.W.codeIn K cd_4 "check_same_letters" = true)
    (k_f4 : PySem.W.keepIn K (.ref f_check_same_letters) = true)
    (a_f5 : PySem.W.nsIn K mainGlobals "step" = some (some (.ref f_step)))
    (l_f5 : K.lookup f_step = some ⟨oc_5, od_5, .func (PySem.W.fnOf "step" "step" (defArgs s_step) (defBody s_step) (defScope s_step) .none kV_5 dc_5 pm_5 an_5 cd_5 ct_5), sl_5⟩)
    (c_f5 : PySem.W.codeIn K cd_5 "step" = true)
    (k_f5 : PySem.W.keepIn K (.ref f_step) = true)
    (a_f6 : PySem.W.nsIn K mainGlobals "first_difference" = some (some (.ref f_first_difference)))
    (l_f6 : K.lookup f_first_difference = some ⟨oc_6, od_6, .func (PySem.W.fnOf "first_difference" "first_difference" (defArgs s_first_difference) (defBody s_first_difference) (defScope s_first_difference) .none kV_6 dc_6 pm_6 an_6 cd_6 ct_6), sl_6⟩)
    (c_f6 : PySem.W.codeIn K cd_6 "first_difference" = true)
    (k_f6 : PySem.W.keepIn K (.ref f_first_difference) = true)
    (a_f7 : PySem.W.nsIn K mainGlobals "parting_word" = some (some (.ref f_parting_word)))
    (l_f7 : K.lookup f_parting_word = some ⟨oc_7, od_7, .func (PySem.W.fnOf "parting_word" "parting_word" (defArgs s_parting_word) (defBody s_parting_word) (defScope s_parting_word) .none kV_7 dc_7 pm_7 an_7 cd_7 ct_7), sl_7⟩)
    (c_f7 : PySem.W.codeIn K cd_7 "parting_word" = true)
    (k_f7 : PySem.W.keepIn K (.ref f_parting_word) = true)
    (a_f8 : PySem.W.nsIn K mainGlobals "extra_word" = some (some (.ref f_extra_word)))
    (l_f8 : K.lookup f_extra_word = some ⟨oc_8, od_8, .func (PySem.W.fnOf "extra_word" "extra_word" (defArgs s_extra_word) (defBody s_extra_word) (defScope s_extra_word) .none kV_8 dc_8 pm_8 an_8 cd_8 ct_8), sl_8⟩)
    (c_f8 : PySem.W.codeIn K cd_8 "extra_word" = true)
    (k_f8 : PySem.W.keepIn K (.ref f_extra_word) = true)
    (a_f9 : PySem.W.nsIn K mainGlobals "first_word" = some (some (.ref f_first_word)))
    (l_f9 : K.lookup f_first_word = some ⟨oc_9, od_9, .func (PySem.W.fnOf "first_word" "first_word" (defArgs s_first_word) (defBody s_first_word) (defScope s_first_word) .none kV_9 dc_9 pm_9 an_9 cd_9 ct_9), sl_9⟩)
    (c_f9 : PySem.W.codeIn K cd_9 "first_word" = true)
    (k_f9 : PySem.W.keepIn K (.ref f_first_word) = true)
    (a_f10 : PySem.W.nsIn K mainGlobals "_law_start" = some (some (.ref f__law_start)))
    (l_f10 : K.lookup f__law_start = some ⟨oc_10, od_10, .func (PySem.W.fnOf "_law_start" "_law_start" (defArgs s__law_start) (defBody s__law_start) (defScope s__law_start) .none kV_10 dc_10 pm_10 an_10 cd_10 ct_10), sl_10⟩)
    (c_f10 : PySem.W.codeIn K cd_10 "_law_start" = true)
    (k_f10 : PySem.W.keepIn K (.ref f__law_start) = true)
    (a_f11 : PySem.W.nsIn K mainGlobals "_law_next" = some (some (.ref f__law_next)))
    (l_f11 : K.lookup f__law_next = some ⟨oc_11, od_11, .func (PySem.W.fnOf "_law_next" "_law_next" (defArgs s__law_next) (defBody s__law_next) (defScope s__law_next) .none kV_11 dc_11 pm_11 an_11 cd_11 ct_11), sl_11⟩)
    (c_f11 : PySem.W.codeIn K cd_11 "_law_next" = true)
    (k_f11 : PySem.W.keepIn K (.ref f__law_next) = true)
    (a_f12 : PySem.W.nsIn K mainGlobals "_law_rows" = some (some (.ref f__law_rows)))
    (l_f12 : K.lookup f__law_rows = some ⟨oc_12, od_12, .func (PySem.W.fnOf "_law_rows" "_law_rows" (defArgs s__law_rows) (defBody s__law_rows) (defScope s__law_rows) .none kV_12 dc_12 pm_12 an_12 cd_12 ct_12), sl_12⟩)
    (c_f12 : PySem.W.codeIn K cd_12 "_law_rows" = true)
    (k_f12 : PySem.W.keepIn K (.ref f__law_rows) = true)
    (a_f13 : PySem.W.nsIn K mainGlobals "_law_changed" = some (some (.ref f__law_changed)))
    (l_f13 : K.lookup f__law_changed = some ⟨oc_13, od_13, .func (PySem.W.fnOf "_law_changed" "_law_changed" (defArgs s__law_changed) (defBody s__law_changed) (defScope s__law_changed) .none kV_13 dc_13 pm_13 an_13 cd_13 ct_13), sl_13⟩)
    (c_f13 : PySem.W.codeIn K cd_13 "_law_changed" = true)
    (k_f13 : PySem.W.keepIn K (.ref f__law_changed) = true)
    (a_f14 : PySem.W.nsIn K mainGlobals "_law_ring" = some (some (.ref f__law_ring)))
    (l_f14 : K.lookup f__law_ring = some ⟨oc_14, od_14, .func (PySem.W.fnOf "_law_ring" "_law_ring" (defArgs s__law_ring) (defBody s__law_ring) (defScope s__law_ring) .none kV_14 dc_14 pm_14 an_14 cd_14 ct_14), sl_14⟩)
    (c_f14 : PySem.W.codeIn K cd_14 "_law_ring" = true)
    (k_f14 : PySem.W.keepIn K (.ref f__law_ring) = true)
    (a_f15 : PySem.W.nsIn K mainGlobals "_law_step" = some (some (.ref f__law_step)))
    (l_f15 : K.lookup f__law_step = some ⟨oc_15, od_15, .func (PySem.W.fnOf "_law_step" "_law_step" (defArgs s__law_step) (defBody s__law_step) (defScope s__law_step) .none kV_15 dc_15 pm_15 an_15 cd_15 ct_15), sl_15⟩)
    (c_f15 : PySem.W.codeIn K cd_15 "_law_step" = true)
    (k_f15 : PySem.W.keepIn K (.ref f__law_step) = true)
    (a_f16 : PySem.W.nsIn K mainGlobals "_law_first" = some (some (.ref f__law_first)))
    (l_f16 : K.lookup f__law_first = some ⟨oc_16, od_16, .func (PySem.W.fnOf "_law_first" "_law_first" (defArgs s__law_first) (defBody s__law_first) (defScope s__law_first) .none kV_16 dc_16 pm_16 an_16 cd_16 ct_16), sl_16⟩)
    (c_f16 : PySem.W.codeIn K cd_16 "_law_first" = true)
    (k_f16 : PySem.W.keepIn K (.ref f__law_first) = true)
    (a_f17 : PySem.W.nsIn K mainGlobals "_law_equal" = some (some (.ref f__law_equal)))
    (l_f17 : K.lookup f__law_equal = some ⟨oc_17, od_17, .func (PySem.W.fnOf "_law_equal" "_law_equal" (defArgs s__law_equal) (defBody s__law_equal) (defScope s__law_equal) .none kV_17 dc_17 pm_17 an_17 cd_17 ct_17), sl_17⟩)
    (c_f17 : PySem.W.codeIn K cd_17 "_law_equal" = true)
    (k_f17 : PySem.W.keepIn K (.ref f__law_equal) = true)
    (a_f18 : PySem.W.nsIn K mainGlobals "_law_refused" = some (some (.ref f__law_refused)))
    (l_f18 : K.lookup f__law_refused = some ⟨oc_18, od_18, .func (PySem.W.fnOf "_law_refused" "_law_refused" (defArgs s__law_refused) (defBody s__law_refused) (defScope s__law_refused) .none kV_18 dc_18 pm_18 an_18 cd_18 ct_18), sl_18⟩)
    (c_f18 : PySem.W.codeIn K cd_18 "_law_refused" = true)
    (k_f18 : PySem.W.keepIn K (.ref f__law_refused) = true)
    (a_f19 : PySem.W.nsIn K mainGlobals "law" = some (some (.ref f_law)))
    (l_f19 : K.lookup f_law = some ⟨oc_19, od_19, .func (PySem.W.fnOf "law" "law" (defArgs s_law) (defBody s_law) (defScope s_law) .none kV_19 dc_19 pm_19 an_19 cd_19 ct_19), sl_19⟩)
    (c_f19 : PySem.W.codeIn K cd_19 "law" = true)
    (k_f19 : PySem.W.keepIn K (.ref f_law) = true)
    (z_ValueError : PySem.W.nsIn K mainGlobals "ValueError" = some none)
    (z_abs : PySem.W.nsIn K mainGlobals "abs" = some none)
    (z_enumerate : PySem.W.nsIn K mainGlobals "enumerate" = some none)
    (z_int : PySem.W.nsIn K mainGlobals "int" = some none)
    (z_isinstance : PySem.W.nsIn K mainGlobals "isinstance" = some none)
    (z_len : PySem.W.nsIn K mainGlobals "len" = some none)
    (z_list : PySem.W.nsIn K mainGlobals "list" = some none)
    (z_range : PySem.W.nsIn K mainGlobals "range" = some none)
    (z_str : PySem.W.nsIn K mainGlobals "str" = some none)
    (z_tuple : PySem.W.nsIn K mainGlobals "tuple" = some none)
    (v_MOST_KINDS_OF_LETTERS : PySem.W.nsIn K mainGlobals "MOST_KINDS_OF_LETTERS" = some (some (Value.int 4 tk_MOST_KINDS_OF_LETTERS)))
    (v_MOST_STATES : PySem.W.nsIn K mainGlobals "MOST_STATES" = some (some (Value.int 128 tk_MOST_STATES)))
    (v_SMALL : PySem.W.nsIn K mainGlobals "SMALL" = some (some (Value.str "abcdefghijklmnopqrstuvwxyz" tk_SMALL)))
    (pg_Machine : PySem.W.plainGet K a_Machine Str.empty = true)
    (hd_Machine : PySem.W.hasDictIn K a_Machine = true)
    (po_Machine : PySem.W.plainOver K a_Machine = true)
    (sa_Machine : PySem.W.findIn K (.ref a_Machine) "__setattr__" = some (some (.builtin "object.__setattr__")))
    (na_arrows_Machine : PySem.W.findIn K (.ref a_Machine) "arrows" = some none)
    (na_ends_Machine : PySem.W.findIn K (.ref a_Machine) "ends" = some none)
    (na_letters_Machine : PySem.W.findIn K (.ref a_Machine) "letters" = some none)
    (xP_BadLetters : PySem.W.excIn K a_BadLetters [.type "ValueError", .type "Exception", .type "BaseException", .type "object"] "ValueError.__new__" = true)
    (kP_BadLetters : PySem.W.keepIn K (.ref a_BadLetters) = true)
    (bP_BadLetters : PySem.W.subIn K (.ref a_BadLetters) (.type "BaseException") = some true)
    (tP_BadLetters : PySem.W.typeIn K (.ref a_BadLetters) = some (.type "type"))
    (yb_LanguageError : PySem.W.subIn K (.ref a_LanguageError) (.type "BaseException") = some true)
    (yd_LanguageError : PySem.W.hasDictIn K a_LanguageError = true)
    (yt_LanguageError : PySem.W.typeIn K (.ref a_LanguageError) = some (.type "type"))
    (s_BadLetters_LanguageError : PySem.W.subIn K (.ref a_BadLetters) (.ref a_LanguageError) = some true)
    (s_BadLetters_BadLetters : PySem.W.subIn K (.ref a_BadLetters) (.ref a_BadLetters) = some true)
    (yb_BadLetters : PySem.W.subIn K (.ref a_BadLetters) (.type "BaseException") = some true)
    (yd_BadLetters : PySem.W.hasDictIn K a_BadLetters = true)
    (yt_BadLetters : PySem.W.typeIn K (.ref a_BadLetters) = some (.type "type"))
    (ecx_BadLetters : PySem.W.findIn K (.ref a_BadLetters) "__getattribute__" = some (some (.builtin "BaseException.__getattribute__")))
    (exhk_BadLetters : PySem.W.findIn K (.ref a_BadLetters) "__getattr__" = some none)
    (exhs_BadLetters : PySem.W.subIn K (.ref a_BadLetters) (.type "BaseException") = some true)
    (exhd_BadLetters : PySem.W.hasDictIn K a_BadLetters = true)
    (exha_BadLetters : PySem.W.findIn K (.ref a_BadLetters) "__class__" = some (some (.builtin "object.__class__")))
    (exhn_BadLetters : PySem.W.specialIn K (.builtin "object.__class__") "__get__" = some (some (.builtin "getset_descriptor.__get__")))
    (exht_BadLetters : PySem.W.takesIn K (.builtin "object.__class__") = some true)
    (exhm_BadLetters : PySem.W.mroIn K a_BadLetters (.type "object") = some true)
    (yb_BadMachine : PySem.W.subIn K (.ref a_BadMachine) (.type "BaseException") = some true)
    (yd_BadMachine : PySem.W.hasDictIn K a_BadMachine = true)
    (yt_BadMachine : PySem.W.typeIn K (.ref a_BadMachine) = some (.type "type"))
    (s_BadLetters_BadMachine : PySem.W.subIn K (.ref a_BadLetters) (.ref a_BadMachine) = some false)
    (s_BadLetters_ValueError : PySem.W.subIn K (.ref a_BadLetters) (.type "ValueError") = some true)
    (mk_Machine : PySem.W.makesIn K a_Machine = true)
    (kc_Machine : PySem.W.keepIn K (.ref a_Machine) = true) :
    ∃ fd : FuncData, (∀ (s : Shared) (v : Value), BindsTo s fd ⟨[v], []⟩ [("script", v)]) ∧ ∀ base : Heap, K.In base → base.Ns mainGlobals mg → FnOk l.prog w K mg base (L2.CX l.prog w) 30 fa fd ["script"] (spLaw K) := by
  have e := hfa.symm.trans (PySem.W.mg_of X G a_f19)
  cases e
  have T : Tt K mg (clOf a_BadLetters a_BadMachine a_LanguageError a_Machine) := by
    refine ⟨?_, ?_, ?_, ?_, ?_, ?_, ?_, ?_, ?_, ?_, ?_, ?_, ?_, ?_, ?_, ?_, ?_, ?_, ?_, ?_, ?_, ?_, ?_, ?_, ?_⟩
    · exact PySem.W.mg_none_of X G z_ValueError
    · exact PySem.W.mg_none_of X G z_abs
    · exact PySem.W.mg_none_of X G z_enumerate
    · exact PySem.W.mg_none_of X G z_int
    · exact PySem.W.mg_none_of X G z_isinstance
    · exact PySem.W.mg_none_of X G z_len
    · exact PySem.W.mg_none_of X G z_list
    · exact PySem.W.mg_none_of X G z_range
    · exact PySem.W.mg_none_of X G z_str
    · exact PySem.W.mg_none_of X G z_tuple
    · exact ⟨_, PySem.W.mg_of X G v_MOST_KINDS_OF_LETTERS, ⟨_, rfl⟩⟩
    · exact ⟨_, PySem.W.mg_of X G v_MOST_STATES, ⟨_, rfl⟩⟩
    · exact ⟨_, PySem.W.mg_of X G v_SMALL, ⟨_, rfl⟩⟩
    · exact (fun c hc => by
        simp only [List.mem_cons, List.mem_nil_iff, or_false] at hc
        subst hc
        · exact ⟨pg_Machine, hd_Machine, po_Machine, sa_Machine⟩)
    · exact (fun c hc => by
        simp only [List.mem_cons, List.mem_nil_iff, or_false] at hc
        subst hc
        · exact na_arrows_Machine)
    · exact (fun c hc => by
        simp only [List.mem_cons, List.mem_nil_iff, or_false] at hc
        subst hc
        · exact na_ends_Machine)
    · exact (fun c hc => by
        simp only [List.mem_cons, List.mem_nil_iff, or_false] at hc
        subst hc
        · exact na_letters_Machine)
    · exact PySem.W.mg_of X G aC_BadLetters
    · exact PySem.W.mg_of X G aC_BadMachine
    · exact PySem.W.mg_of X G aC_LanguageError
    · exact ⟨PySem.W.mg_of X G aC_BadLetters, xP_BadLetters, kP_BadLetters, bP_BadLetters, tP_BadLetters⟩
    · exact (fun C b hb => by
        simp only [List.lookup] at hb
        split at hb
        · rename_i e; have e := eq_of_beq e; subst e; cases hb; exact (PySem.W.exm_ref yb_LanguageError yd_LanguageError yt_LanguageError s_BadLetters_LanguageError)
        cases hb)
    · exact ⟨(fun C b hb => by
        simp only [List.lookup] at hb
        split at hb
        · rename_i e; have e := eq_of_beq e; subst e; cases hb; exact (kit_own yd_BadLetters yb_BadLetters yt_BadLetters s_BadLetters_BadLetters s_BadLetters_BadLetters)
        cases hb), (fun C b hb => by
        simp only [List.lookup] at hb
        split at hb
        · rename_i e; have e := eq_of_beq e; subst e; cases hb; exact ⟨ecx_BadLetters, exhk_BadLetters, exhs_BadLetters, exhd_BadLetters, exha_BadLetters, exhn_BadLetters, exht_BadLetters, exhm_BadLetters⟩
        cases hb)⟩
    · exact ⟨(fun C b hb => by
        simp only [List.lookup] at hb
        split at hb
        · rename_i e; have e := eq_of_beq e; subst e; cases hb; exact (kit_own yd_BadMachine yb_BadMachine yt_BadMachine s_BadLetters_BadMachine s_BadLetters_BadLetters)
        cases hb), (fun C b hb => by
        simp only [List.lookup] at hb
        split at hb
        · rename_i e; have e := eq_of_beq e; subst e; cases hb; exact ⟨ecx_BadLetters, exhk_BadLetters, exhs_BadLetters, exhd_BadLetters, exha_BadLetters, exhn_BadLetters, exht_BadLetters, exhm_BadLetters⟩
        cases hb)⟩
    · exact ⟨(fun C b hb => by
        simp only [List.lookup] at hb
        split at hb
        · rename_i e; have e := eq_of_beq e; subst e; cases hb; exact (kit_blt (by decide +kernel) s_BadLetters_ValueError)
        cases hb), (fun C b hb => by
        simp only [List.lookup] at hb
        split at hb
        · rename_i e; have e := eq_of_beq e; subst e; cases hb; exact ⟨ecx_BadLetters, exhk_BadLetters, exhs_BadLetters, exhd_BadLetters, exha_BadLetters, exhn_BadLetters, exht_BadLetters, exhm_BadLetters⟩
        cases hb)⟩
  have F_check_letters := fun_mk (st := s_check_letters) l_f0 c_f0 k_f0
  have b_check_letters := F_check_letters.binds (ps := ["letters"]) fun _ _ _ _ _ _ us hl => match us, hl with | [_], _ => rfl
  have F_check_rows := fun_mk (st := s_check_rows) l_f1 c_f1 k_f1
  have b_check_rows := F_check_rows.binds (ps := ["letters", "arrows", "ends"]) fun _ _ _ _ _ _ us hl => match us, hl with | [_, _, _], _ => rfl
  have F_Machine___init__ := fun_mk (st := s_Machine___init__) l_f2 c_f2 k_f2
  have b_Machine___init__ := F_Machine___init__.binds (ps := ["self", "letters", "arrows", "ends"]) fun _ _ _ _ _ _ us hl => match us, hl with | [_, _, _, _], _ => rfl
  have F_nothing := fun_mk (st := s_nothing) l_f3 c_f3 k_f3
  have b_nothing := F_nothing.binds (ps := ["letters"]) fun _ _ _ _ _ _ us hl => match us, hl with | [_], _ => rfl
  have F_check_same_letters := fun_mk (st := s_check_same_letters) l_f4 c_f4 k_f4
  have b_check_same_letters := F_check_same_letters.binds (ps := ["first", "second"]) fun _ _ _ _ _ _ us hl => match us, hl with | [_, _], _ => rfl
  have F_step := fun_mk (st := s_step) l_f5 c_f5 k_f5
  have b_step := F_step.binds (ps := ["machine", "state", "at"]) fun _ _ _ _ _ _ us hl => match us, hl with | [_, _, _], _ => rfl
  have F_first_difference := fun_mk (st := s_first_difference) l_f6 c_f6 k_f6
  have b_first_difference := F_first_difference.binds (ps := ["first", "second", "either"]) fun _ _ _ _ _ _ us hl => match us, hl with | [_, _, _], _ => rfl
  have F_parting_word := fun_mk (st := s_parting_word) l_f7 c_f7 k_f7
  have b_parting_word := F_parting_word.binds (ps := ["first", "second"]) fun _ _ _ _ _ _ us hl => match us, hl with | [_, _], _ => rfl
  have F_extra_word := fun_mk (st := s_extra_word) l_f8 c_f8 k_f8
  have b_extra_word := F_extra_word.binds (ps := ["first", "second"]) fun _ _ _ _ _ _ us hl => match us, hl with | [_, _], _ => rfl
  have F_first_word := fun_mk (st := s_first_word) l_f9 c_f9 k_f9
  have b_first_word := F_first_word.binds (ps := ["machine"]) fun _ _ _ _ _ _ us hl => match us, hl with | [_], _ => rfl
  have F__law_start := fun_mk (st := s__law_start) l_f10 c_f10 k_f10
  have b__law_start := F__law_start.binds (ps := ["script"]) fun _ _ _ _ _ _ us hl => match us, hl with | [_], _ => rfl
  have F__law_next := fun_mk (st := s__law_next) l_f11 c_f11 k_f11
  have b__law_next := F__law_next.binds (ps := ["state", "many"]) fun _ _ _ _ _ _ us hl => match us, hl with | [_, _], _ => rfl
  have F__law_rows := fun_mk (st := s__law_rows) l_f12 c_f12 k_f12
  have b__law_rows := F__law_rows.binds (ps := ["state", "letters", "size"]) fun _ _ _ _ _ _ us hl => match us, hl with | [_, _, _], _ => rfl
  have F__law_changed := fun_mk (st := s__law_changed) l_f13 c_f13 k_f13
  have b__law_changed := F__law_changed.binds (ps := ["state", "letters", "rows", "ends"]) fun _ _ _ _ _ _ us hl => match us, hl with | [_, _, _, _], _ => rfl
  have F__law_ring := fun_mk (st := s__law_ring) l_f14 c_f14 k_f14
  have b__law_ring := F__law_ring.binds (ps := ["letters", "place", "size", "ends"]) fun _ _ _ _ _ _ us hl => match us, hl with | [_, _, _, _], _ => rfl
  have F__law_step := fun_mk (st := s__law_step) l_f15 c_f15 k_f15
  have b__law_step := F__law_step.binds (ps := ["rows", "state", "at"]) fun _ _ _ _ _ _ us hl => match us, hl with | [_, _, _], _ => rfl
  have F__law_first := fun_mk (st := s__law_first) l_f16 c_f16 k_f16
  have b__law_first := F__law_first.binds (ps := ["letters", "one", "other", "either"]) fun _ _ _ _ _ _ us hl => match us, hl with | [_, _, _, _], _ => rfl
  have F__law_equal := fun_mk (st := s__law_equal) l_f17 c_f17 k_f17
  have b__law_equal := F__law_equal.binds (ps := ["actual", "due"]) fun _ _ _ _ _ _ us hl => match us, hl with | [_, _], _ => rfl
  have F__law_refused := fun_mk (st := s__law_refused) l_f18 c_f18 k_f18
  have b__law_refused := F__law_refused.binds (ps := ["first", "second", "parting"]) fun _ _ _ _ _ _ us hl => match us, hl with | [_, _, _], _ => rfl
  have F_law := fun_mk (st := s_law) l_f19 c_f19 k_f19
  refine ⟨PySem.W.fnOf "law" "law" (defArgs s_law) (defBody s_law) (defScope s_law) .none kV_19 dc_19 pm_19 an_19 cd_19 ct_19, fun s v => .of_eq rfl, fun base _ _ => ?_⟩
  have h_check_letters := jb_check_letters (P := l.prog) (w := w) (base := base) F_check_letters (PySem.W.mg_of X G a_f0) b_check_letters T 
  have h_check_rows := jb_check_rows (P := l.prog) (w := w) (base := base) F_check_rows (PySem.W.mg_of X G a_f1) b_check_rows T 
  have h_Machine___init__ := jb_Machine___init__ (P := l.prog) (w := w) (base := base) F_Machine___init__ (PySem.W.mg_of X G aC_Machine) ⟨mk_Machine, a_f2, i_f2, kc_Machine⟩ b_Machine___init__ T h_check_letters h_check_rows
  have h_nothing := jb_nothing (P := l.prog) (w := w) (base := base) F_nothing (PySem.W.mg_of X G a_f3) b_nothing T h_Machine___init__ h_check_letters
  have h_check_same_letters := jb_check_same_letters (P := l.prog) (w := w) (base := base) F_check_same_letters (PySem.W.mg_of X G a_f4) b_check_same_letters T 
  have h_step := jb_step (P := l.prog) (w := w) (base := base) F_step (PySem.W.mg_of X G a_f5) b_step T 
  have h_first_difference := jb_first_difference (P := l.prog) (w := w) (base := base) F_first_difference (PySem.W.mg_of X G a_f6) b_first_difference T h_check_same_letters h_step
  have h_parting_word := jb_parting_word (P := l.prog) (w := w) (base := base) F_parting_word (PySem.W.mg_of X G a_f7) b_parting_word T h_first_difference
  have h_extra_word := jb_extra_word (P := l.prog) (w := w) (base := base) F_extra_word (PySem.W.mg_of X G a_f8) b_extra_word T h_first_difference
  have h_first_word := jb_first_word (P := l.prog) (w := w) (base := base) F_first_word (PySem.W.mg_of X G a_f9) b_first_word T h_first_difference h_nothing
  have h__law_start := jb__law_start (P := l.prog) (w := w) (base := base) F__law_start (PySem.W.mg_of X G a_f10) b__law_start T start_ok
  have h__law_next := hasF_mono (jb__law_next (P := l.prog) (w := w) (base := base) F__law_next (PySem.W.mg_of X G a_f11) b__law_next T) next_ok
  have h__law_rows := jb__law_rows (P := l.prog) (w := w) (base := base) F__law_rows (PySem.W.mg_of X G a_f12) b__law_rows T h__law_next
  have h__law_changed := jb__law_changed (P := l.prog) (w := w) (base := base) F__law_changed (PySem.W.mg_of X G a_f13) b__law_changed T h__law_next h__law_rows
  have h__law_ring := jb__law_ring (P := l.prog) (w := w) (base := base) F__law_ring (PySem.W.mg_of X G a_f14) b__law_ring T 
  have h__law_step := jb__law_step (P := l.prog) (w := w) (base := base) F__law_step (PySem.W.mg_of X G a_f15) b__law_step T 
  have h__law_first := jb__law_first (P := l.prog) (w := w) (base := base) F__law_first (PySem.W.mg_of X G a_f16) b__law_first T h__law_step
  have h__law_equal := jb__law_equal (P := l.prog) (w := w) (base := base) F__law_equal (PySem.W.mg_of X G a_f17) b__law_equal T 
  have h__law_refused := jb__law_refused (P := l.prog) (w := w) (base := base) F__law_refused (PySem.W.mg_of X G a_f18) b__law_refused T h_extra_word h_parting_word
  exact jb_law F_law T h_Machine___init__ h__law_changed h__law_equal h__law_first h__law_next h__law_refused h__law_ring h__law_rows h_extra_word h_first_word h_parting_word h__law_start law_ok
theorem walk {l : PySem.W.OpenLaw} {q : Program} {loose : List Str} {XP : (Str → Option Value) → Heap → Prop} {YP : World → Heap → Prop} {d : DefRec} {K : Params → PySem.W.Frag} (hn : l.most = some 63) (hdf : d.params.defaults = [])
    (hY : ∀ (w : World) (h : Heap), YP w h → (K w.params).In h)
    (F : ∀ (w : World) (mg : Str → Option Value) (fa : Addr) (h : Heap), (K w.params).In h → h.Ns mainGlobals mg → mg d.name = some (.ref fa) →
      ∃ fd : FuncData, (∀ (s : Shared) (u : Value), BindsTo s fd ⟨[u], []⟩ [("script", u)]) ∧ ∀ base : Heap, (K w.params).In base → base.Ns mainGlobals mg → FnOk l.prog w (K w.params) mg base (L2.CX l.prog w) 30 fa fd ["script"] (spLaw (K w.params))) :
    PySem.W.WalkO q loose XP YP l.row.toRowW d [] (fun f vs => PySem.call f vs) :=
  L2.walk_of (n := 63) (k := 30) (x := "script") (CX := fun w => L2.CX l.prog w) (sp := fun w => spLaw (K w.params)) hn (by decide) hdf ⟨rfl, by decide, by decide⟩ hY F (fun _ _ a ns hl _ hS => ⟨a, ns, rfl, hS, hl, fun _ => rfl⟩) fun _ _ _ _ _ z => by
    obtain ⟨_, _, _, _, _, _, _, _, _, _, _, _, z⟩ := z
    exact z
end Z
open PySem PySem.W PyProof.Rows
set_option maxRecDepth 100000 in
set_option maxHeartbeats 0 in
theorem PySem.Challenge.cw_fromyesalone_k01_parting_words_holds : PySem.Challenge.rw_fromyesalone_k01_parting_words.Holds := by
  w_on; o_law; k_head; (case hw => w_witness2)
  k_fill
  refine Z.walk (l := PySem.Challenge.rw_fromyesalone_k01_parting_words) rfl rfl (fun w h Y => PySem.W.kIn_of Y) ?F
  case F =>
    intro w mg fa h KX G hmg
    refine' Z.all_mk KX G hmg ?aC_BadLetters ?aC_BadMachine ?aC_LanguageError ?aC_Machine ?a_f0 ?l_f0 ?c_f0 ?k_f0 ?a_f1 ?l_f1 ?c_f1 ?k_f1 ?a_f2 ?i_f2 ?l_f2 ?c_f2 ?k_f2 ?a_f3 ?l_f3 ?c_f3 ?k_f3 ?a_f4 ?l_f4 ?c_f4 ?k_f4 ?a_f5 ?l_f5 ?c_f5 ?k_f5 ?a_f6 ?l_f6 ?c_f6 ?k_f6 ?a_f7 ?l_f7 ?c_f7 ?k_f7 ?a_f8 ?l_f8 ?c_f8 ?k_f8 ?a_f9 ?l_f9 ?c_f9 ?k_f9 ?a_f10 ?l_f10 ?c_f10 ?k_f10 ?a_f11 ?l_f11 ?c_f11 ?k_f11 ?a_f12 ?l_f12 ?c_f12 ?k_f12 ?a_f13 ?l_f13 ?c_f13 ?k_f13 ?a_f14 ?l_f14 ?c_f14 ?k_f14 ?a_f15 ?l_f15 ?c_f15 ?k_f15 ?a_f16 ?l_f16 ?c_f16 ?k_f16 ?a_f17 ?l_f17 ?c_f17 ?k_f17 ?a_f18 ?l_f18 ?c_f18 ?k_f18 ?a_f19 ?l_f19 ?c_f19 ?k_f19 ?z_ValueError ?z_abs ?z_enumerate ?z_int ?z_isinstance ?z_len ?z_list ?z_range ?z_str ?z_tuple ?v_MOST_KINDS_OF_LETTERS ?v_MOST_STATES ?v_SMALL ?pg_Machine ?hd_Machine ?po_Machine ?sa_Machine ?na_arrows_Machine ?na_ends_Machine ?na_letters_Machine ?xP_BadLetters ?kP_BadLetters ?bP_BadLetters ?tP_BadLetters ?yb_LanguageError ?yd_LanguageError ?yt_LanguageError ?s_BadLetters_LanguageError ?s_BadLetters_BadLetters ?yb_BadLetters ?yd_BadLetters ?yt_BadLetters ?ecx_BadLetters ?exhk_BadLetters ?exhs_BadLetters ?exhd_BadLetters ?exha_BadLetters ?exhn_BadLetters ?exht_BadLetters ?exhm_BadLetters ?yb_BadMachine ?yd_BadMachine ?yt_BadMachine ?s_BadLetters_BadMachine ?s_BadLetters_ValueError ?mk_Machine ?kc_Machine
    (case aC_BadLetters => k_is)
    (case aC_BadMachine => k_is)
    (case aC_LanguageError => k_is)
    (case aC_Machine => k_is)
    (case a_f0 => k_is)
    (case l_f0 => k_is)
    (case c_f0 => k_is)
    (case k_f0 => k_is)
    (case a_f1 => k_is)
    (case l_f1 => k_is)
    (case c_f1 => k_is)
    (case k_f1 => k_is)
    (case a_f2 => k_is)
    (case i_f2 => k_is)
    (case l_f2 => k_is)
    (case c_f2 => k_is)
    (case k_f2 => k_is)
    (case a_f3 => k_is)
    (case l_f3 => k_is)
    (case c_f3 => k_is)
    (case k_f3 => k_is)
    (case a_f4 => k_is)
    (case l_f4 => k_is)
    (case c_f4 => k_is)
    (case k_f4 => k_is)
    (case a_f5 => k_is)
    (case l_f5 => k_is)
    (case c_f5 => k_is)
    (case k_f5 => k_is)
    (case a_f6 => k_is)
    (case l_f6 => k_is)
    (case c_f6 => k_is)
    (case k_f6 => k_is)
    (case a_f7 => k_is)
    (case l_f7 => k_is)
    (case c_f7 => k_is)
    (case k_f7 => k_is)
    (case a_f8 => k_is)
    (case l_f8 => k_is)
    (case c_f8 => k_is)
    (case k_f8 => k_is)
    (case a_f9 => k_is)
    (case l_f9 => k_is)
    (case c_f9 => k_is)
    (case k_f9 => k_is)
    (case a_f10 => k_is)
    (case l_f10 => k_is)
    (case c_f10 => k_is)
    (case k_f10 => k_is)
    (case a_f11 => k_is)
    (case l_f11 => k_is)
    (case c_f11 => k_is)
    (case k_f11 => k_is)
    (case a_f12 => k_is)
    (case l_f12 => k_is)
    (case c_f12 => k_is)
    (case k_f12 => k_is)
    (case a_f13 => k_is)
    (case l_f13 => k_is)
    (case c_f13 => k_is)
    (case k_f13 => k_is)
    (case a_f14 => k_is)
    (case l_f14 => k_is)
    (case c_f14 => k_is)
    (case k_f14 => k_is)
    (case a_f15 => k_is)
    (case l_f15 => k_is)
    (case c_f15 => k_is)
    (case k_f15 => k_is)
    (case a_f16 => k_is)
    (case l_f16 => k_is)
    (case c_f16 => k_is)
    (case k_f16 => k_is)
    (case a_f17 => k_is)
    (case l_f17 => k_is)
    (case c_f17 => k_is)
    (case k_f17 => k_is)
    (case a_f18 => k_is)
    (case l_f18 => k_is)
    (case c_f18 => k_is)
    (case k_f18 => k_is)
    (case a_f19 => k_is)
    (case l_f19 => k_is)
    (case c_f19 => k_is)
    (case k_f19 => k_is)
    (case z_ValueError => k_is)
    (case z_abs => k_is)
    (case z_enumerate => k_is)
    (case z_int => k_is)
    (case z_isinstance => k_is)
    (case z_len => k_is)
    (case z_list => k_is)
    (case z_range => k_is)
    (case z_str => k_is)
    (case z_tuple => k_is)
    (case v_MOST_KINDS_OF_LETTERS => k_is)
    (case v_MOST_STATES => k_is)
    (case v_SMALL => k_is)
    (case pg_Machine => k_is)
    (case hd_Machine => k_is)
    (case po_Machine => k_is)
    (case sa_Machine => k_is)
    (case na_arrows_Machine => k_is)
    (case na_ends_Machine => k_is)
    (case na_letters_Machine => k_is)
    (case xP_BadLetters => k_exc)
    (case kP_BadLetters => k_is)
    (case bP_BadLetters => k_is)
    (case tP_BadLetters => k_is)
    (case yb_LanguageError => k_is)
    (case yd_LanguageError => k_is)
    (case yt_LanguageError => k_is)
    (case s_BadLetters_LanguageError => k_is)
    (case s_BadLetters_BadLetters => k_is)
    (case yb_BadLetters => k_is)
    (case yd_BadLetters => k_is)
    (case yt_BadLetters => k_is)
    (case ecx_BadLetters => k_is)
    (case exhk_BadLetters => k_is)
    (case exhs_BadLetters => k_is)
    (case exhd_BadLetters => k_is)
    (case exha_BadLetters => k_is)
    (case exhn_BadLetters => k_is)
    (case exht_BadLetters => k_is)
    (case exhm_BadLetters => k_is)
    (case yb_BadMachine => k_is)
    (case yd_BadMachine => k_is)
    (case yt_BadMachine => k_is)
    (case s_BadLetters_BadMachine => k_is)
    (case s_BadLetters_ValueError => k_is)
    (case mk_Machine => k_is)
    (case kc_Machine => k_is)

