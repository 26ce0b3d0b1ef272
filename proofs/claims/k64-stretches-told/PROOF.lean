import PyProof.Rows.All
import Wide.All
import OpenK.AllK
import Wide.FinOn
import HandS.ForExc
import HandS.Comp
import HandS.Iter
import HandS.Wide
import HandS.WideBits
import HandS.IsInst
import HandS.Text
import HandS.TupLe
import HandS.Deep
import HandS.Zip
import HandS.SetFor
import PyProof.StrOps2
import HandS.RevRange
import PyProof.ReprRoads
import HandS.Flow
import HandS.RaiseMore
import HandS.Defaults
import HandS.Style
import HandS.TupAny
import HandS.TupMul
import KE.GoesEnum
import KE.GoesEnumKw
import KE.KUnpackStar
import HandS.Dict
import HandS.Lambda
import HandS.ExcIs
import HandS.TryMany
import HandS.TryElse
import HandS.SuiteRaise
import HandS.CallLocal
import HandS.Conv
import HandS.Strs
import HandS.TupSets
import HandS.More
import HandS.SortInts
import PySem.Challenge.RW_leafglobe_k64_stretches_told
set_option Elab.async false
set_option linter.all false
set_option maxRecDepth 100000
set_option maxHeartbeats 4000000
namespace DI
open PySem
abbrev D := PyData
mutual
def eqD : D → D → Bool
  | .none, .none => true
  | .bool a, .bool b => decide (a = b)
  | .int a, .int b => decide (a = b)
  | .str a, .str b => decide (a = b)
  | .list a, .list b => eqDs a b
  | .tuple a, .tuple b => eqDs a b
  | .dict a, .dict b => eqKs a b
  | _, _ => false
def eqDs : List D → List D → Bool
  | [], [] => true
  | a :: r, b :: s => eqD a b && eqDs r s
  | _, _ => false
def eqKs : List (D × D) → List (D × D) → Bool
  | [], [] => true
  | (a, b) :: r, (c, d) :: s => eqD a c && (eqD b d && eqKs r s)
  | _, _ => false
end
mutual
theorem eqD_ok : ∀ (a b : D), eqD a b = true → a = b
  | .none, b, h => by cases b <;> simp [eqD] at h ⊢
  | .bool _, b, h => by cases b <;> simp [eqD] at h ⊢; exact h
  | .int _, b, h => by cases b <;> simp [eqD] at h ⊢; exact h
  | .str _, b, h => by cases b <;> simp [eqD] at h ⊢; exact h
  | .list x, b, h => by
    cases b with
    | list y => simp only [eqD] at h; rw [eqDs_ok x y h]
    | _ => simp [eqD] at h
  | .tuple x, b, h => by
    cases b with
    | tuple y => simp only [eqD] at h; rw [eqDs_ok x y h]
    | _ => simp [eqD] at h
  | .dict x, b, h => by
    cases b with
    | dict y => simp only [eqD] at h; rw [eqKs_ok x y h]
    | _ => simp [eqD] at h
theorem eqDs_ok : ∀ (a b : List D), eqDs a b = true → a = b
  | [], b, h => by cases b <;> simp [eqDs] at h ⊢
  | x :: r, b, h => by
    cases b with
    | nil => simp [eqDs] at h
    | cons y s =>
      simp only [eqDs, Bool.and_eq_true] at h
      rw [eqD_ok x y h.1, eqDs_ok r s h.2]
theorem eqKs_ok : ∀ (a b : List (D × D)), eqKs a b = true → a = b
  | [], b, h => by cases b <;> simp [eqKs] at h ⊢
  | (x, u) :: r, b, h => by
    cases b with
    | nil => simp [eqKs] at h
    | cons y s =>
      obtain ⟨y, v⟩ := y
      simp only [eqKs, Bool.and_eq_true] at h
      rw [eqD_ok x y h.1, eqD_ok u v h.2.1, eqKs_ok r s h.2.2]
end
mutual
theorem eqD_refl : ∀ (a : D), eqD a a = true
  | .none => rfl
  | .bool _ => by simp [eqD]
  | .int _ => by simp [eqD]
  | .str _ => by simp [eqD]
  | .list x => by simp only [eqD]; exact eqDs_refl x
  | .tuple x => by simp only [eqD]; exact eqDs_refl x
  | .dict x => by simp only [eqD]; exact eqKs_refl x
theorem eqDs_refl : ∀ (a : List D), eqDs a a = true
  | [] => rfl
  | x :: r => by simp only [eqDs, eqD_refl x, eqDs_refl r, Bool.and_self]
theorem eqKs_refl : ∀ (a : List (D × D)), eqKs a a = true
  | [] => rfl
  | (x, u) :: r => by simp only [eqKs, eqD_refl x, eqD_refl u, eqKs_refl r, Bool.and_self]
end
instance : DecidableEq D := fun a b => if h : eqD a b = true then .isTrue (eqD_ok a b h) else .isFalse fun e => h (e ▸ eqD_refl a)
end DI
namespace DI
open PySem
/-- a slot's content: plain data | a list of its own, that nobody else knows | a list handed in to be changed | a thunk -/
inductive SV where
  | v (d : D) | own (ds : List D) | io (ds : List D) | th (a : Nat) | fn (n : Str)
abbrev En := List (Option SV)
/-- an expression's outcome: data | a new list | the list that stands in slot i -/
inductive RV where
  | v (d : D) | own (ds : List D) | bor (i : Nat)
/-- built-ins by name -/
inductive Bi where
  | len | abs | min2 | max2 | min1 | max1 | int | bool | sum | all | any | tuple | list | repr | str | bits | sorted | isi (ts : List String)
  deriving DecidableEq
/-- what is walked -/
inductive It where
  | rng | rrng | enm | zip | rev | zips
  deriving DecidableEq
/-- targets -/
inductive Tg where
  | n (i : Nat) | nil | cons (t r : Tg) | tup (t : Tg)
  deriving DecidableEq
/-- a value of such a dict: a name, or the sum of two -/
inductive PX where
  | n (i : Nat)
  | add (i j : Nat)
  deriving DecidableEq
inductive X where
  | var (i : Nat)
  | c (d : D)
  | bin (op : Operator) (a b : X)
  | neg (a : X)
  | cmp (op : CmpOp) (a b : X)
  | chn (op op' : CmpOp) (a b d : X)
  | and (a b : X) | or (a b : X) | not (a : X)
  | tx (e : X) | tand (a b : X) | tor (a b : X) | tnot (a : X)
  | ite (c a b : X)
  | tup (a : X) | lst (a : X)
  | nil | cons (a r : X)
  | idx (a i : X)
  | slc (a lo hi : X)
  | slc3 (a lo hi st : X)
  | pop (i : Nat) (ix : X)
  | call (f : Nat) (ar : List Bool) (ds : List D) (a : X)
  | bi (b : Bi) (a : X)
  | itr (k : It) (a : X)
  | cmpr (t : Tg) (it cond e : X)
  | cmprB (i : Nat) (t : Tg) (cond e : X)
  | dct
  | neT (a : X)
  | lset (a : X)
  | lidx (a b : X)
  | lcnt (a b : X)
  | isx (a : X) (tbl : List (Str × Bool))
  | isn (a : X) (k : Bool)
  | callT (f : Nat) (ar : List Bool) (ds : List D) (a : X)
  | lam (f : Nat) (a : X)
  | act (i : Nat)
  | lamP (f i : Nat) (a : X)
  | actP (i j : Nat)
  | callv (i : Nat) (fs : List (Str × Nat × List Bool)) (a : X)
  | dpick (tbl : List (Str × PX)) (i : Nat)
  | tpick (tbl : List (Str × Str)) (i : Nat)
  | kpick (tbl : List (Str × D)) (a : X)
  deriving DecidableEq
inductive S where
  | skip
  | seq (a b : S)
  | asg (t : Tg) (e : X)
  | par (t : Tg) (a : X)
  | par2 (i j : Nat) (a b : X)
  | sidx (i : Nat) (ix e : X)
  | app (i : Nat) (e : X)
  | aug (i : Nat) (op : Operator) (e : X)
  | ret (e : X)
  | ifs (c : X) (a b : S)
  | forr (t : Tg) (it : X) (b : S)
  | whl (c : X) (b : S)
  | brk | cnt
  | expr (e : X)
  | rais (c : Nat)
  | nev
  | star (t : Tg) (i : Nat) (e : X)
  | asg2 (t u : Tg) (e : X)
  | ext (i : Nat) (e : X)
  | ins (i : Nat) (k e : X)
  | tri (a h : S)
  | alt (tb : List (Nat × Option Str)) (oi : Option Nat) (s r : S)
  | unp (u e : X)
  | pickf (i : Nat) (tbl : List (Str × Str)) (e : X)
  deriving DecidableEq
/-- how a statement ends -/
inductive Out where
  | nx | bk | ct | rt (r : SV)
def getI (e : En) (i : Nat) : Option Int := match e[i]? with
  | some (some (.v (.int z))) => some z
  | _ => none
theorem getI_some {e : En} {i : Nat} {n : Int} (h : getI e i = some n) : e[i]? = some (some (.v (.int n))) := by
  unfold getI at h
  split at h
  · rename_i z hz; cases h; exact hz
  · cases h
def PX.ev (e : En) : PX → Option Int
  | .n i => getI e i
  | .add i j => (match getI e i with | some a => (match getI e j with | some b => some (a + b) | none => none) | none => none)
def evs (e : En) : List (Str × PX) → Option (List (Str × Int))
  | [] => some []
  | (z, x) :: r => (match x.ev e with | some n => (match evs e r with | some l => some ((z, n) :: l) | none => none) | none => none)
def pickL (z : Str) : Option Int → List (Str × Int) → Option Int
  | o, [] => o
  | o, (k, n) :: r => pickL z (if z = k then some n else o) r
def pickS (z : Str) : Option Str → List (Str × Str) → Option Str
  | o, [] => o
  | o, (k, n) :: r => pickS z (if z = k then some n else o) r
def dpk (e : En) (tbl : List (Str × PX)) (z : Str) : Option Int := match evs e tbl with
  | some l => pickL z none l
  | none => none
def slot (e : En) (i : Nat) : Option D := match e[i]? with
  | some (some (.v d)) => some d
  | some (some (.own ds)) => some (.list ds)
  | some (some (.io ds)) => some (.list ds)
  | _ => none
def peek (e : En) : RV → Option D
  | .v d => some d
  | .own ds => some (.list ds)
  | .bor i => slot e i
/-- of these slots, reckoned out -/
structure Nrm (e : En) (Q : En → Prop) : Prop where
  out : Q e
theorem nrm_iff {e : En} {Q : En → Prop} : Nrm e Q = Q e := propext ⟨fun h => h.out, fun h => ⟨h⟩⟩
/-- the outcome as data that stays as it is -/
def settle (e : En) (r : RV) (Q : D → En → Prop) : Prop := match r with
  | .v d => Q d e
  | .own ds => Q (.list ds) e
  | .bor i => match e[i]? with
    | some (some (.v d)) => Q d e
    | some (some (.own ds)) => Nrm (e.set i (some (.v (.list ds)))) fun e' => Q (.list ds) e'
    | _ => False
def hold : RV → RV
  | .own ds => .v (.list ds)
  | r => r
def pk (e : En) (r : RV) (Q : D → Prop) : Prop := match peek e r with
  | some d => Q d
  | none => False
def truth : D → Option Bool
  | .none => some false
  | .bool b => some b
  | .int i => some (i != 0)
  | .list ds => some (!ds.isEmpty)
  | .tuple ds => some (!ds.isEmpty)
  | .str x => some ((x.length : Int) != 0)
  | .dict _ => none
def tru (e : En) (r : RV) (Q : Bool → Prop) : Prop := pk e r fun d => match truth d with
  | some b => (match d with | .str x => x.length ≤ sizeLine | _ => True) ∧ Q b
  | none => False
/-- there is one, and Q of it -/
structure Opt {α : Type} (o : Option α) (Q : α → Prop) : Prop where
  out : ∃ d, o = some d ∧ Q d
structure MulOk (i j : Int) : Prop where
  lt : i.natAbs.log2 + j.natAbs.log2 < 1000000
inductive PowOk (i j : Int) : Prop
  | small (h : 0 ≤ j ∧ j ≤ 1000000 ∧ i.natAbs < 2 ^ 64)
  | wide (h0 : 0 ≤ j) (h : (Builtin.Int.intBits i : Int) * j ≤ 2 ^ 27)
structure DivOk (j : Int) : Prop where
  ne : j ≠ 0
  lt : j.natAbs.log2 < 9000
/-- x * n of a text -/
def strRep (x : Str) (n : Int) : Str := if n < 1 then Str.empty else if (n == 1 || x.length == 0) = true then x else ⟨(List.replicate n.toNat x.cps).foldl (· ++ ·) #[]⟩
def b2i (b : Bool) : Int := if b = true then 1 else 0
def opW : Operator → D → D → (RV → Prop) → Prop
  | .Add, .int i, .int j, Q => Q (.v (.int (i + j)))
  | .Add, .tuple xs, .tuple ys, Q => xs.length + ys.length ≤ sizeLine ∧ Q (.v (.tuple (xs ++ ys)))
  | .Add, .list xs, .list ys, Q => xs.length + ys.length ≤ sizeLine ∧ Q (.own (xs ++ ys))
  | .Add, .str x, .str y, Q => x.length + y.length ≤ sizeLine ∧ Q (.v (.str (x ++ y)))
  | .Sub, .int i, .int j, Q => Q (.v (.int (i - j)))
  | .Mult, .int i, .int j, Q => MulOk i j ∧ Q (.v (.int (i * j)))
  | .Mult, .str x, .int n, Q => (0 ≤ n ∧ n ≤ 10000 ∧ x.length ≤ 1000) ∧ Q (.v (.str (strRep x n)))
  | .Mult, .list xs, .int n, Q => (0 ≤ n ∧ n ≤ 1000 ∧ xs.length ≤ 1000) ∧ Q (.own (List.replicate n.toNat xs).flatten)
  | .Mult, .tuple xs, .int n, Q => (2 ≤ n ∧ n ≤ 1000 ∧ xs ≠ [] ∧ xs.length ≤ 1000) ∧ Q (.v (.tuple (List.replicate n.toNat xs).flatten))
  | .FloorDiv, .int i, .int j, Q => DivOk j ∧ Q (.v (.int (i.fdiv j)))
  | .Mod, .int i, .int j, Q => j ≠ 0 ∧ Q (.v (.int (i.fmod j)))
  | .Pow, .int i, .int j, Q => PowOk i j ∧ Q (.v (.int (i ^ j.toNat)))
  | .LShift, .int i, .int j, Q => (0 ≤ j ∧ (Builtin.Int.intBits i : Int) + j ≤ 2 ^ 27) ∧ Q (.v (.int (i * 2 ^ j.toNat)))
  | .RShift, .int i, .int j, Q => 0 ≤ j ∧ Q (.v (.int (i / 2 ^ j.toNat)))
  | .BitAnd, .int i, .int j, Q => Q (.v (.int (Builtin.bitAnd i j)))
  | .BitOr, .int i, .int j, Q => Q (.v (.int (Builtin.bitOr i j)))
  | .BitXor, .int i, .int j, Q => Q (.v (.int (Builtin.bitXor i j)))
  | .Add, .bool a, .int j, Q => Q (.v (.int (b2i a + j)))
  | .Sub, .bool a, .int j, Q => Q (.v (.int (b2i a - j)))
  | .Sub, .int i, .bool b, Q => Q (.v (.int (i - b2i b)))
  | .Mult, .int i, .bool b, Q => Q (.v (.int (i * b2i b)))
  | _, _, _, _ => False
def intsOf : List D → Option (List Int)
  | [] => some []
  | .int i :: r => (intsOf r).map (i :: ·)
  | _ :: _ => none
def boolsOf : List D → Option (List Bool)
  | [] => some []
  | .bool b :: r => (boolsOf r).map (b :: ·)
  | _ :: _ => none
def isStrD : D → Bool
  | .str _ => true
  | _ => false
def isNonD : D → Bool
  | .none => true
  | _ => false
def cmpW : CmpOp → D → D → (Bool → Prop) → Prop
  | .Lt, .int i, .int j, Q => Q (decide (i < j))
  | .LtE, .int i, .int j, Q => Q (decide (i ≤ j))
  | .Gt, .int i, .int j, Q => Q (decide (j < i))
  | .GtE, .int i, .int j, Q => Q (decide (j ≤ i))
  | .Eq, .int i, .int j, Q => Q (decide (i = j))
  | .NotEq, .int i, .int j, Q => Q (!decide (i = j))
  | .Eq, .str i, .str j, Q => Q (decide (i = j))
  | .NotEq, .str i, .str j, Q => Q (!decide (i = j))
  | .Is, .bool i, .bool j, Q => Q (decide (i = j))
  | .IsNot, .bool i, .bool j, Q => Q (!decide (i = j))
  | .Is, x, .none, Q => Q (isNonD x)
  | .IsNot, x, .none, Q => Q (!isNonD x)
  | .In, .int i, .tuple xs, Q => Opt (intsOf xs) fun ns => Q (ns.contains i)
  | .NotIn, .int i, .tuple xs, Q => Opt (intsOf xs) fun ns => Q (!ns.contains i)
  | .In, .dict [], .list xs, Q => xs.all isStrD = true ∧ Q false
  | .In, x, .list xs, Q => (SeqAt.shaped x = true ∧ SeqAt.shaped (.list xs) = true) ∧ Q (xs.any fun z => PyData.eqv z x)
  | .NotIn, x, .list xs, Q => (SeqAt.shaped x = true ∧ SeqAt.shaped (.list xs) = true) ∧ Q (!xs.any fun z => PyData.eqv z x)
  | .In, x, .tuple xs, Q => (SeqAt.shaped x = true ∧ SeqAt.shaped (.tuple xs) = true) ∧ Q (xs.any fun z => PyData.eqv z x)
  | .NotIn, x, .tuple xs, Q => (SeqAt.shaped x = true ∧ SeqAt.shaped (.tuple xs) = true) ∧ Q (!xs.any fun z => PyData.eqv z x)
  | .Eq, x, y, Q => SeqAt.shaped x = true ∧ SeqAt.shaped y = true ∧ Q (PyData.eqv x y)
  | .NotEq, x, y, Q => SeqAt.shaped x = true ∧ SeqAt.shaped y = true ∧ Q (!PyData.eqv x y)
  | _, _, _, _ => False
/-- the place of index i in a row of n -/
def ixAt (n : Nat) (i : Int) : Option Nat := if 0 ≤ i then (if i < n then some i.toNat else none) else (if -(n : Int) ≤ i then some (i + n).toNat else none)
def idxW : D → D → (D → Prop) → Prop
  | .list xs, .int i, Q => Opt ((ixAt xs.length i).bind fun j => xs[j]?) Q
  | .tuple xs, .int i, Q => Opt ((ixAt xs.length i).bind fun j => xs[j]?) Q
  | _, _, _ => False
def cutD (xs : List D) (lo hi : Option Int) : List D := (xs.drop (HT.sIx xs.length 0 lo)).take (HT.sIx xs.length xs.length hi - HT.sIx xs.length 0 lo)
/-- xs[lo:hi:c] -/
def pickD (xs : List D) (lo hi : Option Int) (c : Int) : List D := (sliceRange (sliceBounds lo hi (some c) xs.length).1 (sliceBounds lo hi (some c) xs.length).2.1 (sliceBounds lo hi (some c) xs.length).2.2).filterMap (xs[·]?)
/-- a tuple's slice with a step -/
def pickIx (n : Nat) (lo hi : Option Int) (c : Int) : List Nat := (List.range (Builtin.Slice.slicePlaces (Builtin.Slice.sliceAdjust lo hi c n).1 (Builtin.Slice.sliceAdjust lo hi c n).2 c)).map fun (k : Nat) => ((Builtin.Slice.sliceAdjust lo hi c n).1 + (k : Int) * c).toNat
def pickT (xs : List D) (lo hi : Option Int) (c : Int) : List D := (pickIx xs.length lo hi c).filterMap (xs[·]?)
def slcW : D → Option Int → Option Int → (RV → Prop) → Prop
  | .list xs, lo, hi, Q => Q (.own (cutD xs lo hi))
  | .tuple xs, lo, hi, Q => Q (.v (.tuple (cutD xs lo hi)))
  | _, _, _, _ => False
def tyName : D → String
  | .none => "NoneType" | .bool _ => "bool" | .int _ => "int" | .str _ => "str" | .list _ => "list" | .tuple _ => "tuple" | .dict _ => "dict"
/-- an exception that is held, as data: the global name of its class -/
def excD (n : Str) : D := .dict [(.str n, .none)]
/-- held exceptions are no dicts -/
def isDct1 : D → Bool
  | .dict (_ :: _) => true
  | _ => false
def isiB0 (d : D) : List String → Option Bool
  | [] => some false
  | t :: ts => match L2.kitB (tyName d) t with
    | some true => some true
    | some false => isiB0 d ts
    | none => none
/-- the classes that no exception is of -/
def noExT (t : String) : Bool := t == "int" || (t == "bool" || (t == "tuple" || (t == "list" || t == "str")))
def isiB (d : D) (ts : List String) : Option Bool := match ts.all noExT || !isDct1 d with
  | true => isiB0 d ts
  | false => none
def isIntD : D → Bool
  | .int _ => true
  | _ => false
def isSeqD : D → Bool
  | .list _ => true
  | .tuple _ => true
  | _ => false
mutual
/-- no list within, dicts of none -/
def noL : D → Bool
  | .list _ => false
  | .tuple xs => noLs xs
  | .dict kvs => kvs.isEmpty
  | _ => true
def noLs : List D → Bool
  | [] => true
  | x :: r => noL x && noLs r
end
def maxL : List Int → Option Int
  | [] => none
  | a :: r => some (r.foldl (fun m y => if m < y then y else m) a)
def minL : List Int → Option Int
  | [] => none
  | a :: r => some (r.foldl (fun m y => if y < m then y else m) a)
/-- rows of ints -/
def rowOf : D → Option (List Int)
  | .tuple xs => intsOf xs
  | _ => none
def rowsOf : List D → Option (List (List Int))
  | [] => some []
  | x :: r => match rowOf x, rowsOf r with
    | some k, some ks => some (k :: ks)
    | _, _ => none
/-- rows as Python sorts them -/
def ltR : List Int → List Int → Bool
  | [], [] => false
  | [], _ :: _ => true
  | _ :: _, [] => false
  | a :: r, b :: q => if a = b then ltR r q else decide (a < b)
def minR : List (List Int) → Option (List Int)
  | [] => none
  | a :: r => some (r.foldl (fun m y => if ltR y m then y else m) a)
/-- the least of a row of rows of ints -/
inductive MinR (xs : List D) (Q : RV → Prop) : Prop
  | mk (ks : List (List Int)) (m : List Int) (h : rowsOf xs = some ks) (h2 : minR ks = some m) (q : Q (.v (.tuple (m.map .int))))
/-- the least of a row of ints, or of rows of ints -/
inductive MinL (xs : List D) (Q : RV → Prop) : Prop
  | ints (ns : List Int) (m : Int) (h : intsOf xs = some ns) (h2 : minL ns = some m) (q : Q (.v (.int m)))
  | rows (h : MinR xs Q)
def strsOf : List D → Option (List Str)
  | [] => some []
  | .str z :: r => (strsOf r).map (z :: ·)
  | _ :: _ => none
/-- of each row one -/
def uniq : List (List Int) → List (List Int)
  | [] => []
  | k :: r => if r.contains k then uniq r else k :: uniq r
/-- texts, or ints, put in order -/
inductive SortL (xs : List D) (Q : RV → Prop) : Prop
  | tx (zs : List Str) (h : strsOf xs = some zs) (hl : zs.length < 64) (q : ∀ ys : List Str, ys.Perm zs → PyProof.Rows.sortedS ys = true → Q (.own (ys.map .str)))
  | ns (ns : List Int) (h : intsOf xs = some ns) (q : ∀ ms : List Int, ms.Perm ns → ms.Pairwise (· ≤ ·) → Q (.own (ms.map .int)))
def isLst : D → Bool
  | .list _ => true
  | _ => false
/-- the first place of an item that equals it -/
def idxD (x : D) : List D → Option Nat
  | [] => none
  | y :: r => if PyData.eqv y x then some 0 else (idxD x r).map (· + 1)
def biW : Bi → List D → (RV → Prop) → Prop
  | .len, [.list xs], Q => Q (.v (.int xs.length))
  | .len, [.tuple xs], Q => Q (.v (.int xs.length))
  | .len, [.str x], Q => x.length ≤ sizeLine ∧ Q (.v (.int x.length))
  | .abs, [.int i], Q => Q (.v (.int (if i < 0 then -i else i)))
  | .min2, [.int i, .int j], Q => Q (.v (.int (if j < i then j else i)))
  | .max2, [.int i, .int j], Q => Q (.v (.int (if j > i then j else i)))
  | .min1, [.list xs], Q => MinL xs Q
  | .min1, [.tuple xs], Q => MinR xs Q
  | .max1, [.list xs], Q => Opt (intsOf xs) fun ns => Opt (maxL ns) fun m => Q (.v (.int m))
  | .int, [.int i], Q => Q (.v (.int i))
  | .int, [.bool b], Q => Q (.v (.int (if b then 1 else 0)))
  | .int, [.str x], Q => Opt (intText? x) fun n => x.length ≤ 640 ∧ Q (.v (.int n))
  | .str, [.bool b], Q => Q (.v (.str (if b = true then "True" else "False")))
  | .str, [.int i], Q => i.natAbs.log2 < 1920 ∧ Q (.v (.str (toString i)))
  | .bool, [.int i], Q => Q (.v (.bool (i != 0)))
  | .bool, [.bool b], Q => Q (.v (.bool b))
  | .sum, [.list xs], Q => Opt (intsOf xs) fun ns => Q (.v (.int ns.sum))
  | .all, [.list xs], Q => Opt (boolsOf xs) fun bs => Q (.v (.bool (bs.all id)))
  | .any, [.list xs], Q => Opt (boolsOf xs) fun bs => Q (.v (.bool (bs.any id)))
  | .tuple, [.list xs], Q => Q (.v (.tuple xs))
  | .tuple, [.tuple xs], Q => Q (.v (.tuple xs))
  | .list, [.list xs], Q => Q (.own xs)
  | .list, [.tuple xs], Q => Q (.own xs)
  | .repr, [.int i], Q => i.natAbs.log2 < 1920 ∧ Q (.v (.str (PyData.int i).shown))
  | .repr, [d], Q => (d.showable = true ∧ (d.hasDict = false ∨ noL d = true) ∧ d.depth ≤ 64 ∧ d.shown.length ≤ sizeLine) ∧ Q (.v (.str d.shown))
  | .bits, [.int i], Q => Q (.v (.int (Builtin.Int.intBits i : Nat)))
  | .sorted, [.list xs], Q => SortL xs Q
  | .isi ts, [d], Q => match isiB d ts with | some b => Q (.v (.bool b)) | none => False
  | _, _, _ => False
def rngL (a : Int) (n : Nat) : List D := (List.range n).map fun (k : Nat) => .int (a + (k : Int))
def rngC (a c : Int) (n : Nat) : List D := (List.range n).map fun (k : Nat) => .int (a + (k : Int) * c)
def itemsOf : D → Option (List D)
  | .list xs => some xs
  | .tuple xs => some xs
  | _ => none
def zip3 : List D → List D → List D → List D
  | x :: xs, y :: ys, z :: zs => .tuple [x, y, z] :: zip3 xs ys zs
  | _, _, _ => []
/-- what a walk gives, as rows of data -/
def itW : It → List D → (List D → Prop) → Prop
  | .rng, [.int b], Q => (-1000000 ≤ b ∧ b ≤ 1000000) ∧ Q (rngL 0 b.toNat)
  | .rng, [.int a, .int b], Q => (-1000000 ≤ a ∧ a ≤ 1000000 ∧ -1000000 ≤ b ∧ b ≤ 1000000) ∧ Q (rngL a (b - a).toNat)
  | .rng, [.int a, .int b, .int c], Q => (-1000000 ≤ a ∧ a ≤ 1000000 ∧ -1000000 ≤ b ∧ b ≤ 1000000 ∧ c = 2) ∧ Q (rngC a c (Builtin.Range.rangeSize a b c).toNat)
  | .zip, [x, y], Q => (match itemsOf x, itemsOf y with
    | some xs, some ys => Q ((xs.zip ys).map fun p => .tuple [p.1, p.2])
    | _, _ => False)
  | .zip, [x, y, z], Q => (match itemsOf x, itemsOf y, itemsOf z with
    | some xs, some ys, some zs => Q (zip3 xs ys zs)
    | _, _, _ => False)
  | .zips, [x, y], Q => (match itemsOf x, itemsOf y with
    | some xs, some ys => xs.length = ys.length ∧ Q ((xs.zip ys).map fun p => .tuple [p.1, p.2])
    | _, _ => False)
  | .enm, [x], Q => (match itemsOf x with
    | some xs => Q (xs.zipIdx.map fun p => .tuple [.int p.2, p.1])
    | none => False)
  | .rrng, [.int b], Q => (-1000000 ≤ b ∧ b ≤ 1000000) ∧ Q (rngL 0 b.toNat).reverse
  | _, _, _ => False
def mayPut : Option (Option SV) → Prop
  | some (some (.io _)) => False
  | some _ => True
  | none => False
def putS (e : En) (i : Nat) (s : SV) (Q : En → Prop) : Prop := mayPut e[i]? ∧ Nrm (e.set i (some s)) Q
theorem putS_iff {e : En} {i : Nat} {s : SV} {Q : En → Prop} : putS e i s Q = match e[i]? with
  | some (some (.io _)) => False
  | some _ => Q (e.set i (some s))
  | none => False := by
  unfold putS mayPut
  rw [nrm_iff]
  cases h : e[i]? with
  | none => simp
  | some o =>
    cases o with
    | none => simp
    | some x => cases x <;> simp
def tgW : Tg → List D → En → (En → Prop) → Prop
  | .n i, [d], e, Q => putS e i (.v d) Q
  | .nil, [], e, Q => Q e
  | .cons t r, d :: ds, e, Q => tgW t [d] e fun e1 => tgW r ds e1 Q
  | .tup t, [.tuple ds], e, Q => tgW t ds e Q
  | .tup t, [.list ds], e, Q => tgW t ds e Q
  | _, _, _, _ => False
def tgs : Tg → List Nat
  | .n i => [i]
  | .nil => []
  | .cons t r => tgs t ++ tgs r
  | .tup t => tgs t
/-- how many a row of targets takes -/
def tgN : Tg → Nat
  | .cons _ r => tgN r + 1
  | _ => 0
/-- a def: which of its parameters are lists that it may change; for each a: its arguments, what it asks, what it hands back with those lists behind it, what it raises with them -/
structure Fn where
  ad : Nat := 0
  md : List Bool
  α : Type
  args : α → List SV
  pre : α → Prop
  post : α → SV → List (List D) → Prop
  ex : α → Nat → List (List D) → Prop := fun _ _ _ => False
structure Fn.sp (f : Fn) (ss : List SV) (P : SV → List (List D) → Prop) (R : Nat → List (List D) → Prop) : Prop where
  out : ∃ a, ss = f.args a ∧ f.pre a ∧ (∀ r fin, f.post a r fin → P r fin) ∧ (∀ c fin, f.ex a c fin → R c fin)
/-- a def by what it is asked for: arguments, what is wanted of an answer, of a refusal -/
def Fn.of (md : List Bool) (sp : List SV → (SV → List (List D) → Prop) → (Nat → List (List D) → Prop) → Prop) : Fn where
  md := md
  α := { x : List SV × (SV → List (List D) → Prop) × (Nat → List (List D) → Prop) // sp x.1 x.2.1 x.2.2 }
  args a := a.1.1
  pre _ := True
  post a r fin := a.1.2.1 r fin
  ex a c fin := a.1.2.2 c fin
theorem Fn.sp_mono {f : Fn} {ss : List SV} {P P' : SV → List (List D) → Prop} {R R' : Nat → List (List D) → Prop} (h : f.sp ss P R) (hp : ∀ r fin, P r fin → P' r fin) (hr : ∀ c fin, R c fin → R' c fin) : f.sp ss P' R' :=
  let ⟨a, h1, h2, h3, h4⟩ := h
  ⟨a, h1, h2, fun r fin z => hp r fin (h3 r fin z), fun c fin z => hr c fin (h4 c fin z)⟩
def argSV (e : En) : RV → Option SV
  | .v d => some (.v d)
  | .own _ => none
  | .bor i => match e[i]? with
    | some (some (.own ds)) => some (.io ds)
    | some (some (.io ds)) => some (.io ds)
    | _ => none
def argsSV (e : En) : List RV → Option (List SV)
  | [] => some []
  | r :: rs => match argSV e r, argsSV e rs with
    | some s, some ss => some (s :: ss)
    | _, _ => none
def borsOf : List RV → List Nat
  | [] => []
  | .bor i :: r => i :: borsOf r
  | _ :: r => borsOf r
def put1 (e : En) (i : Nat) (ds : List D) : En := match e[i]? with
  | some (some (.own _)) => e.set i (some (.own ds))
  | some (some (.io _)) => e.set i (some (.io ds))
  | _ => e
def putFin : En → List Nat → List (List D) → En
  | e, i :: is, ds :: fs => putFin (put1 e i ds) is fs
  | e, _, _ => e
/-- behind a call -/
def bk (e : En) (is : List Nat) (fin : List (List D)) (Q : En → Prop) : Prop := match is with
  | [] => Q e
  | i :: is => Nrm (putFin e (i :: is) fin) Q
theorem bk_iff {e : En} {is : List Nat} {fin : List (List D)} {Q : En → Prop} : bk e is fin Q = Q (putFin e is fin) := by
  cases is with
  | nil => cases fin <;> rfl
  | cons i is => exact nrm_iff
def backR : SV → RV
  | .v d => .v d
  | .own ds => .own ds
  | .io ds => .own ds
  | .th _ => .v .none
  | .fn _ => .v .none
def argW (m : Bool) (r : RV) (e : En) (Q : RV → En → Prop) : Prop := match m, r with
  | true, .bor i => Q (.bor i) e
  | _, r => settle e r fun d e' => Q (.v d) e'
/-- walk a row of items -/
def eachW (step : D → En → (List D → En → Prop) → Prop) : List D → List D → En → (List D → En → Prop) → Prop
  | [], acc, e, Q => Q acc e
  | d :: ds, acc, e, Q => step d e fun new e1 => eachW step ds (acc ++ new) e1 Q
def wipeE (e : En) : List Nat → En
  | [] => e
  | i :: is => (wipeE e is).set i none
def backE (e0 e : En) : List Nat → En
  | [] => e
  | i :: is => match e0[i]? with
    | some s => (backE e0 e is).set i s
    | none => backE e0 e is
def resD : List RV → Option (List D)
  | [] => some []
  | .v d :: r => (resD r).map (d :: ·)
  | _ :: _ => none
/-- two ways -/
structure Br (k : Bool) (A B : Prop) : Prop where
  t : k = true → A
  f : k = false → B
theorem br_iff {k : Bool} {A B : Prop} : Br k A B = if k = true then A else B := by
  apply propext
  cases k
  · exact ⟨fun h => h.f rfl, fun h => ⟨fun z => (nomatch z), fun _ => h⟩⟩
  · exact ⟨fun h => h.t rfl, fun h => ⟨fun _ => h, fun z => (nomatch z)⟩⟩
/-- here an if begins -/
structure Sf (P : Prop) : Prop where
  out : P
theorem sf_iff {P : Prop} : Sf P = P := propext ⟨fun h => h.out, fun h => ⟨h⟩⟩
/-- of this row -/
structure Ls (items : List D) (P : List D → Prop) : Prop where
  out : P items
theorem ls_iff {items : List D} {P : List D → Prop} : Ls items P = P items := propext ⟨fun h => h.out, fun h => ⟨h⟩⟩
/-- an invariant -/
inductive Wh (P : (Nat → En → Prop) → Prop) : Prop
  | mk (W : Nat → En → Prop) (h : P W)
def noR : Nat → En → Prop := fun _ _ => False
/-- the modes of the parameters that are given; a row with the defaults put in -/
def pick : List Bool → List Bool → List Bool
  | true :: r, m :: ms => m :: pick r ms
  | false :: r, _ :: ms => pick r ms
  | _, _ => []
def arr {α : Type} : List Bool → List α → List α → List α
  | true :: r, a :: as, ds => a :: arr r as ds
  | false :: r, as, d :: ds => d :: arr r as ds
  | _, _, _ => []
/-- slot i holds a list of its own -/
def ownd (e : En) (i : Nat) : Prop := match e[i]? with
  | some (some (.own _)) => True
  | some (some (.io _)) => True
  | _ => False
/-- what a thunk sees of the slots: data alone -/
def hideS : Option SV → Option SV
  | some (.v d) => some (.v d)
  | _ => none
def hideE : En → En
  | [] => []
  | s :: r => hideS s :: hideE r
/-- what a thunk sees of the slots that changes the list in one of them -/
def hideP : En → Nat → En
  | [], _ => []
  | s :: r, 0 => s :: hideE r
  | s :: r, i + 1 => hideS s :: hideP r i
/-- of the list in slot i -/
def heldL (e : En) (i : Nat) (Q : List D → Prop) : Prop := match e[i]? with
  | some (some (.own ds)) => Q ds
  | some (some (.io ds)) => Q ds
  | _ => False
/-- how a thunk ends, as data: it tells d; it refuses by class c -/
def tolD (d : D) : D := .tuple [.bool true, d]
def refD (c : Nat) : D := .tuple [.bool false, .int (c : Int)]
section
variable (G : Nat → Fn)
mutual
def wE : X → (Nat → En → Prop) → En → (RV → En → Prop) → Prop
  | .var i, R, e, Q => (match e[i]? with
    | some (some (.v d)) => Q (.v d) e
    | some (some (.own _)) => Q (.bor i) e
    | some (some (.io _)) => Q (.bor i) e
    | _ => False)
  | .c d, R, e, Q => Q (.v d) e
  | .dct, R, e, Q => Q (.v (.dict [])) e
  | .neT a, R, e, Q => wE a R e fun ra e1 => pk e1 ra fun d => (match d with
      | .tuple xs => Q (.v (.bool (!xs.isEmpty))) e1
      | _ => False)
  | .lset a, R, e, Q => wE a R e fun ra e1 => pk e1 ra fun d => (match itemsOf d with
      | some xs => Opt (rowsOf xs) fun ks => ks.length < 64 ∧ Q (.v (.int (uniq ks).length)) e1
      | none => False)
  | .lidx a b, R, e, Q => wE a R e fun ra e1 => pk e1 ra fun d0 => isSeqD d0 = true ∧ wE b R e1 fun rb e2 => pk e2 (hold ra) fun x => pk e2 rb fun y => (match d0, x with
      | .list _, .list xs => (SeqAt.shaped y = true ∧ SeqAt.shaped (.list xs) = true) ∧ Opt (idxD y xs) fun (j : Nat) => Q (.v (.int j)) e2
      | .tuple _, .tuple xs => (SeqAt.shaped y = true ∧ SeqAt.shaped (.list xs) = true) ∧ Opt (idxD y xs) fun (j : Nat) => Q (.v (.int j)) e2
      | _, _ => False)
  | .lcnt a b, R, e, Q => wE a R e fun ra e1 => pk e1 ra fun d0 => isLst d0 = true ∧ wE b R e1 fun rb e2 => pk e2 (hold ra) fun x => pk e2 rb fun y => (match x with
      | .list xs => (SeqAt.shaped y = true ∧ SeqAt.shaped (.list xs) = true) ∧ Q (.v (.int ((xs.countP fun z => PyData.eqv z y) : Nat))) e2
      | _ => False)
  | .isx a tbl, R, e, Q => wE a R e fun ra e1 => pk e1 ra fun d => (match d with
      | .dict [(.str n, .none)] => Opt (tbl.lookup n) fun b => Q (.v (.bool b)) e1
      | _ => False)
  | .isn a k, R, e, Q => wE a R e fun ra e1 => pk e1 ra fun d => (match d with
      | .none => Q (.v (.bool k)) e1
      | .list _ => Q (.v (.bool (!k))) e1
      | .tuple _ => Q (.v (.bool (!k))) e1
      | .dict _ => Q (.v (.bool (!k))) e1
      | _ => False)
  | .bin op a b, R, e, Q => wE a R e fun ra e1 => wE b R e1 fun rb e2 => pk e2 (hold ra) fun x => pk e2 rb fun y => opW op x y fun r => Q r e2
  | .neg a, R, e, Q => wE a R e fun ra e1 => pk e1 ra fun x => (match x with | .int i => Q (.v (.int (-i))) e1 | _ => False)
  | .cmp op a b, R, e, Q => wE a R e fun ra e1 => wE b R e1 fun rb e2 => pk e2 (hold ra) fun x => pk e2 rb fun y => cmpW op x y fun r => Q (.v (.bool r)) e2
  | .chn op op' a b d, R, e, Q => wE a R e fun ra e1 => wE b R e1 fun rb e2 => pk e2 (hold ra) fun x => pk e2 rb fun y => cmpW op x y fun r =>
      Br r (wE d R e2 fun rd e3 => pk e3 (hold rb) fun y' => pk e3 rd fun z => cmpW op' y' z fun r' => Q (.v (.bool r')) e3) (Q (.v (.bool false)) e2)
  | .and a b, R, e, Q => wE a R e fun ra e1 => tru e1 ra fun k => Br k (wE b R e1 Q) (settle e1 ra fun d e2 => Q (.v d) e2)
  | .or a b, R, e, Q => wE a R e fun ra e1 => tru e1 ra fun k => Br k (settle e1 ra fun d e2 => Q (.v d) e2) (wE b R e1 Q)
  | .not a, R, e, Q => wE a R e fun ra e1 => tru e1 ra fun k => Q (.v (.bool (!k))) e1
  | .ite c a b, R, e, Q => wT c R e fun k e1 => Br k (wE a R e1 Q) (wE b R e1 Q)
  | .tx _, _, _, _ => False
  | .tand _ _, _, _, _ => False
  | .tor _ _, _, _, _ => False
  | .tnot _, _, _, _ => False
  | .tup a, R, e, Q => wA a [] R e fun rs e1 => (match resD rs with | some ds => ds.length ≤ sizeLine ∧ Q (.v (.tuple ds)) e1 | none => False)
  | .lst a, R, e, Q => wA a [] R e fun rs e1 => (match resD rs with | some ds => ds.length ≤ sizeLine ∧ Q (.own ds) e1 | none => False)
  | .nil, _, _, _ => False
  | .cons _ _, _, _, _ => False
  | .idx a i, R, e, Q => wE a R e fun ra e1 => wE i R e1 fun ri e2 => pk e2 (hold ra) fun x => pk e2 ri fun y => idxW x y fun d => Q (.v d) e2
  | .slc a lo hi, R, e, Q => wE a R e fun ra e1 => wO lo R e1 fun l e2 => wO hi R e2 fun h e3 => pk e3 (hold ra) fun x => slcW x l h fun r => Q r e3
  | .slc3 a lo hi st, R, e, Q => wE a R e fun ra e1 => wO lo R e1 fun l e2 => wO hi R e2 fun h e3 => wO st R e3 fun t e4 => pk e4 (hold ra) fun x => (match x, t with
      | .list xs, some c => c ≠ 0 ∧ Q (.own (pickD xs l h c)) e4
      | .tuple xs, some c => Br (decide (c = 1) && (l.isNone && h.isNone)) (Q (.v (.tuple xs)) e4) ((c ≠ 0 ∧ c ≠ 1) ∧ Q (.v (.tuple (pickT xs l h c))) e4)
      | _, _ => False)
  | .pop i ix, R, e, Q => ownd e i ∧ wE ix R e fun r e1 => pk e1 r fun y => (match y with
      | .int k => (match e1[i]? with
        | some (some (.own ds)) => (0 ≤ k ∧ k < ds.length ∧ k < 1000000) ∧ Opt ds[k.toNat]? fun d => Nrm (e1.set i (some (.own (ds.eraseIdx k.toNat)))) fun e2 => Q (.v d) e2
        | some (some (.io ds)) => (0 ≤ k ∧ k < ds.length ∧ k < 1000000) ∧ Opt ds[k.toNat]? fun d => Nrm (e1.set i (some (.io (ds.eraseIdx k.toNat)))) fun e2 => Q (.v d) e2
        | _ => False)
      | _ => False)
  | .call f ar ds a, R, e, Q => wA a (pick ar (G f).md) R e fun rs e1 => (match argsSV e1 rs with
      | some ss => (borsOf rs).Nodup ∧ (G f).sp (arr ar ss (ds.map .v)) (fun r fin => bk e1 (borsOf rs) fin fun e2 => Q (backR r) e2) (fun c fin => bk e1 (borsOf rs) fin fun e2 => R c e2)
      | none => False)
  | .callT f ar ds a, R, e, Q => wE a R e fun ra e1 => (match ra with
      | .own xs => (G f).sp (arr ar [.io xs] (ds.map .v)) (fun r _ => Q (backR r) e1) (fun c _ => R c e1)
      | _ => False)
  | .lam f a, R, e, Q => Nrm (hideE e) fun e0 => wE a (fun c _ => (G f).sp [.v (refD c)] (fun r _ => Q (backR r) e) (fun c' _ => R c' e)) e0 fun ra e1 =>
      settle e1 ra fun d _ => (G f).sp [.v (tolD d)] (fun r _ => Q (backR r) e) (fun c' _ => R c' e)
  | .act i, R, e, Q => (match e[i]? with
    | some (some (.th z)) => z = (G 9998).ad ∧ (G 9998).sp [] (fun r _ => Q (backR r) e) (fun c _ => R c e)
    | _ => False)
  | .lamP f i a, R, e, Q => ownd e i ∧ Nrm (hideP e i) fun e0 => wE a (fun c e1 => heldL e1 i fun ds => (G f).sp [.v (refD c)] (fun r _ => bk e [i] [ds] fun e2 => Q (backR r) e2) (fun c' _ => bk e [i] [ds] fun e2 => R c' e2)) e0 fun ra e1 =>
      settle e1 ra fun d e3 => heldL e3 i fun ds => (G f).sp [.v (tolD d)] (fun r _ => bk e [i] [ds] fun e2 => Q (backR r) e2) (fun c' _ => bk e [i] [ds] fun e2 => R c' e2)
  | .actP i j, R, e, Q => (match e[i]? with
    | some (some (.th z)) => z = (G 9997).ad ∧ (match e[j]? with
      | some (some (.io ds)) => (G 9997).sp [.io ds] (fun r fin => bk e [j] fin fun e2 => Q (backR r) e2) (fun c fin => bk e [j] fin fun e2 => R c e2)
      | _ => False)
    | _ => False)
  | .callv i fs a, R, e, Q => (match e[i]? with
    | some (some (.fn n)) => Opt (fs.lookup n) fun p => wA a (pick p.2 (G p.1).md) R e fun rs e1 => (match argsSV e1 rs with
      | some ss => (borsOf rs).Nodup ∧ (G p.1).sp (arr p.2 ss (([] : List D).map .v)) (fun r fin => bk e1 (borsOf rs) fin fun e2 => Q (backR r) e2) (fun c fin => bk e1 (borsOf rs) fin fun e2 => R c e2)
      | none => False)
    | _ => False)
  | .dpick tbl i, R, e, Q => (match e[i]? with
    | some (some (.v (.str z))) => Opt (dpk e tbl z) fun n => Q (.v (.int n)) e
    | _ => False)
  | .tpick tbl i, R, e, Q => (match e[i]? with
    | some (some (.v (.str z))) => Opt (pickS z none tbl) fun t => Q (.v (.str t)) e
    | _ => False)
  | .kpick tbl a, R, e, Q => wE a R e fun ra e1 => pk e1 ra fun d => (match d with
    | .str z => Opt (tbl.lookup z) fun v => Q (.v v) e1
    | _ => False)
  | .bi b a, R, e, Q => wB a R e fun ds e1 => biW b ds fun r => Q r e1
  | .itr k a, R, e, Q => wA a [] R e fun rs e1 => (match resD rs with | some ds => itW k ds fun r => Q (.v (.list r)) e1 | none => False)
  | .cmpr t it cond el, R, e, Q => wE it R e fun ri e1 => settle e1 ri fun d e2 => (match itemsOf d with
      | some items => Ls items fun l => eachW (fun d e K => Nrm (wipeE e (tgs t)) fun e0 => tgW t [d] e0 fun e1 => wT cond noR e1 fun k e2 =>
          Br k (wE el noR e2 fun re e3 => settle e3 re fun d' e4 => K [d'] e4) (K [] e2)) l [] e2 fun ds e3 => Nrm (backE e2 e3 (tgs t)) fun e4 => Q (.own ds) e4
      | none => False)
  | .cmprB i t cond el, R, e, Q => (match e[i]? with
      | some (some (.own ds)) => Nrm (e.set i none) fun e2 => Ls ds fun l => eachW (fun d e K => Nrm (wipeE e (tgs t)) fun e0 => tgW t [d] e0 fun e1 => wT cond noR e1 fun k e2 =>
          Br k (wE el noR e2 fun re e3 => settle e3 re fun d' e4 => K [d'] e4) (K [] e2)) l [] e2 fun acc e3 => Nrm (backE e2 e3 (tgs t)) fun e4 => Nrm (e4.set i (some (.own ds))) fun e5 => Q (.own acc) e5
      | _ => False)
/-- arguments, each settled or, where m tells so, the list itself -/
def wA : X → List Bool → (Nat → En → Prop) → En → (List RV → En → Prop) → Prop
  | .nil, _, R, e, Q => Q [] e
  | .cons a r, m, R, e, Q => wE a R e fun ra e1 => argW (m.headD false) ra e1 fun ra' e2 => wA r m.tail R e2 fun rs e3 => Q (ra' :: rs) e3
  | _, _, _, _, _ => False
/-- a built-in's arguments: looked at behind the last one -/
def wB : X → (Nat → En → Prop) → En → (List D → En → Prop) → Prop
  | .nil, R, e, Q => Q [] e
  | .cons a r, R, e, Q => wE a R e fun ra e1 => wB r R e1 fun ds e2 => pk e2 (hold ra) fun d => Q (d :: ds) e2
  | _, _, _, _ => False
/-- a part of a slice -/
def wO : X → (Nat → En → Prop) → En → (Option Int → En → Prop) → Prop
  | .nil, R, e, Q => Q none e
  | .cons a _, R, e, Q => wE a R e fun ra e1 => pk e1 ra fun d => (match d with | .int i => Q (some i) e1 | _ => False)
  | _, _, _, _ => False
/-- tests -/
def wT : X → (Nat → En → Prop) → En → (Bool → En → Prop) → Prop
  | .nil, R, e, Q => Q true e
  | .tx a, R, e, Q => wE a R e fun r e1 => tru e1 r fun k => Q k e1
  | .tand a b, R, e, Q => wT a R e fun k e1 => Br k (wT b R e1 Q) (Q false e1)
  | .tor a b, R, e, Q => wT a R e fun k e1 => Br k (Q true e1) (wT b R e1 Q)
  | .tnot a, R, e, Q => wT a R e fun k e1 => Q (!k) e1
  | _, _, _, _ => False
end
/-- what stands behind a store of an outcome into a slot -/
def putR (e : En) (i : Nat) (r : RV) (Q : En → Prop) : Prop := match r with
  | .own ds => putS e i (.own ds) Q
  | r => settle e r fun d e' => putS e' i (.v d) Q
def retR (e : En) (r : RV) (Q : SV → En → Prop) : Prop := match r with
  | .own ds => Q (.own ds) e
  | .bor i => (match e[i]? with
    | some (some (.own ds)) => Q (.own ds) e
    | some (some (.v d)) => Q (.v d) e
    | _ => False)
  | .v d => Q (.v d) e
def tgR (t : Tg) (r : RV) (e : En) (Q : En → Prop) : Prop := match t with
  | .n i => putR e i r Q
  | t => settle e r fun d e' => tgW t [d] e' Q
def forW (step : D → En → (Out → En → Prop) → Prop) : List D → En → (Out → En → Prop) → Prop
  | [], e, Q => Q .nx e
  | d :: ds, e, Q => step d e fun o e1 => match o with
    | .nx => forW step ds e1 Q
    | .ct => forW step ds e1 Q
    | .bk => Q .nx e1
    | .rt r => Q (.rt r) e1
/-- no list of one's own is handed back -/
def plainO : Out → Prop
  | .rt (.v _) => True
  | .rt _ => False
  | _ => True
/-- how many there are in a row -/
def xN : X → Nat
  | .cons _ r => xN r + 1
  | _ => 0
/-- a row of names and items takes a row of data -/
def wU : X → List D → En → (En → Prop) → Prop
  | .nil, [], e, Q => Q e
  | .cons t r, d :: ds, e, Q => (match t with
    | .var i => putS e i (.v d) fun e1 => wU r ds e1 Q
    | .idx (.var i) ix => ownd e i ∧ wE G ix noR e fun ri e3 => pk e3 ri fun y => match y with
      | .int k => (match e3[i]? with
        | some (some (.own xs)) => Opt (ixAt xs.length k) fun j => Nrm (e3.set i (some (.own (xs.set j d)))) fun e' => wU r ds e' Q
        | some (some (.io xs)) => Opt (ixAt xs.length k) fun j => Nrm (e3.set i (some (.io (xs.set j d)))) fun e' => wU r ds e' Q
        | _ => False)
      | _ => False
    | _ => False)
  | _, _, _, _ => False
mutual
def wS : S → (Nat → En → Prop) → En → (Out → En → Prop) → Prop
  | .skip, R, e, Q => Q .nx e
  | .seq a b, R, e, Q => wS a R e fun o e1 => match o with
    | .nx => wS b R e1 Q
    | o => Q o e1
  | .asg t x, R, e, Q => wE G x R e fun r e1 => tgR t r e1 fun e2 => Q .nx e2
  | .par t a, R, e, Q => wA G a [] R e fun rs e1 => match resD rs with
    | some ds => tgW t ds e1 fun e2 => Q .nx e2
    | none => False
  | .par2 i j a b, R, e, Q => wE G a R e fun ra e1 => wE G b R e1 fun rb e2 => (match ra, rb with
    | .bor _, _ => False
    | _, .bor _ => False
    | ra, rb => putR e2 i ra fun e3 => putR e3 j rb fun e4 => Q .nx e4)
  | .sidx i ix x, R, e, Q => wE G x R e fun r e1 => settle e1 r fun d e2 => ownd e2 i ∧ wE G ix R e2 fun ri e3 => pk e3 ri fun y => match y with
    | .int k => (match e3[i]? with
      | some (some (.own ds)) => Opt (ixAt ds.length k) fun j => Nrm (e3.set i (some (.own (ds.set j d)))) fun e' => Q .nx e'
      | some (some (.io ds)) => Opt (ixAt ds.length k) fun j => Nrm (e3.set i (some (.io (ds.set j d)))) fun e' => Q .nx e'
      | _ => False)
    | _ => False
  | .app i x, R, e, Q => ownd e i ∧ wE G x R e fun r e1 => settle e1 r fun d e2 => match e2[i]? with
    | some (some (.own ds)) => ds.length < sizeLine ∧ Nrm (e2.set i (some (.own (ds ++ [d])))) fun e' => Q .nx e'
    | some (some (.io ds)) => ds.length < sizeLine ∧ Nrm (e2.set i (some (.io (ds ++ [d])))) fun e' => Q .nx e'
    | _ => False
  | .aug i op x, R, e, Q => match e[i]? with
    | some (some (.v (.int a))) => wE G x R e fun r e1 => pk e1 r fun y => match y with
      | .int b => (match op with
        | .Add => putS e1 i (.v (.int (a + b))) fun e2 => Q .nx e2
        | .Sub => putS e1 i (.v (.int (a - b))) fun e2 => Q .nx e2
        | .Mult => MulOk a b ∧ putS e1 i (.v (.int (a * b))) fun e2 => Q .nx e2
        | _ => False)
      | _ => False
    | _ => False
  | .ret x, R, e, Q => wE G x R e fun r e1 => retR e1 r fun s e2 => Q (.rt s) e2
  | .ifs c a b, R, e, Q => Sf (wT G c R e fun k e1 => Br k (wS a R e1 Q) (wS b R e1 Q))
  | .forr t it b, R, e, Q => wE G it R e fun ri e1 => settle e1 ri fun d e2 => match itemsOf d with
    | some items => Ls items fun l => forW (fun d e K => tgW t [d] e fun e1 => wS b R e1 K) l e2 Q
    | none => False
  | .whl c b, R, e, Q => Wh fun W => (∃ m, W m e) ∧ ∀ m e, W m e → wT G c R e fun k e1 =>
      Br k (wS b R e1 fun o e2 => (match o with
        | .nx => ∃ m', m' < m ∧ W m' e2
        | .ct => ∃ m', m' < m ∧ W m' e2
        | .bk => Q .nx e2
        | .rt r => Q (.rt r) e2)) (Q .nx e1)
  | .brk, R, e, Q => Q .bk e
  | .cnt, R, e, Q => Q .ct e
  | .expr x, R, e, Q => wE G x R e fun _ e1 => Q .nx e1
  | .rais c, R, e, _ => R c e
  | .nev, _, _, _ => False
  | .star t i x, R, e, Q => wE G x R e fun r e1 => settle e1 r fun d e2 => match d with
    | .tuple ds => tgN t ≤ ds.length ∧ tgW t (ds.take (tgN t)) e2 fun e3 => putS e3 i (.own (ds.drop (tgN t))) fun e4 => Q .nx e4
    | _ => False
  | .ext i x, R, e, Q => ownd e i ∧ wE G x R e fun r e1 => match r with
    | .own zs => (match e1[i]? with
      | some (some (.own ds)) => ds.length + zs.length ≤ sizeLine ∧ Nrm (e1.set i (some (.own (ds ++ zs)))) fun e' => Q .nx e'
      | some (some (.io ds)) => ds.length + zs.length ≤ sizeLine ∧ Nrm (e1.set i (some (.io (ds ++ zs)))) fun e' => Q .nx e'
      | _ => False)
    | _ => False
  | .ins i k x, R, e, Q => ownd e i ∧ wA G (.cons k (.cons x .nil)) [] R e fun rs e1 => match resD rs with
    | some [.int j, d] => (0 ≤ j ∧ j < 1000000) ∧ (match e1[i]? with
      | some (some (.own ds)) => ds.length < sizeLine ∧ Nrm (e1.set i (some (.own (ds.take j.toNat ++ [d] ++ ds.drop j.toNat)))) fun e' => Q .nx e'
      | some (some (.io ds)) => ds.length < sizeLine ∧ Nrm (e1.set i (some (.io (ds.take j.toNat ++ [d] ++ ds.drop j.toNat)))) fun e' => Q .nx e'
      | _ => False)
    | _ => False
  | .tri a h, R, e, Q => wS a (fun c e1 => wH h c R e1 Q) e Q
  | .alt _ _ _ _, _, _, _ => False
  | .unp u x, R, e, Q => wE G x R e fun r e1 => settle e1 r fun d e2 => match d with
    | .tuple ds => ds.length = xN u ∧ wU G u ds e2 fun e3 => Q .nx e3
    | _ => False
  | .pickf i tbl x, R, e, Q => wE G x R e fun r e1 => pk e1 r fun d => (match d with
    | .str z => Opt (tbl.lookup z) fun n => putS e1 i (.fn n) fun e2 => Q .nx e2
    | _ => False)
  | .asg2 t u x, R, e, Q => wE G x R e fun r e1 => settle e1 r fun d e2 => tgW t [d] e2 fun e3 => tgW u [d] e3 fun e4 => Q .nx e4
/-- the clauses behind a try: which classes are met, by what global name -/
def wH : S → Nat → (Nat → En → Prop) → En → (Out → En → Prop) → Prop
  | .alt tb oi s r, c, R, e, Q => (match tb.lookup c with
    | some (some n) => (match oi with
      | none => wS s noR e Q
      | some i => putS e i (.v (excD n)) fun e1 => wS s noR e1 fun o e2 => plainO o ∧ Nrm (e2.set i none) fun e3 => Q o e3)
    | some none => wH r c R e Q
    | none => False)
  | _, c, R, e, _ => R c e
end
end
/-- how a thunk may end -/
abbrev Oc := D ⊕ Nat
def outD : Oc → D
  | .inl d => tolD d
  | .inr c => refD c
def thFn (S : Oc → Prop) (a : Nat) : Fn := { ad := a, md := [], α := Unit, args := fun _ => [], pre := fun _ => True, post := fun _ r _ => ∃ d, S (.inl d) ∧ r = .v d, ex := fun _ c _ => S (.inr c) }
/-- the defs, and a thunk among them -/
def thG (G : Nat → Fn) (S : Oc → Prop) (a : Nat) : Nat → Fn := fun i => if i = 9998 then thFn S a else G i
theorem thG_at {G : Nat → Fn} {S : Oc → Prop} {a : Nat} : thG G S a 9998 = thFn S a := rfl
theorem thG_ne {G : Nat → Fn} {S : Oc → Prop} {a i : Nat} (h : i ≠ 9998) : thG G S a i = G i := if_neg h
/-- a thunk that changes a list: ds ahead of it -/
def thFnP (S : Oc → List D → Prop) (a : Nat) (ds : List D) : Fn := { ad := a, md := [true], α := Unit, args := fun _ => [.io ds], pre := fun _ => True, post := fun _ r fin => ∃ d ds', S (.inl d) ds' ∧ r = .v d ∧ fin = [ds'], ex := fun _ c fin => ∃ ds', S (.inr c) ds' ∧ fin = [ds'] }
def thGP (G : Nat → Fn) (S : Oc → List D → Prop) (a : Nat) (ds : List D) : Nat → Fn := fun i => if i = 9997 then thFnP S a ds else G i
theorem thGP_at {G : Nat → Fn} {S : Oc → List D → Prop} {a : Nat} {ds : List D} : thGP G S a ds 9997 = thFnP S a ds := rfl
theorem thGP_ne {G : Nat → Fn} {S : Oc → List D → Prop} {a i : Nat} {ds : List D} (h : i ≠ 9997) : thGP G S a ds i = G i := if_neg h
theorem actPI {S : Oc → List D → Prop} {a : Nat} {ds : List D} {P : SV → List (List D) → Prop} {R : Nat → List (List D) → Prop} (h1 : ∀ d ds', S (.inl d) ds' → P (.v d) [ds']) (h2 : ∀ c ds', S (.inr c) ds' → R c [ds']) : (thFnP S a ds).sp [.io ds] P R :=
  ⟨(), rfl, trivial, fun r fin ⟨d, ds', k, e, e2⟩ => e ▸ e2 ▸ h1 d ds' k, fun c fin ⟨ds', k, e2⟩ => e2 ▸ h2 c ds' k⟩
theorem thFn_sp {S : Oc → Prop} {a : Nat} {P : SV → List (List D) → Prop} {R : Nat → List (List D) → Prop} (h : (thFn S a).sp [] P R) : (∀ d fin, S (.inl d) → P (.v d) fin) ∧ ∀ c fin, S (.inr c) → R c fin := by
  obtain ⟨_, _, _, h1, h2⟩ := h
  exact ⟨fun d fin k => h1 _ fin ⟨d, k, rfl⟩, fun c fin k => h2 c fin k⟩
theorem actI {S : Oc → Prop} {a : Nat} {P : SV → List (List D) → Prop} {R : Nat → List (List D) → Prop} (h1 : ∀ d fin, S (.inl d) → P (.v d) fin) (h2 : ∀ c fin, S (.inr c) → R c fin) : (thFn S a).sp [] P R :=
  ⟨(), rfl, trivial, fun r fin ⟨d, k, e⟩ => e ▸ h1 d fin k, fun c fin k => h2 c fin k⟩
end DI
namespace DI
open PySem L2
abbrev Fg := PySem.W.Frag
/-- at a stands an exception of the class cls -/
def ExK (cls : Value) (d : Option Addr) (a : Addr) : HO := .ext fun h => ∃ oe : Obj, h.get? a = some oe ∧ Zc cls d oe ∧ ∃ vs, oe.data = .fields vs
/-- the class that the module names so -/
structure ClsN (K : Fg) (n : Str) (C : Addr) : Prop where
  out : PySem.W.nsIn K mainGlobals n = some (some (.ref C))
  ex : ExcC K C
  ty : ∀ t, noExT t = true → PySem.W.kitOne K (.ref C) (.type t) = some false
theorem noExT_cases {t : String} (h : noExT t = true) : t = "int" ∨ t = "bool" ∨ t = "tuple" ∨ t = "list" ∨ t = "str" := by
  unfold noExT at h
  simpa only [Bool.or_eq_true, beq_iff_eq] using h
theorem kit_ty' {K : Fg} {C : Addr} {t : String} {b : Bool} (h : PySem.W.kitMeta t = true) (h4 : PySem.W.subIn K (.ref C) (.type t) = some b) : PySem.W.kitOne K (.ref C) (.type t) = some b := by
  show (if PySem.W.kitMeta t = true then PySem.W.subIn K (.ref C) (.type t) else none) = some b
  rw [if_pos h]; exact h4
theorem clsN_of {K : Fg} {n : Str} {C : Addr} (h : PySem.W.nsIn K mainGlobals n = some (some (.ref C))) (e : ExcC K C) (h1 : PySem.W.subIn K (.ref C) (.type "int") = some false) (h2 : PySem.W.subIn K (.ref C) (.type "bool") = some false) (h3 : PySem.W.subIn K (.ref C) (.type "tuple") = some false) (h4 : PySem.W.subIn K (.ref C) (.type "list") = some false) (h5 : PySem.W.subIn K (.ref C) (.type "str") = some false) : ClsN K n C :=
  ⟨h, e, fun t ht => by
    rcases noExT_cases ht with rfl | rfl | rfl | rfl | rfl
    · exact kit_ty' (by decide +kernel) h1
    · exact kit_ty' (by decide +kernel) h2
    · exact kit_ty' (by decide +kernel) h3
    · exact kit_ty' (by decide +kernel) h4
    · exact kit_ty' (by decide +kernel) h5⟩
/-- isinstance of a held exception, a class of the text -/
theorem kit_refF {K : Fg} {C : Addr} {t : Value} {b : Bool} (h0 : (t == .ref C) = false) (hd : PySem.W.hasDictIn K C = true) (ht : PySem.W.typeIn K (.ref C) = some (.type "type")) (h4 : PySem.W.subIn K t (.ref C) = some b) : PySem.W.kitOne K t (.ref C) = some b := by
  obtain ⟨cd, hc, _⟩ := PySem.W.any_some hd
  have e2 : ((PySem.W.clsIn K C).isSome && PySem.W.typeIn K (.ref C) == some (.type "type")) = true := by rw [hc, ht] <;> rfl
  show (if (t == .ref C) = true then some true else if ((PySem.W.clsIn K C).isSome && PySem.W.typeIn K (.ref C) == some (.type "type")) = true then PySem.W.subIn K t (.ref C) else none) = some b
  rw [if_neg (by rw [h0]; decide), if_pos e2]
  exact h4
theorem kit_self {K : Fg} {C : Addr} : PySem.W.kitOne K (.ref C) (.ref C) = some true := by
  show (if ((Value.ref C) == .ref C) = true then some true else _) = some true
  exact if_pos ((beq_iff_eq (α := Value)).mpr rfl)
/-- an object that is known to have no names of its own -/
def DN (K : Fg) (F : Hp) (a : Addr) : Prop := (∃ o u, F a = some (.frz o u) ∧ o.dict = none) ∨ ∃ o, K.lookup a = some o ∧ o.dict = none
structure SqTn (K : Fg) (F : Hp) (a : Addr) (xs : List L2.V) : Prop where
  sq : SqT K F a xs
  dn : DN K F a
instance {K : Fg} {F : Hp} {a : Addr} {xs : List L2.V} : Coe (SqTn K F a xs) (SqT K F a xs) := ⟨fun h => h.sq⟩
mutual
inductive Rep (K : Fg) (F : Hp) : L2.V → D → Prop
  | non : Rep K F .non .none
  | bl (b : Bool) : Rep K F (.bl b) (.bool b)
  | int (i : Int) : Rep K F (.int i) (.int i)
  | str (x : Str) : Rep K F (.str x) (.str x)
  | lsq {a : Addr} {xs : List L2.V} {ds : List D} : SqL K F a xs → RepL K F xs ds → Rep K F (.ref a) (.list ds)
  | tup {a : Addr} {xs : List L2.V} {ds : List D} : SqTn K F a xs → RepL K F xs ds → Rep K F (.ref a) (.tuple ds)
  | dic {a : Addr} : F a = some (.dK []) → Rep K F (.ref a) (.dict [])
  | exc {a C : Addr} {n : Str} : ClsN K n C → F a = some (ExK (.ref C) none a) → Rep K F (.ref a) (excD n)
inductive RepL (K : Fg) (F : Hp) : List L2.V → List D → Prop
  | nil : RepL K F [] []
  | cons {x : L2.V} {xs : List L2.V} {d : D} {ds : List D} : Rep K F x d → RepL K F xs ds → RepL K F (x :: xs) (d :: ds)
end
theorem Rep.lst {K : Fg} {F : Hp} {a : Addr} {xs : List L2.V} {ds : List D} (h : Rd F a (.lst xs)) (r : RepL K F xs ds) : Rep K F (.ref a) (.list ds) := .lsq (.inl h) r
def Sub (F F' : Hp) : Prop := ∀ a o, F a = some o → F' a = some o
theorem Sub.refl {F : Hp} : Sub F F := fun _ _ h => h
theorem Sub.trans {F G H : Hp} (a : Sub F G) (b : Sub G H) : Sub F H := fun x o h => b x o (a x o h)
theorem Sub.new {F : Hp} {p : Addr} {o : HO} (h : F p = none) : Sub F (upd F p o) := fun a u e => by
  rw [upd_ne (ne_of_none e h)]; exact e
theorem Sub.rd {F F' : Hp} {a : Addr} {u : HO} (s : Sub F F') : Rd F a u → Rd F' a u
  | .inl h => .inl (s _ _ h)
  | .inr ⟨o, h⟩ => .inr ⟨o, s _ _ h⟩
theorem Sub.sqL {K : Fg} {F F' : Hp} {a : Addr} {xs : List L2.V} (s : Sub F F') : SqL K F a xs → SqL K F' a xs
  | .inl h => .inl (s.rd h)
  | .inr h => .inr h
theorem Sub.sqT {K : Fg} {F F' : Hp} {a : Addr} {xs : List L2.V} (s : Sub F F') : SqT K F a xs → SqT K F' a xs
  | .inl h => .inl (s.rd h)
  | .inr h => .inr h
theorem Sub.dn {K : Fg} {F F' : Hp} {a : Addr} (s : Sub F F') : DN K F a → DN K F' a
  | .inl ⟨o, u, h, k⟩ => .inl ⟨o, u, s _ _ h, k⟩
  | .inr h => .inr h
theorem Sub.sqN {K : Fg} {F F' : Hp} {a : Addr} {xs : List L2.V} (s : Sub F F') (h : SqTn K F a xs) : SqTn K F' a xs := ⟨s.sqT h.sq, s.dn h.dn⟩
theorem SqTn.new {K : Fg} {F : Hp} {p : Addr} {ob : Obj} {xs : List L2.V} (hd : ob.dict = none) : SqTn K (upd F p (.frz ob (.tup xs))) p xs := ⟨.inl (.inr ⟨ob, upd_same⟩), .inl ⟨ob, _, upd_same, hd⟩⟩
mutual
theorem Rep.mono {K : Fg} {F F' : Hp} (s : Sub F F') : ∀ {x : L2.V} {d : D}, Rep K F x d → Rep K F' x d
  | _, _, .non => .non
  | _, _, .bl b => .bl b
  | _, _, .int i => .int i
  | _, _, .str x => .str x
  | _, _, .lsq h l => .lsq (s.sqL h) (RepL.mono s l)
  | _, _, .tup h l => .tup (s.sqN h) (RepL.mono s l)
  | _, _, .dic h => .dic (s _ _ h)
  | _, _, .exc n h => .exc n (s _ _ h)
theorem RepL.mono {K : Fg} {F F' : Hp} (s : Sub F F') : ∀ {xs : List L2.V} {ds : List D}, RepL K F xs ds → RepL K F' xs ds
  | _, _, .nil => .nil
  | _, _, .cons h t => .cons (Rep.mono s h) (RepL.mono s t)
end
theorem RepL.length {K : Fg} {F : Hp} : ∀ {xs : List L2.V} {ds : List D}, RepL K F xs ds → xs.length = ds.length
  | _, _, .nil => rfl
  | _, _, .cons _ t => by simp [RepL.length t]
theorem RepL.append {K : Fg} {F : Hp} : ∀ {xs ys : List L2.V} {ds es : List D}, RepL K F xs ds → RepL K F ys es → RepL K F (xs ++ ys) (ds ++ es)
  | _, _, _, _, .nil, t => t
  | _, _, _, _, .cons h t, u => .cons h (RepL.append t u)
theorem RepL.get {K : Fg} {F : Hp} : ∀ {xs : List L2.V} {ds : List D} {i : Nat} {d : D}, RepL K F xs ds → ds[i]? = some d → ∃ x, xs[i]? = some x ∧ Rep K F x d
  | _, _, _, _, .nil, e => by simp at e
  | _, _, 0, _, .cons h _, e => by simp at e; subst e; exact ⟨_, rfl, h⟩
  | _, _, i + 1, _, .cons _ t, e => by
    obtain ⟨x, h1, h2⟩ := RepL.get (i := i) t (by simpa using e)
    exact ⟨x, by simpa using h1, h2⟩
theorem RepL.getV {K : Fg} {F : Hp} : ∀ {xs : List L2.V} {ds : List D} {i : Nat} {x : L2.V}, RepL K F xs ds → xs[i]? = some x → ∃ d, ds[i]? = some d ∧ Rep K F x d
  | _, _, _, _, .nil, e => by simp at e
  | _, _, 0, _, .cons h _, e => by simp at e; subst e; exact ⟨_, rfl, h⟩
  | _, _, i + 1, _, .cons _ t, e => by
    obtain ⟨x, h1, h2⟩ := RepL.getV (i := i) t (by simpa using e)
    exact ⟨x, by simpa using h1, h2⟩
theorem RepL.set {K : Fg} {F : Hp} {x : L2.V} {d : D} (h : Rep K F x d) : ∀ {xs : List L2.V} {ds : List D} (i : Nat), RepL K F xs ds → RepL K F (xs.set i x) (ds.set i d)
  | _, _, _, .nil => .nil
  | _, _, 0, .cons _ t => .cons h t
  | _, _, i + 1, .cons g t => .cons g (RepL.set h i t)
theorem RepL.drop {K : Fg} {F : Hp} : ∀ {xs : List L2.V} {ds : List D} (n : Nat), RepL K F xs ds → RepL K F (xs.drop n) (ds.drop n)
  | _, _, 0, r => r
  | _, _, _ + 1, .nil => .nil
  | _, _, n + 1, .cons _ t => RepL.drop n t
theorem RepL.take {K : Fg} {F : Hp} : ∀ {xs : List L2.V} {ds : List D} (n : Nat), RepL K F xs ds → RepL K F (xs.take n) (ds.take n)
  | _, _, 0, _ => .nil
  | _, _, _ + 1, .nil => .nil
  | _, _, n + 1, .cons h t => .cons h (RepL.take n t)
/-- the classes that are raised, by number; the tables of code objects, each with the name that its lambdas bear; what stood fast ahead; code objects that are known -/
structure CV where
  val : Nat → Value
  T : List (Addr × Str)
  F0 : Hp
  co : List (Addr × Str)
  ad : List (Nat × Addr)
instance : CoeFun CV fun _ => Nat → Value := ⟨CV.val⟩
/-- where the lists stand that were handed in -/
abbrev AT := Nat → Addr
/-- no table -/
def NT (o : HO) : Prop := ∀ ps, o ≠ .tbl ps
theorem nt_lst {xs : List L2.V} : NT (.lst xs) := fun _ z => nomatch z
theorem nt_tup {xs : List L2.V} : NT (.tup xs) := fun _ z => nomatch z
theorem nt_exk {c : Value} {d : Option Addr} {a : Addr} : NT (ExK c d a) := fun _ z => by unfold ExK at z; cases z
def NF (F : Hp) : Prop := ∀ a o, F a = some o → NT o
theorem NF.new {F : Hp} {p : Addr} {o : HO} (h : NF F) (n : NT o) : NF (upd F p o) := fun a u z => by
  by_cases e : a = p
  · subst e; rw [upd_same] at z; cases z; exact n
  · rw [upd_ne e] at z; exact h a u z
/-- the tables, and no others -/
structure TabI (T : List (Addr × Str)) (H : Hp) : Prop where
  tab : LamX.Tabs T H
  tin : ∀ a ps, H a = some (.tbl ps) → ∃ q, (a, q) ∈ T
/-- what stands by the way -/
structure Sx (cv : CV) (A : AT) (H F : Hp) : Prop where
  tab : TabI cv.T H
  nf : NF F
  sb : Sub cv.F0 F
  cod : ∀ p ∈ cv.co, H p.1 = some (LamX.CodeO p.1 p.2)
  ad : ∀ x ∈ cv.ad, A x.1 = x.2
theorem tab_keep {T : List (Addr × Str)} {H H' : Hp} (h : TabI T H) (k : ∀ a o, H a = some o → (∀ xs, o ≠ .lst xs) → H' a = some o) (k2 : ∀ a ps, H' a = some (.tbl ps) → ∃ qs, H a = some (.tbl qs)) : TabI T H' := by
  refine ⟨fun p hp => ?_, fun a ps z => let ⟨qs, y⟩ := k2 a ps z; h.tin a qs y⟩
  obtain ⟨ps, h1, h2, h3⟩ := h.tab p hp
  refine ⟨ps, k _ _ h1 (fun _ z => nomatch z), h2, fun pos v hv => ?_⟩
  obtain ⟨c, e1, e2⟩ := h3 pos v hv
  exact ⟨c, e1, k _ _ e2 fun _ z => by unfold LamX.CodeO at z; cases z⟩
theorem Sx.step {cv : CV} {A : AT} {H F H' F' : Hp} (h : Sx cv A H F) (hf : Sub F F') (hn : NF F') (k : ∀ a o, H a = some o → (∀ xs, o ≠ .lst xs) → H' a = some o) (k2 : ∀ a ps, H' a = some (.tbl ps) → ∃ qs, H a = some (.tbl qs)) : Sx cv A H' F' :=
  ⟨tab_keep h.tab k k2, hn, h.sb.trans hf, fun p hp => k _ _ (h.cod p hp) fun _ z => (by unfold LamX.CodeO at z; cases z), h.ad⟩
theorem Sx.upd {cv : CV} {A : AT} {H F : Hp} {p : Addr} {o : HO} (h : Sx cv A H F) (hp : H p = none ∨ ∃ xs, H p = some (.lst xs)) (no : NT o) : Sx cv A (L2.upd H p o) F := by
  refine h.step .refl h.nf (fun a u z n => ?_) fun a ps z => ?_
  · rw [upd_ne]
    · exact z
    · rintro rfl
      rcases hp with e | ⟨xs, e⟩
      · rw [e] at z; cases z
      · rw [e] at z; cases z; exact n _ rfl
  · by_cases e : a = p
    · subst e; rw [upd_same] at z; cases z; exact absurd rfl (no _)
    · rw [upd_ne e] at z; exact ⟨ps, z⟩
theorem Sx.fast {cv : CV} {A : AT} {H F : Hp} {p : Addr} {o : HO} (h : Sx cv A H F) (hp : F p = none) (n : NT o) : Sx cv A H (L2.upd F p o) :=
  h.step (.new hp) (h.nf.new n) (fun _ _ z _ => z) fun _ ps z => ⟨ps, z⟩
/-- slot i holds the list at p, alone -/
def Owns (e : En) (σ : St) (i : Nat) (p : Addr) : Prop := σ[i]? = some (some (.ref p)) ∧ ∃ ds, e[i]? = some (some (.own ds)) ∨ e[i]? = some (some (.io ds))
def SlotOk (K : Fg) (A : AT) (σ : St) (H F : Hp) (i : Nat) : SV → Prop
  | .v d => ∃ x, σ[i]? = some (some x) ∧ Rep K F x d
  | .own ds => ∃ p xs, σ[i]? = some (some (.ref p)) ∧ F p = none ∧ H p = some (.lst xs) ∧ RepL K F xs ds
  | .io ds => ∃ xs, σ[i]? = some (some (.ref (A i))) ∧ F (A i) = none ∧ H (A i) = some (.lst xs) ∧ RepL K F xs ds
  | .th a => σ[i]? = some (some (.ref a))
  | .fn n => ∃ f : Addr, σ[i]? = some (some (.ref f)) ∧ PySem.W.nsIn K mainGlobals n = some (some (.ref f))
/-- it holds a list -/
def LS : SV → Prop
  | .own _ => True
  | .io _ => True
  | _ => False
structure Sta (K : Fg) (cv : CV) (A : AT) (e : En) (σ : St) (H F : Hp) : Prop where
  sub : Sub F H
  len : e.length ≤ σ.length
  slot : ∀ i s, e[i]? = some (some s) → SlotOk K A σ H F i s
  dist : ∀ i j p, Owns e σ i p → Owns e σ j p → i = j
  sx : Sx cv A H F
/-- from one state to a later one -/
structure Go (e : En) (σ : St) (H F : Hp) (e' : En) (σ' : St) (H' F' : Hp) : Prop where
  ext : Sub F F'
  frm : ∀ a o, H a = some o → (∀ i, ¬ Owns e σ i a) → NT o → H' a = some o
  liv : ∀ a, H' a = none → H a = none
  new : ∀ a, F a = none → H a ≠ none → (∀ i, ¬ Owns e σ i a) → F' a = none
  own : ∀ i p, Owns e' σ' i p → H p = none ∨ ∃ j, Owns e σ j p
  iok : ∀ (i : Nat) (ds : List D), e[i]? = some (some (SV.io ds)) → ∃ ds', e'[i]? = some (some (SV.io ds'))
  len : e.length = e'.length
theorem Go.refl {e : En} {σ : St} {H F : Hp} : Go e σ H F e σ H F := ⟨.refl, fun _ _ h _ _ => h, fun _ h => h, fun _ h _ _ => h, fun i _ h => .inr ⟨i, h⟩, fun i ds h => ⟨ds, h⟩, rfl⟩
theorem Go.trans {e1 e2 e3 : En} {σ1 σ2 σ3 : St} {H1 H2 H3 F1 F2 F3 : Hp} (g : Go e1 σ1 H1 F1 e2 σ2 H2 F2) (k : Go e2 σ2 H2 F2 e3 σ3 H3 F3) : Go e1 σ1 H1 F1 e3 σ3 H3 F3 := by
  have no2 : ∀ a, H1 a ≠ none → (∀ i, ¬ Owns e1 σ1 i a) → ∀ i, ¬ Owns e2 σ2 i a := fun a ha n i hi => by
    rcases g.own i a hi with z | ⟨j, z⟩
    · exact ha z
    · exact n j z
  refine ⟨g.ext.trans k.ext, fun a o h n t => k.frm a o (g.frm a o h n t) (no2 a (by rw [h]; simp) n) t, fun a h => g.liv a (k.liv a h), fun a h1 h2 n => k.new a (g.new a h1 h2 n) (fun z => h2 (g.liv a z)) (no2 a h2 n), fun i p h => ?_, fun i ds h => let ⟨d2, h2⟩ := g.iok i ds h; k.iok i d2 h2, g.len.trans k.len⟩
  rcases k.own i p h with z | ⟨j, z⟩
  · exact .inl (g.liv p z)
  · exact g.own j p z
section
variable {K : Fg} {cv : CV} {A : AT} {e : En} {σ : St} {H F : Hp}
theorem Sta.owns (h : Sta K cv A e σ H F) {i : Nat} {p : Addr} (o : Owns e σ i p) : F p = none ∧ ∃ xs, H p = some (.lst xs) := by
  obtain ⟨hs, ds, hd | hd⟩ := o
  · obtain ⟨q, xs, h1, h2, h3, _⟩ := h.slot i _ hd
    rw [hs] at h1; cases h1; exact ⟨h2, xs, h3⟩
  · obtain ⟨xs, h1, h2, h3, _⟩ := h.slot i _ hd
    rw [hs] at h1; cases h1; exact ⟨h2, xs, h3⟩
theorem Sta.noOwn (h : Sta K cv A e σ H F) {p : Addr} (hp : H p = none) : ∀ i, ¬ Owns e σ i p := fun i o => by
  obtain ⟨_, xs, z⟩ := h.owns o
  rw [hp] at z; cases z
theorem Sta.free (h : Sta K cv A e σ H F) {p : Addr} (hp : H p = none) : F p = none := by
  cases z : F p with
  | none => rfl
  | some o => rw [h.sub _ _ z] at hp; cases hp
/-- the slots stand behind a change elsewhere -/
theorem SlotOk.keep {H' F' : Hp} (hs : Sub F F') {i : Nat} {s : SV} (h : SlotOk K A σ H F i s)
    (ho : ∀ p xs, σ[i]? = some (some (.ref p)) → F p = none → H p = some (.lst xs) → LS s → F' p = none ∧ H' p = some (.lst xs)) : SlotOk K A σ H' F' i s := by
  cases s with
  | v d => obtain ⟨x, h1, h2⟩ := h; exact ⟨x, h1, h2.mono hs⟩
  | own ds =>
    obtain ⟨p, xs, h1, h2, h3, h4⟩ := h
    obtain ⟨q1, q2⟩ := ho p xs h1 h2 h3 trivial
    exact ⟨p, xs, h1, q1, q2, h4.mono hs⟩
  | io ds =>
    obtain ⟨xs, h1, h2, h3, h4⟩ := h
    obtain ⟨q1, q2⟩ := ho _ xs h1 h2 h3 trivial
    exact ⟨xs, h1, q1, q2, h4.mono hs⟩
  | th a => exact h
  | fn n => exact h
/-- a new thing that nobody changes -/
theorem Sta.mkT (h : Sta K cv A e σ H F) {p : Addr} (o : HO) (hp : H p = none) (no : NT o := by exact fun _ z => nomatch z) : Sta K cv A e σ (upd H p o) (upd F p o) ∧ Go e σ H F e σ (upd H p o) (upd F p o) := by
  have hF := h.free hp
  refine ⟨⟨fun a u z => ?_, h.len, fun i s z => (h.slot i s z).keep (.new hF) fun q xs _ h2 h3 _ => ?_, h.dist, (h.sx.fast hF no).upd (.inl hp) no⟩, ⟨.new hF, fun a u z _ _ => ?_, fun a z => ?_, fun a z1 z2 _ => ?_, fun i q z => .inr ⟨i, z⟩, fun i ds h => ⟨ds, h⟩, rfl⟩⟩
  · by_cases ha : a = p
    · subst ha; rw [upd_same] at z ⊢; exact z
    · rw [upd_ne ha] at z ⊢; exact h.sub _ _ z
  · have ne : q ≠ p := ne_of_none h3 hp
    rw [upd_ne ne, upd_ne ne]; exact ⟨h2, h3⟩
  · rw [upd_ne (ne_of_none z hp)]; exact z
  · by_cases ha : a = p
    · subst ha; exact hp
    · rw [upd_ne ha] at z; exact z
  · have ne : a ≠ p := by intro q; subst q; exact z2 hp
    rw [upd_ne ne]; exact z1
/-- a new list, not yet anybody's -/
theorem Sta.mkL (h : Sta K cv A e σ H F) {p : Addr} (o : HO) (hp : H p = none) (no : NT o := by exact fun _ z => nomatch z) : Sta K cv A e σ (upd H p o) F ∧ Go e σ H F e σ (upd H p o) F := by
  have hF := h.free hp
  refine ⟨⟨fun a u z => ?_, h.len, fun i s z => (h.slot i s z).keep .refl fun q xs _ h2 h3 _ => ?_, h.dist, h.sx.upd (.inl hp) no⟩, ⟨.refl, fun a u z _ _ => ?_, fun a z => ?_, fun a z1 _ _ => z1, fun i q z => .inr ⟨i, z⟩, fun i ds h => ⟨ds, h⟩, rfl⟩⟩
  · rw [upd_ne (by intro q; subst q; rw [hF] at z; cases z)]; exact h.sub _ _ z
  · have ne : q ≠ p := ne_of_none h3 hp
    rw [upd_ne ne]; exact ⟨h2, h3⟩
  · rw [upd_ne (ne_of_none z hp)]; exact z
  · by_cases ha : a = p
    · subst ha; exact hp
    · rw [upd_ne ha] at z; exact z
end
/-- what an outcome stands for: base H0 -/
def Rv (K : Fg) (H0 : Hp) (e : En) (σ : St) (H F : Hp) (x : L2.V) : RV → Prop
  | .v d => Rep K F x d
  | .own ds => ∃ p xs, x = .ref p ∧ F p = none ∧ H p = some (.lst xs) ∧ RepL K F xs ds ∧ H0 p = none ∧ ∀ i, ¬ Owns e σ i p
  | .bor i => σ[i]? = some (some x)
/-- what is looked at -/
def Pk (K : Fg) (H F : Hp) (x : L2.V) (d : D) : Prop := Rep K F x d ∨ ∃ p xs ds, x = .ref p ∧ d = .list ds ∧ H p = some (.lst xs) ∧ RepL K F xs ds
section
variable {K : Fg} {cv : CV} {A : AT} {e e' : En} {σ : St} {H H' F F' H0 : Hp} {x : L2.V}
theorem Sta.pk (h : Sta K cv A e σ H F) {r : RV} (rv : Rv K H0 e σ H F x r) {Q : D → Prop} (q : pk e r Q) : ∃ d, Pk K H F x d ∧ Q d ∧ peek e r = some d := by
  unfold DI.pk at q
  cases hp : peek e r with
  | none => rw [hp] at q; exact q.elim
  | some d =>
    rw [hp] at q
    refine ⟨d, ?_, q, rfl⟩
    cases r with
    | v d' => cases hp; exact .inl rv
    | own ds => cases hp; obtain ⟨p, xs, h1, h2, h3, h4, _⟩ := rv; exact .inr ⟨p, xs, ds, h1, rfl, h3, h4⟩
    | bor i =>
      have rv' : σ[i]? = some (some x) := rv
      simp only [peek, DI.slot] at hp
      split at hp
      · rename_i d' he
        cases hp
        obtain ⟨y, h1, h2⟩ := h.slot i _ he
        rw [rv'] at h1; cases h1; exact .inl h2
      · rename_i ds he
        cases hp
        obtain ⟨p, xs, h1, h2, h3, h4⟩ := h.slot i _ he
        rw [rv'] at h1; cases h1; exact .inr ⟨p, xs, ds, rfl, rfl, h3, h4⟩
      · rename_i ds he
        cases hp
        obtain ⟨xs, h1, h2, h3, h4⟩ := h.slot i _ he
        rw [rv'] at h1; cases h1; exact .inr ⟨_, xs, ds, rfl, rfl, h3, h4⟩
      · cases hp
/-- a new list is made fast -/
theorem Sta.fast (h : Sta K cv A e' σ H' F') (g : Go e σ H F e' σ H' F') {p : Addr} {xs : List L2.V} (h0 : H p = none) (hF : F' p = none) (hp : H' p = some (.lst xs)) (no : ∀ i, ¬ Owns e' σ i p) :
    Sta K cv A e' σ H' (upd F' p (.lst xs)) ∧ Go e σ H F e' σ H' (upd F' p (.lst xs)) := by
  refine ⟨⟨fun a u z => ?_, h.len, fun i s z => (h.slot i s z).keep (.new hF) fun q ys h1 h2 h3 hn => ?_, h.dist, h.sx.fast hF nt_lst⟩, ⟨g.ext.trans (.new hF), g.frm, g.liv, fun a z1 z2 n => ?_, g.own, g.iok, g.len⟩⟩
  · by_cases ha : a = p
    · subst ha; rw [upd_same] at z; rw [hp]; exact z
    · rw [upd_ne ha] at z; exact h.sub _ _ z
  · have ne : q ≠ p := by
      intro z'; subst z'
      cases s with
      | v d => exact hn.elim
      | th d => exact hn.elim
      | fn d => exact hn.elim
      | own ds => exact no i ⟨h1, ds, .inl z⟩
      | io ds => exact no i ⟨h1, ds, .inr z⟩
    rw [upd_ne ne]; exact ⟨h2, h3⟩
  · have ne : a ≠ p := by intro q; subst q; exact z2 h0
    rw [upd_ne ne]; exact g.new a z1 z2 n
/-- hold an outcome while other things are reckoned -/
theorem Sta.hold (h : Sta K cv A e' σ H' F') (g : Go e σ H F e' σ H' F') {r : RV} (rv : Rv K H e' σ H' F' x r) :
    ∃ F2, Sta K cv A e' σ H' F2 ∧ Go e σ H F e' σ H' F2 ∧ ∀ e3 H3 F3, Sub F2 F3 → ∀ H9, Rv K H9 e3 σ H3 F3 x (DI.hold r) := by
  cases r with
  | v d => exact ⟨F', h, g, fun e3 H3 F3 s H9 => Rep.mono s rv⟩
  | bor i => exact ⟨F', h, g, fun e3 H3 F3 s H9 => rv⟩
  | own ds =>
    obtain ⟨p, xs, rfl, h2, h3, h4, h5, h6⟩ := rv
    obtain ⟨s1, g1⟩ := h.fast g h5 h2 h3 h6
    exact ⟨_, s1, g1, fun e3 H3 F3 s H9 => .lst (s.rd (.of upd_same)) ((h4.mono (.new h2)).mono s)⟩
theorem Owns.setv {i j : Nat} {p : Addr} {d : D} (o : Owns (e.set i (some (.v d))) σ j p) : Owns e σ j p ∧ j ≠ i := by
  obtain ⟨h1, ds, h2⟩ := o
  by_cases hj : j = i
  · subst hj
    exfalso
    rcases h2 with h2 | h2
    all_goals
      rw [List.getElem?_set] at h2
      simp at h2
  · refine ⟨⟨h1, ds, ?_⟩, hj⟩
    rw [List.getElem?_set_ne (Ne.symm hj)] at h2
    exact h2
/-- settle: data that stays -/
theorem Sta.settle (h : Sta K cv A e' σ H' F') (g : Go e σ H F e' σ H' F') {r : RV} (rv : Rv K H e' σ H' F' x r) {Q : D → En → Prop} (q : settle e' r Q) :
    ∃ d e2 F2, Q d e2 ∧ Sta K cv A e2 σ H' F2 ∧ Go e σ H F e2 σ H' F2 ∧ Rep K F2 x d := by
  cases r with
  | v d => exact ⟨d, e', F', q, h, g, rv⟩
  | own ds =>
    obtain ⟨p, xs, rfl, h2, h3, h4, h5, h6⟩ := rv
    obtain ⟨s1, g1⟩ := h.fast g h5 h2 h3 h6
    exact ⟨_, e', _, q, s1, g1, .lst (.of upd_same) (h4.mono (.new h2))⟩
  | bor i =>
    have rv' : σ[i]? = some (some x) := rv
    unfold DI.settle at q
    simp only at q
    split at q
    · rename_i d he
      obtain ⟨y, h1, h2⟩ := h.slot i _ he
      rw [rv'] at h1; cases h1; exact ⟨d, e', F', q, h, g, h2⟩
    · rename_i ds he
      rw [nrm_iff] at q
      obtain ⟨p, xs, h1, h2, h3, h4⟩ := h.slot i _ he
      rw [rv'] at h1; cases h1
      have hi : i < e'.length := by
        rcases Nat.lt_or_ge i e'.length with z | z
        · exact z
        · rw [List.getElem?_eq_none z] at he; cases he
      have own_i : Owns e' σ i p := ⟨rv', ds, .inl he⟩
      refine ⟨.list ds, _, upd F' p (.lst xs), q, ⟨fun a u z => ?_, by rw [List.length_set]; exact h.len, fun j s z => ?_, fun j k q' o1 o2 => h.dist j k q' o1.setv.1 o2.setv.1, h.sx.fast h2 nt_lst⟩, ⟨g.ext.trans (.new h2), g.frm, g.liv, fun a z1 z2 n => ?_, fun j q' o => g.own j q' o.setv.1, fun j ds' w => ?_, by rw [List.length_set]; exact g.len⟩, .lst (.of upd_same) (h4.mono (.new h2))⟩
      · by_cases ha : a = p
        · subst ha; rw [upd_same] at z; rw [h3]; exact z
        · rw [upd_ne ha] at z; exact h.sub _ _ z
      · by_cases hj : j = i
        · subst hj
          rw [List.getElem?_set_self hi] at z
          cases z
          exact ⟨.ref p, rv', .lst (.of upd_same) (h4.mono (.new h2))⟩
        · rw [List.getElem?_set_ne (Ne.symm hj)] at z
          refine (h.slot j s z).keep (.new h2) fun q' ys w1 w2 w3 hn => ?_
          have ne : q' ≠ p := by
            intro z'; subst z'
            have o2 : Owns e' σ j q' := by
              cases s with
              | v d => exact hn.elim
              | th d => exact hn.elim
              | fn d => exact hn.elim
              | own ds' => exact ⟨w1, ds', .inl z⟩
              | io ds' => exact ⟨w1, ds', .inr z⟩
            exact hj (h.dist j i q' o2 own_i)
          rw [upd_ne ne]; exact ⟨w2, w3⟩
      · have ne : a ≠ p := by
          intro z'; subst z'
          rcases g.own i a own_i with w | ⟨j, w⟩
          · exact z2 w
          · exact n j w
        rw [upd_ne ne]; exact g.new a z1 z2 n
      · obtain ⟨d2, w2⟩ := g.iok j ds' w
        refine ⟨d2, ?_⟩
        rw [List.getElem?_set_ne]
        · exact w2
        · rintro rfl; rw [he] at w2; cases w2
    · exact q.elim
end
end DI
namespace DI
open PySem L2 PySem.SeqAt
open PyProof.Rows hiding St
open AutoSeq1 (wpAny_loadPart')
open MeetsSeq
theorem str_declines_dict (b : Str) (u : Tok) (l : Addr) (es : Array DictEntry) (n : Nat) (dd : Option Addr) (sl : Array (Option Value)) :
    Meets (Builtin.«str.__eq__» ⟨[.str b u, .ref l], []⟩) (fun _ R s => s.heap.get? l = some { cls := .type "dict", dict := dd, data := .dict es n, slots := sl } ∧ R (.ok (.ret .notImplemented)) s) :=
  .of_wp fun prog w A R s h => by
    obtain ⟨hp, g, d, tk, os⟩ := s
    obtain ⟨hl, h⟩ := h
    wp_walk using wpAny_loadPart' hl, wpAny_load hl
    exact ⟨_, rfl, h⟩
theorem dict_declines_str (b : Str) (u : Tok) (l : Addr) (es : Array DictEntry) (n : Nat) (dd : Option Addr) (sl : Array (Option Value)) :
    Meets (Builtin.«dict.__eq__» ⟨[.ref l, .str b u], []⟩) (fun _ R s => s.heap.get? l = some { cls := .type "dict", dict := dd, data := .dict es n, slots := sl } ∧ R (.ok (.ret .notImplemented)) s) :=
  .of_wp fun prog w A R s h => by
    obtain ⟨hp, g, d, tk, os⟩ := s
    obtain ⟨hl, h⟩ := h
    have f1 := F.sub_str_dict
    wp_walk using wpAny_loadPart' hl, wpAny_load hl
    exact ⟨_, rfl, h⟩
theorem eqAt_str_dict {A : Around} {s : Shared} {l : Addr} {es : Array DictEntry} {n : Nat} {dd : Option Addr} {sl : Array (Option Value)} (b : Str) (u : Tok) (ho : s.heap.get? l = some { cls := .type "dict", dict := dd, data := .dict es n, slots := sl }) (hu : A.units < cLine) : EqAt A s (.str b u) (.ref l) false := fun prog w E Q h => by
  unfold eqBool
  refine wpAny_holding ?_
  refine wpAny_ite_split (fun z => absurd (eq_of_beq z) nofun) (fun _ => ?_)
  refine wpAny_bind (rc_eq_decline_or (k := false) (typeIs_str s b u) ⟨_, ho, rfl⟩ (by decide) F.sub_dict_str F.slot_str_eq F.slot_dict_eq_refl
    (fun _ q => call_meets F.slot_str_eq (typeIs_str s b u) F.entry_str_eq (F.args_str_eq_2 _ _) (str_declines_dict b u l es n dd sl) ⟨ho, q⟩)
    (fun _ q => call_meets F.slot_dict_eq_refl ⟨_, ho, rfl⟩ F.entry_dict_eq (F.args_dict_eq_2 _ _) (dict_declines_str b u l es n dd sl) ⟨ho, q⟩)
    (fun _ q => wpAny_of_eq (rfl : isSame (.str b u) (.ref l) = pure false) q) (.inr hu) (wpAny_truthy_bool h))
section
variable {X : Cx}
theorem strs_vals {K : Fg} {H : Hp} : ∀ {vs : List L2.V} {ds : List D} {us : List Value}, RepL K H vs ds → Vals vs us → ds.all isStrD = true → ∀ y ∈ us, ∃ b t, y = .str b t
  | [], _, _, .nil, .nil, _, y, h => absurd h List.not_mem_nil
  | v :: vs, d :: ds, u :: us, .cons r1 r2, .cons q1 q2, h, y, hy => by
    rw [List.all_cons, Bool.and_eq_true] at h
    rcases List.mem_cons.mp hy with e | hy
    · subst e
      cases r1 with
      | str x => obtain ⟨t, e⟩ := q1; exact ⟨x, t, e⟩
      | _ => cases h.1
    · exact strs_vals r2 q2 h.2 y hy
theorem in_dict (hu : X.A.units + 65 < cLine) : OpR X (compareOp .In) (fun x y H Q => ∃ (a : Addr) (xs : List D), x = .ref a ∧ H a = some (.dK []) ∧ Rep X.K H y (.list xs) ∧ xs.all isStrD = true ∧ Q (.bl false) H) := by
  intro pins s σ H x y v u Q I rx ry ⟨a, xs, e, hd, he, hs, q⟩
  subst e
  cases rx
  cases he with
  | lsq hq hr =>
    rename_i b vs
    cases ry
    obtain ⟨its, rv, hl, _⟩ := I.list hq
    obtain ⟨_, _, _, _, o, es, ep, ho, ⟨h1, h2, h3⟩, h4, _⟩ := I.hok a _ hd
    obtain ⟨cls, dd, data, sl⟩ := o
    dsimp only at h1 h2 h3 h4
    subst h1 h4
    have k : ∀ y, y ∈ its.toArray → EqAt X.A.in1 s y (.ref a) false := fun y hy => by
      obtain ⟨z, t, e⟩ := strs_vals hr rv hs y (by simpa using hy)
      subst e
      exact eqAt_str_dict z t ho (by show X.A.units + 1 < cLine; omega)
    refine in_listAt (fun _ => false) hl.isList k ?_
    refine ⟨.bl _, H, I, rfl, ?_⟩
    have e0 : its.toArray.any (fun _ => false) = false := by
      rw [Array.any_eq_false]; intros; simp
    rw [e0]; exact q
end
end DI
namespace DI
open PySem L2 PySem.Spec
open PyProof.Rows hiding St
theorem exK_ok {P : Program} {w : World} {H : Hp} {h : Heap} {a : Addr} {cls : Value} {d : Option Addr} {oe : Obj} {vs : Array Value} (e : h.get? a = some oe) (z : Zc cls d oe) (q : oe.data = .fields vs) : ObjOk P w H h a (ExK cls d a) :=
  ⟨⟨oe, e, z, vs, q⟩, ⟨oe, e⟩, fun _ _ ⟨o, e1, r⟩ k => ⟨o, k o e1, r⟩⟩
section
variable {X : Cx} {pins : List (Addr × Obj)} {σ : L2.St} {H : Hp} {s : Shared}
/-- a thing that was made since the entry is tracked from here on -/
theorem track {a : Addr} {o : HO} (I : Inv X pins σ H s) (hn : H a = none) (new : ObjOk X.prog X.w (upd H a o) s.heap a o) (h0 : X.s_0.heap.get? a = none) (nL : X.env.locals ≠ a) (nC : ∀ x c, X.env.cells.lookup x = some c → c ≠ a) (nP : ∀ p ∈ X.pn ++ pins, p.1 ≠ a) : Inv X pins σ (upd H a o) s where
  ok := I.ok
  os := I.os
  bare := I.bare
  base := ⟨I.base.keep, I.base.slot, fun b ob e n x => by
      have ne : b ≠ a := by rintro rfl; rw [h0] at e; cases e
      rw [upd_ne ne]; exact I.base.free b ob e n x, I.base.there, fun b xs e => by
      have q := I.base.tups b xs e
      exact (upd_ne (ne_of_none q hn)).trans q, fun b ob u e => by
      have q := I.base.frzs b ob u e
      exact (upd_ne (ne_of_none q hn)).trans q, fun b ps e => by
      obtain ⟨m, q⟩ := I.base.tbls b ps e
      exact ⟨m, (upd_ne (ne_of_none q hn)).trans q⟩⟩
  loc := I.loc
  cell := I.cell
  free := (upd_ne nL).trans I.free
  freeC := fun x c e => (upd_ne (nC x c e)).trans (I.freeC x c e)
  pin := fun p hp => let ⟨a1, a2, a3⟩ := I.pin p hp; ⟨a1, (upd_ne (nP p hp)).trans a2, a3⟩
  hok := fun b u e => by
    by_cases hb : b = a
    · subst hb
      rw [upd_same] at e
      cases e; exact new
    · rw [upd_ne hb] at e
      have ne : ∀ {c : Addr} {u : HO}, H c = some u → c ≠ a := fun {c u} q z => by subst z; rw [hn] at q; cases q
      exact (I.hok b u e).stay (fun _ _ _ q => q) (fun c q => (upd_ne (ne q)).trans q) (fun c xs q => (upd_ne (ne q)).trans q)
  len := I.len
theorem toSui (I : Inv X pins σ H s) (a : Addr) : Inv (X.suite a (X.pn ++ pins)) [] σ H s :=
  ⟨I.ok.suite _ _, I.os, I.bare, I.base, I.loc, I.cell, I.free, I.freeC, fun p m => I.pin p (by simpa using m), I.hok, I.len⟩
theorem ofSui {a : Addr} {pn' : List (Addr × Obj)} (I : Inv (X.suite a (X.pn ++ pins)) pn' σ H s) (ok : X.Ok) : Inv X pins σ H s :=
  ⟨ok, I.os, I.bare, I.base, I.loc, I.cell, I.free, I.freeC, fun p m => I.pin p (List.mem_append_left pn' m), I.hok, I.len⟩
end
/-- behind a clause: the name's slot is empty -/
def goneE (D : Ends) (i : Nat) : Ends := { nx := fun σ H => D.nx (σ.set i none) H, rt := D.rt, bk := fun σ H => D.bk (σ.set i none) H, ct := fun σ H => D.ct (σ.set i none) H }
/-- what a clause does with an exception of the class cls -/
def clT (D : Ends) (a : Addr) (cls : Value) (d : Option Addr) : Option Nat → TS → L2.St → Hp → Prop
  | none, ts, σ, H => ts D σ (upd H a (ExK cls d a))
  | some i, ts, σ, H => ts (goneE D i) (σ.set i (some (.ref a))) (upd H a (ExK cls d a))
/-- what clauses wish of an exception -/
def wCl (K : PySem.W.Frag) (Wout : WX) (D : Ends) : List (Value × Option Nat × TS) → WX
  | [] => Wout
  | (c, oi, ts) :: r => fun cls d σ H => ∃ b, PySem.W.exmOne K cls c = some b ∧ (b = true → ∀ a, H a = none → clT D a cls d oi ts σ H) ∧ (b = false → wCl K Wout D r cls d σ H)
inductive ClOk (X : Cx) : List ExceptHandler → List (Value × Option Nat × TS) → Prop
  | nil : ClOk X [] []
  | one {x : Str} {c : Value} {ts : TS} {b₀ : Stmt} {su : List Stmt} {p1 p2 : Pos} {hds : List ExceptHandler} {l : List (Value × Option Nat × TS)} (hc : Names X x c) (hsu : ∀ (a : Addr) (pn : List (Addr × Obj)), PSs (X.suite a pn) (b₀ :: su) ts) (r : ClOk X hds l) :
      ClOk X (.ExceptHandler (some (.Name x p1)) none (b₀ :: su) p2 :: hds) ((c, none, ts) :: l)
  | as {x n : Str} {c : Value} {i : Nat} {ts : TS} {b₀ : Stmt} {su : List Stmt} {p1 p2 : Pos} {hds : List ExceptHandler} {l : List (Value × Option Nat × TS)} (hc : Names X x c) (hi : X.N[i]? = some n) (hl : X.env.kindOf n = some .local)
      (hsu : ∀ (a : Addr) (pn : List (Addr × Obj)), PSs (X.suite a pn) (b₀ :: su) ts) (r : ClOk X hds l) : ClOk X (.ExceptHandler (some (.Name x p1)) (some n) (b₀ :: su) p2 :: hds) ((c, some i, ts) :: l)
/-- all that is known where an exception has landed -/
structure Landed (X : Cx) (pins : List (Addr × Obj)) (σ : L2.St) (H : Hp) (s : Shared) (B : Heap) (a : Addr) (cls : Value) (d : Option Addr) (h3 : Heap) : Prop where
  fl : HandSPX.FlyingZ B (X.env :: X.outer) a (Zc cls d) h3
  up : s.heap.UpToSlots h3
  inv : ∀ h, HandSPX.FlyingZ B (X.env :: X.outer) a (Zc cls d) h → s.heap.UpToSlots h → Inv X pins σ H { s with heap := h }
  na : H a = none
  h0 : X.s_0.heap.get? a = none
  nL : X.env.locals ≠ a
  nP : ∀ p ∈ X.pn ++ pins, p.1 ≠ a
theorem Landed.tracked {X : Cx} {pins : List (Addr × Obj)} {σ : L2.St} {H : Hp} {s : Shared} {B : Heap} {a : Addr} {cls : Value} {d : Option Addr} {h3 : Heap} (L : Landed X pins σ H s B a cls d h3) {h : Heap} (fl : HandSPX.FlyingZ B (X.env :: X.outer) a (Zc cls d) h) (up : s.heap.UpToSlots h) : Inv X pins σ (upd H a (ExK cls d a)) { s with heap := h } := by
  have J := L.inv h fl up
  obtain ⟨oe, vs, e1, e2, e3⟩ := fl.there
  refine track J L.na (exK_ok e1 e2 e3) L.h0 L.nL (fun x c q z => ?_) L.nP
  obtain ⟨v, o, w1, w2⟩ := J.cell x c q
  subst z
  have w1 : h.get? c = some o := w1
  rw [e1] at w1; cases w1
  rw [e3] at w2; cases w2
section
variable {X : Cx} {D : Ends} {Wout : WX} {pins : List (Addr × Obj)} {σ : L2.St} {H : Hp} {s : Shared} {B : Heap} {a : Addr} {cls : Value} {d : Option Addr} {h3 : Heap}
theorem endsSui {f : Flow} {s6 : Shared} (ok : X.Ok) (q : SP (X.suite a (X.pn ++ pins)) [] D f s6) : SP X pins D f s6 := by
  cases f with
  | next => obtain ⟨σ6, H6, S6, q6⟩ := q; exact ⟨σ6, H6, ofSui S6 ok, q6⟩
  | brk => obtain ⟨σ6, H6, S6, q6⟩ := q; exact ⟨σ6, H6, ofSui S6 ok, q6⟩
  | cont => obtain ⟨σ6, H6, S6, q6⟩ := q; exact ⟨σ6, H6, ofSui S6 ok, q6⟩
  | ret u => obtain ⟨v6, σ6, H6, S6, r6, q6⟩ := q; exact ⟨v6, σ6, H6, ofSui S6 ok, r6, q6⟩
theorem endsGone {A' : Around} {E : Value → Shared → Prop} {i : Nat} {n : Str} {p2 : Pos} {f : Flow} {s6 : Shared} (ok : X.Ok) (hN : X.N.Nodup) (hi : X.N[i]? = some n) (hl : X.env.kindOf n = some .local) (q : SP (X.suite a (X.pn ++ pins)) [] (goneE D i) f s6) :
    wpAny (model X.prog X.w) A' (do bindName X.env n .none; unbindBehindTheSuite X.env n p2) (fun _ s7 => SP X pins D f s7) E s6 := by
  cases f with
  | next => obtain ⟨σ6, H6, S6, q6⟩ := q; exact gone_ok (ofSui S6 ok) hN hi hl fun s7 J7 => ⟨_, _, J7, q6⟩
  | brk => obtain ⟨σ6, H6, S6, q6⟩ := q; exact gone_ok (ofSui S6 ok) hN hi hl fun s7 J7 => ⟨_, _, J7, q6⟩
  | cont => obtain ⟨σ6, H6, S6, q6⟩ := q; exact gone_ok (ofSui S6 ok) hN hi hl fun s7 J7 => ⟨_, _, J7, q6⟩
  | ret u => obtain ⟨v6, σ6, H6, S6, r6, q6⟩ := q; exact gone_ok (ofSui S6 ok) hN hi hl fun s7 J7 => ⟨_, _, _, J7, r6, q6⟩
/-- the test of a clause -/
theorem clTest {x : Str} {c : Value} {b : Bool} {p1 : Pos} {Q : Bool → Shared → Prop} {E1 E2 : Value → Shared → Prop} (L : Landed X pins σ H s B a cls d h3) (hc : Names X x c) (hb : PySem.W.exmOne X.K cls c = some b) (q : Q b { s with heap := h3 }) :
    wpAny (model X.prog X.w) (X.A.mark (some (.ref a))) (eval (.Name x p1) X.env) (fun c s1 => wpAny (model X.prog X.w) (X.A.mark (some (.ref a))) (excMatches (.ref a) c) Q E2 s1) E1 { s with heap := h3 } := by
  have J := L.inv h3 L.fl L.up
  obtain ⟨oe, vs, e1, e2, e3⟩ := L.fl.there
  have ty : PySem.W.Looks (model X.prog X.w) h3 (typeOf (.ref a)) cls := fun _ _ _ _ k q => wpAny_typeOf_ref (k _ _ e1) (by rw [e2.1]; exact q)
  have lk := PySem.W.exm_one (M := model X.prog X.w) J.kIn ty hb
  obtain ⟨hg, hd, hm | ⟨hm, hv, hn⟩⟩ := hc
  · exact ld_glob (X := X.suite a (X.pn ++ pins)) (toSui J a) hg hm (lk.here q) hd
  · exact ld_blt (X := X.suite a (X.pn ++ pins)) (toSui J a) hg hm hv (lk.here q) hn hd
theorem clauses {hds : List ExceptHandler} {l : List (Value × Option Nat × TS)} (ok : X.Ok) (hN : X.N.Nodup) (L : Landed X pins σ H s B a cls d h3) (pass : Wout cls d σ H → wpAny (model X.prog X.w) X.A (handleBy (.ref a) X.env []) (SP X pins D) X.xe { s with heap := h3 })
    (hk : ClOk X hds l) (w : wCl X.K Wout D l cls d σ H) : wpAny (model X.prog X.w) X.A (handleBy (.ref a) X.env hds) (SP X pins D) X.xe { s with heap := h3 } := by
  induction hk with
  | nil => exact pass w
  | one hc hsu r ih =>
    obtain ⟨b, e1, yes, no⟩ := w
    refine wpAny_handleBy_cons (codeAny_handlers_test (clTest L hc e1 ?_)) nofun
    cases b with
    | false => exact ih (no rfl)
    | true =>
      refine codeAny_handlers_suite (HandSPX.lands_againZ L.fl fun h4 fl4 up4 => ?_)
      have T := L.tracked fl4 (L.up.trans up4)
      refine wpAny_mono ((hsu a (X.pn ++ pins)).run [] _ _ _ D (toSui T a) (yes rfl a L.na)) (fun f s6 q => ?_) (fun _ _ z => z.elim)
      exact endsSui ok q
  | as hc hi hl hsu r ih =>
    obtain ⟨b, e1, yes, no⟩ := w
    refine wpAny_handleBy_cons (codeAny_handlers_test (clTest L hc e1 ?_)) nofun
    cases b with
    | false => exact ih (no rfl)
    | true =>
      refine codeAny_handlers_suite_as (HandSPX.lands_againZ L.fl fun h4 fl4 up4 => ?_)
      have T := L.tracked fl4 (L.up.trans up4)
      refine store_ok (X := X.suite a (X.pn ++ pins)) (v := .ref a) (toSui T a) hN hi (.inl hl) rfl (fun s5 S5 => ?_) (.inr hl)
      refine wpAny_mono ((hsu a (X.pn ++ pins)).run [] s5 _ _ (goneE D _) S5 (yes rfl a L.na)) (fun f s6 q => ?_) (fun _ _ z => z.elim)
      exact endsGone ok hN hi hl q
theorem passUp (L : Landed X pins σ H s B a cls d h3) (hf : X.env.frame = some X.env.locals) (up : ∀ h4, HandSPX.HeldZ B (X.env :: X.outer) a (Zc cls d) X.env.locals h4 → h3.UpToSlots h4 → X.xe (.ref a) { s with heap := h4 }) :
    wpAny (model X.prog X.w) X.A (handleBy (.ref a) X.env []) (SP X pins D) X.xe { s with heap := h3 } := by
  obtain ⟨k1, k2, k3, oe, vs, T, oT, tr, e1, e2, e3, e4, r⟩ := id L.fl
  refine wpAny_handleBy_nil ?_
  unfold PySem.passOn
  refine wpAny_bind (wpAny_field e1 e3 e4 ?_)
  rw [if_neg (show ¬ (Value.ref T == Value.none) = true by simp)]
  have last : wpAny (model X.prog X.w) X.A (setFlight (.ref a) X.env.frame) (fun _ s4 => wpAny (model X.prog X.w) X.A (throw (.ref a) : Sem Flow) (SP X pins D) X.xe s4) X.xe { s with heap := h3 } := by
    rw [hf]
    exact HandSPX.setFlight_upZ L.fl fun h4 held u => wpAny_throw (up h4 held u)
  first
    | exact wpAny_bind (wpAny_pure (wpAny_bind last))
    | exact wpAny_bind last
end
/-- try: .. except C: .. except C as e: .. -/
theorem ps_try_cl {X : Cx} {body : List Stmt} {h₀ : ExceptHandler} {hds : List ExceptHandler} {l : List (Value × Option Nat × TS)} {pos : Pos} {tb : WX → TS} {Wout : WX} (hs : X.stack = X.env :: X.outer) (hf : X.env.frame = some X.env.locals) (hN : X.N.Nodup) (hx : X.ex = []) (tk : Takes X Wout)
    (hb : ∀ (W : WX) (pn : List (Addr × Obj)) (xe : Value → Shared → Prop), Takes (X.tr pn xe) W → PassesOwn (model X.prog X.w) X.A X.env xe → PSs (X.tr pn xe) body (tb W)) (hk : ClOk X (h₀ :: hds) l) :
    PS X (.Try body (h₀ :: hds) [] [] pos) (fun D σ H => tb (wCl X.K Wout D l) D σ H) := by
  refine ⟨fun pins s σ H D I h => wpAny_Try_except (wpAny_mono ((hb (wCl X.K Wout D l) (X.pn ++ pins) _ (fun u s' xx => ?_) PassesOwn.looking).run [] s σ H D (I.toTry _) h) (fun f s1 q => ?_) (fun _ _ z => z))⟩
  · obtain ⟨a, B, sI, pins', σ', H', cls, d, e0, J0, nb, up, sky, na, os, ag, w⟩ := xx
    subst e0
    have J : Inv X pins σ' H' sI := J0.ofTry I.ok
    have sky1 : Sky B (X.env :: X.outer) a (Zc cls d) X.env.locals s'.heap := by rw [← hs]; exact sky
    refine Sky.land Zc.steady (by rw [I.ok.frames, hs]) hf sky1 fun h3 fl3 up3 => ?_
    obtain ⟨oe, vs, e1, e2, e3⟩ := fl3.there
    have nfr : a ∉ frs (X.env :: X.outer) := fun m => by
      obtain ⟨_, o, q, nf⟩ := fl3.2.2.1.mem m
      rw [e1] at q; cases q
      exact nf _ e3
    have nI : sI.heap.get? a = none := by
      cases q : sI.heap.get? a with
      | none => rfl
      | some o =>
        have z := nb a o q (by rw [hs]; exact nfr)
        rw [fl3.2.1] at z; cases z
    have L : Landed X pins σ' H' s' B a cls d h3 := {
      fl := fl3
      up := up3
      inv := fun h fl u => J.landed nb fl.1 (up.trans u) os ag
      na := na
      h0 := by
        cases q : X.s_0.heap.get? a with
        | none => rfl
        | some o =>
          obtain ⟨o2, z⟩ := J.base.there a o q (by rw [hx]; exact List.not_mem_nil)
          rw [nI] at z; cases z
      nL := fun z => nfr (List.mem_filterMap.mpr ⟨X.env, List.mem_cons_self, by rw [hf, z]⟩)
      nP := fun p m z => by
        have q := (J.pin p m).1
        rw [z, nI] at q; cases q }
    exact clauses I.ok hN L (fun wo => passUp L hf fun h4 held u => tk _ _ ⟨a, B, sI, pins, σ', H', cls, d, rfl, J, nb, (up.trans up3).trans u, .inr (.inr (by rw [hs]; exact held)), na, os, ag, wo⟩) hk w
  · cases f with
    | next => obtain ⟨σ1, H1, J1, q1⟩ := q; exact wpAny_execs_nil ⟨σ1, H1, J1.ofTry I.ok, q1⟩
    | brk => obtain ⟨σ1, H1, J1, q1⟩ := q; exact ⟨σ1, H1, J1.ofTry I.ok, q1⟩
    | cont => obtain ⟨σ1, H1, J1, q1⟩ := q; exact ⟨σ1, H1, J1.ofTry I.ok, q1⟩
    | ret u => obtain ⟨v1, σ1, H1, J1, r1, q1⟩ := q; exact ⟨v1, σ1, H1, J1.ofTry I.ok, r1, q1⟩
end DI
namespace DI
open PySem L2
open PyProof.Rows hiding St
section
variable {X : Cx} {es : List Expr} {pos : Pos} {t : TA}
theorem laidF {pins : List (Addr × Obj)} {σ : L2.St} {H : Hp} {s : Shared} {h' : Heap} {tk : Nat} {its : List Value} {xs : List L2.V} (I : Inv X pins σ H s) (k : ∀ b o, s.heap.get? b = some o → h'.get? b = some o) (hz : xs.length ≤ sizeLine) (r : Vals xs its) :
    Inv X pins σ (upd H h'.objs.size (.frz { cls := .type "tuple", data := .seq its.toArray } (.tup xs))) { s with heap := h'.push { cls := .type "tuple", data := .seq its.toArray }, toks := tk } :=
  (I.kept (t' := s.toks) k).laid (t' := tk) (o := .frz { cls := .type "tuple", data := .seq its.toArray } (.tup xs)) (fun b o e => Heap.get?_push_of_some _ e) (Nat.le_refl _) ⟨Heap.get?_push_size _ rfl, hz, its, r, ⟨_, Heap.get?_push_size _ rfl, rfl, _, rfl⟩⟩
def tTupN (t : TA) : TE := fun σ H Q => t σ H fun xs H1 => xs.length ≤ sizeLine ∧ ∀ p ob, ob.dict = none → H1 p = none → Q (.ref p) (upd H1 p (.frz ob (.tup xs)))
theorem pe_tupN {x1 : Nat} (h : PA X es t) : PE X (.Tuple es x1 pos) (tTupN t) := by
  refine ⟨fun pins s σ H Q I hq => ?_⟩
  refine wpAny_Tuple_spliced (thn (h.run pos pins s σ H _ I hq) fun us s1 ⟨xs, H1, I1, r, z, q⟩ => ⟨by rw [← r.length]; exact z, ?_⟩)
  have hf : H1 s1.heap.objs.size = none := I1.hok.fresh (Nat.le_refl _)
  exact ⟨.ref s1.heap.objs.size, _, laidF (tk := s1.toks) I1 (fun _ _ e => e) z r, rfl, q _ _ rfl hf⟩
def rCatN (K : Fg) : R2 := fun x y H Q => ∃ a b xs ys, x = .ref a ∧ y = .ref b ∧ SqT K H a xs ∧ SqT K H b ys ∧ xs.length + ys.length ≤ sizeLine ∧
  (xs = [] → Q (.ref b) H) ∧ (xs ≠ [] → ys = [] → Q (.ref a) H) ∧ (xs ≠ [] → ys ≠ [] → ∀ p ob, ob.dict = none → H p = none → Q (.ref p) (upd H p (.frz ob (.tup (xs ++ ys)))))
theorem op_catN : OpR X (binaryOp .Add) (rCatN X.K) := by
  intro pins s σ H x y v u Q I rx ry ⟨a, b, xs, ys, ex, ey, ha, hb, hz, q0, q1, q2⟩
  subst ex ey
  cases rx
  cases ry
  obtain ⟨its, r1, p1, _⟩ := I.tuple ha
  obtain ⟨its2, r2, p2, _⟩ := I.tuple hb
  by_cases hx : xs = []
  · subst hx
    cases r1
    exact cat_tup0 p1 p2 ⟨.ref b, H, I, rfl, q0 rfl⟩
  · refine HT.cat_tup p1 p2 (fun z => hx (r1.nil_iff.mp z)) (fun z => ⟨.ref a, H, I, rfl, q1 hx (r2.nil_iff.mp z)⟩) (fun z => ?_) (by rw [← r1.length, ← r2.length]; exact hz)
    exact ⟨.ref s.heap.objs.size, _, laidF (tk := s.toks) I (fun _ _ e => e) (by rw [List.length_append]; exact hz) (r1.append r2), rfl, q2 hx (fun w => z (r2.nil_iff.mpr w)) _ _ rfl (I.hok.fresh (Nat.le_refl _))⟩
def rSlN (K : Fg) : L2.V → Option Int → Option Int → Hp → VK → Prop := fun x lo hi H Q => ∃ a xs, x = .ref a ∧ SqT K H a xs ∧
  (HT.sIx xs.length 0 lo = 0 ∧ HT.sIx xs.length xs.length hi = xs.length → Q (.ref a) H) ∧ (¬ (HT.sIx xs.length 0 lo = 0 ∧ HT.sIx xs.length xs.length hi = xs.length) → ∀ p ob, ob.dict = none → H p = none → Q (.ref p) (upd H p (.frz ob (.tup (cutV xs lo hi)))))
theorem sl_tupN : SlR X (rSlN X.K) := by
  intro pins s σ H x v vl vu lo hi sl Q I rx hs pl pu ⟨a, xs, ex, hx, q1, q2⟩
  subst ex
  cases rx
  obtain ⟨its, r, ht, hz⟩ := I.tuple hx
  have hlen : its.toArray.size = xs.length := by rw [List.size_toArray]; exact r.length.symm
  refine ⟨"tuple", _, PyProof.Rows.slot_tuple_getitem.lookup, ht.typeIs, ?_⟩
  by_cases hw : HT.sIx xs.length 0 lo = 0 ∧ HT.sIx xs.length xs.length hi = xs.length
  · exact getItem_tuple_whole ht hs pl pu (by rw [hlen]; exact hw) ⟨.ref a, H, I, rfl, q1 hw⟩
  · refine HT.getItem_tuple_cut ht hs pl pu (by rw [hlen]; exact hw) ?_ (by rw [hlen]; exact hz)
    rw [hlen]
    exact ⟨.ref s.heap.objs.size, _, laidF (tk := s.toks) (xs := cutV xs lo hi) I (fun _ _ e => e) (Nat.le_trans (cutV_length xs lo hi) hz) ((r.drop (HT.sIx xs.length 0 lo)).take (HT.sIx xs.length xs.length hi - HT.sIx xs.length 0 lo)), rfl, q2 hw _ _ rfl (I.hok.fresh (Nat.le_refl _))⟩
theorem call_tupleN : CallR X (.type "tuple") (fun xs H Q => ∃ p ys, xs = [.ref p] ∧ ((SqL X.K H p ys ∧ ∀ l ob, ob.dict = none → H l = none → Q (.ref l) (upd H l (.frz ob (.tup ys)))) ∨ (SqT X.K H p ys ∧ Q (.ref p) H))) := by
  intro pins s σ H xs us Q I r ⟨p, ys, ex, h⟩
  subst ex
  obtain ⟨u, rfl, rx⟩ := vals1 r
  cases rx
  rcases h with ⟨hq, q⟩ | ⟨hq, q⟩
  · obtain ⟨its, r', pl, hz⟩ := I.list hq
    have hlen := r'.length
    refine call_tuple_list pl.isList (fun h' kp => ?_) (by simp only [List.size_toArray] <;> omega)
    exact ⟨.ref h'.objs.size, _, laidF (tk := s.toks) I kp hz r', rfl, q _ _ rfl ((I.kept (t' := s.toks) kp).hok.fresh (Nat.le_refl _))⟩
  · obtain ⟨its, r', pl, hz⟩ := I.tuple hq
    exact call_tuple_same pl ⟨.ref p, H, I, rfl, q⟩
end
end DI
namespace DI
open PySem L2
open PyProof.Rows hiding St
/-- a two-place operation, by what it needs -/
def so2 (X : Cx) (f : Value → Value → Sem Value) : R2 := fun x y H Q => ∀ (pins : List (Addr × Obj)) (s : Shared) (σ : St) (v u : Value), Inv X pins σ H s → RelV x v → RelV y u → wpAny (model X.prog X.w) X.A (f v u) (EP X pins σ Q) X.xe s
theorem so2_ok {X : Cx} {f : Value → Value → Sem Value} : OpR X f (so2 X f) := fun pins s σ H x y v u Q I rx ry h => h pins s σ v u I rx ry
theorem so2_of {X : Cx} {f : Value → Value → Sem Value} {r : R2} {x y : L2.V} {H : Hp} {Q : VK} (o : OpR X f r) (h : r x y H Q) : so2 X f x y H Q := fun pins s σ v u I rx ry => o pins s σ H x y v u Q I rx ry h
def soC (X : Cx) (f : Value) : List L2.V → Hp → VK → Prop := fun xs H Q => ∀ (pins : List (Addr × Obj)) (s : Shared) (σ : St) (us : List Value), Inv X pins σ H s → Vals xs us → wpAny (model X.prog X.w) X.A (call f us) (EP X pins σ Q) X.xe s
theorem soC_ok {X : Cx} {f : Value} : CallR X f (soC X f) := fun pins s σ H xs us Q I r h => h pins s σ us I r
theorem soC_of {X : Cx} {f : Value} {r : List L2.V → Hp → VK → Prop} {xs : List L2.V} {H : Hp} {Q : VK} (o : CallR X f r) (h : r xs H Q) : soC X f xs H Q := fun pins s σ us I rx => o pins s σ H xs us Q I rx h
/-- what an operation leaves -/
inductive Res (K : Fg) (H F : Hp) : RV → L2.V → Hp → Hp → Prop
  | same {d : D} {v : L2.V} (h : Rep K F v d) : Res K H F (.v d) v H F
  | tup {p : Addr} {ob : Obj} {vs : List L2.V} {ds : List D} (hd : ob.dict = none) (hp : H p = none) (h : RepL K F vs ds) : Res K H F (.v (.tuple ds)) (.ref p) (upd H p (.frz ob (.tup vs))) (upd F p (.frz ob (.tup vs)))
  | lst {p : Addr} {vs : List L2.V} {ds : List D} (hp : H p = none) (h : RepL K F vs ds) : Res K H F (.own ds) (.ref p) (upd H p (.lst vs)) F
theorem Sta.res {K : Fg} {cv : CV} {A : AT} {e0 e : En} {σ : St} {H0 F0 H F H' F' : Hp} {r : RV} {v : L2.V} (h : Sta K cv A e σ H F) (g : Go e0 σ H0 F0 e σ H F) (q : Res K H F r v H' F') :
    Sta K cv A e σ H' F' ∧ Go e0 σ H0 F0 e σ H' F' ∧ Rv K H0 e σ H' F' v r := by
  cases q with
  | same hr => exact ⟨h, g, hr⟩
  | tup hd hp hr =>
    obtain ⟨s1, g1⟩ := h.mkT (.frz _ (.tup _)) hp
    exact ⟨s1, g.trans g1, .tup (.new hd) (hr.mono (.new (h.free hp)))⟩
  | lst hp hr =>
    obtain ⟨s1, g1⟩ := h.mkL (.lst _) hp
    exact ⟨s1, g.trans g1, _, _, rfl, h.free hp, upd_same, hr, g.liv _ hp, h.noOwn hp⟩
section
variable {K : Fg} {H F : Hp} {x : L2.V}
theorem Pk.int {i : Int} (h : Pk K H F x (.int i)) : x = .int i := by
  rcases h with h | ⟨p, xs, ds, _, h, _⟩
  · cases h; rfl
  · cases h
theorem Pk.bl {b : Bool} (h : Pk K H F x (.bool b)) : x = .bl b := by
  rcases h with h | ⟨p, xs, ds, _, h, _⟩
  · cases h; rfl
  · cases h
theorem Pk.str {z : Str} (h : Pk K H F x (.str z)) : x = .str z := by
  rcases h with h | ⟨p, xs, ds, _, h, _⟩
  · cases h; rfl
  · cases h
theorem Pk.non (h : Pk K H F x .none) : x = .non := by
  rcases h with h | ⟨p, xs, ds, _, h, _⟩
  · cases h; rfl
  · cases h
theorem Pk.tup {ds : List D} (h : Pk K H F x (.tuple ds)) : ∃ a xs, x = .ref a ∧ SqTn K F a xs ∧ RepL K F xs ds := by
  rcases h with h | ⟨p, xs, ds, _, h, _⟩
  · cases h with
    | tup h1 h2 => exact ⟨_, _, rfl, h1, h2⟩
  · cases h
theorem Pk.lst {ds : List D} (s : Sub F H) (h : Pk K H F x (.list ds)) : ∃ a xs, x = .ref a ∧ SqL K H a xs ∧ RepL K F xs ds := by
  rcases h with h | ⟨p, xs, ds, rfl, h, h1, h2⟩
  · cases h with
    | lsq h1 h2 => exact ⟨_, _, rfl, s.sqL h1, h2⟩
  · cases h; exact ⟨p, xs, rfl, .inl (.of h1), h2⟩
theorem Pk.rep (s : Sub F H) {d : D} (h : Pk K H F x d) : Rep K H x d := by
  rcases h with h | ⟨p, xs, ds, rfl, rfl, h1, h2⟩
  · exact h.mono s
  · exact .lst (.of h1) (h2.mono s)
end
section
variable {X : Cx} {pins : List (Addr × Obj)} {σ : St} {H : Hp} {s : Shared}
mutual
/-- data without held exceptions -/
def fitD : D → Bool
  | .list xs => fitL xs
  | .tuple xs => fitL xs
  | .dict kvs => kvs.isEmpty
  | _ => true
def fitL : List D → Bool
  | [] => true
  | x :: r => fitD x && fitL r
end
mutual
theorem fit_lay : ∀ {d : D}, d.canLay0 = true → fitD d = true
  | .list _, h => fit_layL h
  | .tuple _, h => fit_layL h
  | .dict _, h => by cases h
  | .none, _ => rfl
  | .bool _, _ => rfl
  | .int _, _ => rfl
  | .str _, _ => rfl
theorem fit_layL : ∀ {ds : List D}, PyData.canLayAll0 ds = true → fitL ds = true
  | [], _ => rfl
  | x :: r, h => by
    have h : (x.canLay0 && PyData.canLayAll0 r) = true := h
    rw [Bool.and_eq_true] at h
    show (fitD x && fitL r) = true
    rw [fit_lay h.1, fit_layL h.2]; rfl
end
mutual
theorem fit_dict : ∀ {d : D}, d.hasDict = false → fitD d = true
  | .list _, h => fit_dictL h
  | .tuple _, h => fit_dictL h
  | .dict _, h => by cases h
  | .none, _ => rfl
  | .bool _, _ => rfl
  | .int _, _ => rfl
  | .str _, _ => rfl
theorem fit_dictL : ∀ {ds : List D}, PyData.hasDictAll ds = false → fitL ds = true
  | [], _ => rfl
  | x :: r, h => by
    have h : (x.hasDict || PyData.hasDictAll r) = false := h
    rw [Bool.or_eq_false_iff] at h
    show (fitD x && fitL r) = true
    rw [fit_dict h.1, fit_dictL h.2]; rfl
end
mutual
/-- data as the library reads it -/
theorem Rep.reads (I : Inv X pins σ H s) : ∀ {d : D} {x : L2.V} {u : Value}, Rep X.K H x d → RelV x u → fitD d = true → ∃ as, Reads s.heap u d as
  | _, _, _, .non, r, _ => by cases r; exact ⟨_, .none⟩
  | _, _, _, .bl b, r, _ => by cases r; exact ⟨_, .bool b⟩
  | _, _, _, .int i, r, _ => by obtain ⟨t, rfl⟩ := r; exact ⟨_, .int i t⟩
  | _, _, _, .str z, r, _ => by obtain ⟨t, rfl⟩ := r; exact ⟨_, .str z t⟩
  | _, _, _, .lsq h l, r, n => by
    cases r
    obtain ⟨its, rv, ⟨o, m, e, e1, _, e2⟩, _⟩ := I.list h
    obtain ⟨as, q⟩ := RepL.reads I l rv n
    exact ⟨_, .list e e1 e2 q⟩
  | _, _, _, .tup h l, r, n => by
    cases r
    obtain ⟨its, rv, ⟨o, e, hc, m, hd⟩, _⟩ := I.tuple h.sq
    obtain ⟨as, q⟩ := RepL.reads I l rv n
    exact ⟨_, .tuple e hc hd q⟩
  | _, _, _, .dic h, r, _ => by
    cases r
    have ok := I.hok _ _ h
    obtain ⟨_, _, vs, kv, o, es, ep, e1, e2, e3, e4, e6, _⟩ := ok
    cases kv
    have e5 : es.toList = [] := by
      cases hz : es.toList with
      | nil => rfl
      | cons a r => rw [hz] at e6; cases e6
    exact ⟨_, .dict (kvs := []) e1 e2.1 e3 (by rw [e5]; exact .nil) (by rw [e5]; exact .nil)⟩
  | _, _, _, .exc _ _, _, n => by cases n
theorem RepL.reads (I : Inv X pins σ H s) : ∀ {ds : List D} {xs : List L2.V} {us : List Value}, RepL X.K H xs ds → Vals xs us → fitL ds = true → ∃ as, ReadsAll s.heap us ds as
  | _, _, _, .nil, r, _ => by cases r; exact ⟨_, .nil⟩
  | _, _, _, .cons h t, r, n => by
    cases r with
    | cons r1 r2 =>
      have n := (Bool.and_eq_true_iff.mp (show (fitD _ && fitL _) = true from n))
      obtain ⟨a1, q1⟩ := Rep.reads I h r1 n.1
      obtain ⟨a2, q2⟩ := RepL.reads I t r2 n.2
      exact ⟨_, .cons q1 q2⟩
end
mutual
/-- data without a list, as the library reads it: nothing of the modules' dict -/
theorem Rep.reads2 (I : Inv X pins σ H s) : ∀ {d : D} {x : L2.V} {u : Value}, Rep X.K H x d → RelV x u → noL d = true → ∃ as, Reads s.heap u d as ∧ sysModules ∉ as
  | _, _, _, .non, r, _ => by cases r; exact ⟨_, .none, by simp⟩
  | _, _, _, .bl b, r, _ => by cases r; exact ⟨_, .bool b, by simp⟩
  | _, _, _, .int i, r, _ => by obtain ⟨t, rfl⟩ := r; exact ⟨_, .int i t, by simp⟩
  | _, _, _, .str z, r, _ => by obtain ⟨t, rfl⟩ := r; exact ⟨_, .str z t, by simp⟩
  | _, _, _, .lsq h l, r, n => by cases n
  | _, _, _, .tup h l, r, n => by
    cases r
    obtain ⟨its, rv, ⟨o, e, hc, m, hd⟩, _⟩ := I.tuple h.sq
    obtain ⟨as, q, q2⟩ := RepL.reads2 I l rv n
    exact ⟨_, .tuple e hc hd q, q2⟩
  | _, _, _, .dic h, r, _ => by
    cases r
    have ok := I.hok _ _ h
    obtain ⟨_, ne, vs, kv, o, es, ep, e1, e2, e3, e4, e6, _⟩ := ok
    cases kv
    have e5 : es.toList = [] := by
      cases hz : es.toList with
      | nil => rfl
      | cons a r => rw [hz] at e6; cases e6
    refine ⟨_, .dict (kvs := []) e1 e2.1 e3 (by rw [e5]; exact .nil) (by rw [e5]; exact .nil), ?_⟩
    intro hm
    simp only [List.append_nil, List.mem_cons, List.not_mem_nil, or_false] at hm
    rw [hm] at ne
    simp at ne
  | _, _, _, .exc _ _, _, n => by cases n
theorem RepL.reads2 (I : Inv X pins σ H s) : ∀ {ds : List D} {xs : List L2.V} {us : List Value}, RepL X.K H xs ds → Vals xs us → noLs ds = true → ∃ as, ReadsAll s.heap us ds as ∧ sysModules ∉ as
  | _, _, _, .nil, r, _ => by cases r; exact ⟨_, .nil, by simp⟩
  | _, _, _, .cons h t, r, n => by
    cases r with
    | cons r1 r2 =>
      have n := (Bool.and_eq_true_iff.mp (show (noL _ && noLs _) = true from n))
      obtain ⟨a1, q1, m1⟩ := Rep.reads2 I h r1 n.1
      obtain ⟨a2, q2, m2⟩ := RepL.reads2 I t r2 n.2
      exact ⟨_, .cons q1 q2, by rw [List.mem_append]; exact fun z => z.elim m1 m2⟩
end
end
theorem foldl_size {x : Array Nat} : ∀ (k : Nat) (b : Array Nat), ((List.replicate k x).foldl (· ++ ·) b).size = b.size + k * x.size
  | 0, b => by simp
  | k + 1, b => by
    rw [List.replicate_succ, List.foldl_cons, foldl_size k, Array.size_append, Nat.succ_mul]; omega
theorem strRep_ok {x : Str} {n : Int} {t u : Tok} {P : Program} {w : World} {A : Around} {E : Value → Shared → Prop} {s : Shared} {Q : Value → Shared → Prop} (h0 : 0 ≤ n) (h1 : n ≤ 10000) (hx : x.length ≤ 1000)
    (q : ∀ t tk, Q (.str (strRep x n) t) { s with toks := tk }) : wpAny (model P w) A (binaryOp .Mult (.str x t) (.int n u)) Q E s := by
  have hm : x.length * n.toNat ≤ 1000 * 10000 := Nat.mul_le_mul hx (by omega)
  refine PySem.P.mul_str (by rw [decide_eq_false (by omega), decide_eq_false (by omega)]; rfl) (fun h _ => ?_) (fun _ _ => ?_) ?_
  · have : (1000 : Int) ≤ (2 ^ 63 - 1) / n := by
      rw [Int.le_ediv_iff_mul_le (by omega)]; omega
    omega
  · unfold Builtin.Str.tooLong
    rw [decide_eq_false (by rw [sizeLine_eq]; omega)]
  · unfold strRep at q
    by_cases c1 : n < 1
    · simp only [if_pos c1] at q ⊢
      exact ⟨by decide, q _ _⟩
    · simp only [if_neg c1] at q ⊢
      by_cases c2 : (n == 1 || x.length == 0) = true
      · simp only [if_pos c2] at q ⊢
        exact q t s.toks
      · simp only [if_neg c2] at q ⊢
        refine ⟨?_, q _ _⟩
        show ((List.replicate n.toNat x.cps).foldl (· ++ ·) #[]).size ≤ sizeLine
        rw [foldl_size, sizeLine_eq, Nat.mul_comm]
        have e : x.length = x.cps.size := rfl
        have e2 : (#[] : Array Nat).size = 0 := rfl
        rw [e2, ← e]; omega
theorem str_mul {X : Cx} : OpR X (binaryOp .Mult) (fun x y H Q => ∃ z n, x = .str z ∧ y = .int n ∧ 0 ≤ n ∧ n ≤ 10000 ∧ z.length ≤ 1000 ∧ Q (.str (strRep z n)) H) := by
  intro pins s σ H x y v u Q I rx ry ⟨z, n, h1, h2, a, b, c, q⟩
  subst h1 h2
  obtain ⟨t, rfl⟩ := rx
  obtain ⟨t', rfl⟩ := ry
  exact strRep_ok a b c fun t tk => ⟨.str _, H, I.tok _, ⟨_, rfl⟩, q⟩
theorem rep_rd {X : Cx} : OpR X (binaryOp .Mult) (fun x y H Q => ∃ l k xs, x = .ref l ∧ y = .int k ∧ SqL X.K H l xs ∧ 0 ≤ k ∧ k ≤ 1000 ∧ xs.length ≤ 1000 ∧ ∀ p, H p = none → Q (.ref p) (upd H p (.lst (List.replicate k.toNat xs).flatten))) := by
  intro pins s σ H x y v u Q I rx ry ⟨l, k, xs, h1, h2, hl, a, b, c, q⟩
  subst h1 h2
  cases rx
  obtain ⟨t', rfl⟩ := ry
  obtain ⟨a1, r1, ⟨⟨c1, d1, t1, s1⟩, n1, e1, g1, g2, g3⟩, _⟩ := I.list hl
  simp only at g1 g2 g3
  subst g1 g2 g3
  have l1 := r1.length
  have hsz : a1.toArray.size * k.toNat ≤ 1000 * 1000 := Nat.mul_le_mul (by rw [List.size_toArray]; omega) (by omega)
  refine wpAny_binaryOp_repeat_ref (T := "list") (U := "int") (by decide) ⟨_, e1, rfl⟩ (fun s' => typeIs_int s' k t') noFill_list_mul F.fills_int_mul F.slot_int_rmul repeat_list F.slot_int_index.lookup
    (call_meets F.slot_int_rmul (typeIs_int s k t') F.entry_int_rmul (F.args_int_rmul_2 _ _) (lm_int_rmul_list_any k t' l a1.toArray n1 none s1)
      ⟨e1, rfl, ⟨_, e1, rfl⟩, call_meets F.slot_list_mul ⟨_, e1, rfl⟩ F.entry_list_mul (F.args_list_mul_2 _ _)
        (lm_list_mul_any l a1.toArray n1 none s1 k t' (by simp [Builtin.List.listFitsIndex]; omega) (by omega) (by simp [Builtin.List.listTooLong, sizeLine] at *; omega))
        ⟨e1, ?_⟩⟩)
  rw [listMul_foldl_if]
  exact ⟨.ref _, _, I.lnew (t' := s.toks) (r1.rep k.toNat) (by
    rw [PyProof.Rows.lm_len_rep_flat]
    have : k.toNat * xs.length ≤ 1000 * 1000 := Nat.mul_le_mul (by omega) c
    rw [sizeLine_eq]; omega), rfl, q _ I.fresh⟩
theorem repT_rd {X : Cx} : OpR X (binaryOp .Mult) (fun x y H Q => ∃ l k xs, x = .ref l ∧ y = .int k ∧ SqT X.K H l xs ∧ 2 ≤ k ∧ k ≤ 1000 ∧ xs ≠ [] ∧ xs.length ≤ 1000 ∧ ∀ p ob, ob.dict = none → H p = none → Q (.ref p) (upd H p (.frz ob (.tup (List.replicate k.toNat xs).flatten)))) := by
  intro pins s σ H x y v u Q I rx ry ⟨l, k, xs, h1, h2, hl, a, b, ne, c, q⟩
  subst h1 h2
  cases rx
  obtain ⟨t', rfl⟩ := ry
  obtain ⟨its, r1, ⟨⟨c1, d1, t1, s1⟩, e1, g1, n1, g2⟩, _⟩ := I.tuple hl
  simp only at g1 g2
  subst g1 g2
  have l1 := r1.length
  have ne' : its ≠ [] := fun z => ne (r1.nil_iff.mp z)
  have em : its.toArray.isEmpty = false := by
    cases its with
    | nil => exact absurd rfl ne'
    | cons => rfl
  have hsz : ((its.toArray.size : Nat) : Int) * k ≤ 1000 * 1000 := Int.mul_le_mul (by rw [List.size_toArray]; omega) (by omega) (by omega) (by omega)
  have hsn : k.toNat * xs.length ≤ 1000 * 1000 := Nat.mul_le_mul (by omega) c
  have hsi : k.toNat * its.length ≤ 1000 * 1000 := by rw [← l1]; exact hsn
  refine wpAny_binaryOp_repeat_ref (T := "tuple") (U := "int") (by decide) ⟨_, e1, rfl⟩ (fun s' => typeIs_int s' k t') noFill_tuple_mul F.fills_int_mul F.slot_int_rmul repeat_tuple F.slot_int_index.lookup
    (call_meets F.slot_int_rmul (typeIs_int s k t') F.entry_int_rmul (F.args_int_rmul_2 _ _) (int_rmul_tuple k t' l its.toArray n1 d1 s1)
      ⟨e1, rfl, ⟨_, e1, rfl⟩, call_meets F.slot_tuple_mul ⟨_, e1, rfl⟩ F.entry_tuple_mul (F.args_tuple_mul_2 _ _)
        (tuple_mulW l its.toArray n1 d1 s1 k t' (by rw [decide_eq_false (by omega), decide_eq_false (by omega)]; rfl) (by rw [em]; simp; omega) (by rw [em, decide_eq_false (by omega)]; rfl) (by omega) (by simp [Builtin.Tuple.tupleTooMany, sizeLine] at *; omega) (by
          rw [size_rep, List.size_toArray, PyProof.Rows.lm_len_rep_flat, sizeLine_eq]; omega))
        ⟨e1, ?_⟩⟩)
  rw [size_rep]
  exact ⟨.ref _, _, laidF (tk := s.toks) I (fun _ _ e => e) (by rw [PyProof.Rows.lm_len_rep_flat, sizeLine_eq]; omega) (r1.rep k.toNat), rfl, q _ _ rfl (I.hok.fresh (Nat.le_refl _))⟩
theorem RepL.rep {K : Fg} {F : Hp} {xs : List L2.V} {ds : List D} (h : RepL K F xs ds) : ∀ n : Nat, RepL K F (List.replicate n xs).flatten (List.replicate n ds).flatten
  | 0 => .nil
  | n + 1 => by
    rw [List.replicate_succ, List.replicate_succ, List.flatten_cons, List.flatten_cons]
    exact h.append (RepL.rep h n)
theorem decI {i j : Int} : decide (i = j) = decide (L2.V.int i = L2.V.int j) := decide_eq_decide.mpr (by simp)
theorem decS {i j : Str} : decide (i = j) = decide (L2.V.str i = L2.V.str j) := decide_eq_decide.mpr (by simp)
section
variable {X : Cx}
theorem cat_rd : OpR X (binaryOp .Add) (fun x y H Q => ∃ l b xs zs, x = .ref l ∧ y = .ref b ∧ SqL X.K H l xs ∧ SqL X.K H b zs ∧ xs.length + zs.length ≤ sizeLine ∧ ∀ p, H p = none → Q (.ref p) (upd H p (.lst (xs ++ zs)))) := by
  intro pins s σ H x y v u Q I rx ry ⟨l, b, xs, zs, h1, h2, hl, hb, hz, q⟩
  subst h1 h2
  cases rx; cases ry
  obtain ⟨a1, r1, ⟨⟨c1, d1, t1, s1⟩, n1, e1, g1, g2, g3⟩, _⟩ := I.list hl
  obtain ⟨a2, r2, ⟨⟨c2, d2, t2, s2⟩, n2, e2, k1, k2, k3⟩, _⟩ := I.list hb
  simp only at g1 g2 g3 k1 k2 k3
  subst g1 g2 g3 k1 k2 k3
  have l1 := r1.length
  have l2 := r2.length
  refine concat_meets ⟨_, e1, rfl⟩ ⟨_, e2, rfl⟩ noFill_list_add seq_list_add PySem.F.slot_list_add PySem.F.entry_list_add (PySem.F.args_list_add_2 _ _) (list_addW l b a1.toArray a2.toArray n1 n2 none none s1 s2 (by simp only [List.size_toArray]; omega)) ⟨e1, e2, ?_⟩
  rw [show a1.toArray ++ a2.toArray = (a1 ++ a2).toArray by simp]
  exact ⟨.ref _, _, I.lnew (t' := s.toks) (r1.append r2) (by simp only [List.length_append]; omega), rfl, q _ I.fresh⟩
theorem add_bi : OpR X (binaryOp .Add) (fun x y H Q => ∃ a j, x = .bl a ∧ y = .int j ∧ Q (.int (b2i a + j)) H) := by
  intro pins s σ H x y v u Q I rx ry ⟨a, j, h1, h2, q⟩
  subst h1 h2; cases rx; obtain ⟨t, rfl⟩ := ry
  exact PySem.IntBool.add_bool_int ⟨.int _, H, I.tok _, ⟨_, rfl⟩, q⟩
theorem sub_bi : OpR X (binaryOp .Sub) (fun x y H Q => ∃ a j, x = .bl a ∧ y = .int j ∧ Q (.int (b2i a - j)) H) := by
  intro pins s σ H x y v u Q I rx ry ⟨a, j, h1, h2, q⟩
  subst h1 h2; cases rx; obtain ⟨t, rfl⟩ := ry
  exact PySem.IntBool.sub_bool_int ⟨.int _, H, I.tok _, ⟨_, rfl⟩, q⟩
theorem sub_ib : OpR X (binaryOp .Sub) (fun x y H Q => ∃ i b, x = .int i ∧ y = .bl b ∧ Q (.int (i - b2i b)) H) := by
  intro pins s σ H x y v u Q I rx ry ⟨i, b, h1, h2, q⟩
  subst h1 h2; cases ry; obtain ⟨t, rfl⟩ := rx
  exact PySem.IntBool.sub_int_bool ⟨.int _, H, I.tok _, ⟨_, rfl⟩, q⟩
theorem mul_ib : OpR X (binaryOp .Mult) (fun x y H Q => ∃ i b, x = .int i ∧ y = .bl b ∧ Q (.int (i * b2i b)) H) := by
  intro pins s σ H x y v u Q I rx ry ⟨i, b, h1, h2, q⟩
  subst h1 h2; cases ry; obtain ⟨t, rfl⟩ := rx
  exact PySem.IntBool.mul_int_bool ⟨.int _, H, I.tok _, ⟨_, rfl⟩, q⟩
theorem fdiv_any : OpR X (binaryOp .FloorDiv) (rI (fun _ j => DivOk j) fun i j => .int (i.fdiv j)) := opI fun _ _ _ _ _ _ _ hc q => floordiv_int hc.ne q (.inl (PyProof.noPylong_of_log2 hc.lt))
theorem pow_any : OpR X (binaryOp .Pow) (rI PowOk fun i j => .int (i ^ j.toNat)) := opI fun _ _ _ _ _ _ _ hc q => by
  cases hc with
  | small h => exact pow_int_small h.1 h.2.1 h.2.2 q
  | wide h0 h => exact pow_int h0 h q
theorem mul_any : OpR X (binaryOp .Mult) (rI MulOk fun i j => .int (i * j)) := opI fun _ _ _ _ _ _ _ hc q => mul_int q (CMulW.ok hc.lt)
variable {K : Fg} {H F : Hp}
theorem op_sound {op : Operator} {x y : L2.V} {dx dy : D} {Q : RV → Prop} (s : Sub F H) (px : Pk X.K H F x dx) (py : Pk X.K H F y dy) (q : opW op dx dy Q) {Q' : VK}
    (k : ∀ r v H' F', Res X.K H F r v H' F' → Q r → Q' v H') : so2 X (binaryOp op) x y H Q' := by
  unfold opW at q
  split at q
  · have e1 := px.int; have e2 := py.int; subst e1 e2
    exact so2_of op_add ⟨_, _, rfl, rfl, k _ _ _ _ (.same (.int _)) q⟩
  · obtain ⟨a, xs, rfl, h1, h2⟩ := px.tup
    obtain ⟨b, ys, rfl, h3, h4⟩ := py.tup
    obtain ⟨hz, q⟩ := q
    refine so2_of op_catN ⟨a, b, xs, ys, rfl, rfl, s.sqT h1, s.sqT h3, by rw [h2.length, h4.length]; exact hz, fun z => ?_, fun _ z => ?_, fun _ _ p ob hd hp => k _ _ _ _ (.tup hd hp (h2.append h4)) q⟩
    · subst z; cases h2; rw [List.nil_append] at q
      exact k _ _ _ _ (.same (.tup h3 h4)) q
    · subst z; cases h4; rw [List.append_nil] at q
      exact k _ _ _ _ (.same (.tup h1 h2)) q
  · obtain ⟨a, xs, rfl, h1, h2⟩ := px.lst s
    obtain ⟨b, ys, rfl, h3, h4⟩ := py.lst s
    exact so2_of cat_rd ⟨a, b, xs, ys, rfl, rfl, h1, h3, by rw [h2.length, h4.length]; exact q.1, fun p hp => k _ _ _ _ (.lst hp (h2.append h4)) q.2⟩
  · have e1 := px.str; have e2 := py.str; subst e1 e2
    exact so2_of op_add_str ⟨_, _, rfl, rfl, q.1, k _ _ _ _ (.same (.str _)) q.2⟩
  · have e1 := px.int; have e2 := py.int; subst e1 e2
    exact so2_of op_sub ⟨_, _, rfl, rfl, k _ _ _ _ (.same (.int _)) q⟩
  · have e1 := px.int; have e2 := py.int; subst e1 e2
    exact so2_of mul_any ⟨_, _, rfl, rfl, q.1, k _ _ _ _ (.same (.int _)) q.2⟩
  · have e1 := px.str; have e2 := py.int; subst e1 e2
    exact so2_of str_mul ⟨_, _, rfl, rfl, q.1.1, q.1.2.1, q.1.2.2, k _ _ _ _ (.same (.str _)) q.2⟩
  · have e2 := py.int; subst e2
    obtain ⟨a, xs, rfl, h1, h2⟩ := px.lst s
    exact so2_of rep_rd ⟨a, _, xs, rfl, rfl, h1, q.1.1, q.1.2.1, by rw [h2.length]; exact q.1.2.2, fun p hp => k _ _ _ _ (.lst hp (h2.rep _)) q.2⟩
  · have e2 := py.int; subst e2
    obtain ⟨a, xs, rfl, h1, h2⟩ := px.tup
    exact so2_of repT_rd ⟨a, _, xs, rfl, rfl, s.sqT h1, q.1.1, q.1.2.1, (fun z => by subst z; cases h2; exact q.1.2.2.1 rfl), by rw [h2.length]; exact q.1.2.2.2, fun p ob hd hp => k _ _ _ _ (.tup hd hp (h2.rep _)) q.2⟩
  · have e1 := px.int; have e2 := py.int; subst e1 e2
    exact so2_of fdiv_any ⟨_, _, rfl, rfl, q.1, k _ _ _ _ (.same (.int _)) q.2⟩
  · have e1 := px.int; have e2 := py.int; subst e1 e2
    exact so2_of op_modN ⟨_, _, rfl, rfl, q.1, k _ _ _ _ (.same (.int _)) q.2⟩
  · have e1 := px.int; have e2 := py.int; subst e1 e2
    exact so2_of pow_any ⟨_, _, rfl, rfl, q.1, k _ _ _ _ (.same (.int _)) q.2⟩
  · have e1 := px.int; have e2 := py.int; subst e1 e2
    exact so2_of op_shlW ⟨_, _, rfl, rfl, q.1, k _ _ _ _ (.same (.int _)) q.2⟩
  · have e1 := px.int; have e2 := py.int; subst e1 e2
    exact so2_of op_shr ⟨_, _, rfl, rfl, q.1, k _ _ _ _ (.same (.int _)) q.2⟩
  · have e1 := px.int; have e2 := py.int; subst e1 e2
    exact so2_of op_and ⟨_, _, rfl, rfl, k _ _ _ _ (.same (.int _)) q⟩
  · have e1 := px.int; have e2 := py.int; subst e1 e2
    exact so2_of op_or ⟨_, _, rfl, rfl, k _ _ _ _ (.same (.int _)) q⟩
  · have e1 := px.int; have e2 := py.int; subst e1 e2
    exact so2_of op_xor ⟨_, _, rfl, rfl, k _ _ _ _ (.same (.int _)) q⟩
  · have e1 := px.bl; have e2 := py.int; subst e1 e2
    exact so2_of add_bi ⟨_, _, rfl, rfl, k _ _ _ _ (.same (.int _)) q⟩
  · have e1 := px.bl; have e2 := py.int; subst e1 e2
    exact so2_of sub_bi ⟨_, _, rfl, rfl, k _ _ _ _ (.same (.int _)) q⟩
  · have e1 := px.int; have e2 := py.bl; subst e1 e2
    exact so2_of sub_ib ⟨_, _, rfl, rfl, k _ _ _ _ (.same (.int _)) q⟩
  · have e1 := px.int; have e2 := py.bl; subst e1 e2
    exact so2_of mul_ib ⟨_, _, rfl, rfl, k _ _ _ _ (.same (.int _)) q⟩
  · exact q.elim
theorem RepL.ints {K : Fg} {F : Hp} : ∀ {xs : List L2.V} {ds : List D} {ns : List Int}, RepL K F xs ds → intsOf ds = some ns → xs = ns.map L2.V.int
  | _, _, _, .nil, e => by cases e; rfl
  | _, _, _, .cons h t, e => by
    cases h with
    | int i =>
      simp only [intsOf, Option.map_eq_some_iff] at e
      obtain ⟨ns', e1, rfl⟩ := e
      rw [RepL.ints t e1]; rfl
    | _ => cases e
theorem flat_ints : ∀ ns : List Int, (ns.map L2.V.int).all flatV = true
  | [] => rfl
  | _ :: r => flat_ints r
theorem inV_ints {i : Int} : ∀ ns : List Int, inV (.int i) (ns.map L2.V.int) = ns.contains i
  | [] => rfl
  | a :: r => by
    show (eqV (.int a) (.int i) || inV (.int i) (r.map L2.V.int)) = _
    rw [inV_ints r, List.contains_cons]
    show ((a == i) || _) = ((i == a) || _)
    rw [BEq.comm]
theorem eq_reads (hu : X.A.units + 65 < cLine) : OpR X (compareOp .Eq) (fun x y H Q => ∃ d e, Rep X.K H x d ∧ Rep X.K H y e ∧ SeqAt.shaped d = true ∧ SeqAt.shaped e = true ∧ Q (.bl (PyData.eqv d e)) H) := by
  intro pins s σ H x y v u Q I rx ry ⟨d, e, hd, he, sd, se, q⟩
  obtain ⟨as, r1⟩ := Rep.reads I hd rx (fit_lay (SeqAt.canLay_of_shaped sd))
  obtain ⟨bs, r2⟩ := Rep.reads I he ry (fit_lay (SeqAt.canLay_of_shaped se))
  exact SeqAt.compareEq_shaped r1 r2 sd se (by omega) ⟨.bl _, H, I, rfl, q⟩
theorem ne_reads (hu : X.A.units + 65 < cLine) : OpR X (compareOp .NotEq) (fun x y H Q => ∃ d e, Rep X.K H x d ∧ Rep X.K H y e ∧ SeqAt.shaped d = true ∧ SeqAt.shaped e = true ∧ Q (.bl (!PyData.eqv d e)) H) := by
  intro pins s σ H x y v u Q I rx ry ⟨d, e, hd, he, sd, se, q⟩
  obtain ⟨as, r1⟩ := Rep.reads I hd rx (fit_lay (SeqAt.canLay_of_shaped sd))
  obtain ⟨bs, r2⟩ := Rep.reads I he ry (fit_lay (SeqAt.canLay_of_shaped se))
  exact SeqAt.compareNe_shaped r1 r2 sd se (by omega) ⟨.bl _, H, I, rfl, q⟩
theorem sh_lay {d : D} (h : SeqAt.shaped d = true) : d.canLay0 = true ∧ d.depth ≤ 64 := by
  unfold SeqAt.shaped at h
  rw [Bool.and_eq_true, decide_eq_true_eq] at h; exact h
theorem room_in {u n m : Nat} (hm : m ≤ 64) (hu : u + 65 < cLine) : u + 1 + min n m < cLine := by
  have : min n m ≤ m := Nat.min_le_right ..
  omega
theorem in_reads (hu : X.A.units + 65 < cLine) : OpR X (compareOp .In) (fun x y H Q => ∃ d xs, Rep X.K H x d ∧ (Rep X.K H y (.list xs) ∨ Rep X.K H y (.tuple xs)) ∧ SeqAt.shaped d = true ∧ PyData.canLayAll0 xs = true ∧ Q (.bl (xs.any fun z => PyData.eqv z d)) H) := by
  intro pins s σ H x y v u Q I rx ry ⟨d, xs, hd, he, sd, se, q⟩
  obtain ⟨as, r1⟩ := Rep.reads I hd rx (fit_lay (SeqAt.canLay_of_shaped sd))
  obtain ⟨c1, c2⟩ := sh_lay sd
  rcases he with he | he
  · obtain ⟨bs, r2⟩ := Rep.reads I he ry (fit_layL se)
    exact SeqAt.in_list_reads r2 r1 se c1 (room_in c2 hu) ⟨.bl _, H, I, rfl, q⟩
  · obtain ⟨bs, r2⟩ := Rep.reads I he ry (fit_layL se)
    exact SeqAt.in_tuple_reads r2 r1 se c1 (room_in c2 hu) ⟨.bl _, H, I, rfl, q⟩
theorem notin_reads (hu : X.A.units + 65 < cLine) : OpR X (compareOp .NotIn) (fun x y H Q => ∃ d xs, Rep X.K H x d ∧ (Rep X.K H y (.list xs) ∨ Rep X.K H y (.tuple xs)) ∧ SeqAt.shaped d = true ∧ PyData.canLayAll0 xs = true ∧ Q (.bl (!xs.any fun z => PyData.eqv z d)) H) := by
  intro pins s σ H x y v u Q I rx ry ⟨d, xs, hd, he, sd, se, q⟩
  obtain ⟨as, r1⟩ := Rep.reads I hd rx (fit_lay (SeqAt.canLay_of_shaped sd))
  obtain ⟨c1, c2⟩ := sh_lay sd
  rcases he with he | he
  · obtain ⟨bs, r2⟩ := Rep.reads I he ry (fit_layL se)
    exact SeqAt.notIn_list_reads r2 r1 se c1 (room_in c2 hu) ⟨.bl _, H, I, rfl, q⟩
  · obtain ⟨bs, r2⟩ := Rep.reads I he ry (fit_layL se)
    exact SeqAt.notIn_tuple_reads r2 r1 se c1 (room_in c2 hu) ⟨.bl _, H, I, rfl, q⟩
theorem Rep.isNon {K : Fg} {F : Hp} {x : L2.V} {d : D} (h : Rep K F x d) : decide (x = .non) = isNonD d := by
  cases h <;> first | rfl | exact decide_eq_false (fun e => nomatch e)
theorem cmp_sound (hu : X.A.units + 65 < cLine) {op : CmpOp} {x y : L2.V} {dx dy : D} {Q : Bool → Prop} (s : Sub F H) (px : Pk X.K H F x dx) (py : Pk X.K H F y dy) (q : cmpW op dx dy Q) {Q' : VK}
    (k : ∀ b, Q b → Q' (.bl b) H) : so2 X (compareOp op) x y H Q' := by
  unfold cmpW at q
  split at q
  · have e1 := px.int; have e2 := py.int; subst e1 e2
    exact so2_of op_lt ⟨_, _, rfl, rfl, k _ q⟩
  · have e1 := px.int; have e2 := py.int; subst e1 e2
    exact so2_of op_le ⟨_, _, rfl, rfl, k _ q⟩
  · have e1 := px.int; have e2 := py.int; subst e1 e2
    exact so2_of op_gt ⟨_, _, rfl, rfl, k _ q⟩
  · have e1 := px.int; have e2 := py.int; subst e1 e2
    exact so2_of op_ge ⟨_, _, rfl, rfl, k _ q⟩
  · have e1 := px.int; have e2 := py.int; subst e1 e2
    exact so2_of op_eq ⟨rfl, k _ (by rw [← decI]; exact q)⟩
  · have e1 := px.int; have e2 := py.int; subst e1 e2
    exact so2_of op_ne ⟨rfl, k _ (by rw [← decI]; exact q)⟩
  · have e1 := px.str; have e2 := py.str; subst e1 e2
    exact so2_of op_eq ⟨rfl, k _ (by rw [← decS]; exact q)⟩
  · have e1 := px.str; have e2 := py.str; subst e1 e2
    exact so2_of op_ne ⟨rfl, k _ (by rw [← decS]; exact q)⟩
  · have e1 := px.bl; have e2 := py.bl; subst e1 e2
    exact so2_of op_is_bl ⟨_, _, rfl, rfl, k _ q⟩
  · have e1 := px.bl; have e2 := py.bl; subst e1 e2
    exact so2_of op_isnot_bl ⟨_, _, rfl, rfl, k _ q⟩
  · have e2 := py.non; subst e2
    exact so2_of op_isN ⟨rfl, k _ (by rw [(px.rep s).isNon]; exact q)⟩
  · have e2 := py.non; subst e2
    exact so2_of op_notN ⟨rfl, k _ (by rw [(px.rep s).isNon]; exact q)⟩
  · have e1 := px.int; subst e1
    obtain ⟨a, xs, rfl, h1, h2⟩ := py.tup
    obtain ⟨ns, e, q⟩ := q
    have e3 := h2.ints e
    subst e3
    refine so2_of op_in_seq ⟨a, _, rfl, .inr (s.sqT h1.sq), rfl, flat_ints _, ?_⟩
    rw [if_neg (by decide), inV_ints]; exact k _ q
  · have e1 := px.int; subst e1
    obtain ⟨a, xs, rfl, h1, h2⟩ := py.tup
    obtain ⟨ns, e, q⟩ := q
    have e3 := h2.ints e
    subst e3
    refine so2_of op_notIn_seq ⟨a, _, rfl, .inr (s.sqT h1.sq), rfl, flat_ints _, ?_⟩
    rw [if_pos rfl, inV_ints]; exact k _ q
  · cases px.rep s with
    | dic hd => exact so2_of (in_dict hu) ⟨_, _, rfl, hd, py.rep s, q.1, k _ q.2⟩
  · exact so2_of (in_reads hu) ⟨_, _, px.rep s, .inl (py.rep s), q.1.1, (sh_lay q.1.2).1, k _ q.2⟩
  · exact so2_of (notin_reads hu) ⟨_, _, px.rep s, .inl (py.rep s), q.1.1, (sh_lay q.1.2).1, k _ q.2⟩
  · exact so2_of (in_reads hu) ⟨_, _, px.rep s, .inr (py.rep s), q.1.1, (sh_lay q.1.2).1, k _ q.2⟩
  · exact so2_of (notin_reads hu) ⟨_, _, px.rep s, .inr (py.rep s), q.1.1, (sh_lay q.1.2).1, k _ q.2⟩
  · exact so2_of (eq_reads hu) ⟨_, _, px.rep s, py.rep s, q.1, q.2.1, k _ q.2.2⟩
  · exact so2_of (ne_reads hu) ⟨_, _, px.rep s, py.rep s, q.1, q.2.1, k _ q.2.2⟩
  · exact q.elim
theorem ixAt_eq {n : Nat} {i : Int} : ixAt n i = ixN n i := rfl
theorem RepL.atI {xs : List L2.V} {ds : List D} (h : RepL K F xs ds) {i : Int} {d : D} (e : (ixAt ds.length i).bind (fun j => ds[j]?) = some d) : ∃ x, L2.atI xs i = some x ∧ Rep K F x d := by
  unfold L2.atI
  rw [h.length]
  cases hj : ixAt ds.length i with
  | none => rw [hj] at e; cases e
  | some j =>
    rw [hj] at e
    obtain ⟨x, h1, h2⟩ := h.get (i := j) (by simpa using e)
    refine ⟨x, ?_, h2⟩
    rw [← ixAt_eq, hj]
    simpa using h1
end
end DI
namespace DI
open PySem L2
open PyProof.Rows hiding St
section
variable {X : Cx} {e : Expr} {es : List Expr} {σ : L2.St} {H : Hp}
def pX (X : Cx) (e : Expr) : TE := fun σ H Q => ∀ (pins : List (Addr × Obj)) (s : Shared), Inv X pins σ H s → wpAny (model X.prog X.w) X.A (eval e X.env) (EP X pins σ Q) X.xe s
theorem pe_p : PE X e (pX X e) := ⟨fun pins s _ _ _ I h => h pins s I⟩
theorem pX_of {t : TE} (p : PE X e t) {Q : VK} (h : t σ H Q) : pX X e σ H Q := fun pins s I => p.run pins s σ H Q I h
def pT (X : Cx) (e : Expr) : TT := fun σ H Q => ∀ (pins : List (Addr × Obj)) (s : Shared), Inv X pins σ H s → wpAny (model X.prog X.w) X.A (isTrue e X.env (eval e X.env)) (TP X pins σ Q) X.xe s
theorem pt_p : PT X e (pT X e) := ⟨fun pins s _ _ _ I h => h pins s I⟩
theorem pT_of {t : TT} (p : PT X e t) {Q : Bool → Hp → Prop} (h : t σ H Q) : pT X e σ H Q := fun pins s I => p.run pins s σ H Q I h
def pA (X : Cx) (es : List Expr) : TA := fun σ H Q => ∀ (pos : Pos) (pins : List (Addr × Obj)) (s : Shared), Inv X pins σ H s → wpAny (model X.prog X.w) X.A (spliced (backTo pos (starEach es X.env))) (AP X pins σ Q) X.xe s
theorem pa_p : PA X es (pA X es) := ⟨fun pos pins s _ _ _ I h => h pos pins s I⟩
theorem pA_of {t : TA} (p : PA X es t) {Q : List L2.V → Hp → Prop} (h : t σ H Q) : pA X es σ H Q := fun pos pins s I => p.run pos pins s σ H Q I h
end
/-- an expression that is no star -/
def nost : Expr → Bool
  | .Starred _ _ => false
  | _ => true
theorem star1 {e : Expr} (h : nost e = true) {es : List Expr} {env : Env} : starEach (e :: es) env = (false, eval e env) :: starEach es env := by
  cases e <;> first | rfl | cases h
theorem noany {pos : Pos} {env : Env} : ∀ {es : List Expr}, es.all nost = true → (backTo pos (starEach es env)).any (·.1) = false
  | [], _ => rfl
  | e :: es, h => by
    rw [List.all_cons, Bool.and_eq_true] at h
    rw [star1 h.1]
    show (false || (backTo pos (starEach es env)).any (·.1)) = false
    rw [noany h.2]; rfl
/-- what is wanted of an exception, as the states go on -/
def KR (X : Cx) (W : WX) (cv : CV) (A : AT) (R : Nat → En → Prop) (env : En) (σ : L2.St) (H F : Hp) : Prop :=
  ∀ c env' H' F', Sta X.K cv A env' σ H' F' → Go env σ H F env' σ H' F' → R c env' → W (cv c) none σ H'
theorem KR.go {X : Cx} {W : WX} {cv : CV} {A : AT} {R : Nat → En → Prop} {env env1 : En} {σ : L2.St} {H F H1 F1 : Hp} (k : KR X W cv A R env σ H F) (g : Go env σ H F env1 σ H1 F1) : KR X W cv A R env1 σ H1 F1 :=
  fun c e' H' F' s g' r => k c e' H' F' s (g.trans g') r
section
variable (X : Cx) (W : WX) (G : Nat → Fn) (cv : CV)
/-- the little language's reading of an expression holds -/
def SE (e : Expr) (x : DI.X) : Prop := ∀ (R : Nat → En → Prop) (A : AT) (env : En) (σ : L2.St) (H F : Hp) (Q : RV → En → Prop) (Q' : VK), Sta X.K cv A env σ H F → wE G x R env Q → KR X W cv A R env σ H F →
  (∀ r env' v H' F', Sta X.K cv A env' σ H' F' → Go env σ H F env' σ H' F' → Rv X.K H env' σ H' F' v r → Q r env' → Q' v H') → pX X e σ H Q'
def ST (e : Expr) (x : DI.X) : Prop := ∀ (R : Nat → En → Prop) (A : AT) (env : En) (σ : L2.St) (H F : Hp) (Q : Bool → En → Prop) (Q' : Bool → Hp → Prop), Sta X.K cv A env σ H F → wT G x R env Q → KR X W cv A R env σ H F →
  (∀ b env' H' F', Sta X.K cv A env' σ H' F' → Go env σ H F env' σ H' F' → Q b env' → Q' b H') → pT X e σ H Q'
/-- arguments, moded -/
def SA (es : List Expr) (x : DI.X) : Prop := ∀ (R : Nat → En → Prop) (A : AT) (m : List Bool) (env : En) (σ : L2.St) (H F : Hp) (Q : List RV → En → Prop) (Q' : List L2.V → Hp → Prop), Sta X.K cv A env σ H F → wA G x m R env Q → KR X W cv A R env σ H F →
  (∀ rs env' vs H' F', Sta X.K cv A env' σ H' F' → Go env σ H F env' σ H' F' → Paired (fun v r => (∃ d, r = .v d ∧ Rep X.K F' v d) ∨ ∃ i, r = .bor i ∧ σ[i]? = some (some v)) vs rs → Q rs env' → Q' vs H') → pA X es σ H Q'
def SB (es : List Expr) (x : DI.X) : Prop := ∀ (R : Nat → En → Prop) (A : AT) (env : En) (σ : L2.St) (H F : Hp) (Q : List D → En → Prop) (Q' : List L2.V → Hp → Prop), Sta X.K cv A env σ H F → wB G x R env Q → KR X W cv A R env σ H F →
  (∀ ds env' vs H' F', Sta X.K cv A env' σ H' F' → Go env σ H F env' σ H' F' → Paired (fun v d => Pk X.K H' F' v d) vs ds → Q ds env' → Q' vs H') → pA X es σ H Q'
end
section
variable {X : Cx} {W : WX} {G : Nat → Fn} {cv : CV} {a b d : Expr} {xa xb xd : DI.X} {pos : Pos}
theorem se_var {i : Nat} {x : Str} (hN : X.N[i]? = some x) (hv : Vis X.env.scope x) (h1 : (x == ("__debug__" : Str)) = false) (h2 : (x == ("__classdict__" : Str)) = false) : SE X W G cv (.Name x pos) (.var i) := by
  intro R A env σ H F Q Q' s w _ k
  refine pX_of (pe_var hN hv h1 h2) ?_
  simp only [br_iff, ls_iff, nrm_iff, bk_iff, sf_iff, wE] at w
  split at w
  · rename_i d he
    obtain ⟨v, h1, h2⟩ := s.slot i _ he
    exact ⟨v, h1, k (.v d) _ _ _ _ s .refl h2 w⟩
  · rename_i ds he
    obtain ⟨p, xs, h1, _⟩ := s.slot i _ he
    exact ⟨_, h1, k (.bor i) _ _ _ _ s .refl h1 w⟩
  · rename_i ds he
    obtain ⟨xs, h1, _⟩ := s.slot i _ he
    exact ⟨_, h1, k (.bor i) _ _ _ _ s .refl h1 w⟩
  · exact w.elim
theorem se_c {e : Expr} {v : L2.V} {dd : D} (p : PE X e (tC v)) (r : Rep X.K (fun _ => none) v dd) : SE X W G cv e (.c dd) := by
  intro R A env σ H F Q Q' s w _ k
  refine pX_of p ?_
  exact k (.v dd) _ _ _ _ s .refl (Rep.mono (fun _ _ z => by cases z) r) w
/-- two operands in a row -/
theorem two (ha : SE X W G cv a xa) (hb : SE X W G cv b xb) {R : Nat → En → Prop} {A : AT} {env : En} {σ : L2.St} {H F : Hp} {P : RV → RV → En → Prop} (s : Sta X.K cv A env σ H F)
    (w : wE G xa R env fun ra e1 => wE G xb R e1 fun rb e2 => P ra rb e2) (kr : KR X W cv A R env σ H F) {Q' : L2.V → L2.V → Hp → Prop}
    (k : ∀ ra rb e2 x y H2 F2, Sta X.K cv A e2 σ H2 F2 → Go env σ H F e2 σ H2 F2 → Rv X.K H e2 σ H2 F2 x (hold ra) → Rv X.K H e2 σ H2 F2 y rb → (∃ H1 F1 e1, Sta X.K cv A e1 σ H1 F1 ∧ Go e1 σ H1 F1 e2 σ H2 F2) → P ra rb e2 → Q' x y H2) :
    pX X a σ H fun x H1 => pX X b σ H1 fun y H2 => Q' x y H2 := by
  refine ha R A env σ H F _ _ s w kr fun ra e1 x H1 F1 s1 g1 rv1 w1 => ?_
  obtain ⟨F1', s1', g1', hold1⟩ := s1.hold g1 rv1
  refine hb R A e1 σ H1 F1' _ _ s1' w1 (kr.go g1') fun rb e2 y H2 F2 s2 g2 rv2 w2 => ?_
  refine k ra rb e2 x y H2 F2 s2 (g1'.trans g2) (hold1 _ _ _ g2.ext _) ?_ ⟨_, _, _, s1', g2⟩ w2
  cases rb with
  | v d => exact rv2
  | bor i => exact rv2
  | own ds =>
    obtain ⟨p, xs, h1, h2, h3, h4, h5, h6⟩ := rv2
    exact ⟨p, xs, h1, h2, h3, h4, g1'.liv _ h5, h6⟩
theorem se_bin {op : Operator} (ha : SE X W G cv a xa) (hb : SE X W G cv b xb) : SE X W G cv (.BinOp a op b pos) (.bin op xa xb) := by
  intro R A env σ H F Q Q' s w kr k
  simp only [br_iff, ls_iff, nrm_iff, bk_iff, sf_iff, wE] at w
  refine pX_of (pe_op so2_ok pe_p pe_p) ?_
  refine two ha hb s w kr fun ra rb e2 x y H2 F2 s2 g2 r1 r2 _ q => ?_
  obtain ⟨dx, p1, q, _⟩ := s2.pk r1 q
  obtain ⟨dy, p2, q, _⟩ := s2.pk r2 q
  refine op_sound s2.sub p1 p2 q fun r v H' F' rs q => ?_
  obtain ⟨s3, g3, rv⟩ := s2.res g2 rs
  exact k r e2 v H' F' s3 g3 rv q
theorem se_neg (ha : SE X W G cv a xa) : SE X W G cv (.UnaryOp .USub a pos) (.neg xa) := by
  intro R A env σ H F Q Q' s w kr k
  simp only [br_iff, ls_iff, nrm_iff, bk_iff, sf_iff, wE] at w
  refine pX_of (pe_un un_neg pe_p) ?_
  refine ha R A env σ H F _ _ s w kr fun ra e1 x H1 F1 s1 g1 rv1 w1 => ?_
  obtain ⟨dx, p1, q, _⟩ := s1.pk rv1 w1
  split at q
  · have e := p1.int; subst e
    exact ⟨_, rfl, k (.v (.int _)) _ _ _ _ s1 g1 (Rep.int _) q⟩
  · exact q.elim
theorem se_cmp (hu : X.A.units + 65 < cLine) {op : CmpOp} (hm : behindInMarks op b = false) (ha : SE X W G cv a xa) (hb : SE X W G cv b xb) : SE X W G cv (.Compare a [op] [b] pos) (.cmp op xa xb) := by
  intro R A env σ H F Q Q' s w kr k
  simp only [br_iff, ls_iff, nrm_iff, bk_iff, sf_iff, wE] at w
  refine pX_of (pe_cmpR so2_ok pe_p pe_p hm) ?_
  refine two ha hb s w kr fun ra rb e2 x y H2 F2 s2 g2 r1 r2 _ q => ?_
  obtain ⟨dx, p1, q, _⟩ := s2.pk r1 q
  obtain ⟨dy, p2, q, _⟩ := s2.pk r2 q
  exact cmp_sound hu s2.sub p1 p2 q fun r q => k (.v (.bool _)) _ _ _ _ s2 g2 (Rep.bl _) q
theorem st_cmp (hu : X.A.units + 65 < cLine) {op : CmpOp} (hm : behindInMarks op b = false) (ha : SE X W G cv a xa) (hb : SE X W G cv b xb) : ST X W G cv (.Compare a [op] [b] pos) (.tx (.cmp op xa xb)) := by
  intro R A env σ H F Q Q' s w kr k
  simp only [br_iff, ls_iff, nrm_iff, bk_iff, sf_iff, wT, wE] at w
  refine pT_of (pt_cmpR so2_ok pe_p pe_p hm) ?_
  refine two ha hb s w kr fun ra rb e2 x y H2 F2 s2 g2 r1 r2 _ q => ?_
  obtain ⟨dx, p1, q, _⟩ := s2.pk r1 q
  obtain ⟨dy, p2, q, _⟩ := s2.pk r2 q
  exact cmp_sound hu s2.sub p1 p2 q fun r q => ⟨r, rfl, k _ _ _ _ s2 g2 q.2⟩
/-- what the truth of an outcome is -/
theorem tru_at {K : Fg} {cv : CV} {A : AT} {e1 : En} {σ : L2.St} {H H0 F : Hp} {x : L2.V} {r : RV} {Q : Bool → Prop} (s : Sta K cv A e1 σ H F) (rv : Rv K H0 e1 σ H F x r) (q : tru e1 r Q) : ∃ k, TruV K x H k ∧ Q k := by
  obtain ⟨d, p, q, _⟩ := s.pk rv q
  cases d with
  | none => rw [p.non]; exact ⟨_, rfl, q.2⟩
  | bool b => rw [p.bl]; exact ⟨_, rfl, q.2⟩
  | int i => rw [p.int]; exact ⟨_, rfl, q.2⟩
  | str z => rw [p.str]; exact ⟨_, ⟨q.1, rfl⟩, q.2⟩
  | list ds =>
    obtain ⟨a, xs, rfl, h1, h2⟩ := p.lst s.sub
    refine ⟨_, .inl ⟨xs, h1, rfl⟩, ?_⟩
    have : xs.isEmpty = ds.isEmpty := by cases h2 <;> rfl
    rw [this]; exact q.2
  | tuple ds =>
    obtain ⟨a, xs, rfl, h1, h2⟩ := p.tup
    refine ⟨_, .inr (.inl ⟨xs, s.sub.sqT h1.sq, rfl⟩), ?_⟩
    have : xs.isEmpty = ds.isEmpty := by cases h2 <;> rfl
    rw [this]; exact q.2
  | dict _ => exact q.elim
theorem st_plain (he : ∀ whole, isTrue a X.env whole = (do let v ← whole; standAt a.pos; holding [v] (truthy v))) (ha : SE X W G cv a xa) : ST X W G cv a (.tx xa) := by
  simp only [ST, wT]
  intro R A env σ H F Q Q' s w kr k
  refine pT_of (pt_truth pe_p he) ?_
  refine ha R A env σ H F _ _ s w kr fun ra e1 x H1 F1 s1 g1 rv1 w1 => ?_
  obtain ⟨kk, t, q⟩ := tru_at s1 rv1 w1
  exact ⟨kk, t, k _ _ _ _ s1 g1 q⟩
theorem se_chn (hu : X.A.units + 65 < cLine) {op op' : CmpOp} (hm : lastMarks [op, op'] [b, d] = false) (ha : SE X W G cv a xa) (hb : SE X W G cv b xb) (hd : SE X W G cv d xd) :
    SE X W G cv (.Compare a [op, op'] [b, d] pos) (.chn op op' xa xb xd) := by
  intro R A env σ H F Q Q' s w kr k
  simp only [br_iff, ls_iff, nrm_iff, bk_iff, sf_iff, wE] at w
  refine pX_of (pe_chain so2_ok so2_ok pe_p pe_p pe_p hm) ?_
  refine ha R A env σ H F _ _ s w kr fun ra e1 x H1 F1 s1 g1 rv1 w1 => ?_
  obtain ⟨F1', s1', g1', hold1⟩ := s1.hold g1 rv1
  refine hb R A e1 σ H1 F1' _ _ s1' w1 (kr.go g1') fun rb e2 y H2 F2 s2 g2 rv2 w2 => ?_
  have r1 := hold1 e2 H2 F2 g2.ext H
  obtain ⟨dx, p1, q, _⟩ := s2.pk r1 w2
  obtain ⟨dy, p2, q, e2y⟩ := s2.pk rv2 q
  obtain ⟨F2', s2', g2', hold2⟩ := s2.hold g2 rv2
  refine cmp_sound hu s2.sub p1 p2 q fun r q => ⟨r, rfl, ?_⟩
  cases r with
  | false => exact k (.v (.bool _)) _ _ _ _ s2' (g1'.trans g2') (Rep.bl _) q
  | true =>
    refine hd R A e2 σ H2 F2' _ _ s2' q (kr.go (g1'.trans g2')) fun rd e3 z H3 F3 s3 g3 rv3 w3 => ?_
    have r2 := hold2 e3 H3 F3 g3.ext H
    obtain ⟨dy', p2', q, _⟩ := s3.pk r2 w3
    obtain ⟨dz, p3, q, _⟩ := s3.pk rv3 q
    exact cmp_sound hu s3.sub p2' p3 q fun r q => k (.v (.bool _)) _ _ _ _ s3 ((g1'.trans g2').trans g3) (Rep.bl _) q
theorem st_chn (hu : X.A.units + 65 < cLine) {op op' : CmpOp} (hm : lastMarks [op, op'] [b, d] = false) (ha : SE X W G cv a xa) (hb : SE X W G cv b xb) (hd : SE X W G cv d xd) :
    ST X W G cv (.Compare a [op, op'] [b, d] pos) (.tx (.chn op op' xa xb xd)) := by
  intro R A env σ H F Q Q' s w kr k
  simp only [br_iff, ls_iff, nrm_iff, bk_iff, sf_iff, wT, wE] at w
  refine pT_of (pt_chain so2_ok so2_ok pe_p pe_p pe_p hm) ?_
  refine ha R A env σ H F _ _ s w kr fun ra e1 x H1 F1 s1 g1 rv1 w1 => ?_
  obtain ⟨F1', s1', g1', hold1⟩ := s1.hold g1 rv1
  refine hb R A e1 σ H1 F1' _ _ s1' w1 (kr.go g1') fun rb e2 y H2 F2 s2 g2 rv2 w2 => ?_
  have r1 := hold1 e2 H2 F2 g2.ext H
  obtain ⟨dx, p1, q, _⟩ := s2.pk r1 w2
  obtain ⟨dy, p2, q, e2y⟩ := s2.pk rv2 q
  obtain ⟨F2', s2', g2', hold2⟩ := s2.hold g2 rv2
  refine cmp_sound hu s2.sub p1 p2 q fun r q => ⟨r, rfl, ?_⟩
  cases r with
  | false => exact ⟨false, rfl, k _ _ _ _ s2' (g1'.trans g2') q.2⟩
  | true =>
    refine hd R A e2 σ H2 F2' _ _ s2' q (kr.go (g1'.trans g2')) fun rd e3 z H3 F3 s3 g3 rv3 w3 => ?_
    have r2 := hold2 e3 H3 F3 g3.ext H
    obtain ⟨dy', p2', q, _⟩ := s3.pk r2 w3
    obtain ⟨dz, p3, q, _⟩ := s3.pk rv3 q
    exact cmp_sound hu s3.sub p2' p3 q fun r q => ⟨r, rfl, k _ _ _ _ s3 ((g1'.trans g2').trans g3) q.2⟩
theorem se_one {op : BoolOp} (ha : SE X W G cv a xa) : SE X W G cv (.BoolOp op [a] pos) xa := fun R A env σ H F Q Q' s w kr k => pX_of (pe_one pe_p) (ha R A env σ H F Q Q' s w kr k)
theorem se_and {rest : List Expr} (ha : SE X W G cv a xa) (hb : SE X W G cv (.BoolOp .And (b :: rest) pos) xb) : SE X W G cv (.BoolOp .And (a :: b :: rest) pos) (.and xa xb) := by
  intro R A env σ H F Q Q' s w kr k
  simp only [br_iff, ls_iff, nrm_iff, bk_iff, sf_iff, wE] at w
  refine pX_of (pe_andT pe_p pe_p) ?_
  refine ha R A env σ H F _ _ s w kr fun ra e1 x H1 F1 s1 g1 rv1 w1 => ?_
  obtain ⟨kk, t, q⟩ := tru_at s1 rv1 w1
  refine ⟨kk, t, ?_⟩
  cases kk with
  | true => exact hb R A e1 σ H1 F1 _ _ s1 q (kr.go g1) fun rb e2 y H2 F2 s2 g2 rv2 w2 => k rb e2 y H2 F2 s2 (g1.trans g2) (by
      cases rb with
      | v d => exact rv2
      | bor i => exact rv2
      | own ds =>
        obtain ⟨p, xs, h1, h2, h3, h4, h5, h6⟩ := rv2
        exact ⟨p, xs, h1, h2, h3, h4, g1.liv _ h5, h6⟩) w2
  | false =>
    obtain ⟨d, e2, F2, q, s2, g2, r2⟩ := s1.settle g1 rv1 q
    exact k (.v d) _ _ _ _ s2 g2 r2 q
theorem se_or {rest : List Expr} (ha : SE X W G cv a xa) (hb : SE X W G cv (.BoolOp .Or (b :: rest) pos) xb) : SE X W G cv (.BoolOp .Or (a :: b :: rest) pos) (.or xa xb) := by
  intro R A env σ H F Q Q' s w kr k
  simp only [br_iff, ls_iff, nrm_iff, bk_iff, sf_iff, wE] at w
  refine pX_of (pe_orT pe_p pe_p) ?_
  refine ha R A env σ H F _ _ s w kr fun ra e1 x H1 F1 s1 g1 rv1 w1 => ?_
  obtain ⟨kk, t, q⟩ := tru_at s1 rv1 w1
  refine ⟨kk, t, ?_⟩
  cases kk with
  | false => exact hb R A e1 σ H1 F1 _ _ s1 q (kr.go g1) fun rb e2 y H2 F2 s2 g2 rv2 w2 => k rb e2 y H2 F2 s2 (g1.trans g2) (by
      cases rb with
      | v d => exact rv2
      | bor i => exact rv2
      | own ds =>
        obtain ⟨p, xs, h1, h2, h3, h4, h5, h6⟩ := rv2
        exact ⟨p, xs, h1, h2, h3, h4, g1.liv _ h5, h6⟩) w2
  | true =>
    obtain ⟨d, e2, F2, q, s2, g2, r2⟩ := s1.settle g1 rv1 q
    exact k (.v d) _ _ _ _ s2 g2 r2 q
theorem se_not (ha : SE X W G cv a xa) : SE X W G cv (.UnaryOp .Not a pos) (.not xa) := by
  intro R A env σ H F Q Q' s w kr k
  simp only [br_iff, ls_iff, nrm_iff, bk_iff, sf_iff, wE] at w
  refine pX_of (pe_notT pe_p) ?_
  refine ha R A env σ H F _ _ s w kr fun ra e1 x H1 F1 s1 g1 rv1 w1 => ?_
  obtain ⟨kk, t, q⟩ := tru_at s1 rv1 w1
  exact ⟨kk, t, k (.v (.bool _)) _ _ _ _ s1 g1 (Rep.bl _) q⟩
theorem st_not (ha : ST X W G cv a xa) : ST X W G cv (.UnaryOp .Not a pos) (.tnot xa) := by
  intro R A env σ H F Q Q' s w kr k
  simp only [br_iff, ls_iff, nrm_iff, bk_iff, sf_iff, wT] at w
  refine pT_of (pt_not pt_p) ?_
  exact ha R A env σ H F (fun b e => Q (!b) e) _ s w kr fun b e1 H1 F1 s1 g1 w1 => k _ _ _ _ s1 g1 w1
/-- a chain of and, or as a test, whatever its whole is -/
def pW (X : Cx) (e : Expr) : TT := fun σ H Q => ∀ (whole : Sem Value) (pins : List (Addr × Obj)) (s : Shared), Inv X pins σ H s → wpAny (model X.prog X.w) X.A (isTrue e X.env whole) (TP X pins σ Q) X.xe s
theorem pw_p {X : Cx} {e : Expr} : PW X e (pW X e) := ⟨fun whole pins s _ _ _ I h => h whole pins s I⟩
theorem pW_of {X : Cx} {e : Expr} {t : TT} {σ : L2.St} {H : Hp} (p : PW X e t) {Q : Bool → Hp → Prop} (h : t σ H Q) : pW X e σ H Q := fun whole pins s I => p.run whole pins s σ H Q I h
def SW (X : Cx) (W : WX) (G : Nat → Fn) (cv : CV) (e : Expr) (x : DI.X) : Prop := ∀ (R : Nat → En → Prop) (A : AT) (env : En) (σ : L2.St) (H F : Hp) (Q : Bool → En → Prop) (Q' : Bool → Hp → Prop), Sta X.K cv A env σ H F → wT G x R env Q → KR X W cv A R env σ H F →
  (∀ b env' H' F', Sta X.K cv A env' σ H' F' → Go env σ H F env' σ H' F' → Q b env' → Q' b H') → pW X e σ H Q'
theorem SW.st {e : Expr} {x : DI.X} (h : SW X W G cv e x) : ST X W G cv e x := fun R A env σ H F Q Q' s w kr k pins sh I => h R A env σ H F Q Q' s w kr k _ pins sh I
theorem sw_and1 (ha : ST X W G cv a xa) : SW X W G cv (.BoolOp .And [a] pos) xa := fun R A env σ H F Q Q' s w kr k => pW_of (pw_and1 pt_p) (ha R A env σ H F Q Q' s w kr k)
theorem sw_or1 (ha : ST X W G cv a xa) : SW X W G cv (.BoolOp .Or [a] pos) xa := fun R A env σ H F Q Q' s w kr k => pW_of (pw_or1 pt_p) (ha R A env σ H F Q Q' s w kr k)
theorem sw_and {rest : List Expr} (ha : ST X W G cv a xa) (hb : SW X W G cv (.BoolOp .And (b :: rest) pos) xb) : SW X W G cv (.BoolOp .And (a :: b :: rest) pos) (.tand xa xb) := by
  intro R A env σ H F Q Q' s w kr k
  simp only [br_iff, ls_iff, nrm_iff, bk_iff, sf_iff, wT] at w
  refine pW_of (pw_and pt_p pw_p) ?_
  refine ha R A env σ H F _ _ s w kr fun c e1 H1 F1 s1 g1 w1 => ?_
  cases c with
  | true => exact hb R A e1 σ H1 F1 _ _ s1 w1 (kr.go g1) fun c2 e2 H2 F2 s2 g2 w2 => k _ _ _ _ s2 (g1.trans g2) w2
  | false => exact k _ _ _ _ s1 g1 w1
theorem sw_or {rest : List Expr} (ha : ST X W G cv a xa) (hb : SW X W G cv (.BoolOp .Or (b :: rest) pos) xb) : SW X W G cv (.BoolOp .Or (a :: b :: rest) pos) (.tor xa xb) := by
  intro R A env σ H F Q Q' s w kr k
  simp only [br_iff, ls_iff, nrm_iff, bk_iff, sf_iff, wT] at w
  refine pW_of (pw_or pt_p pw_p) ?_
  refine ha R A env σ H F _ _ s w kr fun c e1 H1 F1 s1 g1 w1 => ?_
  cases c with
  | true => exact k _ _ _ _ s1 g1 w1
  | false => exact hb R A e1 σ H1 F1 _ _ s1 w1 (kr.go g1) fun c2 e2 H2 F2 s2 g2 w2 => k _ _ _ _ s2 (g1.trans g2) w2
theorem rv_back {K : Fg} {A : AT} {R : Nat → En → Prop} {e0 e1 e2 : En} {σ : L2.St} {H0 F0 H1 F1 H2 F2 : Hp} {v : L2.V} {r : RV} (g : Go e0 σ H0 F0 e1 σ H1 F1) (rv : Rv K H1 e2 σ H2 F2 v r) : Rv K H0 e2 σ H2 F2 v r := by
  cases r with
  | v d => exact rv
  | bor i => exact rv
  | own ds =>
    obtain ⟨p, xs, h1, h2, h3, h4, h5, h6⟩ := rv
    exact ⟨p, xs, h1, h2, h3, h4, g.liv _ h5, h6⟩
theorem se_ite {c : Expr} {xc : DI.X} (hc : ST X W G cv c xc) (ha : SE X W G cv a xa) (hb : SE X W G cv b xb) : SE X W G cv (.IfExp c a b pos) (.ite xc xa xb) := by
  intro R A env σ H F Q Q' s w kr k
  simp only [br_iff, ls_iff, nrm_iff, bk_iff, sf_iff, wE] at w
  refine pX_of (pe_ifExp pt_p pe_p pe_p) ?_
  refine hc R A env σ H F _ _ s w kr fun cc e1 H1 F1 s1 g1 w1 => ?_
  cases cc with
  | true => exact ha R A e1 σ H1 F1 _ _ s1 w1 (kr.go g1) fun rb e2 y H2 F2 s2 g2 rv2 w2 => k rb e2 y H2 F2 s2 (g1.trans g2) (rv_back (A := A) (R := R) g1 rv2) w2
  | false => exact hb R A e1 σ H1 F1 _ _ s1 w1 (kr.go g1) fun rb e2 y H2 F2 s2 g2 rv2 w2 => k rb e2 y H2 F2 s2 (g1.trans g2) (rv_back (A := A) (R := R) g1 rv2) w2
theorem sb_nil : SB X W G cv [] .nil := by
  intro R A env σ H F Q Q' s w _ k
  simp only [wB] at w
  exact pA_of pa_nil (k [] env [] H F s .refl .nil w)
theorem sb_cons (hn : nost a = true) {es : List Expr} {xs : DI.X} (ha : SE X W G cv a xa) (hs : SB X W G cv es xs) : SB X W G cv (a :: es) (.cons xa xs) := by
  intro R A env σ H F Q Q' s w kr k
  simp only [wB] at w
  refine pA_of (pa_cons pe_p pa_p (star1 hn)) ?_
  refine ha R A env σ H F _ _ s w kr fun ra e1 x H1 F1 s1 g1 rv1 w1 => ?_
  obtain ⟨F1', s1', g1', hold1⟩ := s1.hold g1 rv1
  refine hs R A e1 σ H1 F1' _ _ s1' w1 (kr.go g1') fun ds e2 vs H2 F2 s2 g2 f2 w2 => ?_
  obtain ⟨dd, p, q, _⟩ := s2.pk (hold1 e2 H2 F2 g2.ext H) w2
  exact k (dd :: ds) e2 (x :: vs) H2 F2 s2 (g1'.trans g2) (.cons p f2) q
theorem resD_rep {K : Fg} {F : Hp} {σ : L2.St} : ∀ {vs : List L2.V} {rs : List RV} {ds : List D}, Paired (fun v r => (∃ d, r = .v d ∧ Rep K F v d) ∨ ∃ i, r = .bor i ∧ σ[i]? = some (some v)) vs rs → resD rs = some ds → RepL K F vs ds
  | _, _, _, .nil, e => by cases e; exact .nil
  | _, _, _, .cons h t, e => by
    rcases h with ⟨d, rfl, r⟩ | ⟨i, rfl, _⟩
    · simp only [resD, Option.map_eq_some_iff] at e
      obtain ⟨ds', e1, rfl⟩ := e
      exact .cons r (resD_rep t e1)
    · cases e
theorem se_tup {es : List Expr} {xs : DI.X} {k0 : Nat} (hs : SA X W G cv es xs) : SE X W G cv (.Tuple es k0 pos) (.tup xs) := by
  intro R A env σ H F Q Q' s w kr k
  simp only [br_iff, ls_iff, nrm_iff, bk_iff, sf_iff, wE] at w
  refine pX_of (pe_tupN pa_p) ?_
  refine hs R A [] env σ H F _ _ s w kr fun rs e1 vs H1 F1 s1 g1 f1 w1 => ?_
  split at w1
  · rename_i ds e
    have r := resD_rep f1 e
    refine ⟨by rw [r.length]; exact w1.1, fun p ob hd hp => ?_⟩
    obtain ⟨s2, g2, rv⟩ := s1.res g1 (.tup hd hp r)
    exact k _ _ _ _ _ s2 g2 rv w1.2
  · exact w1.elim
theorem se_lst {es : List Expr} {xs : DI.X} (hs : SA X W G cv es xs) : SE X W G cv (.List es pos) (.lst xs) := by
  intro R A env σ H F Q Q' s w kr k
  simp only [br_iff, ls_iff, nrm_iff, bk_iff, sf_iff, wE] at w
  refine pX_of (pe_lst pa_p) ?_
  refine hs R A [] env σ H F _ _ s w kr fun rs e1 vs H1 F1 s1 g1 f1 w1 => ?_
  split at w1
  · rename_i ds e
    have r := resD_rep f1 e
    refine ⟨by rw [r.length]; exact w1.1, fun p hp => ?_⟩
    obtain ⟨s2, g2, rv⟩ := s1.res g1 (.lst hp r)
    exact k _ _ _ _ _ s2 g2 rv w1.2
  · exact w1.elim
def soIx (X : Cx) : R2 := fun x y H Q => ∀ (value slice : Expr) (pins : List (Addr × Obj)) (s : Shared) (σ : L2.St) (v u : Value), Inv X pins σ H s → RelV x v → RelV y u → subscripted slice false v u = operate [v, u] (getItem v u) → wpAny (model X.prog X.w) X.A (subscriptTail value slice v u) (EP X pins σ Q) X.xe s
theorem soIx_ok : IxR X (soIx X) := fun value slice pins s σ H x y v u Q I rx ry h hs => h value slice pins s σ v u I rx ry hs
theorem soIx_of {r : R2} {x y : L2.V} {H : Hp} {Q : VK} (o : IxR X r) (h : r x y H Q) : soIx X x y H Q := fun value slice pins s σ v u I rx ry hs => o value slice pins s σ H x y v u Q I rx ry h hs
def plainIx : Expr → Bool
  | .Slice _ _ _ _ => false
  | _ => true
theorem plainIx_ok {b : Expr} (h : plainIx b = true) : PlainIx b := by
  intro o i
  cases b <;> first | rfl | cases h
theorem se_idx (hp : plainIx b = true) (ha : SE X W G cv a xa) (hb : SE X W G cv b xb) : SE X W G cv (.Subscript a b pos) (.idx xa xb) := by
  intro R A env σ H F Q Q' s w kr k
  simp only [br_iff, ls_iff, nrm_iff, bk_iff, sf_iff, wE] at w
  refine pX_of (pe_ix soIx_ok pe_p pe_p (plainIx_ok hp)) ?_
  refine two ha hb s w kr fun ra rb e2 x y H2 F2 s2 g2 r1 r2 _ q => ?_
  obtain ⟨dx, p1, q, _⟩ := s2.pk r1 q
  obtain ⟨dy, p2, q, _⟩ := s2.pk r2 q
  unfold idxW at q
  split at q
  · obtain ⟨a, xs, rfl, h1, h2⟩ := p1.lst s2.sub
    have e := p2.int; subst e
    obtain ⟨d, hd, q⟩ := q
    obtain ⟨v, e1, e2'⟩ := h2.atI hd
    exact soIx_of ix_list ⟨a, xs, _, v, rfl, rfl, h1, e1, k (.v d) _ _ _ _ s2 g2 e2' q⟩
  · obtain ⟨a, xs, rfl, h1, h2⟩ := p1.tup
    have e := p2.int; subst e
    obtain ⟨d, hd, q⟩ := q
    obtain ⟨v, e1, e2'⟩ := h2.atI hd
    exact soIx_of ix_tup ⟨a, xs, _, v, rfl, rfl, s2.sub.sqT h1.sq, e1, k (.v d) _ _ _ _ s2 g2 e2' q⟩
  · exact q.elim
end
end DI
namespace DI
open PySem L2
open PyProof.Rows hiding St
theorem lex_lt : ∀ (a b p q : List Int), p.length = q.length → Ob.lexAt (fun j => decide ((p ++ a).getD j 0 = (q ++ b).getD j 0)) (fun j => decide ((p ++ a).getD j 0 < (q ++ b).getD j 0)) (decide ((p ++ a).length < (q ++ b).length)) p.length (min a.length b.length) = ltR a b
  | [], [], p, q, h => by
    rw [show min ([] : List Int).length ([] : List Int).length = 0 from rfl, Ob.lexAt_zero]
    simp [ltR, h]
  | [], y :: b, p, q, h => by
    rw [show min ([] : List Int).length (y :: b).length = 0 from by simp, Ob.lexAt_zero]
    simp [ltR, h]
  | x :: a, [], p, q, h => by
    rw [show min (x :: a).length ([] : List Int).length = 0 from by simp, Ob.lexAt_zero]
    simp [ltR, h]
  | x :: a, y :: b, p, q, h => by
    have e1 : (p ++ x :: a).getD p.length 0 = x := by simp [List.getD_eq_getElem?_getD]
    have e2 : (q ++ y :: b).getD p.length 0 = y := by rw [h]; simp [List.getD_eq_getElem?_getD]
    have ih := lex_lt a b (p ++ [x]) (q ++ [y]) (by simp [h])
    simp only [List.append_assoc, List.singleton_append, List.length_append, List.length_singleton] at ih
    rw [show min (x :: a).length (y :: b).length = min a.length b.length + 1 from by rw [List.length_cons, List.length_cons]; omega, Ob.lexAt_succ, e1, e2]
    unfold ltR
    by_cases e : x = y
    · rw [if_pos (decide_eq_true e), if_pos e, ← ih]
      simp [List.length_append, List.length_cons]
    · rw [if_neg (by rw [decide_eq_false e]; simp), if_neg e]
theorem lex_lt0 (a b : List Int) : Ob.lexAt (fun j => decide (a.getD j 0 = b.getD j 0)) (fun j => decide (a.getD j 0 < b.getD j 0)) (decide (a.length < b.length)) 0 (min a.length b.length) = ltR a b := lex_lt a b [] [] rfl
def stepR (m y : List Int) : List Int := if ltR y m then y else m
theorem best_at (a : List Int) (r : List (List Int)) : ∀ k, k ≤ r.length → (a :: r).getD (argBest (fun i j => ltR ((a :: r).getD i []) ((a :: r).getD j [])) k) [] = (r.take k).foldl stepR a
  | 0, _ => by simp [argBest]
  | k + 1, h => by
    have ih := best_at a r k (by omega)
    have hk : k < r.length := by omega
    have e1 : (a :: r).getD (k + 1) [] = r[k] := by simp [List.getD_eq_getElem?_getD, hk]
    rw [List.take_succ, List.getElem?_eq_getElem hk, List.foldl_append]
    show _ = stepR _ _
    rw [← ih]
    show (a :: r).getD (if ltR _ _ = true then k + 1 else _) [] = stepR _ _
    unfold stepR
    rw [e1]
    split
    · rw [e1]
    · rfl
theorem minR_at {ks : List (List Int)} (h : 0 < ks.length) : minR ks = some (ks.getD (argBest (fun i j => ltR (ks.getD i []) (ks.getD j [])) (ks.length - 1)) []) := by
  cases ks with
  | nil => cases h
  | cons a r =>
    have e := best_at a r r.length (Nat.le_refl _)
    rw [List.take_length] at e
    show some (r.foldl stepR a) = _
    rw [show (a :: r).length - 1 = r.length from by simp, e]
section
variable {prog : Program} {w : World} {A : Around} {R : Result → Shared → Prop} {I : Addr} {fp wr : List Addr} {n : Nat} {P : Nat → Value → Prop} {St : Nat → Heap → Prop}
/-- what stands outside the walk's own cells stays -/
def Keeps (wr : List Addr) (h h' : Heap) : Prop := ∀ b o, b ∉ wr → h.get? b = some o → h'.get? b = some o
theorem min_go (W : Walks prog w A.in1 I fp wr n P St) (bt : Nat → Nat → Bool) (hb : Heap) (C : Addr) (nC : C ∉ fp) (fC : hb.get? C = none)
    (cmp : ∀ i j x y (t : Shared) (Q E : Value → Shared → Prop), Keeps wr hb t.heap → P i x → P j y → Q (.bool (bt i j)) t → wpAny (model prog w) A.in1 (richCompare .Lt x y) Q E t) :
    ∀ (m j : Nat) (t : Shared) (best : Value) (c : Nat), n - (j + 1) = m → j + 1 ≤ n → St (j + 1) t.heap → P (argBest bt j) best → t.heap.get? C = some { cls := .type "list", dict := none, data := .seq #[best, best] c, slots := #[] } → Keeps wr hb t.heap →
      (∀ v h' tk, P (argBest bt (n - 1)) v → Keeps wr hb h' → R (.ok (.ret v)) { t with heap := h', toks := tk }) → codeAny (model prog w) A (.builtin "min.loop" ⟨[.ref I, .none, .ref C], []⟩) R t := by
  have wC : C ∉ wr := fun z => nC (W.sub _ z)
  have ne : ∀ {b : Addr} {o : Obj}, hb.get? b = some o → C ≠ b := fun e z => by rw [← z, fC] at e; cases e
  have nm : (toString "min" ++ toString ".loop" : String) = "min.loop" := by decide
  intro m
  induction m with
  | zero =>
    intro j t best c hm hj st pb hC kp hR
    have last : j + 1 = n := by omega
    refine codeAny_builtin F.entry_min_loop ?_; rw [Around.under_plainId F.plain_min_loop _]
    show wpAny _ A.in1 (seqItems? (.ref C) >>= _) _ _ t
    refine wpAny_bind (wpAny_seqItems hC rfl ?_)
    show wpAny _ A.in1 (tryCatch (pyNext (.ref I)) _ >>= _) _ _ t
    refine wpAny_bind (wpAny_tryCatch (W.done t _ _ (last ▸ st) fun h1 tk k1 => ?_))
    have hC1 := k1 C _ wC hC
    show wpAny _ A.in1 (updateSeq C (fun _ => #[]) >>= _) _ _ _
    refine wpAny_bind ?_
    refine wpAny_updateSeq hC1 rfl (wpAny_bind (wpAny_letGo (wpAny_pure ?_)))
    exact hR best _ tk (by rw [← last]; exact pb) fun b o nb e => (Heap.get?_update_other _ _ (ne e)).trans (k1 b o nb (kp b o nb e))
  | succ m ih =>
    intro j t best c hm hj st pb hC kp hR
    have more : j + 1 < n := by omega
    refine codeAny_builtin F.entry_min_loop ?_; rw [Around.under_plainId F.plain_min_loop _]
    show wpAny _ A.in1 (seqItems? (.ref C) >>= _) _ _ t
    refine wpAny_bind (wpAny_seqItems hC rfl ?_)
    show wpAny _ A.in1 (tryCatch (pyNext (.ref I)) _ >>= _) _ _ t
    refine wpAny_bind (wpAny_tryCatch (W.item (j + 1) t _ _ more st fun x h1 tk px st1 k1 => ?_))
    have hC1 := k1 C _ wC hC
    have kp1 : Keeps wr hb h1 := fun b o nb e => k1 b o nb (kp b o nb e)
    show wpAny _ A.in1 (tryCatch (holding [x, x] (richCompare .Lt x best >>= _)) _ >>= _) _ _ _
    refine wpAny_bind (wpAny_tryCatch (wpAny_holding (wpAny_bind (cmp (j + 1) (argBest bt j) x best _ _ _ kp1 px pb ?_))))
    refine wpAny_bind (wpAny_holding (wpAny_truthy_bool ?_)); refine wpAny_bind (wpAny_letGo (wpAny_pure ?_))
    cases eb : bt (j + 1) (argBest bt j) with
    | true =>
      simp only [if_true]
      refine wpAny_bind ?_
      refine wpAny_updateSeq hC1 rfl (wpAny_bind (wpAny_letGo ?_))
      rw [nm]
      refine wpAny_pure ⟨plainId_quiet F.plain_min_loop _, ih (j + 1) _ x _ (by omega) more (W.frame _ _ _ st1 fun b nb o e => ?_) (by simp only [argBest, eb, if_true]; exact px) (Heap.get?_update_self _ hC1 rfl) (fun b o nb e => (Heap.get?_update_other _ _ (ne e)).trans (kp1 b o nb e)) fun v h2 tk2 pv k2 => hR v h2 tk2 pv k2⟩
      exact (Heap.get?_update_other _ _ (fun z : C = b => nC (by rw [z]; exact nb))).trans e
    | false =>
      simp only [if_false, Bool.false_eq_true]
      refine wpAny_bind (wpAny_letGo ?_)
      rw [nm]
      exact wpAny_pure ⟨plainId_quiet F.plain_min_loop _, ih (j + 1) _ best c (by omega) more st1 (by simp only [argBest, eb, Bool.false_eq_true, if_false]; exact pb) hC1 kp1 fun v h2 tk2 pv k2 => hR v h2 tk2 pv k2⟩
end
section
variable {prog : Program} {w : World} {A : Around} {E : Value → Shared → Prop} {s : Shared}
theorem min_kept {x : Value} {Q : Value → Shared → Prop} (h : wpAny (model prog w) A.in1 (pyIter x) (fun it t => ∃ I fp wr n P St bt, it = .ref I ∧ Walks prog w A.in1 I fp wr n P St ∧ St 0 t.heap ∧ (∀ b ∈ fp, b < t.heap.objs.size) ∧ 0 < n ∧
      (∀ i j x y (u : Shared) (Q E : Value → Shared → Prop), Keeps wr t.heap u.heap → P i x → P j y → Q (.bool (bt i j)) u → wpAny (model prog w) A.in1 (richCompare .Lt x y) Q E u) ∧
      ∀ v h' tk, P (argBest bt (n - 1)) v → Keeps wr t.heap h' → Q v { t with heap := h', toks := tk }) E s) : wpAny (model prog w) A (call (.builtin "min") [x]) Q E s := by
  have nm : (toString "min" ++ toString ".loop" : String) = "min.loop" := by decide
  refine call_function_tree F.kind_min F.plain_min F.entry_min (F.args_min1 _) ?_
  show wpAny _ A.in1 (Builtin.Builtins.bindParams "min" ["key", "default"] 0 ⟨[], []⟩ >>= _) _ _ s
  refine wpAny_bind (wpAny_of_eq (show Builtin.Builtins.bindParams "min" ["key", "default"] 0 ⟨[], []⟩ = pure [none, none] from rfl) ?_); refine wpAny_bind (wpAny_pure ?_)
  refine wpAny_bind (wpAny_mono h (fun it t h2 => ?_) fun _ _ e => e)
  obtain ⟨I, fp, wr, n, P, St, bt, rfl, W, st, lt, hn, cmp, fin⟩ := h2
  refine wpAny_bind (wpAny_newObj_type ?_)
  have nC : t.heap.objs.size ∉ fp := fun z => Nat.lt_irrefl _ (lt _ z)
  have wC : t.heap.objs.size ∉ wr := fun z => nC (W.sub _ z)
  have fC : t.heap.get? t.heap.objs.size = none := by
    cases e : t.heap.get? t.heap.objs.size with
    | none => rfl
    | some o => exact absurd (Heap.lt_size e) (Nat.lt_irrefl _)
  have ne : ∀ {b : Addr} {o : Obj}, t.heap.get? b = some o → t.heap.objs.size ≠ b := fun e z => by rw [← z, fC] at e; cases e
  rw [nm]
  refine wpAny_pure ⟨plainId_quiet F.plain_min_loop _, ?_⟩
  refine codeAny_builtin F.entry_min_loop ?_; rw [Around.under_plainId F.plain_min_loop _]
  have hC : (t.heap.push { cls := .type "list", dict := none, data := .seq #[] 0, slots := #[] }).get? t.heap.objs.size = some { cls := .type "list", dict := none, data := .seq #[] 0, slots := #[] } := Heap.get?_push_size _ rfl
  show wpAny _ A.in1 (seqItems? (.ref t.heap.objs.size) >>= _) _ _ _
  refine wpAny_bind (wpAny_seqItems (Heap.get?_push_size _ rfl) rfl ?_)
  show wpAny _ A.in1 (tryCatch (pyNext (.ref I)) _ >>= _) _ _ _
  refine wpAny_bind (wpAny_tryCatch (W.item 0 _ _ _ hn (W.frame _ _ _ st fun b _ o e => Heap.get?_push_of_some _ e) fun v h1 tk pv st1 k1 => ?_))
  have hC1 := k1 _ _ wC (Heap.get?_push_size _ rfl)
  have kp1 : Keeps wr t.heap h1 := fun b o nb e => k1 b o nb (Heap.get?_push_of_some _ e)
  show wpAny _ A.in1 (updateSeq t.heap.objs.size (fun _ => #[v, v]) >>= _) _ _ _
  refine wpAny_bind ?_
  refine wpAny_updateSeq hC1 rfl ?_
  rw [nm]
  refine wpAny_pure ⟨plainId_quiet F.plain_min_loop _, min_go W bt t.heap t.heap.objs.size nC fC cmp _ 0 _ v _ rfl hn (W.frame _ _ _ st1 fun b nb o e => ?_) pv (Heap.get?_update_self _ hC1 rfl) (fun b o nb e => (Heap.get?_update_other _ _ (ne e)).trans (kp1 b o nb e)) fun v' h2 tk2 pv' k2 => fin v' h2 tk2 pv' k2⟩
  exact (Heap.get?_update_other _ _ (fun z : t.heap.objs.size = b => nC (by rw [z]; exact nb))).trans e
end
section
variable {X : Cx}
/-- rows of ints at these places of the heap: what the walk's items are compared by -/
theorem lt_rows {X : Cx} {pins : List (Addr × Obj)} {σ : L2.St} {H : Hp} {s u : Shared} {A : Around} {a b : Addr} {ns ms : List Int} (I : Inv X pins σ H s) (hu : A.units < cLine) (ha : SqT X.K H a (ns.map V.int)) (hb : SqT X.K H b (ms.map V.int))
    (ka : ∀ o, s.heap.get? a = some o → u.heap.get? a = some o) (kb : ∀ o, s.heap.get? b = some o → u.heap.get? b = some o) {Q E : Value → Shared → Prop} (q : Q (.bool (ltR ns ms)) u) : wpAny (model X.prog X.w) A (richCompare .Lt (.ref a) (.ref b)) Q E u := by
  obtain ⟨its, r1, p1, _⟩ := I.tuple ha
  obtain ⟨its2, r2, p2, _⟩ := I.tuple hb
  have q1 : u.heap.IsTuple a its.toArray := let ⟨o, e, r⟩ := p1; ⟨o, ka o e, r⟩
  have q2 : u.heap.IsTuple b its2.toArray := let ⟨o, e, r⟩ := p2; ⟨o, kb o e, r⟩
  have i1 : IntsAre its ns := Vals.ints r1
  have i2 : IntsAre its2 ms := Vals.ints r2
  have e1 : its.toArray.size = ns.length := by rw [List.size_toArray]; exact i1.length
  have e2 : its2.toArray.size = ms.length := by rw [List.size_toArray]; exact i2.length
  have at1 : ∀ j (h : j < its.toArray.size), ∃ t, its.toArray[j] = .int (ns.getD j 0) t := fun j h => PyProof.Rows.IntsAre.int_at i1 _ _ (by simp at h; simp [h])
  have at2 : ∀ j (h : j < its2.toArray.size), ∃ t, its2.toArray[j] = .int (ms.getD j 0) t := fun j h => PyProof.Rows.IntsAre.int_at i2 _ _ (by simp at h; simp [h])
  have R := Ob.RcOp.tuples_lt (A := A) (s := u) (e := fun j => decide (ns.getD j 0 = ms.getD j 0)) (r := fun j => decide (ns.getD j 0 < ms.getD j 0)) q1 q2 hu (fun j h1 h2 => by
    obtain ⟨t, et⟩ := at1 j h1
    obtain ⟨t2, et2⟩ := at2 j h2
    rw [et, et2]
    have z : (ns.getD j 0 == ms.getD j 0) = decide (ns.getD j 0 = ms.getD j 0) := by
      by_cases g : ns.getD j 0 = ms.getD j 0
      · rw [decide_eq_true g]; exact beq_iff_eq.mpr g
      · rw [decide_eq_false g]; exact beq_eq_false_iff_ne.mpr g
    rw [← z]; exact SeqAt.EqAt.int_int _ _ _ _) (fun j h1 h2 _ => by
    obtain ⟨t, et⟩ := at1 j h1
    obtain ⟨t2, et2⟩ := at2 j h2
    rw [et, et2]; exact Ob.RcOp.lt_int _ _ _ _)
  refine R X.prog X.w E Q ?_
  rw [e1, e2, lex_lt0]; exact q
def rMinR (K : Fg) : List V → Hp → VK → Prop := fun vs H Q => ∃ (a : Addr) (ps : List (Addr × List Int)), vs = [V.ref a] ∧ (SqL K H a (ps.map fun p => V.ref p.1) ∨ SqT K H a (ps.map fun p => V.ref p.1)) ∧ (∀ p ∈ ps, SqT K H p.1 (p.2.map V.int)) ∧ 0 < ps.length ∧
  ∀ p ∈ ps, minR (ps.map (·.2)) = some p.2 → Q (.ref p.1) H
theorem cr_minR (hc : X.calm = true) (hu : X.A.units + 66 < cLine) : CallR X (.builtin "min") (rMinR X.K) := by
  intro pins s σ H vs us Q I r ⟨a, ps, e, hs, hp, hn, q⟩
  subst e
  rw [Vals.ref1 r]
  have un : X.A.in1.units < cLine := by rw [Around.in1_units]; omega
  have old : s.heap.get? s.heap.objs.size = none := by
    cases e : s.heap.get? s.heap.objs.size with
    | none => rfl
    | some o => exact absurd (Heap.lt_size e) (Nat.lt_irrefl _)
  have kept : ∀ (it : Obj) (h' : Heap), Keeps [s.heap.objs.size] (s.heap.push it) h' → ∀ b o, s.heap.get? b = some o → h'.get? b = some o := fun it h' k b o e =>
    k b o (fun z => by rw [List.mem_singleton.mp z, old] at e; cases e) (Heap.get?_push_of_some _ e)
  have inside : ∀ {b : Addr} {items : Array Value} {tt : Obj}, b < s.heap.objs.size → ∀ c ∈ [s.heap.objs.size, b], c < (s.heap.push tt).objs.size := fun {b items tt} lt c hc => by
    rw [Heap.size_push]
    simp only [List.mem_cons, List.not_mem_nil, or_false] at hc
    rcases hc with rfl | rfl
    · exact Nat.lt_succ_self _
    · exact Nat.lt_succ_of_lt lt
  have pick : ∀ {items : Array Value} {i : Nat} {x : Value}, items.toList = ps.map (fun p => Value.ref p.1) → items[i]? = some x → ∃ p, ps[i]? = some p ∧ x = .ref p.1 := fun {items i x} h1 h2 => by
    have h3 : items.toList[i]? = some x := by simpa using h2
    rw [h1, List.getElem?_map] at h3
    obtain ⟨p, g, rfl⟩ := Option.map_eq_some_iff.mp h3
    exact ⟨p, g, rfl⟩
  have cmp : ∀ (items : Array Value) (it : Obj), items.toList = ps.map (fun p => Value.ref p.1) → ∀ i j x y (u : Shared) (Q E : Value → Shared → Prop), Keeps [s.heap.objs.size] (s.heap.push it) u.heap → items[i]? = some x → items[j]? = some y →
      Q (.bool (ltR ((ps.map (·.2)).getD i []) ((ps.map (·.2)).getD j []))) u → wpAny (model X.prog X.w) X.A.in1 (richCompare .Lt x y) Q E u := fun items it hi i j x y u Q E k hx hy q => by
    obtain ⟨p, g1, rfl⟩ := pick hi hx
    obtain ⟨p2, g2, rfl⟩ := pick hi hy
    have m1 : p ∈ ps := List.mem_of_getElem? g1
    have m2 : p2 ∈ ps := List.mem_of_getElem? g2
    have e1 : (ps.map (·.2)).getD i [] = p.2 := by rw [List.getD_eq_getElem?_getD, List.getElem?_map, g1]; rfl
    have e2 : (ps.map (·.2)).getD j [] = p2.2 := by rw [List.getD_eq_getElem?_getD, List.getElem?_map, g2]; rfl
    rw [e1, e2] at q
    exact lt_rows I un (hp p m1) (hp p2 m2) (fun o e => kept it _ k _ _ e) (fun o e => kept it _ k _ _ e) q
  have fin : ∀ (items : Array Value) (it : Obj), items.toList = ps.map (fun p => Value.ref p.1) → ∀ v h' tk, items[argBest (fun i j => ltR ((ps.map (·.2)).getD i []) ((ps.map (·.2)).getD j [])) (items.size - 1)]? = some v → Keeps [s.heap.objs.size] (s.heap.push it) h' →
      EP X pins σ Q v { s with heap := h', toks := tk } := fun items it hi v h' tk hv k => by
    obtain ⟨p, g, rfl⟩ := pick hi hv
    refine ⟨.ref p.1, H, I.kept (kept it h' k), rfl, q p (List.mem_of_getElem? g) ?_⟩
    have hz : items.size = (ps.map (·.2)).length := by rw [← Array.length_toList, hi]; simp
    rw [minR_at (by simpa using hn), ← hz, List.getD_eq_getElem?_getD, List.getElem?_map, g]; rfl
  rcases hs with hs | hs
  · obtain ⟨its, rv, pl, _⟩ := I.list hs
    have hi : its.toArray.toList = ps.map (fun p => Value.ref p.1) := by simpa using refs_of_vals rv
    have hz : 0 < its.toArray.size := by rw [← Array.length_toList, hi]; simpa using hn
    have pa : s.heap.IsList a its.toArray := pl.isList
    have lt : a < s.heap.objs.size := by obtain ⟨_, e, _⟩ := id pa; exact Heap.lt_size e
    exact min_kept (wpAny_pyIter_list pa ⟨_, _, _, _, _, _, _, rfl, Walks.list (A := X.A.in1) (I.ok.hd hc) _ a (Nat.ne_of_lt lt) its.toArray, ⟨⟨_, Heap.get?_push_size _ rfl, rfl, rfl⟩, pa.push _⟩, inside (items := its.toArray) lt, hz, cmp its.toArray _ hi, fin its.toArray _ hi⟩)
  · obtain ⟨its, rv, pl, _⟩ := I.tuple hs
    have hi : its.toArray.toList = ps.map (fun p => Value.ref p.1) := by simpa using refs_of_vals rv
    have hz : 0 < its.toArray.size := by rw [← Array.length_toList, hi]; simpa using hn
    have pa : s.heap.IsTuple a its.toArray := pl
    have lt : a < s.heap.objs.size := by obtain ⟨_, e, _⟩ := id pa; exact Heap.lt_size e
    exact min_kept (wpAny_pyIter_tuple pa ⟨_, _, _, _, _, _, _, rfl, Walks.tuple (A := X.A.in1) (I.ok.hd hc) _ a (Nat.ne_of_lt lt) its.toArray, ⟨⟨_, Heap.get?_push_size _ rfl, rfl, rfl⟩, pa.push _⟩, inside (items := its.toArray) lt, hz, cmp its.toArray _ hi, fin its.toArray _ hi⟩)
end
end DI
namespace DI
open PySem L2
open PyProof.Rows hiding St
section
variable {X : Cx} {W : WX} {G : Nat → Fn} {cv : CV} {H F : Hp}
theorem repr_ref (hg : X.A.guards = some []) (hu : X.A.units + 66 < cLine) : CallR X (.builtin "repr") (fun xs H Q => ∃ (a : Addr) (d : D), xs = [.ref a] ∧ Rep X.K H (.ref a) d ∧ (d.showable = true ∧ (d.hasDict = false ∨ noL d = true) ∧ d.depth ≤ 64 ∧ d.shown.length ≤ sizeLine) ∧ Q (.str d.shown) H) := by
  intro pins s σ H xs us Q I r ⟨a, d, h1, h2, ⟨c1, c2, c3, c4⟩, q⟩
  subst h1
  rw [Vals.ref1 r]
  rcases c2 with c2 | c2
  · obtain ⟨as, rd⟩ := Rep.reads I h2 (show RelV (.ref a) (.ref a) from rfl) (fit_dict c2)
    exact repr_of_reads' rd c1 (fun z => by rw [c2] at z; cases z) hg (by omega) (fun _ _ z => z) (fun h' u tk hk => ⟨.str _, H, I.kept hk, ⟨u, rfl⟩, q⟩) c4
  · obtain ⟨as, rd, nm⟩ := Rep.reads2 I h2 (show RelV (.ref a) (.ref a) from rfl) c2
    exact repr_of_reads' rd c1 (fun _ => nm) hg (by omega) (fun _ _ z => z) (fun h' u tk hk => ⟨.str _, H, I.kept hk, ⟨u, rfl⟩, q⟩) c4
theorem repr_any (hg : X.A.guards = some []) (hu : X.A.units + 66 < cLine) : CallR X (.builtin "repr") (fun xs H Q => ∃ (x : L2.V) (d : D), xs = [x] ∧ Rep X.K H x d ∧ (d.showable = true ∧ (d.hasDict = false ∨ noL d = true) ∧ d.depth ≤ 64 ∧ d.shown.length ≤ sizeLine) ∧ Q (.str d.shown) H) := by
  intro pins s σ H xs us Q I r ⟨x, d, h1, h2, c, q⟩
  subst h1
  cases r with
  | cons r1 rr =>
    cases rr
    cases h2 with
    | non =>
      cases r1
      rw [PyData.shown_none] at q
      exact PySem.P.repr_of_none ⟨.str _, H, I.tok _, ⟨_, rfl⟩, q⟩
    | bl b =>
      cases r1
      rw [PyData.shown_bool] at q
      exact PySem.P.repr_of_bool ⟨.str _, H, I.tok _, ⟨_, rfl⟩, by cases b <;> exact q⟩
    | int i =>
      obtain ⟨t, rfl⟩ := r1
      rw [PyData.shown_int] at q
      have c1 : i.natAbs.log2 < 1920 := by have := c.1; simpa [PyData.showable] using this
      exact PySem.P.repr_of_int c1 ⟨.str _, H, I.tok _, ⟨_, rfl⟩, q⟩
    | str z =>
      obtain ⟨t, rfl⟩ := r1
      have c4 := c.2.2.2
      rw [PyData.shown_str] at q c4
      exact PySem.P.repr_of_str ⟨.str _, H, I.tok _, ⟨_, rfl⟩, q⟩ c4
    | lsq h1 h2 => exact repr_ref hg hu pins s σ H _ _ Q I (.cons r1 .nil) ⟨_, _, rfl, .lsq h1 h2, c, q⟩
    | tup h1 h2 => exact repr_ref hg hu pins s σ H _ _ Q I (.cons r1 .nil) ⟨_, _, rfl, .tup h1 h2, c, q⟩
    | dic h1 => exact repr_ref hg hu pins s σ H _ _ Q I (.cons r1 .nil) ⟨_, _, rfl, .dic h1, c, q⟩
    | exc h0 h1 => exact repr_ref hg hu pins s σ H _ _ Q I (.cons r1 .nil) ⟨_, _, rfl, .exc h0 h1, c, q⟩
def biV : Bi → Option Value
  | .len => some (.builtin "len") | .abs => some (.builtin "abs") | .min2 => some (.builtin "min") | .max2 => some (.builtin "max") | .min1 => some (.builtin "min") | .max1 => some (.builtin "max")
  | .int => some (.type "int") | .bool => some (.type "bool") | .sum => some (.builtin "sum") | .all => some (.builtin "all") | .any => some (.builtin "any")
  | .tuple => some (.type "tuple") | .list => some (.type "list") | .repr => some (.builtin "repr") | .str => some (.type "str") | .bits => none | .sorted => some (.builtin "sorted") | .isi _ => none
theorem RepL.bools {K : Fg} {F : Hp} : ∀ {xs : List L2.V} {ds : List D} {ns : List Bool}, RepL K F xs ds → boolsOf ds = some ns → xs = ns.map L2.V.bl
  | _, _, _, .nil, e => by cases e; rfl
  | _, _, _, .cons h t, e => by
    cases h with
    | bl i =>
      simp only [boolsOf, Option.map_eq_some_iff] at e
      obtain ⟨ns', e1, rfl⟩ := e
      rw [RepL.bools t e1]; rfl
    | _ => cases e
theorem maxL_pos {ns : List Int} {m : Int} (h : maxL ns = some m) : 0 < ns.length := by
  cases ns with
  | nil => cases h
  | cons a r => exact Nat.succ_pos _
theorem minL_pos {ns : List Int} {m : Int} (h : minL ns = some m) : 0 < ns.length := by
  cases ns with
  | nil => cases h
  | cons a r => exact Nat.succ_pos _
theorem fmax_top : ∀ (r : List Int) (a : Int), (a ≤ r.foldl (fun m y => if m < y then y else m) a) ∧ (∀ y ∈ r, y ≤ r.foldl (fun m y => if m < y then y else m) a) ∧ (r.foldl (fun m y => if m < y then y else m) a = a ∨ r.foldl (fun m y => if m < y then y else m) a ∈ r) := by
  intro r
  induction r with
  | nil => intro a; exact ⟨Int.le_refl _, fun y h => (nomatch h), Or.inl rfl⟩
  | cons z r ih =>
    intro a
    rw [List.foldl_cons]
    by_cases hz : a < z
    · rw [if_pos hz]
      obtain ⟨h1, h2, h3⟩ := ih z
      refine ⟨by omega, fun y hy => ?_, Or.inr ?_⟩
      · rcases List.mem_cons.mp hy with rfl | hy
        · exact h1
        · exact h2 y hy
      · rcases h3 with h3 | h3
        · rw [h3]; exact List.mem_cons_self
        · exact List.mem_cons_of_mem _ h3
    · rw [if_neg hz]
      obtain ⟨h1, h2, h3⟩ := ih a
      refine ⟨h1, fun y hy => ?_, ?_⟩
      · rcases List.mem_cons.mp hy with rfl | hy
        · omega
        · exact h2 y hy
      · exact h3.imp id (List.mem_cons_of_mem _)
theorem fmin_top : ∀ (r : List Int) (a : Int), (r.foldl (fun m y => if y < m then y else m) a ≤ a) ∧ (∀ y ∈ r, r.foldl (fun m y => if y < m then y else m) a ≤ y) ∧ (r.foldl (fun m y => if y < m then y else m) a = a ∨ r.foldl (fun m y => if y < m then y else m) a ∈ r) := by
  intro r
  induction r with
  | nil => intro a; exact ⟨Int.le_refl _, fun y h => (nomatch h), Or.inl rfl⟩
  | cons z r ih =>
    intro a
    rw [List.foldl_cons]
    by_cases hz : z < a
    · rw [if_pos hz]
      obtain ⟨h1, h2, h3⟩ := ih z
      refine ⟨by omega, fun y hy => ?_, Or.inr ?_⟩
      · rcases List.mem_cons.mp hy with rfl | hy
        · exact h1
        · exact h2 y hy
      · rcases h3 with h3 | h3
        · rw [h3]; exact List.mem_cons_self
        · exact List.mem_cons_of_mem _ h3
    · rw [if_neg hz]
      obtain ⟨h1, h2, h3⟩ := ih a
      refine ⟨h1, fun y hy => ?_, ?_⟩
      · rcases List.mem_cons.mp hy with rfl | hy
        · omega
        · exact h2 y hy
      · exact h3.imp id (List.mem_cons_of_mem _)
theorem maxL_is {ns : List Int} {m m' : Int} (h : maxL ns = some m) (h1 : m' ∈ ns) (h2 : ∀ y, y ∈ ns → y ≤ m') : m' = m := by
  cases ns with
  | nil => cases h
  | cons a r =>
    injection h with h
    obtain ⟨a1, a2, a3⟩ := fmax_top r a
    rw [h] at a1 a2 a3
    have b1 : m ≤ m' := by
      rcases a3 with a3 | a3
      · rw [a3]; exact h2 a List.mem_cons_self
      · exact h2 m (List.mem_cons_of_mem _ a3)
    have b2 : m' ≤ m := by
      rcases List.mem_cons.mp h1 with rfl | h1
      · exact a1
      · exact a2 m' h1
    omega
theorem minL_is {ns : List Int} {m m' : Int} (h : minL ns = some m) (h1 : m' ∈ ns) (h2 : ∀ y, y ∈ ns → m' ≤ y) : m' = m := by
  cases ns with
  | nil => cases h
  | cons a r =>
    injection h with h
    obtain ⟨a1, a2, a3⟩ := fmin_top r a
    rw [h] at a1 a2 a3
    have b1 : m' ≤ m := by
      rcases a3 with a3 | a3
      · rw [a3]; exact h2 a List.mem_cons_self
      · exact h2 m (List.mem_cons_of_mem _ a3)
    have b2 : m ≤ m' := by
      rcases List.mem_cons.mp h1 with rfl | h1
      · exact a1
      · exact a2 m' h1
    omega
theorem minR_pos {ps : List (Addr × List Int)} {m : List Int} (h : minR (ps.map (·.2)) = some m) : 0 < ps.length := by
  cases ps with
  | nil => cases h
  | cons a r => exact Nat.succ_pos _
theorem RepL.ofStrs {K : Fg} {F : Hp} : ∀ zs : List Str, RepL K F (zs.map L2.V.str) (zs.map PyData.str)
  | [] => .nil
  | z :: r => .cons (.str z) (RepL.ofStrs r)
theorem RepL.strs {K : Fg} {F : Hp} : ∀ {xs : List L2.V} {ds : List D} {zs : List Str}, RepL K F xs ds → strsOf ds = some zs → xs = zs.map L2.V.str
  | _, _, _, .nil, e => by cases e; rfl
  | _, _, _, .cons h t, e => by
    cases h with
    | str z =>
      simp only [strsOf, Option.map_eq_some_iff] at e
      obtain ⟨zs', e1, rfl⟩ := e
      rw [RepL.strs t e1]; rfl
    | _ => cases e
theorem RepL.ofInts {K : Fg} {F : Hp} : ∀ ns : List Int, RepL K F (ns.map L2.V.int) (ns.map PyData.int)
  | [] => .nil
  | n :: r => .cons (.int n) (RepL.ofInts r)
theorem RepL.rowsP {K : Fg} {F : Hp} : ∀ {xs : List L2.V} {ds : List D} {ks : List (List Int)}, RepL K F xs ds → rowsOf ds = some ks → ∃ ps : List (Addr × List Int), xs = ps.map (fun p => L2.V.ref p.1) ∧ (∀ p ∈ ps, SqTn K F p.1 (p.2.map L2.V.int)) ∧ ps.map (·.2) = ks
  | _, _, _, .nil, e => by cases e; exact ⟨[], rfl, fun _ h => (nomatch h), rfl⟩
  | _, _, _, .cons h t, e => by
    simp only [rowsOf] at e
    split at e
    · rename_i k ks' e1 e2
      cases e
      obtain ⟨ps, h1, h2, h3⟩ := RepL.rowsP t e2
      cases h with
      | tup hs hr =>
        have e3 := hr.ints e1
        subst e3
        exact ⟨(_, k) :: ps, by rw [h1]; rfl, fun p hp => by
          rcases List.mem_cons.mp hp with rfl | hp
          · exact hs
          · exact h2 p hp, by rw [List.map_cons, h3]⟩
      | _ => cases e1
    · cases e
theorem str_bl : CallR X (.type "str") (fun xs H Q => ∃ b, xs = [.bl b] ∧ Q (.str (if b = true then "True" else "False")) H) := by
  intro pins s σ H xs us Q I r ⟨b, h1, q⟩
  subst h1
  cases r with
  | cons r1 rr =>
    cases rr; cases r1
    exact PySem.P.str_of_bool ⟨.str _, H, I.tok _, ⟨_, rfl⟩, q⟩
theorem bi_sound (hc : X.calm = true) (hg : X.A.guards = some []) (hu : X.A.units + 66 < cLine) {b : Bi} {f : Value} (hb : biV b = some f) {vs : List L2.V} {ds : List D} {Q : RV → Prop} (s : Sub F H) (p : Paired (fun v d => Pk X.K H F v d) vs ds) (q : biW b ds Q)
    {Q' : VK} (k : ∀ r v H' F', Res X.K H F r v H' F' → Q r → Q' v H') : soC X f vs H Q' := by
  unfold biW at q
  split at q
  · cases hb; cases p with
    | cons h t => cases t; obtain ⟨a, xs, rfl, h1, h2⟩ := h.lst s; exact soC_of call_len_seq ⟨a, xs, rfl, .inl h1, by rw [h2.length]; exact k _ _ _ _ (.same (.int _)) q⟩
  · cases hb; cases p with
    | cons h t => cases t; obtain ⟨a, xs, rfl, h1, h2⟩ := h.tup; exact soC_of call_len_seq ⟨a, xs, rfl, .inr (s.sqT h1.sq), by rw [h2.length]; exact k _ _ _ _ (.same (.int _)) q⟩
  · cases hb; cases p with
    | cons h t => cases t; rw [h.str]; exact soC_of call_len_str ⟨_, rfl, q.1, k _ _ _ _ (.same (.int _)) q.2⟩
  · cases hb; cases p with
    | cons h t => cases t; rw [h.int]; exact soC_of call_abs ⟨_, rfl, k _ _ _ _ (.same (.int _)) q⟩
  · cases hb; cases p with
    | cons h t => cases t with
      | cons h2 t => cases t; rw [h.int, h2.int]; exact soC_of (call_min2 hc) ⟨_, _, rfl, k _ _ _ _ (.same (.int _)) q⟩
  · cases hb; cases p with
    | cons h t => cases t with
      | cons h2 t => cases t; rw [h.int, h2.int]; exact soC_of (call_max2 hc) ⟨_, _, rfl, k _ _ _ _ (.same (.int _)) q⟩
  · cases hb; cases p with
    | cons h t =>
      cases t; obtain ⟨a, xs, rfl, h1, h2⟩ := h.lst s
      rcases q with ⟨ns, m, e, em, q⟩ | ⟨ks, m, e, em, q⟩
      · rw [h2.ints e] at h1
        exact soC_of (cr_min hc) ⟨a, ns, rfl, h1, minL_pos em, fun m' h3 h4 => by rw [minL_is em h3 h4]; exact k _ _ _ _ (.same (.int _)) q⟩
      obtain ⟨ps, rfl, h3, rfl⟩ := h2.rowsP e
      exact soC_of (cr_minR hc hu) ⟨a, ps, rfl, .inl h1, fun p hp => s.sqT (h3 p hp).sq, minR_pos em, fun p hp hm => by rw [em] at hm; cases hm; exact k _ _ _ _ (.same (.tup (h3 p hp) (RepL.ofInts _))) q⟩
  · cases hb; cases p with
    | cons h t =>
      cases t; obtain ⟨a, xs, rfl, h1, h2⟩ := h.tup
      obtain ⟨ks, m, e, em, q⟩ := q
      obtain ⟨ps, rfl, h3, rfl⟩ := h2.rowsP e
      exact soC_of (cr_minR hc hu) ⟨a, ps, rfl, .inr (s.sqT h1.sq), fun p hp => s.sqT (h3 p hp).sq, minR_pos em, fun p hp hm => by rw [em] at hm; cases hm; exact k _ _ _ _ (.same (.tup (h3 p hp) (RepL.ofInts _))) q⟩
  · cases hb; cases p with
    | cons h t =>
      cases t; obtain ⟨a, xs, rfl, h1, h2⟩ := h.lst s
      obtain ⟨ns, e, m, em, q⟩ := q
      rw [h2.ints e] at h1
      exact soC_of (cr_max hc) ⟨a, ns, rfl, h1, maxL_pos em, fun m' h3 h4 => by rw [maxL_is em h3 h4]; exact k _ _ _ _ (.same (.int _)) q⟩
  · cases hb; cases p with
    | cons h t => cases t; rw [h.int]; exact soC_of call_int1 (.inl ⟨_, rfl, k _ _ _ _ (.same (.int _)) q⟩)
  · cases hb; cases p with
    | cons h t => cases t; rw [h.bl]; exact soC_of call_int1 (.inr ⟨_, rfl, k _ _ _ _ (.same (.int _)) q⟩)
  · cases hb; cases p with
    | cons h t =>
      cases t
      rw [h.str]
      obtain ⟨n, e, c1, q⟩ := q
      exact soC_of call_int_str ⟨_, n, rfl, e, c1, k _ _ _ _ (.same (.int _)) q⟩
  · cases hb; cases p with
    | cons h t =>
      cases t
      rw [h.bl]
      exact soC_of str_bl ⟨_, rfl, k _ _ _ _ (.same (.str _)) q⟩
  · cases hb; cases p with
    | cons h t =>
      cases t
      rw [h.int]
      obtain ⟨c1, q⟩ := q
      exact soC_of call_str_int ⟨_, rfl, c1, k _ _ _ _ (.same (.str _)) q⟩
  · cases hb; cases p with
    | cons h t => cases t; rw [h.int]; exact soC_of call_bool1 (.inl ⟨_, rfl, k _ _ _ _ (.same (.bl _)) q⟩)
  · cases hb; cases p with
    | cons h t => cases t; rw [h.bl]; exact soC_of call_bool1 (.inr ⟨_, rfl, k _ _ _ _ (.same (.bl _)) q⟩)
  · cases hb; cases p with
    | cons h t =>
      cases t; obtain ⟨a, xs, rfl, h1, h2⟩ := h.lst s
      obtain ⟨ns, e, q⟩ := q
      rw [h2.ints e] at h1
      exact soC_of (cr_sum hc) ⟨a, ns, rfl, h1, k _ _ _ _ (.same (.int _)) q⟩
  · cases hb; cases p with
    | cons h t =>
      cases t; obtain ⟨a, xs, rfl, h1, h2⟩ := h.lst s
      obtain ⟨ns, e, q⟩ := q
      rw [h2.bools e] at h1
      exact soC_of (cr_all hc) ⟨a, ns, rfl, h1, k _ _ _ _ (.same (.bl _)) q⟩
  · cases hb; cases p with
    | cons h t =>
      cases t; obtain ⟨a, xs, rfl, h1, h2⟩ := h.lst s
      obtain ⟨ns, e, q⟩ := q
      rw [h2.bools e] at h1
      exact soC_of (cr_any hc) ⟨a, ns, rfl, h1, k _ _ _ _ (.same (.bl _)) q⟩
  · cases hb; cases p with
    | cons h t => cases t; obtain ⟨a, xs, rfl, h1, h2⟩ := h.lst s; exact soC_of call_tupleN ⟨a, xs, rfl, .inl ⟨h1, fun l ob hd hl => k _ _ _ _ (.tup hd hl h2) q⟩⟩
  · cases hb; cases p with
    | cons h t => cases t; obtain ⟨a, xs, rfl, h1, h2⟩ := h.tup; exact soC_of call_tupleN ⟨a, xs, rfl, .inr ⟨s.sqT h1.sq, k _ _ _ _ (.same (.tup h1 h2)) q⟩⟩
  · cases hb; cases p with
    | cons h t => cases t; obtain ⟨a, xs, rfl, h1, h2⟩ := h.lst s; exact soC_of call_list_of ⟨a, xs, rfl, .inl h1, fun l hl => k _ _ _ _ (.lst hl h2) q⟩
  · cases hb; cases p with
    | cons h t => cases t; obtain ⟨a, xs, rfl, h1, h2⟩ := h.tup; exact soC_of call_list_of ⟨a, xs, rfl, .inr (s.sqT h1.sq), fun l hl => k _ _ _ _ (.lst hl h2) q⟩
  · cases hb; cases p with
    | cons h t =>
      cases t
      rw [h.int]
      obtain ⟨c1, q⟩ := q
      have hk := k _ _ _ _ (.same (.str _)) q
      rw [PyData.shown_int] at hk
      exact soC_of SkE.call_repr_int ⟨_, rfl, c1, hk⟩
  · cases hb; cases p with
    | cons h t =>
      cases t
      obtain ⟨qc, q⟩ := q
      exact soC_of (repr_any hg hu) ⟨_, _, rfl, h.rep s, qc, k _ _ _ _ (.same (.str _)) q⟩
  · cases hb
  · cases hb; cases p with
    | cons h t =>
      cases t; obtain ⟨a, xs, rfl, h1, h2⟩ := h.lst s
      cases q with
      | tx zs e hl q =>
        rw [h2.strs e] at h1
        exact soC_of cr_sortedS ⟨a, zs, rfl, h1, hl, fun ys l hp hs hf => k _ _ _ _ (.lst hf (RepL.ofStrs ys)) (q ys hp hs)⟩
      | ns ns e q =>
        rw [h2.ints e] at h1
        exact soC_of cr_sortedI ⟨a, ns, rfl, h1, fun ms p hp hs hf => k _ _ _ _ (.lst hf (RepL.ofInts ms)) (q ms hp hs)⟩
  · cases hb
  · exact q.elim
theorem se_bi1 (hc : X.calm = true) (hg : X.A.guards = some []) (hu : X.A.units + 66 < cLine) {b : Bi} {id : String} (hb : biV b = some (.builtin id)) {x : Str} {p pos : Pos} {e : Expr} {es : List Expr} {xs : DI.X} (hgl : Gl X x) (hm : X.mg x = none) (hv : bootBuiltins x = some (.builtin id))
    (hn : x ≠ "__name__") (hd : (x == ("__debug__" : Str)) = false) (hst : (e :: es).all nost = true) (ha : SB X W G cv (e :: es) xs) : SE X W G cv (.Call (.Name x p) (e :: es) [] pos) (.bi b xs) := by
  intro R A env σ H F Q Q' s w kr k
  simp only [br_iff, ls_iff, nrm_iff, bk_iff, sf_iff, wE] at w
  rw [List.all_cons, Bool.and_eq_true] at hst
  refine pX_of (pe_callB soC_ok hgl hm hv pa_p hn hd (star1 hst.1) (noany hst.2)) ?_
  refine ha R A env σ H F _ _ s w kr fun ds e1 vs H1 F1 s1 g1 f1 w1 => ?_
  refine bi_sound hc hg hu hb s1.sub f1 w1 fun r v H' F' rs q => ?_
  obtain ⟨s2, g2, rv⟩ := s1.res g1 rs
  exact k _ _ _ _ _ s2 g2 rv q
theorem se_bi2 (hc : X.calm = true) (hg : X.A.guards = some []) (hu : X.A.units + 66 < cLine) {b : Bi} {id : String} (hb : biV b = some (.type id)) {x : Str} {p pos : Pos} {e : Expr} {es : List Expr} {xs : DI.X} (hgl : Gl X x) (hm : X.mg x = none) (hv : bootBuiltins x = some (.type id))
    (hn : x ≠ "__name__") (hd : (x == ("__debug__" : Str)) = false) (hst : (e :: es).all nost = true) (ha : SB X W G cv (e :: es) xs) : SE X W G cv (.Call (.Name x p) (e :: es) [] pos) (.bi b xs) := by
  intro R A env σ H F Q Q' s w kr k
  simp only [br_iff, ls_iff, nrm_iff, bk_iff, sf_iff, wE] at w
  rw [List.all_cons, Bool.and_eq_true] at hst
  refine pX_of (pe_callTy soC_ok hgl hm hv pa_p hn hd (star1 hst.1) (noany hst.2)) ?_
  refine ha R A env σ H F _ _ s w kr fun ds e1 vs H1 F1 s1 g1 f1 w1 => ?_
  refine bi_sound hc hg hu hb s1.sub f1 w1 fun r v H' F' rs q => ?_
  obtain ⟨s2, g2, rv⟩ := s1.res g1 rs
  exact k _ _ _ _ _ s2 g2 rv q
/-- x.bit_length() -/
theorem se_bits {o : Expr} {xo : DI.X} {apos pos : Pos} (hbase : attributeBase o "bit_length" X.env (eval o X.env) = eval o X.env) (hl : (apos.endLine == pos.line) = true) (ho : SE X W G cv o xo) : SE X W G cv (.Call (.Attribute o "bit_length" apos) [] [] pos) (.bi .bits (.cons xo .nil)) := by
  intro R A env σ H F Q Q' s w kr k
  simp only [br_iff, ls_iff, nrm_iff, bk_iff, sf_iff, wE, wB] at w
  refine pX_of (pe_bits pe_p hbase hl) ?_
  refine ho R A env σ H F _ _ s w kr fun ra e1 x H1 F1 s1 g1 rv1 w1 => ?_
  have hr : Rv X.K H e1 σ H1 F1 x ra := rv1
  obtain ⟨F1', s1', g1', hold1⟩ := s1.hold g1 rv1
  obtain ⟨dx, p1, q, _⟩ := s1'.pk (hold1 _ _ _ .refl H) w1
  cases dx with
  | int i =>
    have e := p1.int; subst e
    exact ⟨_, rfl, k (.v (.int _)) _ _ _ _ s1' g1' (Rep.int _) q⟩
  | _ => exact False.elim q
theorem kindX {K : Fg} {x : L2.V} {d : D} (h : Rep K H x d) (h0 : isDct1 d = false) : TyX K H x (.type (tyName d)) := by
  cases h with
  | non => exact .base .non
  | bl b => exact .base (.bl b)
  | int i => exact .base (.int i)
  | str z => exact .base (.str z)
  | lsq h1 h2 =>
    rcases h1 with (h1 | ⟨o, h1⟩) | ⟨o, its, n, h1, h3, _⟩
    · exact .base (.lst h1)
    · exact .base (.frz h1)
    · exact .kList h1 h3
  | tup h1 h2 =>
    rcases h1.sq with (h1 | ⟨o, h1⟩) | ⟨o, its, n, h1, h3, _⟩
    · exact .base (.tup h1)
    · exact .fTuple h1
    · exact .kTuple h1 h3
  | dic h => exact .base (.dK h)
  | exc _ _ => cases h0
end
end DI
namespace DI
open PySem L2
open PyProof.Rows hiding St
def ArgOk (K : Fg) (H F : Hp) (x : L2.V) : SV → Prop
  | .v d => Rep K F x d
  | .io ds => ∃ p xs, x = .ref p ∧ F p = none ∧ H p = some (.lst xs) ∧ RepL K F xs ds
  | .own _ => False
  | .th _ => False
  | .fn _ => False
/-- where the kept lists stand -/
def ioA : List L2.V → List SV → List Addr
  | .ref p :: vs, .io _ :: ss => p :: ioA vs ss
  | _ :: vs, _ :: ss => ioA vs ss
  | _, _ => []
structure Fin (K : Fg) (T : List (Addr × Str)) (H F H' F' : Hp) (as : List Addr) (fin : List (List D)) : Prop where
  ext : Sub F F'
  sub : Sub F' H'
  frm : ∀ a o, H a = some o → a ∉ as → NT o → H' a = some o
  liv : ∀ a, H' a = none → H a = none
  new : ∀ a, F a = none → H a ≠ none → a ∉ as → F' a = none
  fin : Paired (fun p ds => F' p = none ∧ ∃ xs, H' p = some (.lst xs) ∧ RepL K F' xs ds) as fin
  tab : TabI T H'
  nf : NF F'
def RetOk (K : Fg) (H H' F' : Hp) (x : L2.V) : SV → Prop
  | .v d => Rep K F' x d
  | .own ds => ∃ p xs, x = .ref p ∧ F' p = none ∧ H' p = some (.lst xs) ∧ RepL K F' xs ds ∧ H p = none
  | .io _ => False
  | .th _ => False
  | .fn _ => False
def spOf (K : Fg) (cv : CV) (f : Fn) : Sp := fun vs H Q E => ∃ F ss, Sub F H ∧ NF F ∧ TabI cv.T H ∧ Paired (ArgOk K H F) vs ss ∧ (ioA vs ss).Nodup ∧
  f.sp ss (fun r fin => ∀ x H' F', Fin K cv.T H F H' F' (ioA vs ss) fin → RetOk K H H' F' x r → Q x H') (fun c fin => ∀ H' F', Fin K cv.T H F H' F' (ioA vs ss) fin → E (cv c) none H')
/-- a def that keeps a promise wherever no repr is on its way -/
structure FnG (P : Program) (w : World) (K : Fg) (mg : Str → Option Value) (base : Heap) (k : Nat) (f : Addr) (fd : FuncData) (ps : List Str) (sp : Sp) : Prop where
  len : ∀ vs H Q E, sp vs H Q E → vs.length = ps.length
  run : ∀ (A : Around) (outer : List Env) (s : Shared) (H : Hp) (args : Args) (us : List Value) (vs : List L2.V) (Q : VK) (E : XK), A.guards = some [] → Room k A → Env0 P w K mg base A outer s H → BindsTo s fd args (ps.zip us) → Vals vs us → sp vs H Q E →
    codeAny (model P w) A (.call (.ref f) args) (CR (L2.CX P w) outer P w H s Q E) s
theorem FnG.mono {P : Program} {w : World} {K : Fg} {mg : Str → Option Value} {base : Heap} {j k : Nat} {f : Addr} {fd : FuncData} {ps : List Str} {sp : Sp} (g : FnG P w K mg base j f fd ps sp) (h : j ≤ k) : FnG P w K mg base k f fd ps sp :=
  ⟨g.len, fun A outer s H args us vs Q E hg hr => g.run A outer s H args us vs Q E hg (hr.mono h)⟩
/-- how a call is written: the name, how many arguments by place, the keywords, which parameters are given, the defaults -/
structure Shape where
  name : Str
  np : Nat
  ks : List Str
  id : Nat
  ar : List Bool
  ds : List D
/-- a call of this shape meets the def -/
structure CallOk (X : Cx) (cv : CV) (f : Fn) (sh : Shape) : Prop where
  ex : ∃ (a : Addr) (fd : FuncData) (ps : List Str) (k : Nat) (dV : List L2.V) (dU : List Value), X.mg sh.name = some (.ref a) ∧ PySem.W.keepIn X.K (.ref a) = true ∧ FnG X.prog X.w X.K X.mg X.base k a fd ps (spOf X.K cv f) ∧ Room k X.A ∧
    Vals dV dU ∧ RepL X.K (fun _ => none) dV sh.ds ∧ (∀ (s : Shared) (us ws : List Value), X.K.In s.heap → us.length = sh.np → ws.length = sh.ks.length → BindsTo s fd ⟨us, sh.ks.zip ws⟩ (ps.zip (arr sh.ar (us ++ ws) dU)))
  len : sh.ar.length = (sh.np + sh.ks.length) + sh.ds.length ∧ (sh.ar.filter id).length = sh.np + sh.ks.length
section
variable {K : Fg} {cv : CV} {A : AT} {e : En} {σ : L2.St} {H F H' F' : Hp}
theorem put1_get {i j : Nat} {ds : List D} : (put1 e i ds)[j]? = if j = i then (match e[i]? with
    | some (some (.own _)) => some (some (.own ds))
    | some (some (.io _)) => some (some (.io ds))
    | o => o) else e[j]? := by
  have hlt : ∀ {s}, e[i]? = some s → i < e.length := fun {s} h => by
    rcases Nat.lt_or_ge i e.length with z | z
    · exact z
    · rw [List.getElem?_eq_none z] at h; cases h
  by_cases hj : j = i
  · subst hj
    rw [if_pos rfl]
    have key : ∀ o, e[j]? = o → (put1 e j ds)[j]? = (match o with
        | some (some (.own _)) => some (some (.own ds))
        | some (some (.io _)) => some (some (.io ds))
        | o => o) := by
      intro o h
      unfold put1
      rw [h]
      rcases o with _ | (_ | (d | d | d | d | d))
      · exact h
      · exact h
      · exact h
      · exact List.getElem?_set_self (hlt h)
      · exact List.getElem?_set_self (hlt h)
      · exact h
      · exact h
    exact key _ rfl
  · rw [if_neg hj]
    unfold put1
    split
    · rw [List.getElem?_set_ne (Ne.symm hj)]
    · rw [List.getElem?_set_ne (Ne.symm hj)]
    · rfl
theorem put1_len {i : Nat} {ds : List D} : (put1 e i ds).length = e.length := by
  unfold put1; split <;> simp
theorem putFin_len : ∀ {is : List Nat} {fs : List (List D)} {e : En}, (putFin e is fs).length = e.length
  | [], _, _ => by unfold putFin; rfl
  | _ :: _, [], _ => by unfold putFin; rfl
  | i :: is, f :: fs, e => by
    show (putFin (put1 e i f) is fs).length = _
    rw [putFin_len, put1_len]
/-- a slot behind the call: as it was, or its list's new content -/
theorem putFin_get : ∀ {is : List Nat} {fs : List (List D)} {e : En}, is.Nodup → is.length = fs.length → (∀ i ∈ is, ∃ ds, e[i]? = some (some (.own ds)) ∨ e[i]? = some (some (.io ds))) → ∀ {j : Nat} {s : SV}, (putFin e is fs)[j]? = some (some s) →
    (j ∉ is ∧ e[j]? = some (some s)) ∨ ∃ (k : Nat) (ds : List D), is[k]? = some j ∧ fs[k]? = some ds ∧ ((s = .own ds ∧ ∃ d0, e[j]? = some (some (.own d0))) ∨ (s = .io ds ∧ ∃ d0, e[j]? = some (some (.io d0))))
  | [], _, e, _, _, _, j, s, h => .inl ⟨by simp, by unfold putFin at h; exact h⟩
  | i :: is, f :: fs, e, nd, hl, hi, j, s, h => by
    have nd' := List.nodup_cons.mp nd
    have h' : (putFin (put1 e i f) is fs)[j]? = some (some s) := h
    have hi' : ∀ i2 ∈ is, ∃ ds, (put1 e i f)[i2]? = some (some (.own ds)) ∨ (put1 e i f)[i2]? = some (some (.io ds)) := fun i2 h2 => by
      have ne : i2 ≠ i := fun z => nd'.1 (z ▸ h2)
      rw [put1_get, if_neg ne]
      exact hi i2 (List.mem_cons_of_mem _ h2)
    rcases putFin_get nd'.2 (by simpa using hl) hi' h' with ⟨n, q⟩ | ⟨k, ds, q1, q2, q3⟩
    · by_cases hj : j = i
      · subst hj
        rw [put1_get, if_pos rfl] at q
        obtain ⟨d0, z | z⟩ := hi j List.mem_cons_self
        · rw [z] at q; cases q
          exact .inr ⟨0, f, rfl, rfl, .inl ⟨rfl, d0, z⟩⟩
        · rw [z] at q; cases q
          exact .inr ⟨0, f, rfl, rfl, .inr ⟨rfl, d0, z⟩⟩
      · rw [put1_get, if_neg hj] at q
        exact .inl ⟨by simp only [List.mem_cons, not_or]; exact ⟨hj, n⟩, q⟩
    · have ne : j ≠ i := fun z => nd'.1 (z ▸ List.mem_of_getElem? q1)
      refine .inr ⟨k + 1, ds, by simpa using q1, by simpa using q2, ?_⟩
      rw [put1_get, if_neg ne] at q3
      exact q3
theorem Paired.get2 {α β : Type} {P : α → β → Prop} : ∀ {l : List α} {m : List β} {i : Nat} {a : α} {b : β}, Paired P l m → l[i]? = some a → m[i]? = some b → P a b
  | _, _, _, _, _, .nil, h, _ => by simp at h
  | _, _, 0, _, _, .cons p _, h1, h2 => by simp at h1 h2; subst h1 h2; exact p
  | _, _, i + 1, _, _, .cons _ t, h1, h2 => Paired.get2 (i := i) t (by simpa using h1) (by simpa using h2)
theorem Paired.getL {α β : Type} {P : α → β → Prop} : ∀ {l : List α} {m : List β} {i : Nat} {a : α}, Paired P l m → l[i]? = some a → ∃ b, m[i]? = some b ∧ P a b
  | _, _, _, _, .nil, h => by simp at h
  | _, _, 0, _, .cons p _, h1 => by simp at h1; subst h1; exact ⟨_, rfl, p⟩
  | _, _, i + 1, _, .cons _ t, h1 => by
    obtain ⟨b, h2, h3⟩ := Paired.getL (i := i) t (by simpa using h1)
    exact ⟨b, by simpa using h2, h3⟩
theorem Paired.getR {α β : Type} {P : α → β → Prop} : ∀ {l : List α} {m : List β} {i : Nat} {b : β}, Paired P l m → m[i]? = some b → ∃ a, l[i]? = some a ∧ P a b
  | _, _, _, _, .nil, h => by simp at h
  | _, _, 0, _, .cons p _, h1 => by simp at h1; subst h1; exact ⟨_, rfl, p⟩
  | _, _, i + 1, _, .cons _ t, h1 => by
    obtain ⟨b, h2, h3⟩ := Paired.getR (i := i) t (by simpa using h1)
    exact ⟨b, by simpa using h2, h3⟩
theorem io_stays {i : Nat} : ∀ {is : List Nat} {fs : List (List D)} {e : En} {ds : List D}, e[i]? = some (some (SV.io ds)) → ∃ ds', (putFin e is fs)[i]? = some (some (SV.io ds'))
  | [], _, e, ds, h => ⟨ds, by unfold putFin; exact h⟩
  | _ :: _, [], e, ds, h => ⟨ds, by unfold putFin; exact h⟩
  | j :: is, f :: fs, e, ds, h => by
    have : ∃ d2, (put1 e j f)[i]? = some (some (SV.io d2)) := by
      rw [put1_get]
      by_cases hj : i = j
      · subst hj; rw [if_pos rfl, h]; exact ⟨_, rfl⟩
      · rw [if_neg hj]; exact ⟨_, h⟩
    obtain ⟨d2, h2⟩ := this
    exact io_stays (is := is) (fs := fs) (e := put1 e j f) (ds := d2) h2
/-- the state behind a call -/
theorem Sta.after (s : Sta K cv A e σ H F) {is : List Nat} {as : List Addr} {fin : List (List D)} (ow : Paired (fun i p => Owns e σ i p) is as) (nd : is.Nodup) (f : Fin K cv.T H F H' F' as fin) :
    Sta K cv A (putFin e is fin) σ H' F' ∧ Go e σ H F (putFin e is fin) σ H' F' ∧ ∀ i p, Owns (putFin e is fin) σ i p → Owns e σ i p := by
  have hl : is.length = fin.length := ow.length.trans f.fin.length
  have hi : ∀ i ∈ is, ∃ ds, e[i]? = some (some (SV.own ds)) ∨ e[i]? = some (some (SV.io ds)) := fun i h => by
    obtain ⟨k, hk, e1⟩ := List.mem_iff_getElem.mp h
    obtain ⟨p, _, o⟩ := Paired.getL ow (i := k) (by rw [List.getElem?_eq_getElem hk, e1])
    exact o.2
  have inas : ∀ j p, Owns e σ j p → p ∈ as → j ∈ is := fun j p o hp => by
    obtain ⟨k, hk, e1⟩ := List.mem_iff_getElem.mp hp
    obtain ⟨i, h1, o2⟩ := Paired.getR ow (i := k) (by rw [List.getElem?_eq_getElem hk, e1])
    rw [s.dist j i p o o2]
    exact List.mem_of_getElem? h1
  have out : ∀ a, a ∈ as → ∃ i, Owns e σ i a := fun a ha => by
    obtain ⟨k, hk, e1⟩ := List.mem_iff_getElem.mp ha
    obtain ⟨i, h1, o2⟩ := Paired.getR ow (i := k) (by rw [List.getElem?_eq_getElem hk, e1])
    exact ⟨i, o2⟩
  have kept : ∀ {j : Nat} {sv : SV}, (putFin e is fin)[j]? = some (some sv) → LS sv → ∃ ds0, e[j]? = some (some (SV.own ds0)) ∨ e[j]? = some (some (SV.io ds0)) := fun {j sv} h hn => by
    rcases putFin_get nd hl hi h with ⟨_, q⟩ | ⟨k, ds, _, _, ⟨_, d0, q⟩ | ⟨_, d0, q⟩⟩
    · cases sv with
      | v d => exact hn.elim
      | th d => exact hn.elim
      | fn d => exact hn.elim
      | own ds => exact ⟨ds, .inl q⟩
      | io ds => exact ⟨ds, .inr q⟩
    · exact ⟨d0, .inl q⟩
    · exact ⟨d0, .inr q⟩
  have back : ∀ {j p}, Owns (putFin e is fin) σ j p → Owns e σ j p := fun {j p} ⟨h1, ds, h2⟩ => ⟨h1, by
    rcases h2 with h2 | h2
    · exact kept h2 trivial
    · exact kept h2 trivial⟩
  refine ⟨⟨f.sub, by rw [putFin_len]; exact s.len, fun j sv h => ?_, fun i j p o1 o2 => s.dist i j p (back o1) (back o2), ⟨f.tab, f.nf, s.sx.sb.trans f.ext, fun p hp => f.frm _ _ (s.sx.cod p hp) (fun z => let ⟨i, o2⟩ := out _ z; (by have := (s.owns o2).2; rw [s.sx.cod p hp] at this; obtain ⟨xs, e⟩ := this; unfold LamX.CodeO at e; cases e)) fun _ z => (by unfold LamX.CodeO at z; cases z), s.sx.ad⟩⟩,
    ⟨f.ext, fun a o h n t => f.frm a o h (fun z => let ⟨i, o2⟩ := out a z; n i o2) t, f.liv, fun a h1 h2 n => f.new a h1 h2 fun z => let ⟨i, o2⟩ := out a z; n i o2, fun i p o => .inr ⟨i, back o⟩, fun i ds h => ?_, putFin_len.symm⟩, fun i p o => back o⟩
  · rcases putFin_get nd hl hi h with ⟨n, q⟩ | ⟨k, ds, q1, q2, q3⟩
    · refine (s.slot j sv q).keep f.ext fun p xs w1 w2 w3 hn => ?_
      have own : Owns e σ j p := ⟨w1, by
        cases sv with
        | v d => exact hn.elim
        | th d => exact hn.elim
        | fn d => exact hn.elim
        | own ds => exact ⟨ds, .inl q⟩
        | io ds => exact ⟨ds, .inr q⟩⟩
      have np : p ∉ as := fun z => n (inas j p own z)
      exact ⟨f.new p w2 (by rw [w3]; simp) np, f.frm p _ w3 np nt_lst⟩
    · obtain ⟨p, p1, ⟨o1, _⟩⟩ := Paired.getL ow q1
      obtain ⟨z1, xs, z2, z3⟩ := Paired.get2 f.fin p1 q2
      rcases q3 with ⟨rfl, d0, q⟩ | ⟨rfl, d0, q⟩
      · exact ⟨p, xs, o1, z1, z2, z3⟩
      · obtain ⟨ys, w1, _⟩ := s.slot j _ q
        rw [o1] at w1; cases w1
        exact ⟨xs, o1, z1, z2, z3⟩
  · exact io_stays h
end
end DI
namespace DI
open PySem L2
open PyProof.Rows hiding St
section
variable {X : Cx} {W : WX} {G : Nat → Fn} {cv : CV}
theorem run_g {pins : List (Addr × Obj)} {σ : L2.St} {H : Hp} {s : Shared} {Q : VK} {E : XK} {k : Nat} {f : Addr} {fd : FuncData} {ps ks : List Str} {sp : Sp} {us ws zs : List Value} {vs : List L2.V}
    (g : FnG X.prog X.w X.K X.mg X.base k f fd ps sp) (hg : X.A.guards = some []) (hr : Room k X.A) (tk : Takes X W) (I : Inv X pins σ H s) (hb : BindsTo s fd ⟨us, ks.zip ws⟩ (ps.zip zs)) (r : Vals vs zs) (hE : ∀ c d H', E c d H' → W c d σ H') (h : sp vs H Q E) :
    wpAny (model X.prog X.w) X.A (call (.ref f) us (ks.zip ws)) (EP X pins σ Q) X.xe s := by
  refine wpAny_call (codeAny_mono (g.run X.A X.stack s H _ zs vs Q E hg hr I.env0 hb r h) fun res s' hq => ?_)
  match res, hq with
  | .error e, hq => exact tk e s' (XE.of_call I hE hq)
  | .ok (.ret u), hq => exact I.after hq
  | .ok .next, hq => exact hq.elim
  | .ok .brk, hq => exact hq.elim
  | .ok .cont, hq => exact hq.elim
def pK (X : Cx) (ks : List Keyword) : TA := fun σ H Q => ∀ (pos : Pos) (pins : List (Addr × Obj)) (s : Shared), Inv X pins σ H s → wpAny (model X.prog X.w) X.A (evalAll ((backToKw pos (keywordEach ks X.env)).map (·.2))) (AP X pins σ Q) X.xe s
theorem pk_p {ks : List Keyword} : PK X ks (pK X ks) := ⟨fun pos pins s _ _ _ I h => h pos pins s I⟩
theorem pK_of {ks : List Keyword} {t : TA} {σ : L2.St} {H : Hp} (p : PK X ks t) {Q : List L2.V → Hp → Prop} (h : t σ H Q) : pK X ks σ H Q := fun pos pins s I => p.run pos pins s σ H Q I h
abbrev Arel (K : Fg) (σ : L2.St) (F : Hp) : List L2.V → List RV → Prop := Paired (fun v r => (∃ d, r = .v d ∧ Rep K F v d) ∨ ∃ i, r = .bor i ∧ σ[i]? = some (some v))
def SK (X : Cx) (W : WX) (G : Nat → Fn) (cv : CV) (ks : List Keyword) (x : DI.X) : Prop := ∀ (R : Nat → En → Prop) (A : AT) (m : List Bool) (env : En) (σ : L2.St) (H F : Hp) (Q : List RV → En → Prop) (Q' : List L2.V → Hp → Prop), Sta X.K cv A env σ H F → wA G x m R env Q → KR X W cv A R env σ H F →
  (∀ rs env' vs H' F', Sta X.K cv A env' σ H' F' → Go env σ H F env' σ H' F' → Arel X.K σ F' vs rs → vs.length = ks.length → Q rs env' → Q' vs H') → pK X ks σ H Q'
def SAK (X : Cx) (W : WX) (G : Nat → Fn) (cv : CV) (es : List Expr) (ks : List Keyword) (x : DI.X) : Prop := ∀ (R : Nat → En → Prop) (A : AT) (m : List Bool) (env : En) (σ : L2.St) (H F : Hp) (Q : List RV → En → Prop) (Q' : List L2.V → List L2.V → Hp → Prop), Sta X.K cv A env σ H F → wA G x m R env Q → KR X W cv A R env σ H F →
  (∀ rs env' vs zs H' F', Sta X.K cv A env' σ H' F' → Go env σ H F env' σ H' F' → Arel X.K σ F' (vs ++ zs) rs → vs.length = es.length → zs.length = ks.length → Q rs env' → Q' vs zs H') → pA X es σ H fun vs H1 => pK X ks σ H1 fun zs H2 => Q' vs zs H2
/-- one argument -/
theorem arg_one {a : Expr} {xa xs : DI.X} (ha : SE X W G cv a xa) {R : Nat → En → Prop} {A : AT} {m : List Bool} {env : En} {σ : L2.St} {H F : Hp} {Q : List RV → En → Prop} {P : L2.V → Hp → Prop} (s : Sta X.K cv A env σ H F)
    (w : wA G (.cons xa xs) m R env Q) (kr : KR X W cv A R env σ H F)
    (go : ∀ (x : L2.V) (ra' : RV) (e2 : En) (H1 F2 : Hp), Sta X.K cv A e2 σ H1 F2 → Go env σ H F e2 σ H1 F2 → (∀ F3, Sub F2 F3 → (∃ d, ra' = .v d ∧ Rep X.K F3 x d) ∨ ∃ i, ra' = .bor i ∧ σ[i]? = some (some x)) → wA G xs m.tail R e2 (fun rs e3 => Q (ra' :: rs) e3) → P x H1) : pX X a σ H P := by
  simp only [wA] at w
  refine ha R A env σ H F _ _ s w kr fun ra e1 x H1 F1 s1 g1 rv1 w1 => ?_
  have setl : (settle e1 ra fun d e' => (fun ra' e2 => wA G xs m.tail R e2 fun rs e3 => Q (ra' :: rs) e3) (.v d) e') → P x H1 := fun w1 => by
    obtain ⟨d, e2, F2, q, s2, g2, r2⟩ := s1.settle g1 rv1 w1
    exact go x (.v d) e2 H1 F2 s2 g2 (fun F3 h3 => .inl ⟨d, rfl, r2.mono h3⟩) q
  unfold argW at w1
  split at w1
  · exact go x _ e1 H1 F1 s1 g1 (fun F3 h3 => .inr ⟨_, rfl, rv1⟩) w1
  · exact setl w1
theorem sk_nil : SK X W G cv [] .nil := by
  intro R A m env σ H F Q Q' s w _ k
  simp only [wA] at w
  exact pK_of pk_nil (k [] env [] H F s .refl .nil rfl w)
theorem sk_cons {a : Expr} {xa : DI.X} {nm : Option Str} {kp : Pos} {ks : List Keyword} {xs : DI.X} (ha : SE X W G cv a xa) (hs : SK X W G cv ks xs) : SK X W G cv (⟨nm, a, kp⟩ :: ks) (.cons xa xs) := by
  intro R A m env σ H F Q Q' s w kr k
  refine pK_of (pk_cons pe_p pk_p) ?_
  refine arg_one ha s w kr fun x ra' e2 H1 F2 s2 g2 hr w2 => ?_
  refine hs R A m.tail e2 σ H1 F2 _ _ s2 w2 (kr.go g2) fun rs e3 vs H3 F3 s3 g3 f3 hl w3 => ?_
  exact k (ra' :: rs) e3 (x :: vs) H3 F3 s3 (g2.trans g3) (.cons (hr _ g3.ext) f3) (by simp [hl]) w3
theorem sak_nil {ks : List Keyword} {xs : DI.X} (h : SK X W G cv ks xs) : SAK X W G cv [] ks xs := by
  intro R A m env σ H F Q Q' s w kr k
  refine pA_of pa_nil ?_
  exact h R A m env σ H F _ _ s w kr fun rs e3 vs H3 F3 s3 g3 f3 hl w3 => k rs e3 [] vs H3 F3 s3 g3 f3 rfl hl w3
theorem sak_cons {a : Expr} (hn : nost a = true) {xa : DI.X} {es : List Expr} {ks : List Keyword} {xs : DI.X} (ha : SE X W G cv a xa) (hs : SAK X W G cv es ks xs) : SAK X W G cv (a :: es) ks (.cons xa xs) := by
  intro R A m env σ H F Q Q' s w kr k
  refine pA_of (pa_cons pe_p pa_p (star1 hn)) ?_
  refine arg_one ha s w kr fun x ra' e2 H1 F2 s2 g2 hr w2 => ?_
  exact hs R A m.tail e2 σ H1 F2 _ (fun vs zs => Q' (x :: vs) zs) s2 w2 (kr.go g2) fun rs e3 vs zs H3 F3 s3 g3 f3 hl hl2 w3 =>
    k (ra' :: rs) e3 (x :: vs) zs H3 F3 s3 (g2.trans g3) (.cons (hr _ g3.ext) f3) (by simp [hl]) hl2 w3
theorem arr_vals : ∀ {ar : List Bool} {vs : List L2.V} {us : List Value} {ds : List L2.V} {es : List Value}, Vals vs us → Vals ds es → Vals (arr ar vs ds) (arr ar us es)
  | [], _, _, _, _, _, _ => by unfold arr; exact .nil
  | true :: r, _, _, _, _, .nil, _ => by unfold arr; exact .nil
  | true :: r, _, _, _, _, .cons h t, d => .cons h (arr_vals t d)
  | false :: r, _, _, _, _, _, .nil => by unfold arr; exact .nil
  | false :: r, _, _, _, _, a, .cons h t => .cons h (arr_vals a t)
/-- the arguments as the def sees them -/
theorem args_ok {K : Fg} {cv : CV} {A : AT} {e : En} {σ : L2.St} {H F : Hp} (s : Sta K cv A e σ H F) : ∀ {vs : List L2.V} {rs : List RV} {ss : List SV}, Arel K σ F vs rs → argsSV e rs = some ss →
    Paired (ArgOk K H F) vs ss ∧ Paired (fun i p => Owns e σ i p) (borsOf rs) (ioA vs ss)
  | _, _, _, .nil, h => by cases h; exact ⟨.nil, .nil⟩
  | _, _, _, .cons (a := v) (b := r) h1 t, h => by
    unfold argsSV at h
    split at h
    · rename_i sv ss' e1 e2
      cases h
      obtain ⟨p1, p2⟩ := args_ok s t e2
      rcases h1 with ⟨d, rfl, hr⟩ | ⟨i, rfl, hi⟩
      · cases e1
        refine ⟨.cons hr p1, ?_⟩
        show Paired _ (borsOf _) _
        cases v <;> simp only [ioA] <;> exact p2
      · unfold argSV at e1
        simp only at e1
        split at e1
        · rename_i ds he
          cases e1
          obtain ⟨p, xs, w1, w2, w3, w4⟩ := s.slot i _ he
          rw [hi] at w1; cases w1
          exact ⟨.cons ⟨p, xs, rfl, w2, w3, w4⟩ p1, .cons ⟨hi, ds, .inl he⟩ p2⟩
        · rename_i ds he
          cases e1
          obtain ⟨xs, w1, w2, w3, w4⟩ := s.slot i _ he
          rw [hi] at w1; cases w1
          exact ⟨.cons ⟨_, xs, rfl, w2, w3, w4⟩ p1, .cons ⟨hi, ds, .inr he⟩ p2⟩
        · cases e1
    · cases h
theorem arr_ok {K : Fg} {H F : Hp} : ∀ {ar : List Bool} {vs : List L2.V} {ss : List SV} {dV : List L2.V} {ds : List D}, Paired (ArgOk K H F) vs ss → RepL K F dV ds → ar.length = vs.length + dV.length → (ar.filter id).length = vs.length →
    Paired (ArgOk K H F) (arr ar vs dV) (arr ar ss (ds.map SV.v)) ∧ ioA (arr ar vs dV) (arr ar ss (ds.map SV.v)) = ioA vs ss
  | [], _, _, _, _, .nil, .nil, _, _ => ⟨.nil, rfl⟩
  | [], _, _, _, _, .cons _ _, _, h, _ => by simp at h; omega
  | [], _, _, _, _, _, .cons _ _, h, _ => by simp at h
  | true :: r, _, _, _, _, .nil, _, _, h => by simp at h
  | true :: r, _, _, _, _, .cons (a := x) (b := sv) p t, d, h1, h2 => by
    obtain ⟨q1, q2⟩ := arr_ok (ar := r) t d (by simp only [List.length_cons] at h1; omega) (by simpa using h2)
    refine ⟨.cons p q1, ?_⟩
    show ioA (x :: arr r _ _) (sv :: arr r _ _) = ioA (x :: _) (sv :: _)
    cases x <;> cases sv <;> simp only [ioA, q2]
  | false :: r, vs, _, _, _, a, .nil, h1, h2 => by
    exfalso
    have : (r.filter id).length ≤ r.length := List.length_filter_le _ _
    simp at h1 h2; omega
  | false :: r, _, _, _, _, a, .cons (x := x) (d := dd) h t, h1, h2 => by
    obtain ⟨q1, q2⟩ := arr_ok (ar := r) a t (by simp only [List.length_cons] at h1; omega) (by simpa using h2)
    refine ⟨.cons (show ArgOk K H F _ (.v _) from h) q1, ?_⟩
    show ioA (x :: arr r _ _) (SV.v dd :: arr r _ _) = _
    cases x <;> simp only [ioA, q2]
theorem nodup_as {e : En} {σ : L2.St} : ∀ {is : List Nat} {as : List Addr}, Paired (fun i p => Owns e σ i p) is as → is.Nodup → (∀ i j p, Owns e σ i p → Owns e σ j p → i = j) → as.Nodup
  | _, _, .nil, _, _ => List.nodup_nil
  | _, _, .cons (a := i) (b := p) h t, nd, dist => by
    have nd' := List.nodup_cons.mp nd
    refine List.nodup_cons.mpr ⟨fun hm => ?_, nodup_as t nd'.2 dist⟩
    obtain ⟨k, hk, e1⟩ := List.mem_iff_getElem.mp hm
    obtain ⟨j, j1, o2⟩ := Paired.getR t (i := k) (by rw [List.getElem?_eq_getElem hk, e1])
    rw [dist i j p h o2] at nd'
    exact nd'.1 (List.mem_of_getElem? j1)
/-- the call itself, its arguments reckoned -/
theorem call_core {sh : Shape} (ok : CallOk X cv (G sh.id) sh) (hg : X.A.guards = some []) (tk : Takes X W) {R : Nat → En → Prop} {A : AT} {env e1 : En} {σ : L2.St} {H F H1 F1 : Hp} {Q : RV → En → Prop} {Q' : VK} {rs : List RV} {vs zs : List L2.V}
    (s1 : Sta X.K cv A e1 σ H1 F1) (g1 : Go env σ H F e1 σ H1 F1) (f1 : Arel X.K σ F1 (vs ++ zs) rs) (hv : vs.length = sh.np) (hz : zs.length = sh.ks.length)
    (w : match argsSV e1 rs with
      | some ss => (borsOf rs).Nodup ∧ (G sh.id).sp (arr sh.ar ss (sh.ds.map .v)) (fun r fin => Q (backR r) (putFin e1 (borsOf rs) fin)) (fun c fin => R c (putFin e1 (borsOf rs) fin))
      | none => False) (kr : KR X W cv A R env σ H F)
    (k : ∀ r env' v H' F', Sta X.K cv A env' σ H' F' → Go env σ H F env' σ H' F' → Rv X.K H env' σ H' F' v r → Q r env' → Q' v H')
    {pins : List (Addr × Obj)} {s : Shared} {us ws : List Value} (I : Inv X pins σ H1 s) (ru : Vals vs us) (rw' : Vals zs ws) {a : Addr} (ha : X.mg sh.name = some (.ref a)) :
    wpAny (model X.prog X.w) X.A (call (.ref a) us (sh.ks.zip ws)) (EP X pins σ Q') X.xe s := by
  obtain ⟨a', fd, ps, kk, dV, dU, m1, m2, gf, hr, vd, rd, hb⟩ := ok.ex
  rw [ha] at m1
  obtain rfl : a = a' := by injection m1 with m1; injection m1
  cases hss : argsSV e1 rs with
  | none => rw [hss] at w; exact w.elim
  | some ss =>
    rw [hss] at w
    simp only at w
    obtain ⟨nd, w⟩ := w
    obtain ⟨po, pw⟩ := args_ok s1 f1 hss
    have lv : (vs ++ zs).length = sh.np + sh.ks.length := by rw [List.length_append, hv, hz]
    have ld : dV.length = sh.ds.length := rd.length
    obtain ⟨q1, q2⟩ := arr_ok (K := X.K) (H := H1) (F := F1) (ar := sh.ar) po (rd.mono (fun _ _ z => by cases z)) (by rw [ok.len.1, lv, ld]) (by rw [ok.len.2, lv])
    have na := nodup_as pw nd s1.dist
    refine run_g (E := fun c d H' => W c d σ H') gf hg hr tk I (hb s us ws I.kIn (by rw [← ru.length]; exact hv) (by rw [← rw'.length]; exact hz)) (arr_vals (ru.append rw') vd) (fun _ _ _ z => z) ?_
    refine ⟨F1, _, s1.sub, s1.sx.nf, s1.sx.tab, q1, by rw [q2]; exact na, ?_⟩
    refine Fn.sp_mono w (fun r fin q x H' F' fi ro => ?_) (fun c fin q H' F' fi => ?_)
    · rw [q2] at fi
      obtain ⟨s2, g2, bk⟩ := s1.after pw nd fi
      refine k (backR r) _ x H' F' s2 (g1.trans g2) ?_ q
      cases r with
      | v d => exact ro
      | io ds => exact ro.elim
      | th d => exact ro.elim
      | fn n => exact ro.elim
      | own ds =>
        obtain ⟨p, xs, h1, h2, h3, h4, h5⟩ := ro
        refine ⟨p, xs, h1, h2, h3, h4, g1.liv _ h5, fun i o => ?_⟩
        obtain ⟨_, ys, z2⟩ := s1.owns (bk i p o)
        rw [h5] at z2; cases z2
    · rw [q2] at fi
      obtain ⟨s2, g2, _⟩ := s1.after pw nd fi
      exact kr c _ H' F' s2 (g1.trans g2) q
/-- arguments by place alone -/
def SAL (X : Cx) (W : WX) (G : Nat → Fn) (cv : CV) (es : List Expr) (x : DI.X) : Prop := ∀ (R : Nat → En → Prop) (A : AT) (m : List Bool) (env : En) (σ : L2.St) (H F : Hp) (Q : List RV → En → Prop) (Q' : List L2.V → Hp → Prop), Sta X.K cv A env σ H F → wA G x m R env Q → KR X W cv A R env σ H F →
  (∀ rs env' vs H' F', Sta X.K cv A env' σ H' F' → Go env σ H F env' σ H' F' → Arel X.K σ F' vs rs → vs.length = es.length → Q rs env' → Q' vs H') → pA X es σ H Q'
theorem sal_nil : SAL X W G cv [] .nil := by
  intro R A m env σ H F Q Q' s w _ k
  simp only [wA] at w
  exact pA_of pa_nil (k [] env [] H F s .refl .nil rfl w)
theorem sal_cons {a : Expr} (hn : nost a = true) {xa : DI.X} {es : List Expr} {xs : DI.X} (ha : SE X W G cv a xa) (hs : SAL X W G cv es xs) : SAL X W G cv (a :: es) (.cons xa xs) := by
  intro R A m env σ H F Q Q' s w kr k
  refine pA_of (pa_cons pe_p pa_p (star1 hn)) ?_
  refine arg_one ha s w kr fun x ra' e2 H1 F2 s2 g2 hr w2 => ?_
  exact hs R A m.tail e2 σ H1 F2 _ (fun vs => Q' (x :: vs)) s2 w2 (kr.go g2) fun rs e3 vs H3 F3 s3 g3 f3 hl w3 =>
    k (ra' :: rs) e3 (x :: vs) H3 F3 s3 (g2.trans g3) (.cons (hr _ g3.ext) f3) (by simp [hl]) w3
theorem SAL.sa {es : List Expr} {x : DI.X} (h : SAL X W G cv es x) : SA X W G cv es x := fun R A m env σ H F Q Q' s w kr k => h R A m env σ H F Q Q' s w kr fun rs e vs H' F' s' g' f' _ => k rs e vs H' F' s' g' f'
variable {sh : Shape} {p pos : Pos} {e : Expr} {es : List Expr} {xs : DI.X}
theorem se_call (ok : CallOk X cv (G sh.id) sh) (hg : X.A.guards = some []) (tk : Takes X W) (hgl : Gl X sh.name) (hd : (sh.name == ("__debug__" : Str)) = false) (hst : (e :: es).all nost = true) (hn : (e :: es).length = sh.np) (hk : sh.ks = [])
    (hs : SAL X W G cv (e :: es) xs) : SE X W G cv (.Call (.Name sh.name p) (e :: es) [] pos) (.call sh.id sh.ar sh.ds xs) := by
  intro R A env σ H F Q Q' s w kr k pins st I
  simp only [br_iff, ls_iff, nrm_iff, bk_iff, sf_iff, wE] at w
  rw [List.all_cons, Bool.and_eq_true] at hst
  obtain ⟨a, fd, ps, kk, dV, dU, m1, m2, rest⟩ := ok.ex
  have run := hs R A _ env σ H F _ (fun vs H1 => ∀ (pins : List (Addr × Obj)) (s : Shared) (us : List Value), Inv X pins σ H1 s → Vals vs us → wpAny (model X.prog X.w) X.A (call (.ref a) us) (EP X pins σ Q') X.xe s) s w kr fun rs e1 vs H1 F1 s1 g1 f1 hl w1 pins s us I1 ru => by
    have z := call_core (vs := vs) (zs := []) ok hg tk s1 g1 (by rw [List.append_nil]; exact f1) (hl.trans hn) (by rw [hk]; rfl) w1 kr k I1 ru .nil m1
    rw [hk] at z; exact z
  refine wpAny_Call_Name_kw (ld_glob I hgl m1 (PySem.W.callWith_K (h₀ := X.base) I.ok.mod.kin m2 (thn (run pos pins st I) fun us s1 q => ?_) (star1 hst.1) (noany hst.2)) hd)
  obtain ⟨vs, H1, I1, r, q⟩ := q
  exact ⟨I1.kIn, q pins s1 us I1 r⟩
theorem se_call0 (ok : CallOk X cv (G sh.id) sh) (hg : X.A.guards = some []) (tk : Takes X W) (hgl : Gl X sh.name) (hd : (sh.name == ("__debug__" : Str)) = false) (hn : sh.np = 0) (hk : sh.ks = []) : SE X W G cv (.Call (.Name sh.name p) [] [] pos) (.call sh.id sh.ar sh.ds .nil) := by
  intro R A env σ H F Q Q' s w kr k pins st I
  simp only [br_iff, ls_iff, nrm_iff, bk_iff, sf_iff, wE, wA] at w
  obtain ⟨a, fd, ps, kk, dV, dU, m1, m2, rest⟩ := ok.ex
  have z := call_core (vs := []) (zs := []) ok hg tk s .refl .nil hn.symm (by rw [hk]; rfl) w kr k I .nil .nil m1
  rw [hk] at z
  exact wpAny_Call_Name_kw (ld_glob I hgl m1 (PySem.W.callWith_K0 I.kIn m2 z) hd)
/-- a call of a def that changes a new list, which nobody else knows -/
theorem se_callT {xe : DI.X} (ok : CallOk X cv (G sh.id) sh) (hg : X.A.guards = some []) (tk : Takes X W) (hgl : Gl X sh.name) (hd : (sh.name == ("__debug__" : Str)) = false) (hst : nost e = true) (hn : sh.np = 1) (hk : sh.ks = [])
    (he : SE X W G cv e xe) : SE X W G cv (.Call (.Name sh.name p) [e] [] pos) (.callT sh.id sh.ar sh.ds xe) := by
  intro R A env σ H F Q Q' s w kr k pins st I
  simp only [br_iff, ls_iff, nrm_iff, bk_iff, sf_iff, wE] at w
  obtain ⟨a, fd, ps, kk, dV, dU, m1, m2, gf, hr, vd, rd, hb⟩ := ok.ex
  have run : pA X [e] σ H fun vs H1 => ∀ (pins : List (Addr × Obj)) (s : Shared) (us : List Value), Inv X pins σ H1 s → Vals vs us → wpAny (model X.prog X.w) X.A (call (.ref a) us (sh.ks.zip [])) (EP X pins σ Q') X.xe s := by
    refine pA_of (pa_cons pe_p pa_p (star1 hst)) ?_
    refine he R A env σ H F _ _ s w kr fun ra e1 x H1 F1 s1 g1 rv1 w1 => ?_
    refine pA_of pa_nil fun pins s us I1 ru => ?_
    cases ra with
    | v d => exact w1.elim
    | bor i => exact w1.elim
    | own ds =>
      obtain ⟨q, xs, rfl, h2, h3, h4, h5, h6⟩ := rv1
      have ld : dV.length = sh.ds.length := rd.length
      have po : Paired (ArgOk X.K H1 F1) [L2.V.ref q] [SV.io ds] := .cons ⟨q, xs, rfl, h2, h3, h4⟩ .nil
      have o1 := ok.len.1
      have o2 := ok.len.2
      rw [hn, hk] at o1 o2
      obtain ⟨q1, q2⟩ := arr_ok (K := X.K) (H := H1) (F := F1) (ar := sh.ar) po (rd.mono (fun _ _ z => by cases z)) (by rw [o1, ld]; rfl) (by rw [o2]; rfl)
      have q3 : ioA (arr sh.ar [L2.V.ref q] dV) (arr sh.ar [SV.io ds] (sh.ds.map SV.v)) = [q] := q2
      have fin : ∀ {H' F' : Hp} {fn : List (List D)}, Fin X.K cv.T H1 F1 H' F' [q] fn → Sta X.K cv A e1 σ H' F' ∧ Go env σ H F e1 σ H' F' := fun {H' F' fn} f => by
        have nq : ∀ {b o}, H b = some o → b ∉ [q] := fun {b o} z hm => by
          rw [List.mem_singleton] at hm
          rw [hm, h5] at z; cases z
        refine ⟨⟨f.sub, s1.len, fun j sv h => (s1.slot j sv h).keep f.ext fun p' ys w1 w2 w3 hn => ?_, s1.dist, ⟨f.tab, f.nf, s1.sx.sb.trans f.ext, fun p hp => f.frm _ _ (s1.sx.cod p hp) (fun z => (by rw [List.mem_singleton] at z; have := s1.sx.cod p hp; rw [z, h3] at this; unfold LamX.CodeO at this; cases this)) fun _ z => (by unfold LamX.CodeO at z; cases z), s1.sx.ad⟩⟩, ⟨g1.ext.trans f.ext, fun b o z n t => f.frm b o (g1.frm b o z n t) (nq z) t, fun b z => g1.liv b (f.liv b z), fun b z1 z2 n => ?_, g1.own, g1.iok, g1.len⟩⟩
        · have np : p' ∉ [q] := fun hm => by
            rw [List.mem_singleton] at hm
            subst hm
            refine h6 j ⟨w1, ?_⟩
            cases sv with
            | v d => exact hn.elim
            | th d => exact hn.elim
            | fn d => exact hn.elim
            | own ds => exact ⟨ds, .inl h⟩
            | io ds => exact ⟨ds, .inr h⟩
          exact ⟨f.new p' w2 (by rw [w3]; simp) np, f.frm p' _ w3 np nt_lst⟩
        · obtain ⟨o, ho⟩ := Option.ne_none_iff_exists'.mp z2
          exact f.new b (g1.new b z1 z2 n) (fun z => z2 (g1.liv b z)) (nq ho)
      refine run_g (E := fun c d H' => W c d σ H') gf hg hr tk I1 (hb s us [] I1.kIn (by rw [← ru.length, hn]; rfl) (by rw [hk]; rfl)) (arr_vals (by rw [List.append_nil]; exact ru) vd) (fun _ _ _ z => z) ?_
      refine ⟨F1, _, s1.sub, s1.sx.nf, s1.sx.tab, q1, by rw [q3]; simp, ?_⟩
      refine Fn.sp_mono w1 (fun r fn qq x H' F' fi ro => ?_) (fun c fn qq H' F' fi => ?_)
      · rw [q3] at fi
        obtain ⟨s2, g2⟩ := fin fi
        refine k (backR r) _ x H' F' s2 g2 ?_ qq
        cases r with
        | v d => exact ro
        | io ds => exact ro.elim
        | th d => exact ro.elim
        | fn n => exact ro.elim
        | own ds =>
          obtain ⟨p', ys, z1, z2, z3, z4, z5⟩ := ro
          refine ⟨p', ys, z1, z2, z3, z4, g1.liv _ z5, fun i o => ?_⟩
          obtain ⟨_, zs, z6⟩ := s1.owns o
          rw [z5] at z6; cases z6
      · rw [q3] at fi
        obtain ⟨s2, g2⟩ := fin fi
        exact kr c _ H' F' s2 g2 qq
  rw [hk] at run
  refine wpAny_Call_Name_kw (ld_glob I hgl m1 (PySem.W.callWith_K (h₀ := X.base) I.ok.mod.kin m2 (thn (run pos pins st I) fun us s1 q => ?_) (star1 hst)) hd)
  obtain ⟨vs, H1, I1, r, q⟩ := q
  exact ⟨I1.kIn, q pins s1 us I1 r⟩
def kwNames (ks : List Keyword) : List (Option Str) := ks.map (·.arg)
theorem kw_names {env : Env} {pos : Pos} : ∀ {ks : List Keyword}, (backToKw pos (keywordEach ks env)).map (·.1) = kwNames ks
  | [] => rfl
  | ⟨n, v, kp⟩ :: ks => by
    show n :: (backToKw pos (keywordEach ks env)).map (·.1) = n :: kwNames ks
    rw [kw_names]
theorem se_callK (ok : CallOk X cv (G sh.id) sh) (hg : X.A.guards = some []) (tk : Takes X W) (hgl : Gl X sh.name) (hd : (sh.name == ("__debug__" : Str)) = false) {ks : List Keyword} (hst : (e :: es).all nost = true) (hn : (e :: es).length = sh.np) (hk : kwNames ks = sh.ks.map some)
    (hs : SAK X W G cv (e :: es) ks xs) : SE X W G cv (.Call (.Name sh.name p) (e :: es) ks pos) (.call sh.id sh.ar sh.ds xs) := by
  intro R A env σ H F Q Q' s w kr k pins st I
  simp only [br_iff, ls_iff, nrm_iff, bk_iff, sf_iff, wE] at w
  have hst' := hst
  rw [List.all_cons, Bool.and_eq_true] at hst
  obtain ⟨a, fd, ps, kk, dV, dU, m1, m2, rest⟩ := ok.ex
  have names := kw_names (env := X.env) (pos := pos) (ks := ks)
  rw [hk] at names
  have h1 : (backToKw pos (keywordEach ks X.env)).all (·.1.isSome) = true := by
    have : ((backToKw pos (keywordEach ks X.env)).map (·.1)).all Option.isSome = true := by rw [names]; simp
    simpa [List.all_map] using this
  have h2 : (backToKw pos (keywordEach ks X.env)).filterMap (·.1) = sh.ks := by
    have : ((backToKw pos (keywordEach ks X.env)).map (·.1)).filterMap id = sh.ks := by rw [names]; simp [List.filterMap_map]
    simpa [List.filterMap_map] using this
  have h3 : ((backTo pos (starEach (e :: es) X.env)).any (·.1) || (backToKw pos (keywordEach ks X.env)).any (·.1.isNone)) = false := by
    rw [noany hst']
    have : ((backToKw pos (keywordEach ks X.env)).map (·.1)).any Option.isNone = false := by rw [names]; simp
    simpa [List.any_map] using this
  have hl2 : ks.length = sh.ks.length := by have := congrArg List.length hk; simpa [kwNames] using this
  have run := hs R A _ env σ H F _ (fun vs zs H1 => ∀ (pins : List (Addr × Obj)) (s : Shared) (us ws : List Value), Inv X pins σ H1 s → Vals vs us → Vals zs ws → wpAny (model X.prog X.w) X.A (call (.ref a) us (sh.ks.zip ws)) (EP X pins σ Q') X.xe s) s w kr
    fun rs e1 vs zs H1 F1 s1 g1 f1 hl hz w1 pins s us ws I1 ru rw' => call_core ok hg tk s1 g1 f1 (hl.trans hn) (hz.trans hl2) w1 kr k I1 ru rw' m1
  refine wpAny_Call_Name_kw (ld_glob I hgl m1 (PySem.W.callWith_KW (h₀ := X.base) I.ok.mod.kin m2 h1 (thn (run pos pins st I) fun us s1 q => ?_) h3 (star1 hst.1)) hd)
  obtain ⟨vs, H1, I1, r, q⟩ := q
  refine thn (q pos pins s1 I1) fun ws s2 ⟨zs, H2, I2, rz, q2⟩ => ⟨I2.kIn, ?_⟩
  rw [h2]
  exact q2 pins s2 us ws I2 r rz
end
end DI
namespace DI
open PySem L2
open PyProof.Rows hiding St
section
variable {K : Fg} {cv : CV} {A : AT} {e e0 e2 : En} {σ σ0 : L2.St} {H F H0 F0 H1 F1 : Hp}
theorem lt_of_get {α : Type} {l : List α} {i : Nat} {a : α} (h : l[i]? = some a) : i < l.length := by
  rcases Nat.lt_or_ge i l.length with z | z
  · exact z
  · rw [List.getElem?_eq_none z] at h; cases h
/-- data stored into a slot -/
theorem Sta.putV (s : Sta K cv A e σ H F) (g : Go e0 σ0 H0 F0 e σ H F) {i : Nat} {x : L2.V} {d : D} {Q : En → Prop} (r : Rep K F x d) (q : putS e i (.v d) Q) :
    ∃ e', Q e' ∧ Sta K cv A e' (σ.set i (some x)) H F ∧ Go e0 σ0 H0 F0 e' (σ.set i (some x)) H F := by
  rw [putS_iff] at q
  split at q
  · exact q.elim
  · rename_i o hno ho
    have hi : i < e.length := lt_of_get ho
    have his : i < σ.length := Nat.lt_of_lt_of_le hi s.len
    have back : ∀ {j p}, Owns (e.set i (some (.v d))) (σ.set i (some x)) j p → j ≠ i ∧ Owns e σ j p := fun {j p} ⟨h1, ds, h2⟩ => by
      by_cases hj : j = i
      · subst hj
        exfalso
        rw [List.getElem?_set_self hi] at h2
        rcases h2 with h2 | h2 <;> cases h2
      · rw [List.getElem?_set_ne (Ne.symm hj)] at h1 h2
        exact ⟨hj, h1, ds, h2⟩
    refine ⟨_, q, ⟨s.sub, by simp only [List.length_set]; exact s.len, fun j sv h => ?_, fun j k p o1 o2 => s.dist j k p (back o1).2 (back o2).2, s.sx⟩,
      ⟨g.ext, g.frm, g.liv, g.new, fun j p o => g.own j p (back o).2, fun j ds h => ?_, by rw [List.length_set]; exact g.len⟩⟩
    · by_cases hj : j = i
      · subst hj
        rw [List.getElem?_set_self hi] at h; cases h
        exact ⟨x, by rw [List.getElem?_set_self his], r⟩
      · rw [List.getElem?_set_ne (Ne.symm hj)] at h
        have := s.slot j sv h
        cases sv <;> simpa only [SlotOk, List.getElem?_set_ne (Ne.symm hj)] using this
    · obtain ⟨ds', h2⟩ := g.iok j ds h
      refine ⟨ds', ?_⟩
      rw [List.getElem?_set_ne]
      · exact h2
      · rintro rfl; rw [ho] at h2; exact hno _ (by injection h2)
  · exact q.elim
/-- a new list stored into a slot -/
theorem Sta.putO (s : Sta K cv A e σ H F) (g : Go e0 σ0 H0 F0 e σ H F) {i : Nat} {x : L2.V} {ds : List D} {Q : En → Prop} (r : Rv K H0 e σ H F x (.own ds)) (q : putS e i (.own ds) Q) :
    ∃ e', Q e' ∧ Sta K cv A e' (σ.set i (some x)) H F ∧ Go e0 σ0 H0 F0 e' (σ.set i (some x)) H F := by
  obtain ⟨p, xs, rfl, r1, r2, r3, r4, r5⟩ := r
  rw [putS_iff] at q
  split at q
  · exact q.elim
  · rename_i o hno ho
    have hi : i < e.length := lt_of_get ho
    have his : i < σ.length := Nat.lt_of_lt_of_le hi s.len
    have back : ∀ {j p'}, Owns (e.set i (some (.own ds))) (σ.set i (some (.ref p))) j p' → (j = i ∧ p' = p) ∨ (j ≠ i ∧ Owns e σ j p') := fun {j p'} ⟨h1, ds', h2⟩ => by
      by_cases hj : j = i
      · subst hj
        rw [List.getElem?_set_self his] at h1; cases h1
        exact .inl ⟨rfl, rfl⟩
      · rw [List.getElem?_set_ne (Ne.symm hj)] at h1 h2
        exact .inr ⟨hj, h1, ds', h2⟩
    refine ⟨_, q, ⟨s.sub, by simp only [List.length_set]; exact s.len, fun j sv h => ?_, fun j k p' o1 o2 => ?_, s.sx⟩,
      ⟨g.ext, g.frm, g.liv, g.new, fun j p' o => ?_, fun j ds h => ?_, by rw [List.length_set]; exact g.len⟩⟩
    · by_cases hj : j = i
      · subst hj
        rw [List.getElem?_set_self hi] at h; cases h
        exact ⟨p, xs, by rw [List.getElem?_set_self his], r1, r2, r3⟩
      · rw [List.getElem?_set_ne (Ne.symm hj)] at h
        have := s.slot j sv h
        cases sv <;> simpa only [SlotOk, List.getElem?_set_ne (Ne.symm hj)] using this
    · rcases back o1 with ⟨rfl, rfl⟩ | ⟨n1, o1'⟩
      · rcases back o2 with ⟨rfl, _⟩ | ⟨_, o2⟩
        · rfl
        · exact absurd o2 (r5 k)
      · rcases back o2 with ⟨rfl, rfl⟩ | ⟨_, o2⟩
        · exact absurd o1' (r5 j)
        · exact s.dist j k p' o1' o2
    · rcases back o with ⟨rfl, rfl⟩ | ⟨_, o⟩
      · exact .inl r4
      · exact g.own j p' o
    · obtain ⟨ds', h2⟩ := g.iok j ds h
      refine ⟨ds', ?_⟩
      rw [List.getElem?_set_ne]
      · exact h2
      · rintro rfl; rw [ho] at h2; exact hno _ (by injection h2)
  · exact q.elim
end
section
variable {X : Cx} {W : WX} {G : Nat → Fn} {cv : CV}
def pG (X : Cx) (tg : Expr) : TG := fun v σ H Q => ∀ (pins : List (Addr × Obj)) (s : Shared) (u : Value), Inv X pins σ H s → RelV v u → wpAny (model X.prog X.w) X.A (assign tg X.env u) (fun _ s' => ∃ σ' H', Inv X pins σ' H' s' ∧ Q σ' H') X.xe s
theorem pg_p {tg : Expr} : PG X tg (pG X tg) := ⟨fun pins s _ _ _ u _ I r h => h pins s u I r⟩
theorem pG_of {tg : Expr} {t : TG} {v : L2.V} {σ : L2.St} {H : Hp} (p : PG X tg t) {Q : L2.St → Hp → Prop} (h : t v σ H Q) : pG X tg v σ H Q := fun pins s u I r => p.run pins s σ H v u Q I r h
def pGs (X : Cx) (ts : List Expr) : TGs := fun vs σ H Q => ∀ (pins : List (Addr × Obj)) (s : Shared) (us : List Value), Inv X pins σ H s → Vals vs us → wpAny (model X.prog X.w) X.A (assignInOrder ((assignEach ts X.env).map (·.2)) us) (fun _ s' => ∃ σ' H', Inv X pins σ' H' s' ∧ Q σ' H') X.xe s
theorem pgs_p {ts : List Expr} : PGs X ts (pGs X ts) := ⟨fun pins s _ _ _ us _ I r h => h pins s us I r⟩
theorem pGs_of {ts : List Expr} {t : TGs} {vs : List L2.V} {σ : L2.St} {H : Hp} (p : PGs X ts t) {Q : L2.St → Hp → Prop} (h : t vs σ H Q) : pGs X ts vs σ H Q := fun pins s us I r => p.run pins s σ H vs us Q I r h
/-- a target takes data -/
def TGo (X : Cx) (tg : Expr) (t : Tg) : Prop := ∀ (cv : CV) (A : AT) (e0 e : En) (σ0 σ : L2.St) (H0 F0 H F : Hp) (d : D) (v : L2.V) (Q : En → Prop) (Q' : L2.St → Hp → Prop), Sta X.K cv A e σ H F → Go e0 σ0 H0 F0 e σ H F → Rep X.K F v d → tgW t [d] e Q →
  (∀ e' σ', Sta X.K cv A e' σ' H F → Go e0 σ0 H0 F0 e' σ' H F → (∀ j, j ∉ tgs t → σ'[j]? = σ[j]?) → σ'.length = σ.length → Q e' → Q' σ' H) → pG X tg v σ H Q'
def TGso (X : Cx) (ts : List Expr) (t : Tg) : Prop := ∀ (cv : CV) (A : AT) (e0 e : En) (σ0 σ : L2.St) (H0 F0 H F : Hp) (ds : List D) (vs : List L2.V) (Q : En → Prop) (Q' : L2.St → Hp → Prop), Sta X.K cv A e σ H F → Go e0 σ0 H0 F0 e σ H F → RepL X.K F vs ds → tgW t ds e Q →
  (∀ e' σ', Sta X.K cv A e' σ' H F → Go e0 σ0 H0 F0 e' σ' H F → (∀ j, j ∉ tgs t → σ'[j]? = σ[j]?) → σ'.length = σ.length → Q e' → Q' σ' H) → pGs X ts vs σ H Q'
theorem tg_n {i : Nat} {x : Str} {pos : Pos} (hN : X.N.Nodup) (hi : X.N[i]? = some x) (hx : Loc X.env.scope x) (hf : X.fn x = true ∨ X.env.scope.names.lookup x = some .local) : TGo X (.Name x pos) (.n i) := by
  intro cv A e0 e σ0 σ H0 F0 H F d v Q Q' s g r w k
  refine pG_of (pg_name hN hi hx hf) ?_
  obtain ⟨e', q, s', g'⟩ := s.putV g r (show putS e i (.v d) Q from w)
  refine k e' _ s' g' (fun j hj => ?_) (by simp) q
  rw [List.getElem?_set_ne]
  intro z; exact hj (by simp [tgs, z])
theorem tgs_nil : TGso X [] .nil := by
  intro cv A e0 e σ0 σ H0 F0 H F ds vs Q Q' s g r w k
  cases r with
  | nil => exact pGs_of pgs_nil ⟨rfl, k e σ s g (fun _ _ => rfl) rfl w⟩
  | cons _ _ => exact w.elim
theorem nostAssign {env : Env} : ∀ {ts : List Expr}, ts.all nost = true → (assignEach ts env).findIdx? (·.1) = none ∧ (assignEach ts env).length = ts.length
  | [], _ => ⟨rfl, rfl⟩
  | t :: ts, h => by
    rw [List.all_cons, Bool.and_eq_true] at h
    obtain ⟨h1, h2⟩ := nostAssign (env := env) h.2
    have : ∃ f, assignEach (t :: ts) env = (false, f) :: assignEach ts env := by
      have h0 := h.1
      cases t <;> first | exact ⟨_, rfl⟩ | cases h0
    obtain ⟨f, e⟩ := this
    rw [e]
    refine ⟨?_, by simp [h2]⟩
    rw [List.findIdx?_cons, h1]; rfl
theorem tgs_cons {t : Expr} {ts : List Expr} {x xs : Tg} (hn : nost t = true) (h1 : TGo X t x) (h2 : TGso X ts xs) : TGso X (t :: ts) (.cons x xs) := by
  intro cv A e0 e σ0 σ H0 F0 H F ds vs Q Q' s g r w k
  refine pGs_of (pgs_cons pg_p pgs_p (by cases t <;> first | rfl | cases hn)) ?_
  cases r with
  | nil => exact w.elim
  | cons r1 r2 =>
    rename_i v vs' d ds'
    refine ⟨_, _, rfl, h1 cv A e0 e σ0 σ H0 F0 H F d v _ _ s g r1 w fun e1 σ1 s1 g1 c1 l1 w1 => ?_⟩
    refine h2 cv A e0 e1 σ0 σ1 H0 F0 H F ds' _ _ _ s1 g1 r2 w1 fun e2 σ2 s2 g2 c2 l2 w2 => k e2 σ2 s2 g2 (fun j hj => ?_) (l2.trans l1) w2
    simp only [tgs, List.mem_append, not_or] at hj
    rw [c2 j hj.2, c1 j hj.1]
theorem tupL_run {ts : List Expr} {k0 : Nat} {pos : Pos} {a : Addr} {xs : List L2.V} {σ : L2.St} {H : Hp} {Q' : L2.St → Hp → Prop} (hc : X.calm = true) (h2 : (assignEach ts X.env).length = ts.length) (h1 : (assignEach ts X.env).findIdx? (·.1) = none) (hq : SqL X.K H a xs) (hl : xs.length = ts.length) (hw : pGs X ts xs σ H Q') : pG X (.Tuple ts k0 pos) (.ref a) σ H Q' := by
  intro pins s u I r
  cases r
  obtain ⟨its, rv, ht, hz⟩ := I.list hq
  have hn : (assignEach ts X.env).length = its.toArray.size := by rw [h2, ← hl, rv.length, List.size_toArray]
  show wpAny _ _ (do standAt pos; unpack (.ref a) (assignEach ts X.env)) _ _ _
  refine wpAny_bind (wpAny_standAt ?_)
  unfold unpack
  rw [hn, h1]
  refine wpAny_bind (wpAny_holding (PySem.W.kun_itemsOf (I.ok.hd hc) ht.isList fun h' hx => ?_))
  have I1 : Inv X pins σ H { s with heap := h' } := I.kept (t' := s.toks) fun b o e => hx b o (Nat.ne_of_lt (Heap.lt_size e)) e
  exact hw pins _ its I1 rv
theorem tg_tup {ts : List Expr} {k0 : Nat} {pos : Pos} {t : Tg} (hc : X.calm = true) (hn : ts.all nost = true) (h : TGso X ts t) (hlen : ∀ ds e Q, tgW t ds e Q → ds.length = ts.length) : TGo X (.Tuple ts k0 pos) (.tup t) := by
  intro cv A e0 e σ0 σ H0 F0 H F d v Q Q' s g r w k
  obtain ⟨h1, h2⟩ := nostAssign (env := X.env) hn
  cases d with
  | list ds =>
    cases r with
    | lsq ht hr =>
      rename_i a xs
      exact tupL_run hc h2 h1 (s.sub.sqL ht) (hr.length.trans (hlen ds e Q w)) (h cv A e0 e σ0 σ H0 F0 H F ds xs Q Q' s g hr w k)
  | tuple ds =>
    refine pG_of (pg_tup (n := ts.length) hc pgs_p h2 h1) ?_
    cases r with
    | tup ht hr =>
      rename_i a xs
      exact ⟨a, xs, rfl, s.sub.sqT ht, (hr.length.trans (hlen ds e Q w)), h cv A e0 e σ0 σ H0 F0 H F ds xs Q Q' s g hr w k⟩
  | _ => exact w.elim
end
end DI
namespace DI
open PySem L2
open PyProof.Rows hiding St
/-- the iterator J gives items -/
def Wk (K : Fg) (J : L2.It) (items : List D) (F : Hp) : Prop := ∀ H F1, Sub F F1 → Sub F1 H → J.stop items.length H ∧ (∀ i, i < items.length → J.go i H) ∧
  ∀ i x H', i < items.length → J.yld i H x H' → ∃ d F2, items[i]? = some d ∧ Res K H F1 (.v d) x H' F2
section
variable {K : Fg} {F : Hp}
theorem wk_list {a : Addr} {xs : List L2.V} {ds : List D} (h : SqL K F a xs) (r : RepL K F xs ds) : Wk K (Itl K a) ds F := by
  intro H F1 s1 s2
  have h1 : SqL K H a xs := (s1.trans s2).sqL h
  refine ⟨⟨xs, h1, by rw [r.length]; exact Nat.le_refl _⟩, fun i hi => ?_, fun i x H' hi ⟨e, y⟩ => ?_⟩
  · have : i < xs.length := by rw [r.length]; exact hi
    exact ⟨xs, xs[i], h1, by simp [this]⟩
  · subst e
    obtain ⟨d, h2, h3⟩ := r.getV (y xs h1)
    exact ⟨d, _, h2, .same (h3.mono s1)⟩
theorem wk_tup {a : Addr} {xs : List L2.V} {ds : List D} (h : SqT K F a xs) (r : RepL K F xs ds) : Wk K (Itt K a) ds F := by
  intro H F1 s1 s2
  have h1 : SqT K H a xs := (s1.trans s2).sqT h
  refine ⟨⟨xs, h1, by rw [r.length]; exact Nat.le_refl _⟩, fun i hi => ?_, fun i x H' hi ⟨e, y⟩ => ?_⟩
  · have : i < xs.length := by rw [r.length]; exact hi
    exact ⟨xs, xs[i], h1, by simp [this]⟩
  · subst e
    obtain ⟨d, h2, h3⟩ := r.getV (y xs h1)
    exact ⟨d, _, h2, .same (h3.mono s1)⟩
theorem rngL_len {a : Int} {n : Nat} : (rngL a n).length = n := by simp [rngL]
theorem rngL_get {a : Int} {n i : Nat} (h : i < n) : (rngL a n)[i]? = some (.int (a + i)) := by simp [rngL, h]
theorem wk_rng {a : Int} {n : Nat} : Wk K (Itr a n) (rngL a n) F := by
  intro H F1 s1 s2
  refine ⟨by rw [rngL_len]; exact Nat.le_refl _, fun i hi => by rw [rngL_len] at hi; exact hi, fun i x H' hi ⟨e, y⟩ => ?_⟩
  subst e y
  rw [rngL_len] at hi
  exact ⟨_, _, rngL_get hi, .same (.int _)⟩
theorem wk_rrng {n : Nat} : Wk K (Itc (0 + (n : Int) - 1) (-1) n) (rngL 0 n).reverse F := by
  intro H F1 s1 s2
  have hl : (rngL 0 n).reverse.length = n := by rw [List.length_reverse, rngL_len]
  refine ⟨by rw [hl]; exact Nat.le_refl _, fun i hi => by rw [hl] at hi; exact hi, fun i x H' hi ⟨e, y⟩ => ?_⟩
  subst e y
  rw [hl] at hi
  refine ⟨.int (0 + (n : Int) - 1 + i * (-1)), _, ?_, .same (.int _)⟩
  rw [List.getElem?_reverse (by rw [rngL_len]; exact hi), rngL_len, rngL_get (by omega)]
  congr 2; omega
end
section
variable {X : Cx} {W : WX} {G : Nat → Fn} {cv : CV}
def pI (X : Cx) (tg it : Expr) : TI := fun σ H R => ∀ (pins : List (Addr × Obj)) (s : Shared), Inv X pins σ H s → wpAny (model X.prog X.w) X.A (eval it X.env) (fun v s1 => wpAny (model X.prog X.w) X.A (pyIter v) (PIE X pins σ tg R) X.xe s1) X.xe s
theorem pi_p {tg it : Expr} : PI X tg it (pI X tg it) := ⟨fun pins s _ _ _ I h => h pins s I⟩
theorem pI_of {tg it : Expr} {t : TI} {σ : L2.St} {H : Hp} (p : PI X tg it t) {R : L2.It → Hp → Prop} (h : t σ H R) : pI X tg it σ H R := fun pins s I => p.run pins s σ H R I h
/-- what is walked, as items -/
def wI (G : Nat → Fn) (x : DI.X) (R : Nat → En → Prop) (e : En) (Q : List D → En → Prop) : Prop := wE G x R e fun ri e1 => settle e1 ri fun d e2 => match itemsOf d with
  | some items => Q items e2
  | none => False
def SI (X : Cx) (W : WX) (G : Nat → Fn) (cv : CV) (tg it : Expr) (x : DI.X) : Prop := ∀ (R : Nat → En → Prop) (A : AT) (env : En) (σ : L2.St) (H F : Hp) (Q : List D → En → Prop) (Q' : L2.It → Hp → Prop), Sta X.K cv A env σ H F → wI G x R env Q → KR X W cv A R env σ H F →
  (∀ items env' J H' F', Sta X.K cv A env' σ H' F' → Go env σ H F env' σ H' F' → Wk X.K J items F' → items.length ≤ sizeLine → Q items env' → Q' J H') → pI X tg it σ H Q'
theorem so_len {pins : List (Addr × Obj)} {σ : L2.St} {H : Hp} {s : Shared} (I : Inv X pins σ H s) {a : Addr} {xs : List L2.V} (h : SqT X.K H a xs) : xs.length ≤ sizeLine := let ⟨_, _, _, z⟩ := I.tuple h; z
theorem iter_l {tg : Expr} {pins : List (Addr × Obj)} {σ : L2.St} {H : Hp} {s : Shared} {R : L2.It → Hp → Prop} {E : Value → Shared → Prop} (I : Inv X pins σ H s) {a : Addr} {xs : List L2.V} (h : SqL X.K H a xs) (q : R (Itl X.K a) H) :
    wpAny (model X.prog X.w) X.A (pyIter (.ref a)) (PIE X pins σ tg R) E s := by
  obtain ⟨_, _, pl, _⟩ := I.list h
  have hn : H s.heap.objs.size = none := I.hok.fresh (Nat.le_refl _)
  exact wpAny_pyIter_list pl.isList ⟨_, [s.heap.objs.size], _, _, H, rfl, I.kept (t' := s.toks) (fun b o e => Heap.get?_push_of_some _ e), turn_list a _, ⟨_, Heap.get?_push_size _ rfl, rfl, rfl⟩, fun b hb => by rw [List.mem_singleton.mp hb]; exact I.fpOk (Nat.le_refl _) hn, q⟩
theorem iter_t {tg : Expr} {pins : List (Addr × Obj)} {σ : L2.St} {H : Hp} {s : Shared} {R : L2.It → Hp → Prop} {E : Value → Shared → Prop} (I : Inv X pins σ H s) {a : Addr} {xs : List L2.V} (h : SqT X.K H a xs) (q : R (Itt X.K a) H) :
    wpAny (model X.prog X.w) X.A (pyIter (.ref a)) (PIE X pins σ tg R) E s := by
  obtain ⟨its, _, pl, _⟩ := I.tuple h
  have hn : H s.heap.objs.size = none := I.hok.fresh (Nat.le_refl _)
  exact wpAny_pyIter_tuple (show s.heap.IsTuple a its.toArray from pl) ⟨_, [s.heap.objs.size], _, _, H, rfl, I.kept (t' := s.toks) (fun b o e => Heap.get?_push_of_some _ e), turn_tuple a _, ⟨_, Heap.get?_push_size _ rfl, rfl, rfl⟩, fun b hb => by rw [List.mem_singleton.mp hb]; exact I.fpOk (Nat.le_refl _) hn, q⟩
/-- a list or a tuple that is walked -/
theorem si_seq {tg it : Expr} {x : DI.X} (h : SE X W G cv it x) : SI X W G cv tg it x := by
  intro R A env σ H F Q Q' s w kr k pins st I
  have run := h R A env σ H F _ (fun v H1 => ∀ (pins : List (Addr × Obj)) (s1 : Shared) (u : Value), Inv X pins σ H1 s1 → RelV v u → wpAny (model X.prog X.w) X.A (pyIter u) (PIE X pins σ tg Q') X.xe s1) s w kr fun r e1 v H1 F1 s1 g1 rv w1 pins s2 u I2 ru => by
    obtain ⟨d, e2, F2, q, s2', g2, rd⟩ := s1.settle g1 rv w1
    cases d with
    | list ds =>
      cases rd with
      | lsq h1 h2 =>
        cases ru
        obtain ⟨_, _, _, z⟩ := I2.list (s2'.sub.sqL h1)
        exact iter_l I2 (s2'.sub.sqL h1) (k _ _ _ _ _ s2' g2 (wk_list h1 h2) (by rw [← h2.length]; exact z) q)
    | tuple ds =>
      cases rd with
      | tup h1 h2 =>
        cases ru
        exact iter_t I2 (s2'.sub.sqT h1.sq) (k _ _ _ _ _ s2' g2 (wk_tup h1 h2) (by rw [← h2.length]; exact so_len I2 (s2'.sub.sqT h1.sq)) q)
    | _ => exact q.elim
  exact thn (run pins st I) fun u s1 ⟨v, H1, I1, r1, q⟩ => q pins s1 u I1 r1
theorem rngL_ok {a : Int} {n : Nat} (h : n ≤ 2000000) : (rngL a n).length ≤ sizeLine := by rw [rngL_len, sizeLine_eq]; omega
theorem rngC_len {a c : Int} {n : Nat} : (rngC a c n).length = n := by unfold rngC; simp
theorem rngC_get {a c : Int} {n i : Nat} (h : i < n) : (rngC a c n)[i]? = some (.int (a + (i : Int) * c)) := by
  unfold rngC
  rw [List.getElem?_map, List.getElem?_range h]; rfl
theorem wk_rngC {K : Fg} {F : Hp} {a c : Int} {n : Nat} : Wk K (Itc a c n) (rngC a c n) F := by
  intro H F1 s1 s2
  refine ⟨by rw [rngC_len]; exact Nat.le_refl _, fun i hi => by rw [rngC_len] at hi; exact hi, fun i x H' hi ⟨e, y⟩ => ?_⟩
  subst e y
  rw [rngC_len] at hi
  exact ⟨_, _, rngC_get hi, .same (.int _)⟩
theorem size2 {a b : Int} (h1 : -1000000 ≤ a) (h2 : a ≤ 1000000) (h3 : -1000000 ≤ b) (h4 : b ≤ 1000000) : Builtin.Range.rangeSize a b 2 = (Builtin.Range.rangeSize a b 2).toNat ∧ (Builtin.Range.rangeSize a b 2).toNat ≤ 2000000 ∧ Builtin.Range.small a b 2 = true := by
  have e : Builtin.Range.rangeSize a b 2 = if a < b then (b - a - 1) / 2 + 1 else 0 := by unfold Builtin.Range.rangeSize; rw [if_pos (by decide)]
  refine ⟨?_, ?_, ?_⟩
  · rw [e]; split <;> omega
  · rw [e]; split <;> omega
  · unfold Builtin.Range.small
    rw [e]
    simp only [Builtin.Range.rangeFitsLong, Bool.and_eq_true, Bool.or_eq_true, decide_eq_true_eq, beq_iff_eq, show ((2 : Int) > 0) by decide, if_true]
    split <;> omega
theorem si_rng3 {tg a b d : Expr} {xa : DI.X} {p pos : Pos} (hg : Gl X "range") (hm : X.mg "range" = none) (hn : nost a = true) (hn2 : nost b = true) (hn3 : nost d = true) (ha : SAL X W G cv [a, b, d] xa) : SI X W G cv tg (.Call (.Name "range" p) [a, b, d] [] pos) (.itr .rng xa) := by
  intro R A env σ H F Q Q' s w kr k
  refine pI_of (pi_range3 hg hm pa_p (by rw [star1 hn]) (by rw [star1 hn2, star1 hn3]; rfl)) ?_
  simp only [wI, wE] at w
  refine ha R A [] env σ H F _ _ s w kr fun rs e1 vs H1 F1 s1 g1 f1 hl w1 => ?_
  split at w1
  · rename_i ds e
    have r := resD_rep f1 e
    cases r with
    | nil => cases hl
    | cons r1 r =>
      cases r with
      | nil => cases hl
      | cons r2 r =>
        cases r with
        | nil => cases hl
        | cons r3 r =>
          cases r with
          | cons _ _ => cases hl
          | nil =>
            rename_i v1 d1 v2 d2 v3 d3
            cases d1 with
            | int i =>
              cases d2 with
              | int j =>
                cases d3 with
                | int c =>
                  cases r1; cases r2; cases r3
                  obtain ⟨⟨c1, c2, c3, c4, c5⟩, w1⟩ := w1
                  subst c5
                  obtain ⟨z1, z2, z3⟩ := size2 c1 c2 c3 c4
                  exact ⟨i, j, 2, _, rfl, ⟨by decide, by decide, z3, z1⟩, k _ _ _ _ _ s1 g1 wk_rngC (by rw [rngC_len, sizeLine_eq]; omega) w1⟩
                | _ => exact w1.elim
              | _ => exact w1.elim
            | _ => exact w1.elim
  · exact w1.elim
theorem si_rng1 {tg a : Expr} {xa : DI.X} {p pos : Pos} (hg : Gl X "range") (hm : X.mg "range" = none) (hn : nost a = true) (ha : SAL X W G cv [a] xa) : SI X W G cv tg (.Call (.Name "range" p) [a] [] pos) (.itr .rng xa) := by
  intro R A env σ H F Q Q' s w kr k
  refine pI_of (pi_range1 hg hm pa_p (by rw [star1 hn]; rfl)) ?_
  simp only [wI, wE] at w
  refine ha R A [] env σ H F _ _ s w kr fun rs e1 vs H1 F1 s1 g1 f1 hl w1 => ?_
  split at w1
  · rename_i ds e
    have r := resD_rep f1 e
    cases r with
    | nil => cases hl
    | cons r1 r2 =>
      cases r2 with
      | cons _ _ => cases hl
      | nil =>
        rename_i v d
        cases d with
        | int b =>
          cases r1
          obtain ⟨c, w1⟩ := w1
          exact ⟨b, rfl, by omega, by omega, k _ _ _ _ _ s1 g1 wk_rng (rngL_ok (by omega)) w1⟩
        | _ => exact w1.elim
  · exact w1.elim
theorem si_rng2 {tg a b : Expr} {xa : DI.X} {p pos : Pos} (hg : Gl X "range") (hm : X.mg "range" = none) (hn : nost a = true) (hn2 : nost b = true) (ha : SAL X W G cv [a, b] xa) : SI X W G cv tg (.Call (.Name "range" p) [a, b] [] pos) (.itr .rng xa) := by
  intro R A env σ H F Q Q' s w kr k
  refine pI_of (pi_range2 hg hm pa_p (by rw [star1 hn, star1 hn2]; rfl) (by rw [star1 hn2]; rfl)) ?_
  simp only [wI, wE] at w
  refine ha R A [] env σ H F _ _ s w kr fun rs e1 vs H1 F1 s1 g1 f1 hl w1 => ?_
  split at w1
  · rename_i ds e
    have r := resD_rep f1 e
    cases r with
    | nil => cases hl
    | cons r1 r2 =>
      cases r2 with
      | nil => cases hl
      | cons r2 r3 =>
        cases r3 with
        | cons _ _ => cases hl
        | nil =>
          rename_i v d v2 d2
          cases d with
          | int i =>
            cases d2 with
            | int j =>
              cases r1; cases r2
              obtain ⟨c, w1⟩ := w1
              exact ⟨i, j, rfl, by omega, k _ _ _ _ _ s1 g1 wk_rng (rngL_ok (by omega)) w1⟩
            | _ => exact w1.elim
          | _ => exact w1.elim
  · exact w1.elim
theorem si_rrng {tg a : Expr} {xa : DI.X} {p pos p2 pos2 : Pos} (hg : Gl X "range") (hm : X.mg "range" = none) (hg2 : Gl X "reversed") (hm2 : X.mg "reversed" = none) (hn : nost a = true) (ha : SE X W G cv a xa) :
    SI X W G cv tg (.Call (.Name "reversed" p2) [.Call (.Name "range" p) [a] [] pos] [] pos2) (.itr .rrng (.cons xa .nil)) := by
  intro R A env σ H F Q Q' s w kr k
  refine pI_of (pi_revR hg2 hm2 (prg_1 hg hm pe_p (star1 hn))) ?_
  simp only [wI, wE, wA] at w
  refine ha R A env σ H F _ _ s w kr fun ra e1 x H1 F1 s1 g1 rv1 w1 => ?_
  have go : settle e1 ra (fun d e' => (match resD [RV.v d] with
      | some ds => itW .rrng ds fun r => settle e' (.v (.list r)) fun d e2 => match itemsOf d with
        | some items => Q items e2
        | none => False
      | none => False)) → tRg1 (fun _ H Q => Q x H) σ H1 fun a b H1 => -(2 ^ 62) ≤ a ∧ a < 2 ^ 62 ∧ -(2 ^ 62) ≤ b ∧ b < 2 ^ 62 ∧ Q' (Itc (a + (((b - a).toNat : Nat) : Int) - 1) (-1) (b - a).toNat) H1 := fun w1 => by
    obtain ⟨d, e2, F2, q, s2, g2, rd⟩ := s1.settle g1 rv1 w1
    cases d with
    | int b =>
      cases rd
      obtain ⟨c, q⟩ := q
      refine ⟨b, rfl, by omega, by omega, by omega, by omega, ?_⟩
      have hb : (b - 0).toNat = b.toNat := by rw [Int.sub_zero]
      rw [hb]
      exact k _ _ _ _ _ s2 g2 wk_rrng (by rw [List.length_reverse]; exact rngL_ok (by omega)) q
    | _ => exact q.elim
  exact go w1
theorem wipeE_len : ∀ {vs : List Nat} {e : En}, (wipeE e vs).length = e.length
  | [], _ => rfl
  | v :: vs, e => by unfold wipeE; rw [List.length_set, wipeE_len]
theorem wipeE_get : ∀ {vs : List Nat} {e : En} {j : Nat}, (wipeE e vs)[j]? = if j ∈ vs then (e[j]?).map (fun _ => none) else e[j]?
  | [], e, j => by simp [wipeE]
  | v :: vs, e, j => by
    unfold wipeE
    by_cases hj : j = v
    · subst hj
      rw [if_pos List.mem_cons_self]
      by_cases hl : j < e.length
      · rw [List.getElem?_set_self (by rw [wipeE_len]; exact hl), List.getElem?_eq_getElem hl]; rfl
      · rw [List.getElem?_eq_none (by rw [List.length_set, wipeE_len]; omega), List.getElem?_eq_none (by omega)]; rfl
    · rw [List.getElem?_set_ne (Ne.symm hj), wipeE_get]
      by_cases h2 : j ∈ vs
      · rw [if_pos h2, if_pos (List.mem_cons_of_mem _ h2)]
      · rw [if_neg h2, if_neg (by simp only [List.mem_cons, not_or]; exact ⟨hj, h2⟩)]
theorem wipe_get {σ : L2.St} : ∀ {vs : List Nat} {j : Nat}, j ∉ vs → (wipe σ vs)[j]? = σ[j]? := fun h => wipe_out h
theorem wipeE_some {vs : List Nat} {e : En} {j : Nat} {s : SV} (h : (wipeE e vs)[j]? = some (some s)) : j ∉ vs ∧ e[j]? = some (some s) := by
  rw [wipeE_get] at h
  by_cases hj : j ∈ vs
  · rw [if_pos hj] at h
    cases hz : e[j]? with
    | none => rw [hz] at h; cases h
    | some x => rw [hz] at h; cases h
  · rw [if_neg hj] at h; exact ⟨hj, h⟩
theorem Owns.wipe {vs : List Nat} {e : En} {σ : L2.St} {j : Nat} {p : Addr} (o : Owns (wipeE e vs) (L2.wipe σ vs) j p) : j ∉ vs ∧ Owns e σ j p := by
  obtain ⟨h1, ds, h2⟩ := o
  have hj : j ∉ vs := by rcases h2 with h2 | h2 <;> exact (wipeE_some h2).1
  refine ⟨hj, by rw [← wipe_get hj]; exact h1, ds, ?_⟩
  rcases h2 with h2 | h2
  · exact .inl (wipeE_some h2).2
  · exact .inr (wipeE_some h2).2
theorem Sta.wipe {K : Fg} {cv : CV} {A : AT} {e : En} {σ : L2.St} {H F : Hp} {vs : List Nat} (s : Sta K cv A e σ H F) : Sta K cv A (wipeE e vs) (L2.wipe σ vs) H F := by
  refine ⟨s.sub, by rw [wipeE_len, wipe_length]; exact s.len, fun j sv h => ?_, fun i j p o1 o2 => s.dist i j p o1.wipe.2 o2.wipe.2, s.sx⟩
  obtain ⟨hj, h2⟩ := wipeE_some h
  have := s.slot j sv h2
  cases sv <;> simpa only [SlotOk, wipe_get hj] using this
theorem backE_len {e0 : En} : ∀ {vs : List Nat} {e : En}, (backE e0 e vs).length = e.length
  | [], _ => rfl
  | v :: vs, e => by
    unfold backE
    split
    · rw [List.length_set, backE_len]
    · exact backE_len
theorem backE_get {e0 : En} : ∀ {vs : List Nat} {e : En} {j : Nat}, e.length = e0.length → (backE e0 e vs)[j]? = if j ∈ vs then e0[j]? else e[j]?
  | [], e, j, _ => by simp [backE]
  | v :: vs, e, j, hl => by
    unfold backE
    by_cases hj : j = v
    · subst hj
      rw [if_pos List.mem_cons_self]
      split
      · rename_i s h
        rw [List.getElem?_set_self (by rw [backE_len, hl]; exact lt_of_get h)]; exact h.symm
      · rename_i h
        rw [h]
        have : e0.length ≤ j := List.getElem?_eq_none_iff.mp h
        exact List.getElem?_eq_none (by rw [backE_len, hl]; exact this)
    · have ih := backE_get (vs := vs) (e := e) (j := j) hl
      have : (if j ∈ v :: vs then e0[j]? else e[j]?) = if j ∈ vs then e0[j]? else e[j]? := by
        by_cases h2 : j ∈ vs
        · rw [if_pos h2, if_pos (List.mem_cons_of_mem _ h2)]
        · rw [if_neg h2, if_neg (by simp only [List.mem_cons, not_or]; exact ⟨hj, h2⟩)]
      rw [this]
      split
      · rw [List.getElem?_set_ne (Ne.symm hj)]; exact ih
      · exact ih
/-- out of the block -/
theorem Sta.unwipe {K : Fg} {cv : CV} {A : AT} {e0 e : En} {σ : L2.St} {H0 F0 H F : Hp} {vs : List Nat} (s0 : Sta K cv A e0 σ H0 F0) (s : Sta K cv A (wipeE e vs) (L2.wipe σ vs) H F) (g : Go (wipeE e0 vs) (L2.wipe σ vs) H0 F0 (wipeE e vs) (L2.wipe σ vs) H F) :
    Sta K cv A (backE e0 e vs) σ H F ∧ Go e0 σ H0 F0 (backE e0 e vs) σ H F ∧ ∀ j p, Owns (backE e0 e vs) σ j p → H0 p = none ∨ Owns e0 σ j p ∨ ∃ k, Owns e0 σ k p := by
  have hl : e.length = e0.length := by have := g.len; rw [wipeE_len, wipeE_len] at this; exact this.symm
  have cases2 : ∀ {j sv}, (backE e0 e vs)[j]? = some (some sv) → (j ∈ vs ∧ e0[j]? = some (some sv)) ∨ (j ∉ vs ∧ (wipeE e vs)[j]? = some (some sv)) := fun {j sv} h => by
    rw [backE_get hl] at h
    by_cases hj : j ∈ vs
    · rw [if_pos hj] at h; exact .inl ⟨hj, h⟩
    · rw [if_neg hj] at h; exact .inr ⟨hj, by rw [wipeE_get, if_neg hj]; exact h⟩
  have ownC : ∀ {j p}, Owns (backE e0 e vs) σ j p → (j ∈ vs ∧ Owns e0 σ j p) ∨ (j ∉ vs ∧ Owns (wipeE e vs) (L2.wipe σ vs) j p) := fun {j p} ⟨h1, ds, h2⟩ => by
    rcases h2 with h2 | h2
    · rcases cases2 h2 with ⟨a, b⟩ | ⟨a, b⟩
      · exact .inl ⟨a, h1, ds, .inl b⟩
      · exact .inr ⟨a, by rw [wipe_get a]; exact h1, ds, .inl b⟩
    · rcases cases2 h2 with ⟨a, b⟩ | ⟨a, b⟩
      · exact .inl ⟨a, h1, ds, .inr b⟩
      · exact .inr ⟨a, by rw [wipe_get a]; exact h1, ds, .inr b⟩
  have noW : ∀ {j p}, j ∈ vs → Owns e0 σ j p → ∀ i, ¬ Owns (wipeE e0 vs) (L2.wipe σ vs) i p := fun {j p} hj o i o2 => by
    have o3 := o2.wipe
    rw [s0.dist i j p o3.2 o] at o3
    exact o3.1 hj
  have cross : ∀ {i j p}, i ∈ vs → Owns e0 σ i p → Owns (wipeE e vs) (L2.wipe σ vs) j p → False := fun {i j p} hi o1 o2 => by
    obtain ⟨_, xs, hx⟩ := s0.owns o1
    rcases g.own j p o2 with z | ⟨k, z⟩
    · rw [hx] at z; cases z
    · exact noW hi o1 k z
  refine ⟨⟨s.sub, by rw [backE_len, hl]; exact s0.len, fun j sv h => ?_, fun i j p o1 o2 => ?_, s.sx⟩, ⟨g.ext, fun a o h n t => g.frm a o h (fun i o2 => n i o2.wipe.2) t, g.liv, fun a h1 h2 n => g.new a h1 h2 fun i o2 => n i o2.wipe.2, fun j p o => ?_, fun j ds h => ?_, by rw [backE_len, hl]⟩, fun j p o => ?_⟩
  · rcases cases2 h with ⟨hj, h2⟩ | ⟨hj, h2⟩
    · refine (s0.slot j sv h2).keep g.ext fun p xs w1 w2 w3 hn => ?_
      have o : Owns e0 σ j p := ⟨w1, by
        cases sv with
        | v d => exact hn.elim
        | th d => exact hn.elim
        | fn d => exact hn.elim
        | own ds => exact ⟨ds, .inl h2⟩
        | io ds => exact ⟨ds, .inr h2⟩⟩
      exact ⟨g.new p w2 (by rw [w3]; simp) (noW hj o), g.frm p _ w3 (noW hj o) nt_lst⟩
    · have := s.slot j sv h2
      cases sv <;> simpa only [SlotOk, wipe_get hj] using this
  · rcases ownC o1 with ⟨a1, b1⟩ | ⟨a1, b1⟩
    · rcases ownC o2 with ⟨a2, b2⟩ | ⟨a2, b2⟩
      · exact s0.dist i j p b1 b2
      · exact (cross a1 b1 b2).elim
    · rcases ownC o2 with ⟨a2, b2⟩ | ⟨a2, b2⟩
      · exact (cross a2 b2 b1).elim
      · exact s.dist i j p b1 b2
  · rcases ownC o with ⟨_, b⟩ | ⟨_, b⟩
    · exact .inr ⟨j, b⟩
    · rcases g.own j p b with z | ⟨k, z⟩
      · exact .inl z
      · exact .inr ⟨k, z.wipe.2⟩
  · rw [backE_get hl]
    by_cases hj : j ∈ vs
    · rw [if_pos hj]; exact ⟨ds, h⟩
    · rw [if_neg hj]
      obtain ⟨d2, h2⟩ := g.iok j ds (by rw [wipeE_get, if_neg hj]; exact h)
      rw [wipeE_get, if_neg hj] at h2
      exact ⟨d2, h2⟩
  · rcases ownC o with ⟨_, b⟩ | ⟨_, b⟩
    · exact .inr (.inl b)
    · rcases g.own j p b with z | ⟨k, z⟩
      · exact .inl z
      · exact .inr (.inr ⟨k, z.wipe.2⟩)
end
end DI
namespace DI
open PySem L2
open PyProof.Rows hiding St
/-- a list (false) or a tuple (true) at a -/
def SqK (t : Bool) (K : Fg) (H : Hp) (a : Addr) (xs : List L2.V) : Prop := match t with
  | false => SqL K H a xs
  | true => SqT K H a xs
def ItK (t : Bool) (h : Heap) (it a : Addr) (i : Nat) : Prop := match t with
  | false => h.IsListIter it a i
  | true => h.IsTupleIter it a i
def IsK (t : Bool) (h : Heap) (a : Addr) (its : Array Value) : Prop := match t with
  | false => h.IsList a its
  | true => h.IsTuple a its
def itObj (t : Bool) (a : Addr) : Obj := match t with
  | false => { cls := .type "list_iterator", data := .fields #[.ref a, .int 0 0] }
  | true => { cls := .type "tuple_iterator", data := .fields #[.ref a, .int 0 0] }
theorem Sub.sqK {K : Fg} {F F' : Hp} {t : Bool} {a : Addr} {xs : List L2.V} (s : Sub F F') (h : SqK t K F a xs) : SqK t K F' a xs := by
  cases t
  · exact s.sqL h
  · exact s.sqT h
section
variable {X : Cx} {pins : List (Addr × Obj)} {σ : L2.St} {H : Hp} {s : Shared}
theorem inv_k (I : Inv X pins σ H s) {t : Bool} {a : Addr} {xs : List L2.V} (h : SqK t X.K H a xs) : ∃ its : List Value, Vals xs its ∧ IsK t s.heap a its.toArray := by
  cases t
  · obtain ⟨its, rv, p, _⟩ := I.list h
    exact ⟨its, rv, p.isList⟩
  · obtain ⟨its, rv, p, _⟩ := I.tuple h
    exact ⟨its, rv, (show s.heap.IsTuple a its.toArray from p)⟩
theorem inj_k (I : Inv X pins σ H s) {t : Bool} {a : Addr} {xs ys : List L2.V} (h : SqK t X.K H a xs) (g : SqK t X.K H a ys) : xs = ys := by
  cases t
  · exact I.list_inj h g
  · exact I.tuple_inj h g
end
theorem IsK.live {t : Bool} {h : Heap} {a : Addr} {its : Array Value} (x : IsK t h a its) : a < h.objs.size := by
  cases t
  · obtain ⟨o, e, _⟩ := x; exact Heap.lt_size e
  · obtain ⟨o, e, _⟩ := x; exact Heap.lt_size e
theorem ItK.obj {t : Bool} {h : Heap} {it a : Addr} {i : Nat} (x : ItK t h it a i) : ∃ o, h.get? it = some o ∧ ∀ v, o.data ≠ .cell v := by
  cases t
  · obtain ⟨o, e, _, d⟩ := x; exact ⟨o, e, fun v q => by rw [d] at q; cases q⟩
  · obtain ⟨o, e, _, d⟩ := x; exact ⟨o, e, fun v q => by rw [d] at q; cases q⟩
theorem ItK.at {t : Bool} {h h' : Heap} {it a : Addr} {i : Nat} (x : ItK t h it a i) (k : ∀ o, h.get? it = some o → h'.get? it = some o) : ItK t h' it a i := by
  cases t
  · exact Heap.IsListIter.at x k
  · exact Heap.IsTupleIter.at x k
theorem ItK.first {t : Bool} {h : Heap} {it a : Addr} (e : h.get? it = some (itObj t a)) : ItK t h it a 0 := by
  cases t
  · exact ⟨_, e, rfl, rfl⟩
  · exact ⟨_, e, rfl, rfl⟩
theorem draws_k {P : Program} {w : World} {A : Around} (hh : A.handled = none) (t : Bool) (it a : Addr) (hne : a ≠ it) (its : Array Value) :
    Draws P w A it [it, a] its.size (fun i v => its[i]? = some v) (fun i h => ItK t h it a i ∧ IsK t h a its) := by
  cases t
  · exact Draws.list hh it a hne its
  · exact Draws.tuple hh it a hne its
theorem begins_k (t : Bool) (a : Addr) (its : Array Value) : Begins (.ref a) (itObj t a) (fun h => IsK t h a its) := by
  cases t
  · exact begins_list a its
  · exact begins_tuple a its
/-- rows at a and c side by side, each pair new -/
def IzG (K : Fg) (t u : Bool) (a c : Addr) : L2.It where
  go i H := ∃ (xs ys : List L2.V) (x y : L2.V), SqK t K H a xs ∧ SqK u K H c ys ∧ xs[i]? = some x ∧ ys[i]? = some y
  yld i H v H' := ∃ T x y ob, v = .ref T ∧ ob.dict = none ∧ H T = none ∧ H' = upd H T (.frz ob (.tup [x, y])) ∧ (∀ xs, SqK t K H a xs → xs[i]? = some x) ∧ ∀ ys, SqK u K H c ys → ys[i]? = some y
  stop i H := ∃ xs ys : List L2.V, SqK t K H a xs ∧ SqK u K H c ys ∧ i ≤ xs.length ∧ i ≤ ys.length ∧ (i = xs.length ∨ i = ys.length)
theorem turn_zg {P : Program} {w : World} {K : Fg} {elts : List Expr} {kk : Nat} {tpos : Pos} {t u : Bool} {a c z TI TO i1 i2 : Addr} (S : ZipSep2 z TI TO i1 i2 [i1, a] [i2, c]) :
    Turn P w K (.Tuple elts kk tpos) (IzG K t u a c) [z, TI, TO, i1, i2] z (fun i h => (IsZip h z TI TO .none ∧ IsTupOf2 h TI (.ref i1) (.ref i2)) ∧ (∃ x y, IsTupOf2 h TO x y) ∧ ItK t h i1 a i ∧ ItK u h i2 c i) where
  mem := List.mem_cons_self
  obj := fun i h st b hb => by
    obtain ⟨⟨hz, hI⟩, ⟨x, y, hO⟩, h1, h2⟩ := st
    simp only [List.mem_cons, List.not_mem_nil, or_false] at hb
    obtain rfl | rfl | rfl | rfl | rfl := hb
    · exact ⟨_, hz, fun v q => nomatch q⟩
    · exact ⟨_, hI, fun v q => nomatch q⟩
    · exact ⟨_, hO, fun v q => nomatch q⟩
    · exact h1.obj
    · exact h2.obj
  keep := fun i h h' st k => by
    obtain ⟨⟨hz, hI⟩, ⟨x, y, hO⟩, h1, h2⟩ := st
    refine ⟨⟨k _ ?_ _ hz, k _ ?_ _ hI⟩, ⟨x, y, k _ ?_ _ hO⟩, h1.at fun o q => k _ ?_ o q, h2.at fun o q => k _ ?_ o q⟩
    all_goals simp
  item := by
    rintro X rfl rfl rfl hc i pins s σ H E I hf ⟨⟨hz, hI⟩, ⟨x0, y0, hO⟩, h1, h2⟩ ⟨xs, ys, x, y, qx, qy, hx, hy⟩
    obtain ⟨l1, r1, p1⟩ := inv_k I qx
    obtain ⟨l2, r2, p2⟩ := inv_k I qy
    obtain ⟨v1, e1, g1⟩ := r1.get hx
    obtain ⟨v2, e2, g2⟩ := r2.get hy
    have hh : X.A.handled = none := I.ok.hd hc
    have k1 : i < l1.toArray.size := by
      rw [List.size_toArray]; exact (List.getElem?_eq_some_iff.mp e1).1
    have k2 : i < l2.toArray.size := by
      rw [List.size_toArray]; exact (List.getElem?_eq_some_iff.mp e2).1
    have zl := Heap.lt_size hz
    have a1 : a ≠ i1 := fun e => by
      have := (hf i1 (by simp)).1
      subst e
      cases t
      · exact absurd qx (by intro q; obtain ⟨o, eo, _, d⟩ := h1; obtain ⟨o', eo', _, n, d'⟩ := p1; rw [eo] at eo'; cases eo'; rw [d] at d'; cases d')
      · exact absurd qx (by intro q; obtain ⟨o, eo, _, d⟩ := h1; obtain ⟨o', eo', _, n, d'⟩ := p1; rw [eo] at eo'; cases eo'; rw [d] at d'; cases d')
    have a2 : c ≠ i2 := fun e => by
      subst e
      cases u
      · exact absurd qy (by intro q; obtain ⟨o, eo, _, d⟩ := h2; obtain ⟨o', eo', _, n, d'⟩ := p2; rw [eo] at eo'; cases eo'; rw [d] at d'; cases d')
      · exact absurd qy (by intro q; obtain ⟨o, eo, _, d⟩ := h2; obtain ⟨o', eo', _, n, d'⟩ := p2; rw [eo] at eo'; cases eo'; rw [d] at d'; cases d')
    refine wpAny_pyNext_zipD2_item S (draws_k (A := X.A.in1) hh t i1 a a1 l1.toArray) (draws_k (A := X.A.in1) hh u i2 c a2 l2.toArray) hz hI hO ⟨h1, p1⟩ ⟨h2, p2⟩ k1 k2 fun w1 w2 h' tk y1 y2 z' O' st1 st2 hT hsz hk => ?_
    have y1' : v1 = w1 := by
      have q : l1.toArray[i]? = some v1 := by simpa using e1
      rw [q] at y1; cases y1; rfl
    have y2' : v2 = w2 := by
      have q : l2.toArray[i]? = some v2 := by simpa using e2
      rw [q] at y2; cases y2; rfl
    subst y1' y2'
    refine ⟨_, rfl, wpAny_letOwnedTupleGo_zip (s := { s with heap := h', toks := tk }) z' fun h2' z2 sb => ?_⟩
    have T2 : h2'.get? s.heap.objs.size = some { cls := .type "tuple", data := .seq #[v1, v2] } := (sb.2 _ (Nat.ne_of_gt zl)).trans hT
    have new : ObjOk X.prog X.w (upd H s.heap.objs.size (.frz { cls := .type "tuple", data := .seq #[v1, v2] } (.tup [x, y]))) h2' s.heap.objs.size (.frz { cls := .type "tuple", data := .seq #[v1, v2] } (.tup [x, y])) := by
      refine ⟨T2, ?_, [v1, v2], .cons g1 (.cons g2 .nil), ⟨_, T2, rfl, _, rfl⟩⟩
      show 2 ≤ sizeLine
      decide
    have kept : ∀ b o, b ∉ [z, TI, TO, i1, i2] → s.heap.get? b = some o → h2'.get? b = some o := fun b o hb q => by
      simp only [List.mem_cons, List.not_mem_nil, or_false, not_or] at hb
      obtain ⟨n1, n2, n3, n4, n5⟩ := hb
      exact (sb.2 b n1).trans (hk b o n1 n3 n4 n5 q)
    refine ⟨.ref s.heap.objs.size, _, I.turnedNew (t' := tk) (ch := [z, TI, TO, i1, i2]) kept hf (Nat.le_refl _) new, rfl, ⟨_, x, y, _, rfl, rfl, I.hok.fresh (Nat.le_refl _), rfl, fun l hl => (inj_k I hl qx).symm ▸ hx, fun l hl => (inj_k I hl qy).symm ▸ hy⟩, ⟨⟨z2, ?_⟩, ⟨v1, v2, ?_⟩, ?_, ?_⟩, fun b hb => ?_⟩
    · exact (sb.2 _ S.TIz).trans (hk _ _ S.TIz S.TITO S.TIi1 S.TIi2 hI)
    · exact (sb.2 _ S.TOz).trans O'
    · exact st1.1.at fun o q => (sb.2 _ S.zi1.symm).trans q
    · exact st2.1.at fun o q => (sb.2 _ S.zi2.symm).trans q
    · have lt : b < s.heap.objs.size := by
        obtain ⟨_, q1, _⟩ := h1.obj
        obtain ⟨_, q2, _⟩ := h2.obj
        simp only [List.mem_cons, List.not_mem_nil, or_false] at hb
        obtain rfl | rfl | rfl | rfl | rfl := hb
        · exact zl
        · exact Heap.lt_size hI
        · exact Heap.lt_size hO
        · exact Heap.lt_size q1
        · exact Heap.lt_size q2
      rw [upd_ne (Nat.ne_of_lt lt)]
      exact (hf b hb).1
  done := by
    rintro X rfl rfl rfl hc i pins s σ H E I hf ⟨⟨hz, hI⟩, ⟨x0, y0, hO⟩, h1, h2⟩ ⟨xs, ys, qx, qy, b1, b2, b3⟩
    obtain ⟨l1, r1, p1⟩ := inv_k I qx
    obtain ⟨l2, r2, p2⟩ := inv_k I qy
    have n1 := r1.length
    have n2 := r2.length
    have hh : X.A.handled = none := I.ok.hd hc
    have a1 : a ≠ i1 := fun e => by
      subst e
      cases t
      · obtain ⟨o, eo, _, d⟩ := h1; obtain ⟨o', eo', _, n, d'⟩ := p1; rw [eo] at eo'; cases eo'; rw [d] at d'; cases d'
      · obtain ⟨o, eo, _, d⟩ := h1; obtain ⟨o', eo', _, n, d'⟩ := p1; rw [eo] at eo'; cases eo'; rw [d] at d'; cases d'
    have a2 : c ≠ i2 := fun e => by
      subst e
      cases u
      · obtain ⟨o, eo, _, d⟩ := h2; obtain ⟨o', eo', _, n, d'⟩ := p2; rw [eo] at eo'; cases eo'; rw [d] at d'; cases d'
      · obtain ⟨o, eo, _, d⟩ := h2; obtain ⟨o', eo', _, n, d'⟩ := p2; rw [eo] at eo'; cases eo'; rw [d] at d'; cases d'
    refine wpAny_pyNext_zipD2_end S (draws_k (A := X.A.in1) hh t i1 a a1 l1.toArray) (draws_k (A := X.A.in1) hh u i2 c a2 l2.toArray) hz hI hO ⟨h1, p1⟩ ⟨h2, p2⟩ (by rw [List.size_toArray]; omega) (by rw [List.size_toArray]; omega) (by rw [List.size_toArray, List.size_toArray]; omega) fun h' tk hk => ⟨rfl, I.turnedL (t' := tk) (ch := [z, TI, TO, i1, i2]) (fun b o hb q => ?_) hf⟩
    simp only [List.mem_cons, List.not_mem_nil, or_false, not_or] at hb
    exact hk b o hb.1 hb.2.2.1 hb.2.2.2.1 hb.2.2.2.2 q
  self := fun A i s Q E st h => wpAny_pyIter_zip st.1.1 h
/-- zip, its two rows reckoned -/
def iZG (K : Fg) (ta : TA) : TI := fun σ H R => ta σ H fun vs H1 => ∃ t u a c xs ys, vs = [.ref a, .ref c] ∧ SqK t K H1 a xs ∧ SqK u K H1 c ys ∧ R (IzG K t u a c) H1
theorem pi_zg {X : Cx} {e e2 : Expr} {ta : TA} {p pos tpos : Pos} {elts : List Expr} {kk : Nat} (hg : Gl X "zip") (hm : X.mg "zip" = none) (ha : PA X [e, e2] ta)
    (hs : starEach [e, e2] X.env = (false, eval e X.env) :: starEach [e2] X.env) (hpl : (backTo pos (starEach [e2] X.env)).any (·.1) = false) :
    PI X (.Tuple elts kk tpos) (.Call (.Name "zip" p) [e, e2] [] pos) (iZG X.K ta) := by
  refine ⟨fun pins s σ H R I h => Call_ (ld_blt I hg hm PyProof.Rows.boot_zip (PyProof.Rows.callWith_type1 (thn (ha.run pos pins s σ H _ I h) fun us s1 ⟨vs, H1, I1, r1, q1⟩ => ?_) hs hpl))⟩
  obtain ⟨t, u, a, c, xs, ys, rfl, qx, qy, q⟩ := q1
  cases r1 with
  | cons r rr => cases rr with
    | cons r' rr =>
      cases rr; cases r; cases r'
      obtain ⟨l1, v1, p1⟩ := inv_k I1 qx
      obtain ⟨l2, v2, p2⟩ := inv_k I1 qy
      refine zip_begins2 (begins_k t a l1.toArray) (begins_k u c l2.toArray) p1 p2 fun h' hz hI hO g1 g2 hsz hk => wpAny_pyIter_zip hz ?_
      have I2 : Inv X pins σ H1 { s1 with heap := h' } := I1.kept (t' := s1.toks) hk
      have S := zip_sep2 (N := s1.heap.objs.size) (fp1 := [a]) (fp2 := [c]) (fun b hb => by rw [List.mem_singleton.mp hb]; exact p1.live) (fun b hb => by rw [List.mem_singleton.mp hb]; exact p2.live)
      refine ⟨_, _, _, _, H1, rfl, I2, turn_zg (t := t) (u := u) S, ⟨⟨hz, hI⟩, ⟨_, _, hO⟩, .first g1, .first g2⟩, fun b hb => ?_, q⟩
      have le : s1.heap.objs.size ≤ b := by
        simp only [List.mem_cons, List.not_mem_nil, or_false] at hb
        obtain e | e | e | e | e := hb
        · rw [e]; exact Nat.le_add_right _ _
        · rw [e]; exact Nat.le_add_right _ _
        · rw [e]; exact Nat.le_add_right _ _
        · rw [e]; exact Nat.le_refl _
        · rw [e]; exact Nat.le_add_right _ _
      exact I1.fpOk le (I1.hok.fresh le)
theorem zip_at {ds es : List D} {i : Nat} {d e : D} (h : ds[i]? = some d) (g : es[i]? = some e) : ((ds.zip es).map fun p => PyData.tuple [p.1, p.2])[i]? = some (.tuple [d, e]) := by
  rw [List.getElem?_map, List.getElem?_zip_eq_some (z := (d, e)) |>.mpr ⟨h, g⟩]; rfl
theorem wk_zg {K : Fg} {F : Hp} {t u : Bool} {a c : Addr} {xs ys : List L2.V} {ds es : List D} (h : SqK t K F a xs) (r : RepL K F xs ds) (h2 : SqK u K F c ys) (r2 : RepL K F ys es) : Wk K (IzG K t u a c) ((ds.zip es).map fun p => .tuple [p.1, p.2]) F := by
  intro H F1 s1 s2
  have q1 : SqK t K H a xs := (s1.trans s2).sqK h
  have q2 : SqK u K H c ys := (s1.trans s2).sqK h2
  have n1 := r.length
  have n2 := r2.length
  have hl : ((ds.zip es).map fun p => PyData.tuple [p.1, p.2]).length = min xs.length ys.length := by
    rw [List.length_map, List.length_zip, n1, n2]
  rw [hl]
  refine ⟨⟨xs, ys, q1, q2, Nat.min_le_left _ _, Nat.min_le_right _ _, by omega⟩, fun i hi => ?_, fun i x H' hi ⟨T, v, v', ob, e, hd, hT, e', y1, y2⟩ => ?_⟩
  · have k1 : i < xs.length := by omega
    have k2 : i < ys.length := by omega
    exact ⟨xs, ys, xs[i], ys[i], q1, q2, by simp [k1], by simp [k2]⟩
  · subst e e'
    obtain ⟨d, g1, g2⟩ := r.getV (y1 xs q1)
    obtain ⟨d', g3, g4⟩ := r2.getV (y2 ys q2)
    exact ⟨_, _, zip_at g1 g3, .tup hd hT (.cons (g2.mono s1) (.cons (g4.mono s1) .nil))⟩
theorem two_res {K : Fg} {F : Hp} {σ : L2.St} {vs : List L2.V} {rs : List RV} {ds : List D} {n : Nat} (f : Paired (fun v r => (∃ d, r = .v d ∧ Rep K F v d) ∨ ∃ i, r = .bor i ∧ σ[i]? = some (some v)) vs rs) (e : resD rs = some ds) (hl : vs.length = n) : RepL K F vs ds ∧ ds.length = n := by
  have r := resD_rep f e
  exact ⟨r, by rw [← r.length]; exact hl⟩
/-- a row as a sequence -/
theorem Rep.seq {K : Fg} {F : Hp} {x : L2.V} {d : D} {ds : List D} (h : Rep K F x d) (e : itemsOf d = some ds) : ∃ t a xs, x = .ref a ∧ SqK t K F a xs ∧ RepL K F xs ds := by
  cases h with
  | lsq h1 h2 => cases e; exact ⟨false, _, _, rfl, h1, h2⟩
  | tup h1 h2 => cases e; exact ⟨true, _, _, rfl, h1.sq, h2⟩
  | _ => cases e
/-- the length of a row that stands -/
theorem sqK_len {X : Cx} {pins : List (Addr × Obj)} {σ : L2.St} {H : Hp} {s : Shared} (I : Inv X pins σ H s) {t : Bool} {a : Addr} {xs : List L2.V} (h : SqK t X.K H a xs) : xs.length ≤ sizeLine := by
  cases t
  · exact (I.list h).choose_spec.2.2
  · exact so_len I h
section
variable {X : Cx} {W : WX} {G : Nat → Fn} {cv : CV}
theorem si_zip {elts : List Expr} {kk : Nat} {tpos p pos : Pos} {a b : Expr} {xa : DI.X} (hg : Gl X "zip") (hm : X.mg "zip" = none) (hn : nost a = true) (hn2 : nost b = true) (ha : SAL X W G cv [a, b] xa) :
    SI X W G cv (.Tuple elts kk tpos) (.Call (.Name "zip" p) [a, b] [] pos) (.itr .zip xa) := by
  intro R A env σ H F Q Q' s w kr k pins st I
  refine pI_of (R := Q') (pi_zg (p := p) (pos := pos) (tpos := tpos) (elts := elts) (kk := kk) hg hm pa_p (by rw [star1 hn]) (by rw [star1 hn2]; rfl)) ?_ pins st I
  simp only [wI, wE] at w
  clear I st pins
  intro pos' pins st I
  have z := ha R A [] env σ H F _ (fun vs H1 => ∀ (pins : List (Addr × Obj)) (s1 : Shared), Inv X pins σ H1 s1 → ∃ t u a c xs ys, vs = [.ref a, .ref c] ∧ SqK t X.K H1 a xs ∧ SqK u X.K H1 c ys ∧ Q' (IzG X.K t u a c) H1) s w kr (fun rs e1 vs H1 F1 s1 g1 f1 hl w1 pins s2 I2 => ?_) pos' pins st I
  · exact thn z fun us s1 ⟨vs, H1, I1, r1, q⟩ => ⟨vs, H1, I1, r1, q pins s1 I1⟩
  split at w1
  · rename_i ds e
    obtain ⟨r, hd⟩ := two_res f1 e hl
    match ds, r, hd with
    | [d, d'], .cons r1 (.cons r2 .nil), _ =>
      simp only [itW] at w1
      cases e1' : itemsOf d with
      | none => rw [e1'] at w1; exact False.elim w1
      | some us =>
        cases e2' : itemsOf d' with
        | none => rw [e1', e2'] at w1; exact False.elim w1
        | some ws =>
          rw [e1', e2'] at w1
          obtain ⟨t, a, xs, rfl, q1, l1⟩ := r1.seq e1'
          obtain ⟨u, c, ys, rfl, q2, l2⟩ := r2.seq e2'
          refine ⟨t, u, a, c, xs, ys, rfl, s1.sub.sqK q1, s1.sub.sqK q2, k _ _ _ _ _ s1 g1 (wk_zg q1 l1 q2 l2) ?_ w1⟩
          rw [List.length_map, List.length_zip, ← l1.length]
          exact Nat.le_trans (Nat.min_le_left _ _) (sqK_len I2 (s1.sub.sqK q1))
  · exact False.elim w1
end
end DI
namespace DI
open PySem L2
open PyProof.Rows hiding St
/-- enumerate of one thing that an iterator is made of -/
theorem meets_enum1 {v : Value} {o : Obj} {J : Heap → Prop} (B : Begins v o J) : Meets (Builtin.«enumerate.__new__» ⟨[.type "enumerate", v], []⟩) (fun _ R s => J s.heap ∧
    R (.ok (.ret (.ref (s.heap.push o).objs.size))) { s with heap := (s.heap.push o).push { cls := .type "enumerate", data := .fields #[.none, .bool false, .ref s.heap.objs.size, rawInt 0, .none, .none] } }) := by
  refine .of_wp fun P w A R s ⟨j, h⟩ => ?_
  obtain ⟨hp, g, d, tk, os⟩ := s
  have hsub := sub_enumerate
  have q1 : ∀ {A' : Around} {E : Value → Shared → Prop} {Q : Value → Shared → Prop}, Q (.ref hp.objs.size) ⟨hp.push o, g, d, tk, os⟩ → wpAny (model P w) A' (pyIter v) Q E ⟨hp, g, d, tk, os⟩ := fun q => B.iter P w _ _ ⟨hp, g, d, tk, os⟩ _ j q
  wp_walk using q1
  refine wpAny_stack_any fun st => ?_
  refine wpAny_pure ?_
  split
  · rename_i c _ _ _ _ _
    cases (c == Value.type "enumerate") <;> (wp_walk using q1; exact ⟨_, rfl, h⟩)
  · wp_walk using q1
    exact ⟨_, rfl, h⟩
theorem enum1 {P : Program} {w : World} {A : Around} {E : Value → Shared → Prop} {s : Shared} {v : Value} {o : Obj} {J : Heap → Prop} {Q : Value → Shared → Prop} (B : Begins v o J) (h1 : J s.heap)
    (h : ∀ h', IsEnum h' (s.heap.objs.size + 1) s.heap.objs.size 0 .none → h'.get? s.heap.objs.size = some o → h'.objs.size = s.heap.objs.size + 2 → (∀ b o, s.heap.get? b = some o → h'.get? b = some o) → Q (.ref (s.heap.objs.size + 1)) { s with heap := h' }) :
    wpAny (model P w) A (call (.type "enumerate") [v]) Q E s := by
  refine callType_new F.called_enumerate (by decide) (F.typeCall_enumerate_1 v) (F.newCall_enumerate_1 v) (fun obj => F.args_object_init_2 obj v) F.entry_enumerate_new (meets_enum1 B) ⟨h1, ?_⟩
  have hz : (s.heap.push o).objs.size = s.heap.objs.size + 1 := by rw [Heap.size_push]
  have he := Heap.get?_push_size (s.heap.push o) (o := { cls := .type "enumerate", data := .fields #[.none, .bool false, .ref s.heap.objs.size, rawInt 0, .none, .none] }) rfl
  rw [hz] at he
  show _ ∧ _
  rw [hz]
  exact ⟨⟨_, he, rfl⟩, h _ he (Heap.get?_push_of_some _ (Heap.get?_push_size _ B.free)) (by rw [Heap.size_push, hz]) fun b u x => Heap.get?_push_of_some _ (Heap.get?_push_of_some _ x)⟩
/-- the row at a, each item with its number in a new pair -/
def IeG (K : Fg) (t : Bool) (a : Addr) : L2.It where
  go i H := ∃ (xs : List L2.V) (x : L2.V), SqK t K H a xs ∧ xs[i]? = some x
  yld i H v H' := ∃ T x ob, v = .ref T ∧ ob.dict = none ∧ H T = none ∧ H' = upd H T (.frz ob (.tup [.int (i : Nat), x])) ∧ ∀ xs, SqK t K H a xs → xs[i]? = some x
  stop i H := ∃ xs : List L2.V, SqK t K H a xs ∧ i = xs.length
theorem turn_eg {P : Program} {w : World} {K : Fg} {elts : List Expr} {kk : Nat} {tpos : Pos} {t : Bool} {a e it : Addr} :
    Turn P w K (.Tuple elts kk tpos) (IeG K t a) [e, it] e (fun i h => (∃ old, IsEnum h e it ((i : Nat) : Int) old) ∧ ItK t h it a i ∧ e ≠ it ∧ e ≠ a) where
  mem := List.mem_cons_self
  obj := fun i h ⟨⟨old, he⟩, hi, _⟩ b hb => by
    simp only [List.mem_cons, List.not_mem_nil, or_false] at hb
    obtain rfl | rfl := hb
    · exact ⟨_, he, fun v q => nomatch q⟩
    · exact hi.obj
  keep := fun i h h' ⟨⟨old, he⟩, hi, n⟩ k => ⟨⟨old, k e (by simp) _ he⟩, hi.at fun o q => k it (by simp) o q, n⟩
  item := by
    rintro X rfl rfl rfl hc i pins s σ H E I hf ⟨⟨old, he⟩, hi, ne, na⟩ ⟨xs, x, qx, hx⟩
    obtain ⟨l1, r1, p1⟩ := inv_k I qx
    obtain ⟨v1, e1, g1⟩ := r1.get hx
    have hh : X.A.handled = none := I.ok.hd hc
    have k1 : i < l1.toArray.size := by
      rw [List.size_toArray]; exact (List.getElem?_eq_some_iff.mp e1).1
    have el := Heap.lt_size he
    have il : it < s.heap.objs.size := by obtain ⟨_, q, _⟩ := hi.obj; exact Heap.lt_size q
    have a1 : a ≠ it := fun z => by
      subst z
      cases t
      · obtain ⟨o, eo, _, d⟩ := hi; obtain ⟨o', eo', _, n, d'⟩ := p1; rw [eo] at eo'; cases eo'; rw [d] at d'; cases d'
      · obtain ⟨o, eo, _, d⟩ := hi; obtain ⟨o', eo', _, n, d'⟩ := p1; rw [eo] at eo'; cases eo'; rw [d] at d'; cases d'
    refine wpAny_pyNext_enum_itemD (draws_k (A := X.A.in1) hh t it a a1 l1.toArray) he ⟨hi, p1⟩ k1 ne (by simp [ne, na]) fun w1 h' tk y1 ho st1 hT hsz hk => ?_
    have y1' : v1 = w1 := by
      have q : l1.toArray[i]? = some v1 := by simpa using e1
      rw [q] at y1; cases y1; rfl
    subst y1'
    refine ⟨_, rfl, wpAny_letOwnedTupleGo_enum (s := { s with heap := h', toks := tk + 1 }) ho fun h2' he2 sb => ?_⟩
    have T2 : h2'.get? s.heap.objs.size = some { cls := .type "tuple", data := .seq #[.int i tk, v1] } := (sb.2 _ (Nat.ne_of_gt el)).trans hT
    have new : ObjOk X.prog X.w (upd H s.heap.objs.size (.frz { cls := .type "tuple", data := .seq #[.int i tk, v1] } (.tup [.int (i : Nat), x]))) h2' s.heap.objs.size (.frz { cls := .type "tuple", data := .seq #[.int i tk, v1] } (.tup [.int (i : Nat), x])) := by
      refine ⟨T2, ?_, [.int i tk, v1], .cons ⟨_, rfl⟩ (.cons g1 .nil), ⟨_, T2, rfl, _, rfl⟩⟩
      show 2 ≤ sizeLine
      decide
    have kept : ∀ b o, b ∉ [e, it] → s.heap.get? b = some o → h2'.get? b = some o := fun b o hb q => by
      simp only [List.mem_cons, List.not_mem_nil, or_false, not_or] at hb
      exact (sb.2 b hb.1).trans (hk b o hb.1 hb.2 q)
    refine ⟨.ref s.heap.objs.size, _, I.turnedNew (t' := tk + 1) (ch := [e, it]) kept hf (Nat.le_refl _) new, rfl, ⟨_, x, _, rfl, rfl, I.hok.fresh (Nat.le_refl _), rfl, fun l hl => (inj_k I hl qx).symm ▸ hx⟩, ⟨⟨v1, ?_⟩, st1.1.at fun o q => (sb.2 it (Ne.symm ne)).trans q, ne, na⟩, fun b hb => ?_⟩
    · have z : ((i + 1 : Nat) : Int) = (i : Int) + 1 := by omega
      rw [z]; exact he2
    · have lt : b < s.heap.objs.size := by
        simp only [List.mem_cons, List.not_mem_nil, or_false] at hb
        obtain rfl | rfl := hb
        · exact el
        · exact il
      rw [upd_ne (Nat.ne_of_lt lt)]
      exact (hf b hb).1
  done := by
    rintro X rfl rfl rfl hc i pins s σ H E I hf ⟨⟨old, he⟩, hi, ne, na⟩ ⟨xs, qx, hx⟩
    obtain ⟨l1, r1, p1⟩ := inv_k I qx
    have n1 := r1.length
    have hh : X.A.handled = none := I.ok.hd hc
    have a1 : a ≠ it := fun z => by
      subst z
      cases t
      · obtain ⟨o, eo, _, d⟩ := hi; obtain ⟨o', eo', _, n, d'⟩ := p1; rw [eo] at eo'; cases eo'; rw [d] at d'; cases d'
      · obtain ⟨o, eo, _, d⟩ := hi; obtain ⟨o', eo', _, n, d'⟩ := p1; rw [eo] at eo'; cases eo'; rw [d] at d'; cases d'
    have hi' : ItK t s.heap it a l1.toArray.size := by
      rw [List.size_toArray, ← n1, ← hx]; exact hi
    refine wpAny_pyNext_enum_endD (draws_k (A := X.A.in1) hh t it a a1 l1.toArray) he ⟨hi', p1⟩ fun h' hk => ⟨rfl, I.turnedL (t' := s.toks) (ch := [e, it]) (fun b o hb q => ?_) hf⟩
    simp only [List.mem_cons, List.not_mem_nil, or_false, not_or] at hb
    exact hk b o hb.2 q
  self := fun A i s Q E ⟨⟨_, he⟩, _⟩ h => wpAny_pyIter_enum he h
def iEG (K : Fg) (ta : TA) : TI := fun σ H R => ta σ H fun vs H1 => ∃ t a xs, vs = [.ref a] ∧ SqK t K H1 a xs ∧ R (IeG K t a) H1
theorem pi_eg {X : Cx} {e : Expr} {ta : TA} {p pos tpos : Pos} {elts : List Expr} {kk : Nat} (hg : Gl X "enumerate") (hm : X.mg "enumerate" = none) (ha : PA X [e] ta) (hs : starEach [e] X.env = [(false, eval e X.env)]) :
    PI X (.Tuple elts kk tpos) (.Call (.Name "enumerate" p) [e] [] pos) (iEG X.K ta) := by
  refine ⟨fun pins s σ H R I h => Call_ (ld_blt I hg hm boot_enumerate (PyProof.Rows.callWith_type1 (thn (ha.run pos pins s σ H _ I h) fun us s1 ⟨vs, H1, I1, r1, q1⟩ => ?_) hs rfl))⟩
  obtain ⟨t, a, xs, rfl, qx, q⟩ := q1
  cases r1 with
  | cons r rr =>
    cases rr; cases r
    obtain ⟨l1, v1, p1⟩ := inv_k I1 qx
    refine enum1 (begins_k t a l1.toArray) p1 fun h' he g1 hsz hk => wpAny_pyIter_enum he ?_
    have I2 : Inv X pins σ H1 { s1 with heap := h' } := I1.kept (t' := s1.toks) hk
    refine ⟨_, _, _, _, H1, rfl, I2, turn_eg (t := t) (a := a), ⟨⟨_, he⟩, .first g1, Nat.succ_ne_self _, fun z => ?_⟩, fun b hb => ?_, q⟩
    · have := p1.live
      rw [← z] at this
      exact absurd this (by show ¬ (s1.heap.objs.size + 1 < s1.heap.objs.size); omega)
    · have le : s1.heap.objs.size ≤ b := by
        simp only [List.mem_cons, List.not_mem_nil, or_false] at hb
        obtain z | z := hb
        · rw [z]; exact Nat.le_add_right _ _
        · rw [z]; exact Nat.le_refl _
      exact I1.fpOk le (I1.hok.fresh le)
theorem wk_eg {K : Fg} {F : Hp} {t : Bool} {a : Addr} {xs : List L2.V} {ds : List D} (h : SqK t K F a xs) (r : RepL K F xs ds) : Wk K (IeG K t a) (ds.zipIdx.map fun p => .tuple [.int p.2, p.1]) F := by
  intro H F1 s1 s2
  have q1 : SqK t K H a xs := (s1.trans s2).sqK h
  have n1 := r.length
  have hl : (ds.zipIdx.map fun p => PyData.tuple [.int p.2, p.1]).length = xs.length := by
    rw [List.length_map, List.length_zipIdx, n1]
  rw [hl]
  refine ⟨⟨xs, q1, rfl⟩, fun i hi => ⟨xs, xs[i], q1, by simp [hi]⟩, fun i x H' hi ⟨T, v, ob, e, hd, hT, e', y1⟩ => ?_⟩
  subst e e'
  obtain ⟨d, g1, g2⟩ := r.getV (y1 xs q1)
  refine ⟨.tuple [.int (i : Nat), d], _, ?_, .tup hd hT (.cons (.int _) (.cons (g2.mono s1) .nil))⟩
  rw [List.getElem?_map, List.getElem?_zipIdx, g1]; simp
section
variable {X : Cx} {W : WX} {G : Nat → Fn} {cv : CV}
theorem si_enum {elts : List Expr} {kk : Nat} {tpos p pos : Pos} {a : Expr} {xa : DI.X} (hg : Gl X "enumerate") (hm : X.mg "enumerate" = none) (hn : nost a = true) (ha : SAL X W G cv [a] xa) :
    SI X W G cv (.Tuple elts kk tpos) (.Call (.Name "enumerate" p) [a] [] pos) (.itr .enm xa) := by
  intro R A env σ H F Q Q' s w kr k pins st I
  refine pI_of (R := Q') (pi_eg (p := p) (pos := pos) (tpos := tpos) (elts := elts) (kk := kk) hg hm pa_p (by rw [star1 hn]; rfl)) ?_ pins st I
  simp only [wI, wE] at w
  clear I st pins
  intro pos' pins st I
  have z := ha R A [] env σ H F _ (fun vs H1 => ∀ (pins : List (Addr × Obj)) (s1 : Shared), Inv X pins σ H1 s1 → ∃ t a xs, vs = [.ref a] ∧ SqK t X.K H1 a xs ∧ Q' (IeG X.K t a) H1) s w kr (fun rs e1 vs H1 F1 s1 g1 f1 hl w1 pins s2 I2 => ?_) pos' pins st I
  · exact thn z fun us s1 ⟨vs, H1, I1, r1, q⟩ => ⟨vs, H1, I1, r1, q pins s1 I1⟩
  split at w1
  · rename_i ds e
    obtain ⟨r, hd⟩ := two_res f1 e hl
    match ds, r, hd with
    | [d], .cons r1 .nil, _ =>
      simp only [itW] at w1
      cases e1' : itemsOf d with
      | none => rw [e1'] at w1; exact False.elim w1
      | some us =>
        rw [e1'] at w1
        obtain ⟨t, a, xs, rfl, q1, l1⟩ := r1.seq e1'
        refine ⟨t, a, xs, rfl, s1.sub.sqK q1, k _ _ _ _ _ s1 g1 (wk_eg q1 l1) ?_ w1⟩
        rw [List.length_map, List.length_zipIdx, ← l1.length]
        exact sqK_len I2 (s1.sub.sqK q1)
  · exact False.elim w1
end
end DI
namespace DI
open PySem L2
open PyProof.Rows hiding St
/-- rows at a, c and e side by side, each three new -/
def IzG3 (K : Fg) (t u v : Bool) (a c e : Addr) : L2.It where
  go i H := ∃ (xs ys zs : List L2.V) (x y z : L2.V), SqK t K H a xs ∧ SqK u K H c ys ∧ SqK v K H e zs ∧ xs[i]? = some x ∧ ys[i]? = some y ∧ zs[i]? = some z
  yld i H r H' := ∃ T x y z ob, r = .ref T ∧ ob.dict = none ∧ H T = none ∧ H' = upd H T (.frz ob (.tup [x, y, z])) ∧ (∀ xs, SqK t K H a xs → xs[i]? = some x) ∧ (∀ ys, SqK u K H c ys → ys[i]? = some y) ∧ ∀ zs, SqK v K H e zs → zs[i]? = some z
  stop i H := ∃ xs ys zs : List L2.V, SqK t K H a xs ∧ SqK u K H c ys ∧ SqK v K H e zs ∧ i ≤ xs.length ∧ i ≤ ys.length ∧ i ≤ zs.length ∧ (i = xs.length ∨ i = ys.length ∨ i = zs.length)
theorem IsK.off {t : Bool} {h : Heap} {a i : Addr} {n : Nat} {its : Array Value} {b : Addr} (p : IsK t h a its) (q : ItK t h i b n) : a ≠ i := fun e => by
  subst e
  cases t <;> (obtain ⟨o, eo, _, d⟩ := q; obtain ⟨o', eo', _, m, d'⟩ := p; rw [eo] at eo'; cases eo'; rw [d] at d'; cases d')
theorem turn_zg3 {P : Program} {w : World} {K : Fg} {elts : List Expr} {kk : Nat} {tpos : Pos} {t u r : Bool} {a c d z TI TO i1 i2 i3 : Addr} (S : ZipSep3 z TI TO i1 i2 i3 [i1, a] [i2, c] [i3, d]) :
    Turn P w K (.Tuple elts kk tpos) (IzG3 K t u r a c d) [z, TI, TO, i1, i2, i3] z (fun i h => (IsZip h z TI TO .none ∧ IsTupOf3 h TI (.ref i1) (.ref i2) (.ref i3)) ∧ (∃ x y x3, IsTupOf3 h TO x y x3) ∧ ItK t h i1 a i ∧ ItK u h i2 c i ∧ ItK r h i3 d i) where
  mem := List.mem_cons_self
  obj := fun i h st b hb => by
    obtain ⟨⟨hz, hI⟩, ⟨x, y, x3, hO⟩, h1, h2, h3⟩ := st
    simp only [List.mem_cons, List.not_mem_nil, or_false] at hb
    obtain rfl | rfl | rfl | rfl | rfl | rfl := hb
    · exact ⟨_, hz, fun v q => nomatch q⟩
    · exact ⟨_, hI, fun v q => nomatch q⟩
    · exact ⟨_, hO, fun v q => nomatch q⟩
    · exact h1.obj
    · exact h2.obj
    · exact h3.obj
  keep := fun i h h' st k => by
    obtain ⟨⟨hz, hI⟩, ⟨x, y, x3, hO⟩, h1, h2, h3⟩ := st
    refine ⟨⟨k _ ?_ _ hz, k _ ?_ _ hI⟩, ⟨x, y, x3, k _ ?_ _ hO⟩, h1.at fun o q => k _ ?_ o q, h2.at fun o q => k _ ?_ o q, h3.at fun o q => k _ ?_ o q⟩
    all_goals simp
  item := by
    rintro X rfl rfl rfl hc i pins s σ H E I hf ⟨⟨hz, hI⟩, ⟨x0, y0, z0, hO⟩, h1, h2, h3⟩ ⟨xs, ys, zs, x, y, x3, qx, qy, qz, hx, hy, hw⟩
    obtain ⟨l1, r1, p1⟩ := inv_k I qx
    obtain ⟨l2, r2, p2⟩ := inv_k I qy
    obtain ⟨l3, r3, p3⟩ := inv_k I qz
    obtain ⟨v1, e1, g1⟩ := r1.get hx
    obtain ⟨v2, e2, g2⟩ := r2.get hy
    obtain ⟨v3, e3, g3⟩ := r3.get hw
    have hh : X.A.handled = none := I.ok.hd hc
    have k1 : i < l1.toArray.size := by rw [List.size_toArray]; exact (List.getElem?_eq_some_iff.mp e1).1
    have k2 : i < l2.toArray.size := by rw [List.size_toArray]; exact (List.getElem?_eq_some_iff.mp e2).1
    have k3 : i < l3.toArray.size := by rw [List.size_toArray]; exact (List.getElem?_eq_some_iff.mp e3).1
    have zl := Heap.lt_size hz
    refine wpAny_pyNext_zipD3_item S (draws_k (A := X.A.in1) hh t i1 a (p1.off h1) l1.toArray) (draws_k (A := X.A.in1) hh u i2 c (p2.off h2) l2.toArray) (draws_k (A := X.A.in1) hh r i3 d (p3.off h3) l3.toArray) hz hI hO ⟨h1, p1⟩ ⟨h2, p2⟩ ⟨h3, p3⟩ k1 k2 k3 fun w1 w2 w3 h' tk y1 y2 y3 z' O' st1 st2 st3 hT hsz hk => ?_
    have y1' : v1 = w1 := by have q : l1.toArray[i]? = some v1 := by simpa using e1
                             rw [q] at y1; cases y1; rfl
    have y2' : v2 = w2 := by have q : l2.toArray[i]? = some v2 := by simpa using e2
                             rw [q] at y2; cases y2; rfl
    have y3' : v3 = w3 := by have q : l3.toArray[i]? = some v3 := by simpa using e3
                             rw [q] at y3; cases y3; rfl
    subst y1' y2' y3'
    refine ⟨_, rfl, wpAny_letOwnedTupleGo_zip (s := { s with heap := h', toks := tk }) z' fun h2' z2 sb => ?_⟩
    have T2 : h2'.get? s.heap.objs.size = some { cls := .type "tuple", data := .seq #[v1, v2, v3] } := (sb.2 _ (Nat.ne_of_gt zl)).trans hT
    have new : ObjOk X.prog X.w (upd H s.heap.objs.size (.frz { cls := .type "tuple", data := .seq #[v1, v2, v3] } (.tup [x, y, x3]))) h2' s.heap.objs.size (.frz { cls := .type "tuple", data := .seq #[v1, v2, v3] } (.tup [x, y, x3])) := by
      refine ⟨T2, ?_, [v1, v2, v3], .cons g1 (.cons g2 (.cons g3 .nil)), ⟨_, T2, rfl, _, rfl⟩⟩
      show 3 ≤ sizeLine
      decide
    have kept : ∀ b o, b ∉ [z, TI, TO, i1, i2, i3] → s.heap.get? b = some o → h2'.get? b = some o := fun b o hb q => by
      simp only [List.mem_cons, List.not_mem_nil, or_false, not_or] at hb
      obtain ⟨n1, n2, n3, n4, n5, n6⟩ := hb
      exact (sb.2 b n1).trans (hk b o n1 n3 n4 n5 n6 q)
    refine ⟨.ref s.heap.objs.size, _, I.turnedNew (t' := tk) (ch := [z, TI, TO, i1, i2, i3]) kept hf (Nat.le_refl _) new, rfl, ⟨_, x, y, x3, _, rfl, rfl, I.hok.fresh (Nat.le_refl _), rfl, fun l hl => (inj_k I hl qx).symm ▸ hx, fun l hl => (inj_k I hl qy).symm ▸ hy, fun l hl => (inj_k I hl qz).symm ▸ hw⟩, ⟨⟨z2, ?_⟩, ⟨v1, v2, v3, ?_⟩, ?_, ?_, ?_⟩, fun b hb => ?_⟩
    · exact (sb.2 _ S.TIz).trans (hk _ _ S.TIz S.TITO S.TIi1 S.TIi2 S.TIi3 hI)
    · exact (sb.2 _ S.TOz).trans O'
    · exact st1.1.at fun o q => (sb.2 _ S.zi1.symm).trans q
    · exact st2.1.at fun o q => (sb.2 _ S.zi2.symm).trans q
    · exact st3.1.at fun o q => (sb.2 _ S.zi3.symm).trans q
    · have lt : b < s.heap.objs.size := by
        obtain ⟨_, q1, _⟩ := h1.obj
        obtain ⟨_, q2, _⟩ := h2.obj
        obtain ⟨_, q3, _⟩ := h3.obj
        simp only [List.mem_cons, List.not_mem_nil, or_false] at hb
        obtain rfl | rfl | rfl | rfl | rfl | rfl := hb
        · exact zl
        · exact Heap.lt_size hI
        · exact Heap.lt_size hO
        · exact Heap.lt_size q1
        · exact Heap.lt_size q2
        · exact Heap.lt_size q3
      rw [upd_ne (Nat.ne_of_lt lt)]
      exact (hf b hb).1
  done := by
    rintro X rfl rfl rfl hc i pins s σ H E I hf ⟨⟨hz, hI⟩, ⟨x0, y0, z0, hO⟩, h1, h2, h3⟩ ⟨xs, ys, zs, qx, qy, qz, b1, b2, b3, b4⟩
    obtain ⟨l1, r1, p1⟩ := inv_k I qx
    obtain ⟨l2, r2, p2⟩ := inv_k I qy
    obtain ⟨l3, r3, p3⟩ := inv_k I qz
    have n1 := r1.length
    have n2 := r2.length
    have n3 := r3.length
    have hh : X.A.handled = none := I.ok.hd hc
    refine wpAny_pyNext_zipD3_end S (draws_k (A := X.A.in1) hh t i1 a (p1.off h1) l1.toArray) (draws_k (A := X.A.in1) hh u i2 c (p2.off h2) l2.toArray) (draws_k (A := X.A.in1) hh r i3 d (p3.off h3) l3.toArray) hz hI hO ⟨h1, p1⟩ ⟨h2, p2⟩ ⟨h3, p3⟩ (by rw [List.size_toArray]; omega) (by rw [List.size_toArray]; omega) (by rw [List.size_toArray]; omega)
      (by rw [List.size_toArray, List.size_toArray, List.size_toArray]; omega) fun h' tk hk => ⟨rfl, I.turnedL (t' := tk) (ch := [z, TI, TO, i1, i2, i3]) (fun b o hb q => ?_) hf⟩
    simp only [List.mem_cons, List.not_mem_nil, or_false, not_or] at hb
    exact hk b o hb.1 hb.2.2.1 hb.2.2.2.1 hb.2.2.2.2.1 hb.2.2.2.2.2 q
  self := fun A i s Q E st h => wpAny_pyIter_zip st.1.1 h
/-- zip, its three rows reckoned -/
def iZG3 (K : Fg) (ta : TA) : TI := fun σ H R => ta σ H fun vs H1 => ∃ t u r a c d xs ys zs, vs = [.ref a, .ref c, .ref d] ∧ SqK t K H1 a xs ∧ SqK u K H1 c ys ∧ SqK r K H1 d zs ∧ R (IzG3 K t u r a c d) H1
theorem pi_zg3 {X : Cx} {e e2 e3 : Expr} {ta : TA} {p pos tpos : Pos} {elts : List Expr} {kk : Nat} (hg : Gl X "zip") (hm : X.mg "zip" = none) (ha : PA X [e, e2, e3] ta)
    (hs : starEach [e, e2, e3] X.env = (false, eval e X.env) :: starEach [e2, e3] X.env) (hpl : (backTo pos (starEach [e2, e3] X.env)).any (·.1) = false) :
    PI X (.Tuple elts kk tpos) (.Call (.Name "zip" p) [e, e2, e3] [] pos) (iZG3 X.K ta) := by
  refine ⟨fun pins s σ H R I h => Call_ (ld_blt I hg hm PyProof.Rows.boot_zip (PyProof.Rows.callWith_type1 (thn (ha.run pos pins s σ H _ I h) fun us s1 ⟨vs, H1, I1, r1, q1⟩ => ?_) hs hpl))⟩
  obtain ⟨t, u, r, a, c, d, xs, ys, zs, rfl, qx, qy, qz, q⟩ := q1
  cases r1 with
  | cons ra rr => cases rr with
    | cons rb rr => cases rr with
      | cons rc rr =>
        cases rr; cases ra; cases rb; cases rc
        obtain ⟨l1, v1, p1⟩ := inv_k I1 qx
        obtain ⟨l2, v2, p2⟩ := inv_k I1 qy
        obtain ⟨l3, v3, p3⟩ := inv_k I1 qz
        refine zip_begins3 (begins_k t a l1.toArray) (begins_k u c l2.toArray) (begins_k r d l3.toArray) p1 p2 p3 fun h' hz hI hO g1 g2 g3 hsz hk => wpAny_pyIter_zip hz ?_
        have I2 : Inv X pins σ H1 { s1 with heap := h' } := I1.kept (t' := s1.toks) hk
        have S := zip_sep3 (N := s1.heap.objs.size) (fp1 := [a]) (fp2 := [c]) (fp3 := [d]) (fun b hb => by rw [List.mem_singleton.mp hb]; exact p1.live) (fun b hb => by rw [List.mem_singleton.mp hb]; exact p2.live) (fun b hb => by rw [List.mem_singleton.mp hb]; exact p3.live)
        refine ⟨_, _, _, _, H1, rfl, I2, turn_zg3 (t := t) (u := u) (r := r) S, ⟨⟨hz, hI⟩, ⟨_, _, _, hO⟩, .first g1, .first g2, .first g3⟩, fun b hb => ?_, q⟩
        have le : s1.heap.objs.size ≤ b := by
          simp only [List.mem_cons, List.not_mem_nil, or_false] at hb
          obtain e | e | e | e | e | e := hb
          · rw [e]; exact Nat.le_add_right _ _
          · rw [e]; exact Nat.le_add_right _ _
          · rw [e]; exact Nat.le_add_right _ _
          · rw [e]; exact Nat.le_refl _
          · rw [e]; exact Nat.le_add_right _ _
          · rw [e]; exact Nat.le_add_right _ _
        exact I1.fpOk le (I1.hok.fresh le)
theorem zip3_at : ∀ {ds es fs : List D} {i : Nat} {d e f : D}, ds[i]? = some d → es[i]? = some e → fs[i]? = some f → (zip3 ds es fs)[i]? = some (.tuple [d, e, f])
  | _ :: _, _ :: _, _ :: _, 0, _, _, _, h, g, k => by
    simp only [List.getElem?_cons_zero, Option.some.injEq] at h g k
    subst h g k; rfl
  | _ :: _, _ :: _, _ :: _, i + 1, _, _, _, h, g, k => by
    simp only [List.getElem?_cons_succ] at h g k
    show (zip3 _ _ _)[i]? = _
    exact zip3_at h g k
theorem zip3_len : ∀ {ds es fs : List D}, (zip3 ds es fs).length = min (min ds.length es.length) fs.length
  | [], es, fs => by simp [zip3]
  | _ :: _, [], fs => by simp [zip3]
  | _ :: _, _ :: _, [] => by simp [zip3]
  | _ :: ds, _ :: es, _ :: fs => by
    show (zip3 ds es fs).length + 1 = _
    rw [zip3_len, List.length_cons, List.length_cons, List.length_cons]; omega
theorem wk_zg3 {K : Fg} {F : Hp} {t u r : Bool} {a c d : Addr} {xs ys zs : List L2.V} {ds es fs : List D} (h : SqK t K F a xs) (r1 : RepL K F xs ds) (h2 : SqK u K F c ys) (r2 : RepL K F ys es) (h3 : SqK r K F d zs) (r3 : RepL K F zs fs) :
    Wk K (IzG3 K t u r a c d) (zip3 ds es fs) F := by
  intro H F1 s1 s2
  have q1 : SqK t K H a xs := (s1.trans s2).sqK h
  have q2 : SqK u K H c ys := (s1.trans s2).sqK h2
  have q3 : SqK r K H d zs := (s1.trans s2).sqK h3
  have n1 := r1.length
  have n2 := r2.length
  have n3 := r3.length
  have hl : (zip3 ds es fs).length = min (min xs.length ys.length) zs.length := by rw [zip3_len, n1, n2, n3]
  rw [hl]
  refine ⟨⟨xs, ys, zs, q1, q2, q3, by omega, by omega, by omega, by omega⟩, fun i hi => ?_, fun i x H' hi ⟨T, v, v', v3, ob, e, hd, hT, e', y1, y2, y3⟩ => ?_⟩
  · have k1 : i < xs.length := by omega
    have k2 : i < ys.length := by omega
    have k3 : i < zs.length := by omega
    exact ⟨xs, ys, zs, xs[i], ys[i], zs[i], q1, q2, q3, by simp [k1], by simp [k2], by simp [k3]⟩
  · subst e e'
    obtain ⟨d1, g1, g2⟩ := r1.getV (y1 xs q1)
    obtain ⟨d2, g3, g4⟩ := r2.getV (y2 ys q2)
    obtain ⟨d3, g5, g6⟩ := r3.getV (y3 zs q3)
    exact ⟨_, _, zip3_at g1 g3 g5, .tup hd hT (.cons (g2.mono s1) (.cons (g4.mono s1) (.cons (g6.mono s1) .nil)))⟩
section
variable {X : Cx} {W : WX} {G : Nat → Fn} {cv : CV}
theorem si_zip3 {elts : List Expr} {kk : Nat} {tpos p pos : Pos} {a b e : Expr} {xa : DI.X} (hg : Gl X "zip") (hm : X.mg "zip" = none) (hn : nost a = true) (hn2 : nost b = true) (hn3 : nost e = true) (ha : SAL X W G cv [a, b, e] xa) :
    SI X W G cv (.Tuple elts kk tpos) (.Call (.Name "zip" p) [a, b, e] [] pos) (.itr .zip xa) := by
  intro R A env σ H F Q Q' s w kr k pins st I
  refine pI_of (R := Q') (pi_zg3 (p := p) (pos := pos) (tpos := tpos) (elts := elts) (kk := kk) hg hm pa_p (by rw [star1 hn]) (by rw [star1 hn2, star1 hn3]; rfl)) ?_ pins st I
  simp only [wI, wE] at w
  clear I st pins
  intro pos' pins st I
  have z := ha R A [] env σ H F _ (fun vs H1 => ∀ (pins : List (Addr × Obj)) (s1 : Shared), Inv X pins σ H1 s1 → ∃ t u r a c d xs ys zs, vs = [.ref a, .ref c, .ref d] ∧ SqK t X.K H1 a xs ∧ SqK u X.K H1 c ys ∧ SqK r X.K H1 d zs ∧ Q' (IzG3 X.K t u r a c d) H1) s w kr (fun rs e1 vs H1 F1 s1 g1 f1 hl w1 pins s2 I2 => ?_) pos' pins st I
  · exact thn z fun us s1 ⟨vs, H1, I1, r1, q⟩ => ⟨vs, H1, I1, r1, q pins s1 I1⟩
  split at w1
  · rename_i ds e
    obtain ⟨r, hd⟩ := two_res f1 e hl
    match ds, r, hd with
    | [d, d', d''], .cons r1 (.cons r2 (.cons r3 .nil)), _ =>
      simp only [itW] at w1
      cases e1' : itemsOf d with
      | none => rw [e1'] at w1; exact False.elim w1
      | some us =>
        cases e2' : itemsOf d' with
        | none => rw [e1', e2'] at w1; exact False.elim w1
        | some ws =>
          cases e3' : itemsOf d'' with
          | none => rw [e1', e2', e3'] at w1; exact False.elim w1
          | some zs' =>
            rw [e1', e2', e3'] at w1
            obtain ⟨t, a, xs, rfl, q1, l1⟩ := r1.seq e1'
            obtain ⟨u, c, ys, rfl, q2, l2⟩ := r2.seq e2'
            obtain ⟨r, d, zs, rfl, q3, l3⟩ := r3.seq e3'
            refine ⟨t, u, r, a, c, d, xs, ys, zs, rfl, s1.sub.sqK q1, s1.sub.sqK q2, s1.sub.sqK q3, k _ _ _ _ _ s1 g1 (wk_zg3 q1 l1 q2 l2 q3 l3) ?_ w1⟩
            rw [zip3_len, ← l1.length]
            exact Nat.le_trans (by omega) (sqK_len I2 (s1.sub.sqK q1))
  · exact False.elim w1
end
end DI
namespace DI
open PySem L2
open PyProof.Rows hiding St
/-- a strict pairing as it lies -/
abbrev IsZipS (h : Heap) (z TI TO : Addr) (f0 : Value) : Prop :=
  h.get? z = some { cls := .type "zip", dict := none, data := .fields #[f0, .bool false, .bool true, .ref TI, .ref TO], slots := #[] }
section
variable {prog : Program} {w : World} {A : Around} {E : Value → Shared → Prop} {s : Shared} {z TI TO i1 i2 : Addr} {fp1 fp2 : List Addr} {n1 n2 n i : Nat} {P P1 P2 : Nat → Value → Prop} {T1 T2 St1 St2 : Nat → Heap → Prop} {a1 a2 : Value}
theorem noe_item {it : Addr} {fp : List Addr} {Q : Option Value → Shared → Prop} (D : Draws prog w A it fp n P St1) (hi : i < n) (st : St1 i s.heap)
    (h : ∀ x h' tk, P i x → St1 (i + 1) h' → Heap.SameBut it s.heap h' → Q (some x) { s with heap := h', toks := tk }) :
    wpAny (model prog w) A (Builtin.SmallTypes.nextOrEnd (.ref it)) Q E s := by
  unfold Builtin.SmallTypes.nextOrEnd
  exact wpAny_bind (wpAny_attempt (D.item i s _ _ hi st fun x h' tk p q k => wpAny_pure (h x h' tk p q k)))
theorem noe_end {it : Addr} {fp : List Addr} {Q : Option Value → Shared → Prop} (D : Draws prog w A it fp n P St1) (st : St1 n s.heap)
    (h : ∀ h', Heap.ExtBut it s.heap h' → Q none { s with heap := h' }) :
    wpAny (model prog w) A (Builtin.SmallTypes.nextOrEnd (.ref it)) Q E s := by
  unfold Builtin.SmallTypes.nextOrEnd
  refine wpAny_bind (wpAny_attempt (D.done s _ _ st fun h' e k he => ?_))
  obtain ⟨o, ho, hc⟩ := he
  refine wpAny_bind (wpAny_isInstance (T := "StopIteration") (b := true) ⟨o, ho, hc⟩ isSubtype_stop ?_)
  exact wpAny_pure (h _ k)
theorem zs_item {Q : Value → Shared → Prop} (S : ZipSep2 z TI TO i1 i2 fp1 fp2) (D1 : Draws prog w A i1 fp1 n1 P1 St1) (D2 : Draws prog w A i2 fp2 n2 P2 St2)
    (hz : IsZipS s.heap z TI TO .none) (hTI : IsTupOf2 s.heap TI (.ref i1) (.ref i2)) (hTO : IsTupOf2 s.heap TO a1 a2) (st1 : St1 i s.heap) (st2 : St2 i s.heap) (hlt1 : i < n1) (hlt2 : i < n2)
    (hQ : ∀ x1 x2 h' tk, P1 i x1 → P2 i x2 → IsZipS h' z TI TO (rawInt s.heap.objs.size) → IsTupOf2 h' TO x1 x2 → St1 (i + 1) h' → St2 (i + 1) h' → IsTupOf2 h' s.heap.objs.size x1 x2 → h'.objs.size = s.heap.objs.size + 1 →
      (∀ c o, c ≠ z → c ≠ TO → c ≠ i1 → c ≠ i2 → s.heap.get? c = some o → h'.get? c = some o) → Q (.ref s.heap.objs.size) { s with heap := h', toks := tk }) :
    wpAny (model prog w) A (Builtin.«zip.__next__» ⟨[.ref z], []⟩) (fun fin s' => ∃ v, fin = .done (.ret v) ∧ Q v s') E s := by
  obtain ⟨hp, g, d, t0, os⟩ := s
  show wpAny _ _ (field (.ref z) 2 >>= _) _ _ _
  refine wpAny_bind (wpAny_field hz rfl (x := .bool true) rfl ?_)
  show wpAny _ _ (field (.ref z) 3 >>= _) _ _ _
  refine wpAny_bind (wpAny_field hz rfl (x := .ref TI) rfl (wpAny_bind (wpAny_seqItems hTI rfl ?_)))
  show wpAny _ _ (Builtin.SmallTypes.ownedTupleIsFree (.ref z) >>= _) _ _ _
  unfold Builtin.SmallTypes.ownedTupleIsFree
  refine wpAny_bind (wpAny_bind (wpAny_field hz rfl (x := .none) rfl (wpAny_pure ?_)))
  simp only [if_true]
  refine wpAny_bind (wpAny_rule (wpAny_bind (wpAny_field hz rfl (x := .ref TO) rfl (wpAny_bind (wpAny_setField_rec hz (by simp) fun b0 hb0 k0 => ?_)))))
  replace hb0 : IsZipS b0 z TI TO .ellipsis := hb0
  replace k0 : Heap.SameBut z hp b0 := k0
  refine wpAny_bind ?_
  simp only [List.zipIdx_cons, List.zipIdx_nil, List.forIn_cons, List.forIn_nil]
  refine wpAny_bind (wpAny_bind (wpAny_onRaise ?_))
  show wpAny _ _ (Builtin.SmallTypes.nextOrEnd (.ref i1)) _ _ ⟨b0, g, d, t0, os⟩
  refine noe_item D1 hlt1 (D1.over st1 k0 S.zf1) fun x1 c1 t1 y1 u1 k1 => ?_
  replace k1 : Heap.SameBut i1 b0 c1 := k1
  have o1 : IsTupOf2 c1 TO a1 a2 := k1.extBut _ _ S.Ti1 (k0.extBut _ _ S.TOz hTO)
  refine wpAny_bind (wpAny_seqItems (s := ⟨c1, g, d, t1, os⟩) o1 rfl (wpAny_bind (updateSeq_IsTupOf2 (s := ⟨c1, g, d, t1, os⟩) o1 fun b1 hb1 m1 => ?_)))
  replace hb1 : IsTupOf2 b1 TO x1 a2 := hb1
  replace m1 : Heap.SameBut TO c1 b1 := m1
  refine wpAny_bind (wpAny_letGo (wpAny_pure (wpAny_bind (wpAny_bind (wpAny_onRaise ?_)))))
  show wpAny _ _ (Builtin.SmallTypes.nextOrEnd (.ref i2)) _ _ ⟨b1, g, d, t1, os⟩
  refine noe_item D2 hlt2 (D2.over (D2.over (D2.over st2 k0 S.zf2) k1 S.sep1_2) m1 S.Tf2) fun x2 c2 t2 y2 u2 k2 => ?_
  replace k2 : Heap.SameBut i2 b1 c2 := k2
  have o2 : IsTupOf2 c2 TO x1 a2 := k2.extBut _ _ S.Ti2 hb1
  refine wpAny_bind (wpAny_seqItems (s := ⟨c2, g, d, t2, os⟩) o2 rfl (wpAny_bind (updateSeq_IsTupOf2 (s := ⟨c2, g, d, t2, os⟩) o2 fun b2 hb2 m2 => ?_)))
  replace hb2 : IsTupOf2 b2 TO x1 x2 := hb2
  replace m2 : Heap.SameBut TO c2 b2 := m2
  refine wpAny_bind (wpAny_letGo (wpAny_pure (wpAny_pure ?_)))
  refine wpAny_bind (wpAny_seqItems (s := ⟨b2, g, d, t2, os⟩) hb2 rfl (wpAny_bind (wpAny_newTuple ?_)))
  have size : b2.objs.size = hp.objs.size := by rw [m2.1, k2.1, m1.1, k1.1, k0.1]
  have zz : IsZipS b2 z TI TO .ellipsis := m2.extBut _ _ S.TOz.symm (k2.extBut _ _ S.zi2 (m1.extBut _ _ S.TOz.symm (k1.extBut _ _ S.zi1 hb0)))
  have all : ∀ c o, c ≠ z → c ≠ TO → c ≠ i1 → c ≠ i2 → hp.get? c = some o → b2.get? c = some o := fun c o e1 e2 e3 e4 e =>
    m2.extBut _ _ e2 (k2.extBut _ _ e4 (m1.extBut _ _ e2 (k1.extBut _ _ e3 (k0.extBut _ _ e1 e))))
  have j1 : St1 (i + 1) b2 := D1.over (D1.over (D1.over u1 m1 S.Tf1) k2 S.sep2_1) m2 S.Tf1
  have j2 : St2 (i + 1) b2 := D2.over u2 m2 S.Tf2
  have zl : z < b2.objs.size := Heap.lt_size zz
  show wpAny _ _ (Builtin.SmallTypes.ownedTupleHandOut (.ref z) (.ref b2.objs.size) >>= _) _ _ ⟨b2.push { cls := .type "tuple", data := .seq #[x1, x2] }, g, d, t2, os⟩
  unfold Builtin.SmallTypes.ownedTupleHandOut
  refine wpAny_bind ?_
  have z3 : IsZipS (b2.push { cls := .type "tuple", data := .seq #[x1, x2] }) z TI TO .ellipsis := Heap.get?_push_of_some _ zz
  refine wpAny_bind (wpAny_setField_rec z3 (by simp) fun b4 z4 k4 => ?_)
  replace z4 : IsZipS b4 z TI TO (rawInt b2.objs.size) := z4
  refine wpAny_setField_rec z4 (by simp) fun b5 z5 k5 => ?_
  replace z5 : IsZipS b5 z TI TO (rawInt b2.objs.size) := z5
  replace k4 : Heap.SameBut z (b2.push { cls := .type "tuple", data := .seq #[x1, x2] }) b4 := k4
  replace k5 : Heap.SameBut z b4 b5 := k5
  have up : ∀ c o, c ≠ z → b2.get? c = some o → b5.get? c = some o := fun c o e1 e => k5.extBut _ _ e1 (k4.extBut _ _ e1 (Heap.get?_push_of_some _ e))
  have new : IsTupOf2 b5 b2.objs.size x1 x2 := k5.extBut _ _ (Nat.ne_of_gt zl) (k4.extBut _ _ (Nat.ne_of_gt zl) (Heap.get?_push_size _ rfl))
  have sz5 : b5.objs.size = b2.objs.size + 1 := by rw [k5.1, k4.1, Heap.size_push]
  rw [size] at z5 new sz5
  refine wpAny_pure ⟨_, rfl, ?_⟩
  show Q (.ref b2.objs.size) ⟨b5, g, d, t2, os⟩
  rw [size]
  exact hQ x1 x2 b5 t2 y1 y2 z5 (up _ _ S.TOz hb2) (D1.frame _ _ _ j1 fun b hb o e => up b o (fun q => S.zf1 (q ▸ hb)) e) (D2.frame _ _ _ j2 fun b hb o e => up b o (fun q => S.zf2 (q ▸ hb)) e) new sz5
    fun c o e1 e2 e3 e4 e => up c o e1 (all c o e1 e2 e3 e4 e)
end
end DI
namespace DI
open PySem L2
open PyProof.Rows hiding St
section
variable {prog : Program} {w : World} {A : Around} {E : Value → Shared → Prop} {s : Shared} {z TI TO i1 i2 : Addr} {fp1 fp2 : List Addr} {n1 n2 n i : Nat} {P P1 P2 : Nat → Value → Prop} {T1 T2 St1 St2 : Nat → Heap → Prop} {a1 a2 : Value}
theorem zs_end {Q : PySem.Fin → Shared → Prop} (hh : A.handled = none) (S : ZipSep2 z TI TO i1 i2 fp1 fp2) (D1 : Draws prog w A i1 fp1 n P1 St1) (D2 : Draws prog w A i2 fp2 n P2 St2)
    (hz : IsZipS s.heap z TI TO .none) (hTI : IsTupOf2 s.heap TI (.ref i1) (.ref i2)) (hTO : IsTupOf2 s.heap TO a1 a2) (st1 : St1 n s.heap) (st2 : St2 n s.heap)
    (hE : ∀ h' tk e, (∀ c o, c ≠ z → c ≠ TO → c ≠ i1 → c ≠ i2 → s.heap.get? c = some o → h'.get? c = some o) → (∃ o, h'.get? e = some o ∧ o.cls = .type "StopIteration") → E (.ref e) { s with heap := h', toks := tk }) :
    wpAny (model prog w) A (Builtin.«zip.__next__» ⟨[.ref z], []⟩) Q E s := by
  obtain ⟨hp, g, d, t0, os⟩ := s
  show wpAny _ _ (field (.ref z) 2 >>= _) _ _ _
  refine wpAny_bind (wpAny_field hz rfl (x := .bool true) rfl ?_)
  show wpAny _ _ (field (.ref z) 3 >>= _) _ _ _
  refine wpAny_bind (wpAny_field hz rfl (x := .ref TI) rfl (wpAny_bind (wpAny_seqItems hTI rfl ?_)))
  show wpAny _ _ (Builtin.SmallTypes.ownedTupleIsFree (.ref z) >>= _) _ _ _
  unfold Builtin.SmallTypes.ownedTupleIsFree
  refine wpAny_bind (wpAny_bind (wpAny_field hz rfl (x := .none) rfl (wpAny_pure ?_)))
  simp only [if_true]
  refine wpAny_bind (wpAny_rule (wpAny_bind (wpAny_field hz rfl (x := .ref TO) rfl (wpAny_bind (wpAny_setField_rec hz (by simp) fun b0 hb0 k0 => ?_)))))
  replace hb0 : IsZipS b0 z TI TO .ellipsis := hb0
  replace k0 : Heap.SameBut z hp b0 := k0
  refine wpAny_bind ?_
  simp only [List.zipIdx_cons, List.zipIdx_nil, List.forIn_cons, List.forIn_nil]
  refine wpAny_bind (wpAny_bind (wpAny_onRaise ?_))
  show wpAny _ _ (Builtin.SmallTypes.nextOrEnd (.ref i1)) _ _ ⟨b0, g, d, t0, os⟩
  refine noe_end D1 (D1.over st1 k0 S.zf1) fun c1 k1 => ?_
  replace k1 : Heap.ExtBut i1 b0 c1 := k1
  have z1 : IsZipS c1 z TI TO .ellipsis := k1 _ _ S.zi1 hb0
  refine wpAny_bind (wpAny_setField_rec (s := ⟨c1, g, d, t0, os⟩) z1 (by simp) fun b1 hb1 m1 => ?_)
  replace m1 : Heap.SameBut z c1 b1 := m1
  refine wpAny_bind ?_
  refine wpAny_bind ?_
  show wpAny _ _ (forIn [(Value.ref i2, 1)] _ _) _ _ _
  simp only [List.forIn_cons, List.forIn_nil]
  refine wpAny_bind (wpAny_bind ?_)
  refine noe_end D2 (D2.over (D2.frame _ _ _ (D2.over st2 k0 S.zf2) fun b hb o e => k1 b o (fun q => S.sep1_2 (q ▸ hb)) e) m1 S.zf2) fun c2 k2 => ?_
  replace k2 : Heap.ExtBut i2 b1 c2 := k2
  refine wpAny_pure (wpAny_pure ?_)
  refine wpAny_bind (wpAny_rule ?_)
  show wpAny _ _ (newExc (.type "StopIteration") [] >>= _) _ _ ⟨c2, g, d, t0, os⟩
  refine wpAny_bind ?_
  simp only [newExc, newTuple]
  refine wpAny_bind (wpAny_newObj_type ?_ (by size_fits))
  refine wpAny_bind (m := firstArgMember _ _) (wpAny_of_eq (a := Value.none) (by first | rfl | (simp only [firstArgMember]; rfl)) ?_)
  refine wpAny_newObj_type ?_ (by size_fits)
  refine wpAny_raiseNew_none hh ?_
  exact hE _ t0 _ (fun c o e1 e2 e3 e4 e => Heap.get?_push_of_some _ (Heap.get?_push_of_some _ (k2 _ _ e4 (m1.extBut _ _ e1 (k1 _ _ e3 (k0.extBut _ _ e1 e)))))) ⟨_, Heap.get?_push_size _ rfl, rfl⟩
theorem pn_zs_item {Q : Option Value → Shared → Prop} (S : ZipSep2 z TI TO i1 i2 fp1 fp2) (D1 : Draws prog w A.in1 i1 fp1 n1 P1 St1) (D2 : Draws prog w A.in1 i2 fp2 n2 P2 St2)
    (hz : IsZipS s.heap z TI TO .none) (hTI : IsTupOf2 s.heap TI (.ref i1) (.ref i2)) (hTO : IsTupOf2 s.heap TO a1 a2) (st1 : St1 i s.heap) (st2 : St2 i s.heap) (hlt1 : i < n1) (hlt2 : i < n2)
    (hQ : ∀ x1 x2 h' tk, P1 i x1 → P2 i x2 → IsZipS h' z TI TO (rawInt s.heap.objs.size) → IsTupOf2 h' TO x1 x2 → St1 (i + 1) h' → St2 (i + 1) h' → IsTupOf2 h' s.heap.objs.size x1 x2 → h'.objs.size = s.heap.objs.size + 1 →
      (∀ c o, c ≠ z → c ≠ TO → c ≠ i1 → c ≠ i2 → s.heap.get? c = some o → h'.get? c = some o) → Q (some (.ref s.heap.objs.size)) { s with heap := h', toks := tk }) :
    wpAny (model prog w) A (pyNext (.ref z)) Q E s := by
  have hT : s.TypeIs (.ref z) "zip" := ⟨_, hz, rfl⟩
  unfold pyNext
  exact wpAny_bind (wpAny_attempt (wpAny_callSpecial?_slot (name := Str.ofString "__next__") hT F.slot_zip_next
    (wpAny_call_entry F.slot_zip_next hT F.entry_zip_next
      (zs_item S D1 D2 hz hTI hTO st1 st2 hlt1 hlt2 fun x1 x2 h' tk y1 y2 b1 b2 d1 d2 b5 b6 b7 => wpAny_pure (hQ x1 x2 h' tk y1 y2 b1 b2 d1 d2 b5 b6 b7)) (F.args_zip_next_1 _))))
theorem pn_zs_end {Q : Option Value → Shared → Prop} (hh : A.handled = none) (S : ZipSep2 z TI TO i1 i2 fp1 fp2) (D1 : Draws prog w A.in1 i1 fp1 n P1 St1) (D2 : Draws prog w A.in1 i2 fp2 n P2 St2)
    (hz : IsZipS s.heap z TI TO .none) (hTI : IsTupOf2 s.heap TI (.ref i1) (.ref i2)) (hTO : IsTupOf2 s.heap TO a1 a2) (st1 : St1 n s.heap) (st2 : St2 n s.heap)
    (hQ : ∀ h' tk, (∀ c o, c ≠ z → c ≠ TO → c ≠ i1 → c ≠ i2 → s.heap.get? c = some o → h'.get? c = some o) → Q none { s with heap := h', toks := tk }) : wpAny (model prog w) A (pyNext (.ref z)) Q E s := by
  have hT : s.TypeIs (.ref z) "zip" := ⟨_, hz, rfl⟩
  unfold pyNext
  refine wpAny_bind (wpAny_attempt (wpAny_callSpecial?_slot (name := Str.ofString "__next__") hT F.slot_zip_next
    (wpAny_call_entry F.slot_zip_next hT F.entry_zip_next (zs_end (show A.in1.handled = none from hh) S D1 D2 hz hTI hTO st1 st2 fun h' tk e hk he => ?_) (F.args_zip_next_1 _))))
  obtain ⟨o, ho, hc⟩ := he
  refine wpAny_bind (wpAny_isInstance (T := "StopIteration") (b := true) ⟨o, ho, hc⟩ isSubtype_stop ?_)
  exact wpAny_pure (hQ _ _ hk)
theorem lo_zs {elts : List Expr} {x1} {pos : Pos} {T : Addr} {Q : Unit → Shared → Prop} (hz : IsZipS s.heap z TI TO (rawInt T))
    (hQ : ∀ h', IsZipS h' z TI TO .none → Heap.SameBut z s.heap h' → Q () { s with heap := h' }) :
    wpAny (model prog w) A (letOwnedTupleGo (.Tuple elts x1 pos) (.ref z) (.ref T)) Q E s := by
  unfold letOwnedTupleGo
  refine wpAny_bind (wpAny_load hz ?_)
  show wpAny _ _ (if (["enumerate", "zip", "dict_itemiterator", "dict_reverseitemiterator", "odict_iterator", "itertools.zip_longest", "itertools.pairwise"].contains "zip" &&
      (#[rawInt T, .bool false, .bool true, .ref TI, .ref TO] : Array Value)[0]? == some (rawInt T)) = true then _ else _) Q E s
  rw [if_pos (by simp)]
  refine wpAny_bind (wpAny_rule ?_)
  show wpAny _ _ (setField (.ref z) 0 .none) Q E s
  exact wpAny_setField_rec hz (by simp) fun h' hz' hs' => hQ h' hz' hs'
theorem it_zs {f0 : Value} {Q : Value → Shared → Prop} (hz : IsZipS s.heap z TI TO f0) (h : Q (.ref z) s) : wpAny (model prog w) A (pyIter (.ref z)) Q E s := by
  have hT : s.TypeIs (.ref z) "zip" := ⟨_, hz, rfl⟩
  refine wpAny_pyIter_slot hT F.slot_zip_iter (wpAny_call_entry F.slot_zip_iter hT F.entry_zip_iter ?_ (F.args_zip_iter_1 _))
  show wpAny _ _ (ret (.ref z)) _ _ s
  exact wpAny_pure ⟨_, rfl, "zip", _, hT, F.slot_zip_next.lookup, h⟩
end
abbrev zsZ (h : Heap) (o1 o2 : Obj) : Heap := (gzO2 h o1 o2).push { cls := .type "zip", data := .fields #[.none, .bool false, .bool true, .ref ((h.push o1).push o2).objs.size, .ref (gzT2 h o1 o2).objs.size] }
abbrev sKw : List (Str × Value) := [(Str.ofString "strict", .bool true)]
theorem tc_zs (a b : Value) : checkTypeCall "zip" ⟨[a, b], sKw⟩ = pure () := by kernel_rfl
theorem nc_zs (a b : Value) : checkBuiltinCall "zip.__new__" ⟨[.type "zip", a, b], sKw⟩ = pure () := by kernel_rfl
theorem ao_zs (obj a b : Value) : argsOk "object.__init__" ⟨[obj, a, b], sKw⟩ := by unfold argsOk; kernel_rfl
theorem mt_zs {v1 v2 : Value} {o1 o2 : Obj} {H1 H2 : Heap → Prop} (B1 : Begins v1 o1 H1) (B2 : Begins v2 o2 H2) :
    Meets (Builtin.«zip.__new__» ⟨[.type "zip", v1, v2], sKw⟩) (fun _ R s => (H1 s.heap ∧ H2 s.heap) ∧
      R (.ok (.ret (.ref (gzO2 s.heap o1 o2).objs.size))) { s with heap := zsZ s.heap o1 o2 }) :=
  .of_wp fun prog w A R s h => by
    obtain ⟨hp, g, d, tk, os⟩ := s; obtain ⟨⟨h1, h2⟩, h⟩ := h
    have hsub := sub_zip
    have q1 : ∀ {A' : Around} {E : Value → Shared → Prop} {Q : Value → Shared → Prop}, Q (.ref hp.objs.size) ⟨(hp.push o1), g, d, tk, os⟩ → wpAny (model prog w) A' (pyIter v1) Q E ⟨hp, g, d, tk, os⟩ :=
      fun q => B1.iter prog w _ _ ⟨hp, g, d, tk, os⟩ _ (B1.keeps _ _ h1 fun b o' e => e) q
    have q2 : ∀ {A' : Around} {E : Value → Shared → Prop} {Q : Value → Shared → Prop}, Q (.ref (hp.push o1).objs.size) ⟨((hp.push o1).push o2), g, d, tk, os⟩ → wpAny (model prog w) A' (pyIter v2) Q E ⟨(hp.push o1), g, d, tk, os⟩ :=
      fun q => B2.iter prog w _ _ ⟨(hp.push o1), g, d, tk, os⟩ _ (B2.keeps _ _ h2 fun b o' e => (Heap.get?_push_of_some _ e)) q
    have e1 : (Str.ofString "strict" != ("strict" : Str)) = false := by decide +kernel
    wp_walk using q1, q2
    exact ⟨_, rfl, h⟩
section
variable {prog : Program} {w : World} {A : Around} {E : Value → Shared → Prop} {s : Shared}
theorem bg_zs {v1 v2 : Value} {o1 o2 : Obj} {H1 H2 : Heap → Prop} {Q : Value → Shared → Prop} (B1 : Begins v1 o1 H1) (B2 : Begins v2 o2 H2) (h1 : H1 s.heap) (h2 : H2 s.heap)
    (h : ∀ h', IsZipS h' (s.heap.objs.size + 4) (s.heap.objs.size + 2) (s.heap.objs.size + 3) .none → IsTupOf2 h' (s.heap.objs.size + 2) (.ref s.heap.objs.size) (.ref (s.heap.objs.size + 1)) →
      IsTupOf2 h' (s.heap.objs.size + 3) .none .none → h'.get? s.heap.objs.size = some o1 → h'.get? (s.heap.objs.size + 1) = some o2 → h'.objs.size = s.heap.objs.size + 5 →
      (∀ c o, s.heap.get? c = some o → h'.get? c = some o) → Q (.ref (s.heap.objs.size + 4)) { s with heap := h' }) :
    wpAny (model prog w) A (call (.type "zip") [v1, v2] sKw) Q E s := by
  refine callType_newKw F.called_zip (by decide) (tc_zs _ _) (nc_zs _ _) (fun obj => ao_zs obj _ _) F.entry_zip_new
    (mt_zs B1 B2) ⟨⟨h1, h2⟩, ?_⟩
  have z1 : (s.heap.push o1).objs.size = s.heap.objs.size + 1 := Heap.size_push ..
  have z2 : ((s.heap.push o1).push o2).objs.size = s.heap.objs.size + 2 := by rw [Heap.size_push, z1]
  have zT : (gzT2 s.heap o1 o2).objs.size = s.heap.objs.size + 3 := by rw [Heap.size_push, z2]
  have zO : (gzO2 s.heap o1 o2).objs.size = s.heap.objs.size + 4 := by rw [Heap.size_push, zT]
  have zZ : (zsZ s.heap o1 o2).objs.size = s.heap.objs.size + 5 := by rw [Heap.size_push, zO]
  have gZ : (zsZ s.heap o1 o2).get? (gzO2 s.heap o1 o2).objs.size = some { cls := .type "zip", data := .fields #[.none, .bool false, .bool true, .ref ((s.heap.push o1).push o2).objs.size, .ref (gzT2 s.heap o1 o2).objs.size] } := Heap.get?_push_size _ rfl
  have gO : (zsZ s.heap o1 o2).get? (gzT2 s.heap o1 o2).objs.size = some { cls := .type "tuple", data := .seq #[.none, .none] } := Heap.get?_push_of_some _ (Heap.get?_push_size _ rfl)
  have gT : (zsZ s.heap o1 o2).get? ((s.heap.push o1).push o2).objs.size = some { cls := .type "tuple", data := .seq #[.ref s.heap.objs.size, .ref (s.heap.push o1).objs.size] } := Heap.get?_push_of_some _ (Heap.get?_push_of_some _ (Heap.get?_push_size _ rfl))
  have g1 : (zsZ s.heap o1 o2).get? s.heap.objs.size = some o1 := Heap.get?_push_of_some _ (Heap.get?_push_of_some _ (Heap.get?_push_of_some _ (Heap.get?_push_of_some _ (Heap.get?_push_size _ B1.free))))
  have g2 : (zsZ s.heap o1 o2).get? (s.heap.push o1).objs.size = some o2 := Heap.get?_push_of_some _ (Heap.get?_push_of_some _ (Heap.get?_push_of_some _ (Heap.get?_push_size _ B2.free)))
  rw [zO, zT, z2] at gZ
  rw [zT] at gO
  rw [z2, z1] at gT
  rw [z1] at g2
  show _ ∧ _
  rw [zO]
  exact ⟨⟨_, gZ, rfl⟩, h _ gZ gT gO g1 g2 zZ fun c o e => Heap.get?_push_of_some _ (Heap.get?_push_of_some _ (Heap.get?_push_of_some _ (Heap.get?_push_of_some _ (Heap.get?_push_of_some _ e))))⟩
theorem callWith_typeKw {M : Model} {pos : Pos} {T : String} {args : List (Bool × Sem Value)} {keywords : List (Option Str × Sem Value)} {Q : Value → Shared → Prop}
    (hplain : args.any (·.1) = false) (hkw : keywords.any (·.1.isNone) = false)
    (h : wpAny M A (evalArgs (.type T) true args keywords) (fun a s₁ => wpAny M A (call (.type T) a.pos a.kw) Q E s₁) E s) :
    wpAny M A (callWith pos (.type T) [] args keywords) Q E s := by
  unfold callWith
  refine wpAny_bind (wpAny_holding (wpAny_mono h (fun a s₁ h₁ => wpAny_bind (wpAny_standAt ?_)) fun _ _ x => x))
  simp only [hplain, hkw, Bool.or_false]
  refine wpAny_bind (wpAny_pure ?_)
  exact wpAny_bind (wpAny_mono h₁ (fun r s₂ hr => wpAny_bind (wpAny_holding (wpAny_point (wpAny_pure hr)))) fun _ _ x => x)
end
end DI
namespace DI
open PySem L2
open PyProof.Rows hiding St
/-- rows at a and c side by side, as long as one another, each pair new -/
def IzS (K : Fg) (t u : Bool) (a c : Addr) : L2.It where
  go i H := ∃ (xs ys : List L2.V) (x y : L2.V), SqK t K H a xs ∧ SqK u K H c ys ∧ xs[i]? = some x ∧ ys[i]? = some y
  yld i H v H' := ∃ T x y ob, v = .ref T ∧ ob.dict = none ∧ H T = none ∧ H' = upd H T (.frz ob (.tup [x, y])) ∧ (∀ xs, SqK t K H a xs → xs[i]? = some x) ∧ ∀ ys, SqK u K H c ys → ys[i]? = some y
  stop i H := ∃ xs ys : List L2.V, SqK t K H a xs ∧ SqK u K H c ys ∧ i = xs.length ∧ i = ys.length
theorem itK_ne {t : Bool} {h : Heap} {it a : Addr} {i : Nat} {its : Array Value} (x : ItK t h it a i) (y : IsK t h a its) : a ≠ it := fun e => by
  subst e
  cases t
  · obtain ⟨o, eo, _, d⟩ := x; obtain ⟨o', eo', _, n, d'⟩ := y; rw [eo] at eo'; cases eo'; rw [d] at d'; cases d'
  · obtain ⟨o, eo, _, d⟩ := x; obtain ⟨o', eo', _, n, d'⟩ := y; rw [eo] at eo'; cases eo'; rw [d] at d'; cases d'
theorem turn_zs {P : Program} {w : World} {K : Fg} {elts : List Expr} {kk : Nat} {tpos : Pos} {t u : Bool} {a c z TI TO i1 i2 : Addr} (S : ZipSep2 z TI TO i1 i2 [i1, a] [i2, c]) :
    Turn P w K (.Tuple elts kk tpos) (IzS K t u a c) [z, TI, TO, i1, i2] z (fun i h => (IsZipS h z TI TO .none ∧ IsTupOf2 h TI (.ref i1) (.ref i2)) ∧ (∃ x y, IsTupOf2 h TO x y) ∧ ItK t h i1 a i ∧ ItK u h i2 c i) where
  mem := List.mem_cons_self
  obj := fun i h st b hb => by
    obtain ⟨⟨hz, hI⟩, ⟨x, y, hO⟩, h1, h2⟩ := st
    simp only [List.mem_cons, List.not_mem_nil, or_false] at hb
    obtain rfl | rfl | rfl | rfl | rfl := hb
    · exact ⟨_, hz, fun v q => nomatch q⟩
    · exact ⟨_, hI, fun v q => nomatch q⟩
    · exact ⟨_, hO, fun v q => nomatch q⟩
    · exact h1.obj
    · exact h2.obj
  keep := fun i h h' st k => by
    obtain ⟨⟨hz, hI⟩, ⟨x, y, hO⟩, h1, h2⟩ := st
    refine ⟨⟨k _ ?_ _ hz, k _ ?_ _ hI⟩, ⟨x, y, k _ ?_ _ hO⟩, h1.at fun o q => k _ ?_ o q, h2.at fun o q => k _ ?_ o q⟩
    all_goals simp
  item := by
    rintro X rfl rfl rfl hc i pins s σ H E I hf ⟨⟨hz, hI⟩, ⟨x0, y0, hO⟩, h1, h2⟩ ⟨xs, ys, x, y, qx, qy, hx, hy⟩
    obtain ⟨l1, r1, p1⟩ := inv_k I qx
    obtain ⟨l2, r2, p2⟩ := inv_k I qy
    obtain ⟨v1, e1, g1⟩ := r1.get hx
    obtain ⟨v2, e2, g2⟩ := r2.get hy
    have hh : X.A.handled = none := I.ok.hd hc
    have k1 : i < l1.toArray.size := by
      rw [List.size_toArray]; exact (List.getElem?_eq_some_iff.mp e1).1
    have k2 : i < l2.toArray.size := by
      rw [List.size_toArray]; exact (List.getElem?_eq_some_iff.mp e2).1
    have zl := Heap.lt_size hz
    refine pn_zs_item S (draws_k (A := X.A.in1) hh t i1 a (itK_ne h1 p1) l1.toArray) (draws_k (A := X.A.in1) hh u i2 c (itK_ne h2 p2) l2.toArray) hz hI hO ⟨h1, p1⟩ ⟨h2, p2⟩ k1 k2 fun w1 w2 h' tk y1 y2 z' O' st1 st2 hT hsz hk => ?_
    have y1' : v1 = w1 := by
      have q : l1.toArray[i]? = some v1 := by simpa using e1
      rw [q] at y1; cases y1; rfl
    have y2' : v2 = w2 := by
      have q : l2.toArray[i]? = some v2 := by simpa using e2
      rw [q] at y2; cases y2; rfl
    subst y1' y2'
    refine ⟨_, rfl, lo_zs (s := { s with heap := h', toks := tk }) z' fun h2' z2 sb => ?_⟩
    have T2 : h2'.get? s.heap.objs.size = some { cls := .type "tuple", data := .seq #[v1, v2] } := (sb.2 _ (Nat.ne_of_gt zl)).trans hT
    have new : ObjOk X.prog X.w (upd H s.heap.objs.size (.frz { cls := .type "tuple", data := .seq #[v1, v2] } (.tup [x, y]))) h2' s.heap.objs.size (.frz { cls := .type "tuple", data := .seq #[v1, v2] } (.tup [x, y])) := by
      refine ⟨T2, ?_, [v1, v2], .cons g1 (.cons g2 .nil), ⟨_, T2, rfl, _, rfl⟩⟩
      show 2 ≤ sizeLine
      decide
    have kept : ∀ b o, b ∉ [z, TI, TO, i1, i2] → s.heap.get? b = some o → h2'.get? b = some o := fun b o hb q => by
      simp only [List.mem_cons, List.not_mem_nil, or_false, not_or] at hb
      obtain ⟨n1, n2, n3, n4, n5⟩ := hb
      exact (sb.2 b n1).trans (hk b o n1 n3 n4 n5 q)
    refine ⟨.ref s.heap.objs.size, _, I.turnedNew (t' := tk) (ch := [z, TI, TO, i1, i2]) kept hf (Nat.le_refl _) new, rfl, ⟨_, x, y, _, rfl, rfl, I.hok.fresh (Nat.le_refl _), rfl, fun l hl => (inj_k I hl qx).symm ▸ hx, fun l hl => (inj_k I hl qy).symm ▸ hy⟩, ⟨⟨z2, ?_⟩, ⟨v1, v2, ?_⟩, ?_, ?_⟩, fun b hb => ?_⟩
    · exact (sb.2 _ S.TIz).trans (hk _ _ S.TIz S.TITO S.TIi1 S.TIi2 hI)
    · exact (sb.2 _ S.TOz).trans O'
    · exact st1.1.at fun o q => (sb.2 _ S.zi1.symm).trans q
    · exact st2.1.at fun o q => (sb.2 _ S.zi2.symm).trans q
    · have lt : b < s.heap.objs.size := by
        obtain ⟨_, q1, _⟩ := h1.obj
        obtain ⟨_, q2, _⟩ := h2.obj
        simp only [List.mem_cons, List.not_mem_nil, or_false] at hb
        obtain rfl | rfl | rfl | rfl | rfl := hb
        · exact zl
        · exact Heap.lt_size hI
        · exact Heap.lt_size hO
        · exact Heap.lt_size q1
        · exact Heap.lt_size q2
      rw [upd_ne (Nat.ne_of_lt lt)]
      exact (hf b hb).1
  done := by
    rintro X rfl rfl rfl hc i pins s σ H E I hf ⟨⟨hz, hI⟩, ⟨x0, y0, hO⟩, h1, h2⟩ ⟨xs, ys, qx, qy, b1, b2⟩
    obtain ⟨l1, r1, p1⟩ := inv_k I qx
    obtain ⟨l2, r2, p2⟩ := inv_k I qy
    have n1 := r1.length
    have n2 := r2.length
    have hh : X.A.handled = none := I.ok.hd hc
    have m1 : l1.toArray.size = i := by rw [List.size_toArray]; omega
    have m2 : l2.toArray.size = i := by rw [List.size_toArray]; omega
    have D1 := draws_k (P := X.prog) (w := X.w) (A := X.A.in1) hh t i1 a (itK_ne h1 p1) l1.toArray
    have D2 := draws_k (P := X.prog) (w := X.w) (A := X.A.in1) hh u i2 c (itK_ne h2 p2) l2.toArray
    rw [m1] at D1
    rw [m2] at D2
    refine pn_zs_end hh S D1 D2 hz hI hO ⟨h1, p1⟩ ⟨h2, p2⟩ fun h' tk hk => ⟨rfl, I.turnedL (t' := tk) (ch := [z, TI, TO, i1, i2]) (fun b o hb q => ?_) hf⟩
    simp only [List.mem_cons, List.not_mem_nil, or_false, not_or] at hb
    exact hk b o hb.1 hb.2.2.1 hb.2.2.2.1 hb.2.2.2.2 q
  self := fun A i s Q E st h => it_zs st.1.1 h
def iZS (K : Fg) (ta : TA) : TI := fun σ H R => ta σ H fun vs H1 => ∃ t u a c xs ys, vs = [.ref a, .ref c] ∧ SqK t K H1 a xs ∧ SqK u K H1 c ys ∧ R (IzS K t u a c) H1
theorem pi_zs {X : Cx} {e e2 : Expr} {ta : TA} {p pos tpos p1 p2 : Pos} {j : Nat} {elts : List Expr} {kk : Nat} (hg : Gl X "zip") (hm : X.mg "zip" = none) (ha : PA X [e, e2] ta)
    (hs : starEach [e, e2] X.env = (false, eval e X.env) :: starEach [e2] X.env) (hpl : (backTo pos (starEach [e2] X.env)).any (·.1) = false) :
    PI X (.Tuple elts kk tpos) (.Call (.Name "zip" p) [e, e2] [⟨some (Str.ofString "strict"), .Constant (.bool true) j p1, p2⟩] pos) (iZS X.K ta) := by
  refine ⟨fun pins s σ H R I h => wpAny_Call_Name_kw (ld_blt I hg hm PyProof.Rows.boot_zip (callWith_typeKw (by rw [hs]; exact hpl) rfl ?_))⟩
  rw [hs]
  refine evalArgs_kwB rfl ?_
  show wpAny _ _ (spliced (backTo pos ((false, eval e X.env) :: starEach [e2] X.env))) _ _ _
  rw [← hs]
  refine thn (ha.run pos pins s σ H _ I h) fun us s1 ⟨vs, H1, I1, r1, q1⟩ => thn ((pk_cons (X := X) (nm := some (Str.ofString "strict")) (kpos := p2) (pe_bl (X := X) (b := true) (j := j) (pos := p1)) pk_nil).run pos pins s1 σ H1 (fun zs H2 => zs = [.bl true] ∧ H2 = H1) I1 ⟨rfl, rfl⟩) fun ws s2 ⟨zs, H2, I2, r2, ez, eh⟩ => ?_
  subst ez eh
  obtain ⟨t, u, a, c, xs, ys, rfl, qx, qy, q⟩ := q1
  cases r2 with
  | cons rw rr2 =>
  cases rr2; cases rw
  cases r1 with
  | cons r rr => cases rr with
    | cons r' rr =>
      cases rr; cases r; cases r'
      obtain ⟨l1, v1, p1'⟩ := inv_k I2 qx
      obtain ⟨l2, v2, p2'⟩ := inv_k I2 qy
      show wpAny _ _ (call (.type "zip") [.ref a, .ref c] sKw) _ _ _
      refine bg_zs (begins_k t a l1.toArray) (begins_k u c l2.toArray) p1' p2' fun h' hz hI hO g1 g2 hsz hk => it_zs hz ?_
      have I3 : Inv X pins σ H2 { s2 with heap := h' } := I2.kept (t' := s2.toks) hk
      have S := zip_sep2 (N := s2.heap.objs.size) (fp1 := [a]) (fp2 := [c]) (fun b hb => by rw [List.mem_singleton.mp hb]; exact p1'.live) (fun b hb => by rw [List.mem_singleton.mp hb]; exact p2'.live)
      refine ⟨_, _, _, _, H2, rfl, I3, turn_zs (t := t) (u := u) S, ⟨⟨hz, hI⟩, ⟨_, _, hO⟩, .first g1, .first g2⟩, fun b hb => ?_, q⟩
      have le : s2.heap.objs.size ≤ b := by
        simp only [List.mem_cons, List.not_mem_nil, or_false] at hb
        obtain e | e | e | e | e := hb
        · rw [e]; exact Nat.le_add_right _ _
        · rw [e]; exact Nat.le_add_right _ _
        · rw [e]; exact Nat.le_add_right _ _
        · rw [e]; exact Nat.le_refl _
        · rw [e]; exact Nat.le_add_right _ _
      exact I2.fpOk le (I2.hok.fresh le)
theorem wk_zs {K : Fg} {F : Hp} {t u : Bool} {a c : Addr} {xs ys : List L2.V} {ds es : List D} (h : SqK t K F a xs) (r : RepL K F xs ds) (h2 : SqK u K F c ys) (r2 : RepL K F ys es) (hl : ds.length = es.length) : Wk K (IzS K t u a c) ((ds.zip es).map fun p => .tuple [p.1, p.2]) F := by
  intro H F1 s1 s2
  have q1 : SqK t K H a xs := (s1.trans s2).sqK h
  have q2 : SqK u K H c ys := (s1.trans s2).sqK h2
  have n1 := r.length
  have n2 := r2.length
  have hl : ((ds.zip es).map fun p => PyData.tuple [p.1, p.2]).length = xs.length := by
    rw [List.length_map, List.length_zip, n1]; omega
  rw [hl]
  refine ⟨⟨xs, ys, q1, q2, rfl, by omega⟩, fun i hi => ?_, fun i x H' hi ⟨T, v, v', ob, e, hd, hT, e', y1, y2⟩ => ?_⟩
  · have k2 : i < ys.length := by omega
    exact ⟨xs, ys, xs[i], ys[i], q1, q2, by simp [hi], by simp [k2]⟩
  · subst e e'
    obtain ⟨d, g1, g2⟩ := r.getV (y1 xs q1)
    obtain ⟨d', g3, g4⟩ := r2.getV (y2 ys q2)
    exact ⟨_, _, zip_at g1 g3, .tup hd hT (.cons (g2.mono s1) (.cons (g4.mono s1) .nil))⟩
section
variable {X : Cx} {W : WX} {G : Nat → Fn} {cv : CV}
theorem si_zips {elts : List Expr} {kk : Nat} {tpos p pos p1 p2 : Pos} {j : Nat} {a b : Expr} {xa : DI.X} (hg : Gl X "zip") (hm : X.mg "zip" = none) (hn : nost a = true) (hn2 : nost b = true) (ha : SAL X W G cv [a, b] xa) :
    SI X W G cv (.Tuple elts kk tpos) (.Call (.Name "zip" p) [a, b] [⟨some (Str.ofString "strict"), .Constant (.bool true) j p1, p2⟩] pos) (.itr .zips xa) := by
  intro R A env σ H F Q Q' s w kr k pins st I
  refine pI_of (R := Q') (pi_zs (p := p) (pos := pos) (tpos := tpos) (p1 := p1) (p2 := p2) (j := j) (elts := elts) (kk := kk) hg hm pa_p (by rw [star1 hn]) (by rw [star1 hn2]; rfl)) ?_ pins st I
  simp only [wI, wE] at w
  clear I st pins
  intro pos' pins st I
  have z := ha R A [] env σ H F _ (fun vs H1 => ∀ (pins : List (Addr × Obj)) (s1 : Shared), Inv X pins σ H1 s1 → ∃ t u a c xs ys, vs = [.ref a, .ref c] ∧ SqK t X.K H1 a xs ∧ SqK u X.K H1 c ys ∧ Q' (IzS X.K t u a c) H1) s w kr (fun rs e1 vs H1 F1 s1 g1 f1 hl w1 pins s2 I2 => ?_) pos' pins st I
  · exact thn z fun us s1 ⟨vs, H1, I1, r1, q⟩ => ⟨vs, H1, I1, r1, q pins s1 I1⟩
  split at w1
  · rename_i ds e
    obtain ⟨r, hd⟩ := two_res f1 e hl
    match ds, r, hd with
    | [d, d'], .cons r1 (.cons r2 .nil), _ =>
      simp only [itW] at w1
      cases e1' : itemsOf d with
      | none => rw [e1'] at w1; exact False.elim w1
      | some us =>
        cases e2' : itemsOf d' with
        | none => rw [e1', e2'] at w1; exact False.elim w1
        | some ws =>
          rw [e1', e2'] at w1
          obtain ⟨t, a, xs, rfl, q1, l1⟩ := r1.seq e1'
          obtain ⟨u, c, ys, rfl, q2, l2⟩ := r2.seq e2'
          refine ⟨t, u, a, c, xs, ys, rfl, s1.sub.sqK q1, s1.sub.sqK q2, k _ _ _ _ _ s1 g1 (wk_zs q1 l1 q2 l2 w1.1) ?_ w1.2⟩
          rw [List.length_map, List.length_zip, ← l1.length]
          exact Nat.le_trans (Nat.min_le_left _ _) (sqK_len I2 (s1.sub.sqK q1))
  · exact False.elim w1
end
end DI
namespace DI
open PySem L2
open PyProof.Rows hiding St
section
variable {X : Cx} {W : WX} {G : Nat → Fn} {cv : CV}
/-- the context of a block -/
abbrev blkX (X : Cx) (scope : Scope) (s : Shared) (H : Hp) (C : Addr) (cl : List (Str × Addr)) (fp : List Addr) : Cx := X.blk s H scope (compEnvC scope cl C X.env) fp
/-- in every block of the scope -/
def inB (X : Cx) (scope : Scope) (P : Cx → Prop) : Prop := ∀ (s : Shared) (H : Hp) (C : Addr) (cl : List (Str × Addr)) (fp : List Addr), P (blkX X scope s H C cl fp)
/-- the tests behind a comprehension's for -/
def tstS (ts : List Expr) (env : Env) : Sem Bool :=
  forIn ts true fun c r =>
    if r = true then do
      let ok ← isTrue c env (eval c env)
      pure (ForInStep.yield ok)
    else pure (ForInStep.yield r)
def bX (X : Cx) (scope : Scope) (e : Expr) : TE := fun σ H Q => inB X scope fun Y => pX Y e σ H Q
def bG (X : Cx) (scope : Scope) (e : Expr) : TG := fun v σ H Q => inB X scope fun Y => pG Y e v σ H Q
def bT (X : Cx) (scope : Scope) (ts : List Expr) : TT := fun σ H Q => inB X scope fun Y => ∀ (pins : List (Addr × Obj)) (s : Shared), Inv Y pins σ H s → wpAny (model Y.prog Y.w) Y.A (tstS ts Y.env) (TP Y pins σ Q) Y.xe s
abbrev W0 : WX := fun _ _ _ _ => False
/-- a block's tests -/
def SBT (Y : Cx) (G : Nat → Fn) (cv : CV) (ts : List Expr) (x : DI.X) : Prop := ∀ (A : AT) (env : En) (σ : L2.St) (H F : Hp) (Q : Bool → En → Prop) (Q' : Bool → Hp → Prop), Sta Y.K cv A env σ H F → wT G x noR env Q →
  (∀ b env' H' F', Sta Y.K cv A env' σ H' F' → Go env σ H F env' σ H' F' → Q b env' → Q' b H') → ∀ (pins : List (Addr × Obj)) (s : Shared), Inv Y pins σ H s → wpAny (model Y.prog Y.w) Y.A (tstS ts Y.env) (TP Y pins σ Q') Y.xe s
theorem noKR {Y : Cx} {A : AT} {env : En} {σ : L2.St} {H F : Hp} : KR Y W0 cv A noR env σ H F := fun _ _ _ _ _ _ z => z
theorem sbt_nil {Y : Cx} : SBT Y G cv [] .nil := by
  intro A env σ H F Q Q' s w k pins st I
  simp only [br_iff, ls_iff, nrm_iff, bk_iff, sf_iff, wT] at w
  exact pts_nil.run pins st σ H Q' I (k true env H F s .refl w)
theorem sbt_one {Y : Cx} {c : Expr} {x : DI.X} (h : ST Y W0 G cv c x) : SBT Y G cv [c] x := by
  intro A env σ H F Q Q' s w k pins st I
  exact (pts_one pt_p).run pins st σ H Q' I (h noR A env σ H F Q Q' s w noKR k)
/-- [elt for target in iter if ..], read -/
theorem compr_read {elt tg iter : Expr} {ifs : List Expr} {scope : Scope} {t : Tg} {xi xc xe : DI.X} (hi : SI X W G cv tg iter xi) (hg : inB X scope fun Y => TGo Y tg t) (hk : inB X scope fun Y => SBT Y G cv ifs xc) (he : inB X scope fun Y => SE Y W0 G cv elt xe)
    (R : Nat → En → Prop) (A : AT) (env : En) (σ : L2.St) (H F : Hp) (Q : RV → En → Prop) (Q' : VK) (s : Sta X.K cv A env σ H F) (w : wE G (.cmpr t xi xc xe) R env Q) (kr : KR X W cv A R env σ H F)
    (k : ∀ r env' v H' F', Sta X.K cv A env' σ H' F' → Go env σ H F env' σ H' F' → Rv X.K H env' σ H' F' v r → Q r env' → Q' v H') :
    tLc (pI X tg iter) (bG X scope tg) (bT X scope ifs) (bX X scope elt) (tgs t) σ H Q' := by
  simp only [br_iff, ls_iff, nrm_iff, bk_iff, sf_iff, wE] at w
  refine hi R A env σ H F (fun items e2 => eachW (fun d e K => tgW t [d] (wipeE e (tgs t)) fun e1 => wT G xc noR e1 fun k e2 => if k = true then wE G xe noR e2 fun re e3 => settle e3 re fun d' e4 => K [d'] e4 else K [] e2) items [] e2 fun ds e3 => Q (.own ds) (backE e2 e3 (tgs t))) _ s w kr
    fun items e2 J H1 F1 s1 g1 wk hz w1 => ?_
  intro D hD
  have hDF : F1 D = none := s1.free hD
  have noD : ∀ i, ¬ Owns e2 σ i D := s1.noOwn hD
  refine ⟨fun i m H' => m = items.length - i ∧ i ≤ items.length ∧ ∃ e F' acc accD, Sta X.K cv A (wipeE e (tgs t)) (wipe σ (tgs t)) H' F' ∧ Go (wipeE e2 (tgs t)) (wipe σ (tgs t)) H1 F1 (wipeE e (tgs t)) (wipe σ (tgs t)) H' F' ∧
      H' D = some (.lst acc) ∧ RepL X.K F' acc accD ∧ F' D = none ∧ acc.length ≤ i ∧ (∀ i, ¬ Owns (wipeE e (tgs t)) (wipe σ (tgs t)) i D) ∧
      eachW (fun d e K => tgW t [d] (wipeE e (tgs t)) fun e1 => wT G xc noR e1 fun k e2 => if k = true then wE G xe noR e2 fun re e3 => settle e3 re fun d' e4 => K [d'] e4 else K [] e2) (items.drop i) accD e fun ds e3 => Q (.own ds) (backE e2 e3 (tgs t)), ?_, ?_⟩
  · obtain ⟨s2, g2⟩ := (s1.wipe (vs := tgs t)).mkL (.lst []) hD
    exact ⟨_, rfl, Nat.zero_le _, e2, F1, [], [], s2, g2, upd_same, .nil, hDF, Nat.le_refl _, fun i o => noD i o.wipe.2, w1⟩
  · rintro i m H' ⟨rfl, hi', e, F', acc, accD, s2, g2, hA, rA, fA, lA, nA, w2⟩
    obtain ⟨st, go, yl⟩ := wk H' F' g2.ext s2.sub
    rcases Nat.lt_or_ge i items.length with hlt | hge
    · refine .inr ⟨go i hlt, fun H2 => ∃ e F2 acc accD, Sta X.K cv A (wipeE e (tgs t)) (wipe σ (tgs t)) H2 F2 ∧ Go (wipeE e2 (tgs t)) (wipe σ (tgs t)) H1 F1 (wipeE e (tgs t)) (wipe σ (tgs t)) H2 F2 ∧
        H2 D = some (.lst acc) ∧ RepL X.K F2 acc accD ∧ F2 D = none ∧ acc.length ≤ i + 1 ∧ (∀ i, ¬ Owns (wipeE e (tgs t)) (wipe σ (tgs t)) i D) ∧
        eachW (fun d e K => tgW t [d] (wipeE e (tgs t)) fun e1 => wT G xc noR e1 fun k e2 => if k = true then wE G xe noR e2 fun re e3 => settle e3 re fun d' e4 => K [d'] e4 else K [] e2) (items.drop (i + 1)) accD e fun ds e3 => Q (.own ds) (backE e2 e3 (tgs t)),
        fun H2 ⟨e, F2, acc, accD, a⟩ => ⟨items.length - (i + 1), by omega, rfl, hlt, e, F2, acc, accD, a⟩, fun x H2 hy => ?_⟩
      obtain ⟨d, F2, hd, rs⟩ := yl i x H2 hlt hy
      obtain ⟨s3, g3, rv⟩ := s2.res (e0 := wipeE e (tgs t)) .refl rs
      have rx : Rep X.K F2 x d := rv
      have g3D : H2 D = some (.lst acc) := g3.frm D _ hA nA nt_lst
      have f3D : F2 D = none := g3.new D fA (by rw [hA]; simp) nA
      have w3 : items.drop i = d :: items.drop (i + 1) := by
        rw [List.drop_eq_getElem_cons hlt]
        congr 1
        rw [List.getElem?_eq_getElem hlt] at hd; exact Option.some.inj hd
      rw [w3] at w2
      intro sb Hb C cl fp
      refine hg sb Hb C cl fp cv A (wipeE e (tgs t)) (wipeE e (tgs t)) (wipe σ (tgs t)) (wipe σ (tgs t)) H' F' H2 F2 d x _ _ s3 g3 rx w2 fun e4 σ4 s4 g4 ch ln w4 => ?_
      have nA4 : ∀ i, ¬ Owns e4 σ4 i D := fun i o => by
        rcases g4.own i D o with z | ⟨j, z⟩
        · rw [hA] at z; cases z
        · exact nA j z
      have wip : wipe σ4 (tgs t) = wipe (wipe σ (tgs t)) (tgs t) ∧ wipe (wipe σ (tgs t)) (tgs t) = wipe σ (tgs t) := by
        have ext : ∀ (a b : L2.St), a.length = b.length → (∀ j, j ∉ tgs t → a[j]? = b[j]?) → wipe a (tgs t) = wipe b (tgs t) := fun a b hl hh => by
          refine List.ext_getElem? fun j => ?_
          by_cases hj : j ∈ tgs t
          · have wz : ∀ {vs : List Nat} {a : L2.St}, j ∈ vs → (wipe a vs)[j]? = if j < a.length then some none else none := by
              intro vs
              induction vs with
              | nil => intro a h; cases h
              | cons v vs ih =>
                intro a h
                unfold wipe
                by_cases hv : j = v
                · subst hv
                  by_cases hl2 : j < a.length
                  · rw [List.getElem?_set_self (by rw [wipe_length]; exact hl2), if_pos hl2]
                  · rw [List.getElem?_eq_none (by rw [List.length_set, wipe_length]; omega), if_neg hl2]
                · rw [List.getElem?_set_ne (Ne.symm hv)]
                  exact ih ((List.mem_cons.mp h).resolve_left hv)
            rw [wz hj, wz hj, hl]
          · rw [wipe_get hj, wipe_get hj]; exact hh j hj
        exact ⟨ext _ _ ln ch, ext _ _ (wipe_length _ _) (fun j hj => wipe_get hj)⟩
      refine ⟨wip.1.trans wip.2, ?_⟩
      intro sb Hb C cl fp
      refine hk sb Hb C cl fp A e4 σ4 H2 F2 _ _ s4 w4 fun b e5 H5 F5 s5 g5 w5 => ?_
      have h5D : H5 D = some (.lst acc) := g5.frm D _ g3D nA4 nt_lst
      have f5D : F5 D = none := g5.new D f3D (by rw [g3D]; simp) nA4
      have nA5 : ∀ i, ¬ Owns e5 σ4 i D := fun i o => by
        rcases g5.own i D o with z | ⟨j, z⟩
        · rw [g3D] at z; cases z
        · exact nA4 j z
      have fin : ∀ {e6 : En} {H6 F6 : Hp}, Sta X.K cv A e6 σ4 H6 F6 → Go (wipeE e (tgs t)) (wipe σ (tgs t)) H' F' e6 σ4 H6 F6 → Sta X.K cv A (wipeE e6 (tgs t)) (wipe σ (tgs t)) H6 F6 ∧ Go (wipeE e2 (tgs t)) (wipe σ (tgs t)) H1 F1 (wipeE e6 (tgs t)) (wipe σ (tgs t)) H6 F6 := fun {e6 H6 F6} s6 g6 => by
        have q := s6.wipe (vs := tgs t)
        rw [wip.1.trans wip.2] at q
        refine ⟨q, g2.trans ⟨g6.ext, g6.frm, g6.liv, g6.new, fun j p o => g6.own j p ?_, fun j ds h => ?_, by have := g6.len; simp only [wipeE_len] at this ⊢; exact this⟩⟩
        · have : Owns (wipeE e6 (tgs t)) (wipe σ4 (tgs t)) j p := by rw [wip.1.trans wip.2]; exact o
          exact this.wipe.2
        · obtain ⟨hj, _⟩ := wipeE_some h
          obtain ⟨d2, h2⟩ := g6.iok j ds h
          exact ⟨d2, by rw [wipeE_get, if_neg hj]; exact h2⟩
      cases b with
      | false =>
        obtain ⟨q1, q2⟩ := fin s5 (g4.trans g5)
        rw [if_neg Bool.false_ne_true] at w5
        simp only [List.append_nil] at w5
        refine ⟨e5, F5, acc, accD, q1, q2, h5D, rA.mono ((g4.trans g5).ext), f5D, Nat.le_succ_of_le lA, fun i o => ?_, w5⟩
        have o' : Owns (wipeE e5 (tgs t)) (wipe σ4 (tgs t)) i D := by rw [wip.1.trans wip.2]; exact o
        exact nA5 i o'.wipe.2
      | true =>
        intro sb Hb C cl fp
        refine he sb Hb C cl fp noR A e5 σ4 H5 F5 _ _ s5 w5 noKR fun re e6 y H6 F6 s6 g6 rv6 w6 => ?_
        have h6D : H6 D = some (.lst acc) := g6.frm D _ h5D nA5 nt_lst
        have f6D : F6 D = none := g6.new D f5D (by rw [h5D]; simp) nA5
        have nA6 : ∀ i, ¬ Owns e6 σ4 i D := fun i o => by
          rcases g6.own i D o with z | ⟨j, z⟩
          · rw [h5D] at z; cases z
          · exact nA5 j z
        obtain ⟨d', e7, F7, w7, s7, g7, r7⟩ := s6.settle g6 rv6 w6
        have f7D : F7 D = none := g7.new D f5D (by rw [h5D]; simp) nA5
        have nA7 : ∀ i, ¬ Owns e7 σ4 i D := fun i o => by
          rcases g7.own i D o with z | ⟨j, z⟩
          · rw [h5D] at z; cases z
          · exact nA5 j z
        have hz' : acc.length < sizeLine := by omega
        refine ⟨acc, h6D, hz', ?_⟩
        -- the item is laid onto the new list
        have s8 : Sta X.K cv A e7 σ4 (upd H6 D (.lst (acc ++ [y]))) F7 := by
          refine ⟨fun a u z => ?_, s7.len, fun j sv h => (s7.slot j sv h).keep .refl fun p xs w1 w2 w3 hn => ?_, s7.dist, s7.sx.upd (.inr ⟨_, h6D⟩) nt_lst⟩
          · rw [upd_ne (by rintro rfl; rw [f7D] at z; cases z)]; exact s7.sub _ _ z
          · have ne : p ≠ D := by
              rintro rfl
              refine nA7 j ⟨w1, ?_⟩
              cases sv with
              | v d => exact hn.elim
              | th d => exact hn.elim
              | fn d => exact hn.elim
              | own ds => exact ⟨ds, .inl h⟩
              | io ds => exact ⟨ds, .inr h⟩
            rw [upd_ne ne]; exact ⟨w2, w3⟩
        have g8 : Go (wipeE e (tgs t)) (wipe σ (tgs t)) H' F' e7 σ4 H6 F7 := (g4.trans g5).trans g7
        obtain ⟨q1, q2⟩ := fin s7 g8
        have q1' : Sta X.K cv A (wipeE e7 (tgs t)) (wipe σ (tgs t)) (upd H6 D (.lst (acc ++ [y]))) F7 := by
          have q := s8.wipe (vs := tgs t)
          rw [wip.1.trans wip.2] at q; exact q
        refine ⟨e7, F7, acc ++ [y], accD ++ [d'], q1', ⟨q2.ext, fun a u h n t => ?_, fun a z => ?_, q2.new, q2.own, q2.iok, q2.len⟩, upd_same, (rA.mono g8.ext).append (.cons r7 .nil), f7D, by rw [List.length_append]; simp; exact lA, fun i o => ?_, w7⟩
        · have ne : a ≠ D := by rintro rfl; rw [hD] at h; cases h
          rw [upd_ne ne]; exact q2.frm a u h n t
        · by_cases ha : a = D
          · subst ha; exact hD
          · rw [upd_ne ha] at z; exact q2.liv a z
        · have o' : Owns (wipeE e7 (tgs t)) (wipe σ4 (tgs t)) i D := by rw [wip.1.trans wip.2]; exact o
          exact nA7 i o'.wipe.2
    · have he' : i = items.length := by omega
      subst he'
      refine .inl ⟨st, ?_⟩
      rw [List.drop_length] at w2
      obtain ⟨s9, g9, ow⟩ := s1.unwipe s2 g2
      refine k (.own accD) _ (.ref D) H' F' s9 (g1.trans g9) ⟨D, acc, rfl, fA, hA, rA, g1.liv D hD, fun i o => ?_⟩ w2
      obtain ⟨o1, ds, o2⟩ := o
      by_cases hj : i ∈ tgs t
      · have hl : e.length = e2.length := by have := g2.len; rw [wipeE_len, wipeE_len] at this; exact this.symm
        rw [backE_get hl, if_pos hj] at o2
        exact noD i ⟨o1, ds, o2⟩
      · have hl : e.length = e2.length := by have := g2.len; rw [wipeE_len, wipeE_len] at this; exact this.symm
        rw [backE_get hl, if_neg hj] at o2
        exact nA i ⟨by rw [wipe_get hj]; exact o1, ds, by rw [wipeE_get, if_neg hj]; exact o2⟩
/-- [elt for target in iter if ..] -/
theorem se_compr {elt tg iter : Expr} {ifs : List Expr} {scope : Scope} {own : List (Str × Nat)} {pos : Pos} {t : Tg} {xi xc xe : DI.X} (hc : X.calm = true) (hN : X.N.Nodup) (ok : BlkOk X.N X.env.scope scope own) (ht : tgs t = own.map (·.2))
    (hs : ∀ x, foldedSetIterable iter X.env x = pure x) (hi : SI X W G cv tg iter xi) (hg : inB X scope fun Y => TGo Y tg t) (hk : inB X scope fun Y => SBT Y G cv ifs xc) (he : inB X scope fun Y => SE Y W0 G cv elt xe) :
    SE X W G cv (.ListComp elt [⟨tg, iter, ifs, 0⟩] scope pos) (.cmpr t xi xc xe) := by
  intro R A env σ H F Q Q' s w kr k
  refine pX_of (pe_lc (te := bX X scope elt) (g := bG X scope tg) (tt := bT X scope ifs) hc hN pi_p ok (fun s H C cl fp => ⟨fun pins st σ H v u Q I r h => h s _ C cl fp pins st u I r⟩) (fun s H C cl fp => ⟨fun pins st σ H Q I h => h s _ C cl fp pins st I⟩) (fun s H C cl fp => ⟨fun pins st σ H Q I h => h s _ C cl fp pins st I⟩) hs) ?_
  rw [← ht]
  exact compr_read hi hg hk he R A env σ H F Q Q' s w kr k
end
end DI
namespace DI
open PySem L2
open PyProof.Rows hiding St
section
variable {X : Cx} {W : WX} {G : Nat → Fn} {cv : CV}
theorem Owns.hide {e : En} {σ : L2.St} {i j : Nat} {p : Addr} (o : Owns (e.set i none) σ j p) : j ≠ i ∧ Owns e σ j p := by
  obtain ⟨h1, ds, h2⟩ := o
  by_cases hj : j = i
  · subst hj
    exfalso
    rcases h2 with h2 | h2
    all_goals
      rw [List.getElem?_set] at h2
      simp at h2
  · refine ⟨hj, h1, ds, ?_⟩
    rw [List.getElem?_set_ne (Ne.symm hj)] at h2
    exact h2
theorem set_some {e : En} {i j : Nat} {sv : SV} (h : (e.set i none)[j]? = some (some sv)) : j ≠ i ∧ e[j]? = some (some sv) := by
  by_cases hj : j = i
  · subst hj
    rw [List.getElem?_set] at h
    simp at h
  · rw [List.getElem?_set_ne (Ne.symm hj)] at h
    exact ⟨hj, h⟩
/-- a slot is looked away from -/
theorem Sta.hide {K : Fg} {A : AT} {e : En} {σ : L2.St} {H F : Hp} (s : Sta K cv A e σ H F) (i : Nat) : Sta K cv A (e.set i none) σ H F :=
  ⟨s.sub, by rw [List.length_set]; exact s.len, fun j sv h => s.slot j sv (set_some h).2, fun j k p o1 o2 => s.dist j k p o1.hide.2 o2.hide.2, s.sx⟩
theorem Sta.unhide {K : Fg} {A : AT} {e0 e : En} {σ : L2.St} {H0 F0 H F : Hp} {i : Nat} {sv : SV} (s0 : Sta K cv A e0 σ H0 F0) (s : Sta K cv A e σ H F) (g : Go (e0.set i none) σ H0 F0 e σ H F) (h0 : e0[i]? = some (some sv)) :
    Sta K cv A (e.set i (some sv)) σ H F ∧ Go e0 σ H0 F0 (e.set i (some sv)) σ H F ∧ ∀ j p, Owns (e.set i (some sv)) σ j p → Owns e0 σ i p ∨ Owns e σ j p := by
  have hl : e.length = e0.length := by have := g.len; rw [List.length_set] at this; exact this.symm
  have hi : i < e.length := by
    rw [hl]
    rcases Nat.lt_or_ge i e0.length with z | z
    · exact z
    · rw [List.getElem?_eq_none z] at h0; cases h0
  have cases2 : ∀ {j sw}, (e.set i (some sv))[j]? = some (some sw) → (j = i ∧ e0[j]? = some (some sw)) ∨ (j ≠ i ∧ e[j]? = some (some sw)) := fun {j sw} h => by
    by_cases hj : j = i
    · subst hj
      rw [List.getElem?_set_self hi] at h
      cases h
      exact .inl ⟨rfl, h0⟩
    · rw [List.getElem?_set_ne (Ne.symm hj)] at h
      exact .inr ⟨hj, h⟩
  have ownC : ∀ {j p}, Owns (e.set i (some sv)) σ j p → (j = i ∧ Owns e0 σ j p) ∨ (j ≠ i ∧ Owns e σ j p) := fun {j p} ⟨h1, ds, h2⟩ => by
    rcases h2 with h2 | h2
    · rcases cases2 h2 with ⟨a, b⟩ | ⟨a, b⟩
      · exact .inl ⟨a, h1, ds, .inl b⟩
      · exact .inr ⟨a, h1, ds, .inl b⟩
    · rcases cases2 h2 with ⟨a, b⟩ | ⟨a, b⟩
      · exact .inl ⟨a, h1, ds, .inr b⟩
      · exact .inr ⟨a, h1, ds, .inr b⟩
  have noW : ∀ {p}, Owns e0 σ i p → ∀ k, ¬ Owns (e0.set i none) σ k p := fun {p} o k o2 => o2.hide.1 (s0.dist k i p o2.hide.2 o)
  have cross : ∀ {j p}, Owns e0 σ i p → Owns e σ j p → False := fun {j p} o1 o2 => by
    obtain ⟨_, xs, hx⟩ := s0.owns o1
    rcases g.own j p o2 with z | ⟨k, z⟩
    · rw [hx] at z; cases z
    · exact noW o1 k z
  refine ⟨⟨s.sub, by rw [List.length_set, hl]; exact s0.len, fun j sw h => ?_, fun j k p o1 o2 => ?_, s.sx⟩, ⟨g.ext, fun a o h n t => g.frm a o h (fun k o2 => n k o2.hide.2) t, g.liv, fun a h1 h2 n => g.new a h1 h2 fun k o2 => n k o2.hide.2, fun j p o => ?_, fun j ds h => ?_, by rw [List.length_set, hl]⟩, fun j p o => ?_⟩
  · rcases cases2 h with ⟨hj, h2⟩ | ⟨hj, h2⟩
    · subst hj
      refine (s0.slot j sw h2).keep g.ext fun p xs w1 w2 w3 hn => ?_
      have o : Owns e0 σ j p := ⟨w1, by
        cases sw with
        | v d => exact hn.elim
        | th d => exact hn.elim
        | fn d => exact hn.elim
        | own ds => exact ⟨ds, .inl h2⟩
        | io ds => exact ⟨ds, .inr h2⟩⟩
      exact ⟨g.new p w2 (by rw [w3]; simp) (noW o), g.frm p _ w3 (noW o) nt_lst⟩
    · exact s.slot j sw h2
  · rcases ownC o1 with ⟨a1, b1⟩ | ⟨a1, b1⟩
    · rcases ownC o2 with ⟨a2, b2⟩ | ⟨a2, b2⟩
      · rw [a1, a2]
      · subst a1; exact (cross b1 b2).elim
    · rcases ownC o2 with ⟨a2, b2⟩ | ⟨a2, b2⟩
      · subst a2; exact (cross b2 b1).elim
      · exact s.dist j k p b1 b2
  · rcases ownC o with ⟨a1, b1⟩ | ⟨a1, b1⟩
    · exact .inr ⟨j, b1⟩
    · rcases g.own j p b1 with z | ⟨k, z⟩
      · exact .inl z
      · exact .inr ⟨k, z.hide.2⟩
  · by_cases hj : j = i
    · subst hj
      rw [h0] at h
      cases h
      exact ⟨ds, List.getElem?_set_self hi⟩
    · obtain ⟨d2, h2⟩ := g.iok j ds (by rw [List.getElem?_set_ne (Ne.symm hj)]; exact h)
      exact ⟨d2, by rw [List.getElem?_set_ne (Ne.symm hj)]; exact h2⟩
  · rcases ownC o with ⟨a1, b1⟩ | ⟨a1, b1⟩
    · subst a1; exact .inl b1
    · exact .inr b1
/-- a comprehension's walk, by what holds of the items at every later state -/
theorem compr_core {elt tg : Expr} {ifs : List Expr} {scope : Scope} {t : Tg} {xc xe : DI.X} (hg : inB X scope fun Y => TGo Y tg t) (hk : inB X scope fun Y => SBT Y G cv ifs xc) (he : inB X scope fun Y => SE Y W0 G cv elt xe)
    {A : AT} {e2 : En} {σ : L2.St} {H1 F1 : Hp} {items : List D} {J : L2.It} {Q : List D → En → Prop} {Q' : VK} (s1 : Sta X.K cv A e2 σ H1 F1)
    (wk : ∀ e' H' F', Go (wipeE e2 (tgs t)) (wipe σ (tgs t)) H1 F1 (wipeE e' (tgs t)) (wipe σ (tgs t)) H' F' → Sub F' H' → J.stop items.length H' ∧ (∀ i, i < items.length → J.go i H') ∧ ∀ i x H'', i < items.length → J.yld i H' x H'' → ∃ d F2, items[i]? = some d ∧ Res X.K H' F' (.v d) x H'' F2)
    (hz : items.length ≤ sizeLine) (w1 : eachW (fun d e K => tgW t [d] (wipeE e (tgs t)) fun e1 => wT G xc noR e1 fun k e2 => if k = true then wE G xe noR e2 fun re e3 => settle e3 re fun d' e4 => K [d'] e4 else K [] e2) items [] e2 fun ds e3 => Q ds e3)
    (k : ∀ accD e D acc H' F', Sta X.K cv A (backE e2 e (tgs t)) σ H' F' → Go e2 σ H1 F1 (backE e2 e (tgs t)) σ H' F' → F' D = none → H' D = some (.lst acc) → RepL X.K F' acc accD → H1 D = none → (∀ i, ¬ Owns (backE e2 e (tgs t)) σ i D) → Q accD e → Q' (.ref D) H') :
    tLc (fun _ _ R => R J H1) (bG X scope tg) (bT X scope ifs) (bX X scope elt) (tgs t) σ H1 Q' := by
  intro D hD
  have hDF : F1 D = none := s1.free hD
  have noD : ∀ i, ¬ Owns e2 σ i D := s1.noOwn hD
  refine ⟨fun i m H' => m = items.length - i ∧ i ≤ items.length ∧ ∃ e F' acc accD, Sta X.K cv A (wipeE e (tgs t)) (wipe σ (tgs t)) H' F' ∧ Go (wipeE e2 (tgs t)) (wipe σ (tgs t)) H1 F1 (wipeE e (tgs t)) (wipe σ (tgs t)) H' F' ∧
      H' D = some (.lst acc) ∧ RepL X.K F' acc accD ∧ F' D = none ∧ acc.length ≤ i ∧ (∀ i, ¬ Owns (wipeE e (tgs t)) (wipe σ (tgs t)) i D) ∧
      eachW (fun d e K => tgW t [d] (wipeE e (tgs t)) fun e1 => wT G xc noR e1 fun k e2 => if k = true then wE G xe noR e2 fun re e3 => settle e3 re fun d' e4 => K [d'] e4 else K [] e2) (items.drop i) accD e fun ds e3 => Q ds e3, ?_, ?_⟩
  · obtain ⟨s2, g2⟩ := (s1.wipe (vs := tgs t)).mkL (.lst []) hD
    exact ⟨_, rfl, Nat.zero_le _, e2, F1, [], [], s2, g2, upd_same, .nil, hDF, Nat.le_refl _, fun i o => noD i o.wipe.2, w1⟩
  · rintro i m H' ⟨rfl, hi', e, F', acc, accD, s2, g2, hA, rA, fA, lA, nA, w2⟩
    obtain ⟨st, go, yl⟩ := wk e H' F' g2 s2.sub
    rcases Nat.lt_or_ge i items.length with hlt | hge
    · refine .inr ⟨go i hlt, fun H2 => ∃ e F2 acc accD, Sta X.K cv A (wipeE e (tgs t)) (wipe σ (tgs t)) H2 F2 ∧ Go (wipeE e2 (tgs t)) (wipe σ (tgs t)) H1 F1 (wipeE e (tgs t)) (wipe σ (tgs t)) H2 F2 ∧
        H2 D = some (.lst acc) ∧ RepL X.K F2 acc accD ∧ F2 D = none ∧ acc.length ≤ i + 1 ∧ (∀ i, ¬ Owns (wipeE e (tgs t)) (wipe σ (tgs t)) i D) ∧
        eachW (fun d e K => tgW t [d] (wipeE e (tgs t)) fun e1 => wT G xc noR e1 fun k e2 => if k = true then wE G xe noR e2 fun re e3 => settle e3 re fun d' e4 => K [d'] e4 else K [] e2) (items.drop (i + 1)) accD e fun ds e3 => Q ds e3,
        fun H2 ⟨e, F2, acc, accD, a⟩ => ⟨items.length - (i + 1), by omega, rfl, hlt, e, F2, acc, accD, a⟩, fun x H2 hy => ?_⟩
      obtain ⟨d, F2, hd, rs⟩ := yl i x H2 hlt hy
      obtain ⟨s3, g3, rv⟩ := s2.res (e0 := wipeE e (tgs t)) .refl rs
      have rx : Rep X.K F2 x d := rv
      have g3D : H2 D = some (.lst acc) := g3.frm D _ hA nA nt_lst
      have f3D : F2 D = none := g3.new D fA (by rw [hA]; simp) nA
      have w3 : items.drop i = d :: items.drop (i + 1) := by
        rw [List.drop_eq_getElem_cons hlt]
        congr 1
        rw [List.getElem?_eq_getElem hlt] at hd; exact Option.some.inj hd
      rw [w3] at w2
      intro sb Hb C cl fp
      refine hg sb Hb C cl fp cv A (wipeE e (tgs t)) (wipeE e (tgs t)) (wipe σ (tgs t)) (wipe σ (tgs t)) H' F' H2 F2 d x _ _ s3 g3 rx w2 fun e4 σ4 s4 g4 ch ln w4 => ?_
      have nA4 : ∀ i, ¬ Owns e4 σ4 i D := fun i o => by
        rcases g4.own i D o with z | ⟨j, z⟩
        · rw [hA] at z; cases z
        · exact nA j z
      have wip : wipe σ4 (tgs t) = wipe (wipe σ (tgs t)) (tgs t) ∧ wipe (wipe σ (tgs t)) (tgs t) = wipe σ (tgs t) := by
        have ext : ∀ (a b : L2.St), a.length = b.length → (∀ j, j ∉ tgs t → a[j]? = b[j]?) → wipe a (tgs t) = wipe b (tgs t) := fun a b hl hh => by
          refine List.ext_getElem? fun j => ?_
          by_cases hj : j ∈ tgs t
          · have wz : ∀ {vs : List Nat} {a : L2.St}, j ∈ vs → (wipe a vs)[j]? = if j < a.length then some none else none := by
              intro vs
              induction vs with
              | nil => intro a h; cases h
              | cons v vs ih =>
                intro a h
                unfold wipe
                by_cases hv : j = v
                · subst hv
                  by_cases hl2 : j < a.length
                  · rw [List.getElem?_set_self (by rw [wipe_length]; exact hl2), if_pos hl2]
                  · rw [List.getElem?_eq_none (by rw [List.length_set, wipe_length]; omega), if_neg hl2]
                · rw [List.getElem?_set_ne (Ne.symm hv)]
                  exact ih ((List.mem_cons.mp h).resolve_left hv)
            rw [wz hj, wz hj, hl]
          · rw [wipe_get hj, wipe_get hj]; exact hh j hj
        exact ⟨ext _ _ ln ch, ext _ _ (wipe_length _ _) (fun j hj => wipe_get hj)⟩
      refine ⟨wip.1.trans wip.2, ?_⟩
      intro sb Hb C cl fp
      refine hk sb Hb C cl fp A e4 σ4 H2 F2 _ _ s4 w4 fun b e5 H5 F5 s5 g5 w5 => ?_
      have h5D : H5 D = some (.lst acc) := g5.frm D _ g3D nA4 nt_lst
      have f5D : F5 D = none := g5.new D f3D (by rw [g3D]; simp) nA4
      have nA5 : ∀ i, ¬ Owns e5 σ4 i D := fun i o => by
        rcases g5.own i D o with z | ⟨j, z⟩
        · rw [g3D] at z; cases z
        · exact nA4 j z
      have fin : ∀ {e6 : En} {H6 F6 : Hp}, Sta X.K cv A e6 σ4 H6 F6 → Go (wipeE e (tgs t)) (wipe σ (tgs t)) H' F' e6 σ4 H6 F6 → Sta X.K cv A (wipeE e6 (tgs t)) (wipe σ (tgs t)) H6 F6 ∧ Go (wipeE e2 (tgs t)) (wipe σ (tgs t)) H1 F1 (wipeE e6 (tgs t)) (wipe σ (tgs t)) H6 F6 := fun {e6 H6 F6} s6 g6 => by
        have q := s6.wipe (vs := tgs t)
        rw [wip.1.trans wip.2] at q
        refine ⟨q, g2.trans ⟨g6.ext, g6.frm, g6.liv, g6.new, fun j p o => g6.own j p ?_, fun j ds h => ?_, by have := g6.len; simp only [wipeE_len] at this ⊢; exact this⟩⟩
        · have : Owns (wipeE e6 (tgs t)) (wipe σ4 (tgs t)) j p := by rw [wip.1.trans wip.2]; exact o
          exact this.wipe.2
        · obtain ⟨hj, _⟩ := wipeE_some h
          obtain ⟨d2, h2⟩ := g6.iok j ds h
          exact ⟨d2, by rw [wipeE_get, if_neg hj]; exact h2⟩
      cases b with
      | false =>
        obtain ⟨q1, q2⟩ := fin s5 (g4.trans g5)
        rw [if_neg Bool.false_ne_true] at w5
        simp only [List.append_nil] at w5
        refine ⟨e5, F5, acc, accD, q1, q2, h5D, rA.mono ((g4.trans g5).ext), f5D, Nat.le_succ_of_le lA, fun i o => ?_, w5⟩
        have o' : Owns (wipeE e5 (tgs t)) (wipe σ4 (tgs t)) i D := by rw [wip.1.trans wip.2]; exact o
        exact nA5 i o'.wipe.2
      | true =>
        intro sb Hb C cl fp
        refine he sb Hb C cl fp noR A e5 σ4 H5 F5 _ _ s5 w5 noKR fun re e6 y H6 F6 s6 g6 rv6 w6 => ?_
        have h6D : H6 D = some (.lst acc) := g6.frm D _ h5D nA5 nt_lst
        have f6D : F6 D = none := g6.new D f5D (by rw [h5D]; simp) nA5
        have nA6 : ∀ i, ¬ Owns e6 σ4 i D := fun i o => by
          rcases g6.own i D o with z | ⟨j, z⟩
          · rw [h5D] at z; cases z
          · exact nA5 j z
        obtain ⟨d', e7, F7, w7, s7, g7, r7⟩ := s6.settle g6 rv6 w6
        have f7D : F7 D = none := g7.new D f5D (by rw [h5D]; simp) nA5
        have nA7 : ∀ i, ¬ Owns e7 σ4 i D := fun i o => by
          rcases g7.own i D o with z | ⟨j, z⟩
          · rw [h5D] at z; cases z
          · exact nA5 j z
        have hz' : acc.length < sizeLine := by omega
        refine ⟨acc, h6D, hz', ?_⟩
        -- the item is laid onto the new list
        have s8 : Sta X.K cv A e7 σ4 (upd H6 D (.lst (acc ++ [y]))) F7 := by
          refine ⟨fun a u z => ?_, s7.len, fun j sv h => (s7.slot j sv h).keep .refl fun p xs w1 w2 w3 hn => ?_, s7.dist, s7.sx.upd (.inr ⟨_, h6D⟩) nt_lst⟩
          · rw [upd_ne (by rintro rfl; rw [f7D] at z; cases z)]; exact s7.sub _ _ z
          · have ne : p ≠ D := by
              rintro rfl
              refine nA7 j ⟨w1, ?_⟩
              cases sv with
              | v d => exact hn.elim
              | th d => exact hn.elim
              | fn d => exact hn.elim
              | own ds => exact ⟨ds, .inl h⟩
              | io ds => exact ⟨ds, .inr h⟩
            rw [upd_ne ne]; exact ⟨w2, w3⟩
        have g8 : Go (wipeE e (tgs t)) (wipe σ (tgs t)) H' F' e7 σ4 H6 F7 := (g4.trans g5).trans g7
        obtain ⟨q1, q2⟩ := fin s7 g8
        have q1' : Sta X.K cv A (wipeE e7 (tgs t)) (wipe σ (tgs t)) (upd H6 D (.lst (acc ++ [y]))) F7 := by
          have q := s8.wipe (vs := tgs t)
          rw [wip.1.trans wip.2] at q; exact q
        refine ⟨e7, F7, acc ++ [y], accD ++ [d'], q1', ⟨q2.ext, fun a u h n t => ?_, fun a z => ?_, q2.new, q2.own, q2.iok, q2.len⟩, upd_same, (rA.mono g8.ext).append (.cons r7 .nil), f7D, by rw [List.length_append]; simp; exact lA, fun i o => ?_, w7⟩
        · have ne : a ≠ D := by rintro rfl; rw [hD] at h; cases h
          rw [upd_ne ne]; exact q2.frm a u h n t
        · by_cases ha : a = D
          · subst ha; exact hD
          · rw [upd_ne ha] at z; exact q2.liv a z
        · have o' : Owns (wipeE e7 (tgs t)) (wipe σ4 (tgs t)) i D := by rw [wip.1.trans wip.2]; exact o
          exact nA7 i o'.wipe.2
    · have he' : i = items.length := by omega
      subst he'
      refine .inl ⟨st, ?_⟩
      rw [List.drop_length] at w2
      obtain ⟨s9, g9, ow⟩ := s1.unwipe s2 g2
      refine k accD e D acc H' F' s9 g9 fA hA rA hD (fun i o => ?_) w2
      obtain ⟨o1, ds, o2⟩ := o
      by_cases hj : i ∈ tgs t
      · have hl : e.length = e2.length := by have := g2.len; rw [wipeE_len, wipeE_len] at this; exact this.symm
        rw [backE_get hl, if_pos hj] at o2
        exact noD i ⟨o1, ds, o2⟩
      · have hl : e.length = e2.length := by have := g2.len; rw [wipeE_len, wipeE_len] at this; exact this.symm
        rw [backE_get hl, if_neg hj] at o2
        exact nA i ⟨by rw [wipe_get hj]; exact o1, ds, by rw [wipeE_get, if_neg hj]; exact o2⟩
/-- [elt for target in name if ..], name a list of one's own that stays so -/
theorem se_comprB {i : Nat} {x : Str} {p0 : Pos} {elt tg : Expr} {ifs : List Expr} {scope : Scope} {own : List (Str × Nat)} {pos : Pos} {t : Tg} {xc xe : DI.X} (hc : X.calm = true) (hN : X.N.Nodup) (ok : BlkOk X.N X.env.scope scope own) (ht : tgs t = own.map (·.2))
    (hs : ∀ y, foldedSetIterable (.Name x p0) X.env y = pure y) (hx : SE X W G cv (.Name x p0) (.var i)) (hg : inB X scope fun Y => TGo Y tg t) (hk : inB X scope fun Y => SBT Y G cv ifs xc) (he : inB X scope fun Y => SE Y W0 G cv elt xe) :
    SE X W G cv (.ListComp elt [⟨tg, .Name x p0, ifs, 0⟩] scope pos) (.cmprB i t xc xe) := by
  intro R A env σ H F Q Q' s w kr k
  refine pX_of (pe_lc (te := bX X scope elt) (g := bG X scope tg) (tt := bT X scope ifs) hc hN pi_p ok (fun s H C cl fp => ⟨fun pins st σ H v u Q I r h => h s _ C cl fp pins st u I r⟩) (fun s H C cl fp => ⟨fun pins st σ H Q I h => h s _ C cl fp pins st I⟩) (fun s H C cl fp => ⟨fun pins st σ H Q I h => h s _ C cl fp pins st I⟩) hs) ?_
  rw [← ht]
  simp only [br_iff, ls_iff, nrm_iff, bk_iff, sf_iff, wE] at w
  split at w
  · rename_i ds hi
    intro pins st I
    have run := hx R A env σ H F (fun r e1 => r = .bor i ∧ e1 = env) (fun v H1 => ∀ (pins : List (Addr × Obj)) (s1 : Shared) (u : Value), Inv X pins σ H1 s1 → RelV v u → wpAny (model X.prog X.w) X.A (pyIter u) (PIE X pins σ tg fun J H1 => tLc (fun _ _ R => R J H1) (bG X scope tg) (bT X scope ifs) (bX X scope elt) (tgs t) σ H1 Q') X.xe s1) s
      (by simp only [wE, hi, and_self]) kr fun r e1 v H1 F1 s1 g1 rv w1 pins s2 u I2 ru => by
      obtain ⟨rfl, rfl⟩ := w1
      obtain ⟨p, xs, h1, h2, h3, h4⟩ := s1.slot i _ hi
      have rv' : σ[i]? = some (some v) := rv
      rw [rv'] at h1
      cases h1
      cases ru
      have oi : Owns e1 σ i p := ⟨rv', ds, .inl hi⟩
      obtain ⟨_, _, _, z⟩ := I2.list (.inl (.of h3))
      refine iter_l I2 (.inl (.of h3)) ?_
      refine compr_core (Q := fun acc e3 => Q (.own acc) ((backE (e1.set i none) e3 (tgs t)).set i (some (.own ds)))) hg hk he (s1.hide i) (fun e' H' F' g sb => ?_) (by rw [← h4.length]; exact z) w fun accD e D acc H' F' s9 g9 fD hD rD hD1 nD w9 => ?_
      · have hp : H' p = some (.lst xs) := g.frm p _ h3 (fun j o => o.wipe.2.hide.1 (s1.dist j i p o.wipe.2.hide.2 oi)) nt_lst
        have r := h4.mono g.ext
        have q1 : SqL X.K H' p xs := .inl (.of hp)
        refine ⟨⟨xs, q1, by rw [r.length]; exact Nat.le_refl _⟩, fun i hi => ?_, fun i x H'' hi ⟨e, y⟩ => ?_⟩
        · have : i < xs.length := by rw [r.length]; exact hi
          exact ⟨xs, xs[i], q1, by simp [this]⟩
        · subst e
          obtain ⟨d, z2, z3⟩ := r.getV (y xs q1)
          exact ⟨d, _, z2, .same z3⟩
      · obtain ⟨s10, g10, ow⟩ := s1.unhide s9 g9 hi
        refine k (.own accD) _ (.ref D) H' F' s10 (g1.trans g10) ⟨D, acc, rfl, fD, hD, rD, g1.liv D hD1, fun j o => ?_⟩ w9
        rcases ow j D o with z | z
        · obtain ⟨_, ys, hy⟩ := s1.owns z
          rw [hD1] at hy; cases hy
        · exact nD j z
    exact thn (run pins st I) fun u s1 ⟨v, H1, I1, r1, q⟩ => q pins s1 u I1 r1
  · exact w.elim
end
end DI
namespace DI
open PySem L2
open PyProof.Rows hiding St
/-- what is wanted of exceptions, as statements go on -/
def KS (X : Cx) (W : WX) (cv : CV) (A : AT) (R : Nat → En → Prop) (env : En) (σ : L2.St) (H F : Hp) : Prop :=
  ∀ c env' σ' H' F', Sta X.K cv A env' σ' H' F' → Go env σ H F env' σ' H' F' → R c env' → W (cv c) none σ' H'
theorem KS.kr {X : Cx} {W : WX} {cv : CV} {A : AT} {R : Nat → En → Prop} {env : En} {σ : L2.St} {H F : Hp} (k : KS X W cv A R env σ H F) : KR X W cv A R env σ H F := fun c e H' F' s g r => k c e σ H' F' s g r
theorem KS.go {X : Cx} {W : WX} {cv : CV} {A : AT} {R : Nat → En → Prop} {env env1 : En} {σ σ1 : L2.St} {H F H1 F1 : Hp} (k : KS X W cv A R env σ H F) (g : Go env σ H F env1 σ1 H1 F1) : KS X W cv A R env1 σ1 H1 F1 :=
  fun c e' σ' H' F' s g' r => k c e' σ' H' F' s (g.trans g') r
/-- what is handed back -/
def RtOk (K : Fg) (H : Hp) (e' : En) (σ' : L2.St) (H' F' : Hp) (x : L2.V) : SV → Prop
  | .v d => Rep K F' x d
  | .own ds => ∃ p xs, x = .ref p ∧ F' p = none ∧ H' p = some (.lst xs) ∧ RepL K F' xs ds ∧ (H p = none ∨ ∃ (i : Nat) (d : List D), e'[i]? = some (some (SV.own d)) ∧ σ'[i]? = some (some (L2.V.ref p)))
  | .io _ => False
  | .th _ => False
  | .fn _ => False
theorem RtOk.back {K : Fg} {H0 F0 H1 F1 : Hp} {e0 e1 e' : En} {σ0 σ1 σ' : L2.St} {H' F' : Hp} {x : L2.V} {r : SV} (g : Go e0 σ0 H0 F0 e1 σ1 H1 F1) (h : RtOk K H1 e' σ' H' F' x r) : RtOk K H0 e' σ' H' F' x r := by
  cases r with
  | v d => exact h
  | io d => exact h
  | th d => exact h
  | fn n => exact h
  | own ds =>
    obtain ⟨p, xs, h1, h2, h3, h4, h5⟩ := h
    exact ⟨p, xs, h1, h2, h3, h4, h5.imp (g.liv p) id⟩
/-- where a statement ends -/
def EndOk (K : Fg) (D : Ends) (H : Hp) (o : Out) (e' : En) (σ' : L2.St) (H' F' : Hp) : Prop := match o with
  | .nx => D.nx σ' H'
  | .bk => D.bk σ' H'
  | .ct => D.ct σ' H'
  | .rt r => ∀ x, RtOk K H e' σ' H' F' x r → D.rt x H'
section
variable (X : Cx) (W : WX) (G : Nat → Fn) (cv : CV)
def pS (st : Stmt) : TS := fun D σ H => ∀ (pins : List (Addr × Obj)) (s : Shared), Inv X pins σ H s → wpAny (model X.prog X.w) X.A (exec st X.env) (SP X pins D) X.xe s
def pSs (st : List Stmt) : TS := fun D σ H => ∀ (pins : List (Addr × Obj)) (s : Shared), Inv X pins σ H s → wpAny (model X.prog X.w) X.A (execs st X.env) (SP X pins D) X.xe s
def SS (st : Stmt) (x : S) : Prop := ∀ (R : Nat → En → Prop) (A : AT) (env : En) (σ : L2.St) (H F : Hp) (Q : Out → En → Prop) (D : Ends), Sta X.K cv A env σ H F → wS G x R env Q → KS X W cv A R env σ H F →
  (∀ o env' σ' H' F', Sta X.K cv A env' σ' H' F' → Go env σ H F env' σ' H' F' → Q o env' → EndOk X.K D H o env' σ' H' F') → pS X st D σ H
def SSs (st : List Stmt) (x : S) : Prop := ∀ (R : Nat → En → Prop) (A : AT) (env : En) (σ : L2.St) (H F : Hp) (Q : Out → En → Prop) (D : Ends), Sta X.K cv A env σ H F → wS G x R env Q → KS X W cv A R env σ H F →
  (∀ o env' σ' H' F', Sta X.K cv A env' σ' H' F' → Go env σ H F env' σ' H' F' → Q o env' → EndOk X.K D H o env' σ' H' F') → pSs X st D σ H
end
section
variable {X : Cx} {W : WX} {G : Nat → Fn} {cv : CV} {pos : Pos}
theorem ps_p {st : Stmt} : PS X st (pS X st) := ⟨fun pins s _ _ _ I h => h pins s I⟩
theorem pS_of {st : Stmt} {t : TS} {σ : L2.St} {H : Hp} {D : Ends} (p : PS X st t) (h : t D σ H) : pS X st D σ H := fun pins s I => p.run pins s σ H D I h
theorem pss_p {st : List Stmt} : PSs X st (pSs X st) := ⟨fun pins s _ _ _ I h => h pins s I⟩
theorem pSs_of {st : List Stmt} {t : TS} {σ : L2.St} {H : Hp} {D : Ends} (p : PSs X st t) (h : t D σ H) : pSs X st D σ H := fun pins s I => p.run pins s σ H D I h
theorem sss_nil : SSs X W G cv [] .skip := by
  intro R A env σ H F Q D s w kr k
  simp only [br_iff, ls_iff, nrm_iff, bk_iff, sf_iff, wS] at w
  exact pSs_of pss_nil (k .nx env σ H F s .refl w)
theorem sss_cons {st : Stmt} {rest : List Stmt} {a b : S} (h1 : SS X W G cv st a) (h2 : SSs X W G cv rest b) : SSs X W G cv (st :: rest) (.seq a b) := by
  intro R A env σ H F Q D s w kr k
  simp only [br_iff, ls_iff, nrm_iff, bk_iff, sf_iff, wS] at w
  refine pSs_of (pss_cons ps_p pss_p) ?_
  refine h1 R A env σ H F _ _ s w kr fun o e1 σ1 H1 F1 s1 g1 w1 => ?_
  cases o with
  | nx =>
    refine h2 R A e1 σ1 H1 F1 _ D s1 w1 (kr.go g1) fun o2 e2 σ2 H2 F2 s2 g2 w2 => ?_
    have z := k o2 e2 σ2 H2 F2 s2 (g1.trans g2) w2
    cases o2 with
    | rt r => exact fun x hx => z x (hx.back g1)
    | _ => exact z
  | bk => exact k _ _ _ _ _ s1 g1 w1
  | ct => exact k _ _ _ _ _ s1 g1 w1
  | rt r => exact k _ _ _ _ _ s1 g1 w1
theorem ss_pass : SS X W G cv (.Pass pos) .skip := by
  intro R A env σ H F Q D s w kr k
  simp only [br_iff, ls_iff, nrm_iff, bk_iff, sf_iff, wS] at w
  exact pS_of ps_pass (k .nx env σ H F s .refl w)
theorem ss_break : SS X W G cv (.Break pos) .brk := by
  intro R A env σ H F Q D s w kr k
  simp only [br_iff, ls_iff, nrm_iff, bk_iff, sf_iff, wS] at w
  exact pS_of ps_break (k .bk env σ H F s .refl w)
theorem ss_cont : SS X W G cv (.Continue pos) .cnt := by
  intro R A env σ H F Q D s w kr k
  simp only [br_iff, ls_iff, nrm_iff, bk_iff, sf_iff, wS] at w
  exact pS_of ps_continue (k .ct env σ H F s .refl w)
theorem ss_expr {e : Expr} {x : DI.X} (hs : swapsWith e none pos.line X.env = pure false) (he : SE X W G cv e x) : SS X W G cv (.Expr e pos) (.expr x) := by
  intro R A env σ H F Q D s w kr k
  simp only [br_iff, ls_iff, nrm_iff, bk_iff, sf_iff, wS] at w
  refine pS_of (ps_expr pe_p hs) ?_
  exact he R A env σ H F _ _ s w kr.kr fun r e1 x H1 F1 s1 g1 rv1 w1 => k .nx e1 σ H1 F1 s1 g1 w1
theorem ss_ret {e : Expr} {x : DI.X} (he : SE X W G cv e x) : SS X W G cv (.Return (some e) pos) (.ret x) := by
  intro R A env σ H F Q D s w kr k
  simp only [br_iff, ls_iff, nrm_iff, bk_iff, sf_iff, wS] at w
  refine pS_of (ps_ret pe_p) ?_
  refine he R A env σ H F _ _ s w kr.kr fun r e1 x H1 F1 s1 g1 rv1 w1 => ?_
  cases r with
  | v d => exact k (.rt (.v d)) e1 σ H1 F1 s1 g1 w1 x rv1
  | own ds =>
    obtain ⟨p, xs, h1, h2, h3, h4, h5, h6⟩ := rv1
    exact k (.rt (.own ds)) e1 σ H1 F1 s1 g1 w1 x ⟨p, xs, h1, h2, h3, h4, .inl h5⟩
  | bor i =>
    have rv' : σ[i]? = some (some x) := rv1
    unfold retR at w1
    simp only at w1
    split at w1
    · rename_i ds he
      obtain ⟨p, xs, h1, h2, h3, h4⟩ := s1.slot i _ he
      rw [rv'] at h1; cases h1
      exact k (.rt (.own ds)) e1 σ H1 F1 s1 g1 w1 _ ⟨p, xs, rfl, h2, h3, h4, .inr ⟨i, ds, he, rv'⟩⟩
    · rename_i d he
      obtain ⟨y, h1, h2⟩ := s1.slot i _ he
      rw [rv'] at h1; cases h1
      exact k (.rt (.v d)) e1 σ H1 F1 s1 g1 w1 x h2
    · exact w1.elim
theorem ss_retN : SS X W G cv (.Return none pos) (.ret (.c .none)) := by
  intro R A env σ H F Q D s w kr k
  simp only [br_iff, ls_iff, nrm_iff, bk_iff, sf_iff, wS, wE, retR] at w
  exact pS_of ps_retN (k (.rt (.v .none)) env σ H F s .refl w .non .non)
theorem ss_if {c : Expr} {a b : List Stmt} {xc : DI.X} {sa sb : S} (hc : ST X W G cv c xc) (ha : SSs X W G cv a sa) (hb : SSs X W G cv b sb) : SS X W G cv (.If c a b pos) (.ifs xc sa sb) := by
  intro R A env σ H F Q D s w kr k
  simp only [br_iff, ls_iff, nrm_iff, bk_iff, sf_iff, wS] at w
  refine pS_of (ps_if pt_p pss_p pss_p) ?_
  refine hc R A env σ H F _ _ s w kr.kr fun kk e1 H1 F1 s1 g1 w1 => ?_
  have fin : ∀ o2 e2 σ2 H2 F2, Sta X.K cv A e2 σ2 H2 F2 → Go e1 σ H1 F1 e2 σ2 H2 F2 → Q o2 e2 → EndOk X.K D H1 o2 e2 σ2 H2 F2 := fun o2 e2 σ2 H2 F2 s2 g2 w2 => by
    have z := k o2 e2 σ2 H2 F2 s2 (g1.trans g2) w2
    cases o2 with
    | rt r => exact fun x hx => z x (hx.back g1)
    | _ => exact z
  cases kk with
  | true => exact ha R A e1 σ H1 F1 Q D s1 w1 (kr.go g1) fin
  | false => exact hb R A e1 σ H1 F1 Q D s1 w1 (kr.go g1) fin
/-- a name takes an outcome; another target data -/
def TRo (X : Cx) (tg : Expr) (t : Tg) : Prop := ∀ (cv : CV) (A : AT) (e0 e : En) (σ0 σ : L2.St) (H0 F0 H F : Hp) (r : RV) (v : L2.V) (Q : En → Prop) (D : L2.St → Hp → Prop), Sta X.K cv A e σ H F → Go e0 σ H0 F0 e σ H F → Rv X.K H0 e σ H F v r → tgR t r e Q →
  (∀ e' σ' F', Sta X.K cv A e' σ' H F' → Go e0 σ H0 F0 e' σ' H F' → Q e' → D σ' H) → pG X tg v σ H D
theorem trO_n {i : Nat} {x : Str} {p : Pos} (hN : X.N.Nodup) (hi : X.N[i]? = some x) (hx : Loc X.env.scope x) (hf : X.fn x = true ∨ X.env.scope.names.lookup x = some .local) : TRo X (.Name x p) (.n i) := by
  intro cv A e0 e σ0 σ H0 F0 H F r v Q D s g rv w k
  refine pG_of (pg_name hN hi hx hf) ?_
  have other : settle e r (fun d e' => putS e' i (.v d) Q) → D (σ.set i (some v)) H := fun w => by
    obtain ⟨d, e2, F2, q, s2, g2, rd⟩ := s.settle g rv w
    obtain ⟨e3, q3, s3, g3⟩ := s2.putV g2 rd q
    exact k e3 _ F2 s3 g3 q3
  cases r with
  | own ds =>
    obtain ⟨e3, q3, s3, g3⟩ := s.putO g rv (show putS e i (.own ds) Q from w)
    exact k e3 _ F s3 g3 q3
  | v d => exact other w
  | bor j => exact other w
theorem trO_t {tg : Expr} {t : Tg} (hn : ∀ i, t ≠ .n i) (h : TGo X tg t) : TRo X tg t := by
  intro cv A e0 e σ0 σ H0 F0 H F r v Q D s g rv w k
  have w' : settle e r fun d e' => tgW t [d] e' Q := by
    unfold tgR at w
    split at w
    · exact absurd rfl (hn _)
    · exact w
  obtain ⟨d, e2, F2, q, s2, g2, rd⟩ := s.settle g rv w'
  exact h cv A e0 e2 σ σ H0 F0 H F2 d v Q D s2 g2 rd q fun e' σ' s' g' _ _ q' => k e' σ' F2 s' g' q'
theorem ss_asg {tg e : Expr} {t : Tg} {x : DI.X} (hs : swapsWithSole [tg] e pos.line X.env = pure false) (hw : swappedStores [tg] e X.env = pure none) (h1 : (assignEach [tg] X.env).map (·.2) = [assign tg X.env]) (he : SE X W G cv e x) (ht : TRo X tg t) : SS X W G cv (.Assign [tg] e pos) (.asg t x) := by
  intro R A env σ H F Q D s w kr k
  simp only [br_iff, ls_iff, nrm_iff, bk_iff, sf_iff, wS] at w
  refine pS_of (ps_asg pe_p pg_p hs hw h1) ?_
  refine he R A env σ H F _ _ s w kr.kr fun r e1 v H1 F1 s1 g1 rv1 w1 => ?_
  exact ht cv A env e1 σ σ H F H1 F1 r v _ _ s1 g1 rv1 w1 fun e2 σ2 F2 s2 g2 w2 => k .nx e2 σ2 H1 F2 s2 g2 w2
end
end DI
namespace DI
open PySem L2
open PyProof.Rows hiding St
section
variable {X : Cx} {W : WX} {G : Nat → Fn} {cv : CV} {pos : Pos}
/-- name = [..] on one line -/
theorem ss_setc {i : Nat} {y : Str} {py cpos : Pos} {elt tg iter : Expr} {ifs : List Expr} {scope : Scope} {own : List (Str × Nat)} {t : Tg} {xi xc xe : DI.X} (hc : X.calm = true) (hN : X.N.Nodup) (hy : X.N[i]? = some y) (hyl : X.env.scope.names.lookup y = some .local)
    (hsw : swapsWith (.ListComp elt [⟨tg, iter, ifs, 0⟩] scope cpos) (some (.Name y py)) pos.line X.env = pure true) (ok : BlkOk X.N X.env.scope scope own) (ht : tgs t = own.map (·.2))
    (hs : ∀ x, foldedSetIterable iter X.env x = pure x) (hi : SI X W G cv tg iter xi) (hg : inB X scope fun Y => TGo Y tg t) (hk : inB X scope fun Y => SBT Y G cv ifs xc) (he : inB X scope fun Y => SE Y W0 G cv elt xe) :
    SS X W G cv (.Assign [.Name y py] (.ListComp elt [⟨tg, iter, ifs, 0⟩] scope cpos) pos) (.asg (.n i) (.cmpr t xi xc xe)) := by
  intro R A env σ H F Q D s w kr k
  simp only [br_iff, ls_iff, nrm_iff, bk_iff, sf_iff, wS] at w
  refine pS_of (ps_setLc (te := bX X scope elt) (g := bG X scope tg) (tt := bT X scope ifs) hc hN hy hyl hsw pi_p ok (fun s H C cl fp => ⟨fun pins st σ H v u Q I r h => h s _ C cl fp pins st u I r⟩) (fun s H C cl fp => ⟨fun pins st σ H Q I h => h s _ C cl fp pins st I⟩) (fun s H C cl fp => ⟨fun pins st σ H Q I h => h s _ C cl fp pins st I⟩) hs) ?_
  rw [← ht]
  refine compr_read hi hg hk he R A env σ H F _ _ s w kr.kr fun r e1 v H1 F1 s1 g1 rv1 w1 => ?_
  have other : settle e1 r (fun d e' => putS e' i (.v d) fun e2 => Q .nx e2) → D.nx (σ.set i (some v)) H1 := fun w => by
    obtain ⟨d, e2, F2, q, s2, g2, rd⟩ := s1.settle g1 rv1 w
    obtain ⟨e3, q3, s3, g3⟩ := s2.putV g2 rd q
    exact k .nx e3 _ H1 F2 s3 g3 q3
  cases r with
  | own ds =>
    obtain ⟨e3, q3, s3, g3⟩ := s1.putO g1 rv1 (show putS e1 i (.own ds) (fun e2 => Q .nx e2) from w1)
    exact k .nx e3 _ H1 F1 s3 g3 q3
  | v d => exact other w1
  | bor j => exact other w1
/-- a, b = x, y with two local names -/
theorem ss_par2 {i j : Nat} {x y : Str} {a b : Expr} {xs : DI.X} {px py pt : Pos} {kt k2 : Nat} {pt2 : Pos} (hc : X.calm = true) (hN : X.N.Nodup) (hi : X.N[i]? = some x) (hj : X.N[j]? = some y) (hij : i ≠ j)
    (hx : X.env.scope.names.lookup x = some .local) (hy : X.env.scope.names.lookup y = some .local) (ha : SAL X W G cv [a, b] xs)
    (hw : swappedStores [.Tuple [.Name x px, .Name y py] kt pt] (.Tuple [a, b] k2 pt2) X.env = pure (some [x, y])) :
    SS X W G cv (.Assign [.Tuple [.Name x px, .Name y py] kt pt] (.Tuple [a, b] k2 pt2) pos) (.par (.cons (.n i) (.cons (.n j) .nil)) xs) := by
  intro R A env σ H F Q D s w kr k
  simp only [br_iff, ls_iff, nrm_iff, bk_iff, sf_iff, wS] at w
  refine pS_of (ps_par hc hN hi hj hij hx hy pa_p hw rfl) ?_
  refine ha R A [] env σ H F _ _ s w kr.kr fun rs e1 vs H1 F1 s1 g1 f1 hl w1 => ?_
  split at w1
  · rename_i ds e
    have r := resD_rep f1 e
    cases r with
    | nil => cases hl
    | cons r1 r2 =>
      cases r2 with
      | nil => cases hl
      | cons r2 r3 =>
        cases r3 with
        | cons _ _ => cases hl
        | nil =>
          rename_i v d v2 d2
          refine ⟨v, v2, rfl, ?_⟩
          obtain ⟨e2, q2, s2, g2⟩ := s1.putV g1 r1 (show putS e1 i (.v d) (fun e2 => putS e2 j (.v d2) fun e3 => Q .nx e3) from w1)
          obtain ⟨e3, q3, s3, g3⟩ := s2.putV g2 r2 q2
          exact k .nx e3 _ H1 F1 s3 g3 q3
  · exact w1.elim
theorem ss_par3 {i j l : Nat} {x y z : Str} {a b c : Expr} {xs : DI.X} {px py pz pt : Pos} {kt k2 : Nat} {pt2 : Pos} (hc : X.calm = true) (hN : X.N.Nodup) (hi : X.N[i]? = some x) (hj : X.N[j]? = some y) (hl : X.N[l]? = some z) (hij : i ≠ j) (hil : i ≠ l) (hjl : j ≠ l)
    (hx : X.env.scope.names.lookup x = some .local) (hy : X.env.scope.names.lookup y = some .local) (hz : X.env.scope.names.lookup z = some .local) (ha : SAL X W G cv [a, b, c] xs)
    (hw : swappedStores [.Tuple [.Name x px, .Name y py, .Name z pz] kt pt] (.Tuple [a, b, c] k2 pt2) X.env = pure (some [x, y, z])) :
    SS X W G cv (.Assign [.Tuple [.Name x px, .Name y py, .Name z pz] kt pt] (.Tuple [a, b, c] k2 pt2) pos) (.par (.cons (.n i) (.cons (.n j) (.cons (.n l) .nil))) xs) := by
  intro R A env σ H F Q D s w kr k
  simp only [br_iff, ls_iff, nrm_iff, bk_iff, sf_iff, wS] at w
  refine pS_of (ps_par3 hc hN hi hj hl hij hil hjl hx hy hz pa_p hw rfl) ?_
  refine ha R A [] env σ H F _ _ s w kr.kr fun rs e1 vs H1 F1 s1 g1 f1 hl w1 => ?_
  split at w1
  · rename_i ds e
    have r := resD_rep f1 e
    cases r with
    | nil => cases hl
    | cons r1 r2 =>
      cases r2 with
      | nil => cases hl
      | cons r2 r3 =>
        cases r3 with
        | nil => cases hl
        | cons r3 r4 =>
          cases r4 with
          | cons _ _ => cases hl
          | nil =>
            rename_i v d v2 d2 v3 d3
            refine ⟨v, v2, v3, rfl, ?_⟩
            obtain ⟨e2, q2, s2, g2⟩ := s1.putV g1 r1 (show putS e1 i (.v d) (fun e2 => putS e2 j (.v d2) fun e3 => putS e3 l (.v d3) fun e4 => Q .nx e4) from w1)
            obtain ⟨e3, q3, s3, g3⟩ := s2.putV g2 r2 q2
            obtain ⟨e4, q4, s4, g4⟩ := s3.putV g3 r3 q3
            exact k .nx e4 _ H1 F1 s4 g4 q4
  · exact w1.elim
/-- the list in slot i gets another content -/
theorem Sta.chg {K : Fg} {cv : CV} {A : AT} {e0 e : En} {σ0 σ : L2.St} {H0 F0 H F : Hp} (s : Sta K cv A e σ H F) (g : Go e0 σ0 H0 F0 e σ H F) {i : Nat} {p : Addr} {ds' : List D} {xs' : List L2.V} (o : Owns e σ i p) (r : RepL K F xs' ds') :
    (∀ ds, e[i]? = some (some (.own ds)) → Sta K cv A (e.set i (some (.own ds'))) σ (upd H p (.lst xs')) F ∧ Go e0 σ0 H0 F0 (e.set i (some (.own ds'))) σ (upd H p (.lst xs')) F) ∧
    (∀ ds, e[i]? = some (some (.io ds)) → Sta K cv A (e.set i (some (.io ds'))) σ (upd H p (.lst xs')) F ∧ Go e0 σ0 H0 F0 (e.set i (some (.io ds'))) σ (upd H p (.lst xs')) F) := by
  obtain ⟨hF, ys, hH⟩ := s.owns o
  have hi : i < e.length := by obtain ⟨_, ds, h | h⟩ := o <;> exact lt_of_get h
  have sub : Sub F (upd H p (.lst xs')) := fun a u z => by
    rw [upd_ne (by rintro rfl; rw [hF] at z; cases z)]; exact s.sub _ _ z
  have others : ∀ (j : Nat) (sv : SV), j ≠ i → e[j]? = some (some sv) → SlotOk K A σ (upd H p (.lst xs')) F j sv := fun j sv hj h => by
    refine (s.slot j sv h).keep .refl fun q xs w1 w2 w3 hn => ?_
    have ne : q ≠ p := by
      rintro rfl
      refine hj (s.dist j i q ⟨w1, ?_⟩ o)
      cases sv with
      | v d => exact hn.elim
      | th d => exact hn.elim
      | fn d => exact hn.elim
      | own ds => exact ⟨ds, .inl h⟩
      | io ds => exact ⟨ds, .inr h⟩
    rw [upd_ne ne]; exact ⟨w2, w3⟩
  have frm : ∀ a u, H0 a = some u → (∀ j, ¬ Owns e0 σ0 j a) → NT u → upd H p (.lst xs') a = some u := fun a u h n t => by
    have ne : a ≠ p := by
      rintro rfl
      rcases g.own i a o with z | ⟨j, z⟩
      · rw [h] at z; cases z
      · exact n j z
    rw [upd_ne ne]; exact g.frm a u h n t
  have liv : ∀ a, upd H p (.lst xs') a = none → H0 a = none := fun a z => by
    by_cases ha : a = p
    · subst ha; rw [upd_same] at z; cases z
    · rw [upd_ne ha] at z; exact g.liv a z
  refine ⟨fun ds he => ?_, fun ds he => ?_⟩
  · have back : ∀ {j q}, Owns (e.set i (some (.own ds'))) σ j q → Owns e σ j q := fun {j q} ⟨h1, d, h2⟩ => by
      by_cases hj : j = i
      · subst hj; exact ⟨h1, ds, .inl he⟩
      · rw [List.getElem?_set_ne (Ne.symm hj)] at h2; exact ⟨h1, d, h2⟩
    refine ⟨⟨sub, by rw [List.length_set]; exact s.len, fun j sv h => ?_, fun j l q o1 o2 => s.dist j l q (back o1) (back o2), s.sx.upd (.inr ⟨_, hH⟩) nt_lst⟩, ⟨g.ext, frm, liv, g.new, fun j q o => g.own j q (back o), fun j d h => ?_, by rw [List.length_set]; exact g.len⟩⟩
    · by_cases hj : j = i
      · subst hj
        rw [List.getElem?_set_self hi] at h; cases h
        exact ⟨p, xs', o.1, hF, upd_same, r⟩
      · rw [List.getElem?_set_ne (Ne.symm hj)] at h; exact others j sv hj h
    · obtain ⟨d2, h2⟩ := g.iok j d h
      refine ⟨d2, ?_⟩
      rw [List.getElem?_set_ne]
      · exact h2
      · rintro rfl; rw [he] at h2; cases h2
  · have back : ∀ {j q}, Owns (e.set i (some (.io ds'))) σ j q → Owns e σ j q := fun {j q} ⟨h1, d, h2⟩ => by
      by_cases hj : j = i
      · subst hj; exact ⟨h1, ds, .inr he⟩
      · rw [List.getElem?_set_ne (Ne.symm hj)] at h2; exact ⟨h1, d, h2⟩
    refine ⟨⟨sub, by rw [List.length_set]; exact s.len, fun j sv h => ?_, fun j l q o1 o2 => s.dist j l q (back o1) (back o2), s.sx.upd (.inr ⟨_, hH⟩) nt_lst⟩, ⟨g.ext, frm, liv, g.new, fun j q o => g.own j q (back o), fun j d h => ?_, by rw [List.length_set]; exact g.len⟩⟩
    · by_cases hj : j = i
      · subst hj
        rw [List.getElem?_set_self hi] at h; cases h
        obtain ⟨ys', w1, _⟩ := s.slot j _ he
        have := o.1; rw [w1] at this; cases this
        exact ⟨xs', w1, hF, upd_same, r⟩
      · rw [List.getElem?_set_ne (Ne.symm hj)] at h; exact others j sv hj h
    · obtain ⟨d2, h2⟩ := g.iok j d h
      by_cases hj : j = i
      · subst hj; exact ⟨ds', by rw [List.getElem?_set_self hi]⟩
      · exact ⟨d2, by rw [List.getElem?_set_ne (Ne.symm hj)]; exact h2⟩
/-- what slot i holds, with its place -/
theorem Sta.at {K : Fg} {cv : CV} {A : AT} {e : En} {σ : L2.St} {H F : Hp} (s : Sta K cv A e σ H F) {i : Nat} {ds : List D} (h : e[i]? = some (some (.own ds)) ∨ e[i]? = some (some (.io ds))) : ∃ p xs, Owns e σ i p ∧ H p = some (.lst xs) ∧ RepL K F xs ds := by
  rcases h with h | h
  · obtain ⟨p, xs, h1, h2, h3, h4⟩ := s.slot i _ h
    exact ⟨p, xs, ⟨h1, ds, .inl h⟩, h3, h4⟩
  · obtain ⟨xs, h1, h2, h3, h4⟩ := s.slot i _ h
    exact ⟨_, xs, ⟨h1, ds, .inr h⟩, h3, h4⟩
theorem ownd_at {e : En} {i : Nat} (h : ownd e i) : ∃ ds, e[i]? = some (some (SV.own ds)) ∨ e[i]? = some (some (SV.io ds)) := by
  unfold ownd at h
  split at h
  · rename_i ds h1; exact ⟨ds, .inl h1⟩
  · rename_i ds h1; exact ⟨ds, .inr h1⟩
  · exact h.elim
/-- x[ix] = e -/
theorem ss_sidx {i : Nat} {x : Str} {e ix : Expr} {xe xi : DI.X} {px ps : Pos} (hN : X.N[i]? = some x) (hv : Vis X.env.scope x) (h1 : (x == ("__debug__" : Str)) = false) (h2 : (x == ("__classdict__" : Str)) = false) (hst : PG X (.Subscript (.Name x px) ix ps) (gSub (tVar i) (pX X ix) rSetL))
    (hs : swapsWithSole [.Subscript (.Name x px) ix ps] e pos.line X.env = pure false) (he : SE X W G cv e xe) (hx : SE X W G cv ix xi) : SS X W G cv (.Assign [.Subscript (.Name x px) ix ps] e pos) (.sidx i xi xe) := by
  intro R A env σ H F Q D s w kr k
  simp only [br_iff, ls_iff, nrm_iff, bk_iff, sf_iff, wS] at w
  refine pS_of (ps_asg pe_p hst hs rfl rfl) ?_
  refine he R A env σ H F _ _ s w kr.kr fun r e1 v H1 F1 s1 g1 rv1 w1 => ?_
  obtain ⟨d, e2, F2, q, s2, g2, rd⟩ := s1.settle g1 rv1 w1
  have hx' : ∀ (p : Addr), σ[i]? = some (some (.ref p)) → pX X ix σ H1 (fun y H3 => rSetL (.ref p) y v H3 fun H4 => D.nx σ H4) := fun p hp => by
    refine hx R A e2 σ H1 F2 _ _ s2 q.2 (kr.kr.go g2) fun ri e3 y H3 F3 s3 g3 rv3 w3 => ?_
    obtain ⟨dy, py, q3, _⟩ := s3.pk rv3 w3
    have g13 := g2.trans g3
    cases dy with
    | int kk =>
      have e := py.int; subst e
      simp only at q3
      split at q3
      · rename_i ds hd
        obtain ⟨j, hj, q3⟩ := q3
        obtain ⟨p', xs, o, hH, rl⟩ := s3.at (.inl hd)
        have := o.1; rw [hp] at this; cases this
        obtain ⟨s4, g4⟩ := (s3.chg g13 o (rl.set (rd.mono g3.ext) j)).1 ds hd
        exact ⟨p, xs, kk, j, rfl, rfl, hH, by rw [rl.length]; exact hj, k .nx _ σ _ F3 s4 g4 q3⟩
      · rename_i ds hd
        obtain ⟨j, hj, q3⟩ := q3
        obtain ⟨p', xs, o, hH, rl⟩ := s3.at (.inr hd)
        have := o.1; rw [hp] at this; cases this
        obtain ⟨s4, g4⟩ := (s3.chg g13 o (rl.set (rd.mono g3.ext) j)).2 ds hd
        exact ⟨p, xs, kk, j, rfl, rfl, hH, by rw [rl.length]; exact hj, k .nx _ σ _ F3 s4 g4 q3⟩
      · exact q3.elim
    | _ => exact q3.elim
  obtain ⟨p, xs, o, _⟩ := s2.at (ownd_at q.1).choose_spec
  exact ⟨.ref p, o.1, hx' p o.1⟩
/-- x.append(e) -/
theorem ss_app {i : Nat} {x : Str} {e : Expr} {xe : DI.X} {px pa pc : Pos} (hN : X.N[i]? = some x) (hv : Vis X.env.scope x) (h1 : (x == ("__debug__" : Str)) = false) (h2 : (x == ("__classdict__" : Str)) = false) (hn : nost e = true) (hl : (pa.endLine == pc.line) = true) (he : SAL X W G cv [e] (.cons xe .nil)) :
    SS X W G cv (.Expr (.Call (.Attribute (.Name x px) "append" pa) [e] [] pc) pos) (.app i xe) := by
  intro R A env σ H F Q D s w kr k
  simp only [br_iff, ls_iff, nrm_iff, bk_iff, sf_iff, wS] at w
  refine pS_of (ps_expr (pe_bm PySem.F.plainAttrs_list PySem.F.slot_list_append PySem.F.type_list_append mt_append (pe_var hN hv h1 h2) pa_p rfl (by rw [star1 hn]; rfl) hl (star1 hn) rfl) rfl) ?_
  obtain ⟨p, xs0, o, hH0, rl0⟩ := s.at (ownd_at w.1).choose_spec
  refine ⟨.ref p, o.1, .inl ⟨rfl, xs0, SqL.of hH0⟩, ?_⟩
  have w' : wA G (.cons xe .nil) [] R env fun rs e1 => match rs with
      | [.v d] => (match e1[i]? with
        | some (some (.own ds)) => ds.length < sizeLine ∧ Q .nx (e1.set i (some (.own (ds ++ [d]))))
        | some (some (.io ds)) => ds.length < sizeLine ∧ Q .nx (e1.set i (some (.io (ds ++ [d]))))
        | _ => False)
      | _ => False := by
    simp only [wA]
    exact w.2
  refine he R A [] env σ H F _ _ s w' kr.kr fun rs e1 vs H1 F1 s1 g1 f1 hlen w1 => ?_
  cases f1 with
  | nil => exact w1.elim
  | cons r1 r2 =>
    cases r2 with
    | cons _ _ => cases hlen
    | nil =>
      rcases r1 with ⟨d, rfl, rd⟩ | ⟨j, rfl, _⟩
      · simp only at w1
        split at w1
        · rename_i ds hd
          obtain ⟨p', xs, o', hH, rl⟩ := s1.at (.inl hd)
          have := o'.1; rw [o.1] at this; cases this
          obtain ⟨s4, g4⟩ := (s1.chg g1 o' (rl.append (.cons rd .nil))).1 ds hd
          exact ⟨p, xs, _, rfl, rfl, hH, by rw [rl.length]; exact w1.1, k .nx _ σ _ F1 s4 g4 w1.2⟩
        · rename_i ds hd
          obtain ⟨p', xs, o', hH, rl⟩ := s1.at (.inr hd)
          have := o'.1; rw [o.1] at this; cases this
          obtain ⟨s4, g4⟩ := (s1.chg g1 o' (rl.append (.cons rd .nil))).2 ds hd
          exact ⟨p, xs, _, rfl, rfl, hH, by rw [rl.length]; exact w1.1, k .nx _ σ _ F1 s4 g4 w1.2⟩
        · exact w1.elim
      · exact w1.elim
theorem ip_mulD : PIp X .Mult (fun x y H Q => ∃ i j, x = .int i ∧ y = .int j ∧ MulOk i j ∧ Q (.int (i * j)) H) := by
  intro pins s σ H x y v u Q I r1 r2 h
  obtain ⟨i, j, e1, e2, hm, q⟩ := h
  subst e1; subst e2
  obtain ⟨t, rfl⟩ := r1
  obtain ⟨t', rfl⟩ := r2
  exact imul_int ⟨.int _, H, I.tok _, ⟨_, rfl⟩, q⟩ (CMulW.ok hm.lt)
/-- x += e, x -= e, x *= e of ints -/
theorem ss_aug {i : Nat} {x : Str} {e : Expr} {xe : DI.X} {px : Pos} {op : Operator} (hN : X.N.Nodup) (hi : X.N[i]? = some x) (hx : Loc X.env.scope x) (hf : X.fn x = true ∨ X.env.scope.names.lookup x = some .local) (he : SE X W G cv e xe) (ho : op = .Add ∨ op = .Sub ∨ op = .Mult) : SS X W G cv (.AugAssign (.Name x px) op e pos) (.aug i op xe) := by
  intro R A env σ H F Q D s w kr k
  simp only [br_iff, ls_iff, nrm_iff, bk_iff, sf_iff, wS] at w
  split at w
  · rename_i a ha
    obtain ⟨x0, e0, r0⟩ := s.slot i _ ha
    cases r0
    rcases ho with rfl | rfl | rfl
    · refine pS_of (ps_aug hN hi hx pe_p ip_add hf) ⟨_, e0, ?_⟩
      refine he R A env σ H F _ _ s w kr.kr fun r e1 y H1 F1 s1 g1 rv1 w1 => ?_
      obtain ⟨dy, py, q, _⟩ := s1.pk rv1 w1
      cases dy with
      | int b =>
        have e := py.int; subst e
        obtain ⟨e3, q3, s3, g3⟩ := s1.putV g1 (Rep.int (a + b)) q
        exact ⟨a, b, rfl, rfl, k .nx e3 _ H1 F1 s3 g3 q3⟩
      | _ => exact q.elim
    · refine pS_of (ps_aug hN hi hx pe_p ip_sub hf) ⟨_, e0, ?_⟩
      refine he R A env σ H F _ _ s w kr.kr fun r e1 y H1 F1 s1 g1 rv1 w1 => ?_
      obtain ⟨dy, py, q, _⟩ := s1.pk rv1 w1
      cases dy with
      | int b =>
        have e := py.int; subst e
        obtain ⟨e3, q3, s3, g3⟩ := s1.putV g1 (Rep.int (a - b)) q
        exact ⟨a, b, rfl, rfl, k .nx e3 _ H1 F1 s3 g3 q3⟩
      | _ => exact q.elim
    · refine pS_of (ps_aug hN hi hx pe_p ip_mulD hf) ⟨_, e0, ?_⟩
      refine he R A env σ H F _ _ s w kr.kr fun r e1 y H1 F1 s1 g1 rv1 w1 => ?_
      obtain ⟨dy, py, q, _⟩ := s1.pk rv1 w1
      cases dy with
      | int b =>
        have e := py.int; subst e
        obtain ⟨e3, q3, s3, g3⟩ := s1.putV g1 (Rep.int (a * b)) q.2
        exact ⟨a, b, rfl, rfl, q.1, k .nx e3 _ H1 F1 s3 g3 q3⟩
      | _ => exact q.elim
  · exact w.elim
theorem ss_for {tg iter : Expr} {body : List Stmt} {t : Tg} {xi : DI.X} {sb : S} (hp : PassesOwn (model X.prog X.w) X.A X.env X.xe) (hc : X.calm = true) (hs : ∀ x, foldedSetIterable iter X.env x = pure x) (hi : SI X W G cv tg iter xi) (hg : TGo X tg t) (hb : SSs X W G cv body sb) :
    SS X W G cv (.For tg iter body [] pos) (.forr t xi sb) := by
  intro R A env σ H F Q D s w kr k
  simp only [br_iff, ls_iff, nrm_iff, bk_iff, sf_iff, wS] at w
  refine pS_of (ps_for hp hc pi_p pg_p pss_p hs) ?_
  refine hi R A env σ H F (fun items e2 => forW (fun d e K => tgW t [d] e fun e1 => wS G sb R e1 K) items e2 Q) _ s w kr.kr fun items e2 J H1 F1 s1 g1 wk hz w1 => ?_
  refine ⟨fun i m σ' H' => m = items.length - i ∧ i ≤ items.length ∧ ∃ e F', Sta X.K cv A e σ' H' F' ∧ Go env σ H F e σ' H' F' ∧ Sub F1 F' ∧ forW (fun d e K => tgW t [d] e fun e1 => wS G sb R e1 K) (items.drop i) e Q,
    ⟨_, rfl, Nat.zero_le _, e2, F1, s1, g1, .refl, w1⟩, ?_⟩
  rintro i m σ' H' ⟨rfl, hi', e, F', s2, g2, sf, w2⟩
  obtain ⟨st, go, yl⟩ := wk H' F' sf s2.sub
  rcases Nat.lt_or_ge i items.length with hlt | hge
  · refine .inr ⟨go i hlt, fun σ2 H2 => ∃ e F2, Sta X.K cv A e σ2 H2 F2 ∧ Go env σ H F e σ2 H2 F2 ∧ Sub F1 F2 ∧ forW (fun d e K => tgW t [d] e fun e1 => wS G sb R e1 K) (items.drop (i + 1)) e Q,
      fun σ2 H2 ⟨e, F2, a⟩ => ⟨items.length - (i + 1), by omega, rfl, hlt, e, F2, a⟩, fun x H2 hy => ?_⟩
    obtain ⟨d, F2, hd, rs⟩ := yl i x H2 hlt hy
    obtain ⟨s3, gr, rv⟩ := s2.res (e0 := e) .refl rs
    have g3 := g2.trans gr
    have sf3 : Sub F' F2 := by
      cases rs with
      | same _ => exact .refl
      | tup _ hp _ => exact .new (s2.free hp)
    have w3 : items.drop i = d :: items.drop (i + 1) := by
      rw [List.drop_eq_getElem_cons hlt]
      congr 1
      rw [List.getElem?_eq_getElem hlt] at hd; exact Option.some.inj hd
    rw [w3] at w2
    refine hg cv A env e σ σ' H F H2 F2 d x _ _ s3 g3 rv w2 fun e4 σ4 s4 g4 _ _ w4 => ?_
    refine hb R A e4 σ4 H2 F2 _ _ s4 w4 (kr.go g4) fun o e5 σ5 H5 F5 s5 g5 w5 => ?_
    have g45 := g4.trans g5
    have sf5 : Sub F1 F5 := (sf.trans sf3).trans g5.ext
    cases o with
    | nx => exact ⟨e5, F5, s5, g45, sf5, w5⟩
    | ct => exact ⟨e5, F5, s5, g45, sf5, w5⟩
    | bk => exact k .nx e5 σ5 H5 F5 s5 g45 w5
    | rt r => exact fun x hx => k (.rt r) e5 σ5 H5 F5 s5 g45 w5 x (hx.back g4)
  · have he' : i = items.length := by omega
    subst he'
    rw [List.drop_length] at w2
    exact .inl ⟨st, k .nx e σ' H' F' s2 g2 w2⟩
theorem ss_while {c : Expr} {body : List Stmt} {xc : DI.X} {sb : S} (hp : PassesOwn (model X.prog X.w) X.A X.env X.xe) (hc : ST X W G cv c xc) (hb : SSs X W G cv body sb) : SS X W G cv (.While c body [] pos) (.whl xc sb) := by
  intro R A env σ H F Q D s w kr k
  simp only [br_iff, ls_iff, nrm_iff, bk_iff, sf_iff, wS] at w
  obtain ⟨V, ⟨m0, v0⟩, turn⟩ := w
  refine pS_of (ps_while hp pt_p pss_p) ?_
  refine ⟨fun m σ' H' => ∃ e F', Sta X.K cv A e σ' H' F' ∧ Go env σ H F e σ' H' F' ∧ V m e, ⟨m0, env, F, s, .refl, v0⟩, ?_⟩
  rintro m σ' H' ⟨e, F', s1, g1, v1⟩
  refine hc R A e σ' H' F' _ _ s1 (turn m e v1) (kr.go g1).kr fun b e2 H2 F2 s2 g2 w2 => ?_
  have g12 := g1.trans g2
  cases b with
  | true =>
    refine ⟨fun σ3 H3 => ∃ m', m' < m ∧ ∃ e F', Sta X.K cv A e σ3 H3 F' ∧ Go env σ H F e σ3 H3 F' ∧ V m' e, fun _ _ z => z, ?_⟩
    refine hb R A e2 σ' H2 F2 _ _ s2 w2 (kr.go g12) fun o e3 σ3 H3 F3 s3 g3 w3 => ?_
    have g13 := g12.trans g3
    cases o with
    | nx => obtain ⟨m', h1, h2⟩ := w3; exact ⟨m', h1, e3, F3, s3, g13, h2⟩
    | ct => obtain ⟨m', h1, h2⟩ := w3; exact ⟨m', h1, e3, F3, s3, g13, h2⟩
    | bk => exact k .nx e3 σ3 H3 F3 s3 g13 w3
    | rt r => exact fun x hx => k (.rt r) e3 σ3 H3 F3 s3 g13 w3 x (hx.back g12)
  | false => exact k .nx e2 σ' H2 F2 s2 g12 w2
end
end DI
namespace DI
open PySem L2
open PyProof.Rows hiding St
section
variable {X : Cx} {W : WX} {G : Nat → Fn} {cv : CV} {pos : Pos}
def pO (X : Cx) (e : Option Expr) : TO := fun σ H Q => ∀ (pins : List (Addr × Obj)) (s : Shared), Inv X pins σ H s → wpAny (model X.prog X.w) X.A (evalPart e X.env) (fun u s' => ∃ o H', Inv X pins σ H' s' ∧ IsPart u o ∧ Q o H') X.xe s
theorem po_p {e : Option Expr} : PO X e (pO X e) := ⟨fun pins s _ _ _ I h => h pins s I⟩
theorem pO_of {e : Option Expr} {t : TO} {σ : L2.St} {H : Hp} (p : PO X e t) {Q : Option Int → Hp → Prop} (h : t σ H Q) : pO X e σ H Q := fun pins s I => p.run pins s σ H Q I h
def SO (X : Cx) (W : WX) (G : Nat → Fn) (cv : CV) (e : Option Expr) (x : DI.X) : Prop := ∀ (R : Nat → En → Prop) (A : AT) (env : En) (σ : L2.St) (H F : Hp) (Q : Option Int → En → Prop) (Q' : Option Int → Hp → Prop), Sta X.K cv A env σ H F → wO G x R env Q → KR X W cv A R env σ H F →
  (∀ o e' H' F', Sta X.K cv A e' σ H' F' → Go env σ H F e' σ H' F' → Q o e' → Q' o H') → pO X e σ H Q'
theorem so_none : SO X W G cv none .nil := fun R A env σ H F Q Q' s w kr k => pO_of po_none (k none env H F s .refl (by simpa only [wO] using w))
theorem so_some {e : Expr} {x r : DI.X} (h : SE X W G cv e x) : SO X W G cv (some e) (.cons x r) := by
  intro R A env σ H F Q Q' s w kr k
  simp only [wO] at w
  refine pO_of (po_some pe_p) ?_
  refine h R A env σ H F _ _ s w kr fun ra e1 x H1 F1 s1 g1 rv1 w1 => ?_
  obtain ⟨d, pd, q, _⟩ := s1.pk rv1 w1
  cases d with
  | int i => have e := pd.int; subst e; exact ⟨i, rfl, k (some i) e1 H1 F1 s1 g1 q⟩
  | _ => exact q.elim
def soSl (X : Cx) : L2.V → Option Int → Option Int → Hp → VK → Prop := fun x lo hi H Q => ∀ (pins : List (Addr × Obj)) (s : Shared) (σ : L2.St) (v vl vu : Value) (sl : Addr), Inv X pins σ H s → RelV x v → s.heap.IsSliceOf sl vl vu .none → IsPart vl lo → IsPart vu hi →
    ∃ T id, typeLookup (.type T) "__getitem__" = pure (some (.builtin id)) ∧ s.TypeIs v T ∧ wpAny (model X.prog X.w) X.A (getItem v (.ref sl)) (EP X pins σ Q) X.xe s
theorem soSl_ok : SlR X (soSl X) := fun pins s σ H x v vl vu lo hi sl Q I rx hs pl pu h => h pins s σ v vl vu sl I rx hs pl pu
theorem soSl_of {r : L2.V → Option Int → Option Int → Hp → VK → Prop} {x : L2.V} {lo hi : Option Int} {H : Hp} {Q : VK} (o : SlR X r) (h : r x lo hi H Q) : soSl X x lo hi H Q := fun pins s σ v vl vu sl I rx hs pl pu => o pins s σ H x v vl vu lo hi sl Q I rx hs pl pu h
theorem RepL.cut {K : Fg} {F : Hp} {xs : List L2.V} {ds : List D} (h : RepL K F xs ds) (lo hi : Option Int) : RepL K F (cutV xs lo hi) (cutD ds lo hi) := by
  unfold cutV cutD
  rw [h.length]
  exact (h.drop _).take _
theorem se_slc {a : Expr} {xa xl xh : DI.X} {lo hi : Option Expr} {p2 : Pos} (ha : SE X W G cv a xa) (hl : SO X W G cv lo xl) (hh : SO X W G cv hi xh) : SE X W G cv (.Subscript a (.Slice lo hi none p2) pos) (.slc xa xl xh) := by
  intro R A env σ H F Q Q' s w kr k
  simp only [br_iff, ls_iff, nrm_iff, bk_iff, sf_iff, wE] at w
  refine pX_of (pe_slice soSl_ok pe_p po_p po_p) ?_
  refine ha R A env σ H F _ _ s w kr fun ra e1 x H1 F1 s1 g1 rv1 w1 => ?_
  obtain ⟨F1', s1', g1', hold1⟩ := s1.hold g1 rv1
  refine hl R A e1 σ H1 F1' _ _ s1' w1 (kr.go g1') fun l e2 H2 F2 s2 g2 w2 => ?_
  refine hh R A e2 σ H2 F2 _ _ s2 w2 ((kr.go g1').go g2) fun h e3 H3 F3 s3 g3 w3 => ?_
  have g := (g1'.trans g2).trans g3
  obtain ⟨d, pd, q, _⟩ := s3.pk (hold1 e3 H3 F3 (g2.ext.trans g3.ext) H3) w3
  cases d with
  | list ds =>
    have q : Q (.own (cutD ds l h)) e3 := q
    obtain ⟨b, xs, rfl, h1, h2⟩ := pd.lst s3.sub
    refine soSl_of sl_list ⟨b, xs, rfl, h1, fun p hp => ?_⟩
    obtain ⟨s4, g4, rv4⟩ := s3.res g (.lst hp (h2.cut l h))
    exact k _ e3 _ _ _ s4 g4 rv4 q
  | tuple ds =>
    have q : Q (.v (.tuple (cutD ds l h))) e3 := q
    obtain ⟨b, xs, rfl, h1, h2⟩ := pd.tup
    refine soSl_of sl_tupN ⟨b, xs, rfl, s3.sub.sqT h1.sq, fun z => ?_, fun _ p ob hd hp => ?_⟩
    · have e : cutD ds l h = ds := by
        unfold cutD
        rw [← h2.length, z.1, z.2, List.drop_zero, Nat.sub_zero, h2.length, List.take_length]
      rw [e] at q
      exact k (.v (.tuple ds)) e3 _ _ _ s3 g (Rep.tup h1 h2) q
    · obtain ⟨s4, g4, rv4⟩ := s3.res g (.tup hd hp (h2.cut l h))
      exact k _ e3 _ _ _ s4 g4 rv4 q
  | _ => exact (show False from q).elim
theorem vals_pick {xs : List L2.V} {us : List Value} (h : Vals xs us) : ∀ (js : List Nat), Vals (js.filterMap (xs[·]?)) (js.filterMap (us.toArray[·]?))
  | [] => .nil
  | j :: js => by
    have ih := vals_pick h js
    rw [List.filterMap_cons, List.filterMap_cons]
    cases hx : xs[j]? with
    | none =>
      have : us.toArray[j]? = none := by
        have := h.length
        rw [List.getElem?_eq_none_iff] at hx
        simp; omega
      rw [this]; exact ih
    | some x =>
      obtain ⟨u, hu, r⟩ := h.get hx
      have : us.toArray[j]? = some u := by simpa using hu
      rw [this]; exact .cons r ih
theorem RepL.pick {K : Fg} {F : Hp} {xs : List L2.V} {ds : List D} (h : RepL K F xs ds) : ∀ (js : List Nat), RepL K F (js.filterMap (xs[·]?)) (js.filterMap (ds[·]?))
  | [] => .nil
  | j :: js => by
    have ih := RepL.pick h js
    rw [List.filterMap_cons, List.filterMap_cons]
    cases hx : xs[j]? with
    | none =>
      have : ds[j]? = none := by
        have := h.length
        rw [List.getElem?_eq_none_iff] at hx ⊢
        omega
      rw [this]; exact ih
    | some x =>
      obtain ⟨d, hd, r⟩ := h.getV hx
      rw [hd]; exact .cons r ih
theorem sl3 {pins : List (Addr × Obj)} {σ : L2.St} {H : Hp} {s : Shared} {a sl : Addr} {xs : List L2.V} {vl vu vs : Value} {lo hi : Option Int} {c : Int} {Q : VK} (I : Inv X pins σ H s) (hx : SqL X.K H a xs) (hs : s.heap.IsSliceOf sl vl vu vs) (pl : IsPart vl lo) (pu : IsPart vu hi) (ps : IsPart vs (some c)) (h0 : c ≠ 0)
    (q : ∀ p, H p = none → Q (.ref p) (upd H p (.lst ((sliceRange (sliceBounds lo hi (some c) xs.length).1 (sliceBounds lo hi (some c) xs.length).2.1 (sliceBounds lo hi (some c) xs.length).2.2).filterMap (xs[·]?))))) :
    wpAny (model X.prog X.w) X.A (getItem (.ref a) (.ref sl)) (EP X pins σ Q) X.xe s := by
  obtain ⟨its, r, hl, hz⟩ := I.list hx
  have ln := r.length
  have sz := slicePick_size_le its.toArray lo hi (some c)
  refine wpAny_getItem_list_slice hl.isList hs pl pu ps (by simpa using h0) ?_ (by rw [List.size_toArray, ← ln]; exact hz)
  have e : slicePick its.toArray lo hi (some c) = ((sliceRange (sliceBounds lo hi (some c) xs.length).1 (sliceBounds lo hi (some c) xs.length).2.1 (sliceBounds lo hi (some c) xs.length).2.2).filterMap (its.toArray[·]?)).toArray := by
    unfold slicePick
    rw [List.size_toArray, ← ln]
  have vp := vals_pick r (sliceRange (sliceBounds lo hi (some c) xs.length).1 (sliceBounds lo hi (some c) xs.length).2.1 (sliceBounds lo hi (some c) xs.length).2.2)
  rw [e] at sz ⊢
  exact ⟨.ref _, _, I.lnew (t' := s.toks) vp (by rw [vp.length]; rw [List.size_toArray] at sz; rw [List.size_toArray] at sz; omega), rfl, q _ I.fresh⟩
/-- a tuple's slice by a step that is neither 0 nor 1, at the library's level -/
theorem tup_step {s : Shared} {t sl : Addr} {its : Array Value} {vl vu vs : Value} {lo hi : Option Int} {c : Int} {E : Value → Shared → Prop} {Q : Value → Shared → Prop} {A : Around} {P : Program} {w : World} (ht : IsTup s.heap t its) (hs : s.heap.IsSliceOf sl vl vu vs) (pl : IsPart vl lo) (pu : IsPart vu hi) (ps : IsPart vs (some c)) (h0 : c ≠ 0) (h1 : c ≠ 1)
    (hz : ((pickIx its.size lo hi c).filterMap (its[·]?)).length ≤ sizeLine)
    (h : Q (.ref s.heap.objs.size) { s with heap := s.heap.push { cls := .type "tuple", data := .seq ((pickIx its.size lo hi c).filterMap (its[·]?)).toArray } }) : wpAny (model P w) A (getItem (.ref t) (.ref sl)) Q E s := by
  obtain ⟨os, e1, e2, e3⟩ := id hs
  have hT : s.TypeIs (.ref sl) "slice" := ⟨os, e1, e2⟩
  unfold getItem
  try with_reducible refine wpAny_holding ?_
  first | refine wpAny_bind (wpAny_pure ?_) | skip
  refine wpAny_bind (wpAny_sequenceKey ht.typeIs (by decide) (wpAny_bind ?_))
  refine wpAny_callSpecial?_slot (name := Str.ofString "__getitem__") ht.typeIs PyProof.Rows.slot_tuple_getitem (wpAny_call_entry PyProof.Rows.slot_tuple_getitem ht.typeIs PyProof.Rows.entry_tuple_getitem ?_ (PyProof.Rows.args_tuple_getitem _ _))
  show wpAny _ _ (Builtin.Tuple.tupleItemsOf (.ref t) >>= _) _ _ s
  refine wpAny_bind (tupleItemsOf_ ht (wpAny_bind (wpAny_typeOf hT ?_)))
  rw [if_pos (by decide)]
  have step : wpAny (model P w) A.in1 (Builtin.Slice.sliceApplied (.ref sl) (pure (its.size : Int))) (fun r s' => r = ((Builtin.Slice.sliceAdjust lo hi c its.size).1, c, Builtin.Slice.slicePlaces (Builtin.Slice.sliceAdjust lo hi c its.size).1 (Builtin.Slice.sliceAdjust lo hi c its.size).2 c) ∧ s' = s) E s := by
    unfold Builtin.Slice.sliceApplied Builtin.Slice.sliceFields
    refine wpAny_bind (wpAny_bind (wpAny_field e1 e3 (x := vl) rfl ?_))
    refine wpAny_bind (wpAny_field e1 e3 (x := vu) rfl ?_)
    refine wpAny_bind (wpAny_field e1 e3 (x := vs) rfl (wpAny_pure ?_))
    refine wpAny_bind (HT.slicePart_ ps ?_)
    show wpAny _ _ (if (c == 0) = true then _ else _) _ _ s
    rw [if_neg (by simpa using h0)]
    refine wpAny_bind (HT.slicePart_ pl (wpAny_bind (HT.slicePart_ pu (wpAny_bind (wpAny_pure ?_)))))
    exact wpAny_pure ⟨rfl, rfl⟩
  refine wpAny_bind (thn step fun r s' z => ?_)
  obtain ⟨rfl, rfl⟩ := z
  have c1 : (c == 1) = false := by simpa using h1
  have no : ¬ (((Builtin.Slice.sliceAdjust lo hi c its.size).1 == 0 && c == 1 && Builtin.Slice.slicePlaces (Builtin.Slice.sliceAdjust lo hi c its.size).1 (Builtin.Slice.sliceAdjust lo hi c its.size).2 c == its.size) = true) := by
    rw [c1, Bool.and_false, Bool.false_and]; decide
  have e4 : ((List.range (Builtin.Slice.slicePlaces (Builtin.Slice.sliceAdjust lo hi c its.size).1 (Builtin.Slice.sliceAdjust lo hi c its.size).2 c)).filterMap fun (k : Nat) => its[((Builtin.Slice.sliceAdjust lo hi c its.size).1 + (k : Int) * c).toNat]?) = (pickIx its.size lo hi c).filterMap (its[·]?) := by
    unfold pickIx
    rw [List.filterMap_map]; rfl
  show wpAny _ _ (if ((Builtin.Slice.sliceAdjust lo hi c its.size).1 == 0 && c == 1 && Builtin.Slice.slicePlaces (Builtin.Slice.sliceAdjust lo hi c its.size).1 (Builtin.Slice.sliceAdjust lo hi c its.size).2 c == its.size) = true then _ else _) _ _ _
  rw [if_neg no, e4]
  have ok : sizeOk (.seq ((pickIx its.size lo hi c).filterMap (its[·]?)).toArray) := by
    show ((pickIx its.size lo hi c).filterMap (its[·]?)).toArray.size ≤ sizeLine
    rw [List.size_toArray]; exact hz
  first
    | exact wpAny_bind (m := Builtin.Tuple.tupleExact _) (wpAny_newObj_type (wpAny_pure ⟨_, rfl, wpAny_pure h⟩) ok)
    | exact wpAny_bind (m := Builtin.Tuple.tupleExact _) (wpAny_newObj_type (wpAny_bind (wpAny_pure (wpAny_pure ⟨_, rfl, wpAny_pure h⟩))) ok)
    | exact wpAny_bind (wpAny_bind (m := Builtin.Tuple.tupleExact _) (wpAny_newObj_type (wpAny_pure (wpAny_pure ⟨_, rfl, wpAny_pure h⟩)) ok))
    | exact wpAny_bind (wpAny_bind (m := Builtin.Tuple.tupleExact _) (wpAny_newObj_type (wpAny_pure ⟨_, rfl, wpAny_pure h⟩) ok))
/-- the whole of a tuple by the step 1 is itself -/
theorem tup_same {s : Shared} {t sl : Addr} {its : Array Value} {vl vu vs : Value} {E : Value → Shared → Prop} {Q : Value → Shared → Prop} {A : Around} {P : Program} {w : World} (ht : IsTup s.heap t its) (hs : s.heap.IsSliceOf sl vl vu vs) (pl : IsPart vl none) (pu : IsPart vu none) (ps : IsPart vs (some 1))
    (h : Q (.ref t) s) : wpAny (model P w) A (getItem (.ref t) (.ref sl)) Q E s := by
  obtain ⟨os, e1, e2, e3⟩ := id hs
  have hT : s.TypeIs (.ref sl) "slice" := ⟨os, e1, e2⟩
  unfold getItem
  try with_reducible refine wpAny_holding ?_
  first | refine wpAny_bind (wpAny_pure ?_) | skip
  refine wpAny_bind (wpAny_sequenceKey ht.typeIs (by decide) (wpAny_bind ?_))
  refine wpAny_callSpecial?_slot (name := Str.ofString "__getitem__") ht.typeIs PyProof.Rows.slot_tuple_getitem (wpAny_call_entry PyProof.Rows.slot_tuple_getitem ht.typeIs PyProof.Rows.entry_tuple_getitem ?_ (PyProof.Rows.args_tuple_getitem _ _))
  show wpAny _ _ (Builtin.Tuple.tupleItemsOf (.ref t) >>= _) _ _ s
  refine wpAny_bind (tupleItemsOf_ ht (wpAny_bind (wpAny_typeOf hT ?_)))
  rw [if_pos (by decide)]
  have step : wpAny (model P w) A.in1 (Builtin.Slice.sliceApplied (.ref sl) (pure (its.size : Int))) (fun r s' => r = (((0 : Int)), (1 : Int), its.size) ∧ s' = s) E s := by
    unfold Builtin.Slice.sliceApplied Builtin.Slice.sliceFields
    refine wpAny_bind (wpAny_bind (wpAny_field e1 e3 (x := vl) rfl ?_))
    refine wpAny_bind (wpAny_field e1 e3 (x := vu) rfl ?_)
    refine wpAny_bind (wpAny_field e1 e3 (x := vs) rfl (wpAny_pure ?_))
    refine wpAny_bind (HT.slicePart_ ps ?_)
    show wpAny _ _ (if ((1 : Int) == 0) = true then _ else _) _ _ s
    rw [if_neg (by decide)]
    refine wpAny_bind (HT.slicePart_ pl (wpAny_bind (HT.slicePart_ pu (wpAny_bind (wpAny_pure ?_)))))
    refine wpAny_pure ⟨?_, rfl⟩
    have e : Builtin.Slice.sliceAdjust none none 1 (its.size : Int) = (0, (its.size : Int)) := by
      unfold Builtin.Slice.sliceAdjust
      simp
    show ((Builtin.Slice.sliceAdjust none none 1 (its.size : Int)).1, (1 : Int), Builtin.Slice.slicePlaces (Builtin.Slice.sliceAdjust none none 1 (its.size : Int)).1 (Builtin.Slice.sliceAdjust none none 1 (its.size : Int)).2 1) = _
    rw [e]
    have e' : Builtin.Slice.slicePlaces 0 (its.size : Int) 1 = its.size := by
      unfold Builtin.Slice.slicePlaces
      simp only [show (1 : Int) > 0 by decide, if_true, Int.ediv_one]
      split <;> omega
    rw [e']
  refine wpAny_bind (thn step fun r s' z => ?_)
  obtain ⟨rfl, rfl⟩ := z
  have yes : (((0 : Int) == 0 && (1 : Int) == 1 && its.size == its.size) = true) := by simp
  show wpAny _ _ (if ((0 : Int) == 0 && (1 : Int) == 1 && its.size == its.size) = true then _ else _) _ _ _
  rw [if_pos yes]
  refine wpAny_bind ?_
  show wpAny _ _ (typeOf (.ref t) >>= fun T => pure (T == .type "tuple")) _ _ _
  refine wpAny_bind (wpAny_typeOf ht.typeIs (wpAny_pure ?_))
  first
    | rw [if_pos (by decide)]
    | simp only [beq_self_eq_true, if_true]
  first
    | exact wpAny_bind (wpAny_rule (wpAny_pure ⟨_, rfl, wpAny_pure h⟩))
    | exact wpAny_bind (wpAny_rule (wpAny_bind (wpAny_pure (wpAny_pure ⟨_, rfl, wpAny_pure h⟩))))
theorem places_le {lo hi : Option Int} {c : Int} {n : Nat} (h0 : c ≠ 0) : Builtin.Slice.slicePlaces (Builtin.Slice.sliceAdjust lo hi c n).1 (Builtin.Slice.sliceAdjust lo hi c n).2 c ≤ n := by
  have cl : ∀ v : Int, 0 < c → 0 ≤ (if v < 0 then max (v + n) 0 else min v (n : Int)) ∧ (if v < 0 then max (v + n) 0 else min v (n : Int)) ≤ n := fun v _ => by split <;> omega
  have cm : ∀ v : Int, c < 0 → -1 ≤ (if v < 0 then max (v + n) (-1) else min v ((n : Int) - 1)) ∧ (if v < 0 then max (v + n) (-1) else min v ((n : Int) - 1)) ≤ (n : Int) - 1 := fun v _ => by split <;> omega
  have a : (0 < c → 0 ≤ (Builtin.Slice.sliceAdjust lo hi c n).1 ∧ (Builtin.Slice.sliceAdjust lo hi c n).2 ≤ n) ∧ (c < 0 → (Builtin.Slice.sliceAdjust lo hi c n).1 ≤ (n : Int) - 1 ∧ -1 ≤ (Builtin.Slice.sliceAdjust lo hi c n).2) := by
    unfold Builtin.Slice.sliceAdjust
    refine ⟨fun z => ?_, fun z => ?_⟩
    · have n1 : ¬ c < 0 := by omega
      simp only [n1, if_false]
      constructor
      · cases lo with
        | none => exact Int.le_refl 0
        | some v => exact (cl v z).1
      · cases hi with
        | none => exact Int.le_refl _
        | some v => exact (cl v z).2
    · simp only [z, if_true]
      constructor
      · cases lo with
        | none => exact Int.le_refl _
        | some v => exact (cm v z).2
      · cases hi with
        | none => exact Int.le_refl _
        | some v => exact (cm v z).1
  generalize (Builtin.Slice.sliceAdjust lo hi c n).1 = x at a
  generalize (Builtin.Slice.sliceAdjust lo hi c n).2 = y at a
  unfold Builtin.Slice.slicePlaces
  rcases Int.lt_or_gt_of_ne h0 with z | z
  · have := a.2 z
    rw [if_neg (by omega)]
    split
    · have h1 : (x - y - 1) / (-c) ≤ x - y - 1 := Int.ediv_le_self _ (by omega)
      omega
    · exact Nat.zero_le _
  · have := a.1 z
    rw [if_pos z]
    split
    · have h1 : (y - x - 1) / c ≤ y - x - 1 := Int.ediv_le_self _ (by omega)
      omega
    · exact Nat.zero_le _
theorem pickIx_len {n : Nat} {lo hi : Option Int} {c : Int} (h0 : c ≠ 0) : (pickIx n lo hi c).length ≤ n := by
  unfold pickIx
  rw [List.length_map, List.length_range]; exact places_le h0
theorem se_slc3 {a st : Expr} {xa xl xh xs' : DI.X} {lo hi : Option Expr} {p2 : Pos} (ha : SE X W G cv a xa) (hl : SO X W G cv lo xl) (hh : SO X W G cv hi xh) (hst : SO X W G cv (some st) xs') : SE X W G cv (.Subscript a (.Slice lo hi (some st) p2) pos) (.slc3 xa xl xh xs') := by
  intro R A env σ H F Q Q' s w kr k pins sh I
  simp only [br_iff, ls_iff, nrm_iff, bk_iff, sf_iff, wE] at w
  refine Subscript_ ?_
  refine thn (ha R A env σ H F _ (fun x H1 => ∀ (v : Value) (s1 : Shared), Inv X pins σ H1 s1 → RelV x v → wpAny (model X.prog X.w) X.A (eval (.Slice lo hi (some st) p2) X.env) (fun i s2 => wpAny (model X.prog X.w) X.A (subscriptTail a (.Slice lo hi (some st) p2) v i) (EP X pins σ Q') X.xe s2) X.xe s1) s w kr (fun ra e1 x H1 F1 s1 g1 rv1 w1 v sh1 I1 rx => ?_) pins sh I) fun v s1 ⟨x, H1, I1, r1, q1⟩ => q1 v s1 I1 r1
  obtain ⟨F1', s1', g1', hold1⟩ := s1.hold g1 rv1
  refine wpAny_Slice ?_
  refine thn (hl R A e1 σ H1 F1' _ (fun l H2 => ∀ (vl : Value) (s2 : Shared), Inv X pins σ H2 s2 → IsPart vl l → wpAny (model X.prog X.w) X.A (evalPart hi X.env) (fun u s₂ => wpAny (model X.prog X.w) X.A (evalPart (some st) X.env) (fun st' s₃ => wpAny (model X.prog X.w) X.A (subscriptTail a (.Slice lo hi (some st) p2) v (.ref s₃.heap.objs.size)) (EP X pins σ Q') X.xe { s₃ with heap := s₃.heap.push { cls := .type "slice", data := .fields #[vl, u, st'] } }) X.xe s₂) X.xe s2) s1' w1 (kr.go g1') (fun l e2 H2 F2 s2 g2 w2 vl sh2 I2 pl => ?_) pins sh1 I1) fun vl s2 ⟨l, H2, I2, pl, q2⟩ => q2 vl s2 I2 pl
  refine thn (hh R A e2 σ H2 F2 _ (fun h H3 => ∀ (vu : Value) (s3 : Shared), Inv X pins σ H3 s3 → IsPart vu h → wpAny (model X.prog X.w) X.A (evalPart (some st) X.env) (fun st' s₃ => wpAny (model X.prog X.w) X.A (subscriptTail a (.Slice lo hi (some st) p2) v (.ref s₃.heap.objs.size)) (EP X pins σ Q') X.xe { s₃ with heap := s₃.heap.push { cls := .type "slice", data := .fields #[vl, vu, st'] } }) X.xe s3) s2 w2 ((kr.go g1').go g2) (fun h e3 H3 F3 s3 g3 w3 vu sh3 I3 pu => ?_) pins sh2 I2) fun vu s3 ⟨h, H3, I3, pu, q3⟩ => q3 vu s3 I3 pu
  refine thn (hst R A e3 σ H3 F3 _ (fun t H4 => ∀ (vs : Value) (s4 : Shared), Inv X pins σ H4 s4 → IsPart vs t → wpAny (model X.prog X.w) X.A (subscriptTail a (.Slice lo hi (some st) p2) v (.ref s4.heap.objs.size)) (EP X pins σ Q') X.xe { s4 with heap := s4.heap.push { cls := .type "slice", data := .fields #[vl, vu, vs] } }) s3 w3 (((kr.go g1').go g2).go g3) (fun t e4 H4 F4 s4 g4 w4 vs sh4 I4 ps => ?_) pins sh3 I3) fun vs s4 ⟨t, H4, I4, ps, q4⟩ => q4 vs s4 I4 ps
  have g := ((g1'.trans g2).trans g3).trans g4
  obtain ⟨d, pd, q, _⟩ := s4.pk (hold1 e4 H4 F4 ((g2.ext.trans g3.ext).trans g4.ext) H4) w4
  cases t with
  | none => cases d <;> exact q.elim
  | some c =>
    cases d with
    | list ds =>
      obtain ⟨c0, q⟩ := q
      obtain ⟨b, xs, rfl, h1, h2⟩ := pd.lst s4.sub
      cases rx
      have I5 : Inv X pins σ H4 { sh4 with heap := sh4.heap.push { cls := .type "slice", data := .fields #[vl, vu, vs] } } := I4.kept (t' := sh4.toks) fun b ob q => Heap.get?_push_of_some _ q
      obtain ⟨its, r, hli, hz⟩ := I5.list h1
      refine tail_any (T := "list") (ops := [.ref b, .ref sh4.heap.objs.size]) hli.isList.typeIs list_getitem_lookup (sl3 I5 h1 (Heap.IsSliceOf.new ..) pl pu ps c0 fun p hp => ?_) (by with_unfolding_all rfl)
      have rp := h2.pick (sliceRange (sliceBounds l h (some c) xs.length).1 (sliceBounds l h (some c) xs.length).2.1 (sliceBounds l h (some c) xs.length).2.2)
      obtain ⟨s5, g5, rv5⟩ := s4.res g (.lst hp rp)
      refine k _ e4 _ _ _ s5 g5 rv5 ?_
      unfold pickD at q
      rw [← h2.length] at q
      exact q
    | tuple ds =>
      have q : if (decide (c = 1) && (l.isNone && h.isNone)) = true then Q (RV.v (PyData.tuple ds)) e4 else (c ≠ 0 ∧ c ≠ 1) ∧ Q (RV.v (PyData.tuple (pickT ds l h c))) e4 := q
      by_cases hc : (decide (c = 1) && (l.isNone && h.isNone)) = true
      · rw [if_pos hc] at q
        have hc' := hc
        simp only [Bool.and_eq_true, decide_eq_true_eq, Option.isNone_iff_eq_none] at hc'
        obtain ⟨rfl, rfl, rfl⟩ := hc'
        have pd0 := pd
        obtain ⟨b, xs, rfl, h1, h2⟩ := pd.tup
        cases rx
        have I5 : Inv X pins σ H4 { sh4 with heap := sh4.heap.push { cls := .type "slice", data := .fields #[vl, vu, vs] } } := I4.kept (t' := sh4.toks) fun b ob q => Heap.get?_push_of_some _ q
        obtain ⟨its, r, hti, hz⟩ := I5.tuple (s4.sub.sqT h1.sq)
        refine tail_any (T := "tuple") (ops := [.ref b, .ref sh4.heap.objs.size]) hti.typeIs PyProof.Rows.slot_tuple_getitem.lookup (tup_same hti (Heap.IsSliceOf.new ..) pl pu ps ?_) (by with_unfolding_all rfl)
        exact ⟨.ref b, _, I5, rfl, k (.v (.tuple ds)) e4 _ _ _ s4 g (Rep.tup h1 h2) q⟩
      rw [if_neg hc] at q
      obtain ⟨⟨c0, c1⟩, q⟩ := q
      obtain ⟨b, xs, rfl, h1, h2⟩ := pd.tup
      cases rx
      have I5 : Inv X pins σ H4 { sh4 with heap := sh4.heap.push { cls := .type "slice", data := .fields #[vl, vu, vs] } } := I4.kept (t' := sh4.toks) fun b ob q => Heap.get?_push_of_some _ q
      obtain ⟨its, r, hti, hz⟩ := I5.tuple (s4.sub.sqT h1.sq)
      have ln := r.length
      have vp := vals_pick r (pickIx xs.length l h c)
      have bd : ((pickIx xs.length l h c).filterMap (its.toArray[·]?)).length ≤ sizeLine := Nat.le_trans (List.length_filterMap_le _ _) (Nat.le_trans (pickIx_len c0) hz)
      have e0 : its.toArray.size = xs.length := by rw [List.size_toArray]; exact ln.symm
      refine tail_any (T := "tuple") (ops := [.ref b, .ref sh4.heap.objs.size]) hti.typeIs PyProof.Rows.slot_tuple_getitem.lookup (tup_step hti (Heap.IsSliceOf.new ..) pl pu ps c0 c1 (by rw [e0]; exact bd) ?_) (by with_unfolding_all rfl)
      rw [e0]
      have rp := h2.pick (pickIx xs.length l h c)
      have fr := I5.fresh
      obtain ⟨s5, g5, rv5⟩ := s4.res g (.tup (ob := { cls := .type "tuple", data := .seq ((pickIx xs.length l h c).filterMap (its.toArray[·]?)).toArray }) rfl fr rp)
      refine ⟨.ref _, _, laidF (tk := sh4.toks) I5 (fun _ _ e => e) (Nat.le_trans (List.length_filterMap_le _ _) (Nat.le_trans (pickIx_len c0) hz)) vp, rfl, ?_⟩
      refine k _ e4 _ _ _ s5 g5 rv5 ?_
      unfold pickT at q
      rw [← h2.length] at q
      exact q
    | _ => exact q.elim
theorem pk_hold {e : En} {r : RV} {Q : D → Prop} : pk e (hold r) Q = pk e r Q := by cases r <;> rfl
theorem RepL.erase {K : Fg} {F : Hp} : ∀ {xs : List L2.V} {ds : List D} (k : Nat), RepL K F xs ds → RepL K F (xs.eraseIdx k) (ds.eraseIdx k)
  | _, _, _, .nil => .nil
  | _, _, 0, .cons _ t => t
  | _, _, k + 1, .cons h t => .cons h (RepL.erase k t)
theorem seqIx {i : Int} {n : Nat} (h0 : 0 ≤ i) (h1 : i < n) : seqIndex? i n = some i.toNat := by
  have e : (if i < 0 then i + (n : Int) else i) = i := if_neg (by omega)
  show (if (decide (0 ≤ (if i < 0 then i + (n : Int) else i)) && decide ((if i < 0 then i + (n : Int) else i) < (n : Int))) = true then some (if i < 0 then i + (n : Int) else i).toNat else none) = some i.toNat
  rw [e, decide_eq_true h0, decide_eq_true h1]; rfl
theorem se_pop {i : Nat} {x : Str} {ix : Expr} {xi : DI.X} {px pa : Pos} (hN : X.N[i]? = some x) (hv : Vis X.env.scope x) (h1 : (x == ("__debug__" : Str)) = false) (h2 : (x == ("__classdict__" : Str)) = false) (hn : nost ix = true) (hl : (pa.endLine == pos.line) = true) (hx : SB X W G cv [ix] (.cons xi .nil)) :
    SE X W G cv (.Call (.Attribute (.Name x px) "pop" pa) [ix] [] pos) (.pop i xi) := by
  intro R A env σ H F Q Q' s w kr k
  simp only [br_iff, ls_iff, nrm_iff, bk_iff, sf_iff, wE] at w
  refine pX_of (pe_bm PySem.F.plainAttrs_list PySem.F.slot_list_pop PySem.F.type_list_pop mt_popAt (pe_var hN hv h1 h2) pa_p rfl (by rw [star1 hn]; rfl) hl (star1 hn) rfl) ?_
  obtain ⟨p, xs0, o, hH0, rl0⟩ := s.at (ownd_at w.1).choose_spec
  refine ⟨.ref p, o.1, .inl ⟨rfl, xs0, SqL.of hH0⟩, ?_⟩
  have w' : wB G (.cons xi .nil) R env fun ds e1 => match ds with
      | [.int k] => (match e1[i]? with
        | some (some (.own ds)) => (0 ≤ k ∧ k < ds.length ∧ k < 1000000) ∧ Opt ds[k.toNat]? fun d => Q (.v d) (e1.set i (some (.own (ds.eraseIdx k.toNat))))
        | some (some (.io ds)) => (0 ≤ k ∧ k < ds.length ∧ k < 1000000) ∧ Opt ds[k.toNat]? fun d => Q (.v d) (e1.set i (some (.io (ds.eraseIdx k.toNat))))
        | _ => False)
      | _ => False := by
    simp only [wB, pk_hold]
    have w2 := w.2
    refine cast (congrArg (fun f => wE G xi R env f) (funext fun r => funext fun e1 => congrArg (pk e1 r) (funext fun d => ?_))) w2
    cases d <;> rfl
  refine hx R A env σ H F _ _ s w' kr fun ds e1 vs H1 F1 s1 g1 f1 w1 => ?_
  cases f1 with
  | nil => exact w1.elim
  | cons r1 r2 =>
    cases r2 with
    | cons _ _ =>
      split at w1
      · rename_i hh; cases hh
      · exact w1.elim
    | nil =>
      rename_i d
      cases d with
      | int kk =>
        have e := r1.int; subst e
        simp only at w1
        split at w1
        · rename_i ds hd
          obtain ⟨⟨c0, c1, c2⟩, d, hj, q⟩ := w1
          obtain ⟨p', xs, o', hH, rl⟩ := s1.at (.inl hd)
          have := o'.1; rw [o.1] at this; cases this
          obtain ⟨y, hy, ry⟩ := rl.get hj
          obtain ⟨s4, g4⟩ := (s1.chg g1 o' (rl.erase kk.toNat)).1 ds hd
          exact ⟨p, xs, kk, kk.toNat, y, rfl, rfl, hH, by omega, by omega, seqIx c0 (by rw [rl.length]; exact c1), hy, k (.v d) _ y _ F1 s4 g4 ry q⟩
        · rename_i ds hd
          obtain ⟨⟨c0, c1, c2⟩, d, hj, q⟩ := w1
          obtain ⟨p', xs, o', hH, rl⟩ := s1.at (.inr hd)
          have := o'.1; rw [o.1] at this; cases this
          obtain ⟨y, hy, ry⟩ := rl.get hj
          obtain ⟨s4, g4⟩ := (s1.chg g1 o' (rl.erase kk.toNat)).2 ds hd
          exact ⟨p, xs, kk, kk.toNat, y, rfl, rfl, hH, by omega, by omega, seqIx c0 (by rw [rl.length]; exact c1), hy, k (.v d) _ y _ F1 s4 g4 ry q⟩
        · exact w1.elim
      | _ => exact w1.elim
theorem Rv.keep {K : Fg} {A : AT} {H0 H1 F1 H2 F2 : Hp} {e1 e2 : En} {σ : L2.St} {x : L2.V} {ds : List D} (rv : Rv K H0 e1 σ H1 F1 x (.own ds)) (g : Go e1 σ H1 F1 e2 σ H2 F2) : Rv K H0 e2 σ H2 F2 x (.own ds) := by
  obtain ⟨p, xs, rfl, h2, h3, h4, h5, h6⟩ := rv
  refine ⟨p, xs, rfl, g.new p h2 (by rw [h3]; simp) h6, g.frm p _ h3 h6 nt_lst, h4.mono g.ext, h5, fun i o => ?_⟩
  rcases g.own i p o with z | ⟨j, z⟩
  · rw [h3] at z; cases z
  · exact h6 j z
theorem putS_eq {e : En} {i : Nat} {s : SV} {Q : En → Prop} (h : putS e i s Q) : putS e i s (fun e' => e' = e.set i (some s) ∧ Q e') := ⟨h.1, ⟨⟨rfl, h.2.out⟩⟩⟩
theorem owns_set {e : En} {σ : L2.St} {i j : Nat} {p : Addr} {s : SV} {x : L2.V} (o : Owns (e.set i (some s)) (σ.set i (some x)) j p) : (j = i ∧ x = .ref p) ∨ Owns e σ j p := by
  obtain ⟨h1, ds, h2⟩ := o
  by_cases hj : j = i
  · subst hj
    refine .inl ⟨rfl, ?_⟩
    rw [List.getElem?_set] at h1
    simp only [if_true] at h1
    split at h1
    · injection h1 with h1; injection h1
    · cases h1
  · rw [List.getElem?_set_ne (Ne.symm hj)] at h1 h2
    exact .inr ⟨h1, ds, h2⟩
theorem ss_par2o {i j : Nat} {x y : Str} {a b : Expr} {xa xb : DI.X} {px py pt : Pos} {kt k2 : Nat} {pt2 : Pos} (hc : X.calm = true) (hN : X.N.Nodup) (hi : X.N[i]? = some x) (hj : X.N[j]? = some y) (hij : i ≠ j)
    (hx : X.env.scope.names.lookup x = some .local) (hy : X.env.scope.names.lookup y = some .local) (na : nost a = true) (nb : nost b = true) (ha : SE X W G cv a xa) (hb : SE X W G cv b xb)
    (hw : swappedStores [.Tuple [.Name x px, .Name y py] kt pt] (.Tuple [a, b] k2 pt2) X.env = pure (some [x, y])) :
    SS X W G cv (.Assign [.Tuple [.Name x px, .Name y py] kt pt] (.Tuple [a, b] k2 pt2) pos) (.par2 i j xa xb) := by
  intro R A env σ H F Q D s w kr k
  simp only [br_iff, ls_iff, nrm_iff, bk_iff, sf_iff, wS] at w
  refine pS_of (ps_par hc hN hi hj hij hx hy (pa_cons pe_p (pa_cons pe_p pa_nil (star1 nb)) (star1 na)) hw rfl) ?_
  refine ha R A env σ H F _ _ s w kr.kr fun ra e1 v H1 F1 s1 g1 rv1 w1 => ?_
  refine hb R A e1 σ H1 F1 _ _ s1 w1 (kr.kr.go g1) fun rb e2 v2 H2 F2 s2 g2 rv2 w2 => ?_
  refine ⟨v, v2, rfl, ?_⟩
  have g := g1.trans g2
  have fin : ∀ {e3 : En} (rb : RV) (r : (∃ d, rb = .v d ∧ Rep X.K F2 v2 d) ∨ ∃ ds, rb = .own ds ∧ Rv X.K H e3 (σ.set i (some v)) H2 F2 v2 (.own ds)), Sta X.K cv A e3 (σ.set i (some v)) H2 F2 → Go env σ H F e3 (σ.set i (some v)) H2 F2 → putR e3 j rb (fun e4 => Q .nx e4) → D.nx ((σ.set i (some v)).set j (some v2)) H2 := by
    intro e3 rb r s3 g3 q
    rcases r with ⟨d, rfl, rd⟩ | ⟨ds, rfl, ro⟩
    · obtain ⟨e4, q4, s4, g4⟩ := s3.putV g3 rd (show putS e3 j (.v d) (fun e4 => Q .nx e4) from q)
      exact k .nx e4 _ H2 F2 s4 g4 q4
    · obtain ⟨e4, q4, s4, g4⟩ := s3.putO g3 ro (show putS e3 j (.own ds) (fun e4 => Q .nx e4) from q)
      exact k .nx e4 _ H2 F2 s4 g4 q4
  cases ra with
  | bor _ => exact w2.elim
  | v d =>
    have rd : Rep X.K F2 v d := Rep.mono g2.ext rv1
    cases rb with
    | bor _ => exact w2.elim
    | v d2 =>
      obtain ⟨e3, ⟨rfl, q3⟩, s3, g3⟩ := s2.putV g rd (putS_eq (show putS e2 i (.v d) (fun e3 => putR e3 j (.v d2) fun e4 => Q .nx e4) from w2))
      exact fin _ (.inl ⟨d2, rfl, rv2⟩) s3 g3 q3
    | own ds2 =>
      obtain ⟨e3, ⟨rfl, q3⟩, s3, g3⟩ := s2.putV g rd (putS_eq (show putS e2 i (.v d) (fun e3 => putR e3 j (.own ds2) fun e4 => Q .nx e4) from w2))
      refine fin _ (.inr ⟨ds2, rfl, ?_⟩) s3 g3 q3
      obtain ⟨p, xs, h1, h2, h3, h4, h5, h6⟩ := rv2
      refine ⟨p, xs, h1, h2, h3, h4, g1.liv _ h5, fun l o => ?_⟩
      rcases owns_set o with ⟨rfl, e⟩ | o
      · obtain ⟨_, d0, z⟩ := o
        rw [List.getElem?_set] at z
        simp only [if_true] at z
        split at z
        · rcases z with z | z <;> (injection z with z; injection z with z; cases z)
        · rcases z with z | z <;> cases z
      · exact h6 l o
  | own ds1 =>
    have ro : Rv X.K H e2 σ H2 F2 v (.own ds1) := Rv.keep (A := A) rv1 g2
    cases rb with
    | bor _ => exact w2.elim
    | v d2 =>
      obtain ⟨e3, ⟨rfl, q3⟩, s3, g3⟩ := s2.putO g ro (putS_eq (show putS e2 i (.own ds1) (fun e3 => putR e3 j (.v d2) fun e4 => Q .nx e4) from w2))
      exact fin _ (.inl ⟨d2, rfl, rv2⟩) s3 g3 q3
    | own ds2 =>
      obtain ⟨e3, ⟨rfl, q3⟩, s3, g3⟩ := s2.putO g ro (putS_eq (show putS e2 i (.own ds1) (fun e3 => putR e3 j (.own ds2) fun e4 => Q .nx e4) from w2))
      refine fin _ (.inr ⟨ds2, rfl, ?_⟩) s3 g3 q3
      obtain ⟨p, xs, h1, h2, h3, h4, h5, h6⟩ := rv2
      obtain ⟨p1, xs1, k1, k2, k3, k4, k5, k6⟩ := rv1
      refine ⟨p, xs, h1, h2, h3, h4, g1.liv _ h5, fun l o => ?_⟩
      rcases owns_set o with ⟨rfl, e⟩ | o
      · rw [k1] at e; injection e with e; subst e
        rw [k3] at h5; cases h5
      · exact h6 l o
end
end DI
namespace DI
open PySem L2
open PyProof.Rows hiding St
section
variable {X : Cx} {W : WX} {G : Nat → Fn} {cv : CV} {pos : Pos}
theorem se_dct : SE X W G cv (.Dict [] [] pos) .dct := by
  intro R A env σ H F Q Q' s w kr k
  refine pX_of pe_dnewK fun p hp => ?_
  obtain ⟨s1, g1⟩ := s.mkT (.dK []) hp
  exact k (.v (.dict [])) env _ _ _ s1 g1 (.dic upd_same) w
/-- two targets, one behind the other -/
theorem ss_asg2 {t1 t2 e : Expr} {t u : Tg} {x : DI.X} (hw : swappedStores [t1, t2] e X.env = pure none) (h1 : (assignEach [t1, t2] X.env).map (·.2) = [assign t1 X.env, assign t2 X.env]) (he : SE X W G cv e x) (ht : TGo X t1 t) (hu : TGo X t2 u) : SS X W G cv (.Assign [t1, t2] e pos) (.asg2 t u x) := by
  intro R A env σ H F Q D s w kr k
  simp only [br_iff, ls_iff, nrm_iff, bk_iff, sf_iff, wS] at w
  refine pS_of (ps_asg2 pe_p pg_p pg_p h1 hw) ?_
  refine he R A env σ H F _ _ s w kr.kr fun r e1 v H1 F1 s1 g1 rv1 w1 => ?_
  obtain ⟨d, e2, F2, q, s2, g2, rd⟩ := s1.settle g1 rv1 w1
  refine ht cv A env e2 σ σ H F H1 F2 d v _ _ s2 g2 rd q fun e3 σ3 s3 g3 _ _ q3 => ?_
  exact hu cv A env e3 σ σ3 H F H1 F2 d v _ _ s3 g3 rd q3 fun e4 σ4 s4 g4 _ _ q4 => k .nx e4 σ4 H1 F2 s4 g4 q4
theorem star_run {pins : List (Addr × Obj)} {s : Shared} {σ : L2.St} {H : Hp} {a : Addr} {xs : List L2.V} {k : Nat} {Q : List Value → Shared → Prop} (I : Inv X pins σ H s) (hc : X.calm = true) (hq : SqT X.K H a xs) (hk : k ≤ xs.length)
    (q : ∀ us D s', Inv X pins σ (upd H D (.lst (xs.drop k))) s' → H D = none → Vals (xs.take k) us → Q (us ++ [.ref D]) s') : wpAny (model X.prog X.w) X.A (unpackItems (.ref a) (k + 1) (some k)) Q X.xe s := by
  obtain ⟨its, rv, ht, hz⟩ := I.tuple hq
  have hl := rv.length
  have hh : X.A.handled = none := I.ok.hd hc
  have ht' : s.heap.IsTuple a its.toArray := ht
  have lt : a ≠ s.heap.objs.size := by obtain ⟨o, ho, _⟩ := ht'; exact Nat.ne_of_lt (Heap.lt_size ho)
  unfold unpackItems
  refine wpAny_bind ?_
  unfold notIterableAtAll
  refine wpAny_bind (wpAny_specialOf ht'.typeIs PySem.F.slot_tuple_iter.lookup (wpAny_pure ?_))
  simp only [Bool.false_eq_true, if_false]
  refine wpAny_bind (wpAny_holding (wpAny_pyIter_tuple ht' (wpAny_bind (wpAny_holding ?_))))
  refine wpAny_draw_tuple lt k 0 _ _ ⟨_, Heap.get?_push_size _ rfl, rfl, rfl⟩ (ht'.push _) (by rw [List.size_toArray]; omega) fun h₁ st₁ sb₁ => ?_
  have ht₁ : h₁.IsTuple a its.toArray := (ht'.push _).extBut sb₁.extBut lt
  rw [Nat.zero_add] at st₁
  obtain ⟨o1, ho1, _⟩ := id st₁
  obtain ⟨o2, ho2, _⟩ := id ht₁
  have e0 : List.take k (List.drop 0 its.toArray.toList) = its.take k := by rw [List.drop_zero]
  rw [e0]
  have len1 : (its.take k).length = k := by rw [List.length_take]; omega
  rw [if_neg (by rw [len1]; exact Nat.lt_irrefl _)]
  refine wpAny_bind (wpAny_holding (PySem.W.kun_collect (s := { s with heap := h₁ }) (T := "tuple_iterator") (.inr (.inr (.inr rfl))) (Walks.tuple (A := X.A.in1) hh s.heap.objs.size a lt its.toArray) (fun j u st => st.1.typeIs) (k := k) (by rw [List.size_toArray]; omega) ⟨st₁, ht₁⟩ (Heap.lt_size ho1) (Heap.lt_size ho2) (fun h₂ tk hk2 => ?_) (by rw [List.size_toArray]; omega)))
  have e1 : its.toArray.toList.drop k = its.drop k := rfl
  rw [e1]
  have z0 : k + 1 - 1 - k = 0 := by omega
  show wpAny _ _ (if (its.drop k).length < k + 1 - 1 - k then _ else _) _ _ _
  rw [z0, if_neg (Nat.not_lt_zero _)]
  show wpAny _ _ (newList ((its.drop k).take ((its.drop k).length - 0)) >>= fun d => pure (its.take k ++ [d] ++ (its.drop k).drop ((its.drop k).length - 0))) _ _ _
  rw [Nat.sub_zero, List.take_length, List.drop_length]
  have ext : ∀ b o, s.heap.get? b = some o → h₂.get? b = some o := fun b o e => by
    have nb := Nat.ne_of_lt (Heap.lt_size e)
    exact hk2 b o nb (sb₁.extBut b o nb (Heap.get?_push_of_some _ e))
  have I2 : Inv X pins σ H { s with heap := h₂, toks := tk } := I.kept (t' := tk) ext
  have v1 : Vals (xs.drop k) (its.drop k) := rv.drop k
  have v2 : Vals (xs.take k) (its.take k) := rv.take k
  refine wpAny_bind (wpAny_newList (wpAny_pure ?_) ?_)
  · have I3 := I2.lnew (t' := tk) v1 (by rw [List.length_drop]; omega)
    rw [List.append_nil]
    exact q _ _ _ I3 I2.fresh v2
  · rw [List.length_drop]; omega
/-- heads, and a name with a star that takes the rest -/
def TGst (X : Cx) (ts : List Expr) (t : Tg) (i : Nat) : Prop := ∀ (cv : CV) (A : AT) (e0 e : En) (σ0 σ : L2.St) (H0 F0 H F : Hp) (ds dr : List D) (vs : List L2.V) (v : L2.V) (Q : En → Prop) (Q' : L2.St → Hp → Prop), Sta X.K cv A e σ H F → Go e0 σ0 H0 F0 e σ H F → RepL X.K F vs ds → Rv X.K H0 e σ H F v (.own dr) →
  (tgW t ds e fun e1 => putS e1 i (.own dr) Q) → (∀ e' σ', Sta X.K cv A e' σ' H F → Go e0 σ0 H0 F0 e' σ' H F → Q e' → Q' σ' H) → pGs X ts (vs ++ [v]) σ H Q'
theorem tgst_nil {y : Str} {py ps : Pos} {i : Nat} (hN : X.N.Nodup) (hi : X.N[i]? = some y) (hx : L2.Loc X.env.scope y) (hf : X.fn y = true ∨ X.env.scope.names.lookup y = some .local) : TGst X [.Starred (.Name y py) ps] .nil i := by
  intro cv A e0 e σ0 σ H0 F0 H F ds dr vs v Q Q' s g r rv w k
  match ds, r, w with
  | [], .nil, w =>
    have p : PGs X [.Starred (.Name y py) ps] (gCons (gName i) gNil) := ⟨(pgs_cons (pg_name (pos := py) hN hi hx hf) pgs_nil).run⟩
    refine pGs_of p ⟨v, [], rfl, ?_⟩
    obtain ⟨e3, q3, s3, g3⟩ := s.putO g rv w
    exact ⟨rfl, k e3 _ s3 g3 q3⟩
theorem own_keep {K : Fg} {cv : CV} {A : AT} {H0 H F : Hp} {e e1 : En} {σ σ1 : L2.St} {v : L2.V} {dr : List D} (s : Sta K cv A e σ H F) (s1 : Sta K cv A e1 σ1 H F) (rv : Rv K H0 e σ H F v (.own dr)) (h : ∀ i p, Owns e1 σ1 i p → (∃ j, Owns e σ j p) ∨ H p = none) : Rv K H0 e1 σ1 H F v (.own dr) := by
  obtain ⟨p, xs, rfl, h2, h3, h4, h5, h6⟩ := rv
  refine ⟨p, xs, rfl, h2, h3, h4, h5, fun i o => ?_⟩
  rcases h i p o with ⟨j, z⟩ | z
  · exact h6 j z
  · rw [h3] at z; cases z
theorem tgst_cons {t : Expr} {ts : List Expr} {x xs : Tg} {i : Nat} (hn : nost t = true) (h1 : TGo X t x) (h2 : TGst X ts xs i) : TGst X (t :: ts) (.cons x xs) i := by
  intro cv A e0 e σ0 σ H0 F0 H F ds dr vs v Q Q' s g r rv w k
  match ds, vs, r, w with
  | d :: ds, u :: us, .cons r1 r2, w =>
    refine pGs_of (pgs_cons pg_p pgs_p (by cases t <;> first | rfl | cases hn)) ⟨u, us ++ [v], rfl, ?_⟩
    refine h1 cv A e e σ σ H F H F d u _ _ s .refl r1 w fun e1 σ1 s1 g1 c1 l1 w1 => ?_
    have rv1 : Rv X.K H0 e1 σ1 H F v (.own dr) := own_keep s s1 rv fun j p o => (g1.own j p o).symm
    exact h2 cv A e0 e1 σ0 σ1 H0 F0 H F ds dr us v Q Q' s1 (g.trans g1) r2 rv1 w1 k
theorem star_asg {elts : List Expr} {k kk : Nat} {p : Pos} {t : Tg} {i : Nat} (hc : X.calm = true) (hl : (assignEach elts X.env).length = k + 1) (hf : (assignEach elts X.env).findIdx? (·.1) = some k) (ht : TGst X elts t i) (hk : tgN t = k)
    {A : AT} {e0 e : En} {σ0 σ : L2.St} {H0 F0 H F : Hp} {ds : List D} {v : L2.V} {Q : En → Prop} {Q' : L2.St → Hp → Prop} (s : Sta X.K cv A e σ H F) (g : Go e0 σ0 H0 F0 e σ H F) (r : Rep X.K F v (.tuple ds)) (hd : tgN t ≤ ds.length)
    (w : tgW t (ds.take (tgN t)) e fun e3 => putS e3 i (.own (ds.drop (tgN t))) Q) (q : ∀ e' σ' H' F', Sta X.K cv A e' σ' H' F' → Go e0 σ0 H0 F0 e' σ' H' F' → Q e' → Q' σ' H') : pG X (.Tuple elts kk p) v σ H Q' := by
  intro pins sh u I ru
  cases r with
  | tup h1 h2 =>
    rename_i a xs
    cases ru
    have hq := s.sub.sqT h1.sq
    have hlen := h2.length
    rw [hk] at hd w
    show wpAny _ _ (do standAt p; unpack (.ref a) (assignEach elts X.env)) _ _ _
    refine wpAny_bind (wpAny_standAt ?_)
    unfold unpack
    rw [hl, hf]
    refine wpAny_bind (wpAny_holding (star_run I hc hq (by omega) fun us D s' I' hD vv => ?_))
    obtain ⟨s1, g1⟩ := s.mkL (.lst (xs.drop k)) hD
    have rv : Rv X.K H0 e σ (upd H D (.lst (xs.drop k))) F (.ref D) (.own (ds.drop k)) := ⟨D, xs.drop k, rfl, s.free hD, upd_same, h2.drop k, g.liv D hD, fun j o => s.noOwn hD j o⟩
    refine ht cv A e0 e σ0 σ H0 F0 _ F (ds.take k) (ds.drop k) (xs.take k) (.ref D) Q Q' s1 (g.trans g1) (h2.take k) rv w (fun e' σ' s' g' q' => q e' σ' _ F s' g' q') pins s' _ I' (Vals.append vv (.cons rfl .nil))
theorem ss_star {elts : List Expr} {e : Expr} {k kk : Nat} {p : Pos} {t : Tg} {i : Nat} {x : DI.X} (hc : X.calm = true) (hs : swapsWithSole [.Tuple elts kk p] e pos.line X.env = pure false) (hw : swappedStores [.Tuple elts kk p] e X.env = pure none)
    (hl : (assignEach elts X.env).length = k + 1) (hf : (assignEach elts X.env).findIdx? (·.1) = some k) (ht : TGst X elts t i) (hk : tgN t = k) (he : SE X W G cv e x) : SS X W G cv (.Assign [.Tuple elts kk p] e pos) (.star t i x) := by
  intro R A env σ H F Q D s w kr k'
  simp only [br_iff, ls_iff, nrm_iff, bk_iff, sf_iff, wS] at w
  refine pS_of (ps_asg pe_p pg_p hs hw rfl) ?_
  refine he R A env σ H F _ _ s w kr.kr fun r e1 v H1 F1 s1 g1 rv1 w1 => ?_
  obtain ⟨d, e2, F2, q, s2, g2, rd⟩ := s1.settle g1 rv1 w1
  cases d with
  | tuple ds => exact star_asg hc hl hf ht hk s2 g2 rd q.1 q.2 fun e3 σ3 H3 F3 s3 g3 q3 => k' .nx e3 σ3 H3 F3 s3 g3 q3
  | _ => exact q.elim
theorem op_ne0 (hu : X.A.units < cLine) : OpR X (compareOp .NotEq) (fun x y H Q => ∃ a b xs, x = .ref a ∧ y = .ref b ∧ SqT X.K H a xs ∧ SqT X.K H b [] ∧ Q (.bl (!xs.isEmpty)) H) := by
  rintro pins s σ H x y v u Q I rx ry ⟨a, b, xs, rfl, rfl, ha, hb, q⟩
  cases rx; cases ry
  obtain ⟨its, r1, p1, _⟩ := I.tuple ha
  obtain ⟨its2, r2, p2, _⟩ := I.tuple hb
  cases r2
  have e : (!((List.range (min its.toArray.size ([] : List Value).toArray.size)).all (fun _ => true) && its.toArray.size == ([] : List Value).toArray.size)) = !xs.isEmpty := by
    have hl := r1.length
    cases xs with
    | nil => cases r1; rfl
    | cons c l =>
      cases r1
      simp
  refine SeqAt.RcNeAt.tuples (e := fun _ => true) (show s.heap.IsTuple a its.toArray from p1) (show s.heap.IsTuple b ([] : List Value).toArray from p2) hu (fun j _ h2 => absurd h2 (Nat.not_lt_zero _)) X.prog X.w X.xe _ ?_
  rw [e]
  exact ⟨.bl _, H, I, rfl, q⟩
theorem ne0_w {xa : DI.X} {R : Nat → En → Prop} {env : En} {Q : RV → En → Prop} (w : wE G (.neT xa) R env Q) : wE G xa R env fun ra e1 => wE G (.tup .nil) R e1 fun rb e2 => rb = .v (.tuple []) ∧ pk e2 (hold ra) fun d => (match d with
    | .tuple xs => Q (.v (.bool (!xs.isEmpty))) e2
    | _ => False) := by
  refine cast (congrArg (fun f => wE G xa R env f) (funext fun ra => funext fun e1 => propext ?_)) w
  (simp only [wE, wA, resD, List.length_nil, Nat.zero_le, true_and, pk_hold]) <;> (refine iff_of_eq (congrArg (pk e1 ra) (funext fun d => ?_)); cases d <;> rfl)
theorem se_neT (hu : X.A.units + 65 < cLine) {a : Expr} {xa : DI.X} {k : Nat} {p : Pos} (ha : SE X W G cv a xa) : SE X W G cv (.Compare a [.NotEq] [.Tuple [] k p] pos) (.neT xa) := by
  intro R A env σ H F Q Q' s w kr k'
  refine pX_of (pe_cmpR so2_ok pe_p pe_p rfl) ?_
  have hb : SE X W G cv (.Tuple [] k p) (.tup .nil) := se_tup sal_nil.sa
  refine two ha hb s (ne0_w w) kr fun ra rb e2 x y H2 F2 s2 g2 r1 r2 _ q => ?_
  obtain ⟨rfl, q⟩ := q
  obtain ⟨dx, p1, q, _⟩ := s2.pk r1 q
  cases dx with
  | tuple ds =>
    obtain ⟨b, xs, rfl, h1, h2⟩ := p1.tup
    cases r2 with
    | tup h3 h4 =>
      cases h4
      refine so2_of (op_ne0 (by omega)) ⟨b, _, xs, rfl, rfl, s2.sub.sqT h1, s2.sub.sqT h3, ?_⟩
      have e : xs.isEmpty = ds.isEmpty := by cases h2 <;> rfl
      rw [e]
      exact k' (.v (.bool _)) _ _ _ _ s2 g2 (Rep.bl _) q
  | _ => exact q.elim
theorem st_neT (hu : X.A.units + 65 < cLine) {a : Expr} {xa : DI.X} {k : Nat} {p : Pos} (ha : SE X W G cv a xa) : ST X W G cv (.Compare a [.NotEq] [.Tuple [] k p] pos) (.tx (.neT xa)) := by
  intro R A env σ H F Q Q' s w kr k'
  refine pT_of (pt_cmpR so2_ok pe_p pe_p rfl) ?_
  have hb : SE X W G cv (.Tuple [] k p) (.tup .nil) := se_tup sal_nil.sa
  have w' : wE G (.neT xa) R env fun r e1 => tru e1 r fun k => Q k e1 := by simpa only [wT] using w
  refine two ha hb s (ne0_w w') kr fun ra rb e2 x y H2 F2 s2 g2 r1 r2 _ q => ?_
  obtain ⟨rfl, q⟩ := q
  obtain ⟨dx, p1, q, _⟩ := s2.pk r1 q
  cases dx with
  | tuple ds =>
    obtain ⟨b, xs, rfl, h1, h2⟩ := p1.tup
    cases r2 with
    | tup h3 h4 =>
      cases h4
      refine so2_of (op_ne0 (by omega)) ⟨b, _, xs, rfl, rfl, s2.sub.sqT h1, s2.sub.sqT h3, ?_⟩
      have e : xs.isEmpty = ds.isEmpty := by cases h2 <;> rfl
      rw [e]
      exact ⟨_, rfl, k' _ _ _ _ s2 g2 q.2⟩
  | _ => exact q.elim
end
end DI
namespace DI
open PySem L2
open PyProof.Rows hiding St
theorem nodup_le {α : Type} [DecidableEq α] : ∀ (l m : List α), l.Nodup → (∀ x ∈ l, x ∈ m) → l.length ≤ m.length
  | [], _, _, _ => Nat.zero_le _
  | a :: r, m, nd, h => by
    have ha : a ∈ m := h a List.mem_cons_self
    have n1 := List.nodup_cons.mp nd
    have i := nodup_le r (m.erase a) n1.2 fun x hx => by
      refine (List.mem_erase_of_ne ?_).mpr (h x (List.mem_cons_of_mem _ hx))
      rintro rfl; exact n1.1 hx
    rw [List.length_erase_of_mem ha] at i
    have : 0 < m.length := List.length_pos_of_mem ha
    rw [List.length_cons]; omega
theorem uniq_mem : ∀ {l : List (List Int)} {k : List Int}, k ∈ uniq l ↔ k ∈ l
  | [], _ => Iff.rfl
  | a :: r, k => by
    unfold uniq
    split
    · rename_i h
      have h : a ∈ r := by simpa using h
      rw [uniq_mem, List.mem_cons]
      exact ⟨.inr, fun z => z.elim (fun e => e ▸ h) id⟩
    · rw [List.mem_cons, List.mem_cons, uniq_mem]
theorem uniq_nd : ∀ {l : List (List Int)}, (uniq l).Nodup
  | [] => List.nodup_nil
  | a :: r => by
    unfold uniq
    split
    · exact uniq_nd
    · rename_i h
      refine List.nodup_cons.mpr ⟨fun z => h ?_, uniq_nd⟩
      simpa using uniq_mem.mp z
theorem uniq_len {l ks : List (List Int)} (nd : l.Nodup) (h1 : ∀ k ∈ l, k ∈ ks) (h2 : ∀ k ∈ ks, k ∈ l) : l.length = (uniq ks).length :=
  Nat.le_antisymm (nodup_le _ _ nd fun k hk => uniq_mem.mpr (h1 k hk)) (nodup_le _ _ uniq_nd fun k hk => h2 k (uniq_mem.mp hk))
abbrev setO (w : World) : Obj := { cls := .type "set", dict := none, data := .set #[] 0 (.fresh 0 0 (!w.params.followText "set-order")) }
section
variable {P : Program} {w : World} {A : Around} {E : Value → Shared → Prop} {s : Shared}
theorem set_tup {l : Addr} {items : Array Value} (ks : List (Addr × List Int)) {Q : Value → Shared → Prop} (hh : A.handled = none) (hl : s.heap.IsTuple l items)
    (hit : items.toList = ks.map fun p => Value.ref p.1) (hk : ∀ p ∈ ks, IsT P w s.heap p.2 p.1) (hfew : ks.length < 64) (hu : A.units + 3 < cLine)
    (h : ∀ (h' : Heap) (tk : Nat) L es ep t, SetTR P w h' s.heap.objs.size L es ep t → Got ks ks.length L → (∀ b o, s.heap.get? b = some o → h'.get? b = some o) → Q (.ref s.heap.objs.size) { s with heap := h', toks := tk }) :
    wpAny (model P w) A (call (.type "set") [.ref l]) Q E s := by
  have hz : items.size = ks.length := by rw [← Array.length_toList, hit, List.length_map]
  obtain ⟨c, tl, hmro⟩ := F.called_set.mro
  have hmade := F.called_set.made
  have hsub := F.called_set.sub
  refine wpAny_call (codeAny_of_tree (?_ : wpAny _ _ (callAny (.type "set") _) _ _ _))
  refine wpAny_pure ⟨Code.quiet_builtin _ (by decide +kernel), codeAny_builtin F.entry_type_call (by
    rw [Around.under_plain (weight_type_call_type "set" [.ref l] []) rfl]
    have h1 := F.called_set.notType
    have h2 := F.called_set.canCreate
    have hct := F.typeCall_set_1 (.ref l)
    repeat (any_goals (first | assumption | wp_step))
    refine codeAny_mono (code_set_led1 (.ref l) (E := E) (Q₁ := fun obj s₁ => obj = .ref s.heap.objs.size ∧ s₁ = { s with heap := s.heap.push (setO w) }) ⟨rfl, rfl⟩) fun r s₁ hr => ?_
    cases r with
    | error e => exact hr
    | ok fl =>
      cases fl with
      | ret obj =>
        obtain ⟨rfl, rfl⟩ := hr
        have hS : (s.heap.push (setO w)).get? s.heap.objs.size = some (setO w) := Heap.get?_push_size _ rfl
        have hT : Shared.TypeIs { s with heap := s.heap.push (setO w) } (.ref s.heap.objs.size) "set" := ⟨_, hS, rfl⟩
        have hli := F.called_set.init.lookup
        have hbi := F.called_set.init.bind (.ref s.heap.objs.size)
        repeat (any_goals (first | assumption | wp_step))
        refine codeAny_mono (codeAny_call_builtin (R := wants (fun r s₂ => r = .none ∧ ∃ h' tk L es ep t, s₂ = { s with heap := h', toks := tk } ∧ SetTR P w h' s.heap.objs.size L es ep t ∧ Got ks ks.length L ∧ (∀ b o, s.heap.get? b = some o → h'.get? b = some o)) E)
          F.called_set.init.plain F.entry_set_init (check_set_init_1 hT ?_)) fun r₂ s₂ hr₂ => ?_
        · obtain ⟨⟨ocls, odict, odata, oslots⟩, hol, hcl, nl, hdl⟩ := hl
          simp only at hcl hdl
          subst hcl hdl
          have hlS : l < s.heap.objs.size := Heap.lt_size hol
          have hsls := F.sub_tuple_set
          have hslf := F.sub_tuple_frozenset
          have hol' : (s.heap.push (setO w)).get? l = some { cls := .type "tuple", dict := odict, data := .seq items nl, slots := oslots } := Heap.get?_push_of_some _ hol
          have hne : (Value.type "tuple" == Value.type "dict") = false := by decide
          have hl1 : (s.heap.push (setO w)).IsTuple l items := ⟨_, hol', rfl, nl, rfl⟩
          unfold Builtin.«set.__init__» noKeywords Builtin.Frozenset.updateFrom
          generalize hPI : pyIter = PI
          wp_walk
          subst hPI
          refine wpAny_pyIter_tuple hl1 (wpAny_bind (wpAny_runValue ?_))
          have zS : (s.heap.push (setO w)).objs.size = s.heap.objs.size + 1 := Heap.size_push ..
          have none_of : ∀ b, s.heap.objs.size ≤ b → s.heap.get? b = none := fun b hb => by
            cases q : s.heap.get? b with
            | none => rfl
            | some o => exact absurd (Heap.lt_size q) (Nat.not_lt.mpr hb)
          refine set_update_tups ((Walks.tuple (by simp [hh]) _ l (Nat.ne_of_lt (by rw [zS]; exact Nat.lt_succ_of_lt hlS)) items).toS) s.heap.objs.size (by rw [zS]; simp only [List.mem_cons, List.not_mem_nil, or_false, not_or]; exact ⟨Nat.ne_of_lt (Nat.lt_succ_self _), Nat.ne_of_gt hlS⟩) ks hz hfew
            (fun i v hv => ?hv) s.heap hk (none_of _ (Nat.le_refl _)) (fun b hb => none_of b (by rw [List.mem_singleton.mp hb, zS]; exact Nat.le_succ _)) hu (items.size - 0) 0 _ (by omega) (Nat.zero_le _)
            ⟨⟨_, Heap.get?_push_size _ rfl, rfl, rfl⟩, (hl1.push _)⟩ (fun b o e => Heap.get?_push_of_some _ (Heap.get?_push_of_some _ e)) ?h0 ?hR
          case hv =>
            have q : items.toList[i]? = some v := by rw [Array.getElem?_toList]; exact hv
            rw [hit, List.getElem?_map] at q
            obtain ⟨p, h1, h2⟩ := Option.map_eq_some_iff.mp q
            exact ⟨p, h1, h2.symm⟩
          case h0 => exact ⟨[], #[], 0, _, setTR_fresh (Heap.get?_push_of_some _ hS), Got.zero ks⟩
          case hR =>
            rintro ⟨h', g2, d', tk', os'⟩ L es ep t hm hS' g' hkp
            have eg : g2 = s.gens := hm.gens
            have ed : d' = s.drawn := hm.drawn
            have eo : os' = s.os := hm.os
            subst eg ed eo
            refine wpAny_pure (?_ : wpAny _ _ (ret Value.none) _ _ _)
            rw [hz] at g'
            exact wpAny_pure ⟨rfl, h', tk', L, es, ep, t, rfl, hS', g', hkp⟩
        · cases r₂ with
          | error e => exact hr₂
          | ok fl₂ =>
            cases fl₂ with
            | ret r =>
              obtain ⟨rfl, h', tk, L, es, ep, t, rfl, hS', g', hk'⟩ := hr₂
              repeat (any_goals (first | assumption | wp_step))
              exact h _ _ _ _ _ _ hS' g' hk'
            | _ => exact hr₂.elim
      | _ => exact hr.elim)⟩
end
section
variable {X : Cx} {W : WX} {G : Nat → Fn} {cv : CV} {pos : Pos}
/-- a row of rows of ints -/
def RowsAt (K : Fg) (H : Hp) (l : Addr) (ks : List (List Int)) : Prop :=
  ∃ ps : List (Addr × List Int), (SqL K H l (ps.map fun p => V.ref p.1) ∨ SqT K H l (ps.map fun p => V.ref p.1)) ∧ (∀ p ∈ ps, SqT K H p.1 (p.2.map V.int)) ∧ ps.map (·.2) = ks
theorem RepL.rows {K : Fg} {F : Hp} : ∀ {xs : List L2.V} {ds : List D} {ks : List (List Int)}, RepL K F xs ds → rowsOf ds = some ks → ∃ ps : List (Addr × List Int), xs = ps.map (fun p => V.ref p.1) ∧ (∀ p ∈ ps, SqT K F p.1 (p.2.map V.int)) ∧ ps.map (·.2) = ks
  | _, _, _, .nil, e => by cases e; exact ⟨[], rfl, fun _ h => (nomatch h), rfl⟩
  | _, _, _, .cons h t, e => by
    simp only [rowsOf] at e
    split at e
    · rename_i k ks' e1 e2
      cases e
      obtain ⟨ps, h1, h2, h3⟩ := RepL.rows t e2
      cases h with
      | tup hs hr =>
        have e3 := hr.ints e1
        subst e3
        exact ⟨(_, k) :: ps, by rw [h1]; rfl, fun p hp => by
          rcases List.mem_cons.mp hp with rfl | hp
          · exact hs.sq
          · exact h2 p hp, by rw [List.map_cons, h3]⟩
      | _ => cases e1
    · cases e
theorem pk_rows {K : Fg} {H F : Hp} {x : L2.V} {d : D} {xs : List D} {ks : List (List Int)} (s : Sub F H) (p : Pk K H F x d) (e : itemsOf d = some xs) (e2 : rowsOf xs = some ks) : ∃ l, x = .ref l ∧ RowsAt K H l ks := by
  cases d with
  | list ds =>
    cases e
    obtain ⟨a, us, rfl, h1, h2⟩ := p.lst s
    obtain ⟨ps, rfl, h3, h4⟩ := h2.rows e2
    exact ⟨a, rfl, ps, .inl h1, fun p hp => s.sqT (h3 p hp), h4⟩
  | tuple ds =>
    cases e
    obtain ⟨a, us, rfl, h1, h2⟩ := p.tup
    obtain ⟨ps, rfl, h3, h4⟩ := h2.rows e2
    exact ⟨a, rfl, ps, .inr (s.sqT h1.sq), fun p hp => s.sqT (h3 p hp), h4⟩
  | _ => cases e
def tLset (K : Fg) (ta : TE) : TE := fun σ H Q => ta σ H fun x H1 => ∃ (l : Addr) (ks : List (List Int)), x = V.ref l ∧ RowsAt K H1 l ks ∧ ks.length < 64 ∧ Q (.int (uniq ks).length) H1
theorem pe_lset {a : Expr} {ta : TE} {p p2 q : Pos} (hc : X.calm = true) (hu : X.A.units + 65 < cLine) (hg : Gl X "len") (hm : X.mg "len" = none) (hg2 : Gl X "set") (hm2 : X.mg "set" = none) (ha : PE X a ta) (na : nost a = true) :
    PE X (.Call (.Name "len" p) [.Call (.Name "set" p2) [a] [] q] [] pos) (tLset X.K ta) := by
  refine ⟨fun pins s σ H Q I h => Call_ (ld_blt I hg hm PySem.boot_len (PyProof.Rows.callWith_builtin1 (PyProof.Rows.args_cons (Call_ (ld_blt I hg2 hm2 PyProof.Rows.boot_set ?_)) rfl) rfl rfl))⟩
  refine PyProof.Rows.callWith_type1 (PyProof.Rows.args_cons (thn (ha.run pins s σ H _ I h) fun v s1 ⟨x, H1, I1, r1, q1⟩ => PyProof.Rows.args_nil ?_) (star1 na)) (star1 na) rfl
  obtain ⟨l, ks, rfl, ⟨ps, hl, hp, rfl⟩, hf, q1⟩ := q1
  rw [List.length_map] at hf
  cases r1
  have fin : ∀ (h' : Heap) (tk : Nat) L es ep t, SetTR X.prog X.w h' s1.heap.objs.size L es ep t → Got ps ps.length L → (∀ b o, s1.heap.get? b = some o → h'.get? b = some o) →
      wpAny (model X.prog X.w) X.A (call (.builtin "len") [.ref s1.heap.objs.size]) (EP X pins σ Q) X.xe { s1 with heap := h', toks := tk } := by
    intro h' tk L es ep t R g k
    obtain ⟨o, ho, hex, hd⟩ := R.ob
    have I2 : Inv X pins σ H1 { s1 with heap := h', toks := tk } := I1.kept fun b o e => k b o e
    have hn : es.size = (uniq (ps.map (·.2))).length := by
      rw [SetTR.size (s := { s1 with heap := h', toks := tk }) R, ← List.length_map (f := fun p : Addr × List Int => p.2)]
      refine uniq_len R.nd (fun k hk => ?_) fun k hk => ?_
      · obtain ⟨p, h1, rfl⟩ := List.mem_map.mp hk
        exact List.mem_map_of_mem (List.mem_of_mem_take (g.sub p h1))
      · obtain ⟨p, h1, rfl⟩ := List.mem_map.mp hk
        exact g.all p (by rw [List.take_length]; exact h1)
    have few := R.few
    refine call_len_set ho hex hd (SetTR.fits (s := { s1 with heap := h', toks := tk }) R) (by rw [SetTR.size (s := { s1 with heap := h', toks := tk }) R]; omega) ⟨.int (uniq (ps.map (·.2))).length, H1, I2.tok _, ⟨_, by rw [hn]⟩, q1⟩
  rcases hl with hl | hl
  · obtain ⟨its, r, pl, hz⟩ := I1.list hl
    exact call_set_tups (P := X.prog) (w := X.w) ps (I1.ok.hd hc) pl.isList (by simpa using refs_of_vals r) (fun p hp' => I1.isT (hp p hp')) hf (by omega) fun h' tk L es ep t R g k => PyProof.Rows.args_nil (fin h' tk L es ep t R g k)
  · obtain ⟨its, r, pl, hz⟩ := I1.tuple hl
    exact set_tup (P := X.prog) (w := X.w) ps (I1.ok.hd hc) pl (by simpa using refs_of_vals r) (fun p hp' => I1.isT (hp p hp')) hf (by omega) fun h' tk L es ep t R g k => PyProof.Rows.args_nil (fin h' tk L es ep t R g k)
theorem se_lset {a : Expr} {xa : DI.X} {p p2 q : Pos} (hc : X.calm = true) (hu : X.A.units + 65 < cLine) (hg : Gl X "len") (hm : X.mg "len" = none) (hg2 : Gl X "set") (hm2 : X.mg "set" = none) (na : nost a = true) (ha : SE X W G cv a xa) :
    SE X W G cv (.Call (.Name "len" p) [.Call (.Name "set" p2) [a] [] q] [] pos) (.lset xa) := by
  intro R A env σ H F Q Q' s w kr k
  simp only [br_iff, ls_iff, nrm_iff, bk_iff, sf_iff, wE] at w
  refine pX_of (pe_lset hc hu hg hm hg2 hm2 pe_p na) ?_
  refine ha R A env σ H F _ _ s w kr fun ra e1 x H1 F1 s1 g1 rv1 w1 => ?_
  obtain ⟨d, p1, q, _⟩ := s1.pk rv1 w1
  split at q
  · rename_i xs hx
    obtain ⟨ks, e2, h1, q⟩ := q
    obtain ⟨l, rfl, rw1⟩ := pk_rows s1.sub p1 hx e2
    exact ⟨l, ks, rfl, rw1, h1, k (.v (.int _)) _ _ _ _ s1 g1 (Rep.int _) q⟩
  · exact q.elim
theorem idxD_ok {d : D} : ∀ {ds : List D} {j : Nat}, idxD d ds = some j → ∃ z, ds[j]? = some z ∧ PyData.eqv z d = true ∧ ∀ m z', m < j → ds[m]? = some z' → PyData.eqv z' d = false
  | [], _, h => by cases h
  | y :: r, j, h => by
    unfold idxD at h
    split at h
    · rename_i e
      cases h; exact ⟨y, rfl, e, fun m z' hm => absurd hm (Nat.not_lt_zero _)⟩
    · rename_i e
      obtain ⟨i, h1, rfl⟩ := Option.map_eq_some_iff.mp h
      obtain ⟨z, a, b, c⟩ := idxD_ok h1
      refine ⟨z, a, b, fun m z' hm hz => ?_⟩
      cases m with
      | zero =>
        rw [List.getElem?_cons_zero] at hz
        injection hz with hz
        rw [← hz]; simpa using e
      | succ m => exact c m z' (by omega) (by simpa using hz)
def rIdx (K : Fg) : V → List V → Hp → VK → Prop := fun x xs H Q => ∃ (a : Addr) (y : V) (d : D) (us : List V) (ds : List D) (j : Nat), x = V.ref a ∧ xs = [y] ∧ SqL K H a us ∧ RepL K H us ds ∧ Rep K H y d ∧
  SeqAt.shaped (.list ds) = true ∧ SeqAt.shaped d = true ∧ idxD d ds = some j ∧ Q (.int (j : Nat)) H
theorem mt_idx (hu : X.A.units + 65 < cLine) : MtR X "list.index" (rIdx X.K) := by
  intro pins s σ H x xs v us Q I rx rxs ⟨a, y, d, ws, ds, j, e1, e2, hs, hl, hy, sl, sd, hj, q⟩
  subst e1 e2
  cases rx
  cases rxs with
  | cons ry rt =>
    cases rt
    obtain ⟨bs, r1⟩ := Rep.reads I hy ry (fit_lay (SeqAt.canLay_of_shaped sd))
    obtain ⟨c1, c2⟩ := sh_lay sd
    have hlay : PyData.canLayAll0 ds = true := (sh_lay sl).1
    obtain ⟨z, hz, hzj, hno⟩ := idxD_ok hj
    obtain ⟨its, rv, ⟨⟨cls, dd, data, sls⟩, n, ho, hcl, hdn, hdt⟩, hlen⟩ := I.list hs
    simp only at hcl hdt
    subst hcl hdt
    obtain ⟨as, h4⟩ := RepL.reads I hl rv (fit_layL hlay)
    have hmap : its.map (SeqAt.readOf s.heap) = ds := SeqAt.readsAll_map ds its as hlay h4
    have hn : its.length = ds.length := SeqAt.ReadsAll.length ds its as h4
    have hjl : j < its.length := by rw [hn]; exact (List.getElem?_eq_some_iff.mp hz).1
    have at_ : ∀ m z', ds[m]? = some z' → ∀ hm : m < its.toArray.size, SeqAt.readOf s.heap its.toArray[m] = z' := fun m z' hz' hm => by
      rw [← hmap, List.getElem?_map, List.getElem?_eq_getElem (by simpa using hm)] at hz'
      simpa using hz'
    have hvl := rv.length
    refine call_meets PySem.F.slot_list_index ⟨_, ho, rfl⟩ PySem.F.entry_list_index (PySem.F.args_list_index_2 _ _)
      (SeqAt.list_indexAt a its.toArray n dd sls _ (fun u => PyData.eqv (SeqAt.readOf s.heap u) d) j (by simpa using hjl) (by rw [sizeLine_eq] at hlen; omega) (by show PyData.eqv _ d = true; rw [at_ j z hz]; exact hzj) (fun m hm hmj => by
        have hmd : m < ds.length := by rw [← hn]; simpa using hm
        show PyData.eqv _ d = false
        rw [at_ m _ (List.getElem?_eq_getElem hmd)]
        exact hno m _ hmj (List.getElem?_eq_getElem hmd)))
      ⟨ho, SeqAt.items_eqAt (vs := its.toArray) (show ReadsAll s.heap its.toArray.toList ds as from h4) r1 hlay c1 (room_in c2 hu), ⟨.int (j : Nat), H, I.tok _, ⟨_, rfl⟩, q⟩⟩
def rIdxT (K : Fg) : V → List V → Hp → VK → Prop := fun x xs H Q => ∃ (a : Addr) (y : V) (d : D) (us : List V) (ds : List D) (j : Nat), x = V.ref a ∧ xs = [y] ∧ SqT K H a us ∧ RepL K H us ds ∧ Rep K H y d ∧
  SeqAt.shaped (.list ds) = true ∧ SeqAt.shaped d = true ∧ idxD d ds = some j ∧ Q (.int (j : Nat)) H
theorem mt_idxT (hu : X.A.units + 65 < cLine) : MtR X "tuple.index" (rIdxT X.K) := by
  intro pins s σ H x xs v us Q I rx rxs ⟨a, y, d, ws, ds, j, e1, e2, hs, hl, hy, sl, sd, hj, q⟩
  subst e1 e2
  cases rx
  cases rxs with
  | cons ry rt =>
    cases rt
    obtain ⟨bs, r1⟩ := Rep.reads I hy ry (fit_lay (SeqAt.canLay_of_shaped sd))
    obtain ⟨c1, c2⟩ := sh_lay sd
    have hlay : PyData.canLayAll0 ds = true := (sh_lay sl).1
    obtain ⟨z, hz, hzj, hno⟩ := idxD_ok hj
    obtain ⟨its, rv, ⟨⟨cls, dd, data, sls⟩, ho, hcl, n, hdt⟩, hlen⟩ := I.tuple hs
    simp only at hcl hdt
    subst hcl hdt
    obtain ⟨as, h4⟩ := RepL.reads I hl rv (fit_layL hlay)
    have hmap : its.map (SeqAt.readOf s.heap) = ds := SeqAt.readsAll_map ds its as hlay h4
    have hn : its.length = ds.length := SeqAt.ReadsAll.length ds its as h4
    have hjl : j < its.length := by rw [hn]; exact (List.getElem?_eq_some_iff.mp hz).1
    have at_ : ∀ m z', ds[m]? = some z' → ∀ hm : m < its.toArray.size, SeqAt.readOf s.heap its.toArray[m] = z' := fun m z' hz' hm => by
      rw [← hmap, List.getElem?_map, List.getElem?_eq_getElem (by simpa using hm)] at hz'
      simpa using hz'
    refine call_meets PySem.F.slot_tuple_index ⟨_, ho, rfl⟩ PySem.F.entry_tuple_index (PySem.F.args_tuple_index_2 _ _)
      (TI.tuple_indexAt a its.toArray n dd sls _ (fun u => PyData.eqv (SeqAt.readOf s.heap u) d) j (by simpa using hjl) (by show PyData.eqv _ d = true; rw [at_ j z hz]; exact hzj) (fun m hm hmj => by
        have hmd : m < ds.length := by rw [← hn]; simpa using hm
        show PyData.eqv _ d = false
        rw [at_ m _ (List.getElem?_eq_getElem hmd)]
        exact hno m _ hmj (List.getElem?_eq_getElem hmd)))
      ⟨ho, SeqAt.items_eqAt (vs := its.toArray) (show ReadsAll s.heap its.toArray.toList ds as from h4) r1 hlay c1 (room_in c2 hu), ⟨.int (j : Nat), H, I.tok _, ⟨_, rfl⟩, q⟩⟩
/-- a tuple that is known to have no names of its own -/
theorem dn_is {pins : List (Addr × Obj)} {σ : St} {H : Hp} {s : Shared} {a : Addr} {us : List V} (I : Inv X pins σ H s) (h : SqTn X.K H a us) : s.TypeIs (.ref a) "tuple" ∧ ∃ ob, s.heap.get? a = some ob ∧ ob.dict = none := by
  obtain ⟨its, rv, ⟨o, ho, hc, n, hd⟩, _⟩ := I.tuple h.sq
  refine ⟨⟨o, ho, hc⟩, ?_⟩
  rcases h.dn with ⟨o', u, e, d0⟩ | ⟨o', e, d0⟩
  · exact ⟨o', (show ObjOk X.prog X.w H s.heap a (.frz o' u) from I.hok a _ e).1, d0⟩
  · exact ⟨o', I.kIn a o' e, d0⟩
def tIdx2 (X : Cx) (to : TE) (t : TA) : TE := fun σ H Q => to σ H fun x H1 => (tyV X.K "list" x H1 ∧ t σ H1 fun xs H2 => rIdx X.K x xs H2 Q) ∨ ((∃ a us, x = V.ref a ∧ SqTn X.K H1 a us) ∧ t σ H1 fun xs H2 => rIdxT X.K x xs H2 Q)
theorem pe_idx2 {o e : Expr} {to : TE} {t : TA} {apos cpos : Pos} (hu : X.A.units + 65 < cLine) (ho : PE X o to) (ha : PA X [e] t) (hbase : attributeBase o "index" X.env (eval o X.env) = eval o X.env) (hn : nost e = true) (hline : (apos.endLine == cpos.line) = true) :
    PE X (.Call (.Attribute o "index" apos) [e] [] cpos) (tIdx2 X to t) := by
  have hs : starEach [e] X.env = (false, eval e X.env) :: starEach [] X.env := star1 hn
  refine ⟨fun pins s σ H Q I h => ?_⟩
  refine wpAny_Call_method_late hbase (by rw [hs]; rfl) hline rfl (thn (ho.run pins s σ H _ I h) fun v s1 ⟨x, H1, I1, r1, q1⟩ => ?_)
  rcases q1 with ⟨ty, q1⟩ | ⟨⟨a, us, ex, hq⟩, q1⟩
  · obtain ⟨h1, h2⟩ := tyV_is I1 r1 ty
    refine ⟨"list", "list.index", PySem.F.plainAttrs_list, PySem.F.slot_list_index, PySem.F.type_list_index, h1, h2, ?_⟩
    have hA := ha.run cpos pins s1 σ H1 _ I1 q1
    rw [hs] at hA ⊢
    exact Calls.callWith_builtin rfl (Calls.evalArgs_plain (thn hA fun us s2 ⟨vs, H2, I2, r2, q2⟩ => mt_idx hu pins s2 σ H2 x vs v us Q I2 r1 r2 q2))
  · subst ex
    cases r1
    obtain ⟨h1, h2⟩ := dn_is I1 hq
    refine ⟨"tuple", "tuple.index", PySem.F.plainAttrs_tuple, PySem.F.slot_tuple_index, PySem.F.type_tuple_index, h1, fun a e => by cases e; exact h2, ?_⟩
    have hA := ha.run cpos pins s1 σ H1 _ I1 q1
    rw [hs] at hA ⊢
    exact Calls.callWith_builtin rfl (Calls.evalArgs_plain (thn hA fun us s2 ⟨vs, H2, I2, r2, q2⟩ => mt_idxT hu pins s2 σ H2 (V.ref a) vs (.ref a) us Q I2 rfl r2 q2))
theorem se_lidx (hu : X.A.units + 65 < cLine) {o e : Expr} {xo xe : DI.X} {apos cpos : Pos} (hb : attributeBase o "index" X.env (eval o X.env) = eval o X.env) (hl : (apos.endLine == cpos.line) = true) (hn : nost e = true) (ho : SE X W G cv o xo) (he : SE X W G cv e xe) :
    SE X W G cv (.Call (.Attribute o "index" apos) [e] [] cpos) (.lidx xo xe) := by
  intro R A env σ H F Q Q' s w kr k
  simp only [br_iff, ls_iff, nrm_iff, bk_iff, sf_iff, wE] at w
  refine pX_of (pe_idx2 hu pe_p (pa_cons pe_p pa_nil (star1 hn)) hb hn hl) ?_
  refine ho R A env σ H F _ _ s w kr fun ra e1 x H1 F1 s1 g1 rv1 w1 => ?_
  obtain ⟨F1', s1', g1', hold1⟩ := s1.hold g1 rv1
  obtain ⟨d0, p0, ⟨il, w1⟩, _⟩ := s1.pk rv1 w1
  cases d0 with
  | list ds0 =>
    obtain ⟨p, us, rfl, hus, _⟩ := p0.lst s1.sub
    refine .inl ⟨.inl ⟨rfl, us, hus⟩, ?_⟩
    refine he R A e1 σ H1 F1' _ _ s1' w1 (kr.go g1') fun rb e2 y H2 F2 s2 g2 rv2 w2 => ?_
    obtain ⟨dx, p1, q, _⟩ := s2.pk (hold1 _ _ _ g2.ext H1) w2
    obtain ⟨dy, p2, q, _⟩ := s2.pk rv2 q
    cases dx with
    | list xs =>
      obtain ⟨⟨c1, c2⟩, j, hj, q⟩ := q
      obtain ⟨a, ws, e0, h1, h2⟩ := p1.lst s2.sub
      cases e0
      exact ⟨_, _, _, ws, _, j, rfl, rfl, h1, RepL.mono s2.sub h2, p2.rep s2.sub, c2, c1, hj, k (.v (.int _)) _ _ _ _ s2 (g1'.trans g2) (Rep.int _) q⟩
    | _ => exact False.elim q
  | tuple ds0 =>
    obtain ⟨p, us, rfl, hus, _⟩ := p0.tup
    refine .inr ⟨⟨p, us, rfl, s1.sub.sqN hus⟩, ?_⟩
    refine he R A e1 σ H1 F1' _ _ s1' w1 (kr.go g1') fun rb e2 y H2 F2 s2 g2 rv2 w2 => ?_
    obtain ⟨dx, p1, q, _⟩ := s2.pk (hold1 _ _ _ g2.ext H1) w2
    obtain ⟨dy, p2, q, _⟩ := s2.pk rv2 q
    cases dx with
    | tuple xs =>
      obtain ⟨⟨c1, c2⟩, j, hj, q⟩ := q
      obtain ⟨a, ws, e0, h1, h2⟩ := p1.tup
      cases e0
      exact ⟨_, _, _, ws, _, j, rfl, rfl, s2.sub.sqT h1.sq, RepL.mono s2.sub h2, p2.rep s2.sub, c2, c1, hj, k (.v (.int _)) _ _ _ _ s2 (g1'.trans g2) (Rep.int _) q⟩
    | _ => exact False.elim q
  | _ => cases il
def rCnt (K : Fg) : V → List V → Hp → VK → Prop := fun x xs H Q => ∃ (a : Addr) (y : V) (d : D) (us : List V) (ds : List D), x = V.ref a ∧ xs = [y] ∧ SqL K H a us ∧ RepL K H us ds ∧ Rep K H y d ∧
  SeqAt.shaped (.list ds) = true ∧ SeqAt.shaped d = true ∧ Q (.int ((ds.countP fun z => PyData.eqv z d) : Nat)) H
theorem mt_cnt (hu : X.A.units + 65 < cLine) : MtR X "list.count" (rCnt X.K) := by
  intro pins s σ H x xs v us Q I rx rxs ⟨a, y, d, ws, ds, e1, e2, hs, hl, hy, sl, sd, q⟩
  subst e1 e2
  cases rx
  cases rxs with
  | cons ry rt =>
    cases rt
    obtain ⟨bs, r1⟩ := Rep.reads I hy ry (fit_lay (SeqAt.canLay_of_shaped sd))
    obtain ⟨c1, c2⟩ := sh_lay sd
    have hlay : PyData.canLayAll0 ds = true := (sh_lay sl).1
    obtain ⟨its, rv, ⟨⟨cls, dd, data, sls⟩, n, ho, hcl, hdn, hdt⟩, hlen⟩ := I.list hs
    simp only at hcl hdt
    subst hcl hdt
    obtain ⟨as, h4⟩ := RepL.reads I hl rv (fit_layL hlay)
    have hmap : its.map (SeqAt.readOf s.heap) = ds := SeqAt.readsAll_map ds its as hlay h4
    refine call_meets PySem.F.slot_list_count ⟨_, ho, rfl⟩ PySem.F.entry_list_count (PySem.F.args_list_count_2 _ _)
      (SeqAt.list_countAt a its.toArray n dd sls _ (fun u => PyData.eqv (SeqAt.readOf s.heap u) d))
      ⟨ho, SeqAt.items_eqAt (vs := its.toArray) (show ReadsAll s.heap its.toArray.toList ds as from h4) r1 hlay c1 (room_in c2 hu), ?_⟩
    refine ⟨.int ((ds.countP fun z => PyData.eqv z d) : Nat), H, I.tok _, ⟨s.toks, ?_⟩, q⟩
    have ec : its.toArray.toList.countP (fun u => PyData.eqv (SeqAt.readOf s.heap u) d) = ds.countP fun z => PyData.eqv z d := by
      rw [← hmap, List.countP_map]; rfl
    show Value.int ((its.toArray.toList.countP (fun u => PyData.eqv (SeqAt.readOf s.heap u) d) : Nat) : Int) s.toks = Value.int _ s.toks
    rw [ec]
theorem se_lcnt (hu : X.A.units + 65 < cLine) {o e : Expr} {xo xe : DI.X} {apos cpos : Pos} (hb : attributeBase o "count" X.env (eval o X.env) = eval o X.env) (hl : (apos.endLine == cpos.line) = true) (hn : nost e = true) (ho : SE X W G cv o xo) (he : SE X W G cv e xe) :
    SE X W G cv (.Call (.Attribute o "count" apos) [e] [] cpos) (.lcnt xo xe) := by
  intro R A env σ H F Q Q' s w kr k
  simp only [br_iff, ls_iff, nrm_iff, bk_iff, sf_iff, wE] at w
  refine pX_of (pe_bm PySem.F.plainAttrs_list PySem.F.slot_list_count PySem.F.type_list_count (mt_cnt hu) pe_p (pa_cons pe_p pa_nil (star1 hn)) hb (by rw [star1 hn]; rfl) hl (star1 hn) rfl) ?_
  refine ho R A env σ H F _ _ s w kr fun ra e1 x H1 F1 s1 g1 rv1 w1 => ?_
  obtain ⟨F1', s1', g1', hold1⟩ := s1.hold g1 rv1
  obtain ⟨d0, p0, ⟨il, w1⟩, _⟩ := s1.pk rv1 w1
  have ty : ∃ p us, x = .ref p ∧ SqL X.K H1 p us := by
    cases d0 with
    | list ds =>
      obtain ⟨a, us, rfl, h1, _⟩ := p0.lst s1.sub
      exact ⟨a, us, rfl, h1⟩
    | _ => cases il
  obtain ⟨p, us, rfl, hus⟩ := ty
  refine ⟨.inl ⟨rfl, us, hus⟩, ?_⟩
  refine he R A e1 σ H1 F1' _ _ s1' w1 (kr.go g1') fun rb e2 y H2 F2 s2 g2 rv2 w2 => ?_
  obtain ⟨dx, p1, q, _⟩ := s2.pk (hold1 _ _ _ g2.ext H1) w2
  obtain ⟨dy, p2, q, _⟩ := s2.pk rv2 q
  split at q
  · obtain ⟨⟨c1, c2⟩, q⟩ := q
    obtain ⟨a, ws, e0, h1, h2⟩ := p1.lst s2.sub
    cases e0
    exact ⟨_, _, _, ws, _, rfl, rfl, h1, RepL.mono s2.sub h2, p2.rep s2.sub, c2, c1, k (.v (.int _)) _ _ _ _ s2 (g1'.trans g2) (Rep.int _) q⟩
  · exact q.elim
theorem ss_ext {i : Nat} {x : Str} {e : Expr} {xe : DI.X} {px pa pc : Pos} (hN : X.N[i]? = some x) (hv : Vis X.env.scope x) (h1 : (x == ("__debug__" : Str)) = false) (h2 : (x == ("__classdict__" : Str)) = false) (hn : nost e = true) (hl : (pa.endLine == pc.line) = true) (he : SE X W G cv e xe) :
    SS X W G cv (.Expr (.Call (.Attribute (.Name x px) "extend" pa) [e] [] pc) pos) (.ext i xe) := by
  intro R A env σ H F Q D s w kr k
  simp only [br_iff, ls_iff, nrm_iff, bk_iff, sf_iff, wS] at w
  refine pS_of (ps_expr (pe_bm PySem.F.plainAttrs_list PySem.F.slot_list_extend PySem.F.type_list_extend mt_extend (pe_var hN hv h1 h2) (pa_cons pe_p pa_nil (star1 hn)) rfl (by rw [star1 hn]; rfl) hl (star1 hn) rfl) rfl) ?_
  obtain ⟨p, xs0, o, hH0, rl0⟩ := s.at (ownd_at w.1).choose_spec
  refine ⟨.ref p, o.1, .inl ⟨rfl, xs0, SqL.of hH0⟩, ?_⟩
  refine he R A env σ H F _ _ s w.2 kr.kr fun r e1 y H1 F1 s1 g1 rv1 w1 => ?_
  split at w1
  · rename_i zs
    obtain ⟨b, us, rfl, q2, q3, q4, q5, q6⟩ := rv1
    split at w1
    · rename_i ds hd
      obtain ⟨p', xs, o', hH, rl⟩ := s1.at (.inl hd)
      have := o'.1; rw [o.1] at this; cases this
      obtain ⟨s4, g4⟩ := (s1.chg g1 o' (rl.append q4)).1 ds hd
      exact ⟨p, b, xs, us, rfl, rfl, hH, q3, by rw [rl.length, q4.length]; exact w1.1, k .nx _ σ _ F1 s4 g4 w1.2⟩
    · rename_i ds hd
      obtain ⟨p', xs, o', hH, rl⟩ := s1.at (.inr hd)
      have := o'.1; rw [o.1] at this; cases this
      obtain ⟨s4, g4⟩ := (s1.chg g1 o' (rl.append q4)).2 ds hd
      exact ⟨p, b, xs, us, rfl, rfl, hH, q3, by rw [rl.length, q4.length]; exact w1.1, k .nx _ σ _ F1 s4 g4 w1.2⟩
    · exact w1.elim
  · exact w1.elim
theorem ss_ins {i : Nat} {x : Str} {a e : Expr} {xa xe : DI.X} {px pa pc : Pos} (hN : X.N[i]? = some x) (hv : Vis X.env.scope x) (h1 : (x == ("__debug__" : Str)) = false) (h2 : (x == ("__classdict__" : Str)) = false) (hn : nost a = true) (hn2 : nost e = true) (hl : (pa.endLine == pc.line) = true) (he : SAL X W G cv [a, e] (.cons xa (.cons xe .nil))) :
    SS X W G cv (.Expr (.Call (.Attribute (.Name x px) "insert" pa) [a, e] [] pc) pos) (.ins i xa xe) := by
  intro R A env σ H F Q D s w kr k
  simp only [br_iff, ls_iff, nrm_iff, bk_iff, sf_iff, wS] at w
  refine pS_of (ps_expr (pe_bm PySem.F.plainAttrs_list PySem.F.slot_list_insert PySem.F.type_list_insert mt_insert (pe_var hN hv h1 h2) pa_p rfl (by rw [star1 hn, star1 hn2]; rfl) hl (star1 hn) (by rw [star1 hn2]; rfl)) rfl) ?_
  obtain ⟨p, xs0, o, hH0, rl0⟩ := s.at (ownd_at w.1).choose_spec
  refine ⟨.ref p, o.1, .inl ⟨rfl, xs0, SqL.of hH0⟩, ?_⟩
  refine he R A [] env σ H F _ _ s w.2 kr.kr fun rs e1 vs H1 F1 s1 g1 f1 hlen w1 => ?_
  cases f1 with
  | nil => exact w1.elim
  | cons r1 r2 =>
    cases r2 with
    | nil => cases hlen
    | cons r2 r3 =>
      cases r3 with
      | cons _ _ => cases hlen
      | nil =>
        rcases r1 with ⟨d1, rfl, rd1⟩ | ⟨j, rfl, _⟩
        · rcases r2 with ⟨d2, rfl, rd2⟩ | ⟨j, rfl, _⟩
          · cases d1 with
            | int kk =>
              obtain ⟨⟨c1, c2⟩, w1⟩ := w1
              cases rd1
              split at w1
              · rename_i ds hd
                obtain ⟨p', xs, o', hH, rl⟩ := s1.at (.inl hd)
                have := o'.1; rw [o.1] at this; cases this
                obtain ⟨s4, g4⟩ := (s1.chg g1 o' (((rl.take kk.toNat).append (.cons rd2 .nil)).append (rl.drop kk.toNat))).1 ds hd
                exact ⟨p, xs, kk, _, rfl, rfl, hH, by rw [rl.length]; exact w1.1, c1, by omega, k .nx _ σ _ F1 s4 g4 w1.2⟩
              · rename_i ds hd
                obtain ⟨p', xs, o', hH, rl⟩ := s1.at (.inr hd)
                have := o'.1; rw [o.1] at this; cases this
                obtain ⟨s4, g4⟩ := (s1.chg g1 o' (((rl.take kk.toNat).append (.cons rd2 .nil)).append (rl.drop kk.toNat))).2 ds hd
                exact ⟨p, xs, kk, _, rfl, rfl, hH, by rw [rl.length]; exact w1.1, c1, by omega, k .nx _ σ _ F1 s4 g4 w1.2⟩
              · exact w1.elim
            | _ => exact w1.elim
          · exact w1.elim
        · exact w1.elim
theorem ss_rais {x m : Str} {j code : Nat} {C : Addr} {p p2 p3 : Pos} (hc : X.calm = true) (tk : Takes X W) (e1 : cv code = .ref C) (e2 : X.mg x = some (.ref C)) (e3 : PySem.W.excIn X.K C [.type "ValueError", .type "Exception", .type "BaseException", .type "object"] "ValueError.__new__" = true)
    (e4 : PySem.W.keepIn X.K (.ref C) = true) (e5 : Raises X (.ref C)) (hg : Gl X x) (hdb : (x == ("__debug__" : Str)) = false) : SS X W G cv (.Raise (some (.Call (.Name x p) [.Constant (.str m) j p2] [] p3)) none pos) (.rais code) := by
  intro R A env σ H F Q D s w kr k
  refine pS_of (ps_raise hc tk (pmk_own PySem.F.excBase_ValueError e3 e2 e4 e5 hg hdb)) ?_
  have z := kr code env σ H F s .refl (show R code env from w)
  rw [e1] at z
  exact z
end
end DI
namespace DI
open PySem L2
open PyProof.Rows hiding St
section
variable {X : Cx} {W : WX} {G : Nat → Fn} {cv : CV} {pos : Pos}
def TGu (X : Cx) (G : Nat → Fn) (cv : CV) (ts : List Expr) (u : DI.X) : Prop := ∀ (A : AT) (e0 e : En) (σ0 σ : L2.St) (H0 F0 H F : Hp) (ds : List D) (vs : List L2.V) (Q : En → Prop) (Q' : L2.St → Hp → Prop), Sta X.K cv A e σ H F → Go e0 σ0 H0 F0 e σ H F → RepL X.K F vs ds → wU G u ds e Q →
  (∀ e' σ' H' F', Sta X.K cv A e' σ' H' F' → Go e0 σ0 H0 F0 e' σ' H' F' → Q e' → Q' σ' H') → pGs X ts vs σ H Q'
theorem tgu_nil : TGu X G cv [] .nil := by
  intro A e0 e σ0 σ H0 F0 H F ds vs Q Q' s g r w k
  cases r with
  | nil => exact pGs_of pgs_nil ⟨rfl, k e σ H F s g w⟩
  | cons _ _ => exact w.elim
theorem tgu_n {i : Nat} {x : Str} {p : Pos} {ts : List Expr} {u : DI.X} (hN : X.N.Nodup) (hi : X.N[i]? = some x) (hx : L2.Loc X.env.scope x) (hf : X.fn x = true ∨ X.env.scope.names.lookup x = some .local) (h2 : TGu X G cv ts u) : TGu X G cv (.Name x p :: ts) (.cons (.var i) u) := by
  intro A e0 e σ0 σ H0 F0 H F ds vs Q Q' s g r w k
  refine pGs_of (pgs_cons (pg_name hN hi hx hf) pgs_p) ?_
  cases r with
  | nil => exact w.elim
  | cons r1 r2 =>
    obtain ⟨e', q, s', g'⟩ := s.putV g r1 w
    exact ⟨_, _, rfl, h2 A e0 e' σ0 _ H0 F0 H F _ _ _ _ s' g' r2 q k⟩
theorem tgu_i {i : Nat} {x : Str} {ix : Expr} {xi : DI.X} {px ps : Pos} {ts : List Expr} {u : DI.X} (hst : PG X (.Subscript (.Name x px) ix ps) (gSub (tVar i) (pX X ix) rSetL)) (hx : SE X W G cv ix xi) (h2 : TGu X G cv ts u) : TGu X G cv (.Subscript (.Name x px) ix ps :: ts) (.cons (.idx (.var i) xi) u) := by
  intro A e0 e σ0 σ H0 F0 H F ds vs Q Q' s g r w k
  refine pGs_of (pgs_cons hst pgs_p) ?_
  cases r with
  | nil => exact w.elim
  | cons r1 r2 =>
    rename_i v vs' d ds'
    simp only [br_iff, ls_iff, nrm_iff, bk_iff, sf_iff, wU] at w
    have hx' : ∀ (p : Addr), σ[i]? = some (some (.ref p)) → pX X ix σ H (fun y H3 => rSetL (.ref p) y v H3 fun H4 => pGs X ts vs' σ H4 Q') := fun p hp => by
      refine hx noR A e σ H F _ _ s w.2 (fun _ _ _ _ _ _ z => z.elim) fun ri e3 y H3 F3 s3 g3 rv3 w3 => ?_
      obtain ⟨dy, py, q3, _⟩ := s3.pk rv3 w3
      have g13 := g.trans g3
      cases dy with
      | int kk =>
        have e := py.int; subst e
        simp only at q3
        split at q3
        · rename_i xs0 hd
          obtain ⟨j, hj, q3⟩ := q3
          obtain ⟨p', xs, o, hH, rl⟩ := s3.at (.inl hd)
          have := o.1; rw [hp] at this; cases this
          obtain ⟨s4, g4⟩ := (s3.chg g13 o (rl.set (r1.mono g3.ext) j)).1 xs0 hd
          exact ⟨p, xs, kk, j, rfl, rfl, hH, by rw [rl.length]; exact hj, h2 A e0 _ σ0 σ H0 F0 _ F3 ds' vs' _ _ s4 g4 (r2.mono g3.ext) q3 k⟩
        · rename_i xs0 hd
          obtain ⟨j, hj, q3⟩ := q3
          obtain ⟨p', xs, o, hH, rl⟩ := s3.at (.inr hd)
          have := o.1; rw [hp] at this; cases this
          obtain ⟨s4, g4⟩ := (s3.chg g13 o (rl.set (r1.mono g3.ext) j)).2 xs0 hd
          exact ⟨p, xs, kk, j, rfl, rfl, hH, by rw [rl.length]; exact hj, h2 A e0 _ σ0 σ H0 F0 _ F3 ds' vs' _ _ s4 g4 (r2.mono g3.ext) q3 k⟩
        · exact q3.elim
      | _ => exact q3.elim
    obtain ⟨p, xs, o, _⟩ := s.at (ownd_at w.1).choose_spec
    exact ⟨v, vs', rfl, .ref p, o.1, hx' p o.1⟩
/-- a, x[i], .. = e -/
theorem ss_unp {ts : List Expr} {e : Expr} {u x : DI.X} {k0 : Nat} {p : Pos} (hc : X.calm = true) (hn : ts.all nost = true) (hs : swapsWithSole [.Tuple ts k0 p] e pos.line X.env = pure false) (hw : swappedStores [.Tuple ts k0 p] e X.env = pure none) (hu : TGu X G cv ts u) (hlen : xN u = ts.length) (he : SE X W G cv e x) : SS X W G cv (.Assign [.Tuple ts k0 p] e pos) (.unp u x) := by
  intro R A env σ H F Q D s w kr k
  simp only [br_iff, ls_iff, nrm_iff, bk_iff, sf_iff, wS] at w
  obtain ⟨h1, h2⟩ := nostAssign (env := X.env) hn
  refine pS_of (ps_asg pe_p (pg_tup (n := ts.length) hc pgs_p h2 h1) hs hw rfl) ?_
  refine he R A env σ H F _ _ s w kr.kr fun r e1 v H1 F1 s1 g1 rv1 w1 => ?_
  obtain ⟨d, e2, F2, q, s2, g2, rd⟩ := s1.settle g1 rv1 w1
  cases d with
  | tuple ds =>
    cases rd with
    | tup ht hr =>
      rename_i a xs
      exact ⟨a, xs, rfl, s2.sub.sqT ht, (hr.length.trans (q.1.trans hlen)), hu A env e2 σ σ H F H1 F2 ds xs _ _ s2 g2 hr q.2 fun e' σ' H' F' s' g' q' => k .nx e' σ' H' F' s' g' q'⟩
  | _ => exact q.elim
end
end DI
namespace DI
open PySem L2
open PyProof.Rows hiding St
section
variable {X : Cx}
theorem exc_at {pins : List (Addr × Obj)} {σ : L2.St} {H : Hp} {s : Shared} {a C : Addr} (I : Inv X pins σ H s) (h : H a = some (ExK (.ref C) none a)) : ∃ oe, PySem.W.InstAt s.heap a oe C none := by
  obtain ⟨⟨⟨oc, od, oda, osl⟩, e, ⟨z1, z2⟩, vs, z3⟩, _⟩ := I.hok a _ h
  dsimp only at z1 z2 z3
  subst z1 z2 z3
  exact ⟨_, e, rfl, rfl, trivial⟩
theorem call_isx : CallR X (.builtin "isinstance") (fun xs H Q => ∃ (a C : Addr) (c : L2.V) (u : Value) (b : Bool), xs = [.ref a, c] ∧ H a = some (ExK (.ref C) none a) ∧ ExcC X.K C ∧ (∀ v, RelV c v → v = u) ∧ PySem.W.kitOne X.K (.ref C) u = some b ∧ Q (.bl b) H) := by
  intro pins s σ H xs us Q I r ⟨a, C, c, u, b, e0, h, F, hu, e, q⟩
  subst e0
  obtain ⟨u1, u2, rfl, r1, r2⟩ := vals2 r
  cases r1
  have e2 := hu _ r2
  subst e2
  obtain ⟨oe, J⟩ := exc_at I h
  exact PySem.W.kia_one (PySem.W.handS_kitx_exc F.hg F.hk F.hs F.hd F.ha F.hn F.ht F.hm) I.kIn J e (fun z => nomatch z) fun tk => ⟨.bl b, H, I.kept (t' := tk) fun _ _ z => z, rfl, q⟩
theorem call_isxt : CallR X (.builtin "isinstance") (fun xs H Q => ∃ (a C t : Addr) (cs : List L2.V) (b : Bool), xs = [.ref a, .ref t] ∧ H a = some (ExK (.ref C) none a) ∧ ExcC X.K C ∧ H t = some (.tup cs) ∧ (∀ us, Vals cs us → PySem.W.kitAny X.K (.ref C) us = some b) ∧ Q (.bl b) H) := by
  intro pins s σ H xs us Q I r ⟨a, C, t, cs, b, e0, h, F, ht, e, q⟩
  subst e0
  obtain ⟨u1, u2, rfl, r1, r2⟩ := vals2 r
  cases r1
  cases r2
  obtain ⟨oe, J⟩ := exc_at I h
  obtain ⟨_, its, rv, ⟨⟨oc, od, oda, osl⟩, ho, hc, n, hd⟩⟩ := I.hok t _ ht
  dsimp only at hc hd
  subst hc hd
  exact PySem.W.kia_tup (PySem.W.handS_kitx_exc F.hg F.hk F.hs F.hd F.ha F.hn F.ht F.hm) I.kIn J ho (e its rv) (fun z => nomatch z) fun tk => ⟨.bl b, H, I.kept (t' := tk) fun _ _ z => z, rfl, q⟩
end
theorem Sta.alloc {K : Fg} {cv : CV} {A : AT} {e0 e : En} {σ0 σ : L2.St} {H0 F0 H F : Hp} {p : Addr} {o : HO} (s : Sta K cv A e σ H F) (g : Go e0 σ0 H0 F0 e σ H F) (hp : H p = none) (no : NT o) : Sta K cv A e σ (upd H p o) F ∧ Go e0 σ0 H0 F0 e σ (upd H p o) F := by
  have ne : ∀ {q : Addr} {u : HO}, H q = some u → q ≠ p := fun {q u} h z => by rw [z, hp] at h; cases h
  refine ⟨⟨fun a u z => ?_, s.len, fun i sv z => (s.slot i sv z).keep .refl fun q xs _ h2 h3 _ => ⟨h2, (upd_ne (ne h3)).trans h3⟩, s.dist, s.sx.upd (.inl hp) no⟩, ⟨g.ext, fun a u h n t => ?_, fun a h => ?_, g.new, g.own, g.iok, g.len⟩⟩
  · have := s.sub a u z
    exact (upd_ne (ne this)).trans this
  · have := g.frm a u h n t
    exact (upd_ne (ne this)).trans this
  · by_cases z : a = p
    · subst z; exact g.liv a hp
    · rw [upd_ne z] at h; exact g.liv a h
/-- what a class's name tells of held exceptions -/
structure IsxF (X : Cx) (cx : Str) (tbl : List (Str × Bool)) : Prop where
  ex : ∃ (E : L2.V) (u : Value), (∀ v, RelV E v → v = u) ∧ ((∃ A : Addr, E = .ref A ∧ X.mg cx = some (.ref A)) ∨ ∃ t : String, E = .ty t ∧ X.mg cx = none ∧ bootBuiltins cx = some (.type t) ∧ cx ≠ ("__name__" : Str)) ∧ ∀ n b, tbl.lookup n = some b → ∃ C : Addr, ClsN X.K n C ∧ ExcC X.K C ∧ PySem.W.kitOne X.K (.ref C) u = some b
theorem ClsN.eq {K : Fg} {n : Str} {C C' : Addr} (h : ClsN K n C) (g : ClsN K n C') : C = C' := by
  have := h.out.symm.trans g.out
  cases this; rfl
section
variable {X : Cx} {W : WX} {G : Nat → Fn} {cv : CV} {pos : Pos}
/-- a class's name, read -/
theorem isx_pe {cx : Str} {E : L2.V} {p : Pos} (hg2 : Gl X cx) (hd : (cx == ("__debug__" : Str)) = false) (h : (∃ A : Addr, E = .ref A ∧ X.mg cx = some (.ref A)) ∨ ∃ t : String, E = .ty t ∧ X.mg cx = none ∧ bootBuiltins cx = some (.type t) ∧ cx ≠ ("__name__" : Str)) : PE X (.Name cx p) (tC E) := by
  rcases h with ⟨A, rfl, hm⟩ | ⟨t, rfl, hm, hb, hn⟩
  · exact pe_glob (v := .ref A) hg2 hm rfl hd
  · exact pe_bltn (v := .ty t) hg2 hm hb rfl hn hd
/-- isinstance(a, C) of a held exception -/
theorem se_isx {a : Expr} {xa : DI.X} {cx : Str} {tbl : List (Str × Bool)} {p1 p2 : Pos} (hg : Gl X "isinstance") (hm : X.mg "isinstance" = none) (hg2 : Gl X cx) (hd : (cx == ("__debug__" : Str)) = false) (f : IsxF X cx tbl) (hn : nost a = true) (ha : SE X W G cv a xa) :
    SE X W G cv (.Call (.Name "isinstance" p1) [a, .Name cx p2] [] pos) (.isx xa tbl) := by
  intro R A env σ H F Q Q' s w kr k
  obtain ⟨E, u0, hu, hm2, hf⟩ := f.ex
  refine pX_of (pe_callB call_isx hg hm (by decide +kernel) (pa_cons pe_p (pa_cons (isx_pe hg2 hd hm2) pa_nil) (star1 hn)) (by decide) (by decide) (star1 hn) rfl) ?_
  simp only [br_iff, ls_iff, nrm_iff, bk_iff, sf_iff, wE] at w
  refine ha R A env σ H F _ _ s w kr fun ra e1 x H1 F1 s1 g1 rv1 w1 => ?_
  obtain ⟨d, pk, q, _⟩ := s1.pk rv1 w1
  split at q
  · obtain ⟨b, hb, q⟩ := q
    cases pk.rep s1.sub with
    | exc hc hh =>
      obtain ⟨C, h1, h2, h3⟩ := hf _ b hb
      cases h1.eq hc
      exact ⟨_, _, E, u0, b, rfl, hh, h2, hu, h3, k (.v (.bool b)) _ _ _ _ s1 g1 (Rep.bl b) q⟩
  · exact q.elim
/-- of any of some classes -/
def anyT (tbls : List (List (Str × Bool))) (n : Str) : Option Bool := match tbls with
  | [] => some false
  | t :: r => match t.lookup n with
    | some true => some true
    | some false => anyT r n
    | none => none
/-- the names of classes, as a row -/
inductive ClsL (X : Cx) : List Expr → List (List (Str × Bool)) → Prop
  | nil : ClsL X [] []
  | cons {cx : Str} {p : Pos} {es : List Expr} {t : List (Str × Bool)} {ts : List (List (Str × Bool))} (hg : Gl X cx) (hd : (cx == ("__debug__" : Str)) = false) (f : IsxF X cx t) (r : ClsL X es ts) : ClsL X (.Name cx p :: es) (t :: ts)
theorem clsL_ok {n : Str} {C : Addr} (hc : ClsN X.K n C) : ∀ {es : List Expr} {ts : List (List (Str × Bool))}, ClsL X es ts → ∃ (cs : List L2.V) (t : TA), PA X es t ∧ cs.length = es.length ∧ (∀ σ H Q, Q cs H → t σ H Q) ∧ ∀ b, anyT ts n = some b → ∀ us, Vals cs us → PySem.W.kitAny X.K (.ref C) us = some b
  | _, _, .nil => ⟨[], _, pa_nil, rfl, fun σ H Q q => q, fun b e us r => by cases r; cases e; rfl⟩
  | _, _, .cons (t := t) (ts := ts) hg hd f r => by
    obtain ⟨cs, ta, p1, l1, p2, p3⟩ := clsL_ok hc r
    obtain ⟨E, u0, hu, hm, hf⟩ := f.ex
    refine ⟨E :: cs, _, pa_cons (isx_pe hg hd hm) p1, by simp [l1], fun σ H Q q => p2 _ _ _ q, fun b e us rv => ?_⟩
    cases rv with
    | cons r1 r2 =>
      cases hu _ r1
      unfold anyT at e
      cases h : t.lookup n with
      | none => rw [h] at e; cases e
      | some b1 =>
        obtain ⟨C', h1, _, h3⟩ := hf n b1 h
        cases h1.eq hc
        rw [h] at e
        cases b1 with
        | true => cases e; simp only [PySem.W.kitAny, h3]
        | false => simp only [PySem.W.kitAny, h3]; exact p3 b e _ r2
theorem se_isxt {a : Expr} {xa : DI.X} {es : List Expr} {ts : List (List (Str × Bool))} {tbl : List (Str × Bool)} {p1 p2 : Pos} {k0 : Nat} (hg : Gl X "isinstance") (hm : X.mg "isinstance" = none) (f : ClsL X es ts) (hl : es.length ≤ 60) (ht : ∀ n b, tbl.lookup n = some b → anyT ts n = some b ∧ ∃ C, ClsN X.K n C ∧ ExcC X.K C) (hn : nost a = true) (ha : SE X W G cv a xa) :
    SE X W G cv (.Call (.Name "isinstance" p1) [a, .Tuple es k0 p2] [] pos) (.isx xa tbl) := by
  intro R A env σ H F Q Q' s w kr k
  refine pX_of (pe_callB call_isxt hg hm (by decide +kernel) (pa_cons pe_p (pa_cons pe_p pa_nil) (star1 hn)) (by decide) (by decide) (star1 hn) rfl) ?_
  simp only [br_iff, ls_iff, nrm_iff, bk_iff, sf_iff, wE] at w
  refine ha R A env σ H F _ _ s w kr fun ra e1 x H1 F1 s1 g1 rv1 w1 => ?_
  obtain ⟨d, pk, q, _⟩ := s1.pk rv1 w1
  split at q
  · obtain ⟨b, hb, q⟩ := q
    cases pk.rep s1.sub with
    | exc hc hh =>
      obtain ⟨e2, C, h1, h2⟩ := ht _ b hb
      cases h1.eq hc
      obtain ⟨cs, ta, c1, c0, c2, c3⟩ := clsL_ok (X := X) hc f
      refine pX_of (pe_tup c1) (c2 _ _ _ ⟨by rw [sizeLine_eq, c0]; omega, fun p hp => ?_⟩)
      obtain ⟨s2, g2⟩ := s1.alloc g1 hp (o := .tup cs) nt_tup
      have ne : ∀ {q : Addr} {u : HO}, H1 q = some u → q ≠ p := fun {q u} h z => by rw [z, hp] at h; cases h
      exact ⟨_, _, p, cs, b, rfl, (upd_ne (ne hh)).trans hh, h2, upd_same, c3 b e2, k (.v (.bool b)) _ _ _ _ s2 g2 (Rep.bl b) q⟩
  · exact q.elim
end
end DI
namespace DI
open PySem L2
open PyProof.Rows hiding St
theorem Sta.allocF {K : Fg} {cv : CV} {A : AT} {e0 e : En} {σ0 σ : L2.St} {H0 F0 H F : Hp} {p : Addr} {o : HO} (s : Sta K cv A e σ H F) (g : Go e0 σ0 H0 F0 e σ H F) (hp : H p = none) (no : NT o) : Sta K cv A e σ (upd H p o) (upd F p o) ∧ Go e0 σ0 H0 F0 e σ (upd H p o) (upd F p o) := by
  have ne : ∀ {q : Addr} {u : HO}, H q = some u → q ≠ p := fun {q u} h z => by rw [z, hp] at h; cases h
  have fp : F p = none := by
    cases h : F p with
    | none => rfl
    | some u => rw [s.sub p u h] at hp; cases hp
  refine ⟨⟨fun a u z => ?_, s.len, fun i sv z => (s.slot i sv z).keep (.new fp) fun q xs _ h2 h3 _ => ⟨(upd_ne (ne h3)).trans h2, (upd_ne (ne h3)).trans h3⟩, s.dist, (s.sx.fast fp no).upd (.inl hp) no⟩, ⟨g.ext.trans (.new fp), fun a u h n t => ?_, fun a h => ?_, fun a h1 h2 h3 => ?_, g.own, g.iok, g.len⟩⟩
  · by_cases e : a = p
    · subst e; rw [upd_same] at z ⊢; exact z
    · rw [upd_ne e] at z ⊢; exact s.sub a u z
  · have := g.frm a u h n t
    exact (upd_ne (ne this)).trans this
  · by_cases z : a = p
    · subst z; exact g.liv a hp
    · rw [upd_ne z] at h; exact g.liv a h
  · have z : a ≠ p := fun z => h2 (z ▸ g.liv p hp)
    exact (upd_ne z).trans (g.new a h1 h2 h3)
/-- slot i is emptied -/
theorem Sta.gone {K : Fg} {cv : CV} {A : AT} {e0 e : En} {σ0 σ : L2.St} {H0 F0 H F : Hp} {i : Nat} (s : Sta K cv A e σ H F) (g : Go e0 σ0 H0 F0 e σ H F) (h0 : ∀ ds, e0[i]? ≠ some (some (SV.io ds))) : Sta K cv A (e.set i none) (List.set σ i none) H F ∧ Go e0 σ0 H0 F0 (e.set i none) (List.set σ i none) H F := by
  have q := s.wipe (vs := [i])
  refine ⟨q, g.ext, g.frm, g.liv, g.new, fun j p o => ?_, fun j ds h => ?_, by rw [List.length_set]; exact g.len⟩
  · have o' : Owns (wipeE e [i]) (L2.wipe σ [i]) j p := o
    exact g.own j p o'.wipe.2
  · obtain ⟨ds', h2⟩ := g.iok j ds h
    refine ⟨ds', ?_⟩
    rw [List.getElem?_set_ne]
    · exact h2
    · rintro rfl; exact h0 ds h
section
variable {X : Cx} {W : WX} {G : Nat → Fn} {cv : CV} {pos : Pos}
/-- what is known of the classes that a clause names -/
structure TabF (X : Cx) (cv : CV) (tb : List (Nat × Option Str)) (u : Value) : Prop where
  ex : ∀ c on, tb.lookup c = some on → ∃ C : Addr, cv c = .ref C ∧ PySem.W.exmOne X.K (.ref C) u = some on.isSome ∧ ∀ n, on = some n → ClsN X.K n C
inductive HdOk (X : Cx) (G : Nat → Fn) (cv : CV) : List ExceptHandler → S → Prop
  | nil : HdOk X G cv [] .skip
  | one {x : Str} {u : Value} {b₀ : Stmt} {su : List Stmt} {p1 p2 : Pos} {hds : List ExceptHandler} {tb : List (Nat × Option Str)} {s r : S} (hc : Names X x u) (ht : TabF X cv tb u) (hsu : ∀ (a : Addr) (pn : List (Addr × Obj)), SSs (X.suite a pn) W0 G cv (b₀ :: su) s) (hr : HdOk X G cv hds r) :
      HdOk X G cv (.ExceptHandler (some (.Name x p1)) none (b₀ :: su) p2 :: hds) (.alt tb none s r)
  | as {x n : Str} {u : Value} {i : Nat} {b₀ : Stmt} {su : List Stmt} {p1 p2 : Pos} {hds : List ExceptHandler} {tb : List (Nat × Option Str)} {s r : S} (hc : Names X x u) (hi : X.N[i]? = some n) (hl : X.env.kindOf n = some .local) (ht : TabF X cv tb u)
      (hsu : ∀ (a : Addr) (pn : List (Addr × Obj)), SSs (X.suite a pn) W0 G cv (b₀ :: su) s) (hr : HdOk X G cv hds r) : HdOk X G cv (.ExceptHandler (some (.Name x p1)) (some n) (b₀ :: su) p2 :: hds) (.alt tb (some i) s r)
theorem hd_cl {R : Nat → En → Prop} {A : AT} {env : En} {σ : L2.St} {H F : Hp} {Q : Out → En → Prop} {D : Ends} (kr : KS X W cv A R env σ H F)
    (k : ∀ o env' σ' H' F', Sta X.K cv A env' σ' H' F' → Go env σ H F env' σ' H' F' → Q o env' → EndOk X.K D H o env' σ' H' F') {hds : List ExceptHandler} {h : S} (hh : HdOk X G cv hds h) :
    ∃ l, ClOk X hds l ∧ ∀ c e1 σ1 H1 F1, Sta X.K cv A e1 σ1 H1 F1 → Go env σ H F e1 σ1 H1 F1 → wH G h c R e1 Q → wCl X.K W D l (cv c) none σ1 H1 := by
  induction hh with
  | nil => exact ⟨[], .nil, fun c e1 σ1 H1 F1 s g w => kr c e1 σ1 H1 F1 s g w⟩
  | @one x u b₀ su p1 p2 hds tb sx r hc ht hsu hr ih =>
    obtain ⟨l, l1, l2⟩ := ih
    refine ⟨(u, none, fun D σ H => ∀ a pn, pSs (X.suite a pn) (b₀ :: su) D σ H) :: l, .one hc (fun a pn => ⟨fun pins s σ H D I h => h a pn pins s I⟩) l1, fun c e1 σ1 H1 F1 s g w => ?_⟩
    simp only [br_iff, ls_iff, nrm_iff, bk_iff, sf_iff, wH] at w
    split at w
    · rename_i n hl
      obtain ⟨C, c1, c2, c3⟩ := ht.ex c _ hl
      rw [c1]
      refine ⟨true, c2, fun _ a ha => ?_, fun z => nomatch z⟩
      intro a' pn
      obtain ⟨s2, g2⟩ := s.alloc g ha (o := ExK (.ref C) none a) nt_exk
      refine hsu a' pn noR A e1 σ1 _ F1 Q D s2 w (fun _ _ _ _ _ _ _ z => z.elim) fun o e2 σ2 H2 F2 s3 g3 q3 => ?_
      obtain ⟨s2', g2'⟩ := s.alloc g ha (o := ExK (.ref C) none a) nt_exk
      have e := k o e2 σ2 H2 F2 s3 (g2'.trans g3) q3
      cases o with
      | rt v => exact fun y ry => e y (ry.back g2')
      | _ => exact e
    · rename_i hl
      obtain ⟨C, c1, c2, c3⟩ := ht.ex c _ hl
      have w2 := l2 c e1 σ1 H1 F1 s g w
      rw [c1] at w2 ⊢
      exact ⟨false, c2, fun z => absurd z (by decide), fun _ => w2⟩
    · exact w.elim
  | @as x n u i b₀ su p1 p2 hds tb sx r hc hi hl ht hsu hr ih =>
    obtain ⟨l, l1, l2⟩ := ih
    refine ⟨(u, some i, fun D σ H => ∀ a pn, pSs (X.suite a pn) (b₀ :: su) D σ H) :: l, .as hc hi hl (fun a pn => ⟨fun pins s σ H D I h => h a pn pins s I⟩) l1, fun c e1 σ1 H1 F1 s g w => ?_⟩
    simp only [br_iff, ls_iff, bk_iff, sf_iff, wH] at w
    split at w
    · rename_i m hlk
      obtain ⟨C, c1, c2, c3⟩ := ht.ex c _ hlk
      rw [c1]
      refine ⟨true, c2, fun _ a ha => ?_, fun z => nomatch z⟩
      intro a' pn
      have nio : ∀ ds, env[i]? ≠ some (some (SV.io ds)) := fun ds z => by
        obtain ⟨ds', h2⟩ := g.iok i ds z
        rw [putS_iff, h2] at w
        exact w
      obtain ⟨s2, g2⟩ := s.allocF g ha (o := ExK (.ref C) none a) nt_exk
      obtain ⟨e2, w2, s3, g3⟩ := s2.putV g2 (.exc (c3 m rfl) upd_same) w
      refine hsu a' pn noR A e2 _ _ _ _ (goneE D i) s3 w2 (fun _ _ _ _ _ _ _ z => z.elim) fun o e4 σ4 H4 F4 s4 g4 q4 => ?_
      obtain ⟨q5, q6⟩ := q4
      rw [nrm_iff] at q6
      obtain ⟨s5, g5⟩ := s4.gone (g3.trans g4) nio
      have e := k o _ _ H4 F4 s5 g5 q6
      cases o with
      | nx => exact e
      | bk => exact e
      | ct => exact e
      | rt v =>
        cases v with
        | v d => exact fun y ry => e y ry
        | own d => exact q5.elim
        | io d => exact q5.elim
        | th d => exact q5.elim
        | fn d => exact q5.elim
    · rename_i hlk
      obtain ⟨C, c1, c2, c3⟩ := ht.ex c _ hlk
      have w2 := l2 c e1 σ1 H1 F1 s g w
      rw [c1] at w2 ⊢
      exact ⟨false, c2, fun z => absurd z (by decide), fun _ => w2⟩
    · exact w.elim
/-- try: .. except C as e: .. -/
theorem ss_tri {body : List Stmt} {h₀ : ExceptHandler} {hds : List ExceptHandler} {a h : S} (hs : X.stack = X.env :: X.outer) (hf : X.env.frame = some X.env.locals) (hN : X.N.Nodup) (hx : X.ex = []) (tk : Takes X W)
    (hb : ∀ (W' : WX) (pn : List (Addr × Obj)) (xe : Value → Shared → Prop), Takes (X.tr pn xe) W' → PassesOwn (model X.prog X.w) X.A X.env xe → SSs (X.tr pn xe) W' G cv body a) (hh : HdOk X G cv (h₀ :: hds) h) :
    SS X W G cv (.Try body (h₀ :: hds) [] [] pos) (.tri a h) := by
  intro R A env σ H F Q D s w kr k
  simp only [wS] at w
  obtain ⟨l, l1, l2⟩ := hd_cl kr k hh
  refine pS_of (ps_try_cl hs hf hN hx tk (tb := fun W' D σ H => ∀ pn xe, Takes (X.tr pn xe) W' → PassesOwn (model X.prog X.w) X.A X.env xe → pSs (X.tr pn xe) body D σ H) (fun W' pn xe t p => ⟨fun pins s σ H D I h => h pn xe t p pins s I⟩) l1) ?_
  intro pn xe t p
  exact hb _ pn xe t p (fun c e1 => wH G h c R e1 Q) A env σ H F Q D s w (fun c e1 σ1 H1 F1 s1 g1 w1 => l2 c e1 σ1 H1 F1 s1 g1 w1) k
end
end DI
namespace DI
open PySem L2 LamX
open PyProof.Rows hiding St
/-- what the thunk at f promises, from the state (s0, H0) on -/
structure ThP (P : Program) (w : World) (K : Fg) (mg : Str → Option Value) (base : Heap) (k : Nat) (f : Addr) (fs : List Addr) (s0 : Shared) (H0 : Hp) (sp : Hp → VK → XK → Prop) : Prop where
  run : ∀ (A : Around) (outer : List Env) (s : Shared) (H : Hp) (Q : VK) (E : XK), A.guards = some [] → Room k A → Env0 P w K mg base A outer s H → Un fs [] H0 H s0.heap s.heap → sp H Q E →
    codeAny (model P w) A (.call (.ref f) ⟨[], []⟩) (CR (L2.CX P w) outer P w H s Q E) s
  fn : ∀ (s : Shared) (H : Hp), Un fs [] H0 H s0.heap s.heap → PySem.W.FnAt f s.heap
/-- the lambda that was made at (s, H) -/
theorem th_lam {X : Cx} {pins : List (Addr × Obj)} {σ : L2.St} {H : Hp} {s : Shared} {k : Nat} {f c' : Addr} {pm ctv : Value} {ps : Arguments} {body : Expr} {scope : Scope} (I : Inv X pins σ H s) (L : LamS X.env.scope scope)
    (hf : s.heap.get? f = some (PySem.W.kla_obj "<lambda>" (X.env.qual ++ "<lambda>") ps body scope (cloFrom X.env.cells scope.names []) pm c' ctv)) (hfn : H f = none) (hfr : f ∉ frs X.stack)
    (hbind : bindArgs (PySem.W.kla_fn "<lambda>" (X.env.qual ++ "<lambda>") ps body scope (cloFrom X.env.cells scope.names []) pm (.ref c') ctv) ⟨[], []⟩ = pure []) :
    ThP X.prog X.w X.K X.mg X.base (k + 1) f (frs X.stack) s H fun HZ Q E => HZ c' = some (CodeO c' (X.env.qual ++ "<lambda>")) ∧
      ∀ (A : Around) (outer : List Env) (s1 : Shared), A.guards = some [] → Room k (A.deeper (lamEnv X scope s1.heap.objs.size f c')) → pX (lamCx X A outer s1 HZ E scope f c') body σ HZ Q := by
  refine ⟨fun A outer s1 HZ Q E hg hr e0 un ⟨hc, hb⟩ => ?_, fun s1 HZ un => ⟨_, _, _, _, un.keep f _ hf hfn hfr (by simp)⟩⟩
  have at1 := un.keep f _ hf hfn hfr (by simp)
  obtain ⟨⟨oc, vs, t, k1, k2, k3⟩, _, _⟩ := e0.hok c' _ hc
  have lim : s1.heap.NoLimit := e0.mod.nolimit.keeps fun b o e => (e0.bs b o e).1
  refine PySem.W.kla_callFunE hr.depth at1 rfl L.co L.gen rfl ⟨c', oc, vs, t, rfl, k1, k2, k3⟩ ?_
  rw [hbind]
  refine wpAny_pure (wpAny_newFunctionEnv (fun y hy => (L.own y hy).2) (fun y hy => absurd hy List.not_mem_nil) (fun h2 hns hsb => ⟨lim.fresh _ hsb, ?_⟩) L.kind)
  show codeAny _ _ (.expr body (lamEnv X scope s1.heap.objs.size f c')) _ _
  have stays : ∀ b o, s1.heap.get? b = some o → h2.get? b = some o := fun b o e => by
    have ne := Nat.ne_of_lt (Heap.lt_size e)
    exact hsb.extBut b o ne (Heap.get?_push_of_some _ e)
  have J := lam_start2 (E := E) (f := f) (c' := c') (tk := s1.toks + ([] : List (Str × Value)).length) I L e0 hr.hd un hns stays
  refine PySem.W.kla_codeExpr (wpAny_mono (hb A outer s1 hg (hr.deeper _) [] _ J) (fun v s2 hq => ?_) fun e s2 hq => hq)
  obtain ⟨u, H2, J2, rv, q⟩ := hq
  exact ⟨u, H2, J2.os, J2.bare, J2.base, J2.hok, rv, q⟩
/-- what is wished of a thunk, of data: F0 stood fast when it was made -/
def thSp (K : Fg) (cv : CV) (c' : Addr) (q : Str) (S : Oc → Prop) : Hp → VK → XK → Prop := fun H Q E => H c' = some (CodeO c' q) ∧ ∃ F, Sub cv.F0 F ∧ Sub F H ∧ NF F ∧ TabI cv.T H ∧
  (∀ d v H2 F2, Fin K cv.T H F H2 F2 [] [] → Rep K F2 v d → S (.inl d) → Q v H2) ∧ ∀ c H2 F2, Fin K cv.T H F H2 F2 [] [] → S (.inr c) → E (cv c) none H2
/-- where nothing of one's own is changed -/
theorem Sta.still {K : Fg} {cv : CV} {A : AT} {e : En} {σ : L2.St} {H F H' F' : Hp} (s : Sta K cv A e σ H F) (f : Fin K cv.T H F H' F' [] []) : Sta K cv A e σ H' F' ∧ Go e σ H F e σ H' F' := by
  obtain ⟨s2, g2, _⟩ := s.after (is := []) (as := []) (fin := []) .nil List.nodup_nil f
  exact ⟨s2, g2⟩
theorem se_act {Y : Cx} {W : WX} {G : Nat → Fn} {cv : CV} {S : Oc → Prop} {k : Nat} {f c' : Addr} {q : Str} {i : Nat} {a : Str} {p1 p2 : Pos} (hN : Y.N[i]? = some a) (hv : Vis Y.env.scope a) (hd : (a == ("__debug__" : Str)) = false) (hcd : (a == ("__classdict__" : Str)) = false)
    (hg : Y.A.guards = some []) (hr : Room k Y.A) (tk : Takes Y W) (hx : Y.ex = []) (hG : G 9998 = thFn S f) (hco : (c', q) ∈ cv.co) (th : ThP Y.prog Y.w Y.K Y.mg Y.base k f (frs Y.outer) Y.s_0 Y.H_0 (thSp Y.K cv c' q S)) :
    SE Y W G cv (.Call (.Name a p1) [] [] p2) (.act i) := by
  intro R A env σ H F Q Q' s w kr kk pins st I
  simp only [br_iff, ls_iff, nrm_iff, bk_iff, sf_iff, wE] at w
  split at w
  · rename_i z he
    rw [hG] at w
    obtain ⟨hz, w⟩ := w
    obtain ⟨w1, w2⟩ := thFn_sp w
    have hx1 : σ[i]? = some (some (.ref z)) := s.slot i _ he
    have ef : z = f := hz
    subst ef
    refine wpAny_Call_Name_kw (thn ((pe_var (pos := p1) hN hv hd hcd).run pins st σ H (fun v H1 => v = .ref z ∧ H1 = H) I ⟨_, hx1, rfl, rfl⟩) fun u s1 ⟨v, H1, I1, r1, e1, e2⟩ => ?_)
    subst e1 e2
    obtain rfl : u = Value.ref z := r1
    have un : Un (frs Y.outer) [] Y.H_0 H1 Y.s_0.heap s1.heap := by
      have b := I1.base
      rw [hx] at b
      exact b
    refine PySem.W.callWith_F0 (th.fn s1 H1 un) ?_
    have hc : H1 c' = some (CodeO c' q) := s.sx.cod _ hco
    refine wpAny_call (codeAny_mono (th.run Y.A Y.stack s1 H1 Q' (fun cls d H2 => W cls d σ H2) hg hr I1.env0 un ⟨hc, F, s.sx.sb, s.sub, s.sx.nf, s.sx.tab, fun d v H2 F2 fi rv hs => ?_, fun c H2 F2 fi hs => ?_⟩) fun r s2 hq => ?_)
    · obtain ⟨s2, g2⟩ := s.still fi
      exact kk (.v d) env v H2 F2 s2 g2 rv (w1 d [] hs)
    · obtain ⟨s2, g2⟩ := s.still fi
      exact kr c env H2 F2 s2 g2 (w2 c [] hs)
    · cases r with
      | error e => exact tk e s2 (XE.of_call I1 (fun _ _ _ z => z) hq)
      | ok fl =>
        cases fl with
        | ret u => exact I1.after hq
        | next => exact False.elim hq
        | brk => exact False.elim hq
        | cont => exact False.elim hq
  · exact w.elim
/-- what a def that is handed a thunk promises -/
structure FnL (P : Program) (w : World) (K : Fg) (mg : Str → Option Value) (base : Heap) (cv : CV) (k : Nat) (g : Addr) (f : Fn) : Prop where
  run : ∀ (S : Oc → Prop) (Ps : SV → List (List D) → Prop) (Rs : Nat → List (List D) → Prop), (∀ o, S o → f.sp [.v (outD o)] Ps Rs) → ∀ (A : Around) (outer : List Env) (s : Shared) (H F0 : Hp) (fa c' : Addr) (q : Str) (Q : VK) (E : XK),
    A.guards = some [] → Room (k + 1) A → Env0 P w K mg base A outer s H → Sub F0 H → NF F0 → TabI cv.T H → H c' = some (CodeO c' q) → ThP P w K mg base k fa (frs outer) s H (thSp K ⟨cv.val, cv.T, F0, [(c', q)], []⟩ c' q S) →
    (∀ r x H' F', Ps r [] → Fin K cv.T H F0 H' F' [] [] → RetOk K H H' F' x r → Q x H') → (∀ c H' F', Rs c [] → Fin K cv.T H F0 H' F' [] [] → E (cv c) none H') →
    codeAny (model P w) A (.call (.ref g) ⟨[.ref fa], []⟩) (CR (L2.CX P w) outer P w H s Q E) s
theorem hide_len : ∀ {e : En}, (hideE e).length = e.length
  | [] => rfl
  | s :: r => by show (hideE r).length + 1 = _; rw [hide_len]; rfl
theorem hideS_some {o : Option SV} {s : SV} (h : hideS o = some s) : ∃ d, s = .v d ∧ o = some (.v d) := by
  unfold hideS at h
  split at h
  · cases h; exact ⟨_, rfl, rfl⟩
  · cases h
theorem hide_get : ∀ {e : En} {i : Nat} {s : SV}, (hideE e)[i]? = some (some s) → ∃ d, s = .v d ∧ e[i]? = some (some (.v d))
  | [], i, s, h => by simp [hideE] at h
  | o :: r, 0, s, h => by
    have h2 : hideS o = some s := Option.some.inj h
    obtain ⟨d, h3, h4⟩ := hideS_some h2
    exact ⟨d, h3, congrArg some h4⟩
  | o :: r, i + 1, s, h => by
    obtain ⟨d', h1, h2⟩ := hide_get (e := r) (i := i) (s := s) (by simpa [hideE] using h)
    exact ⟨d', h1, by simpa using h2⟩
theorem hide_own {e : En} {σ : L2.St} {i : Nat} {p : Addr} : ¬ Owns (hideE e) σ i p := fun ⟨_, ds, h⟩ => by
  rcases h with h | h <;> (obtain ⟨d, h1, _⟩ := hide_get h; cases h1)
/-- a lambda is made: its code object is new, or stands in the table -/
theorem lam_mk {X : Cx} {pins : List (Addr × Obj)} {σ : L2.St} {H : Hp} {s : Shared} {T : List (Addr × Str)} {c P : Addr} {ps : Arguments} {body : Expr} {scope : Scope} {lp : Pos} {E : Value → Shared → Prop} {Q : Value → Shared → Prop} (I : Inv X pins σ H s) (TB : TabB X.base X.mg c P)
    (hcode : X.env.code = .ref c) (hm : (P, X.env.qual ++ "<lambda>") ∈ T) (hu : ∀ p ∈ T, p.1 = P → p.2 = X.env.qual ++ "<lambda>") (hT : Tabs T H) (hdef : defaultsOf ps X.env = ([], [])) (hfree : ∀ y ∈ scope.names, y.2 = .free → ∃ c, X.env.cells.lookup y.1 = some c)
    (h : ∀ (f c' : Addr) (pm ctv : Value) (H1 : Hp) (s' : Shared), Inv X pins σ H1 s' → (H1 = H ∨ ∃ us more, H P = some (.tbl us) ∧ H c' = none ∧ H1 = upd (upd H P (.tbl (us ++ more))) c' (CodeO c' (X.env.qual ++ "<lambda>"))) → Tabs T H1 →
      s'.heap.get? f = some (PySem.W.kla_obj "<lambda>" (X.env.qual ++ "<lambda>") ps body scope (cloFrom X.env.cells scope.names []) pm c' ctv) → H1 f = none → f ∉ frs X.stack → H1 c' = some (CodeO c' (X.env.qual ++ "<lambda>")) → Q (.ref f) s') :
    wpAny (model X.prog X.w) X.A (eval (.Lambda ps body scope lp) X.env) Q E s := by
  obtain ⟨us, hP, tr, am⟩ := hT _ hm
  dsimp only at hP am
  have bA : s.heap.BuiltinsAt X.mg P := TB.bm.keeps I.bk
  have gP : s.heap.get? P = some { cls := .none, data := .fields us } := I.hok P _ hP
  have glob := I.mod.glob.keeps I.bk
  have code := TB.code.keeps I.bk
  have out : ∀ b, s.heap.objs.size ≤ b → b ∉ frs X.stack := fun b hb z => by
    rcases List.mem_cons.mp (I.stkSub _ z) with e | e
    · have := I.lt
      rw [← e] at this
      exact Nat.lt_irrefl _ (Nat.lt_of_lt_of_le this hb)
    · exact I.nofs hb e
  refine PySem.W.kla_eval hdef (show _ from ?_)
  rcases hc : codeAmong lp us.toList with _ | v
  · refine PySem.W.kla_makeFunction (mg := X.mg) (c := c) (P := P) (ps := us) (closure_ok hfree) I.ok.glob glob hcode code gP tr hc TB.gP bA fun c' ctv h2 tk kx hge hlt hrec htb => ?_
    obtain ⟨c2, oc, vs, t, e2, k1, k2, k3⟩ := hrec
    cases e2
    have big : s.heap.objs.size ≤ h2.objs.size := by omega
    have free : H c' = none := I.hok.fresh hge
    have I2 := inv_table (t' := tk) (more := #[rawInt lp.line, rawInt lp.col, .ref c']) (h' := h2.push (PySem.W.kla_obj "<lambda>" (X.env.qual ++ "<lambda>") ps body scope (cloFrom X.env.cells scope.names []) ((X.mg "__name__").getD .none) c' ctv)) I hP
      (fun b o hb e => Heap.get?_push_of_some _ (kx b o hb e)) (Heap.get?_push_of_some _ htb) hge ⟨oc, vs, t, Heap.get?_push_of_some _ k1, k2, k3⟩
    have keeps : ∀ b o, H b = some o → NT o → upd (upd H P (.tbl (us ++ #[rawInt lp.line, rawInt lp.col, .ref c']))) c' (CodeO c' (X.env.qual ++ "<lambda>")) b = some o := fun b o e n => by
      have n1 : b ≠ c' := ne_of_none e free
      have n2 : b ≠ P := fun z => by rw [z, hP] at e; cases e; exact n _ rfl
      rw [upd_ne n1, upd_ne n2]; exact e
    have nCO : NT (CodeO c' (X.env.qual ++ "<lambda>")) := codeO_ne
    have lst : (us ++ #[rawInt lp.line, rawInt lp.col, .ref c']).toList = us.toList ++ [rawInt lp.line, rawInt lp.col, .ref c'] := by simp
    refine h h2.objs.size c' ((X.mg "__name__").getD .none) ctv _ _ I2 (.inr ⟨us, _, hP, free, rfl⟩) (fun p hp => ?_) (Heap.get?_push_size _ rfl) ?_ (out _ big) upd_same
    · by_cases hb : p.1 = P
      · have e2 := hu p hp hb
        rw [hb, e2]
        refine ⟨_, (upd_ne (ne_of_none hP free)).trans upd_same, by rw [lst]; exact PySem.TriplesOk_snoc _ _ _ _ tr, fun pp w hw => ?_⟩
        rw [lst] at hw
        rcases among_app _ tr hw with z | z
        · obtain ⟨c0, e1, e2⟩ := am pp w z
          exact ⟨c0, e1, keeps _ _ e2 codeO_ne⟩
        · exact ⟨c', z, upd_same⟩
      · obtain ⟨qs, a1, a2, a3⟩ := hT p hp
        refine ⟨qs, ?_, a2, fun pp w hw => ?_⟩
        · exact (upd_ne (ne_of_none a1 free)).trans ((upd_ne hb).trans a1)
        · obtain ⟨c0, e1, e2⟩ := a3 pp w hw
          exact ⟨c0, e1, keeps _ _ e2 codeO_ne⟩
    · have n1 : h2.objs.size ≠ c' := fun z => Nat.lt_irrefl _ (z ▸ hlt)
      have n2 : h2.objs.size ≠ P := fun z => Nat.lt_irrefl _ (Nat.lt_of_lt_of_le (z ▸ Heap.lt_size gP) big)
      rw [upd_ne n1, upd_ne n2]
      exact I.hok.fresh big
  · obtain ⟨c', rfl, hco⟩ := am lp v hc
    refine PySem.W.kla_makeFunctionHit (mg := X.mg) (c := c) (P := P) (ps := us) (closure_ok hfree) I.ok.glob glob hcode code gP tr hc bA fun ctv h2 tk kx big => ?_
    have I2 : Inv X pins σ H { s with heap := h2.push (PySem.W.kla_obj "<lambda>" (X.env.qual ++ "<lambda>") ps body scope (cloFrom X.env.cells scope.names []) ((X.mg "__name__").getD .none) c' ctv), toks := tk } := I.kept fun b o e => Heap.get?_push_of_some _ (kx b o e)
    exact h h2.objs.size c' ((X.mg "__name__").getD .none) ctv H _ I2 (.inl rfl) hT (Heap.get?_push_size _ rfl) (I.hok.fresh big) (out _ big) hco
/-- x(lambda: body) -/
theorem se_lam {X : Cx} {W : WX} {G : Nat → Fn} {cv : CV} {id k : Nat} {x : Str} {g cX P : Addr} {ps : Arguments} {body : Expr} {scope : Scope} {xb : DI.X} {p lpos pos : Pos} (hgl : Gl X x) (hm : X.mg x = some (.ref g)) (hk : PySem.W.keepIn X.K (.ref g) = true) (hd : (x == ("__debug__" : Str)) = false)
    (hg : X.A.guards = some []) (hr : Room (k + 2) X.A) (tk : Takes X W) (FL : FnL X.prog X.w X.K X.mg X.base cv (k + 1) g (G id)) (TB : TabB X.base X.mg cX P) (hcode : X.env.code = .ref cX) (hmT : (P, X.env.qual ++ "<lambda>") ∈ cv.T)
    (hu : ∀ p ∈ cv.T, p.1 = P → p.2 = X.env.qual ++ "<lambda>") (L : LamS X.env.scope scope) (hdef : defaultsOf ps X.env = ([], [])) (hbind : ∀ (q : Str) (cl : List (Str × Addr)) (pm cv ctv : Value), bindArgs (PySem.W.kla_fn "<lambda>" q ps body scope cl pm cv ctv) ⟨[], []⟩ = pure [])
    (hco : cv.co = []) (hbody : ∀ (A : Around) (outer : List Env) (s : Shared) (H : Hp) (E : XK) (f c' : Addr), A.guards = some [] → Room k (A.deeper (lamEnv X scope s.heap.objs.size f c')) → SE (lamCx X A outer s H E scope f c') (fun cls d _ H' => E cls d H') G cv body xb) :
    SE X W G cv (.Call (.Name x p) [.Lambda ps body scope lpos] [] pos) (.lam id xb) := by
  intro R A env σ H F Q Q' s w kr kc pins st I
  simp only [br_iff, ls_iff, nrm_iff, bk_iff, sf_iff, wE] at w
  refine wpAny_Call_Name_kw (ld_glob I hgl hm ?_ hd)
  refine PySem.W.callWith_K (h₀ := X.base) I.ok.mod.kin hk ?_ (by rfl) (by rfl)
  show wpAny _ _ (spliced ((false, eval (.Lambda ps body scope lpos) X.env) :: backTo pos (starEach [] X.env))) _ _ st
  refine Calls.spliced_cons (lam_mk I TB hcode hmT hu s.sx.tab.tab hdef (L.has I.ok) fun f c' pm' ctv H1 s' I1 hH T1 hf hfn hfr hcc => ?_)
  refine Calls.spliced_nil ⟨I1.kIn, ?_⟩
  have eN : ∀ a o, H a = some o → NT o → H1 a = some o := fun a o h n => by
    rcases hH with rfl | ⟨us, more, h1, h2, rfl⟩
    · exact h
    · rw [upd_ne (ne_of_none h h2), upd_ne (fun z => by rw [z, h1] at h; cases h; exact n _ rfl)]; exact h
  have liv1 : ∀ a, H1 a = none → H a = none := fun a z => by
    rcases hH with rfl | ⟨us, more, h1, h2, rfl⟩
    · exact z
    · by_cases e : a = c'
      · rw [e]; exact h2
      · rw [upd_ne e] at z
        by_cases e2 : a = P
        · subst e2; rw [upd_same] at z; cases z
        · rw [upd_ne e2] at z; exact z
  have tin1 : ∀ a us, H1 a = some (.tbl us) → ∃ q, (a, q) ∈ cv.T := fun a us z => by
    rcases hH with rfl | ⟨vs, more, h1, h2, rfl⟩
    · exact s.sx.tab.tin a us z
    · by_cases e : a = c'
      · subst e; rw [upd_same] at z; exact absurd (Option.some.inj z) (codeO_ne _)
      · rw [upd_ne e] at z
        by_cases e2 : a = P
        · subst e2; exact ⟨_, hmT⟩
        · rw [upd_ne e2] at z; exact s.sx.tab.tin a us z
  have sub1 : Sub F H1 := fun a o h => eN a o (s.sub a o h) (s.sx.nf a o h)
  have sx1 : Sx cv A H1 F := ⟨⟨T1, tin1⟩, s.sx.nf, s.sx.sb, by rw [hco]; exact fun p hp => absurd hp List.not_mem_nil, s.sx.ad⟩
  have s1 : Sta X.K cv A env σ H1 F := ⟨sub1, s.len, fun i sv h => (s.slot i sv h).keep .refl fun p xs _ h2 h3 _ => ⟨h2, eN _ _ h3 nt_lst⟩, s.dist, sx1⟩
  have g1 : Go env σ H F env σ H1 F := ⟨.refl, fun a o h _ t => eN a o h t, liv1, fun a h _ _ => h, fun i p o => .inr ⟨i, o⟩, fun i ds h => ⟨ds, h⟩, rfl⟩
  have th := th_lam (k := k) I1 L hf hfn hfr (hbind _ _ _ _ _)
  refine wpAny_call (codeAny_mono (FL.run (fun o => (G id).sp [.v (outD o)] (fun r _ => Q (backR r) env) (fun c _ => R c env)) _ _ (fun o h => h) X.A X.stack s' H1 F f c' (X.env.qual ++ "<lambda>") Q' (fun cls d H2 => W cls d σ H2) hg hr I1.env0 sub1 s.sx.nf ⟨T1, tin1⟩ hcc
    ⟨fun A' o' s2 H2 Q2 E2 hg2 hr2 e02 un2 sp2 => th.run A' o' s2 H2 Q2 E2 hg2 hr2 e02 un2 ?_, th.fn⟩ (fun r y H2 F2 hp fi ro => ?_) fun c H2 F2 hp fi => ?_) fun r s2 hq => ?_)
  · obtain ⟨hc2, F2, f1, f2, f3, f4, f5, f6⟩ := sp2
    refine ⟨hc2, fun A3 o3 s3 hg3 hr3 => ?_⟩
    have fin : ∀ {e4 : En} {H4 F4 : Hp}, Sta X.K cv A e4 σ H4 F4 → Go (hideE env) σ H2 F2 e4 σ H4 F4 → Fin X.K cv.T H2 F2 H4 F4 [] [] := fun {e4 H4 F4} st g =>
      ⟨g.ext, st.sub, fun a o h _ t => g.frm a o h (fun _ => hide_own) t, g.liv, fun a h1 h2 _ => g.new a h1 h2 fun _ => hide_own, .nil, st.sx.tab, st.sx.nf⟩
    refine hbody A3 o3 s3 H2 E2 f c' hg3 hr3 _ A (hideE env) σ H2 F2 _ Q2 ⟨f2, by rw [hide_len]; exact s.len, fun i sv h => ?_, fun i j p o => absurd o hide_own, ⟨f4, f3, s.sx.sb.trans f1, by rw [hco]; exact fun p hp => absurd hp List.not_mem_nil, s.sx.ad⟩⟩ w
      (fun c e3 H3 F3 st3 g3 r => f6 c H3 F3 (fin st3 g3) r) fun ra e3 v H3 F3 st3 g3 rv3 q3 => ?_
    · obtain ⟨d, rfl, h2⟩ := hide_get h
      obtain ⟨y, y1, y2⟩ := s.slot i _ h2
      exact ⟨y, y1, y2.mono f1⟩
    · obtain ⟨d, e4, F4, hS, st4, g4, r4⟩ := st3.settle g3 rv3 q3
      exact f5 d v H3 F4 (fin st4 g4) r4 hS
  · obtain ⟨s3, g3⟩ := s1.still fi
    refine kc (backR r) env y H2 F2 s3 (g1.trans g3) ?_ hp
    cases r with
    | v d => exact ro
    | io ds => exact ro.elim
    | th d => exact ro.elim
    | fn d => exact ro.elim
    | own ds =>
      obtain ⟨p', xs, z1, z2, z3, z4, z5⟩ := ro
      refine ⟨p', xs, z1, z2, z3, z4, liv1 _ z5, fun i o => ?_⟩
      obtain ⟨_, ys, z6⟩ := s1.owns o
      rw [z5] at z6; cases z6
  · obtain ⟨s3, g3⟩ := s1.still fi
    exact kr c env H2 F2 s3 (g1.trans g3) hp
  · cases r with
    | error e => exact tk e s2 (XE.of_call I1 (fun _ _ _ z => z) hq)
    | ok fl =>
      cases fl with
      | ret u => exact I1.after hq
      | next => exact False.elim hq
      | brk => exact False.elim hq
      | cont => exact False.elim hq
/-- what is wished of such a thunk, of data: the list stands at pl, ds ahead -/
def thSpP (K : Fg) (cv : CV) (c' : Addr) (q : Str) (pl : Addr) (ds : List D) (S : Oc → List D → Prop) : Hp → VK → XK → Prop := fun H Q E => H c' = some (CodeO c' q) ∧ ∃ F, Sub cv.F0 F ∧ Sub F H ∧ NF F ∧ TabI cv.T H ∧
  (F pl = none ∧ ∃ xs, H pl = some (.lst xs) ∧ RepL K F xs ds) ∧
  (∀ d v H2 F2 ds', Fin K cv.T H F H2 F2 [pl] [ds'] → Rep K F2 v d → S (.inl d) ds' → Q v H2) ∧ ∀ c H2 F2 ds', Fin K cv.T H F H2 F2 [pl] [ds'] → S (.inr c) ds' → E (cv c) none H2
theorem Sta.still1 {K : Fg} {cv : CV} {A : AT} {e : En} {σ : L2.St} {H F H' F' : Hp} {i : Nat} {pl : Addr} {ds' : List D} (s : Sta K cv A e σ H F) (ow : Owns e σ i pl) (f : Fin K cv.T H F H' F' [pl] [ds']) :
    Sta K cv A (putFin e [i] [ds']) σ H' F' ∧ Go e σ H F (putFin e [i] [ds']) σ H' F' ∧ ∀ j p, Owns (putFin e [i] [ds']) σ j p → Owns e σ j p :=
  s.after (is := [i]) (as := [pl]) (fin := [ds']) (.cons ow .nil) (List.nodup_cons.mpr ⟨List.not_mem_nil, List.nodup_nil⟩) f
theorem se_actP {Y : Cx} {W : WX} {G : Nat → Fn} {cv : CV} {S : Oc → List D → Prop} {ds0 : List D} {k : Nat} {f c' pl : Addr} {q : Str} {i j : Nat} {a : Str} {p1 p2 : Pos} (hN : Y.N[i]? = some a) (hv : Vis Y.env.scope a) (hd : (a == ("__debug__" : Str)) = false) (hcd : (a == ("__classdict__" : Str)) = false)
    (hg : Y.A.guards = some []) (hr : Room k Y.A) (tk : Takes Y W) (hx : Y.ex = []) (hG : G 9997 = thFnP S f ds0) (hco : (c', q) ∈ cv.co) (had : (j, pl) ∈ cv.ad) (th : ThP Y.prog Y.w Y.K Y.mg Y.base k f (frs Y.outer) Y.s_0 Y.H_0 (thSpP Y.K cv c' q pl ds0 S)) :
    SE Y W G cv (.Call (.Name a p1) [] [] p2) (.actP i j) := by
  intro R A env σ H F Q Q' s w kr kk pins st I
  simp only [br_iff, ls_iff, nrm_iff, bk_iff, sf_iff, wE] at w
  split at w
  · rename_i z he
    rw [hG] at w
    obtain ⟨hz, w⟩ := w
    split at w
    · rename_i ds hj
      obtain ⟨_, e0, _, w1, w2⟩ := w
      have e0' : ds = ds0 := SV.io.inj (List.cons.inj e0).1
      subst e0'
      have hx1 : σ[i]? = some (some (.ref z)) := s.slot i _ he
      have ef : z = f := hz
      subst ef
      obtain ⟨xs, j1, j2, j3, j4⟩ := s.slot j _ hj
      have hA : A j = pl := s.sx.ad _ had
      rw [hA] at j1 j2 j3
      have ow : Owns env σ j pl := ⟨j1, _, .inr hj⟩
      refine wpAny_Call_Name_kw (thn ((pe_var (pos := p1) hN hv hd hcd).run pins st σ H (fun v H1 => v = .ref z ∧ H1 = H) I ⟨_, hx1, rfl, rfl⟩) fun u s1 ⟨v, H1, I1, r1, e1, e2⟩ => ?_)
      subst e1 e2
      obtain rfl : u = Value.ref z := r1
      have un : Un (frs Y.outer) [] Y.H_0 H1 Y.s_0.heap s1.heap := by
        have b := I1.base
        rw [hx] at b
        exact b
      refine PySem.W.callWith_F0 (th.fn s1 H1 un) ?_
      have hc : H1 c' = some (CodeO c' q) := s.sx.cod _ hco
      refine wpAny_call (codeAny_mono (th.run Y.A Y.stack s1 H1 Q' (fun cls d H2 => W cls d σ H2) hg hr I1.env0 un ⟨hc, F, s.sx.sb, s.sub, s.sx.nf, s.sx.tab, ⟨j2, xs, j3, j4⟩, fun d v H2 F2 ds' fi rv hs => ?_, fun c H2 F2 ds' fi hs => ?_⟩) fun r s2 hq => ?_)
      · obtain ⟨s2, g2, _⟩ := s.still1 ow fi
        exact kk (.v d) _ v H2 F2 s2 g2 rv (w1 (.v d) [ds'] ⟨d, ds', hs, rfl, rfl⟩)
      · obtain ⟨s2, g2, _⟩ := s.still1 ow fi
        exact kr c _ H2 F2 s2 g2 (w2 c [ds'] ⟨ds', hs, rfl⟩)
      · cases r with
        | error e => exact tk e s2 (XE.of_call I1 (fun _ _ _ z => z) hq)
        | ok fl =>
          cases fl with
          | ret u => exact I1.after hq
          | next => exact False.elim hq
          | brk => exact False.elim hq
          | cont => exact False.elim hq
    · exact w.elim
  · exact w.elim
/-- what a def that is handed such a thunk promises -/
structure FnLP (P : Program) (w : World) (K : Fg) (mg : Str → Option Value) (base : Heap) (cv : CV) (k : Nat) (g : Addr) (f : Fn) : Prop where
  run : ∀ (ds : List D) (S : Oc → List D → Prop) (Ps : SV → List (List D) → Prop) (Rs : Nat → List (List D) → Prop), (∀ o ds', S o ds' → f.sp [.v (outD o)] (fun r _ => Ps r [ds']) (fun c _ => Rs c [ds'])) → ∀ (A : Around) (outer : List Env) (s : Shared) (H F0 : Hp) (fa c' pl : Addr) (q : Str) (Q : VK) (E : XK),
    A.guards = some [] → Room (k + 1) A → Env0 P w K mg base A outer s H → Sub F0 H → NF F0 → TabI cv.T H → H c' = some (CodeO c' q) → (F0 pl = none ∧ ∃ xs, H pl = some (.lst xs) ∧ RepL K F0 xs ds) → ThP P w K mg base k fa (frs outer) s H (thSpP K ⟨cv.val, cv.T, F0, [(c', q)], []⟩ c' q pl ds S) →
    (∀ r x H' F' ds', Ps r [ds'] → Fin K cv.T H F0 H' F' [pl] [ds'] → RetOk K H H' F' x r → Q x H') → (∀ c H' F' ds', Rs c [ds'] → Fin K cv.T H F0 H' F' [pl] [ds'] → E (cv c) none H') →
    codeAny (model P w) A (.call (.ref g) ⟨[.ref fa], []⟩) (CR (L2.CX P w) outer P w H s Q E) s
theorem hideP_len : ∀ {e : En} {i : Nat}, (hideP e i).length = e.length
  | [], i => by cases i <;> rfl
  | s :: r, 0 => by show (hideE r).length + 1 = _; rw [hide_len]; rfl
  | s :: r, i + 1 => by show (hideP r i).length + 1 = _; rw [hideP_len]; rfl
theorem hideP_get : ∀ {e : En} {i j : Nat} {s : SV}, (hideP e i)[j]? = some (some s) → (j = i ∧ e[j]? = some (some s)) ∨ ∃ d, s = .v d ∧ e[j]? = some (some (.v d))
  | [], i, j, s, h => by cases i <;> simp [hideP] at h
  | o :: r, 0, 0, s, h => .inl ⟨rfl, h⟩
  | o :: r, 0, j + 1, s, h => by
    have h2 : (hideE r)[j]? = some (some s) := by simpa [hideP] using h
    obtain ⟨d, h1, h3⟩ := hide_get h2
    exact .inr ⟨d, h1, by simpa using h3⟩
  | o :: r, i + 1, 0, s, h => by
    have h2 : hideS o = some s := Option.some.inj h
    obtain ⟨d, h3, h4⟩ := hideS_some h2
    exact .inr ⟨d, h3, congrArg some h4⟩
  | o :: r, i + 1, j + 1, s, h => by
    rcases hideP_get (e := r) (i := i) (j := j) (s := s) (by simpa [hideP] using h) with ⟨h1, h2⟩ | ⟨d, h1, h2⟩
    · exact .inl ⟨by rw [h1], by simpa using h2⟩
    · exact .inr ⟨d, h1, by simpa using h2⟩
theorem hideP_own {e : En} {σ : L2.St} {i j : Nat} {p : Addr} : Owns (hideP e i) σ j p → j = i ∧ Owns e σ j p := fun ⟨h0, ds, h⟩ => by
  rcases h with h | h
  · rcases hideP_get h with ⟨h1, h2⟩ | ⟨d, h1, _⟩
    · exact ⟨h1, h0, ds, .inl h2⟩
    · cases h1
  · rcases hideP_get h with ⟨h1, h2⟩ | ⟨d, h1, _⟩
    · exact ⟨h1, h0, ds, .inr h2⟩
    · cases h1
theorem heldL_iff {e : En} {i : Nat} {Q : List D → Prop} (h : heldL e i Q) : ∃ ds, (e[i]? = some (some (.own ds)) ∨ e[i]? = some (some (.io ds))) ∧ Q ds := by
  unfold heldL at h
  split at h
  · rename_i ds he; exact ⟨ds, .inl he, h⟩
  · rename_i ds he; exact ⟨ds, .inr he, h⟩
  · exact h.elim
theorem ownd_iff {e : En} {i : Nat} (h : ownd e i) : ∃ ds, e[i]? = some (some (.own ds)) ∨ e[i]? = some (some (.io ds)) := by
  unfold ownd at h
  split at h
  · rename_i ds he; exact ⟨ds, .inl he⟩
  · rename_i ds he; exact ⟨ds, .inr he⟩
  · exact h.elim
/-- the list that slot i holds -/
theorem Sta.held {K : Fg} {cv : CV} {A : AT} {e : En} {σ : L2.St} {H F : Hp} {i : Nat} {ds : List D} (s : Sta K cv A e σ H F) (h : e[i]? = some (some (.own ds)) ∨ e[i]? = some (some (.io ds))) :
    ∃ pl, σ[i]? = some (some (.ref pl)) ∧ (e[i]? = some (some (.io ds)) → A i = pl) ∧ F pl = none ∧ ∃ xs, H pl = some (.lst xs) ∧ RepL K F xs ds := by
  rcases h with h | h
  · obtain ⟨p, xs, h1, h2, h3, h4⟩ := s.slot i _ h
    exact ⟨p, h1, fun z => (by rw [h] at z; cases z), h2, xs, h3, h4⟩
  · obtain ⟨xs, h1, h2, h3, h4⟩ := s.slot i _ h
    exact ⟨_, h1, fun _ => rfl, h2, xs, h3, h4⟩
/-- x(lambda: body), where the body changes the list in slot i -/
theorem se_lamP {X : Cx} {W : WX} {G : Nat → Fn} {cv : CV} {id k i : Nat} {x : Str} {g cX P : Addr} {ps : Arguments} {body : Expr} {scope : Scope} {xb : DI.X} {p lpos pos : Pos} (hgl : Gl X x) (hm : X.mg x = some (.ref g)) (hk : PySem.W.keepIn X.K (.ref g) = true) (hd : (x == ("__debug__" : Str)) = false)
    (hg : X.A.guards = some []) (hr : Room (k + 2) X.A) (tk : Takes X W) (FL : FnLP X.prog X.w X.K X.mg X.base cv (k + 1) g (G id)) (TB : TabB X.base X.mg cX P) (hcode : X.env.code = .ref cX) (hmT : (P, X.env.qual ++ "<lambda>") ∈ cv.T)
    (hu : ∀ p ∈ cv.T, p.1 = P → p.2 = X.env.qual ++ "<lambda>") (L : LamS X.env.scope scope) (hdef : defaultsOf ps X.env = ([], [])) (hbind : ∀ (q : Str) (cl : List (Str × Addr)) (pm cv ctv : Value), bindArgs (PySem.W.kla_fn "<lambda>" q ps body scope cl pm cv ctv) ⟨[], []⟩ = pure [])
    (hco : cv.co = []) (hbody : ∀ (A : Around) (outer : List Env) (s : Shared) (H : Hp) (E : XK) (f c' : Addr), A.guards = some [] → Room k (A.deeper (lamEnv X scope s.heap.objs.size f c')) → SE (lamCx X A outer s H E scope f c') (fun cls d _ H' => E cls d H') G cv body xb) :
    SE X W G cv (.Call (.Name x p) [.Lambda ps body scope lpos] [] pos) (.lamP id i xb) := by
  intro R A env σ H F Q Q' s w kr kc pins st I
  simp only [br_iff, ls_iff, nrm_iff, bk_iff, sf_iff, wE] at w
  obtain ⟨wo, w⟩ := w
  obtain ⟨ds0, wo⟩ := ownd_iff wo
  obtain ⟨pl, o1, o2, o3, xs0, o4, o5⟩ := s.held wo
  have ow : Owns env σ i pl := ⟨o1, ds0, wo⟩
  refine wpAny_Call_Name_kw (ld_glob I hgl hm ?_ hd)
  refine PySem.W.callWith_K (h₀ := X.base) I.ok.mod.kin hk ?_ (by rfl) (by rfl)
  show wpAny _ _ (spliced ((false, eval (.Lambda ps body scope lpos) X.env) :: backTo pos (starEach [] X.env))) _ _ st
  refine Calls.spliced_cons (lam_mk I TB hcode hmT hu s.sx.tab.tab hdef (L.has I.ok) fun f c' pm' ctv H1 s' I1 hH T1 hf hfn hfr hcc => ?_)
  refine Calls.spliced_nil ⟨I1.kIn, ?_⟩
  have eN : ∀ a o, H a = some o → NT o → H1 a = some o := fun a o h n => by
    rcases hH with rfl | ⟨us, more, h1, h2, rfl⟩
    · exact h
    · rw [upd_ne (ne_of_none h h2), upd_ne (fun z => by rw [z, h1] at h; cases h; exact n _ rfl)]; exact h
  have liv1 : ∀ a, H1 a = none → H a = none := fun a z => by
    rcases hH with rfl | ⟨us, more, h1, h2, rfl⟩
    · exact z
    · by_cases e : a = c'
      · rw [e]; exact h2
      · rw [upd_ne e] at z
        by_cases e2 : a = P
        · subst e2; rw [upd_same] at z; cases z
        · rw [upd_ne e2] at z; exact z
  have tin1 : ∀ a us, H1 a = some (.tbl us) → ∃ q, (a, q) ∈ cv.T := fun a us z => by
    rcases hH with rfl | ⟨vs, more, h1, h2, rfl⟩
    · exact s.sx.tab.tin a us z
    · by_cases e : a = c'
      · subst e; rw [upd_same] at z; exact absurd (Option.some.inj z) (codeO_ne _)
      · rw [upd_ne e] at z
        by_cases e2 : a = P
        · subst e2; exact ⟨_, hmT⟩
        · rw [upd_ne e2] at z; exact s.sx.tab.tin a us z
  have sub1 : Sub F H1 := fun a o h => eN a o (s.sub a o h) (s.sx.nf a o h)
  have sx1 : Sx cv A H1 F := ⟨⟨T1, tin1⟩, s.sx.nf, s.sx.sb, by rw [hco]; exact fun p hp => absurd hp List.not_mem_nil, s.sx.ad⟩
  have s1 : Sta X.K cv A env σ H1 F := ⟨sub1, s.len, fun i sv h => (s.slot i sv h).keep .refl fun p xs _ h2 h3 _ => ⟨h2, eN _ _ h3 nt_lst⟩, s.dist, sx1⟩
  have g1 : Go env σ H F env σ H1 F := ⟨.refl, fun a o h _ t => eN a o h t, liv1, fun a h _ _ => h, fun i p o => .inr ⟨i, o⟩, fun i ds h => ⟨ds, h⟩, rfl⟩
  have th := th_lam (k := k) I1 L hf hfn hfr (hbind _ _ _ _ _)
  refine wpAny_call (codeAny_mono (FL.run ds0 (fun o ds' => (G id).sp [.v (outD o)] (fun r _ => Q (backR r) (putFin env [i] [ds'])) (fun c _ => R c (putFin env [i] [ds']))) (fun r fin => Q (backR r) (putFin env [i] fin)) (fun c fin => R c (putFin env [i] fin)) (fun o ds' h => h) X.A X.stack s' H1 F f c' pl (X.env.qual ++ "<lambda>") Q' (fun cls d H2 => W cls d σ H2) hg hr I1.env0 sub1 s.sx.nf ⟨T1, tin1⟩ hcc ⟨o3, xs0, eN _ _ o4 nt_lst, o5⟩
    ⟨fun A' o' s2 H2 Q2 E2 hg2 hr2 e02 un2 sp2 => th.run A' o' s2 H2 Q2 E2 hg2 hr2 e02 un2 ?_, th.fn⟩ (fun r y H2 F2 ds' hp fi ro => ?_) fun c H2 F2 ds' hp fi => ?_) fun r s2 hq => ?_)
  · obtain ⟨hc2, F2, f1, f2, f3, f4, ⟨p1, xs2, p2, p3⟩, f5, f6⟩ := sp2
    refine ⟨hc2, fun A3 o3' s3 hg3 hr3 => ?_⟩
    have only : ∀ {a : Addr}, a ∉ [pl] → ∀ j, ¬ Owns (hideP env i) σ j a := fun {a} n j oo => by
      obtain ⟨rfl, oo⟩ := hideP_own oo
      have e1 := oo.1
      rw [o1] at e1
      cases e1
      exact n List.mem_cons_self
    have fin : ∀ {e4 : En} {H4 F4 : Hp} {ds' : List D}, Sta X.K cv A e4 σ H4 F4 → Go (hideP env i) σ H2 F2 e4 σ H4 F4 → (e4[i]? = some (some (.own ds')) ∨ e4[i]? = some (some (.io ds'))) → Fin X.K cv.T H2 F2 H4 F4 [pl] [ds'] := fun {e4 H4 F4 ds'} st g hl => by
      obtain ⟨p4, q1, _, q3, xs4, q4, q5⟩ := st.held hl
      rw [o1] at q1
      cases q1
      exact ⟨g.ext, st.sub, fun a o h n t => g.frm a o h (only n) t, g.liv, fun a h1 h2 n => g.new a h1 h2 (only n), .cons ⟨q3, xs4, q4, q5⟩ .nil, st.sx.tab, st.sx.nf⟩
    refine hbody A3 o3' s3 H2 E2 f c' hg3 hr3 _ A (hideP env i) σ H2 F2 _ Q2 ⟨f2, by rw [hideP_len]; exact s.len, fun j sv h => ?_, fun j1 j2 p oo1 oo2 => s.dist j1 j2 p (hideP_own oo1).2 (hideP_own oo2).2, ⟨f4, f3, s.sx.sb.trans f1, by rw [hco]; exact fun p hp => absurd hp List.not_mem_nil, s.sx.ad⟩⟩ w
      (fun c e3 H3 F3 st3 g3 r => ?_) fun ra e3 v H3 F3 st3 g3 rv3 q3 => ?_
    · rcases hideP_get h with ⟨rfl, h2⟩ | ⟨d, rfl, h2⟩
      · rcases wo with wo | wo
        · rw [wo] at h2; cases h2
          exact ⟨pl, xs2, o1, p1, p2, p3⟩
        · have hA := o2 wo
          rw [wo] at h2; cases h2
          show ∃ xs, _
          rw [hA]
          exact ⟨xs2, o1, p1, p2, p3⟩
      · obtain ⟨y, y1, y2⟩ := s.slot j _ h2
        exact ⟨y, y1, y2.mono f1⟩
    · obtain ⟨ds', hl, r⟩ := heldL_iff r
      exact f6 c H3 F3 ds' (fin st3 g3 hl) r
    · obtain ⟨d, e4, F4, hS, st4, g4, r4⟩ := st3.settle g3 rv3 q3
      obtain ⟨ds', hl, hS⟩ := heldL_iff hS
      exact f5 d v H3 F4 ds' (fin st4 g4 hl) r4 hS
  · obtain ⟨s3, g3, w3⟩ := s1.still1 ow fi
    refine kc (backR r) _ y H2 F2 s3 (g1.trans g3) ?_ hp
    cases r with
    | v d => exact ro
    | io ds => exact ro.elim
    | th d => exact ro.elim
    | fn d => exact ro.elim
    | own ds =>
      obtain ⟨p', xs, z1, z2, z3, z4, z5⟩ := ro
      refine ⟨p', xs, z1, z2, z3, z4, liv1 _ z5, fun j o => ?_⟩
      obtain ⟨_, ys, z6⟩ := s1.owns (w3 _ _ o)
      rw [z5] at z6; cases z6
  · obtain ⟨s3, g3, _⟩ := s1.still1 ow fi
    exact kr c _ H2 F2 s3 (g1.trans g3) hp
  · cases r with
    | error e => exact tk e s2 (XE.of_call I1 (fun _ _ _ z => z) hq)
    | ok fl =>
      cases fl with
      | ret u => exact I1.after hq
      | next => exact False.elim hq
      | brk => exact False.elim hq
      | cont => exact False.elim hq
/-- what a def's callers must know of a call's shape -/
def CallG (P : Program) (w : World) (K : Fg) (mg : Str → Option Value) (base : Heap) (cv : CV) (G : Nat → Fn) (k : Nat) (sh : Shape) : Prop :=
  (∃ (a : Addr) (fd : FuncData) (ps : List Str) (j : Nat) (dV : List L2.V) (dU : List Value), mg sh.name = some (.ref a) ∧ PySem.W.keepIn K (.ref a) = true ∧ FnG P w K mg base j a fd ps (spOf K cv (G sh.id)) ∧ j ≤ k ∧
    Vals dV dU ∧ RepL K (fun _ => none) dV sh.ds ∧ (∀ (s : Shared) (us ws : List Value), K.In s.heap → us.length = sh.np → ws.length = sh.ks.length → BindsTo s fd ⟨us, sh.ks.zip ws⟩ (ps.zip (arr sh.ar (us ++ ws) dU)))) ∧
  sh.ar.length = (sh.np + sh.ks.length) + sh.ds.length ∧ (sh.ar.filter id).length = sh.np + sh.ks.length
theorem CallG.ok {X : Cx} {cv : CV} {G : Nat → Fn} {k : Nat} {sh : Shape} (h : CallG X.prog X.w X.K X.mg X.base cv G k sh) (r : Room k X.A) : CallOk X cv (G sh.id) sh := by
  obtain ⟨⟨a, fd, qs, j, dV, dU, m1, m2, m3, m4, m5, m6, m7⟩, l1, l2⟩ := h
  exact ⟨⟨a, fd, qs, j, dV, dU, m1, m2, m3, r.mono m4, m5, m6, m7⟩, l1, l2⟩
end DI
namespace DI
open PySem L2
open PyProof.Rows hiding St
/-- a dict of the module: by text keys defs, told by their names -/
structure DicF (X : Cx) (x : Str) (tbl : List (Str × Str)) : Prop where
  ex : ∃ A : Addr, X.mg x = some (.ref A) ∧ ∀ z n, tbl.lookup z = some n → ∃ f : Addr, KDct X.K X.w A z (.ref f) ∧ PySem.W.nsIn X.K mainGlobals n = some (some (.ref f))
/-- a dict of the module: by text keys constants -/
structure KonF (X : Cx) (x : Str) (tbl : List (Str × D)) : Prop where
  ex : ∃ A : Addr, X.mg x = some (.ref A) ∧ ∀ z d, tbl.lookup z = some d → ∃ v : L2.V, KDct X.K X.w A z v ∧ Rep X.K (fun _ => none) v d
/-- a def of the module by its name -/
structure FnnF (X : Cx) (n : Str) : Prop where
  ex : ∃ f : Addr, X.mg n = some (.ref f) ∧ PySem.W.nsIn X.K mainGlobals n = some (some (.ref f))
section
variable {K : Fg} {cv : CV} {A : AT} {e e0 : En} {σ σ0 : L2.St} {H F H0 F0 : Hp}
theorem Sta.putF (s : Sta K cv A e σ H F) (g : Go e0 σ0 H0 F0 e σ H F) {i : Nat} {f : Addr} {n : Str} {Q : En → Prop} (hn : PySem.W.nsIn K mainGlobals n = some (some (.ref f))) (q : putS e i (.fn n) Q) :
    ∃ e', Q e' ∧ Sta K cv A e' (σ.set i (some (.ref f))) H F ∧ Go e0 σ0 H0 F0 e' (σ.set i (some (.ref f))) H F := by
  rw [putS_iff] at q
  split at q
  · exact q.elim
  · rename_i o hno ho
    have hi : i < e.length := lt_of_get ho
    have his : i < σ.length := Nat.lt_of_lt_of_le hi s.len
    have back : ∀ {j p}, Owns (e.set i (some (.fn n))) (σ.set i (some (.ref f))) j p → j ≠ i ∧ Owns e σ j p := fun {j p} ⟨h1, ds, h2⟩ => by
      by_cases hj : j = i
      · subst hj
        exfalso
        rw [List.getElem?_set_self hi] at h2
        rcases h2 with h2 | h2 <;> cases h2
      · rw [List.getElem?_set_ne (Ne.symm hj)] at h1 h2
        exact ⟨hj, h1, ds, h2⟩
    refine ⟨_, q, ⟨s.sub, by simp only [List.length_set]; exact s.len, fun j sv h => ?_, fun j k p o1 o2 => s.dist j k p (back o1).2 (back o2).2, s.sx⟩,
      ⟨g.ext, g.frm, g.liv, g.new, fun j p o => g.own j p (back o).2, fun j ds h => ?_, by rw [List.length_set]; exact g.len⟩⟩
    · by_cases hj : j = i
      · subst hj
        rw [List.getElem?_set_self hi] at h; cases h
        exact ⟨f, by rw [List.getElem?_set_self his], hn⟩
      · rw [List.getElem?_set_ne (Ne.symm hj)] at h
        have := s.slot j sv h
        cases sv <;> simpa only [SlotOk, List.getElem?_set_ne (Ne.symm hj)] using this
    · obtain ⟨ds', h2⟩ := g.iok j ds h
      refine ⟨ds', ?_⟩
      rw [List.getElem?_set_ne]
      · exact h2
      · rintro rfl; rw [ho] at h2; exact hno _ (by injection h2)
  · exact q.elim
end
section
variable {X : Cx} {W : WX} {G : Nat → Fn} {cv : CV}
/-- y = D[k] -/
theorem ss_pickf {i : Nat} {y dn : Str} {py pd ps pos : Pos} {k : Expr} {xk : DI.X} {tbl : List (Str × Str)} (hN : X.N.Nodup) (hi : X.N[i]? = some y) (hx : Loc X.env.scope y) (hf : X.fn y = true ∨ X.env.scope.names.lookup y = some .local)
    (hs : swapsWithSole [.Name y py] (.Subscript (.Name dn pd) k ps) pos.line X.env = pure false) (hw : swappedStores [.Name y py] (.Subscript (.Name dn pd) k ps) X.env = pure none) (hg : Gl X dn) (hd : (dn == ("__debug__" : Str)) = false) (hp : plainIx k = true) (D : DicF X dn tbl) (hk : SE X W G cv k xk) :
    SS X W G cv (.Assign [.Name y py] (.Subscript (.Name dn pd) k ps) pos) (.pickf i tbl xk) := by
  intro R A env σ H F Q E s w kr kk
  simp only [br_iff, ls_iff, nrm_iff, bk_iff, sf_iff, wS] at w
  obtain ⟨B, m1, m2⟩ := D.ex
  refine pS_of (ps_asg (pe_ix ix_kdict (pe_glob (v := .ref B) hg m1 rfl hd) pe_p (plainIx_ok hp)) (pg_name hN hi hx hf) hs hw rfl) ?_
  refine hk R A env σ H F _ _ s w kr.kr fun r e1 v H1 F1 s1 g1 rv1 w1 => ?_
  obtain ⟨d, pk, q, _⟩ := s1.pk rv1 w1
  split at q
  · rename_i z _
    have e := pk.str
    subst e
    obtain ⟨n, hn, q⟩ := q
    obtain ⟨f, h1, h2⟩ := m2 _ _ hn
    refine ⟨B, z, .ref f, rfl, rfl, h1, ?_⟩
    obtain ⟨e2, q2, s2, g2⟩ := s1.putF g1 h2 q
    exact kk .nx e2 _ H1 F1 s2 g2 q2
  · exact q.elim
/-- D[k], D a dict of constants -/
theorem se_kpick {dn : Str} {pd ps : Pos} {k : Expr} {xk : DI.X} {tbl : List (Str × D)} (hg : Gl X dn) (hd : (dn == ("__debug__" : Str)) = false) (hp : plainIx k = true) (D : KonF X dn tbl) (hk : SE X W G cv k xk) : SE X W G cv (.Subscript (.Name dn pd) k ps) (.kpick tbl xk) := by
  intro R A env σ H F Q Q' s w kr kk
  simp only [br_iff, ls_iff, nrm_iff, bk_iff, sf_iff, wE] at w
  obtain ⟨B, m1, m2⟩ := D.ex
  refine pX_of (pe_ix ix_kdict (pe_glob (v := .ref B) hg m1 rfl hd) pe_p (plainIx_ok hp)) ?_
  refine hk R A env σ H F _ _ s w kr fun r e1 v H1 F1 s1 g1 rv1 w1 => ?_
  obtain ⟨d, pk, q, _⟩ := s1.pk rv1 w1
  split at q
  · rename_i z _
    have e := pk.str
    subst e
    obtain ⟨u, hu, q⟩ := q
    obtain ⟨v, h1, h2⟩ := m2 _ _ hu
    exact ⟨B, z, v, rfl, rfl, h1, kk (.v u) _ _ _ _ s1 g1 (Rep.mono (fun _ _ z => by cases z) h2) q⟩
  · exact q.elim
/-- y(..), y a name that holds a def -/
theorem se_callv {i : Nat} {x : Str} {p pos : Pos} {e : Expr} {es : List Expr} {xs : DI.X} {fs : List (Str × Nat × List Bool)} (hN : X.N[i]? = some x) (hv : Vis X.env.scope x) (hd : (x == ("__debug__" : Str)) = false) (hcd : (x == ("__classdict__" : Str)) = false)
    (tb : ∀ n q, fs.lookup n = some q → FnnF X n ∧ ∃ sh : Shape, CallOk X cv (G sh.id) sh ∧ sh.name = n ∧ sh.id = q.1 ∧ sh.ar = q.2 ∧ sh.ds = [] ∧ sh.np = (e :: es).length ∧ sh.ks = []) (hg : X.A.guards = some []) (tk : Takes X W) (hst : (e :: es).all nost = true) (hs : SAL X W G cv (e :: es) xs) :
    SE X W G cv (.Call (.Name x p) (e :: es) [] pos) (.callv i fs xs) := by
  intro R A env σ H F Q Q' s w kr k pins st I
  simp only [br_iff, ls_iff, nrm_iff, bk_iff, sf_iff, wE] at w
  rw [List.all_cons, Bool.and_eq_true] at hst
  split at w
  · rename_i n hn
    obtain ⟨q, hq, w⟩ := w
    obtain ⟨f, hf1, hf2⟩ := s.slot i _ hn
    obtain ⟨⟨f', k1, k2⟩, sh, ok, e1, e2, e3, e4, e5, e6⟩ := tb n q hq
    rw [hf2] at k2
    obtain rfl : f = f' := by injection k2 with k2; injection k2 with k2; injection k2
    obtain ⟨q1, q2⟩ := q
    dsimp only at e2 e3
    subst e1 e2 e3
    obtain ⟨a, fd, ps, kk, dV, dU, m1, m2, rest⟩ := ok.ex
    have ea : a = f := by rw [k1] at m1; injection m1 with m1; injection m1 with m1; exact m1.symm
    subst ea
    rw [show (([] : List D).map SV.v) = sh.ds.map SV.v by rw [e4]] at w
    have run := hs R A _ env σ H F _ (fun vs H1 => ∀ (pins : List (Addr × Obj)) (s : Shared) (us : List Value), Inv X pins σ H1 s → Vals vs us → wpAny (model X.prog X.w) X.A (call (.ref a) us (sh.ks.zip [])) (EP X pins σ Q') X.xe s) s w kr fun rs e1 vs H1 F1 s1 g1 f1 hl w1 pins s us I1 ru => by
      exact call_core (vs := vs) (zs := []) ok hg tk s1 g1 (by rw [List.append_nil]; exact f1) (hl.trans e5.symm) (by rw [e6]; rfl) w1 kr k I1 ru .nil k1
    rw [e6] at run
    refine wpAny_Call_Name_kw (thn ((pe_var (pos := p) (i := i) hN hv hd hcd).run pins st σ H (fun v H1 => v = .ref a ∧ H1 = H) I ⟨.ref a, hf1, rfl, rfl⟩) fun u s1 ⟨v, H1, I1, r1, ev, eH⟩ => ?_)
    subst ev
    rw [eH] at I1
    cases r1
    refine PySem.W.callWith_K (h₀ := X.base) I.ok.mod.kin m2 (thn (run pos pins s1 I1) fun us s2 q => ?_) (star1 hst.1) (noany hst.2)
    obtain ⟨vs, H2, I2, r, q⟩ := q
    exact ⟨I2.kIn, q pins s2 us I2 r⟩
  · exact w.elim
end
end DI
namespace DI
open PySem L2
open PyProof.Rows hiding St
structure PxOk (X : Cx) (e : Expr) (px : PX) : Prop where
  run : ∀ {cv : CV} {A : AT} {env : En} {σ : L2.St} {H F : Hp} {n : Int} {Q : VK}, Sta X.K cv A env σ H F → px.ev env = some n → Q (.int n) H → pX X e σ H Q
section
variable {X : Cx}
theorem px_n {i : Nat} {x : Str} {pos : Pos} (hN : X.N[i]? = some x) (hv : Vis X.env.scope x) (h1 : (x == ("__debug__" : Str)) = false) (h2 : (x == ("__classdict__" : Str)) = false) : PxOk X (.Name x pos) (.n i) := by
  refine ⟨fun {cv A env σ H F n Q} s h q => ?_⟩
  refine pX_of (pe_var hN hv h1 h2) ?_
  obtain ⟨v, h1, h2⟩ := s.slot i _ (getI_some h)
  have e : v = .int n := Pk.int (H := H) (.inl h2)
  subst e
  exact ⟨_, h1, q⟩
theorem px_add {a b : Expr} {i j : Nat} {pos : Pos} (ha : PxOk X a (.n i)) (hb : PxOk X b (.n j)) : PxOk X (.BinOp a .Add b pos) (.add i j) := by
  refine ⟨fun {cv A env σ H F n Q} s h q => ?_⟩
  refine pX_of (pe_op so2_ok pe_p pe_p) ?_
  have h' : (match getI env i with | some a => (match getI env j with | some b => some (a + b) | none => none) | none => none) = some n := h
  split at h'
  · rename_i x hx
    split at h'
    · rename_i y hy
      cases h'
      refine ha.run (n := x) s hx ?_
      refine hb.run (n := y) s hy ?_
      refine op_sound (op := .Add) s.sub (.inl (Rep.int x)) (.inl (Rep.int y)) (Q := fun r => r = .v (.int (x + y))) rfl fun r v H' F' rs e => ?_
      subst e
      cases rs with
      | same h =>
        have e : v = .int (x + y) := Pk.int (H := H) (.inl h)
        subst e
        exact q
    · cases h'
  · cases h'
/-- keys and values of the text, and what stands for them -/
inductive DP (X : Cx) : List (Option Expr) → List Expr → List (Str × PX) → Prop where
  | nil : DP X [] [] []
  | cons {k v : Expr} {z : Str} {px : PX} {ks : List (Option Expr)} {vs : List Expr} {r : List (Str × PX)} (hk : PE X k (tC (.str z))) (hv : PxOk X v px) (h : DP X ks vs r) : DP X (some k :: ks) (v :: vs) ((z, px) :: r)
def kvOf (l : List (Str × Int)) : List (Key × L2.V) := l.map fun p => (.inr p.1, .int p.2)
theorem DP.pps {pos : Pos} {ks : List (Option Expr)} {vs : List Expr} {r : List (Str × PX)} (h : DP X ks vs r) : ∃ trs, PPs X pos ks vs trs ∧ ks.all (·.isSome) = true ∧ ks.length = vs.length ∧ ks.length = r.length ∧
    ∀ (cv : CV) (A : AT) (env : En) (σ : L2.St) (H F : Hp) (l : List (Str × Int)) (Q : List (L2.V × L2.V) → Hp → Prop), Sta X.K cv A env σ H F → evs env r = some l → Q ((kvOf l).map fun kv => (kV kv.1, kv.2)) H → tPairs trs σ H Q := by
  induction h with
  | nil => exact ⟨[], pps_nil, rfl, rfl, rfl, fun cv A env σ H F l Q s e q => by cases e; exact q⟩
  | @cons k v z px ks vs r hk hv h ih =>
    obtain ⟨trs, p, a1, a2, a3, t⟩ := ih
    refine ⟨(tC (.str z), pX X v) :: trs, pps_cons hk pe_p p, by rw [List.all_cons, a1]; rfl, by rw [List.length_cons, List.length_cons, a2], by rw [List.length_cons, List.length_cons, a3], fun cv A env σ H F l Q s e q => ?_⟩
    unfold evs at e
    split at e
    · rename_i n hn
      split at e
      · rename_i l' hl
        cases e
        show tC (.str z) σ H fun x H1 => pX X v σ H1 fun y H2 => tPairs trs σ H2 fun ps H3 => Q ((x, y) :: ps) H3
        refine hv.run (n := n) s hn ?_
        exact t cv A env σ H F l' _ s hl q
      · cases e
    · cases e
theorem valV_merge (z : Str) : ∀ (l : List (Str × Int)) (acc : List (Key × L2.V)) (o : Option Int), valV acc (.inr z) = o.map L2.V.int → valV (mergeK acc (kvOf l)) (.inr z) = (pickL z o l).map L2.V.int
  | [], acc, o, h => h
  | (k, n) :: r, acc, o, h => by
    show valV (mergeK (putK acc (.inr k) (.int n)) (kvOf r)) (.inr z) = _
    refine valV_merge z r _ _ ?_
    rw [valV_put, h]
    by_cases e : z = k
    · subst e; rw [if_pos rfl, if_pos rfl]; rfl
    · rw [if_neg (fun q => by injection q with q; exact e q), if_neg e]
theorem dpick_run (hu : X.A.units + 1 < cLine) {keys : List (Option Expr)} {values : List Expr} {pd pk ps : Pos} {x : Str} {i : Nat} {tbl : List (Str × PX)} (h : DP X keys values tbl) (h0 : keys ≠ []) (h15 : keys.length ≤ 15)
    (hN : X.N[i]? = some x) (hv : Vis X.env.scope x) (h1 : (x == ("__debug__" : Str)) = false) (h2 : (x == ("__classdict__" : Str)) = false) (hs : NoSl (.Name x pk))
    {cv : CV} {A : AT} {env : En} {σ : L2.St} {H F : Hp} (s : Sta X.K cv A env σ H F) {z : Str} {l : List (Str × Int)} {n : Int} (he : env[i]? = some (some (.v (.str z)))) (hl : evs env tbl = some l) (hp : pickL z none l = some n) {Q : VK}
    (q : ∀ H', Sta X.K cv A env σ H' F → Go env σ H F env σ H' F → Q (.int n) H') : pX X (.Subscript (.Dict keys values pd) (.Name x pk) ps) σ H Q := by
  obtain ⟨trs, p, a1, a2, a3, t⟩ := h.pps (pos := pd)
  refine pX_of (pe_dget hu (pe_disp p a1 a2 h0 h15) (pe_var hN hv h1 h2) hs) ?_
  intro a ha
  refine t cv A env σ (upd H a (.dK [])) F l _ (s.mkL (.dK []) ha).1 hl ?_
  refine ⟨upd_same, kvOf l, rfl, ?_, ?_⟩
  · have : ∀ (e : En) (r : List (Str × PX)) (l : List (Str × Int)), evs e r = some l → l.length = r.length := by
      intro e r
      induction r with
      | nil => intro l h; cases h; rfl
      | cons c r ih =>
        intro l h
        obtain ⟨z, px⟩ := c
        unfold evs at h
        split at h
        · split at h
          · rename_i l' hl'
            cases h
            rw [List.length_cons, List.length_cons, ih _ hl']
          · cases h
        · cases h
    have := this _ _ _ hl
    show (l.map _).length ≤ 15
    rw [List.length_map]
    omega
  rw [upd_upd]
  obtain ⟨s2, g2⟩ := s.mkL (.dK (mergeK [] (kvOf l))) ha
  obtain ⟨v, k1, k2⟩ := s2.slot i _ he
  have e : v = .str z := Pk.str (H := H) (.inl k2)
  subst e
  refine ⟨_, k1, a, .int n, rfl, ?_, q _ s2 g2⟩
  have e2 := valV_merge z l [] none rfl
  rw [hp] at e2
  have := DGet.k (H := upd H a (.dK (mergeK [] (kvOf l)))) (a := a) (k := .inr z) upd_same
  rw [e2] at this
  exact this
variable {W : WX} {G : Nat → Fn} {cv : CV}
theorem se_dpick (hu : X.A.units + 1 < cLine) {keys : List (Option Expr)} {values : List Expr} {pd pk ps : Pos} {x : Str} {i : Nat} {tbl : List (Str × PX)} (h : DP X keys values tbl) (h0 : keys ≠ []) (h15 : keys.length ≤ 15)
    (hN : X.N[i]? = some x) (hv : Vis X.env.scope x) (h1 : (x == ("__debug__" : Str)) = false) (h2 : (x == ("__classdict__" : Str)) = false) (hs : NoSl (.Name x pk)) :
    SE X W G cv (.Subscript (.Dict keys values pd) (.Name x pk) ps) (.dpick tbl i) := by
  intro R A env σ H F Q Q' s w kr k
  simp only [br_iff, ls_iff, nrm_iff, bk_iff, sf_iff, wE] at w
  split at w
  · rename_i z he
    obtain ⟨n, hn, w⟩ := w
    unfold dpk at hn
    split at hn
    · rename_i l hl
      exact dpick_run hu h h0 h15 hN hv h1 h2 hs s he hl hn fun H' s' g' => k (.v (.int n)) _ _ _ _ s' g' (Rep.int _) w
    · cases hn
  · exact w.elim
/-- keys and values that are texts -/
inductive DTx (X : Cx) : List (Option Expr) → List Expr → List (Str × Str) → Prop where
  | nil : DTx X [] [] []
  | cons {k v : Expr} {z t : Str} {ks : List (Option Expr)} {vs : List Expr} {r : List (Str × Str)} (hk : PE X k (tC (.str z))) (hv : PE X v (tC (.str t))) (h : DTx X ks vs r) : DTx X (some k :: ks) (v :: vs) ((z, t) :: r)
def kvS (l : List (Str × Str)) : List (Key × L2.V) := l.map fun p => (.inr p.1, .str p.2)
theorem DTx.pps {pos : Pos} {ks : List (Option Expr)} {vs : List Expr} {r : List (Str × Str)} (h : DTx X ks vs r) : ∃ trs, PPs X pos ks vs trs ∧ ks.all (·.isSome) = true ∧ ks.length = vs.length ∧ ks.length = r.length ∧
    ∀ (σ : L2.St) (H : Hp) (Q : List (L2.V × L2.V) → Hp → Prop), Q ((kvS r).map fun kv => (kV kv.1, kv.2)) H → tPairs trs σ H Q := by
  induction h with
  | nil => exact ⟨[], pps_nil, rfl, rfl, rfl, fun σ H Q q => q⟩
  | @cons k v z t ks vs r hk hv h ih =>
    obtain ⟨trs, p, a1, a2, a3, tt⟩ := ih
    refine ⟨(tC (.str z), tC (.str t)) :: trs, pps_cons hk hv p, by rw [List.all_cons, a1]; rfl, by rw [List.length_cons, List.length_cons, a2], by rw [List.length_cons, List.length_cons, a3], fun σ H Q q => ?_⟩
    show tC (.str z) σ H fun x H1 => tC (.str t) σ H1 fun y H2 => tPairs trs σ H2 fun ps H3 => Q ((x, y) :: ps) H3
    exact tt σ H _ q
theorem valS_merge (z : Str) : ∀ (l : List (Str × Str)) (acc : List (Key × L2.V)) (o : Option Str), valV acc (.inr z) = o.map L2.V.str → valV (mergeK acc (kvS l)) (.inr z) = (pickS z o l).map L2.V.str
  | [], acc, o, h => h
  | (k, n) :: r, acc, o, h => by
    show valV (mergeK (putK acc (.inr k) (.str n)) (kvS r)) (.inr z) = _
    refine valS_merge z r _ _ ?_
    rw [valV_put, h]
    by_cases e : z = k
    · subst e; rw [if_pos rfl, if_pos rfl]; rfl
    · rw [if_neg (fun q => by injection q with q; exact e q), if_neg e]
theorem tpick_run (hu : X.A.units + 1 < cLine) {keys : List (Option Expr)} {values : List Expr} {pd pk ps : Pos} {x : Str} {i : Nat} {tbl : List (Str × Str)} (h : DTx X keys values tbl) (h0 : keys ≠ []) (h15 : keys.length ≤ 15)
    (hN : X.N[i]? = some x) (hv : Vis X.env.scope x) (h1 : (x == ("__debug__" : Str)) = false) (h2 : (x == ("__classdict__" : Str)) = false) (hs : NoSl (.Name x pk))
    {cv : CV} {A : AT} {env : En} {σ : L2.St} {H F : Hp} (s : Sta X.K cv A env σ H F) {z n : Str} (he : env[i]? = some (some (.v (.str z)))) (hp : pickS z none tbl = some n) {Q : VK}
    (q : ∀ H', Sta X.K cv A env σ H' F → Go env σ H F env σ H' F → Q (.str n) H') : pX X (.Subscript (.Dict keys values pd) (.Name x pk) ps) σ H Q := by
  obtain ⟨trs, p, a1, a2, a3, t⟩ := h.pps (pos := pd)
  refine pX_of (pe_dget hu (pe_disp p a1 a2 h0 h15) (pe_var hN hv h1 h2) hs) ?_
  intro a ha
  refine t σ (upd H a (.dK [])) _ ?_
  refine ⟨upd_same, kvS tbl, rfl, ?_, ?_⟩
  · show (tbl.map _).length ≤ 15
    rw [List.length_map]
    omega
  rw [upd_upd]
  obtain ⟨s2, g2⟩ := s.mkL (.dK (mergeK [] (kvS tbl))) ha
  obtain ⟨v, k1, k2⟩ := s2.slot i _ he
  have e : v = .str z := Pk.str (H := H) (.inl k2)
  subst e
  refine ⟨_, k1, a, .str n, rfl, ?_, q _ s2 g2⟩
  have e2 := valS_merge z tbl [] none rfl
  rw [hp] at e2
  have := DGet.k (H := upd H a (.dK (mergeK [] (kvS tbl)))) (a := a) (k := .inr z) upd_same
  rw [e2] at this
  exact this
theorem se_tpick (hu : X.A.units + 1 < cLine) {keys : List (Option Expr)} {values : List Expr} {pd pk ps : Pos} {x : Str} {i : Nat} {tbl : List (Str × Str)} (h : DTx X keys values tbl) (h0 : keys ≠ []) (h15 : keys.length ≤ 15)
    (hN : X.N[i]? = some x) (hv : Vis X.env.scope x) (h1 : (x == ("__debug__" : Str)) = false) (h2 : (x == ("__classdict__" : Str)) = false) (hs : NoSl (.Name x pk)) :
    SE X W G cv (.Subscript (.Dict keys values pd) (.Name x pk) ps) (.tpick tbl i) := by
  intro R A env σ H F Q Q' s w kr k
  simp only [br_iff, ls_iff, nrm_iff, bk_iff, sf_iff, wE] at w
  split at w
  · rename_i z he
    obtain ⟨n, hn, w⟩ := w
    exact tpick_run hu h h0 h15 hN hv h1 h2 hs s he hn fun H' s' g' => k (.v (.str n)) _ _ _ _ s' g' (Rep.str _) w
  · exact w.elim
end
end DI
namespace DI
open PySem L2
open PyProof.Rows hiding St
/-- what is known of a def's names -/
structure Ct where
  N : List Str
  sc : Scope
  blk : Bool
  con : List (Str × D)
  bn : List Str
  shp : List Shape
  exc : List (Str × Nat) := []
  own : Str → Bool := fun _ => false
  hot : Bool := false
  top : Bool := true
  isx : List (Str × List (Str × Bool)) := []
  exm : List (Str × List (Nat × Option Str)) := []
  tmp : List Str := []
  thk : Option Str := none
  lam : List (Str × Nat) := []
  dic : List (Str × List (Str × Str)) := []
  fnn : List Str := []
  kon : List (Str × List (Str × D)) := []
  keep : List Str := []
  gho : Option Str := none
  lamP : List (Str × Str) := []
def o2 {α β γ : Type} (a : Option α) (b : Option β) (f : α → β → γ) : Option γ := match a, b with
  | some x, some y => some (f x y)
  | _, _ => none
theorem o2_some {α β γ : Type} {a : Option α} {b : Option β} {f : α → β → γ} {z : γ} (h : o2 a b f = some z) : ∃ x y, a = some x ∧ b = some y ∧ z = f x y := by
  unfold o2 at h
  split at h
  · cases h; exact ⟨_, _, rfl, rfl, rfl⟩
  · cases h
def og {α : Type} (b : Bool) (a : Option α) : Option α := match b with
  | true => a
  | false => none
theorem og_some {α : Type} {b : Bool} {a : Option α} {z : α} (h : og b a = some z) : b = true ∧ a = some z := by
  cases b with
  | true => exact ⟨rfl, h⟩
  | false => cases h
def Ct.vis (c : Ct) (x : Str) : Bool := match c.sc.names.lookup x with
  | some .local => true
  | some .cell => true
  | some .free => true
  | _ => false
def Ct.loc (c : Ct) (x : Str) : Bool := match c.sc.names.lookup x with
  | some .local => true
  | some .cell => !c.blk || c.own x
  | _ => false
def Ct.gl (c : Ct) (x : Str) : Bool := match c.sc.names.lookup x with
  | some .globalImplicit => true
  | _ => false
def konOf0 (c : Ct) (x : Str) : Option (List (Str × D)) := match c.gl x && (!(x == ("__debug__" : Str)) && !(x == ("__classdict__" : Str)) && !(x == ("__name__" : Str))) with
  | true => c.kon.lookup x
  | false => none
/-- a dict of the module that holds constants -/
def konOf (c : Ct) : Expr → Option (List (Str × D))
  | .Name x _ => konOf0 c x
  | _ => none
def nodb (x : Str) : Bool := !(x == ("__debug__" : Str)) && !(x == ("__classdict__" : Str)) && !(x == ("__name__" : Str))
theorem konOf_ok {c : Ct} {e : Expr} {tbl : List (Str × D)} (h : konOf c e = some tbl) : ∃ x p, e = .Name x p ∧ c.gl x = true ∧ nodb x = true ∧ c.kon.lookup x = some tbl := by
  unfold konOf at h
  split at h
  · rename_i x p
    unfold konOf0 at h
    split at h
    · rename_i hh
      rw [Bool.and_eq_true] at hh
      exact ⟨x, p, rfl, hh.1, hh.2, h⟩
    · cases h
  · cases h
def Ct.ix (c : Ct) (x : Str) : Option Nat := match c.N.findIdx? (· == x) with
  | some i => og (c.N[i]? == some x) (some i)
  | none => none
theorem ix_ok {c : Ct} {x : Str} {i : Nat} (h : c.ix x = some i) : c.N[i]? = some x := by
  unfold Ct.ix at h
  split at h
  · obtain ⟨h1, h2⟩ := og_some h
    cases h2; exact by simpa using h1
  · cases h
/-- a list of one's own that a comprehension leaves as it is -/
def keepOf (c : Ct) : Expr → Option Nat
  | .Name x _ => og (c.keep.contains x && c.vis x && nodb x) (c.ix x)
  | _ => none
theorem keepOf_ok {c : Ct} {e : Expr} {i : Nat} (h : keepOf c e = some i) : ∃ x p, e = .Name x p ∧ c.vis x = true ∧ nodb x = true ∧ c.ix x = some i := by
  unfold keepOf at h
  split at h
  · rename_i x p
    obtain ⟨h1, h2⟩ := og_some h
    simp only [Bool.and_eq_true] at h1
    exact ⟨x, p, rfl, h1.1.2, h1.2, h2⟩
  · cases h
/-- the built-ins, by name -/
def biOf0 (x : Str) (n : Nat) : Option Bi :=
  if x = "len" then some .len else if x = "abs" then some .abs else if x = "min" then og (n == 2 || n == 1) (some (if n = 1 then .min1 else .min2)) else if x = "max" then og (n == 2 || n == 1) (some (if n = 1 then .max1 else .max2))
  else if x = "int" then some .int else if x = "bool" then some .bool else if x = "sum" then some .sum else if x = "all" then some .all else if x = "any" then some .any
  else if x = "tuple" then some .tuple else if x = "list" then some .list else if x = "repr" then some .repr else none
def biN : Bi → Str
  | .len => "len" | .abs => "abs" | .min2 => "min" | .max2 => "max" | .min1 => "min" | .max1 => "max" | .int => "int" | .bool => "bool" | .sum => "sum" | .all => "all" | .any => "any" | .tuple => "tuple" | .list => "list" | .repr => "repr" | .str => "str" | .bits => "bit_length" | .sorted => "sorted" | .isi _ => "isinstance"
theorem biOf0_ok {x : Str} {n : Nat} {b : Bi} (h : biOf0 x n = some b) : x = biN b ∧ ((∃ id, biV b = some (.builtin id) ∧ bootBuiltins x = some (.builtin id)) ∨ ∃ id, biV b = some (.type id) ∧ bootBuiltins x = some (.type id)) := by
  unfold biOf0 at h
  repeat' split at h
  all_goals first
    | (cases h; done)
    | (cases h; subst_vars; exact ⟨rfl, .inl ⟨_, rfl, by decide +kernel⟩⟩)
    | (cases h; subst_vars; exact ⟨rfl, .inr ⟨_, rfl, by decide +kernel⟩⟩)
    | (obtain ⟨_, h2⟩ := og_some h; cases h2; subst_vars; exact ⟨rfl, .inl ⟨_, rfl, by decide +kernel⟩⟩)
def biOf (x : Str) (n : Nat) : Option Bi := if x = "str" then some .str else if x = "sorted" then some .sorted else biOf0 x n
theorem biOf_ok {x : Str} {n : Nat} {b : Bi} (h : biOf x n = some b) : x = biN b ∧ ((∃ id, biV b = some (.builtin id) ∧ bootBuiltins x = some (.builtin id)) ∨ ∃ id, biV b = some (.type id) ∧ bootBuiltins x = some (.type id)) := by
  unfold biOf at h
  split at h
  · cases h; subst_vars; exact ⟨rfl, .inr ⟨_, rfl, by decide +kernel⟩⟩
  · split at h
    · cases h; subst_vars; exact ⟨rfl, .inl ⟨_, rfl, by decide +kernel⟩⟩
    · exact biOf0_ok h
def shapeOf (x : Str) (np : Nat) (ks : List (Option Str)) : List Shape → Option Shape
  | [] => none
  | sh :: r => if sh.name = x ∧ sh.np = np ∧ ks = sh.ks.map some then some sh else shapeOf x np ks r
theorem shapeOf_ok {x : Str} {np : Nat} {ks : List (Option Str)} {sh : Shape} : ∀ {l : List Shape}, shapeOf x np ks l = some sh → sh ∈ l ∧ sh.name = x ∧ sh.np = np ∧ ks = sh.ks.map some
  | [], h => by cases h
  | s :: r, h => by
    unfold shapeOf at h
    split at h
    · rename_i h1; cases h; exact ⟨List.mem_cons_self, h1⟩
    · obtain ⟨a, b⟩ := shapeOf_ok h; exact ⟨List.mem_cons_of_mem _ a, b⟩
def tyOf (x : Str) : Option String :=
  if x = "int" then some "int" else if x = "bool" then some "bool" else if x = "tuple" then some "tuple" else if x = "list" then some "list" else if x = "str" then some "str" else if x = "dict" then some "dict" else none
theorem tyOf_ok {x : Str} {t : String} (h : tyOf x = some t) : bootBuiltins x = some (.type t) := by
  unfold tyOf at h
  repeat' split at h
  all_goals first
    | (cases h; done)
    | (cases h; subst_vars; decide +kernel)
def notSet : Expr → Bool
  | .Set _ _ _ => false
  | _ => true
theorem notSet_ok {e : Expr} (h : notSet e = true) {env : Env} : ∀ x, foldedSetIterable e env x = pure x := by
  intro x; cases e <;> first | rfl | cases h
def notComp : Expr → Bool
  | .ListComp _ _ _ _ => false
  | .SetComp _ _ _ _ => false
  | .DictComp _ _ _ _ _ => false
  | _ => true
theorem notComp_ok {e : Expr} (h : notComp e = true) {t : Option Expr} {l : Nat} {env : Env} : swapsWith e t l env = pure false := by
  cases e <;> first | rfl | cases h
/-- an expression whose test is its value's truth -/
def plainT : Expr → Bool
  | .BoolOp _ _ _ => false
  | .UnaryOp .Not _ _ => false
  | .IfExp _ _ _ _ => false
  | .Compare _ _ _ _ => false
  | _ => true
theorem plainT_ok {a : Expr} (h : plainT a = true) {env : Env} : ∀ whole, isTrue a env whole = (do let v ← whole; standAt a.pos; holding [v] (truthy v)) := by
  intro whole
  cases a with
  | UnaryOp op x p => cases op <;> first | rfl | cases h
  | _ => first | rfl | cases h
def cArgs (f : Expr → Option X) : List Expr → Option X
  | [] => some .nil
  | e :: es => og (nost e) (o2 (f e) (cArgs f es) .cons)
def cBoolE (f : Expr → Option X) (op : BoolOp) : List Expr → Option X
  | [] => none
  | [a] => f a
  | a :: b :: r => o2 (f a) (cBoolE f op (b :: r)) (match op with | .And => .and | .Or => .or)
def cBoolT (f : Expr → Option X) (op : BoolOp) : List Expr → Option X
  | [] => none
  | [a] => f a
  | a :: b :: r => o2 (f a) (cBoolT f op (b :: r)) (match op with | .And => .tand | .Or => .tor)
def cO (f : Expr → Option X) : Option Expr → Option X
  | none => some .nil
  | some e => (f e).map fun x => .cons x .nil
/-- not super() -/
def noSup : Expr → Bool
  | .Call (.Name _ _) [] [] _ => false
  | _ => true
theorem noSup_ok {e : Expr} (h : noSup e = true) {a : Str} {env : Env} {w : Sem Value} : attributeBase e a env w = w := by
  unfold attributeBase
  cases e with
  | Call f es ks p =>
    cases f with
    | Name id q =>
      cases es with
      | nil =>
        cases ks with
        | nil => cases h
        | cons _ _ => rfl
      | cons _ _ => rfl
    | _ => rfl
  | _ => rfl
def cTgs (f : Expr → Option (Tg × List (Str × Nat))) : List Expr → Option (Tg × List (Str × Nat))
  | [] => some (.nil, [])
  | e :: es => og (nost e) (o2 (f e) (cTgs f es) fun p q => (.cons p.1 q.1, p.2 ++ q.2))
def cTg : Nat → Ct → Expr → Option (Tg × List (Str × Nat))
  | 0, _, _ => none
  | n + 1, c, e => match e with
    | .Name x _ => og (c.loc x && nodb x) ((c.ix x).map fun i => (.n i, [(x, i)]))
    | .Tuple es _ _ => og (!c.hot && es.all nost) ((cTgs (cTg n c) es).map fun p => (.tup p.1, p.2))
    | _ => none
/-- a row of targets -/
def tupT : Expr → Bool
  | .Tuple _ _ _ => true
  | _ => false
theorem tupT_ok {e : Expr} (h : tupT e = true) : ∃ es k p, e = .Tuple es k p := by
  cases e <;> first | exact ⟨_, _, _, rfl⟩ | cases h
def Ct.inBlk (c : Ct) (scope : Scope) : Ct := { c with thk := none, lam := [], lamP := [], dic := [], fnn := [], sc := relS scope c.sc, blk := true, top := false, own := fun x => scope.names.lookup x == some .cell }
/-- in an except suite -/
def Ct.inSui (c : Ct) : Ct := { c with hot := true, top := false, shp := [], exc := [], thk := none, lam := [], lamP := [], dic := [], fnn := [] }
def Ct.isB (c : Ct) (x : Str) : Bool := c.gl x && c.bn.contains x && nodb x
/-- len(set(a)) -/
def lenSet (c : Ct) (x : Str) (es : List Expr) (kws : List Keyword) : Option Expr := match es, kws with
  | [.Call (.Name y _) [a] [] _], [] => og (x == ("len" : Str) && y == ("set" : Str) && c.isB y && nost a) (some a)
  | _, _ => none
theorem lenSet_ok {c : Ct} {x : Str} {es : List Expr} {kws : List Keyword} {a : Expr} (h : lenSet c x es kws = some a) : ∃ p q, es = [.Call (.Name "set" p) [a] [] q] ∧ kws = [] ∧ x = "len" ∧ c.isB "set" = true ∧ nost a = true := by
  unfold lenSet at h
  split at h
  · obtain ⟨h1, h2⟩ := og_some h
    cases h2
    simp only [Bool.and_eq_true, beq_iff_eq] at h1
    obtain ⟨⟨⟨h3, h4⟩, h5⟩, h6⟩ := h1
    subst h3 h4
    exact ⟨_, _, rfl, rfl, rfl, h5, h6⟩
  · cases h
/-- x(a), where x is to change what a is -/
def oneT (c : Ct) (x : Str) : List Expr → List Keyword → Option Expr
  | [a], [] => og (c.tmp.contains x) (some a)
  | _, _ => none
theorem oneT_ok {c : Ct} {x : Str} {es : List Expr} {kws : List Keyword} {a : Expr} (h : oneT c x es kws = some a) : es = [a] ∧ kws = [] := by
  unfold oneT at h
  split at h
  · obtain ⟨_, h2⟩ := og_some h
    cases h2
    exact ⟨rfl, rfl⟩
  · cases h
/-- in a lambda's body -/
def Ct.inLam (c : Ct) (scope : Scope) : Ct := { N := c.N, sc := scope, blk := true, con := c.con, bn := c.bn, shp := c.shp, top := false }
/-- a call of the thunk that was handed in -/
def actOf (c : Ct) (x : Str) : List Expr → List Keyword → Option Nat
  | [], [] => og (decide (c.thk = some x) && (c.vis x && nodb x)) (c.ix x)
  | _, _ => none
/-- the call of the thunk, which changes a list where one is told -/
def Ct.actX (c : Ct) (i : Nat) : X := match c.gho with
  | none => .act i
  | some g => (match c.ix g with
    | some j => .actP i j
    | none => .act i)
theorem actOf_ok {c : Ct} {x : Str} {es : List Expr} {kws : List Keyword} {i : Nat} (h : actOf c x es kws = some i) : es = [] ∧ kws = [] ∧ c.thk = some x ∧ c.ix x = some i := by
  unfold actOf at h
  split at h
  · obtain ⟨h1, h2⟩ := og_some h
    simp only [Bool.and_eq_true, decide_eq_true_eq] at h1
    exact ⟨rfl, rfl, h1.1, h2⟩
  · cases h
/-- a call of a def that a name holds -/
def fnvOf (c : Ct) (x : Str) : List Expr → List Keyword → Option Nat
  | _ :: _, [] => og (!c.fnn.isEmpty && (c.vis x && nodb x)) (c.ix x)
  | _, _ => none
theorem fnvOf_ok {c : Ct} {x : Str} {es : List Expr} {kws : List Keyword} {i : Nat} (h : fnvOf c x es kws = some i) : (∃ e r, es = e :: r) ∧ kws = [] ∧ c.vis x = true ∧ nodb x = true ∧ c.ix x = some i := by
  unfold fnvOf at h
  split at h
  · obtain ⟨h1, h2⟩ := og_some h
    simp only [Bool.and_eq_true] at h1
    exact ⟨⟨_, _, rfl⟩, rfl, h1.2.1, h1.2.2, h2⟩
  · cases h
/-- the defs that it may be, with so many arguments -/
def fnTab (shp : List Shape) (m : Nat) : List Str → List (Str × Nat × List Bool)
  | [] => []
  | n :: r => match shapeOf n m [] shp with
    | some sh => (match sh.ds.isEmpty with
      | true => (n, sh.id, sh.ar) :: fnTab shp m r
      | false => fnTab shp m r)
    | none => fnTab shp m r
theorem fnTab_ok {shp : List Shape} {m : Nat} {n : Str} {q : Nat × List Bool} : ∀ {l : List Str}, (fnTab shp m l).lookup n = some q → n ∈ l ∧ ∃ sh ∈ shp, sh.name = n ∧ sh.id = q.1 ∧ sh.ar = q.2 ∧ sh.ds = [] ∧ sh.np = m ∧ sh.ks = []
  | [], h => by cases h
  | y :: r, h => by
    have nx : (fnTab shp m r).lookup n = some q → n ∈ y :: r ∧ ∃ sh ∈ shp, sh.name = n ∧ sh.id = q.1 ∧ sh.ar = q.2 ∧ sh.ds = [] ∧ sh.np = m ∧ sh.ks = [] := fun z => by
      obtain ⟨h1, h2⟩ := fnTab_ok z
      exact ⟨List.mem_cons_of_mem _ h1, h2⟩
    unfold fnTab at h
    split at h
    · rename_i sh hsh
      split at h
      · rename_i hd
        rw [List.lookup_cons] at h
        cases e : n == y with
        | true =>
          rw [e] at h
          have e2 : n = y := by simpa using e
          subst e2
          cases h
          obtain ⟨m1, m2, m3, m4⟩ := shapeOf_ok hsh
          refine ⟨List.mem_cons_self, sh, m1, m2, rfl, rfl, by simpa using hd, m3, ?_⟩
          have : sh.ks.map some = [] := m4.symm
          simpa using this
        | false => rw [e] at h; exact nx h
      · exact nx h
    · exact nx h
/-- x(lambda: body) -/
def lamOf (c : Ct) (x : Str) : List Expr → List Keyword → Option (Nat × Expr × Scope)
  | [.Lambda ⟨[], [], none, [], [], none, []⟩ body scope _], [] => og (c.gl x && (nodb x && LamX.lamSB c.sc scope)) ((c.lam.lookup x).map fun id => (id, body, scope))
  | _, _ => none
theorem lamOf_ok {c : Ct} {x : Str} {es : List Expr} {kws : List Keyword} {id : Nat} {body : Expr} {scope : Scope} (h : lamOf c x es kws = some (id, body, scope)) :
    (∃ lp, es = [.Lambda ⟨[], [], none, [], [], none, []⟩ body scope lp]) ∧ kws = [] ∧ c.gl x = true ∧ nodb x = true ∧ LamX.LamS c.sc scope ∧ c.lam.lookup x = some id := by
  unfold lamOf at h
  split at h
  · obtain ⟨h1, h2⟩ := og_some h
    simp only [Bool.and_eq_true] at h1
    obtain ⟨i, h3, h4⟩ := Option.map_eq_some_iff.mp h2
    cases h4
    exact ⟨⟨_, rfl⟩, rfl, h1.1, h1.2.1, LamX.lamS_by h1.2.2, h3⟩
  · cases h
/-- whether slot j is named -/
def X.uses (j : Nat) : X → Bool
  | .var i => Nat.beq i j
  | .cons a r => a.uses j || r.uses j
  | .call _ _ _ a => a.uses j
  | .idx a i => a.uses j || i.uses j
  | .tup a => a.uses j
  | .bi _ a => a.uses j
  | .bin _ a b => a.uses j || b.uses j
  | _ => false
/-- a lambda is handed over: it may change a list -/
def lamX (c : Ct) (x : Str) (id : Nat) (xb : X) : X := match c.lamP.lookup x with
  | none => .lam id xb
  | some pn => (match c.ix pn with
    | none => .lam id xb
    | some j => (match xb.uses j with
      | true => .lamP id j xb
      | false => .lam id xb))
theorem lamX_or (c : Ct) (x : Str) (id : Nat) (xb : X) : lamX c x id xb = .lam id xb ∨ ∃ pn j, c.lamP.lookup x = some pn ∧ lamX c x id xb = .lamP id j xb := by
  unfold lamX
  split
  · exact .inl rfl
  · rename_i pn hp
    split
    · exact .inl rfl
    · rename_i j hj
      split
      · exact .inr ⟨pn, j, hp, rfl⟩
      · exact .inl rfl
/-- the tables of a row of classes -/
def isxL (c : Ct) : List Expr → Option (List (List (Str × Bool)))
  | [] => some []
  | .Name x _ :: r => og (c.gl x && nodb x) (o2 (c.isx.lookup x) (isxL c r) .cons)
  | _ => none
/-- is it any of these -/
def isxU : List (List (Str × Bool)) → List (Str × Bool)
  | [] => []
  | t :: r => t.filterMap fun p => (anyT (t :: r) p.1).map fun b => (p.1, b)
/-- raise X('..') -/
structure ExcF (X : Cx) (cv : CV) (x : Str) (code : Nat) : Prop where
  ex : ∃ C : Addr, cv code = .ref C ∧ X.mg x = some (.ref C) ∧ PySem.W.excIn X.K C [.type "ValueError", .type "Exception", .type "BaseException", .type "object"] "ValueError.__new__" = true ∧ PySem.W.keepIn X.K (.ref C) = true ∧ Raises X (.ref C)
def cPN (c : Ct) : Expr → Option Nat
  | .Name x _ => og (c.vis x && nodb x) (c.ix x)
  | _ => none
def cPX (c : Ct) : Expr → Option PX
  | .BinOp a .Add b _ => o2 (cPN c a) (cPN c b) .add
  | e => (cPN c e).map .n
def cDP (c : Ct) : List (Option Expr) → List Expr → Option (List (Str × PX))
  | [], [] => some []
  | some (.Constant (.str z) _ _) :: ks, v :: vs => o2 (cPX c v) (cDP c ks vs) fun p r => (z, p) :: r
  | _, _ => none
def cTP : List (Option Expr) → List Expr → Option (List (Str × Str))
  | [], [] => some []
  | some (.Constant (.str z) _ _) :: ks, .Constant (.str t) _ _ :: vs => (cTP ks vs).map ((z, t) :: ·)
  | _, _ => none
/-- strict=True -/
def isStr : Keyword → Bool
  | ⟨some n, .Constant (.bool true) _ _, _⟩ => n == ("strict" : Str)
  | _ => false
mutual
def cE : Nat → Ct → Expr → Option X
  | 0, _, _ => none
  | n + 1, c, e => match e with
    | .Constant (.int i) _ _ => some (.c (.int i))
    | .Dict [] [] _ => some .dct
    | .Constant (.bool b) _ _ => some (.c (.bool b))
    | .Constant .none _ _ => some (.c .none)
    | .Constant (.str s) _ _ => some (.c (.str s))
    | .Name x _ => match c.vis x with
      | true => og (nodb x) ((c.ix x).map .var)
      | false => og (c.gl x && nodb x) ((c.con.lookup x).map .c)
    | .BinOp a op b _ => o2 (cE n c a) (cE n c b) (.bin op)
    | .UnaryOp .USub a _ => (cE n c a).map .neg
    | .UnaryOp .Not a _ => (cE n c a).map .not
    | .Compare a [.NotEq] [.Tuple [] _ _] _ => (cE n c a).map .neT
    | .Compare a [op] [b] _ => og (!behindInMarks op b) (o2 (cE n c a) (cE n c b) (.cmp op))
    | .Compare a [op, op'] [b, d] _ => og (!lastMarks [op, op'] [b, d]) (o2 (cE n c a) (o2 (cE n c b) (cE n c d) Prod.mk) fun x p => .chn op op' x p.1 p.2)
    | .BoolOp op vs _ => cBoolE (cE n c) op vs
    | .IfExp t a b _ => o2 (cT n c t) (o2 (cE n c a) (cE n c b) Prod.mk) fun t p => .ite t p.1 p.2
    | .Tuple es _ _ => (cArgs (cE n c) es).map .tup
    | .List es _ => (cArgs (cE n c) es).map .lst
    | .Subscript a (.Slice lo hi none _) _ => o2 (cE n c a) (o2 (cO (cE n c) lo) (cO (cE n c) hi) Prod.mk) fun x p => .slc x p.1 p.2
    | .Subscript a (.Slice lo hi (some st) _) _ => o2 (cE n c a) (o2 (cO (cE n c) lo) (o2 (cO (cE n c) hi) (cE n c st) Prod.mk) Prod.mk) fun x p => .slc3 x p.1 p.2.1 (.cons p.2.2 .nil)
    | .Subscript (.Dict (k :: ks) vs _) (.Name x _) _ => og (c.vis x && nodb x && Nat.ble (ks.length + 1) 15) (match cTP (k :: ks) vs with
      | some tb => (c.ix x).map (.tpick tb)
      | none => o2 (cDP c (k :: ks) vs) (c.ix x) .dpick)
    | .Subscript a b _ => (match konOf c a with
      | some tbl => og (plainIx b) ((cE n c b).map (.kpick tbl))
      | none => og (plainIx b) (o2 (cE n c a) (cE n c b) .idx))
    | .Call (.Name x _) es kws _ => match fnvOf c x es kws with
      | some i => og (es.all nost) ((cArgs (cE n c) es).map (.callv i (fnTab c.shp es.length c.fnn)))
      | none => match actOf c x es kws with
      | some i => some (c.actX i)
      | none => match lamOf c x es kws with
      | some q => (cE n (c.inLam q.2.2) q.2.1).map (lamX c x q.1)
      | none => og (c.gl x && nodb x) (match c.bn.contains x with
      | true => (match lenSet c x es kws with
        | some a => og (!c.hot) ((cE n c a).map .lset)
        | none => (match biOf x es.length with
          | some b => og (!c.hot && (kws.isEmpty && !es.isEmpty && es.all nost)) ((cArgs (cE n c) es).map (.bi b))
          | none => (match es, kws with
            | [a, .Name ty _], [] => (match c.isx.lookup ty with
              | some tbl => og (x == ("isinstance" : Str) && c.gl ty && nodb ty && nost a) ((cE n c a).map fun xa => .isx xa tbl)
              | none => og (x == ("isinstance" : Str) && c.isB ty && nost a) (o2 (tyOf ty) (cE n c a) fun t xa => .bi (.isi [t]) (.cons xa .nil)))
            | [a, .Tuple ts _ _], [] => og (x == ("isinstance" : Str) && nost a && Nat.ble ts.length 60) (o2 (isxL c ts) (cE n c a) fun tt xa => .isx xa (isxU tt))
            | _, _ => none)))
      | false => (match shapeOf x es.length (kwNames kws) c.shp with
        | some sh => (match oneT c x es kws with
          | some a => og (nost a) ((cE n c a).map (.callT sh.id sh.ar sh.ds))
          | none => og (es.all nost && (!es.isEmpty || kws.isEmpty)) ((cArgs (cE n c) (es ++ kws.map (·.value))).map (.call sh.id sh.ar sh.ds)))
        | none => none))
    | .Call (.Attribute o m ap) [] [] cp => og (noSup o && m == ("bit_length" : Str) && ap.endLine == cp.line) ((cE n c o).map fun xo => .bi .bits (.cons xo .nil))
    | .Call (.Attribute o m pa) [a] [] pc => (match m == ("index" : Str) with
      | true => og (noSup o && nost a && (pa.endLine == pc.line)) (o2 (cE n c o) (cE n c a) .lidx)
      | false => (match m == ("count" : Str) with
      | true => og (noSup o && nost a && (pa.endLine == pc.line)) (o2 (cE n c o) (cE n c a) .lcnt)
      | false => (match o with
        | .Name x _ => og (m == ("pop" : Str) && c.vis x && nodb x && nost a && (pa.endLine == pc.line)) (o2 (c.ix x) (cE n c a) .pop)
        | _ => none)))
    | .ListComp elt [⟨tg, iter, ifs, 0⟩] scope _ => (match cTg n (c.inBlk scope) tg with
      | some p => og (!c.hot && (blkC c.N c.sc scope p.2 && notSet iter)) (match keepOf c iter with
        | some i => o2 (cK n (c.inBlk scope) ifs) (cE n (c.inBlk scope) elt) fun xc xe => .cmprB i p.1 xc xe
        | none => o2 (cI n (tupT tg) c iter) (o2 (cK n (c.inBlk scope) ifs) (cE n (c.inBlk scope) elt) Prod.mk) fun i q => .cmpr p.1 i q.1 q.2)
      | none => none)
    | _ => none
def cT : Nat → Ct → Expr → Option X
  | 0, _, _ => none
  | n + 1, c, e => match e with
    | .BoolOp op vs _ => cBoolT (cT n c) op vs
    | .UnaryOp .Not a _ => (cT n c a).map .tnot
    | .Compare a [.NotEq] [.Tuple [] _ _] _ => (cE n c a).map fun x => .tx (.neT x)
    | .Compare a [op] [b] _ => og (!behindInMarks op b) (o2 (cE n c a) (cE n c b) fun x y => .tx (.cmp op x y))
    | .Compare a [op, op'] [b, d] _ => og (!lastMarks [op, op'] [b, d]) (o2 (cE n c a) (o2 (cE n c b) (cE n c d) Prod.mk) fun x p => .tx (.chn op op' x p.1 p.2))
    | e => og (plainT e) ((cE n c e).map .tx)
def cI : Nat → Bool → Ct → Expr → Option X
  | 0, _, _, _ => none
  | n + 1, t, c, e => match e with
    | .Call (.Name x _) [a] [] _ => (match x == ("range" : Str) && c.isB x with
      | true => (cArgs (cE n c) [a]).map (.itr .rng)
      | false => (match x == ("reversed" : Str) && c.isB x with
        | true => (match a with
          | .Call (.Name y _) [b] [] _ => og (y == ("range" : Str) && c.isB y && nost b) ((cE n c b).map fun xb => .itr .rrng (.cons xb .nil))
          | _ => none)
        | false => (match t && (x == ("enumerate" : Str) && c.isB x) with
          | true => og (nost a) ((cArgs (cE n c) [a]).map (.itr .enm))
          | false => cE n c e)))
    | .Call (.Name x _) [a, b] [] _ => (match x == ("range" : Str) && c.isB x with
      | true => (cArgs (cE n c) [a, b]).map (.itr .rng)
      | false => (match t && (x == ("zip" : Str) && c.isB x) with
        | true => og (nost a && nost b) ((cArgs (cE n c) [a, b]).map (.itr .zip))
        | false => cE n c e))
    | .Call (.Name x _) [a, b] [k] _ => og (t && (x == ("zip" : Str) && c.isB x) && (isStr k && (nost a && nost b))) ((cArgs (cE n c) [a, b]).map (.itr .zips))
    | .Call (.Name x _) [a, b, d] [] _ => (match x == ("range" : Str) && c.isB x with
      | true => (cArgs (cE n c) [a, b, d]).map (.itr .rng)
      | false => (match t && (x == ("zip" : Str) && c.isB x) with
        | true => og (nost a && (nost b && nost d)) ((cArgs (cE n c) [a, b, d]).map (.itr .zip))
        | false => cE n c e))
    | e => cE n c e
def cK : Nat → Ct → List Expr → Option X
  | 0, _, _ => none
  | n + 1, c, es => match es with
    | [] => some .nil
    | [t] => cT n c t
    | _ => none
end
/-- what is known of a def that may be handed a lambda -/
structure LamF (X : Cx) (G : Nat → Fn) (cv : CV) (shp : List Shape) (x : Str) (id : Nat) : Prop where
  ex : ∃ (g cX P : Addr) (k : Nat), X.mg x = some (.ref g) ∧ PySem.W.keepIn X.K (.ref g) = true ∧ Room (k + 2) X.A ∧ FnL X.prog X.w X.K X.mg X.base cv (k + 1) g (G id) ∧ LamX.TabB X.base X.mg cX P ∧ X.env.code = .ref cX ∧ (P, X.env.qual ++ "<lambda>") ∈ cv.T ∧
    (∀ p ∈ cv.T, p.1 = P → p.2 = X.env.qual ++ "<lambda>") ∧ cv.co = [] ∧ ∀ sh ∈ shp, CallG X.prog X.w X.K X.mg X.base cv G k sh
/-- what is known of a def that may be handed a lambda that changes a list -/
structure LamFP (X : Cx) (G : Nat → Fn) (cv : CV) (shp : List Shape) (x : Str) (id : Nat) : Prop where
  ex : ∃ (g cX P : Addr) (k : Nat), X.mg x = some (.ref g) ∧ PySem.W.keepIn X.K (.ref g) = true ∧ Room (k + 2) X.A ∧ FnLP X.prog X.w X.K X.mg X.base cv (k + 1) g (G id) ∧ LamX.TabB X.base X.mg cX P ∧ X.env.code = .ref cX ∧ (P, X.env.qual ++ "<lambda>") ∈ cv.T ∧
    (∀ p ∈ cv.T, p.1 = P → p.2 = X.env.qual ++ "<lambda>") ∧ cv.co = [] ∧ ∀ sh ∈ shp, CallG X.prog X.w X.K X.mg X.base cv G k sh
/-- the part of a context that the compiled text leans on -/
structure XOk (X : Cx) (W : WX) (G : Nat → Fn) (cv : CV) (c : Ct) : Prop where
  N : X.N = c.N
  nd : X.N.Nodup
  sc : X.env.scope = c.sc
  calm : c.hot = false → X.calm = true
  gu : X.A.guards = some []
  un : X.A.units + 66 < cLine
  fn : ∀ x, c.loc x = true → X.fn x = true ∨ X.env.scope.names.lookup x = some .local
  con : ∀ x d, c.con.lookup x = some d → ∃ v u, X.mg x = some u ∧ RelV v u ∧ Rep X.K (fun _ => none) v d
  bn : ∀ x ∈ c.bn, X.mg x = none
  shp : ∀ sh ∈ c.shp, CallOk X cv (G sh.id) sh
  exc : ∀ x code, c.exc.lookup x = some code → ExcF X cv x code
  isx : ∀ x tbl, c.isx.lookup x = some tbl → IsxF X x tbl
  exm : ∀ x tb, c.exm.lookup x = some tb → ∃ u, (X.mg x = some u ∨ X.mg x = none ∧ bootBuiltins x = some u ∧ x ≠ ("__name__" : Str)) ∧ TabF X cv tb u
  top : c.top = true → X.stack = X.env :: X.outer ∧ X.env.frame = some X.env.locals ∧ X.ex = []
  tk : Takes X W
  po : PassesOwn (model X.prog X.w) X.A X.env X.xe
  lam : ∀ x id, c.lam.lookup x = some id → LamF X G cv c.shp x id
  dic : ∀ x tbl, c.dic.lookup x = some tbl → DicF X x tbl
  fnn : ∀ n ∈ c.fnn, FnnF X n
  kon : ∀ x tbl, c.kon.lookup x = some tbl → KonF X x tbl
  thk : ∀ a i, c.thk = some a → c.ix a = some i → ∀ (W' : WX) (pn : List (Addr × Obj)) (xe : Value → Shared → Prop), Takes (X.tr pn xe) W' → ∀ p1 p2, SE (X.tr pn xe) W' G cv (.Call (.Name a p1) [] [] p2) (c.actX i)
  lamP : ∀ x id, c.lam.lookup x = some id → ∀ pn, c.lamP.lookup x = some pn → LamFP X G cv c.shp x id
section
variable {X : Cx} {W : WX} {G : Nat → Fn} {cv : CV} {c : Ct}
theorem XOk.vis (h : XOk X W G cv c) {x : Str} (v : c.vis x = true) : Vis X.env.scope x := by
  unfold Ct.vis at v
  unfold Vis; rw [h.sc]
  split at v
  · rename_i e; exact .inl e
  · rename_i e; exact .inr (.inl e)
  · rename_i e; exact .inr (.inr e)
  · cases v
theorem XOk.loc (h : XOk X W G cv c) {x : Str} (v : c.loc x = true) : L2.Loc X.env.scope x := by
  unfold Ct.loc at v
  unfold L2.Loc; rw [h.sc]
  split at v
  · rename_i e; exact .inl e
  · rename_i e; exact .inr e
  · cases v
theorem XOk.gl (h : XOk X W G cv c) {x : Str} (v : c.gl x = true) : Gl X x := by
  unfold Ct.gl at v
  unfold Gl Env.kindOf; rw [h.sc]
  split at v
  · rename_i e; exact e
  · cases v
theorem nodb_ok {x : Str} (h : nodb x = true) : (x == ("__debug__" : Str)) = false ∧ (x == ("__classdict__" : Str)) = false ∧ x ≠ "__name__" := by
  unfold nodb at h
  simp only [Bool.and_eq_true, Bool.not_eq_true'] at h
  exact ⟨h.1.1, h.1.2, by simpa using h.2⟩
theorem XOk.ix (h : XOk X W G cv c) {x : Str} {i : Nat} (e : c.ix x = some i) : X.N[i]? = some x := by rw [h.N]; exact ix_ok e
/-- in a comprehension's block -/
theorem XOk.inBlk (h : XOk X W G cv c) (scope : Scope) (s : Shared) (H : Hp) (C : Addr) (cl : List (Str × Addr)) (fp : List Addr) : XOk (blkX X scope s H C cl fp) W0 G cv (c.inBlk scope) where
  N := h.N
  nd := h.nd
  sc := by
    show relabel scope X.env = relS scope c.sc
    rw [← h.sc]; rfl
  calm := h.calm
  exc := fun x code e => let ⟨C, h1, h2, h3, h4, h5⟩ := (h.exc x code e).ex; ⟨C, h1, h2, h3, h4, h5⟩
  isx := fun x t e => ⟨(h.isx x t e).ex⟩
  exm := fun x t e => let ⟨u, h1, h2⟩ := h.exm x t e; ⟨u, h1, ⟨h2.ex⟩⟩
  top := fun z => nomatch z
  gu := h.gu
  un := h.un
  fn := fun x e => by
    unfold Ct.loc at e
    have sc : (blkX X scope s H C cl fp).env.scope = relS scope c.sc := by
      show relabel scope X.env = relS scope c.sc
      rw [← h.sc]; rfl
    rw [sc]
    split at e
    · rename_i q; exact .inr q
    · exact .inl e
    · cases e
  con := h.con
  bn := h.bn
  shp := fun sh m => ⟨(h.shp sh m).ex, (h.shp sh m).len⟩
  tk := fun u s' ⟨a, B, sI, pins, σ, H, cls, d, e, I, nb, up, sky, na, os, ag, w⟩ => w.elim
  po := PassesOwn.never
  lam := fun x id e => nomatch e
  dic := fun x t e => nomatch e
  fnn := fun n m => absurd m List.not_mem_nil
  kon := fun x t e => ⟨(h.kon x t e).ex⟩
  thk := fun a i e => nomatch e
  lamP := fun x id e => nomatch e
/-- in a try's body -/
theorem XOk.tr (h : XOk X W G cv c) {W' : WX} {pn : List (Addr × Obj)} {xe : Value → Shared → Prop} (t : Takes (X.tr pn xe) W') (p : PassesOwn (model X.prog X.w) X.A X.env xe) : XOk (X.tr pn xe) W' G cv c where
  N := h.N
  nd := h.nd
  sc := h.sc
  calm := h.calm
  gu := h.gu
  un := h.un
  fn := h.fn
  con := h.con
  bn := h.bn
  shp := fun sh m => ⟨(h.shp sh m).ex, (h.shp sh m).len⟩
  exc := fun x code e => let ⟨C, h1, h2, h3, h4, h5⟩ := (h.exc x code e).ex; ⟨C, h1, h2, h3, h4, h5⟩
  isx := fun x t e => ⟨(h.isx x t e).ex⟩
  exm := fun x t e => let ⟨u, h1, h2⟩ := h.exm x t e; ⟨u, h1, ⟨h2.ex⟩⟩
  top := h.top
  tk := t
  po := p
  lam := fun x id e => ⟨(h.lam x id e).ex⟩
  dic := fun x t e => ⟨(h.dic x t e).ex⟩
  fnn := fun n m => ⟨(h.fnn n m).ex⟩
  kon := fun x t e => ⟨(h.kon x t e).ex⟩
  thk := h.thk
  lamP := fun x id e pn e2 => ⟨(h.lamP x id e pn e2).ex⟩
/-- in an except suite -/
theorem XOk.sui (h : XOk X W G cv c) (a : Addr) (pn : List (Addr × Obj)) : XOk (X.suite a pn) W0 G cv c.inSui where
  N := h.N
  nd := h.nd
  sc := h.sc
  calm := fun z => nomatch z
  gu := h.gu
  un := h.un
  fn := h.fn
  con := h.con
  bn := h.bn
  shp := fun sh m => absurd m List.not_mem_nil
  exc := fun x code e => nomatch e
  isx := fun x t e => ⟨(h.isx x t e).ex⟩
  exm := fun x t e => let ⟨u, h1, h2⟩ := h.exm x t e; ⟨u, h1, ⟨h2.ex⟩⟩
  top := fun z => nomatch z
  tk := fun u s' ⟨a, B, sI, pins, σ, H, cls, d, e, I, nb, up, sky, na, os, ag, w⟩ => w.elim
  po := PassesOwn.never
  lam := fun x id e => nomatch e
  dic := fun x t e => nomatch e
  fnn := fun n m => absurd m List.not_mem_nil
  kon := fun x t e => ⟨(h.kon x t e).ex⟩
  thk := fun a i e => nomatch e
  lamP := fun x id e => nomatch e
/-- in a lambda's body -/
theorem XOk.inLam (h : XOk X W G cv c) {scope : Scope} (L : LamX.LamS c.sc scope) {k : Nat} (hs : ∀ sh ∈ c.shp, CallG X.prog X.w X.K X.mg X.base cv G k sh) (A : Around) (outer : List Env) (s : Shared) (H : Hp) (E : XK) (f c' : Addr) (hg : A.guards = some [])
    (hr : Room k (A.deeper (LamX.lamEnv X scope s.heap.objs.size f c'))) : XOk (LamX.lamCx X A outer s H E scope f c') (fun cls d _ H' => E cls d H') G cv (c.inLam scope) where
  N := h.N
  nd := h.nd
  sc := rfl
  calm := fun _ => rfl
  exc := fun x code e => nomatch e
  isx := fun x t e => nomatch e
  exm := fun x t e => nomatch e
  top := fun z => nomatch z
  gu := hg
  un := by
    have := hr.un
    show (A.deeper (LamX.lamEnv X scope s.heap.objs.size f c')).units + 66 < cLine
    omega
  fn := fun x e => by
    exfalso
    unfold Ct.loc at e
    have no := fun z hz => L.own (x, z) (PySem.mem_of_lookup hz)
    split at e
    · rename_i q; exact (no _ q).1 rfl
    · rename_i q; exact (no _ q).2 rfl
    · cases e
  con := h.con
  bn := h.bn
  shp := fun sh m => CallG.ok (X := LamX.lamCx X A outer s H E scope f c') (hs sh m) hr
  tk := takes_of rfl rfl rfl rfl
  po := passes_of rfl
  lam := fun x id e => nomatch e
  dic := fun x t e => nomatch e
  fnn := fun n m => absurd m List.not_mem_nil
  kon := fun x t e => nomatch e
  thk := fun a i e => nomatch e
  lamP := fun x id e => nomatch e
theorem isxL_ok (h : XOk X W G cv c) : ∀ {es : List Expr} {ts : List (List (Str × Bool))}, isxL c es = some ts → ClsL X es ts
  | [], _, q => by cases q; exact .nil
  | e :: r, ts, q => by
    unfold isxL at q
    split at q
    · rename_i heq; cases heq
    · rename_i heq
      cases heq
      obtain ⟨h0, q⟩ := og_some q
      rw [Bool.and_eq_true] at h0
      obtain ⟨t, tr, h1, h2, rfl⟩ := o2_some q
      exact .cons (h.gl h0.1) (nodb_ok h0.2).1 (h.isx _ _ h1) (isxL_ok h h2)
    · cases q
theorem look_fm {f : Str → Option Bool} {n : Str} {b : Bool} : ∀ {l : List (Str × Bool)}, (l.filterMap fun p => (f p.1).map fun b => (p.1, b)).lookup n = some b → f n = some b ∧ ∃ b', l.lookup n = some b'
  | [], h => by cases h
  | (m, b0) :: r, h => by
    have nx : ∀ z, ((m, b0) :: r : List (Str × Bool)).lookup n = some z ∨ r.lookup n = some z → ∃ b', ((m, b0) :: r : List (Str × Bool)).lookup n = some b' := fun z q => by
      rcases q with q | q
      · exact ⟨z, q⟩
      · rw [List.lookup_cons]
        cases n == m with
        | true => exact ⟨b0, rfl⟩
        | false => exact ⟨z, q⟩
    rw [List.filterMap_cons] at h
    cases e : f m with
    | none =>
      simp only [e, Option.map_none] at h
      obtain ⟨h1, b', h2⟩ := look_fm h
      exact ⟨h1, nx b' (.inr h2)⟩
    | some b1 =>
      simp only [e, Option.map_some, List.lookup_cons] at h
      cases q : n == m with
      | true =>
        rw [q] at h
        have e2 : n = m := by simpa using q
        subst e2
        cases h
        exact ⟨e, nx b0 (.inl (by rw [List.lookup_cons, q]))⟩
      | false =>
        rw [q] at h
        obtain ⟨h1, b', h2⟩ := look_fm h
        exact ⟨h1, nx b' (.inr h2)⟩
theorem isxU_ok : ∀ {es : List Expr} {ts : List (List (Str × Bool))}, ClsL X es ts → ∀ n b, (isxU ts).lookup n = some b → anyT ts n = some b ∧ ∃ C, ClsN X.K n C ∧ ExcC X.K C
  | _, _, .nil, n, b, q => by cases q
  | _, _, .cons hg hd f r, n, b, q => by
    obtain ⟨q1, b', q2⟩ := look_fm q
    obtain ⟨E, _, _, _, hf⟩ := f.ex
    obtain ⟨C, c1, c2, _⟩ := hf n b' q2
    exact ⟨q1, C, c1, c2⟩
/-- isinstance, of all things -/
theorem call_isi2 : CallR X (.builtin "isinstance") (fun xs H Q => rIsi X.K xs H Q ∨ ∃ (a C : Addr) (c : L2.V) (u : Value) (b : Bool), xs = [.ref a, c] ∧ H a = some (ExK (.ref C) none a) ∧ ExcC X.K C ∧ (∀ v, RelV c v → v = u) ∧ PySem.W.kitOne X.K (.ref C) u = some b ∧ Q (.bl b) H) := by
  intro pins s σ H xs us Q I r w
  rcases w with w | w
  · exact call_isi pins s σ H xs us Q I r w
  · exact call_isx pins s σ H xs us Q I r w
/-- isinstance(a, T) -/
theorem se_isi {a : Expr} {xa : DI.X} {ty : Str} {t : String} {p1 p2 pos : Pos} (hg : Gl X "isinstance") (hm : X.mg "isinstance" = none) (hg2 : Gl X ty) (hm2 : X.mg ty = none) (hv : bootBuiltins ty = some (.type t)) (hd : nodb ty = true) (hn : nost a = true) (ha : SE X W G cv a xa) :
    SE X W G cv (.Call (.Name "isinstance" p1) [a, .Name ty p2] [] pos) (.bi (.isi [t]) (.cons xa .nil)) := by
  intro R A env σ H F Q Q' s w kr k
  obtain ⟨d1, d2, d3⟩ := nodb_ok hd
  refine pX_of (pe_callB call_isi2 hg hm (by decide +kernel) (pa_cons pe_p (pa_cons (pe_bltn (v := .ty t) hg2 hm2 hv rfl d3 d1) pa_nil) (star1 hn)) (by decide) (by decide) (star1 hn) rfl) ?_
  simp only [br_iff, ls_iff, nrm_iff, bk_iff, sf_iff, wE, wB] at w
  refine ha R A env σ H F _ _ s w kr fun ra e1 x H1 F1 s1 g1 rv1 w1 => ?_
  obtain ⟨F1', s1', g1', hold1⟩ := s1.hold g1 rv1
  obtain ⟨d, pk, q, _⟩ := s1'.pk (hold1 _ _ _ .refl H) w1
  simp only [biW] at q
  split at q
  · rename_i b e
    unfold isiB at e
    have hn := e
    cases hx : isDct1 d with
    | true =>
      rw [hx] at e
      cases ht : noExT t with
      | false =>
        rw [show [t].all noExT = false by rw [List.all_cons, ht]; rfl] at e
        cases e
      | true =>
        rw [show [t].all noExT = true by rw [List.all_cons, ht]; rfl] at e
        cases pk.rep s1'.sub with
        | exc hc hh =>
          have kb : L2.kitB "dict" t = some false := by
            rcases noExT_cases ht with rfl | rfl | rfl | rfl | rfl <;> decide +kernel
          have e2 : (match L2.kitB "dict" t with | some true => some true | some false => isiB0 (excD _) [] | none => none) = some b := e
          rw [kb] at e2
          have e3 : some false = some b := e2
          cases e3
          exact .inr ⟨_, _, .ty t, .type t, false, rfl, hh, hc.ex, fun v r => r, hc.ty t ht, k (.v (.bool false)) _ _ _ _ s1' g1' (Rep.bl false) q⟩
        | _ => cases hx
    | false =>
    rw [hx, Bool.not_false, Bool.or_true] at e
    simp only [isiB0] at e
    refine .inl ⟨x, .ty t, .type (tyName d), .type t, b, rfl, .ty t, kindX (pk.rep s1'.sub) hx, ?_, k (.v (.bool b)) _ _ _ _ s1' g1' (Rep.bl b) q⟩
    refine kit_ty ?_
    cases hk : kitB (tyName d) t with
    | none => rw [hk] at e; cases e
    | some r =>
      rw [hk] at e
      cases r <;> (cases e; rfl)
  · exact q.elim
end
end DI
namespace DI
open PySem L2
open PyProof.Rows hiding St
section
variable {X : Cx} {W : WX} {G : Nat → Fn} {cv : CV} {c : Ct}
theorem cArgs_nost {f : Expr → Option DI.X} : ∀ {es : List Expr} {x : DI.X}, cArgs f es = some x → es.all nost = true
  | [], _, _ => rfl
  | e :: es, x, h => by
    unfold cArgs at h
    obtain ⟨h1, h2⟩ := og_some h
    obtain ⟨a, b, _, h4, _⟩ := o2_some h2
    rw [List.all_cons, h1, cArgs_nost h4]; rfl
theorem cO_ok {f : Expr → Option DI.X} (hf : ∀ e x, f e = some x → SE X W G cv e x) : ∀ {e : Option Expr} {x : DI.X}, cO f e = some x → SO X W G cv e x
  | none, x, h => by cases h; exact so_none
  | some e, x, h => by
    obtain ⟨y, h1, rfl⟩ := Option.map_eq_some_iff.mp h
    exact so_some (hf e y h1)
theorem cArgs_sal {f : Expr → Option DI.X} (hf : ∀ e x, f e = some x → SE X W G cv e x) : ∀ {es : List Expr} {x : DI.X}, cArgs f es = some x → SAL X W G cv es x
  | [], x, h => by cases h; exact sal_nil
  | e :: es, x, h => by
    unfold cArgs at h
    obtain ⟨h1, h2⟩ := og_some h
    obtain ⟨a, b, h3, h4, rfl⟩ := o2_some h2
    exact sal_cons h1 (hf e a h3) (cArgs_sal hf h4)
theorem cArgs_sb {f : Expr → Option DI.X} (hf : ∀ e x, f e = some x → SE X W G cv e x) : ∀ {es : List Expr} {x : DI.X}, cArgs f es = some x → SB X W G cv es x
  | [], x, h => by cases h; exact sb_nil
  | e :: es, x, h => by
    unfold cArgs at h
    obtain ⟨h1, h2⟩ := og_some h
    obtain ⟨a, b, h3, h4, rfl⟩ := o2_some h2
    exact sb_cons h1 (hf e a h3) (cArgs_sb hf h4)
theorem cArgs_sk {f : Expr → Option DI.X} (hf : ∀ e x, f e = some x → SE X W G cv e x) : ∀ {ks : List Keyword} {x : DI.X}, cArgs f (ks.map (·.value)) = some x → SK X W G cv ks x
  | [], x, h => by cases h; exact sk_nil
  | ⟨nm, e, kp⟩ :: ks, x, h => by
    unfold cArgs at h
    obtain ⟨h1, h2⟩ := og_some h
    obtain ⟨a, b, h3, h4, rfl⟩ := o2_some h2
    exact sk_cons (hf e a h3) (cArgs_sk hf h4)
theorem cArgs_sak {f : Expr → Option DI.X} (hf : ∀ e x, f e = some x → SE X W G cv e x) {ks : List Keyword} : ∀ {es : List Expr} {x : DI.X}, cArgs f (es ++ ks.map (·.value)) = some x → SAK X W G cv es ks x
  | [], x, h => sak_nil (cArgs_sk hf h)
  | e :: es, x, h => by
    have h : og (nost e) (o2 (f e) (cArgs f (es ++ ks.map (·.value))) .cons) = some x := h
    obtain ⟨h1, h2⟩ := og_some h
    obtain ⟨a, b, h3, h4, rfl⟩ := o2_some h2
    exact sak_cons h1 (hf e a h3) (cArgs_sak hf h4)
theorem cBoolE_ok {f : Expr → Option DI.X} (hf : ∀ e x, f e = some x → SE X W G cv e x) {op : BoolOp} {pos : Pos} : ∀ {es : List Expr} {x : DI.X}, cBoolE f op es = some x → SE X W G cv (.BoolOp op es pos) x
  | [], x, h => by cases h
  | [a], x, h => se_one (hf a x h)
  | a :: b :: r, x, h => by
    unfold cBoolE at h
    obtain ⟨p, q, h1, h2, rfl⟩ := o2_some h
    cases op with
    | And => exact se_and (hf a p h1) (cBoolE_ok hf h2)
    | Or => exact se_or (hf a p h1) (cBoolE_ok hf h2)
theorem cBoolT_ok {f : Expr → Option DI.X} (hf : ∀ e x, f e = some x → ST X W G cv e x) {op : BoolOp} {pos : Pos} : ∀ {es : List Expr} {x : DI.X}, cBoolT f op es = some x → SW X W G cv (.BoolOp op es pos) x
  | [], x, h => by cases h
  | [a], x, h => by
    cases op with
    | And => exact sw_and1 (hf a x h)
    | Or => exact sw_or1 (hf a x h)
  | a :: b :: r, x, h => by
    unfold cBoolT at h
    obtain ⟨p, q, h1, h2, rfl⟩ := o2_some h
    cases op with
    | And => exact sw_and (hf a p h1) (cBoolT_ok hf h2)
    | Or => exact sw_or (hf a p h1) (cBoolT_ok hf h2)
theorem tgW_ex : ∀ {t : Tg} {ds : List D} {e : En} {Q : En → Prop}, tgW t ds e Q → ∃ e', Q e'
  | .n i, ds, e, Q, h => by
    match ds, h with
    | [d], h =>
      have h : putS e i (.v d) Q := h
      rw [putS_iff] at h
      split at h
      · exact h.elim
      · exact ⟨_, h⟩
      · exact h.elim
  | .nil, ds, e, Q, h => by
    match ds, h with
    | [], h => exact ⟨_, h⟩
  | .cons t r, ds, e, Q, h => by
    match ds, h with
    | d :: ds, h =>
      obtain ⟨e1, h1⟩ := tgW_ex (t := t) (ds := [d]) (Q := fun e1 => tgW r ds e1 Q) h
      exact tgW_ex h1
  | .tup t, ds, e, Q, h => by
    match ds, h with
    | [.tuple ds], h => exact tgW_ex (t := t) h
    | [.list ds], h => exact tgW_ex (t := t) h
theorem cTgs_ok {f : Expr → Option (Tg × List (Str × Nat))} (hf : ∀ e p, f e = some p → TGo X e p.1 ∧ tgs p.1 = p.2.map (·.2)) : ∀ {es : List Expr} {p : Tg × List (Str × Nat)}, cTgs f es = some p →
    TGso X es p.1 ∧ tgs p.1 = p.2.map (·.2) ∧ ∀ (ds : List D) (e : En) (Q : En → Prop), tgW p.1 ds e Q → ds.length = es.length
  | [], p, h => by
    cases h
    refine ⟨tgs_nil, rfl, fun ds e Q w => ?_⟩
    match ds, w with
    | [], w => rfl
  | e :: es, p, h => by
    unfold cTgs at h
    obtain ⟨h1, h2⟩ := og_some h
    obtain ⟨a, b, h3, h4, rfl⟩ := o2_some h2
    obtain ⟨a1, a2⟩ := hf e a h3
    obtain ⟨b1, b2, b3⟩ := cTgs_ok hf h4
    refine ⟨tgs_cons h1 a1 b1, by simp only [tgs, List.map_append, a2, b2], fun ds e Q w => ?_⟩
    match ds, w with
    | d :: ds, w =>
      obtain ⟨e1, w1⟩ := tgW_ex (t := a.1) (ds := [d]) (Q := fun e1 => tgW b.1 ds e1 Q) w
      rw [List.length_cons, List.length_cons, b3 ds e1 Q w1]
theorem cTg_ok (h : XOk X W G cv c) : ∀ {n : Nat} {e : Expr} {p : Tg × List (Str × Nat)}, cTg n c e = some p → TGo X e p.1 ∧ tgs p.1 = p.2.map (·.2)
  | 0, _, _, e => by cases e
  | n + 1, e, p, q => by
    unfold cTg at q
    split at q
    · obtain ⟨h1, h2⟩ := og_some q
      rw [Bool.and_eq_true] at h1
      simp only [Option.map_eq_some_iff] at h2
      obtain ⟨i, h3, rfl⟩ := h2
      exact ⟨tg_n h.nd (h.ix h3) (h.loc h1.1) (h.fn _ h1.1), rfl⟩
    · obtain ⟨h1, h2⟩ := og_some q
      simp only [Option.map_eq_some_iff] at h2
      obtain ⟨r, h3, rfl⟩ := h2
      obtain ⟨b1, b2, b3⟩ := cTgs_ok (fun e p => cTg_ok h (n := n)) h3
      rw [Bool.and_eq_true] at h1
      exact ⟨tg_tup (h.calm (by simpa using h1.1)) h1.2 b1 b3, b2⟩
    · cases q
end
theorem cTgs_tgs {f : Expr → Option (Tg × List (Str × Nat))} (hf : ∀ e p, f e = some p → tgs p.1 = p.2.map (·.2)) : ∀ {es : List Expr} {p : Tg × List (Str × Nat)}, cTgs f es = some p → tgs p.1 = p.2.map (·.2)
  | [], p, h => by cases h; rfl
  | e :: es, p, h => by
    unfold cTgs at h
    obtain ⟨h1, h2⟩ := og_some h
    obtain ⟨a, b, h3, h4, rfl⟩ := o2_some h2
    simp only [tgs, List.map_append, hf e a h3, cTgs_tgs hf h4]
theorem cTg_tgs {c : Ct} : ∀ {n : Nat} {e : Expr} {p : Tg × List (Str × Nat)}, cTg n c e = some p → tgs p.1 = p.2.map (·.2)
  | 0, _, _, e => by cases e
  | n + 1, e, p, q => by
    unfold cTg at q
    split at q
    · obtain ⟨h1, h2⟩ := og_some q
      obtain ⟨i, h3, rfl⟩ := Option.map_eq_some_iff.mp h2
      rfl
    · obtain ⟨h1, h2⟩ := og_some q
      obtain ⟨r, h3, rfl⟩ := Option.map_eq_some_iff.mp h2
      have z := cTgs_tgs (f := cTg n c) (fun e p => cTg_tgs (n := n)) h3
      exact z
    · cases q
theorem beqS {a b : Str} (h : (a == b) = true) : a = b := by simpa using h
theorem isStr_ok {k : Keyword} (h : isStr k = true) : ∃ j p1 p2, k = ⟨some (Str.ofString "strict"), .Constant (.bool true) j p1, p2⟩ := by
  unfold isStr at h
  split at h
  · have e := beqS h
    subst e
    exact ⟨_, _, _, rfl⟩
  · cases h
theorem cPN_ok {X : Cx} {W : WX} {G : Nat → Fn} {cv : CV} {c : Ct} (h : XOk X W G cv c) {e : Expr} {i : Nat} (q : cPN c e = some i) : PxOk X e (.n i) := by
  unfold cPN at q
  split at q
  · obtain ⟨h1, h2⟩ := og_some q
    rw [Bool.and_eq_true] at h1
    obtain ⟨d1, d2, d3⟩ := nodb_ok h1.2
    exact px_n (h.ix h2) (h.vis h1.1) d1 d2
  · cases q
theorem cPX_ok {X : Cx} {W : WX} {G : Nat → Fn} {cv : CV} {c : Ct} (h : XOk X W G cv c) {e : Expr} {p : PX} (q : cPX c e = some p) : PxOk X e p := by
  unfold cPX at q
  split at q
  · obtain ⟨x, y, h1, h2, rfl⟩ := o2_some q
    exact px_add (cPN_ok h h1) (cPN_ok h h2)
  · obtain ⟨i, h1, rfl⟩ := Option.map_eq_some_iff.mp q
    exact cPN_ok h h1
theorem cDP_ok {X : Cx} {W : WX} {G : Nat → Fn} {cv : CV} {c : Ct} (h : XOk X W G cv c) : ∀ {ks : List (Option Expr)} {vs : List Expr} {r : List (Str × PX)}, cDP c ks vs = some r → DP X ks vs r
  | [], [], r, q => by unfold cDP at q; cases q; exact .nil
  | [], v :: vs, r, q => by unfold cDP at q; cases q
  | k :: ks, vs, r, q => by
    unfold cDP at q
    split at q
    · rename_i e; cases e
    · rename_i e2
      obtain ⟨p, l, h1, h2, rfl⟩ := o2_some q
      injection e2 with e1 e3
      subst e1 e3
      exact .cons pe_str (cPX_ok h h1) (cDP_ok h h2)
    · cases q
theorem cTP_ok {X : Cx} : ∀ {ks : List (Option Expr)} {vs : List Expr} {r : List (Str × Str)}, cTP ks vs = some r → DTx X ks vs r
  | [], [], r, q => by unfold cTP at q; cases q; exact .nil
  | [], v :: vs, r, q => by unfold cTP at q; cases q
  | k :: ks, vs, r, q => by
    unfold cTP at q
    split at q
    · rename_i e; cases e
    · rename_i e2
      obtain ⟨l, h2, rfl⟩ := Option.map_eq_some_iff.mp q
      injection e2 with e1 e3
      subst e1 e3
      exact .cons pe_str pe_str (cTP_ok h2)
    · cases q
theorem comp_ok (cv : CV) (G : Nat → Fn) : ∀ (n : Nat), (∀ (X : Cx) (W : WX) (c : Ct), XOk X W G cv c → ∀ e x, cE n c e = some x → SE X W G cv e x) ∧ (∀ (X : Cx) (W : WX) (c : Ct), XOk X W G cv c → ∀ e x, cT n c e = some x → ST X W G cv e x) ∧
    (∀ (X : Cx) (W : WX) (c : Ct), XOk X W G cv c → ∀ b tg e x, (b = true → tupT tg = true) → cI n b c e = some x → SI X W G cv tg e x) ∧ (∀ (X : Cx) (c : Ct), XOk X W0 G cv c → ∀ es x, cK n c es = some x → SBT X G cv es x)
  | 0 => by
    refine ⟨fun X W c h e x q => ?_, fun X W c h e x q => ?_, fun X W c h b tg e x ht q => ?_, fun X c h es x q => ?_⟩
    · unfold cE at q; cases q
    · unfold cT at q; cases q
    · unfold cI at q; cases q
    · unfold cK at q; cases q
  | n + 1 => by
    obtain ⟨ihE, ihT, ihI, ihK⟩ := comp_ok cv G n
    refine ⟨fun X W c h e x q => ?_, fun X W c h e x q => ?_, fun X W c h b tg e x ht q => ?_, fun X c h es x q => ?_⟩
    · have hu : X.A.units + 65 < cLine := by have := h.un; omega
      have iE := ihE X W c h
      have iT := ihT X W c h
      unfold cE at q
      split at q
      · cases q; exact se_c pe_int (.int _)
      · cases q; exact se_dct
      · cases q; exact se_c pe_bl (.bl _)
      · cases q; exact se_c pe_non .non
      · cases q; exact se_c pe_str (.str _)
      · split at q
        · rename_i hv
          obtain ⟨h1, h2⟩ := og_some q
          simp only [Option.map_eq_some_iff] at h2
          obtain ⟨i, h3, rfl⟩ := h2
          obtain ⟨d1, d2, d3⟩ := nodb_ok h1
          exact se_var (h.ix h3) (h.vis hv) d1 d2
        · obtain ⟨h1, h2⟩ := og_some q
          rw [Bool.and_eq_true] at h1
          simp only [Option.map_eq_some_iff] at h2
          obtain ⟨d, h3, rfl⟩ := h2
          obtain ⟨d1, d2, d3⟩ := nodb_ok h1.2
          obtain ⟨v, u, m1, m2, m3⟩ := h.con _ _ h3
          exact se_c (pe_glob (h.gl h1.1) m1 m2 d1) m3
      · obtain ⟨x, y, h1, h2, rfl⟩ := o2_some q
        exact se_bin (iE _ _ h1) (iE _ _ h2)
      · simp only [Option.map_eq_some_iff] at q
        obtain ⟨x, h1, rfl⟩ := q
        exact se_neg (iE _ _ h1)
      · simp only [Option.map_eq_some_iff] at q
        obtain ⟨x, h1, rfl⟩ := q
        exact se_not (iE _ _ h1)
      · obtain ⟨x, h1, rfl⟩ := Option.map_eq_some_iff.mp q
        exact se_neT hu (iE _ _ h1)
      · obtain ⟨h0, q⟩ := og_some q
        obtain ⟨x, y, h1, h2, rfl⟩ := o2_some q
        exact se_cmp hu (by simpa using h0) (iE _ _ h1) (iE _ _ h2)
      · obtain ⟨h0, q⟩ := og_some q
        obtain ⟨x, p, h1, h2, rfl⟩ := o2_some q
        obtain ⟨y, z, h3, h4, rfl⟩ := o2_some h2
        exact se_chn hu (by simpa using h0) (iE _ _ h1) (iE _ _ h3) (iE _ _ h4)
      · exact cBoolE_ok iE q
      · obtain ⟨x, p, h1, h2, rfl⟩ := o2_some q
        obtain ⟨y, z, h3, h4, rfl⟩ := o2_some h2
        exact se_ite (iT _ _ h1) (iE _ _ h3) (iE _ _ h4)
      · simp only [Option.map_eq_some_iff] at q
        obtain ⟨x, h1, rfl⟩ := q
        exact se_tup (cArgs_sal iE h1).sa
      · simp only [Option.map_eq_some_iff] at q
        obtain ⟨x, h1, rfl⟩ := q
        exact se_lst (cArgs_sal iE h1).sa
      · obtain ⟨x, p, h1, h2, rfl⟩ := o2_some q
        obtain ⟨y, z, h3, h4, rfl⟩ := o2_some h2
        exact se_slc (iE _ _ h1) (cO_ok iE h3) (cO_ok iE h4)
      · obtain ⟨x, p, h1, h2, rfl⟩ := o2_some q
        obtain ⟨y, z, h3, h4, rfl⟩ := o2_some h2
        obtain ⟨u, v, h5, h6, rfl⟩ := o2_some h4
        exact se_slc3 (iE _ _ h1) (cO_ok iE h3) (cO_ok iE h5) (so_some (iE _ _ h6))
      · obtain ⟨h0, q⟩ := og_some q
        rw [Bool.and_eq_true, Bool.and_eq_true] at h0
        obtain ⟨d1, d2, d3⟩ := nodb_ok h0.1.2
        split at q
        · rename_i tb ht
          obtain ⟨i, h2, rfl⟩ := Option.map_eq_some_iff.mp q
          exact se_tpick (by omega) (cTP_ok ht) (by simp) (by rw [List.length_cons]; exact Nat.le_of_ble_eq_true h0.2) (h.ix h2) (h.vis h0.1.1) d1 d2 (fun _ _ => rfl)
        obtain ⟨tb, i, h1, h2, rfl⟩ := o2_some q
        exact se_dpick (by omega) (cDP_ok h h1) (by simp) (by rw [List.length_cons]; exact Nat.le_of_ble_eq_true h0.2) (h.ix h2) (h.vis h0.1.1) d1 d2 (fun _ _ => rfl)
      · split at q
        · rename_i tbl ht
          obtain ⟨h0, q⟩ := og_some q
          obtain ⟨x, h2, rfl⟩ := Option.map_eq_some_iff.mp q
          obtain ⟨dn, pd, rfl, h3, h4, h5⟩ := konOf_ok ht
          exact se_kpick (h.gl h3) (nodb_ok h4).1 h0 (h.kon _ _ h5) (iE _ _ h2)
        · obtain ⟨h0, q⟩ := og_some q
          obtain ⟨x, y, h1, h2, rfl⟩ := o2_some q
          exact se_idx h0 (iE _ _ h1) (iE _ _ h2)
      · rename_i nm p0 es kws pos
        split at q
        · rename_i i0 hfv
          obtain ⟨h0, q⟩ := og_some q
          obtain ⟨xs, h2, rfl⟩ := Option.map_eq_some_iff.mp q
          obtain ⟨⟨e0, er, rfl⟩, rfl, v1, v2, v3⟩ := fnvOf_ok hfv
          obtain ⟨d1, d2, d3⟩ := nodb_ok v2
          exact se_callv (h.ix v3) (h.vis v1) d1 d2 (fun n q hq => by
            obtain ⟨m1, sh, m2, m3, m4, m5, m6, m7, m8⟩ := fnTab_ok hq
            exact ⟨h.fnn n m1, sh, h.shp sh m2, m3, m4, m5, m6, m7, m8⟩) h.gu h.tk h0 (cArgs_sal iE h2)
        split at q
        · rename_i i0 ha
          cases q
          obtain ⟨rfl, rfl, e1, e2⟩ := actOf_ok ha
          exact h.thk _ _ e1 e2 W X.pn X.xe h.tk p0 pos
        split at q
        · rename_i lq hl
          obtain ⟨lid, lbody, lscope⟩ := lq
          obtain ⟨xb, h2, rfl⟩ := Option.map_eq_some_iff.mp q
          obtain ⟨⟨lp, rfl⟩, rfl, hgl, hnd, L, hlk⟩ := lamOf_ok hl
          have L' := L
          rw [← h.sc] at L'
          show SE X W G cv _ (lamX c nm lid xb)
          rcases lamX_or c nm lid xb with hx | ⟨pn, j, hp, hx⟩
          rotate_left
          · rw [hx]
            obtain ⟨g, cX, P, k, k1, k2, k3, k4, k5, k6, k7, k8, k9, k10⟩ := (h.lamP _ _ hlk _ hp).ex
            exact se_lamP (h.gl hgl) k1 k2 (nodb_ok hnd).1 h.gu k3 h.tk k4 k5 k6 k7 k8 L' rfl (fun _ _ _ _ _ => rfl) k9 fun A outer s H E f c' hg hr => ihE _ _ _ (h.inLam L k10 A outer s H E f c' hg hr) _ _ h2
          rw [hx]
          obtain ⟨g, cX, P, k, k1, k2, k3, k4, k5, k6, k7, k8, k9, k10⟩ := (h.lam _ _ hlk).ex
          exact se_lam (h.gl hgl) k1 k2 (nodb_ok hnd).1 h.gu k3 h.tk k4 k5 k6 k7 k8 L' rfl (fun _ _ _ _ _ => rfl) k9 fun A outer s H E f c' hg hr => ihE _ _ _ (h.inLam L k10 A outer s H E f c' hg hr) _ _ h2
        obtain ⟨h0, q⟩ := og_some q
        rw [Bool.and_eq_true] at h0
        obtain ⟨d1, d2, d3⟩ := nodb_ok h0.2
        split at q
        · rename_i hb
          have hb' : nm ∈ c.bn := by simpa using hb
          split at q
          · rename_i a hls
            obtain ⟨hh, q⟩ := og_some q
            obtain ⟨x, h2, rfl⟩ := Option.map_eq_some_iff.mp q
            obtain ⟨p1, q1, rfl, rfl, rfl, hty, hn⟩ := lenSet_ok hls
            unfold Ct.isB at hty
            simp only [Bool.and_eq_true] at hty
            exact se_lset (h.calm (by simpa using hh)) (by have := h.un; omega) (h.gl h0.1) (h.bn _ hb') (h.gl hty.1.1) (h.bn _ (by simpa using hty.1.2)) hn (iE _ _ h2)
          split at q
          · rename_i b hbi
            obtain ⟨h1, q⟩ := og_some q
            simp only [Bool.and_eq_true, List.isEmpty_iff] at h1
            simp only [Option.map_eq_some_iff] at q
            obtain ⟨xs, h2, rfl⟩ := q
            obtain ⟨hh, ⟨hk, hne⟩, hst⟩ := h1
            have hc := h.calm (by simpa using hh)
            subst hk
            cases es with
            | nil => simp at hne
            | cons e0 er =>
              obtain ⟨rfl, ⟨id, e1, e2⟩ | ⟨id, e1, e2⟩⟩ := biOf_ok hbi
              · exact se_bi1 hc h.gu h.un e1 (h.gl h0.1) (h.bn _ hb') e2 d3 d1 hst (cArgs_sb iE h2)
              · exact se_bi2 hc h.gu h.un e1 (h.gl h0.1) (h.bn _ hb') e2 d3 d1 hst (cArgs_sb iE h2)
          · split at q
            · split at q
              · rename_i hl
                obtain ⟨h1, q⟩ := og_some q
                simp only [Bool.and_eq_true] at h1
                obtain ⟨xa, h3, rfl⟩ := Option.map_eq_some_iff.mp q
                obtain ⟨⟨⟨hx, hty⟩, hnd⟩, hn⟩ := h1
                have e0 := beqS hx
                subst e0
                exact se_isx (h.gl h0.1) (h.bn _ hb') (h.gl hty) (nodb_ok hnd).1 (h.isx _ _ hl) hn (iE _ _ h3)
              obtain ⟨h1, q⟩ := og_some q
              simp only [Bool.and_eq_true] at h1
              obtain ⟨t, xa, h2, h3, rfl⟩ := o2_some q
              obtain ⟨⟨hx, hty⟩, hn⟩ := h1
              unfold Ct.isB at hty
              simp only [Bool.and_eq_true] at hty
              have e0 := beqS hx
              subst e0
              exact se_isi (h.gl h0.1) (h.bn _ hb') (h.gl hty.1.1) (h.bn _ (by simpa using hty.1.2)) (tyOf_ok h2) hty.2 hn (iE _ _ h3)
            · obtain ⟨h1, q⟩ := og_some q
              simp only [Bool.and_eq_true] at h1
              obtain ⟨tt, xa, h2, h3, rfl⟩ := o2_some q
              obtain ⟨⟨hx, hn⟩, hl⟩ := h1
              have e0 := beqS hx
              subst e0
              have f := isxL_ok h h2
              exact se_isxt (h.gl h0.1) (h.bn _ hb') f (Nat.le_of_ble_eq_true hl) (isxU_ok f) hn (iE _ _ h3)
            · cases q
        · split at q
          · rename_i sh hsh
            obtain ⟨m1, mn, m3, m4⟩ := shapeOf_ok hsh
            split at q
            · rename_i a0 ho
              obtain ⟨h1, q⟩ := og_some q
              obtain ⟨xa, h2, rfl⟩ := Option.map_eq_some_iff.mp q
              obtain ⟨rfl, rfl⟩ := oneT_ok ho
              subst mn
              have m5 : sh.ks = [] := by cases hk : sh.ks with
                | nil => rfl
                | cons a r => rw [hk] at m4; cases m4
              exact se_callT (h.shp sh m1) h.gu h.tk (h.gl h0.1) d1 h1 m3 m5 (iE _ _ h2)
            obtain ⟨h1, q⟩ := og_some q
            obtain ⟨xs, h2, rfl⟩ := Option.map_eq_some_iff.mp q
            subst mn
            rw [Bool.and_eq_true] at h1
            cases kws with
            | nil =>
              have m5 : sh.ks = [] := by cases hk : sh.ks with
                | nil => rfl
                | cons a r => rw [hk] at m4; cases m4
              cases es with
              | nil =>
                cases h2
                exact se_call0 (h.shp sh m1) h.gu h.tk (h.gl h0.1) d1 m3 m5
              | cons e0 er =>
                rw [List.map_nil, List.append_nil] at h2
                exact se_call (h.shp sh m1) h.gu h.tk (h.gl h0.1) d1 h1.1 m3.symm m5 (cArgs_sal iE h2)
            | cons k0 kr =>
              cases es with
              | nil => simp at h1
              | cons e0 er => exact se_callK (h.shp sh m1) h.gu h.tk (h.gl h0.1) d1 h1.1 m3.symm m4 (cArgs_sak iE h2)
          · cases q
      · obtain ⟨h0, q⟩ := og_some q
        simp only [Bool.and_eq_true] at h0
        simp only [Option.map_eq_some_iff] at q
        obtain ⟨x, h1, rfl⟩ := q
        have e0 := beqS h0.1.2
        subst e0
        exact se_bits (noSup_ok h0.1.1) h0.2 (iE _ _ h1)
      · split at q
        · rename_i hm
          obtain ⟨h0, q⟩ := og_some q
          simp only [Bool.and_eq_true] at h0
          obtain ⟨x, y, h1, h2, rfl⟩ := o2_some q
          have e0 := beqS hm
          subst e0
          exact se_lidx (by have := h.un; omega) (noSup_ok h0.1.1) h0.2 h0.1.2 (iE _ _ h1) (iE _ _ h2)
        split at q
        · rename_i hm
          obtain ⟨h0, q⟩ := og_some q
          simp only [Bool.and_eq_true] at h0
          obtain ⟨x, y, h1, h2, rfl⟩ := o2_some q
          have e0 := beqS hm
          subst e0
          exact se_lcnt (by have := h.un; omega) (noSup_ok h0.1.1) h0.2 h0.1.2 (iE _ _ h1) (iE _ _ h2)
        split at q
        · obtain ⟨h0, q⟩ := og_some q
          simp only [Bool.and_eq_true] at h0
          obtain ⟨⟨⟨⟨c1, c2⟩, c3⟩, c4⟩, c5⟩ := h0
          obtain ⟨i, xa, h1, h2, rfl⟩ := o2_some q
          obtain ⟨d1, d2, d3⟩ := nodb_ok c3
          have e0 := beqS c1
          subst e0
          exact se_pop (h.ix h1) (h.vis c2) d1 d2 c4 c5 (sb_cons c4 (iE _ _ h2) sb_nil)
        · cases q
      · rename_i elt tg iter ifs scope pos
        split at q
        · rename_i p hp
          obtain ⟨h0, q⟩ := og_some q
          simp only [Bool.and_eq_true] at h0
          obtain ⟨hh, h0⟩ := h0
          have bo : BlkOk X.N X.env.scope scope p.2 := by rw [h.N, h.sc]; exact blkOk_by h0.1
          split at q
          · rename_i i hi
            obtain ⟨xc, xe, h3, h4, rfl⟩ := o2_some q
            obtain ⟨y, py, rfl, k1, k2, k3⟩ := keepOf_ok hi
            obtain ⟨d1, d2, _⟩ := nodb_ok k2
            exact se_comprB (h.calm (by simpa using hh)) h.nd bo (cTg_tgs hp) (notSet_ok h0.2) (se_var (h.ix k3) (h.vis k1) d1 d2) (fun s H C cl fp => (cTg_ok (h.inBlk scope s H C cl fp) hp).1)
              (fun s H C cl fp => ihK _ _ (h.inBlk scope s H C cl fp) _ _ h3) (fun s H C cl fp => ihE _ W0 _ (h.inBlk scope s H C cl fp) _ _ h4)
          obtain ⟨xi, r, h1, h2, rfl⟩ := o2_some q
          obtain ⟨xc, xe, h3, h4, rfl⟩ := o2_some h2
          refine se_compr (h.calm (by simpa using hh)) h.nd bo (cTg_tgs hp) (notSet_ok h0.2) (ihI X W c h _ _ _ _ id h1) (fun s H C cl fp => (cTg_ok (h.inBlk scope s H C cl fp) hp).1)
            (fun s H C cl fp => ihK _ _ (h.inBlk scope s H C cl fp) _ _ h3) (fun s H C cl fp => ihE _ W0 _ (h.inBlk scope s H C cl fp) _ _ h4)
        · cases q
      · cases q
    · have hu : X.A.units + 65 < cLine := by have := h.un; omega
      have iE := ihE X W c h
      have iT := ihT X W c h
      unfold cT at q
      split at q
      · exact (cBoolT_ok iT q).st
      · simp only [Option.map_eq_some_iff] at q
        obtain ⟨x, h1, rfl⟩ := q
        exact st_not (iT _ _ h1)
      · obtain ⟨x, h1, rfl⟩ := Option.map_eq_some_iff.mp q
        exact st_neT hu (iE _ _ h1)
      · obtain ⟨h0, q⟩ := og_some q
        obtain ⟨x, y, h1, h2, rfl⟩ := o2_some q
        exact st_cmp hu (by simpa using h0) (iE _ _ h1) (iE _ _ h2)
      · obtain ⟨h0, q⟩ := og_some q
        obtain ⟨x, p, h1, h2, rfl⟩ := o2_some q
        obtain ⟨y, z, h3, h4, rfl⟩ := o2_some h2
        exact st_chn hu (by simpa using h0) (iE _ _ h1) (iE _ _ h3) (iE _ _ h4)
      · obtain ⟨h0, q⟩ := og_some q
        simp only [Option.map_eq_some_iff] at q
        obtain ⟨x, h1, rfl⟩ := q
        exact st_plain (plainT_ok h0) (iE _ _ h1)
    · have iE := ihE X W c h
      unfold cI at q
      split at q
      · split at q
        · rename_i h1
          obtain ⟨x, h3, rfl⟩ := Option.map_eq_some_iff.mp q
          unfold Ct.isB at h1
          simp only [Bool.and_eq_true] at h1
          have e0 := beqS h1.1
          subst e0
          have hn := cArgs_nost h3
          simp only [List.all_cons, List.all_nil, Bool.and_true] at hn
          exact si_rng1 (h.gl h1.2.1.1) (h.bn _ (by simpa using h1.2.1.2)) hn (cArgs_sal iE h3)
        · split at q
          · rename_i h2
            unfold Ct.isB at h2
            simp only [Bool.and_eq_true] at h2
            split at q
            · obtain ⟨h3, q⟩ := og_some q
              unfold Ct.isB at h3
              simp only [Bool.and_eq_true] at h3
              obtain ⟨x, h4, rfl⟩ := Option.map_eq_some_iff.mp q
              have e0 := beqS h2.1
              have e1 := beqS h3.1.1
              subst e0 e1
              exact si_rrng (h.gl h3.1.2.1.1) (h.bn _ (by simpa using h3.1.2.1.2)) (h.gl h2.2.1.1) (h.bn _ (by simpa using h2.2.1.2)) h3.2 (iE _ _ h4)
            · cases q
          · split at q
            · rename_i h4
              simp only [Bool.and_eq_true] at h4
              obtain ⟨hb, hx, hB⟩ := h4
              obtain ⟨es', k', p', rfl⟩ := tupT_ok (ht hb)
              obtain ⟨hn, q⟩ := og_some q
              obtain ⟨x, h5, rfl⟩ := Option.map_eq_some_iff.mp q
              unfold Ct.isB at hB
              simp only [Bool.and_eq_true] at hB
              have e0 := beqS hx
              subst e0
              exact si_enum (h.gl hB.1.1) (h.bn _ (by simpa using hB.1.2)) hn (cArgs_sal iE h5)
            · exact si_seq (iE _ _ q)
      · split at q
        · rename_i h1
          simp only [Option.map_eq_some_iff] at q
          obtain ⟨x, h3, rfl⟩ := q
          unfold Ct.isB at h1
          simp only [Bool.and_eq_true] at h1
          have e0 := beqS h1.1
          subst e0
          have hn := cArgs_nost h3
          simp only [List.all_cons, List.all_nil, Bool.and_true, Bool.and_eq_true] at hn
          exact si_rng2 (h.gl h1.2.1.1) (h.bn _ (by simpa using h1.2.1.2)) hn.1 hn.2 (cArgs_sal iE h3)
        · split at q
          · rename_i h4
            simp only [Bool.and_eq_true] at h4
            obtain ⟨hb, hx, hB⟩ := h4
            obtain ⟨es', k', p', rfl⟩ := tupT_ok (ht hb)
            obtain ⟨hn, q⟩ := og_some q
            rw [Bool.and_eq_true] at hn
            obtain ⟨x, h5, rfl⟩ := Option.map_eq_some_iff.mp q
            unfold Ct.isB at hB
            simp only [Bool.and_eq_true] at hB
            have e0 := beqS hx
            subst e0
            exact si_zip (h.gl hB.1.1) (h.bn _ (by simpa using hB.1.2)) hn.1 hn.2 (cArgs_sal iE h5)
          · exact si_seq (iE _ _ q)
      · obtain ⟨h4, q⟩ := og_some q
        simp only [Bool.and_eq_true] at h4
        obtain ⟨⟨hb, hx, hB⟩, hk, hn⟩ := h4
        obtain ⟨es', k', p', rfl⟩ := tupT_ok (ht hb)
        obtain ⟨x, h5, rfl⟩ := Option.map_eq_some_iff.mp q
        obtain ⟨j, p1, p2, rfl⟩ := isStr_ok hk
        unfold Ct.isB at hB
        simp only [Bool.and_eq_true] at hB
        have e0 := beqS hx
        subst e0
        exact si_zips (h.gl hB.1.1) (h.bn _ (by simpa using hB.1.2)) hn.1 hn.2 (cArgs_sal iE h5)
      · split at q
        · rename_i h1
          simp only [Option.map_eq_some_iff] at q
          obtain ⟨x, h3, rfl⟩ := q
          unfold Ct.isB at h1
          simp only [Bool.and_eq_true] at h1
          have e0 := beqS h1.1
          subst e0
          have hn := cArgs_nost h3
          simp only [List.all_cons, List.all_nil, Bool.and_true, Bool.and_eq_true] at hn
          exact si_rng3 (h.gl h1.2.1.1) (h.bn _ (by simpa using h1.2.1.2)) hn.1 hn.2.1 hn.2.2 (cArgs_sal iE h3)
        · split at q
          · rename_i h4
            simp only [Bool.and_eq_true] at h4
            obtain ⟨hb, hx, hB⟩ := h4
            obtain ⟨es', k', p', rfl⟩ := tupT_ok (ht hb)
            obtain ⟨hn, q⟩ := og_some q
            rw [Bool.and_eq_true, Bool.and_eq_true] at hn
            obtain ⟨x, h5, rfl⟩ := Option.map_eq_some_iff.mp q
            unfold Ct.isB at hB
            simp only [Bool.and_eq_true] at hB
            have e0 := beqS hx
            subst e0
            exact si_zip3 (h.gl hB.1.1) (h.bn _ (by simpa using hB.1.2)) hn.1 hn.2.1 hn.2.2 (cArgs_sal iE h5)
          · exact si_seq (iE _ _ q)
      · exact si_seq (iE _ _ q)
    · unfold cK at q
      split at q
      · cases q; exact sbt_nil
      · exact sbt_one (ihT X W0 c h _ _ q)
      · cases q
end DI
namespace DI
open PySem L2
open PyProof.Rows hiding St
/-- the names whose stores are swapped, as the text tells; none: not told -/
def swp (sc : Scope) (ts vs : List Expr) : Option (Option (List Str)) :=
  if !(ts.length == 2 || ts.length == 3) || vs.length != ts.length then some none
  else if (vs.any fun | .Starred .. => true | _ => false) then some none
  else
    let line := (ts.head?.map (·.pos.line)).getD 0
    let names := ts.filterMap fun
      | .Name id pos => if sc.names.lookup id == some .local && pos.line == line then some id else none
      | _ => none
    if names.length != ts.length || names.eraseDups.length != names.length then some none
    else if vs.all (foldedForSure 8) then some none
    else if vs.all (constantsAlone 8) then none
    else some (some names)
theorem swp_ok {sc : Scope} {ts vs : List Expr} {r : Option (List Str)} {k k2 : Nat} {p p2 : Pos} {env : Env} (hs : env.scope = sc) (hk : sc.kind = .function) (h : swp sc ts vs = some r) : swappedStores [.Tuple ts k p] (.Tuple vs k2 p2) env = pure r := by
  have hb : env.blockKind = .function := by unfold Env.blockKind; rw [hs, hk]; rfl
  have hko : ∀ x, env.kindOf x = sc.names.lookup x := fun x => by unfold Env.kindOf; rw [hs]
  unfold swp at h
  unfold swappedStores
  simp only [hb, hko]
  split at h
  · rename_i c
    cases h
    refine if_pos ?_
    rw [c]; rfl
  · rename_i c
    refine (if_neg ?_).trans ?_
    · intro z
      rw [Bool.or_eq_true] at z
      rcases z with z | z
      · exact c z
      · cases z
    split at h
    · rename_i c2; cases h
      exact if_pos c2
    · rename_i c2
      refine (if_neg c2).trans ?_
      simp only at h
      split at h
      · rename_i c3; cases h
        exact if_pos c3
      · rename_i c3
        refine (if_neg c3).trans ?_
        split at h
        · rename_i c4; cases h
          exact if_pos c4
        · rename_i c4
          refine (if_neg c4).trans ?_
          split at h
          · cases h
          · rename_i c5; cases h
            exact if_neg c5
def isTup : Expr → Bool
  | .Tuple _ _ _ => true
  | .List _ _ => true
  | _ => false
def isTupT : Expr → Bool
  | .Tuple _ _ _ => true
  | _ => false
theorem tupT_sole {e t : Expr} (h : isTupT t = true) {l : Nat} {env : Env} : swapsWithSole [t] e l env = pure false := by
  cases t <;> first | (cases e <;> rfl) | cases h
theorem notComp_sole {e t : Expr} (h : notComp e = true) {l : Nat} {env : Env} : swapsWithSole [t] e l env = pure false := notComp_ok (t := some t) h
theorem noSwap {t e : Expr} (h : (!isTup t || !isTup e) = true) {env : Env} : swappedStores [t] e env = pure none := by
  unfold swappedStores
  cases t <;> cases e <;> first | rfl | cases h
theorem noSwap2 {t u e : Expr} {env : Env} : swappedStores [t, u] e env = pure none := by
  unfold swappedStores
  cases t <;> cases e <;> rfl
theorem asgOne {t : Expr} (h : nost t = true) {env : Env} : (assignEach [t] env).map (·.2) = [assign t env] := by
  cases t <;> first | rfl | cases h
def isFun (sc : Scope) : Bool := match sc.kind with
  | .function => true
  | _ => false
/-- a new list, by its text -/
def newL : Expr → Bool
  | .List _ _ => true
  | .ListComp _ _ _ _ => true
  | .Call (.Name x _) _ _ _ => x == ("list" : Str)
  | _ => false
def cAsg (n : Nat) (c : Ct) (tg e : Expr) (pos : Pos) : Option S := match tg, e with
  | .Name y py, .ListComp elt [⟨tg', iter, ifs, 0⟩] scope cpos => (match c.sc.names.lookup y == some .cell with
    | true => og (isFun c.sc && nodb y && c.loc y) (o2 (c.ix y) (cE n c (.ListComp elt [⟨tg', iter, ifs, 0⟩] scope cpos)) fun i x => .asg (.n i) x)
    | false => og (isFun c.sc && (keepOf c iter).isNone && nodb y && (py.line == cpos.line) && !(scope.names.any fun (n, k) => n == y && (k == .local || k == .cell)) && (c.sc.names.lookup y == some .local))
      (o2 (c.ix y) (cE n c (.ListComp elt [⟨tg', iter, ifs, 0⟩] scope cpos)) fun i x => .asg (.n i) x))
  | .Subscript (.Name x _) ix _, e => og (notComp e && c.vis x && nodb x && plainIx ix) (o2 (c.ix x) (o2 (cE n c ix) (cE n c e) Prod.mk) fun i p => .sidx i p.1 p.2)
  | .Tuple ts k p, .Tuple vs k2 p2 => og (!c.hot && isFun c.sc) (match swp c.sc ts vs with
    | some none => o2 (cTg n c (.Tuple ts k p)) (cE n c (.Tuple vs k2 p2)) fun t x => .asg t.1 x
    | some (some names) => (match ts, vs with
      | [.Name x _, .Name y _], [a, b] => (match newL a || newL b with
        | true => og (nost a && nost b && (decide (names = [x, y]) && decide (x ≠ y) && (c.sc.names.lookup x == some .local) && (c.sc.names.lookup y == some .local))) (o2 (o2 (c.ix x) (c.ix y) Prod.mk) (o2 (cE n c a) (cE n c b) Prod.mk) fun i p => .par2 i.1 i.2 p.1 p.2)
        | false => og (decide (names = [x, y]) && decide (x ≠ y) && (c.sc.names.lookup x == some .local) && (c.sc.names.lookup y == some .local)) (o2 (o2 (c.ix x) (c.ix y) Prod.mk) (cArgs (cE n c) [a, b]) fun i xs => .par (.cons (.n i.1) (.cons (.n i.2) .nil)) xs))
      | [.Name x _, .Name y _, .Name z _], [a, b, d] => og (decide (names = [x, y, z]) && decide (x ≠ y) && decide (x ≠ z) && decide (y ≠ z) && (c.sc.names.lookup x == some .local) && (c.sc.names.lookup y == some .local) && (c.sc.names.lookup z == some .local))
          (o2 (o2 (c.ix x) (o2 (c.ix y) (c.ix z) Prod.mk) Prod.mk) (cArgs (cE n c) [a, b, d]) fun i xs => .par (.cons (.n i.1) (.cons (.n i.2.1) (.cons (.n i.2.2) .nil))) xs)
      | _, _ => none)
    | none => none)
  | tg, e => og ((notComp e || isTupT tg) && nost tg && (!isTup tg || !isTup e)) (o2 (cTg n c tg) (cE n c e) fun t x => .asg t.1 x)
/-- names and items of lists -/
def cU (n : Nat) (c : Ct) : List Expr → Option DI.X
  | [] => some .nil
  | e :: r => match e with
    | .Name x _ => og (c.loc x && nodb x) (o2 (c.ix x) (cU n c r) fun i u => .cons (.var i) u)
    | .Subscript (.Name x _) ix _ => og (c.vis x && nodb x && plainIx ix) (o2 (c.ix x) (o2 (cE n c ix) (cU n c r) Prod.mk) fun i p => .cons (.idx (.var i) p.1) p.2)
    | _ => none
def isSub : Expr → Bool
  | .Subscript _ _ _ => true
  | _ => false
def cUnp (n : Nat) (c : Ct) (tg e : Expr) : Option S := match tg, e with
  | .Tuple ts k p, .Tuple vs k2 p2 => og (!c.hot && isFun c.sc && ts.any isSub && ts.all nost && (match swp c.sc ts vs with | some none => true | _ => false)) (o2 (cU n c ts) (cE n c (.Tuple vs k2 p2)) .unp)
  | _, _ => none
/-- a def out of a dict of the module, for a name -/
def cPick (n : Nat) (c : Ct) (tg e : Expr) : Option S := match tg, e with
  | .Name y _, .Subscript (.Name dn _) k _ => (match c.dic.lookup dn with
    | some tbl => og ((c.loc y && nodb y) && ((c.gl dn && nodb dn) && plainIx k)) (o2 (c.ix y) (cE n c k) fun i x => .pickf i tbl x)
    | none => none)
  | _, _ => none
/-- heads, and a starred name -/
def cStarT (n : Nat) (c : Ct) : List Expr → Option (Tg × Nat)
  | [] => none
  | e :: es => match e, es with
    | .Starred (.Name y _) _, [] => og (c.loc y && nodb y) ((c.ix y).map fun i => (.nil, i))
    | e, es => og (nost e) (o2 (cTg n c e) (cStarT n c es) fun p q => (.cons p.1 q.1, q.2))
def cStar (n : Nat) (c : Ct) (tg e : Expr) : Option S := match tg with
  | .Tuple es _ _ => og (!c.hot && (notComp e && !isTup e)) (o2 (cStarT n c es) (cE n c e) fun p x => .star p.1 p.2 x)
  | _ => none
def cSs (f : Stmt → Option S) : List Stmt → Option S
  | [] => some .skip
  | s :: r => o2 (f s) (cSs f r) .seq
/-- the clauses of a try -/
def cHs (f : List Stmt → Option S) (c : Ct) : List ExceptHandler → Option S
  | [] => some .skip
  | h :: r => match h with
    | .ExceptHandler (some (.Name x _)) none (b₀ :: su) _ => og (c.gl x && nodb x) (o2 (c.exm.lookup x) (o2 (f (b₀ :: su)) (cHs f c r) Prod.mk) fun tb p => .alt tb none p.1 p.2)
    | .ExceptHandler (some (.Name x _)) (some n) (b₀ :: su) _ => og (c.gl x && nodb x && c.sc.names.lookup n == some .local) (o2 (c.exm.lookup x) (o2 (c.ix n) (o2 (f (b₀ :: su)) (cHs f c r) Prod.mk) Prod.mk) fun tb p => .alt tb (some p.1) p.2.1 p.2.2)
    | _ => none
def cS : Nat → Ct → Stmt → Option S
  | 0, _, _ => none
  | n + 1, c, st => match st with
    | .Pass _ => some .skip
    | .Break _ => some .brk
    | .Continue _ => some .cnt
    | .Return none _ => some (.ret (.c .none))
    | .Return (some e) _ => (cE n c e).map .ret
    | .Raise (some (.Call (.Name x _) [.Constant (.str _) _ _] [] _)) none _ => (match c.exc.lookup x with
      | some code => og (!c.hot && (c.gl x && nodb x)) (some (.rais code))
      | none => some .nev)
    | .Raise _ _ _ => some .nev
    | .Expr (.Call (.Attribute (.Name x _) m pa) [a] [] pc) _ => (match m == ("extend" : Str) with
      | true => og (c.vis x && nodb x && nost a && (pa.endLine == pc.line)) (o2 (c.ix x) (cE n c a) .ext)
      | false => og (m == ("append" : Str) && c.vis x && nodb x && nost a && (pa.endLine == pc.line)) (o2 (c.ix x) (cE n c a) .app))
    | .Expr (.Call (.Attribute (.Name x _) m pa) [a, b] [] pc) _ => og (m == ("insert" : Str) && c.vis x && nodb x && nost a && nost b && (pa.endLine == pc.line)) (o2 (c.ix x) (o2 (cE n c a) (cE n c b) Prod.mk) fun i p => .ins i p.1 p.2)
    | .Expr e _ => og (notComp e) ((cE n c e).map .expr)
    | .Assign [tg] e pos => (match cPick n c tg e with
      | some x => some x
      | none => (match cStar n c tg e with
      | some x => some x
      | none => (match cUnp n c tg e with
        | some x => some x
        | none => cAsg n c tg e pos)))
    | .Assign [t1, t2] e _ => og (nost t1 && nost t2) (o2 (cTg n c t1) (o2 (cTg n c t2) (cE n c e) Prod.mk) fun t p => .asg2 t.1 p.1.1 p.2)
    | .AugAssign (.Name x _) op e _ => og (c.loc x && nodb x && (op == .Add || op == .Sub || op == .Mult)) (o2 (c.ix x) (cE n c e) fun i x => .aug i op x)
    | .For tg it body [] _ => og (!c.hot && notSet it) (o2 (cTg n c tg) (o2 (cI n (tupT tg) c it) (cSs (cS n c) body) Prod.mk) fun t p => .forr t.1 p.1 p.2)
    | .While t body [] _ => o2 (cT n c t) (cSs (cS n c) body) .whl
    | .If t a b _ => o2 (cT n c t) (o2 (cSs (cS n c) a) (cSs (cS n c) b) Prod.mk) fun t p => .ifs t p.1 p.2
    | .Try body (h₀ :: hds) [] [] _ => og (c.top && !c.hot) (o2 (cSs (cS n c) body) (cHs (cSs (cS n c.inSui)) c (h₀ :: hds)) .tri)
    | _ => none
section
variable {X : Cx} {W : WX} {G : Nat → Fn} {cv : CV} {c : Ct}
theorem ss_nev {st : Stmt} : SS X W G cv st .nev := fun R A env σ H F Q D s w kr k => (show False from w).elim
theorem cSs_ok {f : Stmt → Option S} (hf : ∀ e x, f e = some x → SS X W G cv e x) : ∀ {es : List Stmt} {x : S}, cSs f es = some x → SSs X W G cv es x
  | [], x, h => by cases h; exact sss_nil
  | e :: es, x, h => by
    unfold cSs at h
    obtain ⟨a, b, h3, h4, rfl⟩ := o2_some h
    exact sss_cons (hf e a h3) (cSs_ok hf h4)
theorem isFun_ok {sc : Scope} (h : isFun sc = true) : sc.kind = .function := by
  unfold isFun at h
  split at h
  · assumption
  · cases h
theorem ix_ne {c : Ct} {x y : Str} {i j : Nat} (h1 : c.ix x = some i) (h2 : c.ix y = some j) (ne : x ≠ y) : i ≠ j := by
  rintro rfl
  have a1 := ix_ok h1
  rw [ix_ok h2] at a1
  injection a1 with a1
  exact ne a1.symm
theorem sw_false {elt : Expr} {gs : List Comprehension} {scope : Scope} {pos py : Pos} {y : Str} {l : Nat} {env : Env} (hk : env.scope.kind = .function) (hy : env.scope.names.lookup y = some .cell) : swapsWith (.ListComp elt gs scope pos) (some (.Name y py)) l env = pure false := by
  have ky : env.kindOf y = some .cell := hy
  have hb : env.blockKind = .function := by unfold Env.blockKind; rw [hk]; rfl
  unfold swapsWith
  simp only [hb, ky]
  rfl
theorem cStarT_ok (h : XOk X W G cv c) {n : Nat} : ∀ {es : List Expr} {p : Tg × Nat}, cStarT n c es = some p → TGst X es p.1 p.2 ∧ (assignEach es X.env).length = tgN p.1 + 1 ∧ (assignEach es X.env).findIdx? (·.1) = some (tgN p.1)
  | [], p, q => by cases q
  | e :: es, p, q => by
    unfold cStarT at q
    split at q
    · obtain ⟨h1, q⟩ := og_some q
      rw [Bool.and_eq_true] at h1
      obtain ⟨i, h3, rfl⟩ := Option.map_eq_some_iff.mp q
      exact ⟨tgst_nil h.nd (h.ix h3) (h.loc h1.1) (h.fn _ h1.1), rfl, rfl⟩
    · obtain ⟨h1, q⟩ := og_some q
      obtain ⟨a, b, h3, h4, rfl⟩ := o2_some q
      obtain ⟨b1, b2, b3⟩ := cStarT_ok h h4
      have e1 : assignEach (e :: es) X.env = (false, assign e X.env) :: assignEach es X.env := by cases e <;> first | rfl | cases h1
      refine ⟨tgst_cons h1 (cTg_ok h h3).1 b1, ?_, ?_⟩
      · rw [e1, List.length_cons, b2]; rfl
      · rw [e1, List.findIdx?_cons, b3]; rfl
theorem cStar_ok (h : XOk X W G cv c) {n : Nat} {tg e : Expr} {pos : Pos} {x : S} (q : cStar n c tg e = some x) : SS X W G cv (.Assign [tg] e pos) x := by
  have iE := (comp_ok cv G n).1 X W c h
  unfold cStar at q
  split at q
  · rename_i es k p
    obtain ⟨h0, q⟩ := og_some q
    simp only [Bool.and_eq_true] at h0
    obtain ⟨hh, h0⟩ := h0
    obtain ⟨a, b, h3, h4, rfl⟩ := o2_some q
    obtain ⟨b1, b2, b3⟩ := cStarT_ok h h3
    exact ss_star (h.calm (by simpa using hh)) (notComp_sole h0.1) (noSwap (by rw [h0.2, Bool.or_true])) b2 b3 b1 rfl (iE _ _ h4)
  · cases q
theorem cU_ok (h : XOk X W G cv c) {n : Nat} : ∀ {ts : List Expr} {u : DI.X}, cU n c ts = some u → TGu X G cv ts u ∧ xN u = ts.length
  | [], u, q => by cases q; exact ⟨tgu_nil, rfl⟩
  | e :: r, u, q => by
    unfold cU at q
    split at q
    · obtain ⟨h0, q⟩ := og_some q
      rw [Bool.and_eq_true] at h0
      obtain ⟨i, w, h1, h2, rfl⟩ := o2_some q
      obtain ⟨a1, a2⟩ := cU_ok h h2
      exact ⟨tgu_n h.nd (h.ix h1) (h.loc h0.1) (h.fn _ h0.1) a1, by simp only [xN, a2, List.length_cons]⟩
    · rename_i _ x px ix ps
      obtain ⟨h0, q⟩ := og_some q
      simp only [Bool.and_eq_true] at h0
      obtain ⟨⟨c2, c3⟩, c4⟩ := h0
      obtain ⟨i, p, h1, h2, rfl⟩ := o2_some q
      obtain ⟨xi, w, h3, h4, rfl⟩ := o2_some h2
      obtain ⟨d1, d2, d3⟩ := nodb_ok c3
      obtain ⟨a1, a2⟩ := cU_ok h h4
      have iE := (comp_ok cv G n).1 X W c h
      refine ⟨tgu_i (pg_sub (pe_var (h.ix h1) (h.vis c2) d1 d2) pe_p set_list ?_) (iE _ _ h3) a1, by simp only [xN, a2, List.length_cons]⟩
      intro v
      cases ix <;> first | rfl | cases c4
    · cases q
theorem cUnp_ok (h : XOk X W G cv c) {n : Nat} {tg e : Expr} {pos : Pos} {x : S} (q : cUnp n c tg e = some x) : SS X W G cv (.Assign [tg] e pos) x := by
  have iE := (comp_ok cv G n).1 X W c h
  unfold cUnp at q
  split at q
  · rename_i ts k p vs k2 p2
    obtain ⟨h0, q⟩ := og_some q
    simp only [Bool.and_eq_true] at h0
    obtain ⟨⟨⟨⟨hh, c1⟩, c2⟩, c3⟩, c4⟩ := h0
    obtain ⟨u, xx, h1, h2, rfl⟩ := o2_some q
    obtain ⟨a1, a2⟩ := cU_ok h h1
    have hs : swp c.sc ts vs = some none := by
      split at c4
      · assumption
      · cases c4
    exact ss_unp (h.calm (by simpa using hh)) c3 (tupT_sole rfl) (swp_ok h.sc (isFun_ok c1) hs) a1 a2 (iE _ _ h2)
  · cases q
theorem cPick_ok (h : XOk X W G cv c) {n : Nat} {tg e : Expr} {pos : Pos} {x : S} (q : cPick n c tg e = some x) : SS X W G cv (.Assign [tg] e pos) x := by
  have iE := (comp_ok cv G n).1 X W c h
  unfold cPick at q
  split at q
  · split at q
    · rename_i tbl hl
      obtain ⟨h0, q⟩ := og_some q
      simp only [Bool.and_eq_true] at h0
      obtain ⟨⟨c1, c2⟩, ⟨c3, c4⟩, c5⟩ := h0
      obtain ⟨i, xx, h1, h2, rfl⟩ := o2_some q
      exact ss_pickf h.nd (h.ix h1) (h.loc c1) (h.fn _ c1) (notComp_sole rfl) (noSwap rfl) (h.gl c3) (nodb_ok c4).1 c5 (h.dic _ _ hl) (iE _ _ h2)
    · cases q
  · cases q
theorem cAsg_ok (h : XOk X W G cv c) {n : Nat} {tg e : Expr} {pos : Pos} {x : S} (q : cAsg n c tg e pos = some x) : SS X W G cv (.Assign [tg] e pos) x := by
  have iE := (comp_ok cv G n).1 X W c h
  unfold cAsg at q
  split at q
  · rename_i y py elt tg' iter ifs scope cpos
    split at q
    · rename_i hcell
      have hcell := beq_iff_eq.mp hcell
      obtain ⟨h0, q⟩ := og_some q
      simp only [Bool.and_eq_true] at h0
      obtain ⟨i, xx, h1, h2, rfl⟩ := o2_some q
      exact ss_asg (sw_false (l := pos.line) (by rw [h.sc]; exact isFun_ok h0.1.1) (by rw [h.sc]; exact hcell)) (noSwap rfl) rfl (iE _ _ h2) (trO_n h.nd (h.ix h1) (h.loc h0.2) (h.fn _ h0.2))
    obtain ⟨h0, q⟩ := og_some q
    simp only [Bool.and_eq_true, Bool.not_eq_true'] at h0
    obtain ⟨⟨⟨⟨⟨c1, c0⟩, c2⟩, c3⟩, c4⟩, c5⟩ := h0
    obtain ⟨i, xx, h1, h2, rfl⟩ := o2_some q
    have ly : c.sc.names.lookup y = some .local := by simpa using c5
    match n, h2 with
    | n + 1, h2 =>
      unfold cE at h2
      simp only at h2
      split at h2
      · rename_i p hp
        obtain ⟨h0, q⟩ := og_some h2
        simp only [Bool.and_eq_true] at h0
        obtain ⟨hh, h0⟩ := h0
        rw [Option.isNone_iff_eq_none.mp c0] at q
        obtain ⟨xi, r, h3, h4, rfl⟩ := o2_some q
        obtain ⟨xc, xe, h5, h6, rfl⟩ := o2_some h4
        obtain ⟨ihE, ihT, ihI, ihK⟩ := comp_ok cv G n
        have bo : BlkOk X.N X.env.scope scope p.2 := by rw [h.N, h.sc]; exact blkOk_by h0.1
        exact ss_setc (h.calm (by simpa using hh)) h.nd (h.ix h1) (by rw [h.sc]; exact ly) (sw_true (by rw [h.sc]; exact isFun_ok c1) (by rw [h.sc]; exact ly) c3 c4) bo (cTg_tgs hp) (notSet_ok h0.2) (ihI X W c h _ _ _ _ id h3) (fun s H C cl fp => (cTg_ok (h.inBlk scope s H C cl fp) hp).1)
          (fun s H C cl fp => ihK _ _ (h.inBlk scope s H C cl fp) _ _ h5) (fun s H C cl fp => ihE _ W0 _ (h.inBlk scope s H C cl fp) _ _ h6)
      · cases h2
  · rename_i _ _ nm px ix ps
    obtain ⟨h0, q⟩ := og_some q
    simp only [Bool.and_eq_true] at h0
    obtain ⟨⟨⟨c1, c2⟩, c3⟩, c4⟩ := h0
    obtain ⟨i, p, h1, h2, rfl⟩ := o2_some q
    obtain ⟨xi, xe, h3, h4, rfl⟩ := o2_some h2
    obtain ⟨d1, d2, d3⟩ := nodb_ok c3
    refine ss_sidx (h.ix h1) (h.vis c2) d1 d2 (pg_sub (pe_var (h.ix h1) (h.vis c2) d1 d2) pe_p set_list ?_) (notComp_sole c1) (iE _ _ h4) (iE _ _ h3)
    intro v
    cases ix <;> first | rfl | cases c4
  · rename_i ts k p vs k2 p2
    obtain ⟨h0, q⟩ := og_some q
    rw [Bool.and_eq_true] at h0
    obtain ⟨hh, h0⟩ := h0
    have hcalm := h.calm (by simpa using hh)
    have kf : X.env.scope = c.sc := h.sc
    split at q
    · rename_i hs
      obtain ⟨t, xx, h1, h2, rfl⟩ := o2_some q
      have tok := (cTg_ok h h1).1
      have nn : ∀ i, t.1 ≠ .n i := fun i z => by
        match n, h1 with
        | n + 1, h1 =>
          unfold cTg at h1
          simp only at h1
          obtain ⟨_, h1⟩ := og_some h1
          obtain ⟨r, _, e⟩ := Option.map_eq_some_iff.mp h1
          rw [← e] at z; cases z
      exact ss_asg rfl (swp_ok kf (isFun_ok h0) hs) rfl (iE _ _ h2) (trO_t nn tok)
    · rename_i names hs
      split at q
      · split at q
        · obtain ⟨h1, q⟩ := og_some q
          simp only [Bool.and_eq_true, decide_eq_true_eq] at h1
          obtain ⟨⟨na, nb⟩, ⟨⟨e1, e0⟩, e2⟩, e3⟩ := h1
          obtain ⟨i, p, h2, h3, rfl⟩ := o2_some q
          obtain ⟨i1, i2, h4, h5, rfl⟩ := o2_some h2
          obtain ⟨xa, xb, h6, h7, rfl⟩ := o2_some h3
          subst e1
          have l1 := beq_iff_eq.mp e2
          have l2 := beq_iff_eq.mp e3
          exact ss_par2o hcalm h.nd (h.ix h4) (h.ix h5) (ix_ne h4 h5 e0) (by rw [h.sc]; exact l1) (by rw [h.sc]; exact l2) na nb (iE _ _ h6) (iE _ _ h7) (swp_ok kf (isFun_ok h0) hs)
        obtain ⟨h1, q⟩ := og_some q
        simp only [Bool.and_eq_true, decide_eq_true_eq] at h1
        obtain ⟨⟨⟨e1, e0⟩, e2⟩, e3⟩ := h1
        obtain ⟨i, xs, h2, h3, rfl⟩ := o2_some q
        obtain ⟨i1, i2, h4, h5, rfl⟩ := o2_some h2
        subst e1
        have l1 := beq_iff_eq.mp e2
        have l2 := beq_iff_eq.mp e3
        exact ss_par2 hcalm h.nd (h.ix h4) (h.ix h5) (ix_ne h4 h5 e0) (by rw [h.sc]; exact l1) (by rw [h.sc]; exact l2) (cArgs_sal iE h3) (swp_ok kf (isFun_ok h0) hs)
      · obtain ⟨h1, q⟩ := og_some q
        simp only [Bool.and_eq_true, decide_eq_true_eq] at h1
        obtain ⟨⟨⟨⟨⟨⟨e1, n1⟩, n2⟩, n3⟩, e2⟩, e3⟩, e4⟩ := h1
        obtain ⟨i, xs, h2, h3, rfl⟩ := o2_some q
        obtain ⟨i1, ir, h4, h5, rfl⟩ := o2_some h2
        obtain ⟨i2, i3, h6, h7, rfl⟩ := o2_some h5
        subst e1
        exact ss_par3 hcalm h.nd (h.ix h4) (h.ix h6) (h.ix h7) (ix_ne h4 h6 n1) (ix_ne h4 h7 n2) (ix_ne h6 h7 n3) (by rw [h.sc]; exact beq_iff_eq.mp e2) (by rw [h.sc]; exact beq_iff_eq.mp e3) (by rw [h.sc]; exact beq_iff_eq.mp e4) (cArgs_sal iE h3) (swp_ok kf (isFun_ok h0) hs)
      · cases q
    · cases q
  · rename_i tg e hh1 hh2 hh3
    obtain ⟨h0, q⟩ := og_some q
    simp only [Bool.and_eq_true] at h0
    obtain ⟨⟨c1, c2⟩, c3⟩ := h0
    obtain ⟨t, xx, h1, h2, rfl⟩ := o2_some q
    have tok := (cTg_ok h h1).1
    refine ss_asg ((Bool.or_eq_true_iff.mp c1).elim (fun z => notComp_sole z) (fun z => tupT_sole z)) (noSwap c3) (asgOne c2) (iE _ _ h2) ?_
    match n, h1 with
    | n + 1, h1 =>
      unfold cTg at h1
      split at h1
      · obtain ⟨b1, b2⟩ := og_some h1
        rw [Bool.and_eq_true] at b1
        obtain ⟨i, h3, rfl⟩ := Option.map_eq_some_iff.mp b2
        exact trO_n h.nd (h.ix h3) (h.loc b1.1) (h.fn _ b1.1)
      · obtain ⟨b1, b2⟩ := og_some h1
        obtain ⟨r, h3, rfl⟩ := Option.map_eq_some_iff.mp b2
        exact trO_t (fun i z => by cases z) tok
      · cases h1
theorem cHs_ok (h : XOk X W G cv c) {f : List Stmt → Option S} (hf : ∀ (a : Addr) (pn : List (Addr × Obj)) su s, f su = some s → SSs (X.suite a pn) W0 G cv su s) : ∀ {hds : List ExceptHandler} {x : S}, cHs f c hds = some x → HdOk X G cv hds x
  | [], x, q => by cases q; exact .nil
  | hd :: r, x, q => by
    unfold cHs at q
    split at q
    · obtain ⟨h0, q⟩ := og_some q
      rw [Bool.and_eq_true] at h0
      obtain ⟨tb, p, h1, h2, rfl⟩ := o2_some q
      obtain ⟨s, r', h3, h4, rfl⟩ := o2_some h2
      obtain ⟨u, m1, m2⟩ := h.exm _ _ h1
      exact .one ⟨h.gl h0.1, (nodb_ok h0.2).1, m1⟩ m2 (fun a pn => hf a pn _ _ h3) (cHs_ok h hf h4)
    · obtain ⟨h0, q⟩ := og_some q
      simp only [Bool.and_eq_true] at h0
      obtain ⟨⟨g1, g2⟩, g3⟩ := h0
      obtain ⟨tb, p, h1, h2, rfl⟩ := o2_some q
      obtain ⟨i, w, h5, h6, rfl⟩ := o2_some h2
      obtain ⟨s, r', h3, h4, rfl⟩ := o2_some h6
      obtain ⟨u, m1, m2⟩ := h.exm _ _ h1
      refine .as ⟨h.gl g1, (nodb_ok g2).1, m1⟩ (h.ix h5) ?_ m2 (fun a pn => hf a pn _ _ h3) (cHs_ok h hf h4)
      show X.env.scope.names.lookup _ = some .local
      rw [h.sc]; exact beq_iff_eq.mp g3
    · cases q
end
section
variable {G : Nat → Fn} {cv : CV}
theorem cS_ok : ∀ {n : Nat} {X : Cx} {W : WX} {c : Ct} (h : XOk X W G cv c) {st : Stmt} {x : S}, cS n c st = some x → SS X W G cv st x
  | 0, _, _, _, _, _, _, q => by cases q
  | n + 1, X, W, c, h, st, x, q => by
    obtain ⟨ihE, ihT, ihI, _⟩ := comp_ok cv G n
    have iE := ihE X W c h
    have iT := ihT X W c h
    have iS : ∀ st x, cS n c st = some x → SS X W G cv st x := fun st x q => cS_ok (n := n) h q
    unfold cS at q
    split at q
    · cases q; exact ss_pass
    · cases q; exact ss_break
    · cases q; exact ss_cont
    · cases q; exact ss_retN
    · obtain ⟨x, h1, rfl⟩ := Option.map_eq_some_iff.mp q
      exact ss_ret (iE _ _ h1)
    · split at q
      · rename_i hl
        obtain ⟨h0, q⟩ := og_some q
        cases q
        simp only [Bool.and_eq_true] at h0
        obtain ⟨hh, h0⟩ := h0
        obtain ⟨C, e1, e2, e3, e4, e5⟩ := (h.exc _ _ hl).ex
        exact ss_rais (h.calm (by simpa using hh)) h.tk e1 e2 e3 e4 e5 (h.gl h0.1) (nodb_ok h0.2).1
      · cases q; exact ss_nev
    · cases q; exact ss_nev
    · split at q
      · rename_i hm
        obtain ⟨h0, q⟩ := og_some q
        simp only [Bool.and_eq_true] at h0
        obtain ⟨⟨⟨c2, c3⟩, c4⟩, c5⟩ := h0
        obtain ⟨i, xa, h1, h2, rfl⟩ := o2_some q
        obtain ⟨d1, d2, d3⟩ := nodb_ok c3
        have e0 := beqS hm
        subst e0
        exact ss_ext (h.ix h1) (h.vis c2) d1 d2 c4 c5 (iE _ _ h2)
      obtain ⟨h0, q⟩ := og_some q
      simp only [Bool.and_eq_true] at h0
      obtain ⟨⟨⟨⟨c1, c2⟩, c3⟩, c4⟩, c5⟩ := h0
      obtain ⟨i, xa, h1, h2, rfl⟩ := o2_some q
      obtain ⟨d1, d2, d3⟩ := nodb_ok c3
      have e0 := beqS c1
      subst e0
      exact ss_app (h.ix h1) (h.vis c2) d1 d2 c4 c5 (sal_cons c4 (iE _ _ h2) sal_nil)
    · obtain ⟨h0, q⟩ := og_some q
      simp only [Bool.and_eq_true] at h0
      obtain ⟨⟨⟨⟨⟨c1, c2⟩, c3⟩, c4⟩, c6⟩, c5⟩ := h0
      obtain ⟨i, p, h1, h2, rfl⟩ := o2_some q
      obtain ⟨xa, xb, h3, h4, rfl⟩ := o2_some h2
      obtain ⟨d1, d2, d3⟩ := nodb_ok c3
      have e0 := beqS c1
      subst e0
      exact ss_ins (h.ix h1) (h.vis c2) d1 d2 c4 c6 c5 (sal_cons c4 (iE _ _ h3) (sal_cons c6 (iE _ _ h4) sal_nil))
    · obtain ⟨h0, q⟩ := og_some q
      obtain ⟨x, h1, rfl⟩ := Option.map_eq_some_iff.mp q
      exact ss_expr (notComp_ok h0) (iE _ _ h1)
    · split at q
      · rename_i h1
        cases q
        exact cPick_ok h h1
      split at q
      · rename_i h1
        cases q
        exact cStar_ok h h1
      · split at q
        · rename_i h1
          cases q
          exact cUnp_ok h h1
        · exact cAsg_ok h q
    · obtain ⟨h0, q⟩ := og_some q
      rw [Bool.and_eq_true] at h0
      obtain ⟨t, p, h1, h2, rfl⟩ := o2_some q
      obtain ⟨u, xe, h3, h4, rfl⟩ := o2_some h2
      refine ss_asg2 noSwap2 ?_ (iE _ _ h4) (cTg_ok h h1).1 (cTg_ok h h3).1
      have z1 : ∀ {t : Expr} {ts : List Expr}, nost t = true → assignEach (t :: ts) X.env = (false, assign t X.env) :: assignEach ts X.env := fun {t ts} z => by cases t <;> first | rfl | cases z
      rw [z1 h0.1, z1 h0.2]; rfl
    · obtain ⟨h0, q⟩ := og_some q
      simp only [Bool.and_eq_true, Bool.or_eq_true] at h0
      obtain ⟨i, xe, h1, h2, rfl⟩ := o2_some q
      refine ss_aug h.nd (h.ix h1) (h.loc h0.1.1) (h.fn _ h0.1.1) (iE _ _ h2) ?_
      rcases h0.2 with (z | z) | z
      · exact .inl (by simpa using z)
      · exact .inr (.inl (by simpa using z))
      · exact .inr (.inr (by simpa using z))
    · obtain ⟨h0, q⟩ := og_some q
      rw [Bool.and_eq_true] at h0
      obtain ⟨t, p, h1, h2, rfl⟩ := o2_some q
      obtain ⟨xi, sb, h3, h4, rfl⟩ := o2_some h2
      exact ss_for h.po (h.calm (by simpa using h0.1)) (notSet_ok h0.2) (ihI X W c h _ _ _ _ id h3) (cTg_ok h h1).1 (cSs_ok iS h4)
    · obtain ⟨xc, sb, h1, h2, rfl⟩ := o2_some q
      exact ss_while h.po (iT _ _ h1) (cSs_ok iS h2)
    · obtain ⟨xc, p, h1, h2, rfl⟩ := o2_some q
      obtain ⟨sa, sb, h3, h4, rfl⟩ := o2_some h2
      exact ss_if (iT _ _ h1) (cSs_ok iS h3) (cSs_ok iS h4)
    · obtain ⟨h0, q⟩ := og_some q
      rw [Bool.and_eq_true] at h0
      obtain ⟨a, hd, h1, h2, rfl⟩ := o2_some q
      obtain ⟨t1, t2, t3⟩ := h.top h0.1
      exact ss_tri t1 t2 h.nd t3 h.tk (fun W' pn xe t p => cSs_ok (fun st x q => cS_ok (n := n) (h.tr t p) q) h1) (cHs_ok h (fun a pn su s q => cSs_ok (fun st x q => cS_ok (n := n) (h.sui a pn) q) q) h2)
    · cases q
/-- a def's body, compiled -/
def cBody (n : Nat) (c : Ct) (b : List Stmt) : Option S := cSs (cS n c) b
end
end DI
namespace DI
open PySem L2
open PyProof.Rows hiding St
/-- the kept lists' contents behind a body -/
def finOf : List SV → En → List (List D)
  | .io _ :: ss, s :: e => (match s with
    | some (.io ds) => ds
    | _ => []) :: finOf ss e
  | _ :: ss, _ :: e => finOf ss e
  | _, _ => []
/-- a promise that a step leaves as it is -/
inductive Done (p : Prop) : Prop
  | mk (h : p)
  | or (h : p)
theorem Done.out {p : Prop} : Done p → p
  | .mk h => h
  | .or h => h
/-- the body does what the def promises -/
def Ver (G : Nat → Fn) (f : Fn) (np N : Nat) (body : S) : Prop := ∀ a, f.pre a → (f.args a).length = np ∧ wS G body (fun c e => f.ex a c (finOf (f.args a) e)) ((f.args a).map some ++ List.replicate (N - np) none)
  (fun o e => match o with
    | .rt r => Done (f.post a r (finOf (f.args a) e))
    | .nx => Done (f.post a (.v .none) (finOf (f.args a) e))
    | _ => False)
theorem mem_ioA {K : Fg} {H F : Hp} : ∀ {vs : List L2.V} {ss : List SV} {i : Nat} {p : Addr} {ds : List D}, Paired (ArgOk K H F) vs ss → ss[i]? = some (.io ds) → vs[i]? = some (.ref p) → p ∈ ioA vs ss
  | _, _, _, _, _, .nil, h, _ => by simp at h
  | _, _, 0, p, ds, .cons a t, h1, h2 => by
    simp at h1 h2; subst h1 h2
    exact List.mem_cons_self
  | x :: _, sv :: _, i + 1, p, ds, .cons a t, h1, h2 => by
    have m := mem_ioA (i := i) t (by simpa using h1) (by simpa using h2)
    cases x <;> cases sv <;> simp only [ioA] <;> first | exact m | exact List.mem_cons_of_mem _ m
theorem inj_ioA {K : Fg} {H F : Hp} : ∀ {vs : List L2.V} {ss : List SV} {i j : Nat} {p : Addr} {d1 d2 : List D}, Paired (ArgOk K H F) vs ss → (ioA vs ss).Nodup → ss[i]? = some (.io d1) → vs[i]? = some (.ref p) → ss[j]? = some (.io d2) → vs[j]? = some (.ref p) → i = j
  | _, _, _, _, _, _, _, .nil, _, h, _, _, _ => by simp at h
  | _, _, 0, 0, _, _, _, _, _, _, _, _, _ => rfl
  | _, _, 0, j + 1, p, d1, d2, .cons a t, nd, h1, h2, h3, h4 => by
    simp at h1 h2; subst h1 h2
    have m := mem_ioA (i := j) t (by simpa using h3) (by simpa using h4)
    exact absurd m (List.nodup_cons.mp nd).1
  | _, _, i + 1, 0, p, d1, d2, .cons a t, nd, h1, h2, h3, h4 => by
    simp at h3 h4; subst h3 h4
    have m := mem_ioA (i := i) t (by simpa using h1) (by simpa using h2)
    exact absurd m (List.nodup_cons.mp nd).1
  | x :: vs, sv :: ss, i + 1, j + 1, p, d1, d2, .cons a t, nd, h1, h2, h3, h4 => by
    have nd' : (ioA vs ss).Nodup := by
      cases x <;> cases sv <;> simp only [ioA] at nd <;> first | exact nd | exact (List.nodup_cons.mp nd).2
    exact congrArg (· + 1) (inj_ioA (i := i) (j := j) t nd' (by simpa using h1) (by simpa using h2) (by simpa using h3) (by simpa using h4))
theorem fin_ok {K : Fg} {H F H' F' : Hp} : ∀ {vs : List L2.V} {ss : List SV} {e : En}, Paired (ArgOk K H F) vs ss →
    (∀ (i : Nat) (p : Addr) (ds : List D), ss[i]? = some (.io ds) → vs[i]? = some (.ref p) → ∃ ds' xs, e[i]? = some (some (SV.io ds')) ∧ F' p = none ∧ H' p = some (.lst xs) ∧ RepL K F' xs ds') → ss.length ≤ e.length →
    Paired (fun p ds => F' p = none ∧ ∃ xs, H' p = some (.lst xs) ∧ RepL K F' xs ds) (ioA vs ss) (finOf ss e)
  | _, _, _, .nil, _, _ => by cases ‹En› <;> exact .nil
  | x :: _, sv :: ss, [], .cons a t, h, hl => by simp at hl
  | x :: vs, sv :: ss, s :: e, .cons a t, h, hl => by
    have tl := fin_ok (e := e) t (fun i p ds h1 h2 => h (i + 1) p ds (by simpa using h1) (by simpa using h2)) (by simpa using hl)
    cases sv with
    | v d => cases x <;> simpa only [ioA, finOf] using tl
    | own d => exact a.elim
    | th d => exact a.elim
    | fn d => exact a.elim
    | io d =>
      obtain ⟨q, xs, rfl, _⟩ := a
      obtain ⟨ds', ys, e1, e2, e3, e4⟩ := h 0 q d rfl rfl
      simp at e1
      subst e1
      simp only [ioA, finOf]
      exact .cons ⟨e2, ys, e3, e4⟩ tl
/-- what is known of a class that is raised -/
structure ExcG (K : Fg) (mg : Str → Option Value) (cv : CV) (x : Str) (code : Nat) : Prop where
  ex : ∃ C : Addr, cv code = .ref C ∧ mg x = some (.ref C) ∧ PySem.W.excIn K C [.type "ValueError", .type "Exception", .type "BaseException", .type "object"] "ValueError.__new__" = true ∧ PySem.W.keepIn K (.ref C) = true ∧
    PySem.W.subIn K (.ref C) (.type "BaseException") = some true ∧ PySem.W.typeIn K (.ref C) = some (.type "type")
/-- what a class's name tells of held exceptions -/
structure IsxG (K : Fg) (mg : Str → Option Value) (cx : Str) (tbl : List (Str × Bool)) : Prop where
  ex : ∃ (E : L2.V) (u : Value), (∀ v, RelV E v → v = u) ∧ ((∃ A : Addr, E = .ref A ∧ mg cx = some (.ref A)) ∨ ∃ t : String, E = .ty t ∧ mg cx = none ∧ bootBuiltins cx = some (.type t) ∧ cx ≠ ("__name__" : Str)) ∧ ∀ n b, tbl.lookup n = some b → ∃ C : Addr, ClsN K n C ∧ ExcC K C ∧ PySem.W.kitOne K (.ref C) u = some b
/-- a dict of the module: by text keys defs, told by their names -/
structure DicG (K : Fg) (w : World) (mg : Str → Option Value) (x : Str) (tbl : List (Str × Str)) : Prop where
  ex : ∃ A : Addr, mg x = some (.ref A) ∧ ∀ z n, tbl.lookup z = some n → ∃ f : Addr, KDct K w A z (.ref f) ∧ PySem.W.nsIn K mainGlobals n = some (some (.ref f))
/-- a dict of the module: by text keys constants -/
structure KonG (K : Fg) (w : World) (mg : Str → Option Value) (x : Str) (tbl : List (Str × D)) : Prop where
  ex : ∃ A : Addr, mg x = some (.ref A) ∧ ∀ z d, tbl.lookup z = some d → ∃ v : L2.V, KDct K w A z v ∧ Rep K (fun _ => none) v d
/-- what is known of the classes that a clause names -/
structure TabG (K : Fg) (mg : Str → Option Value) (cv : CV) (x : Str) (tb : List (Nat × Option Str)) : Prop where
  ex : ∃ u, (mg x = some u ∨ mg x = none ∧ bootBuiltins x = some u ∧ x ≠ ("__name__" : Str)) ∧ ∀ c on, tb.lookup c = some on → ∃ C : Addr, cv c = .ref C ∧ PySem.W.exmOne K (.ref C) u = some on.isSome ∧ ∀ n, on = some n → ClsN K n C
theorem lk_nil {κ α : Type} [BEq κ] {P : κ → α → Prop} : ∀ x a, ([] : List (κ × α)).lookup x = some a → P x a := fun _ _ h => nomatch h
theorem lk_cons {κ α : Type} [BEq κ] [LawfulBEq κ] {P : κ → α → Prop} {y : κ} {b : α} {l : List (κ × α)} (h : P y b) (t : ∀ x a, l.lookup x = some a → P x a) : ∀ x a, ((y, b) :: l).lookup x = some a → P x a := fun x a e => by
  rw [List.lookup_cons] at e
  cases q : x == y with
  | true =>
    rw [q] at e
    have z := eq_of_beq q
    subst z
    cases e
    exact h
  | false => rw [q] at e; exact t x a e
/-- what is known of a def that may be handed a lambda, in the def whose code object's table is told -/
structure LamG (P : Program) (w : World) (K : Fg) (mg : Str → Option Value) (base : Heap) (cv : CV) (G : Nat → Fn) (k : Nat) (code : Value) (qual : Str) (shp : List Shape) (x : Str) (id : Nat) : Prop where
  ex : ∃ (g cX T : Addr) (j : Nat), mg x = some (.ref g) ∧ PySem.W.keepIn K (.ref g) = true ∧ j + 2 ≤ k ∧ FnL P w K mg base cv (j + 1) g (G id) ∧ LamX.TabB base mg cX T ∧ code = .ref cX ∧ (T, qual ++ ".<locals>." ++ "<lambda>") ∈ cv.T ∧
    (∀ p ∈ cv.T, p.1 = T → p.2 = qual ++ ".<locals>." ++ "<lambda>") ∧ ∀ sh ∈ shp, CallG P w K mg base cv G j sh
/-- the same of one that may be handed a lambda that changes a list -/
structure LamGP (P : Program) (w : World) (K : Fg) (mg : Str → Option Value) (base : Heap) (cv : CV) (G : Nat → Fn) (k : Nat) (code : Value) (qual : Str) (shp : List Shape) (x : Str) (id : Nat) : Prop where
  ex : ∃ (g cX T : Addr) (j : Nat), mg x = some (.ref g) ∧ PySem.W.keepIn K (.ref g) = true ∧ j + 2 ≤ k ∧ FnLP P w K mg base cv (j + 1) g (G id) ∧ LamX.TabB base mg cX T ∧ code = .ref cX ∧ (T, qual ++ ".<locals>." ++ "<lambda>") ∈ cv.T ∧
    (∀ p ∈ cv.T, p.1 = T → p.2 = qual ++ ".<locals>." ++ "<lambda>") ∧ ∀ sh ∈ shp, CallG P w K mg base cv G j sh
/-- THE RULE: a def of the text, by its compiled body -/
theorem fnG_of {P : Program} {w : World} {K : Fg} {mg : Str → Option Value} {base : Heap} {cv : CV} {G : Nat → Fn} {k n : Nat} {fa : Addr} {fd : FuncData} {x qual : Str} {st : Stmt} {N ps : List Str} {f : Fn} {c : Ct} {body : S}
    (U : Fun K x qual st fa fd) (SC : FnScope N ps (defScope st)) (hN : c.N = N) (hsc : c.sc = defScope st) (hblk : c.blk = false) (cb : cBody n c (defBody st) = some body) (ver : Ver G f ps.length N.length body)
    (con : ∀ x d, c.con.lookup x = some d → ∃ v u, mg x = some u ∧ RelV v u ∧ Rep K (fun _ => none) v d) (bn : ∀ x ∈ c.bn, mg x = none) (shp : ∀ sh ∈ c.shp, CallG P w K mg base cv G k sh)
    (exc : ∀ x code, c.exc.lookup x = some code → ExcG K mg cv x code := by exact fun x code h => absurd (show (none : Option Nat) = some code from h) (by simp))
    (isx : ∀ x tbl, c.isx.lookup x = some tbl → IsxG K mg x tbl := by exact fun x t h => absurd (show (none : Option _) = some t from h) (by simp))
    (exm : ∀ x tb, c.exm.lookup x = some tb → TabG K mg cv x tb := by exact fun x t h => absurd (show (none : Option _) = some t from h) (by simp))
    (dic : ∀ x tbl, c.dic.lookup x = some tbl → DicG K w mg x tbl := by exact fun x t h => absurd (show (none : Option _) = some t from h) (by simp))
    (kon : ∀ x tbl, c.kon.lookup x = some tbl → KonG K w mg x tbl := by exact fun x t h => absurd (show (none : Option _) = some t from h) (by simp))
    (fnn : ∀ n ∈ c.fnn, ∃ f : Addr, mg n = some (.ref f) ∧ PySem.W.nsIn K mainGlobals n = some (some (.ref f)) := by exact fun n m => absurd (show n ∈ ([] : List Str) from m) (by simp))
    (c0 : cv.F0 = (fun _ => none) ∧ cv.co = [] ∧ cv.ad = [] := by exact ⟨rfl, rfl, rfl⟩) (hthk : c.thk = none := by exact rfl)
    (lam : ∀ x id, c.lam.lookup x = some id → LamG P w K mg base cv G k fd.code qual c.shp x id := by exact fun x t h => absurd (show (none : Option _) = some t from h) (by simp))
    (lamP : ∀ x id, c.lam.lookup x = some id → ∀ pn, c.lamP.lookup x = some pn → LamGP P w K mg base cv G k fd.code qual c.shp x id := by exact fun x t _ pn h => absurd (show (none : Option _) = some pn from h) (by simp)) : FnG P w K mg base (k + 1) fa fd ps (spOf K cv f) := by
  have lenOf : ∀ vs H Q E, spOf K cv f vs H Q E → vs.length = ps.length := fun vs H Q E ⟨F, ss, _, _, _, p, _, a, e1, e2, _⟩ => by
    rw [p.length, e1]; exact (ver a e2).1
  refine ⟨lenOf, fun A outer s H args us vs Q E hg hr e0 hb rv hsp => ?_⟩
  obtain ⟨oc, od, kV, doc, pm, an, cdv, ct, osl, rfl, lk, hcd⟩ := U.ex
  have hvl := lenOf _ _ _ _ hsp
  have here : ∀ b o, base.get? b = some o → s.heap.get? b = some o := fun b o e => (e0.bs b o e).1
  have KX : K.In s.heap := e0.mod.kin.keeps here
  have kinds : ∀ y ∈ ps.zip us, (defScope st).names.lookup y.1 = some .local ∨ ((defScope st).names.lookup y.1 = some .cell ∧ ((cellsFrom (s.heap.objs.size + 1) (defScope st).names []).lookup y.1).isSome = true) := fun y hy =>
    (SC.par y.1 (List.of_mem_zip hy).1).imp id fun q => ⟨q, PySem.W.cellsFrom_some _ _ _ (.inl q)⟩
  refine codeAny_call_function hr.depth (KX _ _ lk) rfl SC.co SC.gen rfl (PySem.W.codeRec_of KX hcd) (hb _ _ _ _ (wpAny_newFunctionEnv_cells SC.kind kinds fun env he s1 ic => ?_))
  subst he
  refine ⟨(e0.mod.nolimit.keeps here).keeps ic.toInCall.keep, codeAny_func ?_⟩
  have I0 : Inv (cxOf (L2.CX P w) P w K mg base N qual (defScope st) fa cdv A outer s H E) [] (L2.start N vs) H s1 := inv_start SC hr.hd e0 hvl rv ic
  generalize hX : cxOf (L2.CX P w) P w K mg base N qual (defScope st) fa cdv A outer s H E = Y at I0
  have room : Room k Y.A := by subst hX; exact hr.deeper _
  have xok : XOk Y (fun cls d _ H' => E cls d H') G cv c := by
    subst hX
    refine ⟨hN.symm, SC.nd, hsc.symm, fun _ => rfl, ?_, ?_, fun x _ => .inl rfl, con, bn, fun sh m => ?_, fun x code e => ?_, fun x t e => ⟨(isx x t e).ex⟩, fun x t e => ?_, fun _ => ⟨rfl, rfl, rfl⟩, takes_of rfl rfl rfl rfl, passes_of rfl, fun x id e => ?_, fun x t e => ⟨(dic x t e).ex⟩, fun n m => ⟨fnn n m⟩, fun x t e => ⟨(kon x t e).ex⟩, fun a i e => (by rw [hthk] at e; cases e), fun x id e pn e2 => ?_⟩
    · exact hg
    · have r0 : Room k (A.deeper (envOfC qual (defScope st) s.heap.objs.size fa cdv)) := hr.deeper _
      have := r0.un
      show (A.deeper (envOfC qual (defScope st) s.heap.objs.size fa cdv)).units + 66 < cLine
      omega
    · obtain ⟨⟨a, fd, qs, j, dV, dU, m1, m2, m3, m4, m5, m6, m7⟩, l1, l2⟩ := shp sh m
      exact ⟨⟨a, fd, qs, j, dV, dU, m1, m2, m3, room.mono m4, m5, m6, m7⟩, l1, l2⟩
    · obtain ⟨C, h1, h2, h3, h4, h5, h6⟩ := (exc x code e).ex
      exact ⟨C, h1, h2, h3, h4, raises_own h5 h6⟩
    · obtain ⟨u, h1, h2⟩ := (exm x t e).ex
      exact ⟨u, h1, ⟨h2⟩⟩
    · obtain ⟨g, cX, T, j, l1, l2, l3, l4, l5, l6, l7, l8, l9⟩ := (lam x id e).ex
      exact ⟨g, cX, T, j, l1, l2, room.mono l3, l4, l5, l6, l7, l8, c0.2.1, l9⟩
    · obtain ⟨g, cX, T, j, l1, l2, l3, l4, l5, l6, l7, l8, l9⟩ := (lamP x id e pn e2).ex
      exact ⟨g, cX, T, j, l1, l2, room.mono l3, l4, l5, l6, l7, l8, c0.2.1, l9⟩
  have pK : Y.K = K := by subst hX; rfl
  have pE : Y.env = envOfC qual (defScope st) s.heap.objs.size fa cdv := by subst hX; rfl
  have run := cSs_ok (W := fun cls d _ H' => E cls d H') (fun st x => cS_ok xok (n := n)) cb
  obtain ⟨F, ss, hsub, hnf, htab, par, nd, a, rfl, hpre, hpost, hex⟩ := hsp
  obtain ⟨hlen, wb⟩ := ver a hpre
  have hNl : ps.length ≤ N.length := by have := congrArg List.length SC.pre; rw [List.length_take] at this; omega
  have getE : ∀ {i : Nat} {sv : SV}, ((f.args a).map some ++ List.replicate (N.length - ps.length) (none : Option SV))[i]? = some (some sv) → (f.args a)[i]? = some sv := fun {i sv} h => by
    by_cases hi : i < (f.args a).length
    · rw [List.getElem?_append_left (by simpa using hi), List.getElem?_map] at h
      cases z : (f.args a)[i]? with
      | none => rw [z] at h; cases h
      | some b => rw [z] at h; cases h; rfl
    · rw [List.getElem?_append_right (by simpa using hi), List.getElem?_replicate] at h
      split at h <;> cases h
  have getS : ∀ {i : Nat} {v : L2.V}, vs[i]? = some v → (L2.start N vs)[i]? = some (some v) := fun {i v} h => by
    unfold L2.start
    rw [List.getElem?_append_left (by simpa using lt_of_get h), List.getElem?_map, h]; rfl
  have getV : ∀ {i : Nat} {v : L2.V}, (L2.start N vs)[i]? = some (some v) → vs[i]? = some v := fun {i v} h => by
    unfold L2.start at h
    by_cases hi : i < vs.length
    · rw [List.getElem?_append_left (by simpa using hi), List.getElem?_map] at h
      cases z : vs[i]? with
      | none => rw [z] at h; cases h
      | some b => rw [z] at h; cases h; rfl
    · rw [List.getElem?_append_right (by simpa using hi), List.getElem?_replicate] at h
      split at h <;> cases h
  let B : AT := fun i => match vs[i]? with
    | some (.ref p) => p
    | _ => 0
  have ownIo : ∀ {i p}, Owns ((f.args a).map some ++ List.replicate (N.length - ps.length) (none : Option SV)) (L2.start N vs) i p → ∃ ds, (f.args a)[i]? = some (.io ds) ∧ vs[i]? = some (.ref p) := fun {i p} ⟨h1, ds, h2⟩ => by
    rcases h2 with h2 | h2
    · have h3 := getE h2
      obtain ⟨x, _, z⟩ := Paired.getR par h3
      exact z.elim
    · exact ⟨ds, getE h2, getV h1⟩
  have sta : Sta K cv B ((f.args a).map some ++ List.replicate (N.length - ps.length) none) (L2.start N vs) H F := by
    refine ⟨hsub, ?_, fun i sv h => ?_, fun i j p o1 o2 => ?_, htab, hnf, by rw [c0.1]; exact fun _ _ z => (nomatch z), by rw [c0.2.1]; exact fun p hp => absurd hp (by simp), by rw [c0.2.2]; exact fun p hp => absurd hp (by simp)⟩
    · unfold L2.start
      simp only [List.length_append, List.length_map, List.length_replicate, hlen, hvl]; omega
    · have h3 := getE h
      obtain ⟨x, hx, z⟩ := Paired.getR par h3
      cases sv with
      | v d => exact ⟨x, getS hx, z⟩
      | own d => exact z.elim
      | th d => exact z.elim
      | fn d => exact z.elim
      | io d =>
        obtain ⟨p, xs, rfl, z1, z2, z3⟩ := z
        have hB : B i = p := by show (match vs[i]? with | some (.ref p) => p | _ => 0) = p; rw [hx]
        show ∃ xs, _
        rw [hB]
        exact ⟨xs, getS hx, z1, z2, z3⟩
    · obtain ⟨d1, a1, a2⟩ := ownIo o1
      obtain ⟨d2, b1, b2⟩ := ownIo o2
      exact inj_ioA par nd a1 a2 b1 b2
  have fin : ∀ {e' : En} {σ' : L2.St} {H' F' : Hp}, Sta K cv B e' σ' H' F' → Go ((f.args a).map some ++ List.replicate (N.length - ps.length) none) (L2.start N vs) H F e' σ' H' F' → Fin K cv.T H F H' F' (ioA vs (f.args a)) (finOf (f.args a) e') := fun {e' σ' H' F'} s' g => by
    have out : ∀ {b}, b ∉ ioA vs (f.args a) → ∀ i, ¬ Owns ((f.args a).map some ++ List.replicate (N.length - ps.length) (none : Option SV)) (L2.start N vs) i b := fun {b} h i o => by
      obtain ⟨d, a1, a2⟩ := ownIo o
      exact h (mem_ioA par a1 a2)
    refine ⟨g.ext, s'.sub, fun b o h n t => g.frm b o h (out n) t, g.liv, fun b h1 h2 n => g.new b h1 h2 (out n), fin_ok par (fun i p ds h1 h2 => ?_) ?_, s'.sx.tab, s'.sx.nf⟩
    · have h3 : ((f.args a).map some ++ List.replicate (N.length - ps.length) (none : Option SV))[i]? = some (some (SV.io ds)) := by
        rw [List.getElem?_append_left (by simpa using lt_of_get h1), List.getElem?_map, h1]; rfl
      obtain ⟨ds', h4⟩ := g.iok i ds h3
      obtain ⟨xs, z1, z2, z3, z4⟩ := s'.slot i _ h4
      have hB : B i = p := by show (match vs[i]? with | some (.ref p) => p | _ => 0) = p; rw [h2]
      rw [hB] at z1 z2 z3
      exact ⟨ds', xs, h4, z2, z3, z4⟩
    · rw [← g.len]; simp only [List.length_append, List.length_map]; omega
  rw [← pK] at sta fin
  have hq := run _ B _ (L2.start N vs) H F _ { nx := fun _ H' => Q .non H', rt := Q } sta wb (fun cc e' σ' H' F' s' g r => hex cc _ r H' F' (by rw [← pK]; exact fin s' g)) (fun o e' σ' H' F' s' g q => by
    have fi := fin s' g
    rw [pK] at fi s'
    cases o with
    | nx => exact hpost (.v .none) _ q.out .non H' F' fi .non
    | bk => exact q.elim
    | ct => exact q.elim
    | rt r =>
      intro x hx
      rw [pK] at hx
      refine hpost r _ q.out x H' F' fi ?_
      cases r with
      | v d => exact hx
      | io d => exact hx
      | th d => exact hx
      | fn d => exact hx
      | own ds =>
        obtain ⟨p, xs, h1, h2, h3, h4, h5⟩ := hx
        refine ⟨p, xs, h1, h2, h3, h4, ?_⟩
        rcases h5 with h5 | ⟨i, d, h5, h6⟩
        · exact h5
        · have o1 : Owns e' σ' i p := ⟨h6, d, .inl h5⟩
          rcases g.own i p o1 with z | ⟨j, z⟩
          · exact z
          · obtain ⟨dj, a1, a2⟩ := ownIo z
            have h7 : ((f.args a).map some ++ List.replicate (N.length - ps.length) (none : Option SV))[j]? = some (some (SV.io dj)) := by
              rw [List.getElem?_append_left (by simpa using lt_of_get a1), List.getElem?_map, a1]; rfl
            obtain ⟨ds', h8⟩ := g.iok j dj h7
            obtain ⟨ys, z1, _⟩ := s'.slot j _ h8
            have hB : B j = p := by show (match vs[j]? with | some (.ref p) => p | _ => 0) = p; rw [a2]
            rw [hB] at z1
            have e := s'.dist i j p o1 ⟨z1, ds', .inr h8⟩
            subst e
            rw [h5] at h8; cases h8) [] s1 I0
  rw [pE] at hq
  have hP : model Y.prog Y.w = model P w := by subst hX; rfl
  have hA : Y.A = A.deeper (envOfC qual (defScope st) s.heap.objs.size fa cdv) := by subst hX; rfl
  have hxe : Y.xe = fun e s' => wpAny (model P w) (A.deeper (envOfC qual (defScope st) s.heap.objs.size fa cdv)) (leaving (envOfC qual (defScope st) s.heap.objs.size fa cdv) e) (fun _ s'' => L2.CX P w outer H s E e s'') (fun e' s'' => L2.CX P w outer H s E e' s'') s' := by subst hX; rfl
  rw [hP, hA, hxe] at hq
  refine wpAny_mono hq (fun fl s' hs => ?_) fun e s' hs => hs
  have done : ∀ {σ' : L2.St} {H' : Hp} {v : L2.V} {u : Value}, Inv Y [] σ' H' s' → RelV v u → Q v H' → CE outer P w H s Q u s' := fun {σ' H' v u} J r q => by
    subst hX
    exact ⟨v, H', J.os, J.bare, J.base, J.hok, r, q⟩
  cases fl with
  | ret u =>
    obtain ⟨v, σ', H', J, r, q⟩ := hs
    exact done J r q
  | next =>
    obtain ⟨σ', H', J, q⟩ := hs
    exact done (v := .non) (u := Value.none) J rfl q
  | brk =>
    obtain ⟨_, _, _, q⟩ := hs
    exact q.elim
  | cont =>
    obtain ⟨_, _, _, q⟩ := hs
    exact q.elim
/-- the body of a def that is handed a thunk does what is promised: S tells how the thunk may end -/
def VerL (G : Nat → Fn) (f : Fn) (N : Nat) (body : S) : Prop := ∀ (O : Oc → Prop) (Ps : SV → List (List D) → Prop) (Rs : Nat → List (List D) → Prop), (∀ o, O o → f.sp [.v (outD o)] Ps Rs) → ∀ a : Nat,
  wS (thG G O a) body (fun c _ => Rs c []) (some (.th a) :: List.replicate (N - 1) none) fun o e => match o with
    | .rt r => Done (Ps r [])
    | .nx => Done (Ps (.v .none) [])
    | _ => False
/-- a def that is handed a lambda -/
theorem fnL_of {P : Program} {w : World} {K : Fg} {mg : Str → Option Value} {base : Heap} {cv : CV} {G : Nat → Fn} {k n : Nat} {g : Addr} {fd : FuncData} {x qual : Str} {st : Stmt} {N : List Str} {a : Str} {f : Fn} {c : Ct} {body : S}
    (U : Fun K x qual st g fd) (SC : FnScope N [a] (defScope st)) (hN : c.N = N) (hsc : c.sc = defScope st) (hblk : c.blk = false) (cb : cBody n c (defBody st) = some body) (ver : VerL G f N.length body) (hthk : c.thk = some a) (hlam : c.lam = []) (had : nodb a = true)
    (hbind : ∀ (s : Shared) (u : Value), K.In s.heap → BindsTo s fd ⟨[u], []⟩ [(a, u)])
    (con : ∀ x d, c.con.lookup x = some d → ∃ v u, mg x = some u ∧ RelV v u ∧ Rep K (fun _ => none) v d) (bn : ∀ x ∈ c.bn, mg x = none) (shp : ∀ sh ∈ c.shp, CallG P w K mg base cv G k sh) (hid : ∀ sh ∈ c.shp, sh.id ≠ 9998)
    (exc : ∀ x code, c.exc.lookup x = some code → ExcG K mg cv x code := by exact fun x code h => absurd (show (none : Option Nat) = some code from h) (by simp))
    (isx : ∀ x tbl, c.isx.lookup x = some tbl → IsxG K mg x tbl := by exact fun x t h => absurd (show (none : Option _) = some t from h) (by simp))
    (exm : ∀ x tb, c.exm.lookup x = some tb → TabG K mg cv x tb := by exact fun x t h => absurd (show (none : Option _) = some t from h) (by simp)) 
    (hdic : c.dic = [] := by exact rfl) (hfnn : c.fnn = [] := by exact rfl) (hkon : c.kon = [] := by exact rfl) (hgho : c.gho = none := by exact rfl) : FnL P w K mg base cv k g f := by
  refine ⟨fun O Ps Rs hO A outer s H F0 fa c' q Q E hg hr e0 f1 f2 f3 hcc th hQ hE => ?_⟩
  obtain ⟨oc, od, kV, doc, pm, an, cdv, ct, osl, rfl, lk, hcd⟩ := U.ex
  have here : ∀ b o, base.get? b = some o → s.heap.get? b = some o := fun b o e => (e0.bs b o e).1
  have KX : K.In s.heap := e0.mod.kin.keeps here
  have kinds : ∀ y ∈ [a].zip [Value.ref fa], (defScope st).names.lookup y.1 = some .local ∨ ((defScope st).names.lookup y.1 = some .cell ∧ ((cellsFrom (s.heap.objs.size + 1) (defScope st).names []).lookup y.1).isSome = true) := fun y hy =>
    (SC.par y.1 (List.of_mem_zip hy).1).imp id fun q => ⟨q, PySem.W.cellsFrom_some _ _ _ (.inl q)⟩
  refine codeAny_call_function hr.depth (KX _ _ lk) rfl SC.co SC.gen rfl (PySem.W.codeRec_of KX hcd) (hbind s (.ref fa) KX _ _ _ _ (wpAny_newFunctionEnv_cells SC.kind kinds fun env he s1 ic => ?_))
  subst he
  refine ⟨(e0.mod.nolimit.keeps here).keeps ic.toInCall.keep, codeAny_func ?_⟩
  have I0 : Inv (cxOf (L2.CX P w) P w K mg base N qual (defScope st) g cdv A outer s H E) [] (L2.start N [.ref fa]) H s1 := inv_start SC hr.hd e0 rfl (.cons rfl .nil) ic
  have room : Room k (cxOf (L2.CX P w) P w K mg base N qual (defScope st) g cdv A outer s H E).A := hr.deeper _
  have xok : XOk (cxOf (L2.CX P w) P w K mg base N qual (defScope st) g cdv A outer s H E) (fun cls d _ H' => E cls d H') (thG G O fa) ⟨cv.val, cv.T, F0, [(c', q)], []⟩ c := by
    refine ⟨hN.symm, SC.nd, hsc.symm, fun _ => rfl, ?_, ?_, fun x _ => .inl rfl, con, bn, fun sh m => ?_, fun x code e => ?_, fun x t e => ⟨(isx x t e).ex⟩, fun x t e => ?_, fun _ => ⟨rfl, rfl, rfl⟩, takes_of rfl rfl rfl rfl, passes_of rfl, fun x id e => (by rw [hlam] at e; cases e), fun x t e => (by rw [hdic] at e; cases e), fun n m => (by rw [hfnn] at m; cases m), fun x t e => (by rw [hkon] at e; cases e), fun b i e1 e2 W' pn xe tk p1 p2 => ?_, fun x id e => (by rw [hlam] at e; cases e)⟩
    · exact hg
    · have := room.un
      show (A.deeper (envOfC qual (defScope st) s.heap.objs.size g cdv)).units + 66 < cLine
      have : (A.deeper (envOfC qual (defScope st) s.heap.objs.size g cdv)).units + 16 * k + 200 < cLine := this
      omega
    · rw [thG_ne (hid sh m)]
      obtain ⟨⟨b, fd, qs, j, dV, dU, m1, m2, m3, m4, m5, m6, m7⟩, l1, l2⟩ := shp sh m
      exact ⟨⟨b, fd, qs, j, dV, dU, m1, m2, m3, room.mono m4, m5, m6, m7⟩, l1, l2⟩
    · obtain ⟨C, h1, h2, h3, h4, h5, h6⟩ := (exc x code e).ex
      exact ⟨C, h1, h2, h3, h4, raises_own h5 h6⟩
    · obtain ⟨u, h1, h2⟩ := (exm x t e).ex
      exact ⟨u, h1, ⟨h2⟩⟩
    · rw [hthk] at e1
      cases e1
      have hX : c.actX i = .act i := by unfold Ct.actX; rw [hgho]
      rw [hX]
      have hv : Vis (defScope st) a := (SC.par a List.mem_cons_self).imp id .inl
      exact se_act (Y := (cxOf (L2.CX P w) P w K mg base N qual (defScope st) g cdv A outer s H E).tr pn xe) (k := k) (f := fa) (c' := c') (q := q) (S := O) (by have := ix_ok e2; rw [hN] at this; exact this) hv (nodb_ok had).1 (nodb_ok had).2.1 hg room tk rfl thG_at List.mem_cons_self th
  have run := cSs_ok (W := fun cls d _ H' => E cls d H') (fun st x => cS_ok xok (n := n)) cb
  have noOwn : ∀ {i p}, ¬ Owns (some (.th fa) :: List.replicate (N.length - 1) none) (L2.start N [.ref fa]) i p := fun {i p} ⟨_, ds, h⟩ => by
    cases i with
    | zero => rcases h with h | h <;> cases h
    | succ i =>
      rcases h with h | h
      all_goals
        rw [List.getElem?_cons_succ, List.getElem?_replicate] at h
        split at h <;> cases h
  have hNl : 1 ≤ N.length := by have := congrArg List.length SC.pre; rw [List.length_take] at this; simp only [List.length_cons, List.length_nil] at this; omega
  have sta : Sta K ⟨cv.val, cv.T, F0, [(c', q)], []⟩ (fun _ => 0) (some (.th fa) :: List.replicate (N.length - 1) none) (L2.start N [.ref fa]) H F0 := by
    refine ⟨f1, ?_, fun i sv h => ?_, fun i j p o => absurd o noOwn, f3, f2, .refl, fun p hp => ?_, fun p hp => absurd hp List.not_mem_nil⟩
    · unfold L2.start
      simp only [List.length_append, List.length_map, List.length_cons, List.length_nil, List.length_replicate]; omega
    · cases i with
      | zero => cases h; exact rfl
      | succ i =>
        rw [List.getElem?_cons_succ, List.getElem?_replicate] at h
        split at h <;> cases h
    · rw [List.mem_singleton] at hp
      subst hp
      exact hcc
  have fin : ∀ {e' : En} {σ' : L2.St} {H' F' : Hp}, Sta K ⟨cv.val, cv.T, F0, [(c', q)], []⟩ (fun _ => 0) e' σ' H' F' → Go (some (.th fa) :: List.replicate (N.length - 1) none) (L2.start N [.ref fa]) H F0 e' σ' H' F' → Fin K cv.T H F0 H' F' [] [] := fun {e' σ' H' F'} s' gg =>
    ⟨gg.ext, s'.sub, fun b o h _ t => gg.frm b o h (fun _ => noOwn) t, gg.liv, fun b h1 h2 _ => gg.new b h1 h2 fun _ => noOwn, .nil, s'.sx.tab, s'.sx.nf⟩
  have hq := run _ (fun _ => 0) _ (L2.start N [.ref fa]) H F0 _ { nx := fun _ H' => Q .non H', rt := Q } sta (ver O Ps Rs hO fa) (fun cc e' σ' H' F' s' gg r => hE cc H' F' r (fin s' gg)) (fun o e' σ' H' F' s' gg qq => by
    have fi := fin s' gg
    cases o with
    | nx => exact hQ (.v .none) .non H' F' qq.out fi .non
    | bk => exact qq.elim
    | ct => exact qq.elim
    | rt r =>
      intro y hy
      refine hQ r y H' F' qq.out fi ?_
      cases r with
      | v d => exact hy
      | io d => exact hy
      | th d => exact hy
      | fn d => exact hy
      | own ds =>
        obtain ⟨p, xs, h1, h2, h3, h4, h5⟩ := hy
        refine ⟨p, xs, h1, h2, h3, h4, ?_⟩
        rcases h5 with h5 | ⟨i, d, h5, h6⟩
        · exact h5
        · rcases gg.own i p ⟨h6, d, .inl h5⟩ with z | ⟨j, z⟩
          · exact z
          · exact absurd z noOwn) [] s1 I0
  refine wpAny_mono hq (fun fl s' hs => ?_) fun e s' hs => hs
  cases fl with
  | ret u =>
    obtain ⟨v, σ', H', J, r, qq⟩ := hs
    exact ⟨v, H', J.os, J.bare, J.base, J.hok, r, qq⟩
  | next =>
    obtain ⟨σ', H', J, qq⟩ := hs
    exact ⟨.non, H', J.os, J.bare, J.base, J.hok, rfl, qq⟩
  | brk =>
    obtain ⟨_, _, _, qq⟩ := hs
    exact qq.elim
  | cont =>
    obtain ⟨_, _, _, qq⟩ := hs
    exact qq.elim
/-- the slots that such a def begins with -/
def eG (fa : Nat) (n : Nat) (ds : List D) : En := some (.th fa) :: (List.replicate n none ++ [some (.io ds)])
theorem eG_get {fa n i : Nat} {ds : List D} {sv : SV} (h : (eG fa n ds)[i]? = some (some sv)) : (i = 0 ∧ sv = .th fa) ∨ (i = n + 1 ∧ sv = .io ds) := by
  unfold eG at h
  cases i with
  | zero => cases h; exact .inl ⟨rfl, rfl⟩
  | succ i =>
    rw [List.getElem?_cons_succ] at h
    rcases Nat.lt_or_ge i n with z | z
    · rw [List.getElem?_append_left (by simpa using z), List.getElem?_replicate] at h
      split at h <;> cases h
    · rw [List.getElem?_append_right (by simpa using z), List.length_replicate] at h
      rcases Nat.eq_or_lt_of_le z with e | e
      · subst e
        rw [Nat.sub_self] at h
        cases h
        exact .inr ⟨rfl, rfl⟩
      · rw [List.getElem?_eq_none (by simp; omega)] at h
        cases h
theorem eG_last {fa n : Nat} {ds : List D} : (eG fa n ds)[n + 1]? = some (some (SV.io ds)) := by
  unfold eG
  rw [List.getElem?_cons_succ, List.getElem?_append_right (by simp)]
  simp
/-- the list that was lent, in its slot -/
def ghF (g : Nat) (e : En) : List (List D) := match e[g]? with
  | some (some (.io ds)) => [ds]
  | _ => []
theorem _root_.L2.Inv.ghost {X : Cx} {pins : List (Addr × Obj)} {σ : L2.St} {H : Hp} {s : Shared} (I : Inv X pins σ H s) {g : Nat} {x : Str} (hx : X.N[g]? = some x) (hv : ¬ Vis X.env.scope x) (v : L2.V) : Inv X pins (σ.set g (some v)) H s := by
  obtain ⟨m, h1, h2⟩ := I.loc
  refine ⟨I.ok, I.os, I.bare, I.base, ⟨m, h1, fun i y w e1 e2 e3 => ?_⟩, I.cell, I.free, I.freeC, I.pin, I.hok, by rw [List.length_set]; exact I.len⟩
  by_cases hi : i = g
  · subst hi
    rw [hx] at e1
    cases e1
    exact absurd e3 hv
  · rw [List.getElem?_set_ne (Ne.symm hi)] at e2
    exact h2 i y w e1 e2 e3
/-- the body of a def that is handed such a thunk does what is promised -/
def VerLP (G : Nat → Fn) (f : Fn) (N : Nat) (body : S) : Prop := ∀ (ds : List D) (O : Oc → List D → Prop) (Ps : SV → List (List D) → Prop) (Rs : Nat → List (List D) → Prop), (∀ o ds', O o ds' → f.sp [.v (outD o)] (fun r _ => Ps r [ds']) (fun c _ => Rs c [ds'])) → ∀ a : Nat,
  wS (thGP G O a ds) body (fun c e => Rs c (ghF (N - 1) e)) (eG a (N - 2) ds) fun o e => match o with
    | .rt r => Done (Ps r (ghF (N - 1) e))
    | .nx => Done (Ps (.v .none) (ghF (N - 1) e))
    | _ => False
/-- a def that is handed a lambda that changes a list -/
theorem fnLP_of {P : Program} {w : World} {K : Fg} {mg : Str → Option Value} {base : Heap} {cv : CV} {G : Nat → Fn} {k n : Nat} {g : Addr} {fd : FuncData} {x qual : Str} {st : Stmt} {N : List Str} {a gn : Str} {f : Fn} {c : Ct} {body : S}
    (U : Fun K x qual st g fd) (SC : FnScope N [a] (defScope st)) (hN : c.N = N) (hsc : c.sc = defScope st) (hblk : c.blk = false) (cb : cBody n c (defBody st) = some body) (ver : VerLP G f N.length body) (hN2 : 2 ≤ N.length) (hgho : c.gho = some gn) (hgi : c.ix gn = some (N.length - 1)) (hgv : (defScope st).names.lookup gn = none) (hthk : c.thk = some a) (hlam : c.lam = []) (had : nodb a = true)
    (hbind : ∀ (s : Shared) (u : Value), K.In s.heap → BindsTo s fd ⟨[u], []⟩ [(a, u)])
    (con : ∀ x d, c.con.lookup x = some d → ∃ v u, mg x = some u ∧ RelV v u ∧ Rep K (fun _ => none) v d) (bn : ∀ x ∈ c.bn, mg x = none) (shp : ∀ sh ∈ c.shp, CallG P w K mg base cv G k sh) (hid : ∀ sh ∈ c.shp, sh.id ≠ 9997)
    (exc : ∀ x code, c.exc.lookup x = some code → ExcG K mg cv x code := by exact fun x code h => absurd (show (none : Option Nat) = some code from h) (by simp))
    (isx : ∀ x tbl, c.isx.lookup x = some tbl → IsxG K mg x tbl := by exact fun x t h => absurd (show (none : Option _) = some t from h) (by simp))
    (exm : ∀ x tb, c.exm.lookup x = some tb → TabG K mg cv x tb := by exact fun x t h => absurd (show (none : Option _) = some t from h) (by simp)) 
    (hdic : c.dic = [] := by exact rfl) (hfnn : c.fnn = [] := by exact rfl) (hkon : c.kon = [] := by exact rfl) : FnLP P w K mg base cv k g f := by
  refine ⟨fun ds O Ps Rs hO A outer s H F0 fa c' pl q Q E hg hr e0 f1 f2 f3 hcc ⟨l1, lx, l2, l3⟩ th hQ hE => ?_⟩
  obtain ⟨oc, od, kV, doc, pm, an, cdv, ct, osl, rfl, lk, hcd⟩ := U.ex
  have here : ∀ b o, base.get? b = some o → s.heap.get? b = some o := fun b o e => (e0.bs b o e).1
  have KX : K.In s.heap := e0.mod.kin.keeps here
  have kinds : ∀ y ∈ [a].zip [Value.ref fa], (defScope st).names.lookup y.1 = some .local ∨ ((defScope st).names.lookup y.1 = some .cell ∧ ((cellsFrom (s.heap.objs.size + 1) (defScope st).names []).lookup y.1).isSome = true) := fun y hy =>
    (SC.par y.1 (List.of_mem_zip hy).1).imp id fun q => ⟨q, PySem.W.cellsFrom_some _ _ _ (.inl q)⟩
  refine codeAny_call_function hr.depth (KX _ _ lk) rfl SC.co SC.gen rfl (PySem.W.codeRec_of KX hcd) (hbind s (.ref fa) KX _ _ _ _ (wpAny_newFunctionEnv_cells SC.kind kinds fun env he s1 ic => ?_))
  subst he
  refine ⟨(e0.mod.nolimit.keeps here).keeps ic.toInCall.keep, codeAny_func ?_⟩
  have I0 : Inv (cxOf (L2.CX P w) P w K mg base N qual (defScope st) g cdv A outer s H E) [] (L2.start N [.ref fa]) H s1 := inv_start SC hr.hd e0 rfl (.cons rfl .nil) ic
  have hgN : N[N.length - 1]? = some gn := by rw [← hN] at hgi ⊢; exact ix_ok hgi
  have I1 := I0.ghost (g := N.length - 1) (x := gn) hgN (fun z => by
    have z' : (defScope st).names.lookup gn = some .local ∨ (defScope st).names.lookup gn = some .cell ∨ (defScope st).names.lookup gn = some .free := z
    rw [hgv] at z'
    rcases z' with z' | z' | z' <;> cases z') (.ref pl)
  have room : Room k (cxOf (L2.CX P w) P w K mg base N qual (defScope st) g cdv A outer s H E).A := hr.deeper _
  have xok : XOk (cxOf (L2.CX P w) P w K mg base N qual (defScope st) g cdv A outer s H E) (fun cls d _ H' => E cls d H') (thGP G O fa ds) ⟨cv.val, cv.T, F0, [(c', q)], [(N.length - 1, pl)]⟩ c := by
    refine ⟨hN.symm, SC.nd, hsc.symm, fun _ => rfl, ?_, ?_, fun x _ => .inl rfl, con, bn, fun sh m => ?_, fun x code e => ?_, fun x t e => ⟨(isx x t e).ex⟩, fun x t e => ?_, fun _ => ⟨rfl, rfl, rfl⟩, takes_of rfl rfl rfl rfl, passes_of rfl, fun x id e => (by rw [hlam] at e; cases e), fun x t e => (by rw [hdic] at e; cases e), fun n m => (by rw [hfnn] at m; cases m), fun x t e => (by rw [hkon] at e; cases e), fun b i e1 e2 W' pn xe tk p1 p2 => ?_, fun x id e => (by rw [hlam] at e; cases e)⟩
    · exact hg
    · have := room.un
      show (A.deeper (envOfC qual (defScope st) s.heap.objs.size g cdv)).units + 66 < cLine
      have : (A.deeper (envOfC qual (defScope st) s.heap.objs.size g cdv)).units + 16 * k + 200 < cLine := this
      omega
    · rw [thGP_ne (hid sh m)]
      obtain ⟨⟨b, fd, qs, j, dV, dU, m1, m2, m3, m4, m5, m6, m7⟩, l1, l2⟩ := shp sh m
      exact ⟨⟨b, fd, qs, j, dV, dU, m1, m2, m3, room.mono m4, m5, m6, m7⟩, l1, l2⟩
    · obtain ⟨C, h1, h2, h3, h4, h5, h6⟩ := (exc x code e).ex
      exact ⟨C, h1, h2, h3, h4, raises_own h5 h6⟩
    · obtain ⟨u, h1, h2⟩ := (exm x t e).ex
      exact ⟨u, h1, ⟨h2⟩⟩
    · rw [hthk] at e1
      cases e1
      have hX : c.actX i = .actP i (N.length - 1) := by unfold Ct.actX; rw [hgho]; simp only [hgi]
      rw [hX]
      have hv : Vis (defScope st) a := (SC.par a List.mem_cons_self).imp id .inl
      exact se_actP (Y := (cxOf (L2.CX P w) P w K mg base N qual (defScope st) g cdv A outer s H E).tr pn xe) (k := k) (f := fa) (c' := c') (q := q) (S := O) (pl := pl) (ds0 := ds) (by have := ix_ok e2; rw [hN] at this; exact this) hv (nodb_ok had).1 (nodb_ok had).2.1 hg room tk rfl thGP_at List.mem_cons_self List.mem_cons_self th
  have run := cSs_ok (W := fun cls d _ H' => E cls d H') (fun st x => cS_ok xok (n := n)) cb
  have hsl : (L2.start N [.ref fa]).length = N.length := by
    unfold L2.start
    simp only [List.length_append, List.length_map, List.length_cons, List.length_nil, List.length_replicate]; omega
  have sG : ((L2.start N [.ref fa]).set (N.length - 1) (some (L2.V.ref pl)))[N.length - 1]? = some (some (L2.V.ref pl)) := List.getElem?_set_self (by omega)
  have onlyG : ∀ {i p}, Owns (eG fa (N.length - 2) ds) ((L2.start N [.ref fa]).set (N.length - 1) (some (L2.V.ref pl))) i p → i = N.length - 1 ∧ p = pl := fun {i p} ⟨h0, d, h⟩ => by
    have hi : i = N.length - 1 := by
      rcases h with h | h
      · rcases eG_get h with ⟨_, e⟩ | ⟨_, e⟩ <;> cases e
      · rcases eG_get h with ⟨_, e⟩ | ⟨e1, _⟩
        · cases e
        · omega
    subst hi
    rw [sG] at h0
    cases h0
    exact ⟨rfl, rfl⟩
  have sta : Sta K ⟨cv.val, cv.T, F0, [(c', q)], [(N.length - 1, pl)]⟩ (fun _ => pl) (eG fa (N.length - 2) ds) ((L2.start N [.ref fa]).set (N.length - 1) (some (L2.V.ref pl))) H F0 := by
    refine ⟨f1, ?_, fun i sv h => ?_, fun i j p o1 o2 => ?_, f3, f2, .refl, fun p hp => ?_, fun x hx => ?_⟩
    · rw [List.length_set, hsl]
      unfold eG
      simp only [List.length_append, List.length_cons, List.length_nil, List.length_replicate]; omega
    · rcases eG_get h with ⟨rfl, rfl⟩ | ⟨hi, rfl⟩
      · show ((L2.start N [.ref fa]).set (N.length - 1) (some (L2.V.ref pl)))[0]? = _
        rw [List.getElem?_set_ne (by omega)]
        rfl
      · have hi : i = N.length - 1 := by omega
        subst hi
        exact ⟨lx, sG, l1, l2, l3⟩
    · rw [(onlyG o1).1, (onlyG o2).1]
    · rw [List.mem_singleton] at hp
      subst hp
      exact hcc
    · rw [List.mem_singleton] at hx
      subst hx
      rfl
  have e0io : (eG fa (N.length - 2) ds)[N.length - 1]? = some (some (SV.io ds)) := by
    have : N.length - 1 = (N.length - 2) + 1 := by omega
    rw [this]
    exact eG_last
  have fin : ∀ {e' : En} {σ' : L2.St} {H' F' : Hp}, Sta K ⟨cv.val, cv.T, F0, [(c', q)], [(N.length - 1, pl)]⟩ (fun _ => pl) e' σ' H' F' → Go (eG fa (N.length - 2) ds) ((L2.start N [.ref fa]).set (N.length - 1) (some (L2.V.ref pl))) H F0 e' σ' H' F' →
      ∃ ds', e'[N.length - 1]? = some (some (SV.io ds')) ∧ ghF (N.length - 1) e' = [ds'] ∧ σ'[N.length - 1]? = some (some (.ref pl)) ∧ Fin K cv.T H F0 H' F' [pl] [ds'] := fun {e' σ' H' F'} s' gg => by
    obtain ⟨ds', h4⟩ := gg.iok _ ds e0io
    obtain ⟨xs, z1, z2, z3, z4⟩ := s'.slot _ _ h4
    have out : ∀ {b : Addr}, b ∉ [pl] → ∀ i, ¬ Owns (eG fa (N.length - 2) ds) ((L2.start N [.ref fa]).set (N.length - 1) (some (L2.V.ref pl))) i b := fun {b} n i o => n (by rw [(onlyG o).2]; exact List.mem_cons_self)
    refine ⟨ds', h4, by unfold ghF; rw [h4], z1, gg.ext, s'.sub, fun b o h n t => gg.frm b o h (out n) t, gg.liv, fun b h1 h2 n => gg.new b h1 h2 (out n), .cons ⟨z2, xs, z3, z4⟩ .nil, s'.sx.tab, s'.sx.nf⟩
  have hq := run _ (fun _ => pl) _ _ H F0 _ { nx := fun _ H' => Q .non H', rt := Q } sta (ver ds O Ps Rs hO fa) (fun cc e' σ' H' F' s' gg r => by
    obtain ⟨ds', _, e2, _, fi⟩ := fin s' gg
    have r : Rs cc (ghF (N.length - 1) e') := r
    rw [e2] at r
    exact hE cc H' F' ds' r fi) (fun o e' σ' H' F' s' gg qq => by
    obtain ⟨ds', e1, e2, e3, fi⟩ := fin s' gg
    cases o with
    | nx =>
      have q3 := qq.out
      rw [e2] at q3
      exact hQ (.v .none) .non H' F' ds' q3 fi .non
    | bk => exact qq.elim
    | ct => exact qq.elim
    | rt r =>
      intro y hy
      have q3 := qq.out
      rw [e2] at q3
      refine hQ r y H' F' ds' q3 fi ?_
      cases r with
      | v d => exact hy
      | io d => exact hy
      | th d => exact hy
      | fn d => exact hy
      | own ds2 =>
        obtain ⟨p, xs, h1, h2, h3, h4, h5⟩ := hy
        refine ⟨p, xs, h1, h2, h3, h4, ?_⟩
        rcases h5 with h5 | ⟨i, d, h5, h6⟩
        · exact h5
        · have o1 : Owns e' σ' i p := ⟨h6, d, .inl h5⟩
          rcases gg.own i p o1 with z | ⟨j, z⟩
          · exact z
          · obtain ⟨_, rfl⟩ := onlyG z
            have e := s'.dist i _ p o1 ⟨e3, ds', .inr e1⟩
            subst e
            rw [h5] at e1; cases e1) [] s1 I1
  refine wpAny_mono hq (fun fl s' hs => ?_) fun e s' hs => hs
  cases fl with
  | ret u =>
    obtain ⟨v, σ', H', J, r, qq⟩ := hs
    exact ⟨v, H', J.os, J.bare, J.base, J.hok, r, qq⟩
  | next =>
    obtain ⟨σ', H', J, qq⟩ := hs
    exact ⟨.non, H', J.os, J.bare, J.base, J.hok, rfl, qq⟩
  | brk =>
    obtain ⟨_, _, _, qq⟩ := hs
    exact qq.elim
  | cont =>
    obtain ⟨_, _, _, qq⟩ := hs
    exact qq.elim
end DI
namespace DI
open PySem L2
open PyProof.Rows hiding St
/-- what every law says of its script -/
def lawFn (n : Nat) : Fn := { md := [false], α := List Int, args := fun ns => [.v (.list (ns.map .int))], pre := fun ns => ns.length ≤ n, post := fun _ r _ => r = .v (.bool true) }
theorem repInts {K : Fg} {F : Hp} : ∀ (ns : List Int), RepL K F (ns.map V.int) (ns.map PyData.int)
  | [] => .nil
  | n :: r => .cons (.int n) (repInts r)
theorem valsInts : ∀ {vs : List Value} {ns : List Int}, IntsAre vs ns → Vals (ns.map V.int) vs
  | _, _, .nil => .nil
  | _, _, .cons _ t h => .cons ⟨t, rfl⟩ (valsInts h)
/-- all but the tables -/
def noTab (H : Hp) : Hp := fun a => match H a with
  | some (.tbl _) => none
  | o => o
theorem noTab_some {H : Hp} {a : Addr} {o : HO} (h : H a = some o) (n : NT o) : noTab H a = some o := by
  unfold noTab
  rw [h]
  cases o <;> first | rfl | exact absurd rfl (n _)
theorem noTab_sub {H : Hp} : Sub (noTab H) H := fun a o h => by
  unfold noTab at h
  split at h
  · cases h
  · exact h
theorem noTab_nf {H : Hp} : NF (noTab H) := fun a o h ps e => by
  subst e
  unfold noTab at h
  split at h
  · cases h
  · rename_i h1
    exact h1 ps h
theorem spLaw_of {K : Fg} {cv : CV} {n : Nat} {H : Hp} {a : Addr} {ns : List Int} (hl : ns.length ≤ n) (ht : TabI cv.T H) (q : SqL K H a (ns.map V.int)) : spOf K cv (lawFn n) [.ref a] H (fun v _ => v = .bl true) fun _ _ _ => False :=
  have q' : SqL K (noTab H) a (ns.map V.int) := match q with
    | .inl (.inl h) => .inl (.inl (noTab_some h nt_lst))
    | .inl (.inr ⟨o, h⟩) => .inl (.inr ⟨o, noTab_some h fun _ z => (nomatch z)⟩)
    | .inr h => .inr h
  ⟨noTab H, [.v (.list (ns.map .int))], noTab_sub, noTab_nf, ht, .cons (.lsq q' (repInts ns)) .nil, List.nodup_nil, ns, rfl, hl, fun r fin hp x H' F' _ ok => by
    have e : r = .v (.bool true) := hp
    subst e
    cases ok
    rfl, fun c fin hc => False.elim hc⟩
/-- the heap of the law's own run: the script, and what a run may ask of it -/
structure Stage (P : Program) (w : World) (K : Fg) (h : Heap) (a : Addr) (xs : List L2.V) (H : Hp) : Prop where
  one : ∀ b u, H b = some u → b = a ∧ ∃ o ys, u = .frz o (.lst ys)
  seen : SqL K H a xs
  ok : HOk P w H h
  apart : H a ≠ none → K.lookup a = none
theorem stage {P : Program} {w : World} {K : Fg} {h : Heap} {a : Addr} {vs : List Value} {ns : List Int} (KX : K.In h) (ha : h.get? a = some { cls := .type "list", data := .seq vs.toArray }) (hi : IntsAre vs ns) (hl : ns.length ≤ sizeLine) :
    ∃ H, Stage P w K h a (ns.map V.int) H := by
  have rv := valsInts hi
  have hn := hi.length
  cases hk : K.lookup a with
  | some o =>
    have e := KX a o hk
    rw [ha] at e
    cases e
    exact ⟨fun _ => none, fun b u z => (nomatch z), .inr ⟨_, vs.toArray, _, hk, rfl, rfl, rfl, by rw [List.size_toArray, hn]; exact hl, by simpa using rv⟩, fun b u z => (nomatch z), fun z => absurd rfl z⟩
  | none =>
    let ob : Obj := { cls := .type "list", data := .seq vs.toArray }
    refine ⟨fun b => if b = a then some (.frz ob (.lst (ns.map V.int))) else none, fun b u z => ?_, .inl (.inr ⟨ob, if_pos rfl⟩), fun b u z => ?_, fun _ => hk⟩
    · rcases Classical.em (b = a) with e | e
      · rw [if_pos e] at z; cases z; exact ⟨e, _, _, rfl⟩
      · rw [if_neg e] at z; cases z
    · rcases Classical.em (b = a) with e | e
      · rw [if_pos e] at z; cases z; subst e
        exact ⟨ha, by rw [List.length_map]; exact hl, vs, _, rv, ha⟩
      · rw [if_neg e] at z; cases z
/-- the law's run where defs make lambdas: cs tells the code objects and their tables -/
theorem run_lawT {P : Program} {w : World} {K : Fg} {mg mb : Str → Option Value} {k n : Nat} {fa a : Addr} {fd : FuncData} {x : Str} {s₁ : Shared} {vs : List Value} {ns : List Int} {cs : List (Addr × Addr)} (KX : K.In s₁.heap) (hns : s₁.heap.Ns mainGlobals mg)
    (hb : s₁.heap.Ns builtinsNs mb) (hbb : ∀ x : Str, x ≠ "__name__" → mb x = bootBuiltins x) (hlim : s₁.heap.NoLimit) (hg : s₁.gens = #[]) (ha : s₁.heap.get? a = some { cls := .type "list", data := .seq vs.toArray }) (hi : IntsAre vs ns)
    (hl : ns.length ≤ n) (hz : n ≤ sizeLine) (hr : Room k callerA) (hC : ∀ p ∈ cs, PySem.W.CodeHd s₁.heap p.1 p.2 ∧ s₁.heap.get? p.2 = some (PySem.W.tabObj #[])) (hK : ∀ p ∈ cs, K.lookup p.2 = none)
    (hbm : ∃ (bm : Addr) (ob : Obj), mg "__builtins__" = some (.ref bm) ∧ bm ≠ builtinsNs ∧ s₁.heap.get? bm = some ob ∧ ob.cls = .type "module" ∧ ob.dict = some builtinsNs ∧ ob.data = .plain)
    (F : ∀ base : Heap, K.In base → base.Ns mainGlobals mg → (∀ p ∈ cs, LamX.TabB base mg p.1 p.2) → ∃ cv : CV, cv.T.map (·.1) = cs.map (·.2) ∧ FnG P w K mg base k fa fd [x] (spOf K cv (lawFn n))) (hbind : ∀ (s : Shared) (u : Value), BindsTo s fd ⟨[u], []⟩ [(x, u)]) :
    codeAny (model P w) callerA (.call (.ref fa) ⟨[.ref a], []⟩) (fun r s' => r = .ok (.ret (.bool true)) ∧ OldK s₁.heap s'.heap ∧ s'.os = s₁.os ∧ AllBare s'.gens) s₁ := by
  obtain ⟨H0, S⟩ := stage (P := P) (w := w) KX ha hi (Nat.le_trans hl hz)
  have tabs : ∀ b, b ∈ cs.map (·.2) → s₁.heap.get? b = some (PySem.W.tabObj #[]) ∧ K.lookup b = none := fun b hb => by
    obtain ⟨p, hp, e⟩ := List.mem_map.mp hb
    rw [← e]
    exact ⟨(hC p hp).2, hK p hp⟩
  have na : a ∉ cs.map (·.2) := fun z => by
    have e := (tabs a z).1
    rw [ha] at e
    have e2 : Data.seq vs.toArray _ = Data.fields #[] := congrArg Obj.data (Option.some.inj e)
    cases e2
  obtain ⟨H, hH⟩ : ∃ H : Hp, H = fun b => if b ∈ cs.map (·.2) then some (.tbl #[]) else H0 b := ⟨_, rfl⟩
  have atT : ∀ b, b ∈ cs.map (·.2) → H b = some (.tbl #[]) := fun b z => by rw [hH]; exact if_pos z
  have atN : ∀ b, b ∉ cs.map (·.2) → H b = H0 b := fun b z => by rw [hH]; exact if_neg z
  have one : ∀ b u, H b = some u → (b ∈ cs.map (·.2) ∧ u = .tbl #[]) ∨ (b = a ∧ ∃ o ys, u = .frz o (.lst ys)) := fun b u e => by
    by_cases hb : b ∈ cs.map (·.2)
    · rw [atT b hb] at e; exact .inl ⟨hb, (Option.some.inj e).symm⟩
    · rw [atN b hb] at e; exact .inr (S.one b u e)
  have okH : HOk P w H s₁.heap := fun b u e => by
    by_cases hb : b ∈ cs.map (·.2)
    · rw [atT b hb] at e; cases e; exact (tabs b hb).1
    · rw [atN b hb] at e
      obtain ⟨rfl, o, ys, rfl⟩ := S.one b u e
      exact S.ok b _ e
  have free : ∀ {b : Addr} {o : Obj}, s₁.heap.get? b = some o → (∀ vs n, o.data ≠ .seq vs n) → o.data ≠ .fields #[] → H b = none := fun {b o} e h1 h2 => by
    cases q : H b with
    | none => rfl
    | some u =>
      rcases one b u q with ⟨z, _⟩ | ⟨z, _⟩
      · rw [(tabs b z).1] at e; cases e; exact absurd rfl h2
      · rw [z, ha] at e; cases e; exact absurd rfl (h1 _ _)
  have base : ∀ {b : Addr} {o : Obj}, s₁.heap.get? b = some o → H b = none → (hidT s₁.heap H).get? b = some o := fun e z => hidT_get e z
  have dicts : ∀ {b : Addr} {o : Obj} {es : Array DictEntry} {ep : Nat}, s₁.heap.get? b = some o → o.data = .dict es ep → (hidT s₁.heap H).get? b = some o := fun {b o es ep} e d =>
    base e (free e (fun vs n z => by rw [d] at z; cases z) fun z => by rw [d] at z; cases z)
  have spaces : ∀ {b : Addr} {m : Str → Option Value}, s₁.heap.Ns b m → (hidT s₁.heap H).Ns b m := fun {b m} z => let ⟨o, es, ep, e, d, r⟩ := z; ⟨o, es, ep, dicts e d, d, r⟩
  have inB : K.In (hidT s₁.heap H) := fun b o e => base (KX b o e) (by
    cases q : H b with
    | none => rfl
    | some u =>
      rcases one b u q with ⟨z, _⟩ | ⟨z, _⟩
      · rw [(tabs b z).2] at e; cases e
      · subst z
        rw [atN b na] at q
        have := S.apart (by rw [q]; simp)
        rw [this] at e; cases e)
  obtain ⟨mc, l1, l2⟩ := hlim
  have M : Mod K mg (hidT s₁.heap H) := ⟨inB, spaces hns, ⟨mb, spaces hb, hbb⟩, ⟨mc, spaces l1, l2⟩⟩
  have none0 : ∀ b, b ∉ ([] : List Addr) := by simp
  have E0 : Env0 P w K mg (hidT s₁.heap H) callerA [] s₁ H := ⟨rfl, M, fun b o e => of_hidT e, Nat.le_of_eq (hidT_size _ _), trivial, fun b hb => (none0 b hb).elim, okH, .of_eq hg⟩
  have TB : ∀ p ∈ cs, LamX.TabB (hidT s₁.heap H) mg p.1 p.2 := fun p hp => by
    obtain ⟨ch, et⟩ := hC p hp
    refine ⟨?_, ?_, fun z => ?_⟩
    · obtain ⟨o, us, f1, f2, f3, f4, f5, f6, f7, e1, e2, e3, e4, rest⟩ := ch
      refine ⟨o, us, f1, f2, f3, f4, f5, f6, f7, base e1 (free e1 (fun ws m z => ?_) fun z => ?_), e2, e3, e4, rest⟩
      · rw [e3] at z; cases z
      · rw [e3] at z; cases z; cases e4
    · obtain ⟨bm, ob, b1, b2, b3, b4, b5, b6⟩ := hbm
      have n1 : bm ≠ mainGlobals := fun q => by
        obtain ⟨o, es, ep, e, d, _⟩ := hns
        rw [q, e] at b3; cases b3
        rw [b6] at d; cases d
      have n2 : bm ≠ p.2 := fun q => by
        rw [q, et] at b3; cases b3
        cases b6
      refine ⟨bm, ob, b1, b2, n1, n2, base b3 (free b3 (fun ws m z => ?_) fun z => ?_), b4, b5, b6⟩
      · rw [b6] at z; cases z
      · rw [b6] at z; cases z
    · obtain ⟨o, es, ep, e, d, _⟩ := hns
      rw [z, et] at e; cases e
      cases d
  obtain ⟨cv, hT, Fg⟩ := F _ inB (spaces hns) TB
  have TI : TabI cv.T H := ⟨fun p hp => LamX.TabS.nil (atT _ (by rw [← hT]; exact List.mem_map_of_mem hp)), fun b us e => by
    rcases one b _ e with ⟨z, _⟩ | ⟨_, _, _, z⟩
    · rw [← hT] at z
      obtain ⟨p, hp, e⟩ := List.mem_map.mp z
      exact ⟨p.2, by rw [← e]; exact hp⟩
    · cases z⟩
  have seen : SqL K H a (ns.map V.int) := by
    rcases S.seen with (h | ⟨o, h⟩) | h
    · exact .inl (.inl ((atN a na).trans h))
    · exact .inl (.inr ⟨o, (atN a na).trans h⟩)
    · exact .inr h
  have run := Fg.run callerA [] s₁ H ⟨[.ref a], []⟩ [.ref a] [.ref a] _ _ rfl hr E0 (hbind s₁ (.ref a)) (.cons rfl .nil) (spLaw_of hl TI seen)
  refine codeAny_mono run fun r s' h => ?_
  rcases r with e | fl
  · obtain ⟨_, _, _, _, _, _, _, _, _, _, _, _, no⟩ := h
    exact no.elim
  · rcases fl with _ | _ | _ | u
    · exact False.elim h
    · exact False.elim h
    · exact False.elim h
    · obtain ⟨v, H', os, bare, un, hok', r', q⟩ := h
      have qv : v = .bl true := q
      rw [qv] at r'
      have ru : u = Value.bool true := r'
      have stay : ∀ b o, b ∉ cs.map (·.2) → s₁.heap.get? b = some o → s'.heap.get? b = some o := fun b o nb e => by
        cases q : H b with
        | none => exact un.keep b o e q (none0 b) (none0 b)
        | some u =>
          rcases one b u q with ⟨z, _⟩ | ⟨_, ob, ys, rfl⟩
          · exact absurd z nb
          · have e1 := (okH b _ q).1
            rw [e] at e1; cases e1
            exact (hok' b _ (un.frzs b _ _ q)).1
      have grow : ∀ b, b ∈ cs.map (·.2) → ∃ more : Array Value, s'.heap.get? b = some (PySem.W.tabObj more) := fun b hb => by
        obtain ⟨more, z⟩ := un.tbls b #[] (atT b hb)
        exact ⟨_, hok' b _ z⟩
      refine ⟨by rw [ru], ⟨fun b o e => ?_, fun b o e => ?_⟩, os, bare⟩
      · by_cases hb : b ∈ cs.map (·.2)
        · obtain ⟨p, hp, ep⟩ := List.mem_map.mp hb
          obtain ⟨more, hm⟩ := grow b hb
          rw [(tabs b hb).1] at e
          cases e
          exact .inr (.inl ⟨ep ▸ ((hC p hp).1.tab (hC p hp).2).isCodeTable, rfl, #[], more, rfl, by rw [Array.empty_append]; exact hm⟩)
        · exact .inl (stay b o hb e)
      · by_cases hb : b ∈ cs.map (·.2)
        · exact let ⟨more, hm⟩ := grow b hb; ⟨_, hm⟩
        · exact ⟨o, stay b o hb e⟩
theorem walkLawT {l : PySem.W.OpenLaw} {n k : Nat} {q : Program} {loose : List Str} {XP : (Str → Option Value) → Heap → Prop} {YP : World → Heap → Prop} {d : DefRec} {K : Params → Fg} {x : Str} {ts : List Addr} (hn : l.most = some n) (hz : n ≤ sizeLine) (hdf : d.params.defaults = []) (hr : Room k callerA)
    (hY : ∀ (w : World) (h : Heap), YP w h → (K w.params).In h ∧ ∀ P ∈ ts, h.get? P = some (PySem.W.tabObj #[]))
    (F : ∀ (w : World) (mg : Str → Option Value) (fa : Addr) (h : Heap), (K w.params).In h → h.Ns mainGlobals mg → mg d.name = some (.ref fa) → ∃ (fd : FuncData) (cs : List (Addr × Addr)), (∀ p ∈ cs, PySem.W.codeHdIn (K w.params) p.1 p.2 = true ∧ p.2 ∈ ts ∧ (K w.params).lookup p.2 = none) ∧
      (∀ (s : Shared) (u : Value), BindsTo s fd ⟨[u], []⟩ [(x, u)]) ∧
      ∀ base : Heap, (K w.params).In base → base.Ns mainGlobals mg → (∀ p ∈ cs, LamX.TabB base mg p.1 p.2) → ∃ cv : CV, cv.T.map (·.1) = cs.map (·.2) ∧ FnG l.prog w (K w.params) mg base k fa fd [x] (spOf (K w.params) cv (lawFn n))) :
    PySem.W.WalkO q loose XP YP l.row.toRowW d [] (fun f vs => PySem.call f vs) :=
  Att.attach_call hn hdf fun w s₀ s₁ mg mb fa o pm cd doc a vs ns G Y ho hd hcd hmg hobj hints hlen hg =>
    have ⟨KX, KT⟩ := hY w _ Y
    have ⟨fd, cs, hcs, hb, hF⟩ := F w mg fa _ KX G.T.g hmg
    run_lawT KX G.T.g G.T.b G.T.builtins G.T.nolimit hg hobj hints hlen hz hr (fun p hp => let ⟨h1, h2, _⟩ := hcs p hp; ⟨PySem.W.codeHd_of_K KX h1, KT _ h2⟩) (fun p hp => (hcs p hp).2.2) G.T.bmain hF hb
end DI
namespace DI
open PySem
/-- a walk by what holds ahead of its i-th turn -/
theorem forW_inv {step : D → En → (Out → En → Prop) → Prop} {items : List D} {e : En} {Q : Out → En → Prop} (I : Nat → En → Prop) (h0 : I 0 e)
    (hs : ∀ (i : Nat) (d : D) (e : En) (K : Out → En → Prop), items[i]? = some d → I i e → (∀ e', I (i + 1) e' → K .nx e' ∧ K .ct e') → (∀ e', Q .nx e' → K .bk e') → (∀ r e', Q (.rt r) e' → K (.rt r) e') → step d e K)
    (hn : ∀ e, I items.length e → Q .nx e) : forW step items e Q := by
  have go : ∀ (l pre : List D) (e : En), items = pre ++ l → I pre.length e → forW step l e Q := by
    intro l
    induction l with
    | nil =>
      intro pre e hp hi
      rw [List.append_nil] at hp; subst hp
      exact hn e hi
    | cons d l ih =>
      intro pre e hp hi
      have nx : ∀ e', I (pre.length + 1) e' → forW step l e' Q := fun e' h => ih (pre ++ [d]) e' (by rw [hp]; simp) (by simpa using h)
      show step d e _
      exact hs pre.length d e _ (by rw [hp]; simp) hi (fun e' h => ⟨nx e' h, nx e' h⟩) (fun e' h => h) fun r e' h => h
  exact go items [] e rfl h0
theorem eachW_inv {step : D → En → (List D → En → Prop) → Prop} {items acc : List D} {e : En} {Q : List D → En → Prop} (I : Nat → List D → En → Prop) (h0 : I 0 acc e)
    (hs : ∀ (i : Nat) (d : D) (acc : List D) (e : En) (K : List D → En → Prop), items[i]? = some d → I i acc e → (∀ new e', I (i + 1) (acc ++ new) e' → K new e') → step d e K)
    (hn : ∀ acc e, I items.length acc e → Q acc e) : eachW step items acc e Q := by
  have go : ∀ (l pre acc : List D) (e : En), items = pre ++ l → I pre.length acc e → eachW step l acc e Q := by
    intro l
    induction l with
    | nil =>
      intro pre acc e hp hi
      rw [List.append_nil] at hp; subst hp
      exact hn acc e hi
    | cons d l ih =>
      intro pre acc e hp hi
      show step d e _
      exact hs pre.length d acc e _ (by rw [hp]; simp) hi fun new e' h => ih (pre ++ [d]) (acc ++ new) e' (by rw [hp]; simp) (by simpa using h)
  exact go items [] acc e rfl h0
theorem sfI {P : Prop} (h : P) : Sf P := ⟨h⟩
theorem leLine {n : Nat} (h : Nat.ble n 1000 = true) : n ≤ sizeLine := Nat.le_trans (Nat.le_of_ble_eq_true h) (by decide)
theorem optI {α : Type} {o : Option α} {d : α} {Q : α → Prop} (h : o = some d) (q : Q d) : Opt o Q := ⟨d, h, q⟩
theorem lsI {l : List D} {P : List D → Prop} (h : P l) : Ls l P := ⟨h⟩
theorem brT {A B : Prop} (h : A) : Br true A B := ⟨fun _ => h, fun z => (nomatch z)⟩
theorem brF {A B : Prop} (h : B) : Br false A B := ⟨fun z => (nomatch z), fun _ => h⟩
theorem brD {p : Prop} [Decidable p] {A B : Prop} (h : p → A) (k : ¬p → B) : Br (decide p) A B := ⟨fun z => h (of_decide_eq_true z), fun z => k (of_decide_eq_false z)⟩
theorem brN {c : Bool} {A B : Prop} (h : Br c B A) : Br (!c) A B := ⟨fun z => h.f (by simpa using z), fun z => h.t (by simpa using z)⟩
theorem brND {p : Prop} [Decidable p] {A B : Prop} (h : ¬p → A) (k : p → B) : Br (!decide p) A B := brN (brD k h)
theorem brNe {i j : Int} {A B : Prop} (h : i ≠ j → A) (k : i = j → B) : Br (i != j) A B := ⟨fun z => h (by simpa using z), fun z => k (by simpa using z)⟩
theorem brB {c : Bool} {A B : Prop} (h : c = true → A) (k : c = false → B) : Br c A B := ⟨h, k⟩
theorem brRefl {d e : D} {A B : Prop} (e1 : d = e) (h0 : d.canLay0 = true) (h : A) : Br (PyData.eqv d e) A B := ⟨fun _ => h, fun z => by subst e1; rw [SeqAt.eqv_refl d h0] at z; cases z⟩
theorem brSh {d e : D} {A B : Prop} (e1 : d = e) (h : A) : Br (decide (d.shown = e.shown)) A B := brD (fun _ => h) fun z => absurd (by rw [e1]) z
/-- here two texts that are shown are compared: nothing is reckoned out -/
theorem shGuard {d e : D} {A B : Prop} (h : False) : Br (decide (d.shown = e.shown)) A B := h.elim
theorem shGuard' {d e : D} {A B : Prop} (h : False) : Br (!decide (d.shown = e.shown)) A B := h.elim
theorem nfc {e r r' : En} {a : Option SV} (h : e = a :: r) (k : r = r') : e = a :: r' := by subst k; exact h
theorem nrmI {e e' : En} {Q : En → Prop} (h : e = e') (k : Q e') : Nrm e Q := ⟨h ▸ k⟩
theorem brTrue {c : Bool} {A B : Prop} (e : c = true) (h : A) : Br c A B := ⟨fun _ => h, fun z => (by rw [e] at z; cases z)⟩
theorem brFalse {c : Bool} {A B : Prop} (e : c = false) (h : B) : Br c A B := ⟨fun z => (by rw [e] at z; cases z), fun _ => h⟩
theorem callOf {md : List Bool} {sp : List SV → (SV → List (List D) → Prop) → (Nat → List (List D) → Prop) → Prop} {ss : List SV} {P : SV → List (List D) → Prop} {R : Nat → List (List D) → Prop} (h : sp ss P R) : (Fn.of md sp).sp ss P R :=
  ⟨⟨(ss, P, R), h⟩, rfl, trivial, fun _ _ h => h, fun _ _ h => h⟩
theorem verOf {G : Nat → Fn} {md : List Bool} {sp : List SV → (SV → List (List D) → Prop) → (Nat → List (List D) → Prop) → Prop} {np N : Nat} {body : S}
    (h : ∀ ss P R, sp ss P R → ss.length = np ∧ wS G body (fun c e => R c (finOf ss e)) (ss.map some ++ List.replicate (N - np) none)
      (fun o e => match o with
        | .rt r => Done (P r (finOf ss e))
        | .nx => Done (P (.v .none) (finOf ss e))
        | _ => False)) : Ver G (Fn.of md sp) np N body := fun a _ => h a.1.1 a.1.2.1 a.1.2.2 a.2
/-- a def that is handed a thunk -/
theorem verOfL {G : Nat → Fn} {sp : List SV → (SV → List (List D) → Prop) → (Nat → List (List D) → Prop) → Prop} {N : Nat} {body : S}
    (h : ∀ (O : Oc → Prop) (P : SV → List (List D) → Prop) (R : Nat → List (List D) → Prop), (∀ o, O o → ∃ (P0 : SV → List (List D) → Prop) (R0 : Nat → List (List D) → Prop), sp [.v (outD o)] P0 R0 ∧ (∀ r fin, P0 r fin → P r fin) ∧ ∀ c fin, R0 c fin → R c fin) → ∀ a : Nat,
      wS (thG G O a) body (fun c _ => R c []) (some (.th a) :: List.replicate (N - 1) none) fun o e => match o with
        | .rt r => Done (P r [])
        | .nx => Done (P (.v .none) [])
        | _ => False) : VerL G (Fn.of [] sp) N body := fun O P R hO a => h O P R (fun o ho => by
  obtain ⟨x, h1, _, h3, h4⟩ := hO o ho
  obtain ⟨⟨ss, P0, R0⟩, hx⟩ := x
  have e : [SV.v (outD o)] = ss := h1
  subst e
  exact ⟨P0, R0, hx, h3, h4⟩) a
/-- a def that is handed a thunk that changes a list -/
theorem verOfLP {G : Nat → Fn} {sp : List SV → (SV → List (List D) → Prop) → (Nat → List (List D) → Prop) → Prop} {N : Nat} {body : S}
    (h : ∀ (ds : List D) (O : Oc → List D → Prop) (P : SV → List (List D) → Prop) (R : Nat → List (List D) → Prop), (∀ o ds', O o ds' → ∃ (P0 : SV → List (List D) → Prop) (R0 : Nat → List (List D) → Prop), sp [.v (outD o)] P0 R0 ∧ (∀ r fin, P0 r fin → P r [ds']) ∧ ∀ c fin, R0 c fin → R c [ds']) → ∀ a : Nat,
      wS (thGP G O a ds) body (fun c e => R c (ghF (N - 1) e)) (eG a (N - 2) ds) fun o e => match o with
        | .rt r => Done (P r (ghF (N - 1) e))
        | .nx => Done (P (.v .none) (ghF (N - 1) e))
        | _ => False) : VerLP G (Fn.of [] sp) N body := fun ds O P R hO a => h ds O P R (fun o ds' ho => by
  obtain ⟨x, h1, _, h3, h4⟩ := hO o ds' ho
  obtain ⟨⟨ss, P0, R0⟩, hx⟩ := x
  have e : [SV.v (outD o)] = ss := h1
  subst e
  exact ⟨P0, R0, hx, h3, h4⟩) a
/-- an item at a place that is within -/
theorem optIx {l : List D} {i : Int} {Q : D → Prop} (h0 : 0 ≤ i) (h : i < (l.length : Int)) (k : ∀ d, l[i.toNat]? = some d → Q d) : Opt ((ixAt l.length i).bind fun j => l[j]?) Q := by
  have hl : i.toNat < l.length := by omega
  refine ⟨l[i.toNat], ?_, k _ (by simp [hl])⟩
  unfold ixAt; rw [if_pos h0, if_pos h]; simp [hl]
theorem ixAt_pos {n : Nat} {i : Int} (h0 : 0 ≤ i) (h : i < n) : ixAt n i = some i.toNat := by
  unfold ixAt; rw [if_pos h0, if_pos h]
theorem rng_get {a : Int} {n i : Nat} {d : D} (h : (rngL a n)[i]? = some d) : i < n ∧ d = .int (a + (i : Int)) := by
  unfold rngL at h
  rw [List.getElem?_map] at h
  cases z : (List.range n)[i]? with
  | none => rw [z] at h; cases h
  | some k =>
    rw [z] at h
    have hl := (List.getElem?_eq_some_iff.mp z).1
    rw [List.length_range] at hl
    rw [List.getElem?_range hl] at z
    cases z; cases h; exact ⟨hl, rfl⟩
theorem rng_length {a : Int} {n : Nat} : (rngL a n).length = n := by unfold rngL; simp
mutual
def rl : D → Nat
  | .none => 4
  | .bool _ => 5
  | .int _ => 1921
  | .str _ => 0
  | .list xs => 2 + rls xs
  | .tuple xs => 4 + rls xs
  | .dict _ => 0
def rls : List D → Nat
  | [] => 0
  | x :: xs => (rl x + 2) + rls xs
end
mutual
def sm : D → Prop
  | .none => True
  | .bool _ => True
  | .int i => i.natAbs.log2 < 1920
  | .str _ => False
  | .list xs => sms xs
  | .tuple xs => sms xs
  | .dict _ => False
def sms : List D → Prop
  | [] => True
  | x :: xs => sm x ∧ sms xs
end
theorem textFrom_up : ∀ (ts : List Str) (k : Nat) (acc : Str), (textFrom k acc ts).length ≤ acc.length + piled ts
  | [], k, acc => Nat.le_add_right _ _
  | t :: ts, k, acc => by
    have h := textFrom_up ts (k + 1) (acc ++ (if k > 0 then ", " else "" : String) ++ t)
    have e : (acc ++ (if k > 0 then ", " else "" : String) ++ t).length ≤ acc.length + 2 + t.length := by
      rw [strLen_append, strLen_append]
      split
      · exact Nat.le_refl _
      · show acc.length + 0 + t.length ≤ _; omega
    show (textFrom (k + 1) _ ts).length ≤ _
    rw [piled_cons]; omega
theorem listText_up (ts : List Str) : (listText ts).length ≤ 2 + piled ts := by
  unfold listText
  rw [strLen_append]
  have h := textFrom_up ts 0 "["
  have e1 : (("[" : String) : Str).length = 1 := rfl
  have e2 : (("]" : String) : Str).length = 1 := rfl
  omega
theorem tupleText_up (ts : List Str) : (tupleText ts).length ≤ 4 + piled ts := by
  unfold tupleText
  rw [strLen_append, strLen_append]
  have e1 : (("(" : String) : Str).length = 1 := rfl
  have e3 : (((if ts.length == 1 then ",)" else ")" : String)) : Str).length ≤ 2 := by
    split
    · exact Nat.le_refl 2
    · exact Nat.le_succ 1
  have e2 : (Str.join ", " ts).length ≤ piled ts := by
    cases ts with
    | nil => exact Nat.le_refl 0
    | cons a r => have := join_length_add (a :: r) (by simp); omega
  omega
mutual
theorem sm_ok : ∀ (d : D), sm d → d.showable = true ∧ d.hasDict = false ∧ d.shown.length ≤ rl d
  | .none, _ => ⟨rfl, rfl, by decide⟩
  | .bool true, _ => ⟨rfl, rfl, by decide⟩
  | .bool false, _ => ⟨rfl, rfl, by decide⟩
  | .int i, h => by
    have h : i.natAbs.log2 < 1920 := h
    refine ⟨by simp [PyData.showable]; exact h, rfl, ?_⟩
    rw [PyData.shown_int]
    have e := int_text_length_le (k := 1920) (by decide) h
    show (Str.ofString (toString i)).length ≤ _
    rw [ofString_length]; exact e
  | .str _, h => h.elim
  | .list xs, h => by
    obtain ⟨h1, h2, h3⟩ := sms_ok xs h
    refine ⟨by simpa [PyData.showable] using h1, by simpa [PyData.hasDict] using h2, ?_⟩
    have e := listText_up (PyData.shownAll xs)
    show (listText _).length ≤ 2 + rls xs
    omega
  | .tuple xs, h => by
    obtain ⟨h1, h2, h3⟩ := sms_ok xs h
    refine ⟨by simpa [PyData.showable] using h1, by simpa [PyData.hasDict] using h2, ?_⟩
    have e := tupleText_up (PyData.shownAll xs)
    show (tupleText _).length ≤ 4 + rls xs
    omega
  | .dict _, h => h.elim
theorem sms_ok : ∀ (ds : List D), sms ds → PyData.showableAll ds = true ∧ PyData.hasDictAll ds = false ∧ piled (PyData.shownAll ds) ≤ rls ds
  | [], _ => ⟨rfl, rfl, Nat.le_refl 0⟩
  | x :: xs, h => by
    obtain ⟨h1, h2, h3⟩ := sm_ok x h.1
    obtain ⟨g1, g2, g3⟩ := sms_ok xs h.2
    refine ⟨by simp [PyData.showableAll, h1, g1], by simp [PyData.hasDictAll, h2, g2], ?_⟩
    show piled (x.shown :: PyData.shownAll xs) ≤ (rl x + 2) + rls xs
    rw [piled_cons]; omega
end
mutual
def nd : D → Nat
  | .none => 1
  | .bool _ => 1
  | .int _ => 1
  | .str _ => 1
  | .list xs => (nds xs).succ
  | .tuple xs => (nds xs).succ
  | .dict _ => 1
def nds : List D → Nat
  | [] => 0
  | x :: xs => nds xs + nd x
end
mutual
theorem rl_nd : ∀ d : D, rl d + 2 ≤ 2000 * nd d
  | .none => by simp [rl, nd]
  | .bool _ => by simp [rl, nd]
  | .int _ => by simp [rl, nd]
  | .str _ => by simp [rl, nd]
  | .list xs => by have := rls_nd xs; simp only [rl, nd]; omega
  | .tuple xs => by have := rls_nd xs; simp only [rl, nd]; omega
  | .dict _ => by simp [rl, nd]
theorem rls_nd : ∀ ds : List D, rls ds ≤ 2000 * nds ds
  | [] => by simp [rls, nds]
  | x :: xs => by
    have h1 := rl_nd x
    have h2 := rls_nd xs
    simp only [rls, nds]; omega
end
theorem repOk {d : D} (h : sm d) (hd : Nat.ble d.depth 64 = true) (hl : Nat.ble (nd d) 8000 = true) : d.showable = true ∧ (d.hasDict = false ∨ noL d = true) ∧ d.depth ≤ 64 ∧ d.shown.length ≤ sizeLine := by
  obtain ⟨h1, h2, h3⟩ := sm_ok d h
  have h4 := rl_nd d
  have h5 := Nat.le_of_ble_eq_true hl
  refine ⟨h1, .inl h2, Nat.le_of_ble_eq_true hd, ?_⟩
  rw [sizeLine_eq]; omega
theorem sms_ints : ∀ {ns : List Int}, (∀ n ∈ ns, n.natAbs.log2 < 1920) → sms (ns.map .int)
  | [], _ => trivial
  | n :: r, h => ⟨h n List.mem_cons_self, sms_ints fun m z => h m (List.mem_cons_of_mem _ z)⟩
theorem log2_lt {n m : Nat} (h : n < 2 ^ m) (hm : 0 < m) : n.log2 < m := by
  rcases Nat.eq_zero_or_pos n with e | e
  · subst e; simpa using hm
  · exact (Nat.log2_lt (by omega)).mpr h
theorem mulOk {i j : Int} (hi : i.natAbs < 2 ^ 64) (hj : j.natAbs < 2 ^ 64) : MulOk i j := ⟨by
  have := log2_lt hi (by decide); have := log2_lt hj (by decide)
  omega⟩
theorem fmp {i j : Int} (h : 0 ≤ j) : i.fmod j = i % j := Int.fmod_eq_emod_of_nonneg i h
theorem fdp {i j : Int} (h : 0 ≤ j) : i.fdiv j = i / j := Int.fdiv_eq_ediv_of_nonneg i h
/-- at most k bits -/
structure Bt (k : Nat) (x : Int) : Prop where
  lt : x.natAbs < 2 ^ k
theorem Bt.mono {k m : Nat} {x : Int} (h : Bt k x) (l : k ≤ m) : Bt m x := ⟨Nat.lt_of_lt_of_le h.lt (Nat.pow_le_pow_right (by decide) l)⟩
theorem Bt.mul {k m : Nat} {x y : Int} (h : Bt k x) (l : Bt m y) : Bt (k + m) (x * y) := ⟨by
  rw [Int.natAbs_mul, Nat.pow_add]
  exact Nat.mul_lt_mul'' h.lt l.lt⟩
theorem Bt.add {k m : Nat} {x y : Int} (h : Bt k x) (l : Bt m y) : Bt (max k m + 1) (x + y) := ⟨by
  have h1 := Nat.lt_of_lt_of_le h.lt (Nat.pow_le_pow_right (by decide) (Nat.le_max_left k m))
  have h2 := Nat.lt_of_lt_of_le l.lt (Nat.pow_le_pow_right (by decide) (Nat.le_max_right k m))
  have := Int.natAbs_add_le x y
  rw [Nat.pow_succ]; omega⟩
theorem Bt.neg {k : Nat} {x : Int} (h : Bt k x) : Bt k (-x) := ⟨by rw [Int.natAbs_neg]; exact h.lt⟩
theorem Bt.sub {k m : Nat} {x y : Int} (h : Bt k x) (l : Bt m y) : Bt (max k m + 1) (x - y) := by
  rw [Int.sub_eq_add_neg]; exact h.add l.neg
theorem Bt.mulOk {k m : Nat} {x y : Int} (h : Bt k x) (l : Bt m y) (hs : k + m ≤ 999998 := by decide) : MulOk x y := ⟨by
  have a := log2_lt (Nat.lt_of_lt_of_le h.lt (Nat.pow_le_pow_right (by decide) (Nat.le_succ k))) (Nat.succ_pos k)
  have b := log2_lt (Nat.lt_of_lt_of_le l.lt (Nat.pow_le_pow_right (by decide) (Nat.le_succ m))) (Nat.succ_pos m)
  omega⟩
theorem Bt.divOk {k : Nat} {x : Int} (h : Bt k x) (h0 : x ≠ 0) (hs : k ≤ 8999 := by decide) : DivOk x := by
  have a := log2_lt (Nat.lt_of_lt_of_le h.lt (Nat.pow_le_pow_right (by decide) (Nat.le_succ k))) (Nat.succ_pos k)
  exact ⟨h0, by omega⟩
theorem Bt.le {k : Nat} {x y : Int} (h : Bt k y) (h0 : 0 ≤ x) (hy : x ≤ y) : Bt k x := ⟨by have := h.lt; omega⟩
theorem Bt.abs_le {k : Nat} {x y : Int} (h : Bt k y) (hy : x.natAbs ≤ y.natAbs) : Bt k x := ⟨Nat.lt_of_le_of_lt hy h.lt⟩
theorem Bt.lit {x : Int} (h : x.natAbs < 2 ^ 64) : Bt 64 x := ⟨h⟩
theorem Bt.abs {k : Nat} {x : Int} (h : Bt k x) : Bt k (if x < 0 then -x else x) := by split; exact h.neg; exact h
theorem bits_le {k : Nat} {x : Int} (h : Bt k x) : Builtin.Int.intBits x ≤ k := by
  unfold Builtin.Int.intBits
  split
  · exact Nat.zero_le _
  · rename_i z
    have h0 : x.natAbs ≠ 0 := fun e => z (by rw [Int.natAbs_eq_zero.mp e]; rfl)
    exact (Nat.log2_lt h0).mpr h.lt
theorem Bt.sm {k : Nat} {x : Int} (h : Bt k x) (hk : k ≤ 1920 := by decide) : x.natAbs.log2 < 1920 := log2_lt (Nat.lt_of_lt_of_le h.lt (Nat.pow_le_pow_right (by decide) hk)) (by decide)
theorem sm_int {k : Nat} {x : Int} (h : Bt k x) (hk : k ≤ 1920) : sm (.int x) := h.sm hk
theorem sm_bool {b : Bool} : sm (.bool b) := trivial
theorem sm_none : sm .none := trivial
theorem sm_tup {xs : List D} (h : sms xs) : sm (.tuple xs) := h
theorem sm_lst {xs : List D} (h : sms xs) : sm (.list xs) := h
theorem sms_nil : sms [] := trivial
theorem sms_cons {x : D} {xs : List D} (h : sm x) (t : sms xs) : sms (x :: xs) := ⟨h, t⟩
theorem PowOk.bt {k : Nat} {i j : Int} (h : Bt k i) (h0 : 0 ≤ j) (h1 : (k : Int) * j ≤ 134217728) : PowOk i j := .wide h0 (by
  have := bits_le h
  have : (Builtin.Int.intBits i : Int) * j ≤ (k : Int) * j := Int.mul_le_mul_of_nonneg_right (by omega) h0
  have e : (2 : Int) ^ 27 = 134217728 := by decide
  rw [e]; omega)
theorem strOk_of (s : String) : PyData.strOk (Str.ofString s) = true := by
  unfold PyData.strOk
  rw [Str.ofString_eq_toList]
  simp only [List.all_toArray, List.all_map, List.all_eq_true, Function.comp_apply, decide_eq_true_eq]
  intro c _
  have h := c.valid
  have e : c.toNat = c.val.toNat := rfl
  rw [e]
  rcases h with h | ⟨_, h⟩
  · have : c.val.toNat < 0xd800 := h
    omega
  · have : c.val.toNat < 0x110000 := h
    omega
theorem strOk_app {x y : Str} (hx : PyData.strOk x = true) (hy : PyData.strOk y = true) : PyData.strOk (x ++ y) = true := by
  show (x.cps ++ y.cps).all _ = true
  rw [Array.all_append, Bool.and_eq_true]
  exact ⟨hx, hy⟩
theorem strOk_join {sep : Str} (h : PyData.strOk sep = true) : ∀ {l : List Str}, (∀ x ∈ l, PyData.strOk x = true) → PyData.strOk (Str.join sep l) = true
  | [], _ => by simp [Str.join, PyData.strOk, Str.empty]
  | [x], h1 => h1 x (by simp)
  | x :: y :: r, h1 => by
    show PyData.strOk (x ++ sep ++ Str.join sep (y :: r)) = true
    exact strOk_app (strOk_app (h1 x (by simp)) h) (strOk_join h fun z hz => h1 z (List.mem_cons_of_mem _ hz))
mutual
theorem strOk_shown : ∀ (d : D), sm d → PyData.strOk d.shown = true
  | .none, _ => by rw [PyData.shown_none]; exact strOk_of _
  | .bool b, _ => by
    rw [PyData.shown_bool]
    cases b
    · exact strOk_of "False"
    · exact strOk_of "True"
  | .int i, _ => by rw [PyData.shown_int]; exact strOk_of _
  | .str _, h => h.elim
  | .list xs, h => by
    rw [PyData.shown_list]
    exact strOk_app (strOk_app (strOk_of _) (strOk_join (strOk_of _) (strOk_shownAll xs h))) (strOk_of _)
  | .tuple xs, h => by
    have e : (PyData.tuple xs).shown = tupleText (PyData.shownAll xs) := by simp only [PyData.shown]
    rw [e]
    unfold tupleText
    refine strOk_app (strOk_app (strOk_of _) (strOk_join (strOk_of _) (strOk_shownAll xs h))) ?_
    split
    · exact strOk_of _
    · exact strOk_of _
  | .dict _, h => h.elim
theorem strOk_shownAll : ∀ (ds : List D), sms ds → ∀ x ∈ PyData.shownAll ds, PyData.strOk x = true
  | [], _, x, hx => by rw [PyData.shownAll_nil] at hx; cases hx
  | d :: ds, h, x, hx => by
    rw [PyData.shownAll_cons] at hx
    rcases List.mem_cons.mp hx with rfl | hx
    · exact strOk_shown d h.1
    · exact strOk_shownAll ds h.2 x hx
end
theorem shOk {d : D} (h : d.canLay0 = true) (hd : Nat.ble d.depth 64 = true) : SeqAt.shaped d = true := by
  unfold SeqAt.shaped
  rw [h, decide_eq_true (Nat.le_of_ble_eq_true hd)]; rfl
theorem la_i {i : Int} : (PyData.int i).canLay0 = true := rfl
theorem la_b {b : Bool} : (PyData.bool b).canLay0 = true := rfl
theorem la_n : PyData.none.canLay0 = true := rfl
theorem la_s {x : Str} (h : PyData.strOk x = true) : (PyData.str x).canLay0 = true := h
theorem la_l {xs : List D} (h : PyData.canLayAll0 xs = true) : (PyData.list xs).canLay0 = true := h
theorem la_t {xs : List D} (h : PyData.canLayAll0 xs = true) : (PyData.tuple xs).canLay0 = true := h
theorem la_nil : PyData.canLayAll0 [] = true := rfl
theorem la_cons {x : D} {xs : List D} (h : x.canLay0 = true) (t : PyData.canLayAll0 xs = true) : PyData.canLayAll0 (x :: xs) = true := by
  show (x.canLay0 && PyData.canLayAll0 xs) = true
  rw [h, t]; rfl
theorem la_app {xs ys : List D} (h : PyData.canLayAll0 xs = true) (t : PyData.canLayAll0 ys = true) : PyData.canLayAll0 (xs ++ ys) = true := by
  induction xs with
  | nil => exact t
  | cons x r ih =>
    have h : (x.canLay0 && PyData.canLayAll0 r) = true := h
    rw [Bool.and_eq_true] at h
    exact la_cons h.1 (ih h.2)
theorem la_int {ns : List Int} : PyData.canLayAll0 (ns.map .int) = true := by
  induction ns with
  | nil => rfl
  | cons n r ih => exact la_cons la_i ih
theorem sms_app {xs ys : List D} (h : sms xs) (t : sms ys) : sms (xs ++ ys) := by
  induction xs with
  | nil => exact t
  | cons x r ih => exact ⟨h.1, ih h.2⟩
end DI
namespace Lw
open DI
/-- here data is compared: the walk stops -/
theorem eqGuard {d e : D} {A B : Prop} (h : False) : Br (PySem.PyData.eqv d e) A B := h.elim
theorem eqGuard' {d e : D} {A B : Prop} (h : False) : Br (!PySem.PyData.eqv d e) A B := h.elim
/-- here something is shown: the walk stops -/
theorem reGuard {d : D} {Q : Prop} (h : False) : (d.showable = true ∧ (d.hasDict = false ∨ noL d = true) ∧ d.depth ≤ 64 ∧ d.shown.length ≤ PySem.sizeLine) ∧ Q := h.elim
local macro_rules | `(tactic| wtm_at "w") => `(tactic| (conv => whnf))
local macro_rules | `(tactic| wtm_at "bt") => `(tactic| first
  | with_reducible assumption
  | ((with_reducible apply Bt.mul) <;> wtm_at "bt")
  | ((with_reducible apply Bt.add) <;> wtm_at "bt")
  | ((with_reducible apply Bt.sub) <;> wtm_at "bt")
  | ((with_reducible apply Bt.neg); wtm_at "bt")
  | ((with_reducible apply Bt.abs); wtm_at "bt")
  | (apply Bt.lit; decide))
local macro_rules | `(tactic| wtm_at "btm") => `(tactic| first
  | with_reducible assumption
  | (apply Bt.mono; (· wtm_at "bt"); (· decide)))
local macro_rules | `(tactic| wtm_at "sm") => `(tactic| first
  | with_reducible assumption
  | ((with_reducible apply sm_int); (· wtm_at "bt"); (· decide))
  | with_reducible exact sm_bool
  | with_reducible exact sm_none
  | with_reducible exact sms_nil
  | ((with_reducible apply sm_tup); wtm_at "sm")
  | ((with_reducible apply sm_lst); wtm_at "sm")
  | ((with_reducible apply sms_cons) <;> wtm_at "sm")
  | ((with_reducible apply sms_app) <;> wtm_at "sm"))
local macro_rules | `(tactic| wtm_at "la") => `(tactic| first
  | with_reducible assumption
  | with_reducible exact la_i
  | with_reducible exact la_b
  | with_reducible exact la_n
  | with_reducible exact la_nil
  | with_reducible exact la_int
  | with_reducible exact strOk_of _
  | ((with_reducible apply la_s); wtm_at "la")
  | ((with_reducible apply la_t); wtm_at "la")
  | ((with_reducible apply la_l); wtm_at "la")
  | ((with_reducible apply la_cons) <;> wtm_at "la")
  | ((with_reducible apply la_app) <;> wtm_at "la")
  | ((with_reducible apply strOk_shown); wtm_at "sm"))
local macro_rules | `(tactic| wtm_at "sd") => `(tactic| first
  | with_reducible assumption
  | exact True.intro
  | ((with_reducible refine repOk ?_ rfl rfl); wtm_at "sm")
  | ((with_reducible refine shOk ?_ rfl); wtm_at "la")
  | ((with_reducible show mayPut _); assumption)
  | ((with_reducible apply Bt.mono); (· wtm_at "bt"); (· decide))
  | ((with_reducible apply Bt.mulOk); (· wtm_at "bt"); (· wtm_at "bt"); (· decide))
  | ((with_reducible apply mulOk) <;> omega)
  | ((with_reducible apply PowOk.small); (refine And.intro ?_ (And.intro ?_ ?_) <;> omega))
  | ((with_reducible apply PowOk.bt); (· wtm_at "bt"); (· decide); (· decide))
  | ((with_reducible apply Bt.divOk); (· wtm_at "bt"); (· omega); (· decide))
  | ((with_reducible apply Bt.sm); (· wtm_at "bt"); (· decide))
  | exact leLine rfl
  | omega
  | exact of_decide_eq_true rfl
  | rfl
  | ((with_reducible refine And.intro ?_ ?_) <;> wtm_at "sd"))
local macro_rules | `(tactic| wtm_at "t") => `(tactic| first
  | refine brTrue (decide_eq_true (by omega)) ?_
  | refine brFalse (decide_eq_false (by omega)) ?_
  | refine brN (brTrue (decide_eq_true (by omega)) ?_)
  | refine brN (brFalse (decide_eq_false (by omega)) ?_))
local macro_rules | `(tactic| wtm_at "l") => `(tactic| ((repeat (apply nfc; (· rfl))); rfl))
local macro_rules | `(tactic| wtm_at "h") => `(tactic| (conv => whnf); (fail_if_success (with_reducible refine shGuard ?_)); (fail_if_success (with_reducible refine shGuard' ?_)); first
  | (refine And.intro ?_ ?_; (· wtm_at "sd"))
  | refine brT ?_
  | refine brF ?_
  | (apply nrmI; (· wtm_at "l"))
  | refine optI rfl ?_
  | wtm_at "t")
local macro_rules | `(tactic| wtm_at "k") => `(tactic| repeat wtm_at "h")
local macro_rules | `(tactic| wtm_at "c") => `(tactic| (refine callOf ?_; (conv => whnf); (repeat apply Exists.intro); refine And.intro rfl ?_; (repeat (refine And.intro ?_ ?_; (· wtm_at "sd")))))
local macro_rules | `(tactic| wtm_at "j") => `(tactic| ((conv => whnf); (fail_if_success (with_reducible refine eqGuard ?_)); (fail_if_success (with_reducible refine eqGuard' ?_)); wtm_at "h"))
local macro_rules | `(tactic| wtm_at "e") => `(tactic| repeat first | wtm_at "j" | ((conv => whnf); refine sfI ?_))
local macro_rules | `(tactic| wtm_at "q") => `(tactic| ((conv => whnf); (fail_if_success (with_reducible refine reGuard ?_)); wtm_at "h"))
local macro_rules | `(tactic| wtm_at "r") => `(tactic| repeat first | wtm_at "q" | ((conv => whnf); refine sfI ?_))
local macro_rules | `(tactic| wtm_at "g") => `(tactic| repeat first | wtm_at "h" | ((conv => whnf); refine sfI ?_))
/-- the three numbers that a law's draws are made of; so many draws are left -/
def Pool (k : Nat) (ds : List D) : Prop := ∃ a b c : Int, ds = [.int a, .int b, .int c] ∧ 0 ≤ a ∧ 0 ≤ b ∧ b < 1000000007 ∧ 0 ≤ c ∧ c + (k : Int) ≤ 10000000
theorem Pool.le {k m : Nat} {ds : List D} (h : Pool k ds) (l : m ≤ k) : Pool m ds :=
  let ⟨a, b, c, h1, h2, h3, h4, h5, h6⟩ := h; ⟨a, b, c, h1, h2, h3, h4, h5, by omega⟩
abbrev Pt := List SV → (SV → List (List D) → Prop) → (Nat → List (List D) → Prop) → Prop
abbrev vI (i : Int) : SV := .v (.int i)
abbrev vB (b : Bool) : SV := .v (.bool b)
def Root (n s : Int) : Prop := 0 ≤ s ∧ s * s ≤ n ∧ n < (s + 1) * (s + 1)
def gcdAll (a : List Int) : Int := a.foldl (fun x y => (Int.gcd x y : Int)) 0
theorem getMap {α : Type} {f : α → D} {l : List α} {i : Nat} {d : D} (h : (l.map f)[i]? = some d) : ∃ z, l[i]? = some z ∧ d = f z := by
  rw [List.getElem?_map] at h
  cases z : l[i]? with
  | none => rw [z] at h; cases h
  | some x => rw [z] at h; cases h; exact ⟨x, rfl, rfl⟩
/-- the int that a thing is -/
def intD : D → Int
  | .int i => i
  | _ => 0
/-- a row of so many whole numbers -/
def isRow : D → Int → Bool
  | .tuple xs, n => decide ((xs.length : Int) = n) && xs.all isIntD
  | _, _ => false
def gcdD : D → Int
  | .tuple xs => gcdAll (xs.map intD)
  | _ => 0
def isLow (d : D) (n : Int) : Bool := isRow d n && decide (gcdD d = 1)
theorem ints_back : ∀ {xs : List D}, xs.all isIntD = true → (xs.map intD).map PySem.PyData.int = xs
  | [], _ => rfl
  | x :: r, h => by
    rw [List.all_cons, Bool.and_eq_true] at h
    cases x with
    | int i => rw [List.map_cons, List.map_cons, ints_back h.2]; rfl
    | _ => cases h.1
theorem row_ints {d : D} {n : Int} (h : isRow d n = true) : ∃ ns : List Int, d = .tuple (ns.map .int) ∧ (ns.length : Int) = n := by
  cases d with
  | tuple xs =>
    have h : (decide ((xs.length : Int) = n) && xs.all isIntD) = true := h
    rw [Bool.and_eq_true] at h
    refine ⟨xs.map intD, by rw [ints_back h.2], ?_⟩
    have := of_decide_eq_true h.1
    rw [List.length_map]; exact this
  | _ => cases h
theorem intD_map : ∀ ns : List Int, (ns.map PySem.PyData.int).map intD = ns
  | [] => rfl
  | n :: r => by rw [List.map_cons, List.map_cons, intD_map r]; rfl
theorem gcdAll_two (p q : Int) : gcdAll [p, q] = Int.gcd p q := by
  show ((Int.gcd (Int.gcd 0 p : Int) q : Nat) : Int) = _
  rw [Int.gcd_zero_left]
  simp [Int.gcd]
theorem gcd_step {x y : Int} (hx : 0 ≤ x) (hy : 0 ≤ y) : Int.gcd y (x % y) = Int.gcd x y := by
  obtain ⟨x, rfl⟩ := Int.eq_ofNat_of_zero_le hx
  obtain ⟨y, rfl⟩ := Int.eq_ofNat_of_zero_le hy
  rw [← Int.natCast_emod]
  show Nat.gcd y (x % y) = Nat.gcd x y
  rw [Nat.gcd_comm x y, Nat.gcd_comm y (x % y), ← Nat.gcd_rec]
abbrev MP (s : Option SV) : Prop := mayPut (some s)
theorem sq_le {a b : Int} (h0 : 0 ≤ a) (h : a ≤ b) : a * a ≤ b * b := Int.mul_le_mul h h h0 (by omega)
theorem Root.bt {n s : Int} {k : Nat} (h : Root n s) (hb : Bt k n) : Bt k s := by
  obtain ⟨h1, h2, h3⟩ := h
  have : s ≤ s * s ∨ s = 0 := by
    rcases Int.lt_or_eq_of_le h1 with z | z
    · left
      have := Int.mul_le_mul_of_nonneg_left (show 1 ≤ s by omega) h1
      omega
    · exact .inr z.symm
  have := Int.mul_nonneg h1 h1
  exact hb.le h1 (by omega)
theorem natAbs_le_dvd {a b : Int} (h : a ∣ b) (h0 : b ≠ 0) : a.natAbs ≤ b.natAbs := Nat.le_of_dvd (by omega) (Int.natAbs_dvd_natAbs.mpr h)
theorem dvd_of_cop {k m n : Int} (h : k ∣ m * n) (g : Int.gcd k m = 1) : k ∣ n := by
  rw [← Int.natAbs_dvd_natAbs, Int.natAbs_mul] at h
  rw [← Int.natAbs_dvd_natAbs]
  exact Nat.Coprime.dvd_of_dvd_mul_left (show Nat.gcd k.natAbs m.natAbs = 1 from g) h
theorem gcdFrom : ∀ (ns : List Int) (x : Int), (ns.foldl (fun x y => (Int.gcd x y : Int)) x ∣ x ∧ ∀ n ∈ ns, ns.foldl (fun x y => (Int.gcd x y : Int)) x ∣ n) ∧ ∀ d, d ∣ x → (∀ n ∈ ns, d ∣ n) → d ∣ ns.foldl (fun x y => (Int.gcd x y : Int)) x
  | [], x => ⟨⟨Int.dvd_refl x, fun _ h => by cases h⟩, fun d h _ => h⟩
  | n :: r, x => by
    obtain ⟨⟨h1, h2⟩, h3⟩ := gcdFrom r (Int.gcd x n)
    refine ⟨⟨Int.dvd_trans h1 (Int.gcd_dvd_left x n), fun m hm => ?_⟩, fun d hx hd => h3 d (Int.dvd_coe_gcd hx (hd n List.mem_cons_self)) fun m hm => hd m (List.mem_cons_of_mem _ hm)⟩
    rcases List.mem_cons.mp hm with e | e
    · subst e; exact Int.dvd_trans h1 (Int.gcd_dvd_right x m)
    · exact h2 m e
theorem gcdAll_dvd {ns : List Int} {n : Int} (h : n ∈ ns) : gcdAll ns ∣ n := (gcdFrom ns 0).1.2 n h
theorem dvd_gcdAll {ns : List Int} {d : Int} (h : ∀ n ∈ ns, d ∣ n) : d ∣ gcdAll ns := (gcdFrom ns 0).2 d (Int.dvd_zero d) h
theorem gcdAll_nonneg (ns : List Int) : 0 ≤ gcdAll ns := by
  have : ∀ (l : List Int) (x : Int), 0 ≤ x → 0 ≤ l.foldl (fun x y => (Int.gcd x y : Int)) x := by
    intro l
    induction l with
    | nil => intro x h; exact h
    | cons n r ih => intro x _; exact ih _ (Int.natCast_nonneg _)
  exact this ns 0 (Int.le_refl 0)
theorem gcdAll_zero {ns : List Int} (h : gcdAll ns = 0) : ∀ n ∈ ns, n = 0 := fun n hn => by
  have := gcdAll_dvd hn
  rw [h] at this; exact Int.zero_dvd.mp this
theorem gcdAll_bt {ns : List Int} {k : Nat} (h0 : gcdAll ns ≠ 0) (h : ∀ n ∈ ns, Bt k n) : Bt k (gcdAll ns) := by
  rcases Classical.em (∃ n ∈ ns, n ≠ 0) with ⟨n, hn, h1⟩ | z
  · exact (h n hn).abs_le (natAbs_le_dvd (gcdAll_dvd hn) h1)
  · exfalso
    apply h0
    have : (0 : Int) ∣ gcdAll ns := dvd_gcdAll fun n hn => by
      rcases Classical.em (n = 0) with e | e
      · rw [e]; exact Int.dvd_refl 0
      · exact absurd ⟨n, hn, e⟩ z
    exact Int.zero_dvd.mp this
/-- a row in lowest -/
def lowL (ns : List Int) : List Int := ns.map (· / gcdAll ns)
theorem gcdAll_pos {ns : List Int} (h : gcdAll ns ≠ 0) : 0 < gcdAll ns := by have := gcdAll_nonneg ns; omega
theorem lowL_gcd {ns : List Int} (h : gcdAll ns ≠ 0) : gcdAll (lowL ns) = 1 := by
  have hp := gcdAll_pos h
  have hd : gcdAll (lowL ns) * gcdAll ns ∣ gcdAll ns := by
    refine dvd_gcdAll fun n hn => ?_
    have h1 : gcdAll (lowL ns) ∣ n / gcdAll ns := gcdAll_dvd (List.mem_map_of_mem hn)
    have h2 := Int.mul_dvd_mul_right (gcdAll ns) h1
    rwa [Int.ediv_mul_cancel (gcdAll_dvd hn)] at h2
  have h0 := gcdAll_nonneg (lowL ns)
  obtain ⟨c, hc⟩ := hd
  have e : gcdAll (lowL ns) * c = 1 := by
    have : gcdAll ns * (gcdAll (lowL ns) * c) = gcdAll ns * 1 := by rw [Int.mul_one]; rw [← Int.mul_assoc, Int.mul_comm (gcdAll ns)]; exact hc.symm
    exact Int.eq_of_mul_eq_mul_left (by omega) this
  exact Int.eq_one_of_mul_eq_one_right h0 e
theorem gcd_one_iff {p q : Int} : Int.gcd p q = 1 ↔ gcdAll [p, q] = 1 := by rw [gcdAll_two]; omega
/-- p / q is a / b, lowest -/
structure IsFrac (a b p q : Int) : Prop where
  pos : 1 ≤ q
  low : Int.gcd p q = 1
  eq : p * b = a * q
theorem IsFrac.dvd_q {a b p q : Int} (h : IsFrac a b p q) : q ∣ b := by
  have : q ∣ p * b := by rw [h.eq]; exact Int.dvd_mul_left a q
  exact dvd_of_cop this (by rw [Int.gcd_comm]; exact h.low)
theorem IsFrac.dvd_p {a b p q : Int} (h : IsFrac a b p q) : p ∣ a := by
  have : p ∣ a * q := by rw [← h.eq]; exact Int.dvd_mul_right p b
  rw [Int.mul_comm] at this
  exact dvd_of_cop this h.low
theorem IsFrac.bq {a b p q : Int} {k : Nat} (h : IsFrac a b p q) (hb : b ≠ 0) (w : Bt k b) : Bt k q := w.abs_le (natAbs_le_dvd h.dvd_q hb)
theorem IsFrac.bp {a b p q : Int} {k : Nat} (h : IsFrac a b p q) (hb : b ≠ 0) (w : Bt k a) : Bt k p := by
  by_cases z : a = 0
  · have : p * b = 0 := by rw [h.eq, z, Int.zero_mul]
    rcases Int.mul_eq_zero.mp this with e | e
    · rw [e]; rw [z] at w; exact w
    · exact absurd e hb
  · exact w.abs_le (natAbs_le_dvd h.dvd_p z)
theorem IsFrac.uniq {a b p q p' q' : Int} (hb : b ≠ 0) (h : IsFrac a b p q) (k : IsFrac a b p' q') : p = p' ∧ q = q' := by
  have e : p * q' = p' * q := by
    have h1 : (p * q') * b = (p' * q) * b := by
      have := h.eq; have := k.eq
      calc (p * q') * b = (p * b) * q' := by grind
        _ = (a * q) * q' := by rw [h.eq]
        _ = (a * q') * q := by grind
        _ = (p' * b) * q := by rw [k.eq]
        _ = (p' * q) * b := by grind
    exact Int.eq_of_mul_eq_mul_right hb h1
  have d1 : q ∣ q' := by
    have : q ∣ p * q' := by rw [e]; exact Int.dvd_mul_left p' q
    exact dvd_of_cop this (by rw [Int.gcd_comm]; exact h.low)
  have d2 : q' ∣ q := by
    have : q' ∣ p' * q := by rw [← e]; exact Int.dvd_mul_left p q'
    exact dvd_of_cop this (by rw [Int.gcd_comm]; exact k.low)
  have hq := Int.dvd_antisymm (by have := h.pos; omega) (by have := k.pos; omega) d1 d2
  subst hq
  exact ⟨Int.eq_of_mul_eq_mul_right (by have := h.pos; omega) e, rfl⟩
/-- r is the floor of a / q as a root, in k halvings -/
def rX (a k : Int) : Int := (if a < 0 then -a else a) * 2 ^ (2 * k).toNat
structure IsRF (a q k r : Int) : Prop where
  up : 0 ≤ a → 0 ≤ r ∧ r * r * q ≤ rX a k ∧ rX a k < (r + 1) * (r + 1) * q
  down : a < 0 → r < 0 ∧ (r + 1) * (r + 1) * q < rX a k ∧ rX a k ≤ r * r * q
theorem sq_lt_of {x y q : Int} (hq : 1 ≤ q) (hx : 0 ≤ x) (hy : 0 ≤ y) (h : x * x * q < y * y * q) : x < y := by
  rcases Int.lt_or_le x y with z | z
  · exact z
  · have := Int.mul_le_mul_of_nonneg_right (sq_le hy z) (show 0 ≤ q by omega)
    omega
theorem IsRF.uniq {a q k r s : Int} (hq : 1 ≤ q) (h : IsRF a q k r) (g : IsRF a q k s) : r = s := by
  rcases Int.lt_or_le a 0 with z | z
  · obtain ⟨h1, h2, h3⟩ := h.down z
    obtain ⟨g1, g2, g3⟩ := g.down z
    have e1 : (-(r + 1)) * (-(r + 1)) * q < (-s) * (-s) * q := by
      rw [Int.neg_mul_neg, Int.neg_mul_neg]; omega
    have e2 : (-(s + 1)) * (-(s + 1)) * q < (-r) * (-r) * q := by
      rw [Int.neg_mul_neg, Int.neg_mul_neg]; omega
    have := sq_lt_of hq (by omega) (by omega) e1
    have := sq_lt_of hq (by omega) (by omega) e2
    omega
  · obtain ⟨h1, h2, h3⟩ := h.up z
    obtain ⟨g1, g2, g3⟩ := g.up z
    have := sq_lt_of (x := r) (y := s + 1) hq (by omega) (by omega) (by omega)
    have := sq_lt_of (x := s) (y := r + 1) hq (by omega) (by omega) (by omega)
    omega
theorem rX_nonneg (a k : Int) : 0 ≤ rX a k := Int.mul_nonneg (by split <;> omega) (Int.le_of_lt (Int.pow_pos (by decide)))
theorem IsRF.bt {a q k r : Int} {n : Nat} (hq : 1 ≤ q) (hX : Bt n (rX a k)) (h : IsRF a q k r) : Bt n r := by
  have hx := hX.lt
  have key : ∀ u : Int, 0 ≤ u → u ≤ u * u * q := fun u hu => by
    have h1 : u * u ≤ u * u * q := by
      have := Int.mul_le_mul_of_nonneg_left (show 1 ≤ q by omega) (Int.mul_nonneg hu hu)
      omega
    have h2 : u ≤ u * u := by
      rcases Int.lt_or_le u 1 with z | z
      · have : u = 0 := by omega
        subst this; decide
      · have := Int.mul_le_mul_of_nonneg_left z hu
        omega
    omega
  have x0 := rX_nonneg a k
  rcases Int.lt_or_le a 0 with z | z
  · obtain ⟨h1, h2, h3⟩ := h.down z
    have e : (-(r + 1)) * (-(r + 1)) = (r + 1) * (r + 1) := Int.neg_mul_neg ..
    have := key (-(r + 1)) (by omega)
    rw [e] at this
    exact ⟨by omega⟩
  · obtain ⟨h1, h2, h3⟩ := h.up z
    have := key r h1
    exact ⟨by omega⟩
abbrev Pr := Int × Int
abbrev dP (p : Pr) : D := .tuple [.int p.1, .int p.2]
def mulP (p q : Pr) : Pr := (p.1 * q.1 - p.2 * q.2, p.1 * q.2 + p.2 * q.1)
def lowP (p : Pr) : Pr := (p.1 / gcdAll [p.1, p.2], p.2 / gcdAll [p.1, p.2])
def Bp (k : Nat) (p : Pr) : Prop := Bt k p.1 ∧ Bt k p.2
/-- a direction -/
def DirP (p : Pr) : Prop := gcdAll [p.1, p.2] = 1
theorem sq_nn (a : Int) : 0 ≤ a * a := by
  rcases Int.lt_or_le a 0 with h | h
  · have := Int.mul_nonneg (show 0 ≤ -a by omega) (show 0 ≤ -a by omega)
    rw [Int.neg_mul_neg] at this; exact this
  · exact Int.mul_nonneg h h
theorem sq_pos {a : Int} (h : a ≠ 0) : 0 < a * a := by
  have := sq_nn a
  have h2 : a * a ≠ 0 := fun e => by rcases Int.mul_eq_zero.mp e with z | z <;> exact h z
  omega
theorem gcdP_zero {p : Pr} : gcdAll [p.1, p.2] = 0 ↔ p = (0, 0) := by
  constructor
  · intro h
    have a := gcdAll_zero h p.1 (by simp)
    have b := gcdAll_zero h p.2 (by simp)
    ext <;> assumption
  · rintro rfl; rfl
theorem DirP.nz {p : Pr} (h : DirP p) : p ≠ (0, 0) := fun e => by have := gcdP_zero.mpr e; unfold DirP at h; omega
theorem Bp.mul {k m : Nat} {p q : Pr} (h : Bp k p) (g : Bp m q) : Bp (k + m + 1) (mulP p q) := by
  refine ⟨((h.1.mul g.1).sub (h.2.mul g.2)).mono ?_, ((h.1.mul g.2).add (h.2.mul g.1)).mono ?_⟩ <;> omega
theorem Bp.mono {k m : Nat} {p : Pr} (h : Bp k p) (l : k ≤ m) : Bp m p := ⟨h.1.mono l, h.2.mono l⟩
theorem div_bt {k : Nat} {x g : Int} (h : Bt k x) (hg : 0 < g) (hd : g ∣ x) : Bt k (x / g) := by
  obtain ⟨y, rfl⟩ := hd
  rw [Int.mul_ediv_cancel_left _ (by omega)]
  refine h.abs_le ?_
  rw [Int.natAbs_mul]
  exact Nat.le_mul_of_pos_left _ (by omega)
theorem Bp.low {k : Nat} {p : Pr} (h : Bp k p) (hp : p ≠ (0, 0)) : Bp k (lowP p) := by
  have g := gcdAll_pos (fun e => hp (gcdP_zero.mp e))
  exact ⟨div_bt h.1 g (gcdAll_dvd (by simp)), div_bt h.2 g (gcdAll_dvd (by simp))⟩
abbrev dL (ns : List Int) : D := .tuple (ns.map .int)
theorem gcdAll_scale {k : Int} (hk : 0 < k) (ns : List Int) : gcdAll (ns.map (k * ·)) = k * gcdAll ns := by
  apply Int.dvd_antisymm (gcdAll_nonneg _) (Int.mul_nonneg (by omega) (gcdAll_nonneg _))
  · have h1 : k ∣ gcdAll (ns.map (k * ·)) := dvd_gcdAll fun n hn => by
      obtain ⟨m, _, rfl⟩ := List.mem_map.mp hn
      exact Int.dvd_mul_right k m
    obtain ⟨c, hc⟩ := h1
    rw [hc]
    refine Int.mul_dvd_mul_left k (dvd_gcdAll fun n hn => ?_)
    have h2 : k * c ∣ k * n := by rw [← hc]; exact gcdAll_dvd (List.mem_map_of_mem hn)
    exact Int.dvd_of_mul_dvd_mul_left (by omega) h2
  · refine dvd_gcdAll fun n hn => ?_
    obtain ⟨m, hm, rfl⟩ := List.mem_map.mp hn
    exact Int.mul_dvd_mul_left k (gcdAll_dvd hm)
theorem lowL_mul (ns : List Int) : (lowL ns).map (gcdAll ns * ·) = ns := by
  unfold lowL
  rw [List.map_map]
  have : ns.map ((gcdAll ns * ·) ∘ (· / gcdAll ns)) = ns.map id := List.map_congr_left fun n hn => Int.mul_ediv_cancel' (gcdAll_dvd hn)
  rw [this, List.map_id]
theorem lowL_bt {ns : List Int} {k : Nat} (h0 : gcdAll ns ≠ 0) (h : ∀ n ∈ ns, Bt k n) : ∀ n ∈ lowL ns, Bt k n := fun n hn => by
  obtain ⟨m, hm, rfl⟩ := List.mem_map.mp hn
  exact div_bt (h m hm) (gcdAll_pos h0) (gcdAll_dvd hm)
/-- a place's four numbers -/
structure PlaceI (x y z w : Int) : Prop where
  low : gcdAll [x, y, z, w] = 1
  pos : 1 ≤ w
  on : x * x + y * y + z * z = w * w
def B4 (k : Nat) (x y z w : Int) : Prop := Bt k x ∧ Bt k y ∧ Bt k z ∧ Bt k w
def isPl : D → Bool
  | .tuple [.int x, .int y, .int z, .int w] => decide (gcdAll [x, y, z, w] = 1) && (decide (1 ≤ w) && decide (x * x + y * y + z * z = w * w))
  | _ => false
theorem PlaceI.is {x y z w : Int} (h : PlaceI x y z w) : isPl (dL [x, y, z, w]) = true := by
  show (decide (gcdAll [x, y, z, w] = 1) && (decide (1 ≤ w) && decide (x * x + y * y + z * z = w * w))) = true
  rw [decide_eq_true h.low, decide_eq_true h.pos, decide_eq_true h.on]; rfl
theorem four_bt {k : Nat} {a b c d : Int} (h1 : Bt k a) (h2 : Bt k b) (h3 : Bt k c) (h4 : Bt k d) : ∀ n ∈ [a, b, c, d], Bt k n := by
  intro n hn
  simp only [List.mem_cons, List.not_mem_nil, or_false] at hn
  rcases hn with rfl | rfl | rfl | rfl <;> assumption
/-- the place at (p, q) / m -/
def atL (p q m : Int) : List Int := lowL [2 * p * m, 2 * q * m, m * m - p * p - q * q, m * m + p * p + q * q]
theorem at_nz {p q m : Int} (h : 1 ≤ m) : gcdAll [2 * p * m, 2 * q * m, m * m - p * p - q * q, m * m + p * p + q * q] ≠ 0 := fun e => by
  have h4 := gcdAll_zero e (m * m + p * p + q * q) (by simp)
  have := sq_pos (show m ≠ 0 by omega)
  have := sq_nn p
  have := sq_nn q
  omega
theorem pl_of_scale {g x y z w a b c d : Int} (hg : 0 < g) (low : gcdAll [x, y, z, w] = 1) (e1 : g * x = a) (e2 : g * y = b) (e3 : g * z = c) (e4 : g * w = d) (hd : 0 < d) (on : a * a + b * b + c * c = d * d) : PlaceI x y z w := by
  refine ⟨low, ?_, ?_⟩
  · rcases Int.lt_or_le w 1 with h | h
    · have := Int.mul_le_mul_of_nonneg_left (show w ≤ 0 by omega) (show 0 ≤ g by omega)
      rw [Int.mul_zero] at this; omega
    · exact h
  · have hg2 : g * g ≠ 0 := fun e => by rcases Int.mul_eq_zero.mp e with z | z <;> omega
    apply Int.eq_of_mul_eq_mul_left hg2
    subst e1 e2 e3 e4
    grind
theorem at_place {p q m : Int} (h : 1 ≤ m) : ∃ x y z w, atL p q m = [x, y, z, w] ∧ PlaceI x y z w := by
  have h0 := at_nz (p := p) (q := q) h
  have hl := lowL_mul [2 * p * m, 2 * q * m, m * m - p * p - q * q, m * m + p * p + q * q]
  refine ⟨_, _, _, _, rfl, ?_⟩
  have hg := lowL_gcd h0
  simp only [lowL, List.map_cons, List.map_nil, List.cons.injEq, and_true] at hl
  obtain ⟨e1, e2, e3, e4⟩ := hl
  refine pl_of_scale (gcdAll_pos h0) hg e1 e2 e3 e4 ?_ (by grind)
  have := sq_pos (show m ≠ 0 by omega)
  have := sq_nn p
  have := sq_nn q
  omega
theorem ixc {xs : List D} (i : Nat) {k : Int} {d : D} (hk : k = (i : Int)) (h : xs[i]? = some d) : ((ixAt xs.length k).bind fun j => xs[j]?) = some d := by
  have hl : i < xs.length := (List.getElem?_eq_some_iff.mp h).1
  subst hk
  rw [ixAt_pos (by omega) (by omega)]
  exact h
def apart (a b c x y z : Int) : Bool := !(decide (b * z - c * y = 0) && (decide (c * x - a * z = 0) && decide (a * y - b * x = 0)))
def tN (a b c d : Int) : Int := a * a + b * b + c * c + d * d
theorem eqvAll_ints : ∀ xs ys : List Int, PySem.PyData.eqvAll (xs.map .int) (ys.map .int) = decide (xs = ys)
  | [], [] => by rfl
  | [], _ :: _ => by rfl
  | _ :: _, [] => by rfl
  | x :: xs, y :: ys => by
    rw [List.map_cons, List.map_cons, PySem.PyData.eqvAll, eqvAll_ints xs ys]
    have : PySem.PyData.eqv (.int x) (.int y) = decide (x = y) := by rw [Bool.eq_iff_iff]; simp [PySem.PyData.eqv]
    rw [this, Bool.eq_iff_iff]; simp
theorem ex_nz {ns : List Int} (h : gcdAll ns ≠ 0) : ∃ n ∈ ns, n ≠ 0 := Classical.byContradiction fun hh => h (by
  have e : ∀ n ∈ ns, n = 0 := fun n hm => Classical.byContradiction fun hz => hh ⟨n, hm, hz⟩
  have z : ∀ k : Nat, gcdAll (List.replicate k 0) = 0 := by
    intro k
    unfold gcdAll
    induction k with
    | zero => rfl
    | succ k ih => rw [List.replicate_succ, List.foldl_cons]; exact ih
  rw [show ns = List.replicate ns.length 0 from List.eq_replicate_iff.mpr ⟨rfl, e⟩]
  exact z _)
theorem sm_dL {k : Nat} (hk : k ≤ 1920) : ∀ {ns : List Int}, (∀ n ∈ ns, Bt k n) → sm (dL ns) := fun h => sm_tup (sms_ints fun n hn => (h n hn).sm hk)
theorem B4.sm {k : Nat} {x y z w : Int} (h : B4 k x y z w) (hk : k ≤ 1920 := by decide) : sm (dL [x, y, z, w]) := sm_dL hk (four_bt h.1 h.2.1 h.2.2.1 h.2.2.2)
/-- the whole numbers of a row are of at most k bits -/
def dB (k : Nat) : D → Prop
  | .tuple xs => ∀ x ∈ xs, ∀ i, x = .int i → Bt k i
  | _ => True
theorem dB_L {k m : Nat} {ns : List Int} (h : ∀ n ∈ ns, Bt k n) (l : k ≤ m) : dB m (dL ns) := fun x hx i e => by
  obtain ⟨n, hn, rfl⟩ := List.mem_map.mp hx
  cases e; exact (h _ hn).mono l
theorem dB_get {k : Nat} {ns : List Int} (h : dB k (dL ns)) : ∀ n ∈ ns, Bt k n := fun n hn => h _ (List.mem_map_of_mem hn) n rfl
theorem isPl_low {d : D} (h : isLow d 4 = false) : isPl d = false := by
  unfold isPl
  split
  · rename_i x y z w
    have e : isLow (.tuple [.int x, .int y, .int z, .int w]) 4 = decide (gcdAll [x, y, z, w] = 1) := rfl
    rw [e] at h
    rw [h]; rfl
  · rfl
/-- a mark's three numbers, or a place's four -/
def Mk3 (ns : List Int) : Prop := (∃ x y z, ns = [x, y, z] ∧ gcdAll [x, y, z] = 1) ∨ ∃ x y z w, ns = [x, y, z, w] ∧ PlaceI x y z w
theorem sq_dvd {a b : Int} (h : a * a ∣ b * b) : a ∣ b := by
  rw [← Int.natAbs_dvd_natAbs] at h ⊢
  rw [Int.natAbs_mul, Int.natAbs_mul] at h
  have e : ∀ n : Nat, n * n = n ^ 2 := fun n => by rw [Nat.pow_succ, Nat.pow_succ, Nat.pow_zero, Nat.one_mul]
  rw [e, e] at h
  exact (Nat.pow_dvd_pow_iff (by decide)).mp h
/-- a place's first three numbers are lowest -/
theorem PlaceI.mark {x y z w : Int} (h : PlaceI x y z w) : gcdAll [x, y, z] = 1 := by
  have d1 : gcdAll [x, y, z] ∣ x := gcdAll_dvd (by simp)
  have d2 : gcdAll [x, y, z] ∣ y := gcdAll_dvd (by simp)
  have d3 : gcdAll [x, y, z] ∣ z := gcdAll_dvd (by simp)
  have d4 : gcdAll [x, y, z] ∣ w := sq_dvd (by
    rw [← h.on]
    exact Int.dvd_add (Int.dvd_add (Int.mul_dvd_mul d1 d1) (Int.mul_dvd_mul d2 d2)) (Int.mul_dvd_mul d3 d3))
  have d5 : gcdAll [x, y, z] ∣ gcdAll [x, y, z, w] := dvd_gcdAll (fun n hn => by
    simp only [List.mem_cons, List.not_mem_nil, or_false] at hn
    rcases hn with rfl | rfl | rfl | rfl <;> assumption)
  rw [h.low] at d5
  exact Int.eq_one_of_dvd_one (gcdAll_nonneg _) d5
abbrev Qn := Int × Int × Int × Int
abbrev qL (q : Qn) : List Int := [q.1, q.2.1, q.2.2.1, q.2.2.2]
abbrev dQ (q : Qn) : D := .tuple [.int q.1, .int q.2.1, .int q.2.2.1, .int q.2.2.2]
def ldr : List Int → Int
  | [] => 0
  | n :: r => if n = 0 then ldr r else n
def intsD : D → List Int
  | .tuple xs => xs.map intD
  | _ => []
def isTn (d : D) : Bool := isLow d 4 && decide (0 < ldr (intsD d))
structure IsT (q : Qn) : Prop where
  low : gcdAll (qL q) = 1
  pos : 0 < ldr (qL q)
theorem IsT.is {q : Qn} (h : IsT q) : isTn (dQ q) = true := by
  show (decide (gcdAll (qL q) = 1) && decide (0 < ldr (qL q))) = true
  rw [decide_eq_true h.low, decide_eq_true h.pos]; rfl
def sQ (g : Int) (q : Qn) : Qn := (g * q.1, g * q.2.1, g * q.2.2.1, g * q.2.2.2)
def mulQ (p q : Qn) : Qn := (p.1 * q.1 - p.2.1 * q.2.1 - p.2.2.1 * q.2.2.1 - p.2.2.2 * q.2.2.2, p.1 * q.2.1 + p.2.1 * q.1 + p.2.2.1 * q.2.2.2 - p.2.2.2 * q.2.2.1, p.1 * q.2.2.1 - p.2.1 * q.2.2.2 + p.2.2.1 * q.1 + p.2.2.2 * q.2.1, p.1 * q.2.2.2 + p.2.1 * q.2.2.1 - p.2.2.1 * q.2.1 + p.2.2.2 * q.1)
def conQ (q : Qn) : Qn := (q.1, -q.2.1, -q.2.2.1, -q.2.2.2)
def nQ (q : Qn) : Int := tN q.1 q.2.1 q.2.2.1 q.2.2.2
theorem ldr_scale {g : Int} (h : g ≠ 0) : ∀ ns : List Int, ldr (ns.map (g * ·)) = g * ldr ns
  | [] => (Int.mul_zero g).symm
  | n :: r => by
    rw [List.map_cons]; unfold ldr
    by_cases e : n = 0
    · rw [if_pos e, if_pos (by rw [e, Int.mul_zero]), ldr_scale h r]
    · rw [if_neg e, if_neg (Int.mul_ne_zero h e)]
theorem gcdAll_neg (ns : List Int) : gcdAll (ns.map (-1 * ·)) = gcdAll ns := by
  unfold gcdAll
  have : ∀ (ns : List Int) (x : Int), (ns.map (-1 * ·)).foldl (fun x y => (Int.gcd x y : Int)) x = ns.foldl (fun x y => (Int.gcd x y : Int)) x := by
    intro ns
    induction ns with
    | nil => intro x; rfl
    | cons n r ih => intro x; rw [List.map_cons, List.foldl_cons, List.foldl_cons, ih, Int.neg_one_mul, Int.gcd_neg]
  exact this ns 0
theorem gcdAll_abs {g : Int} (h : g ≠ 0) (ns : List Int) : gcdAll (ns.map (g * ·)) = (g.natAbs : Int) * gcdAll ns := by
  rcases Int.lt_or_lt_of_ne h with z | z
  · have e : ns.map (g * ·) = (ns.map ((-g) * ·)).map (-1 * ·) := by
      rw [List.map_map]; refine List.map_congr_left fun n _ => ?_
      show g * n = -1 * (-g * n); grind
    rw [e, gcdAll_neg, gcdAll_scale (by omega), show ((g.natAbs : Nat) : Int) = -g by omega]
  · rw [gcdAll_scale z, show ((g.natAbs : Nat) : Int) = g by omega]
theorem qL_sQ (g : Int) (q : Qn) : qL (sQ g q) = (qL q).map (g * ·) := rfl
theorem sQ_inj {g : Int} {p q : Qn} (h : g ≠ 0) (e : sQ g p = sQ g q) : p = q := by
  unfold sQ at e
  have e1 := congrArg (·.1) e
  have e2 := congrArg (·.2.1) e
  have e3 := congrArg (·.2.2.1) e
  have e4 := congrArg (·.2.2.2) e
  dsimp only at e1 e2 e3 e4
  ext
  · exact Int.eq_of_mul_eq_mul_left h e1
  · exact Int.eq_of_mul_eq_mul_left h e2
  · exact Int.eq_of_mul_eq_mul_left h e3
  · exact Int.eq_of_mul_eq_mul_left h e4
theorem IsT.uniq {p q : Qn} {a b : Int} (hp : IsT p) (hq : IsT q) (ha : a ≠ 0) (hb : b ≠ 0) (e : sQ a p = sQ b q) : p = q := by
  have e1 := congrArg (fun q => gcdAll (qL q)) e
  have e2 := congrArg (fun q => ldr (qL q)) e
  replace e1 : gcdAll (qL (sQ a p)) = gcdAll (qL (sQ b q)) := e1
  replace e2 : ldr (qL (sQ a p)) = ldr (qL (sQ b q)) := e2
  rw [qL_sQ, qL_sQ, gcdAll_abs ha, gcdAll_abs hb, hp.low, hq.low] at e1
  rw [qL_sQ, qL_sQ, ldr_scale ha, ldr_scale hb] at e2
  have h1 := hp.pos
  have h2 := hq.pos
  have e3 : a = b := by
    rcases Int.lt_or_lt_of_ne ha with z | z
    · rcases Int.lt_or_lt_of_ne hb with w | w
      · omega
      · have := Int.mul_neg_of_neg_of_pos z h1
        have := Int.mul_pos w h2
        omega
    · rcases Int.lt_or_lt_of_ne hb with w | w
      · have := Int.mul_pos z h1
        have := Int.mul_neg_of_neg_of_pos w h2
        omega
      · omega
  subst e3
  exact sQ_inj ha e
theorem sq_sum {a b c d : Int} (h : tN a b c d = 0) : a = 0 ∧ b = 0 ∧ c = 0 ∧ d = 0 := by
  unfold tN at h
  have h1 := sq_nn a
  have h2 := sq_nn b
  have h3 := sq_nn c
  have h4 := sq_nn d
  have k : ∀ x : Int, x * x = 0 → x = 0 := fun x e => (Int.mul_eq_zero.mp e).elim id id
  exact ⟨k a (by omega), k b (by omega), k c (by omega), k d (by omega)⟩
theorem nQ_nz {q : Qn} : nQ q ≠ 0 ↔ gcdAll (qL q) ≠ 0 := by
  refine ⟨fun h e => ?_, fun h e => ?_⟩
  · have z := gcdAll_zero e
    apply h
    unfold nQ tN
    rw [z q.1 (by simp), z q.2.1 (by simp), z q.2.2.1 (by simp), z q.2.2.2 (by simp)]; rfl
  · obtain ⟨n, hn, h0⟩ := ex_nz h
    obtain ⟨h1, h2, h3, h4⟩ := sq_sum e
    simp only [List.mem_cons, List.not_mem_nil, or_false] at hn
    rcases hn with rfl | rfl | rfl | rfl <;> exact h0 (by assumption)
theorem nQ_nn (q : Qn) : 0 ≤ nQ q := by
  unfold nQ tN
  have h1 := sq_nn q.1
  have h2 := sq_nn q.2.1
  have h3 := sq_nn q.2.2.1
  have h4 := sq_nn q.2.2.2
  omega
theorem IsT.nz {q : Qn} (h : IsT q) : gcdAll (qL q) ≠ 0 := by rw [h.low]; decide
theorem IsT.n {q : Qn} (h : IsT q) : 0 < nQ q := by have := nQ_nz.mpr h.nz; have := nQ_nn q; omega
theorem Mk3.nz {ns : List Int} (h : Mk3 ns) : gcdAll ns ≠ 0 := by
  rcases h with ⟨x, y, z, rfl, h⟩ | ⟨x, y, z, w, rfl, h⟩
  · rw [h]; decide
  · rw [h.low]; decide
theorem Mk3.cons {ns : List Int} (h : Mk3 ns) : ∃ x y z r, ns = x :: y :: z :: r ∧ r.length ≤ 1 := by
  rcases h with ⟨x, y, z, rfl, h⟩ | ⟨x, y, z, w, rfl, h⟩
  · exact ⟨x, y, z, [], rfl, by decide⟩
  · exact ⟨x, y, z, [w], rfl, Nat.le_refl 1⟩
def BQ (k : Nat) (q : Qn) : Prop := B4 k q.1 q.2.1 q.2.2.1 q.2.2.2
theorem B4.mono {k m : Nat} {a b c d : Int} (h : B4 k a b c d) (l : k ≤ m) : B4 m a b c d := ⟨h.1.mono l, h.2.1.mono l, h.2.2.1.mono l, h.2.2.2.mono l⟩
theorem BQ.mono {k m : Nat} {q : Qn} (h : BQ k q) (l : k ≤ m) : BQ m q := B4.mono h l
theorem BQ.con {k : Nat} {q : Qn} (h : BQ k q) : BQ k (conQ q) := ⟨h.1, h.2.1.neg, h.2.2.1.neg, h.2.2.2.neg⟩
theorem BQ.mul {k m : Nat} {p q : Qn} (h : BQ k p) (g : BQ m q) : BQ (k + m + 3) (mulQ p q) := by
  obtain ⟨h1, h2, h3, h4⟩ := h
  obtain ⟨g1, g2, g3, g4⟩ := g
  refine ⟨?_, ?_, ?_, ?_⟩
  · exact ((((h1.mul g1).sub (h2.mul g2)).sub (h3.mul g3)).sub (h4.mul g4)).mono (by omega)
  · exact ((((h1.mul g2).add (h2.mul g1)).add (h3.mul g4)).sub (h4.mul g3)).mono (by omega)
  · exact ((((h1.mul g3).sub (h2.mul g4)).add (h3.mul g1)).add (h4.mul g2)).mono (by omega)
  · exact ((((h1.mul g4).add (h2.mul g3)).sub (h3.mul g2)).add (h4.mul g1)).mono (by omega)
theorem bt2 : Bt 2 2 := ⟨by decide⟩
theorem getMapD {α : Type} {f : α → D} {l : List α} {i : Nat} {d : D} (h : (l.map f)[i]? = some d) : ∃ z, l[i]? = some z ∧ d = f z := by
  rw [List.getElem?_map] at h
  cases z : l[i]? with
  | none => rw [z] at h; cases h
  | some x => rw [z] at h; cases h; exact ⟨x, rfl, rfl⟩
theorem Mk3.low {ns : List Int} (h : Mk3 ns) : gcdAll ns = 1 := by
  rcases h with ⟨x, y, z, rfl, h⟩ | ⟨x, y, z, w, rfl, h⟩
  · exact h
  · exact h.low
theorem sq_le_abs {x w : Int} (hw : 0 ≤ w) (h : x * x ≤ w * w) : x.natAbs ≤ w.natAbs := by
  rcases Nat.lt_or_ge w.natAbs x.natAbs with l | l
  · exfalso
    have e1 : x * x = (x.natAbs : Int) * x.natAbs := by rw [← Int.natAbs_mul_self]; exact Int.natCast_mul ..
    have e2 : w * w = (w.natAbs : Int) * w.natAbs := by rw [← Int.natAbs_mul_self]; exact Int.natCast_mul ..
    have := Nat.mul_lt_mul'' l l
    rw [e1, e2] at h
    have h2 : x.natAbs * x.natAbs ≤ w.natAbs * w.natAbs := by exact_mod_cast h
    omega
  · exact l
theorem PlaceI.bt {x y z w : Int} {k : Nat} (h : PlaceI x y z w) (hb : Bt k w) : B4 k x y z w := by
  have h0 := h.on
  have h1 := sq_nn x
  have h2 := sq_nn y
  have h3 := sq_nn z
  have hw : 0 ≤ w := by have := h.pos; omega
  exact ⟨hb.abs_le (sq_le_abs hw (by omega)), hb.abs_le (sq_le_abs hw (by omega)), hb.abs_le (sq_le_abs hw (by omega)), hb⟩
/-- such a place leads the way that the other one does -/
structure OnWay (x y z a b c x' y' z' : Int) : Prop where
  ex : ∃ g p q : Int, 0 < g ∧ 0 < q ∧ g * x' = p * x + q * a ∧ g * y' = p * y + q * b ∧ g * z' = p * z + q * c
theorem OnWay.apart {x y z a b c x' y' z' : Int} (h : OnWay x y z a b c x' y' z') (k : Lw.apart x y z a b c = true) : Lw.apart x y z x' y' z' = true := by
  obtain ⟨g, p, q, hg, hq, e1, e2, e3⟩ := h.ex
  cases e : Lw.apart x y z x' y' z' with
  | true => rfl
  | false =>
    exfalso
    unfold Lw.apart at e k
    simp only [Bool.not_eq_false', Bool.and_eq_true, decide_eq_true_eq] at e
    obtain ⟨f1, f2, f3⟩ := e
    have c1 : q * (y * c - z * b) = 0 := by
      have : q * (y * c - z * b) = g * (y * z' - z * y') := by grind
      rw [this, f1, Int.mul_zero]
    have c2 : q * (z * a - x * c) = 0 := by
      have : q * (z * a - x * c) = g * (z * x' - x * z') := by grind
      rw [this, f2, Int.mul_zero]
    have c3 : q * (x * b - y * a) = 0 := by
      have : q * (x * b - y * a) = g * (x * y' - y * x') := by grind
      rw [this, f3, Int.mul_zero]
    have z0 : ∀ {n : Int}, q * n = 0 → n = 0 := fun h => (Int.mul_eq_zero.mp h).resolve_left (by omega)
    rw [decide_eq_true (z0 c1), decide_eq_true (z0 c2), decide_eq_true (z0 c3)] at k
    cases k
/-- a place's four numbers -/
structure PlI where
  x : Int
  y : Int
  z : Int
  w : Int
abbrev PlI.d (p : PlI) : D := .tuple [.int p.x, .int p.y, .int p.z, .int p.w]
structure PlI.ok (p : PlI) (k : Nat) : Prop where
  pl : PlaceI p.x p.y p.z p.w
  bt : B4 k p.x p.y p.z p.w
/-- a place that is not in line with another one -/
structure PlI.at (a p : PlI) (k : Nat) : Prop where
  o : a.ok k
  ap : apart p.x p.y p.z a.x a.y a.z = true
def waysS : List PySem.Str := ["disc", "even", "plain", "round", "sight", "straight"]
def isWay : D → Bool
  | .str x => waysS.contains x
  | _ => false
theorem isWay_any (x : PySem.Str) : (([.str "disc", .str "even", .str "plain", .str "round", .str "sight", .str "straight"] : List D).any fun z => PySem.PyData.eqv z (.str x)) = waysS.contains x := by
  have k : ∀ l : List PySem.Str, ((l.map PySem.PyData.str).any fun z => PySem.PyData.eqv z (.str x)) = l.contains x := by
    intro l
    induction l with
    | nil => rfl
    | cons y r ih =>
      rw [List.map_cons, List.any_cons, ih, List.contains_cons]
      congr 1
      show decide (y = x) = (x == y)
      by_cases h : y = x
      · subst h; simp
      · rw [decide_eq_false h]
        have : (x == y) = false := by
          cases e : x == y with
          | false => rfl
          | true => exact absurd (eq_of_beq e).symm h
        rw [this]
  exact k waysS
theorem way_six {x : PySem.Str} (h : x ∈ waysS) : x = "disc" ∨ x = "even" ∨ x = "plain" ∨ x = "round" ∨ x = "sight" ∨ x = "straight" := by
  unfold waysS at h
  simp only [List.mem_cons, List.not_mem_nil, or_false] at h
  exact h
theorem way_is {x : PySem.Str} (h : x ∈ waysS) : isWay (.str x) = true := by
  show waysS.contains x = true
  exact List.contains_iff_mem.mpr h
/-- whether a way draws a place that stands there, turned -/
def drawnW (x : PySem.Str) (c : Int) (ab : Bool) (cw : Bool) : Bool :=
  if x = "straight" ∨ x = "sight" then decide (0 < c) else if x = "even" ∨ x = "plain" then ab else cw
theorem eqv_L (as bs : List Int) : PySem.PyData.eqv (dL as) (dL bs) = decide (as = bs) := by
  show PySem.PyData.eqv (.tuple (as.map .int)) (.tuple (bs.map .int)) = _
  rw [PySem.PyData.eqv, eqvAll_ints]
/-- a text, if it is one, is well made -/
def StrS (d : D) : Prop := ∀ x, d = .str x → PySem.SeqAt.shaped (.str x) = true
theorem way_shaped {x : PySem.Str} (h : x ∈ waysS) : PySem.SeqAt.shaped (.str x) = true := by
  rcases way_six h with rfl | rfl | rfl | rfl | rfl | rfl <;> decide +kernel
theorem outD_inj {o o' : Oc} (h : [SV.v (outD o)] = [SV.v (outD o')]) : o = o' := by
  injection h with h _
  injection h with h
  cases o with
  | inl d =>
    cases o' with
    | inl e => injection h with h; injection h with _ h; injection h with h _; rw [h]
    | inr c => injection h with h; injection h with h _; injection h with h; cases h
  | inr c =>
    cases o' with
    | inl e => injection h with h; injection h with h _; injection h with h; cases h
    | inr c' => injection h with h; injection h with _ h; injection h with h _; injection h with h; rw [Int.ofNat.inj h]
theorem frac_pos {a b : Int} (h0 : gcdAll [a, b] ≠ 0) (h : 0 < b / gcdAll [a, b]) : IsFrac a b (a / gcdAll [a, b]) (b / gcdAll [a, b]) := by
  have d1 : gcdAll [a, b] ∣ a := gcdAll_dvd (by simp)
  have d2 : gcdAll [a, b] ∣ b := gcdAll_dvd (by simp)
  refine ⟨by omega, gcd_one_iff.mpr (lowL_gcd h0), ?_⟩
  obtain ⟨x, hx⟩ := d1
  obtain ⟨y, hy⟩ := d2
  have g := gcdAll_pos h0
  generalize gcdAll [a, b] = g at *
  subst hx hy
  rw [Int.mul_ediv_cancel_left _ (by omega), Int.mul_ediv_cancel_left _ (by omega)]
  grind
theorem frac_neg {a b : Int} (h0 : gcdAll [a, b] ≠ 0) (hb : b ≠ 0) (h : ¬ 0 < b / gcdAll [a, b]) : IsFrac a b (-(a / gcdAll [a, b])) (-(b / gcdAll [a, b])) := by
  have d1 : gcdAll [a, b] ∣ a := gcdAll_dvd (by simp)
  have d2 : gcdAll [a, b] ∣ b := gcdAll_dvd (by simp)
  have low : Int.gcd (a / gcdAll [a, b]) (b / gcdAll [a, b]) = 1 := gcd_one_iff.mpr (lowL_gcd h0)
  obtain ⟨x, hx⟩ := d1
  obtain ⟨y, hy⟩ := d2
  have g := gcdAll_pos h0
  generalize gcdAll [a, b] = g at *
  subst hx hy
  rw [Int.mul_ediv_cancel_left _ (by omega), Int.mul_ediv_cancel_left _ (by omega)] at *
  have y0 : y ≠ 0 := by rintro rfl; simp at hb
  refine ⟨by omega, by rw [Int.neg_gcd, Int.gcd_neg]; exact low, by grind⟩
/-- whether a way draws a place as it stands -/
def drawnP (x : PySem.Str) (p : PlI) : Bool := drawnW x p.z (decide (p.x ≠ 0) || decide (p.y ≠ 0)) (decide (p.w + p.z ≠ 0))
abbrev spotD (u v : Pr) : D := .tuple [dP u, dP v]
/-- in line with two places: a sum of both, so many times -/
def InL (p q m : PlI) : Prop := ∃ g a b : Int, 0 < g ∧ g * m.x = a * p.x + b * q.x ∧ g * m.y = a * p.y + b * q.y ∧ g * m.z = a * p.z + b * q.z
theorem InL.one (p q : PlI) : InL p q p := ⟨1, 1, 0, by decide, by omega, by omega, by omega⟩
/-- the two stretches that a way tells -/
def StrR (x : PySem.Str) (z w : Int) (u v : Pr) : Prop :=
  (x = "disc" → IsFrac (w + z) (2 * w) u.1 u.2 ∧ IsFrac (2 * w) (w + z) v.1 v.2) ∧
  (x = "even" → IsFrac (w * w - z * z) (w * w) u.1 u.2 ∧ IsFrac (w * w) (w * w - z * z) v.1 v.2) ∧
  (x = "plain" → IsFrac 1 1 u.1 u.2 ∧ IsFrac (w * w) (w * w - z * z) v.1 v.2) ∧
  (x = "round" → IsFrac (w * w) ((w + z) ^ 2) u.1 u.2 ∧ IsFrac (w * w) ((w + z) ^ 2) v.1 v.2) ∧
  (x = "sight" → IsFrac (z * z) (w * w) u.1 u.2 ∧ IsFrac 1 1 v.1 v.2) ∧
  (x = "straight" → IsFrac (w ^ 4) (z ^ 4) u.1 u.2 ∧ IsFrac (w * w) (z * z) v.1 v.2)
abbrev strD (a b c d : Int) : D := .tuple [.tuple [.int a, .int b], .tuple [.int c, .int d]]
theorem Bt.sq {k m : Nat} {a : Int} (h : Bt k a) (hm : 2 * k ≤ m) : Bt m (a ^ 2) := by
  rw [show a ^ 2 = a * a by grind]; exact (h.mul h).mono (by omega)
theorem Bt.p4 {k m : Nat} {a : Int} (h : Bt k a) (hm : 4 * k ≤ m) : Bt m (a ^ 4) := by
  rw [show a ^ 4 = (a * a) * (a * a) by grind]; exact ((h.mul h).mul (h.mul h)).mono (by omega)
theorem flat_nz {p : PlI} (h : PlaceI p.x p.y p.z p.w) (hd : (decide (p.x ≠ 0) || decide (p.y ≠ 0)) = true) : p.w * p.w - p.z * p.z ≠ 0 := by
  have on := h.on
  have s1 := sq_nn p.x
  have s2 := sq_nn p.y
  intro e
  have z : ∀ n : Int, n * n = 0 → n = 0 := fun n hn => (Int.mul_eq_zero.mp hn).elim id id
  have a1 := z p.x (by omega)
  have a2 := z p.y (by omega)
  rw [a1, a2] at hd
  exact absurd hd (by decide)
theorem IsFrac.bt2 {a b : Int} {u : Pr} {k : Nat} (h : IsFrac a b u.1 u.2) (ha : Bt k a) (hb : Bt k b) (hb0 : b ≠ 0) : Bp k u := ⟨h.bp hb0 ha, h.bq hb0 hb⟩
theorem StrR.bp {x : PySem.Str} {p : PlI} {u v : Pr} (hx : x ∈ waysS) (hp : p.ok 190) (hd : drawnP x p = true) (h : StrR x p.z p.w u v) : Bp 900 u ∧ Bp 900 v := by
  obtain ⟨b1, b2, b3, b4⟩ := hp.bt
  have hw := hp.pl.pos
  have t2 : Bt 2 (2 : Int) := ⟨by decide⟩
  have o1 : Bt 900 (1 : Int) := Bt.mono (k := 10) ⟨by decide⟩ (by decide)
  have w2 : p.w * p.w ≠ 0 := Int.mul_ne_zero (by omega) (by omega)
  have m1 : Bt 900 (p.w + p.z) := (b4.add b3).mono (by decide)
  have m2 : Bt 900 (2 * p.w) := (t2.mul b4).mono (by decide)
  have m3 : Bt 900 (p.w * p.w - p.z * p.z) := ((b4.mul b4).sub (b3.mul b3)).mono (by decide)
  have m4 : Bt 900 (p.w * p.w) := (b4.mul b4).mono (by decide)
  have m5 : Bt 900 (p.z * p.z) := (b3.mul b3).mono (by decide)
  have m6 : Bt 900 (p.z ^ 4) := Bt.p4 b3 (by decide)
  have m7 : Bt 900 (p.w ^ 4) := Bt.p4 b4 (by decide)
  have m8 : Bt 900 ((p.w + p.z) ^ 2) := Bt.sq (b4.add b3) (by decide)
  obtain ⟨h1, h2, h3, h4, h5, h6⟩ := h
  rcases way_six hx with rfl | rfl | rfl | rfl | rfl | rfl
  · obtain ⟨k1, k2⟩ := h1 rfl
    have hn : p.w + p.z ≠ 0 := of_decide_eq_true hd
    exact ⟨k1.bt2 m1 m2 (by omega), k2.bt2 m2 m1 hn⟩
  · obtain ⟨k1, k2⟩ := h2 rfl
    exact ⟨k1.bt2 m3 m4 w2, k2.bt2 m4 m3 (flat_nz hp.pl hd)⟩
  · obtain ⟨k1, k2⟩ := h3 rfl
    exact ⟨k1.bt2 o1 o1 (by decide), k2.bt2 m4 m3 (flat_nz hp.pl hd)⟩
  · obtain ⟨k1, k2⟩ := h4 rfl
    have hn : p.w + p.z ≠ 0 := of_decide_eq_true hd
    have hn2 : (p.w + p.z) ^ 2 ≠ 0 := by rw [show (p.w + p.z) ^ 2 = (p.w + p.z) * (p.w + p.z) by grind]; exact Int.mul_ne_zero hn hn
    exact ⟨k1.bt2 m4 m8 hn2, k2.bt2 m4 m8 hn2⟩
  · obtain ⟨k1, k2⟩ := h5 rfl
    exact ⟨k1.bt2 m5 m4 w2, k2.bt2 o1 o1 (by decide)⟩
  · obtain ⟨k1, k2⟩ := h6 rfl
    have hz : 0 < p.z := of_decide_eq_true hd
    have z2 : p.z * p.z ≠ 0 := Int.mul_ne_zero (by omega) (by omega)
    have z4 : p.z ^ 4 ≠ 0 := by rw [show p.z ^ 4 = (p.z * p.z) * (p.z * p.z) by grind]; exact Int.mul_ne_zero z2 z2
    exact ⟨k1.bt2 m7 m6 z4, k2.bt2 m4 m5 z2⟩
def c_law_pool : Pt := fun ss P R => ∃ (ns : List Int) (k : Int), ss = [.v (.list (ns.map .int)), vI k] ∧ 0 ≤ k ∧ k ≤ 63 ∧ ∀ ds, Pool 9000000 ds → P (.own ds) []
def c_law_take_v2 : Pt := fun ss P R => ∃ (ds : List D) (n : Nat) (m : Int), ss = [.io ds, vI m] ∧ Pool (n + 1) ds ∧ 1 ≤ m ∧ Bt 400 m ∧ ∀ d ds', 0 ≤ d → d < m → Pool n ds' → P (vI d) [ds']
def c_law_shared : Pt := fun ss P R => ∃ a b : Int, ss = [vI a, vI b] ∧ P (vI (Int.gcd a b)) []
def c_law_lowest : Pt := fun ss P R => ∃ ns : List Int, (ss = [.v (.tuple (ns.map .int))] ∨ ss = [.v (.list (ns.map .int))]) ∧ (∀ n ∈ ns, Bt 8900 n) ∧ gcdAll ns ≠ 0 ∧ P (.v (.tuple ((lowL ns).map .int))) []
theorem at_nzp {p q m : Int} (h : 1 ≤ m ∨ 1 ≤ p) : gcdAll [2 * p * m, 2 * q * m, m * m - p * p - q * q, m * m + p * p + q * q] ≠ 0 := fun e => by
  have h4 := gcdAll_zero e (m * m + p * p + q * q) (by simp)
  have := sq_nn m
  have := sq_nn p
  have := sq_nn q
  rcases h with h | h
  · have := sq_pos (show m ≠ 0 by omega)
    omega
  · have := sq_pos (show p ≠ 0 by omega)
    omega
def c_law_at_v2 : Pt := fun ss P R => ∃ (p q m : Int) (k : Nat), ss = [vI p, vI q, vI m] ∧ (1 ≤ m ∨ 1 ≤ p) ∧ Bt k p ∧ Bt k q ∧ Bt k m ∧ k ≤ 4000 ∧ P (.v (dL (atL p q m))) []
def c_law_great_v2 : Pt := fun ss P R => ∃ (ds : List D) (n : Nat), ss = [.io ds] ∧ Pool (n + 3) ds ∧ ∀ d ds', 0 ≤ d → d < 1000000000000000000 → Pool n ds' → P (vI d) [ds']
theorem at_b4 {p q m : Int} {k j : Nat} (h : 1 ≤ m) (hp : Bt k p) (hq : Bt k q) (hm : Bt k m) (hj : 2 * k + 3 ≤ j) : ∀ n ∈ atL p q m, Bt j n := by
  have b2 : Bt 2 (2 : Int) := ⟨by decide⟩
  refine lowL_bt (at_nz h) (four_bt ?_ ?_ ?_ ?_)
  · exact ((b2.mul hp).mul hm).mono (by omega)
  · exact ((b2.mul hq).mul hm).mono (by omega)
  · exact (((hm.mul hm).sub (hp.mul hp)).sub (hq.mul hq)).mono (by omega)
  · exact (((hm.mul hm).add (hp.mul hp)).add (hq.mul hq)).mono (by omega)
theorem at_all {p q m : Int} {k j : Nat} (h : 1 ≤ m) (hp : Bt k p) (hq : Bt k q) (hm : Bt k m) (hj : 2 * k + 3 ≤ j) : ∃ x y z w, atL p q m = [x, y, z, w] ∧ PlaceI x y z w ∧ B4 j x y z w := by
  obtain ⟨x, y, z, w, e, hpl⟩ := at_place (p := p) (q := q) h
  have hb := at_b4 h hp hq hm hj
  rw [e] at hb
  exact ⟨x, y, z, w, e, hpl, hb x (by simp), hb y (by simp), hb z (by simp), hb w (by simp)⟩
def c_law_place_v2 : Pt := fun ss P R => ∃ (ds : List D) (n : Nat), ss = [.io ds] ∧ Pool (n + 12) ds ∧ ∀ x y z w ds', PlaceI x y z w → B4 125 x y z w → Pool n ds' → P (.v (dL [x, y, z, w])) [ds']
theorem pow3_s (n : Nat) : (3 : Int) ^ (n + 1) = 3 * 3 ^ n := by rw [Int.pow_succ]; omega
theorem pow3_m {n m : Nat} (h : n ≤ m) : (3 : Int) ^ n ≤ 3 ^ m := by
  induction m with
  | zero => rw [Nat.le_zero.mp h]; exact Int.le_refl _
  | succ m ih =>
    rcases Nat.lt_or_ge m n with k | k
    · rw [show n = m + 1 by omega]; exact Int.le_refl _
    · have := ih k
      have p : 0 < (3 : Int) ^ m := Int.pow_pos (by decide)
      rw [pow3_s]; omega
theorem pow84_bt {a b : Int} (h1 : 0 < a) (h2 : a ≤ b) (h3 : b ≤ 2 * 3 ^ 51) : Bt 84 b := ⟨by
  have e : (2 : Int) * 3 ^ 51 = 4307387926151115532621494 := by decide
  rw [e] at h3
  omega⟩
def c_law_neighbours : Pt := fun ss P R => ∃ (ds : List D) (n : Nat), ss = [.io ds] ∧ Pool (n + 1) ds ∧ ∀ a b ds', 0 < a → a ≤ b → Bt 84 b → Pool n ds' → P (.v (dP (a, b))) [ds']
theorem at_allh {p q m : Int} {k j : Nat} (h : 1 ≤ m ∨ 1 ≤ p) (hp : Bt k p) (hq : Bt k q) (hm : Bt k m) (hj : 2 * k + 3 ≤ j) : ∃ x y z w, atL p q m = [x, y, z, w] ∧ PlaceI x y z w ∧ B4 j x y z w := by
  have b2 : Bt 2 (2 : Int) := ⟨by decide⟩
  have h0 := at_nzp (q := q) h
  have hb := lowL_bt (k := j) h0 (four_bt (((b2.mul hp).mul hm).mono (by omega)) (((b2.mul hq).mul hm).mono (by omega)) ((((hm.mul hm).sub (hp.mul hp)).sub (hq.mul hq)).mono (by omega)) ((((hm.mul hm).add (hp.mul hp)).add (hq.mul hq)).mono (by omega)))
  have hl := lowL_mul [2 * p * m, 2 * q * m, m * m - p * p - q * q, m * m + p * p + q * q]
  have hg := lowL_gcd h0
  have pos : 0 < m * m + p * p + q * q := by
    have := sq_nn m
    have := sq_nn p
    have := sq_nn q
    rcases h with h | h
    · have := sq_pos (show m ≠ 0 by omega)
      omega
    · have := sq_pos (show p ≠ 0 by omega)
      omega
  refine ⟨_, _, _, _, rfl, ?_, hb _ (by simp [lowL]), hb _ (by simp [lowL]), hb _ (by simp [lowL]), hb _ (by simp [lowL])⟩
  simp only [lowL, List.map_cons, List.map_nil, List.cons.injEq, and_true] at hl
  obtain ⟨e1, e2, e3, e4⟩ := hl
  exact pl_of_scale (gcdAll_pos h0) hg e1 e2 e3 e4 pos (by grind)
theorem flat_place {p q : Int} (h : 1 ≤ p) (hp : Bt 8 p) (hq : Bt 8 q) : gcdAll [p * p - q * q, 2 * p * q, 0, p * p + q * q] ≠ 0 ∧ ∃ x y z w, lowL [p * p - q * q, 2 * p * q, 0, p * p + q * q] = [x, y, z, w] ∧ PlaceI x y z w ∧ B4 175 x y z w := by
  have s1 := sq_pos (show p ≠ 0 by omega)
  have s2 := sq_nn q
  have nz : gcdAll [p * p - q * q, 2 * p * q, 0, p * p + q * q] ≠ 0 := fun e => by
    have := gcdAll_zero e (p * p + q * q) (by simp)
    omega
  have b2 : Bt 2 (2 : Int) := ⟨by decide⟩
  have hb : ∀ n ∈ [p * p - q * q, 2 * p * q, 0, p * p + q * q], Bt 175 n := four_bt (((hp.mul hp).sub (hq.mul hq)).mono (by decide)) (((b2.mul hp).mul hq).mono (by decide)) ⟨Nat.two_pow_pos _⟩ (((hp.mul hp).add (hq.mul hq)).mono (by decide))
  have hl := lowL_bt nz hb
  have hg := gcdAll_pos nz
  have hm := lowL_mul [p * p - q * q, 2 * p * q, 0, p * p + q * q]
  have hlo := lowL_gcd nz
  obtain ⟨x, y, z, w, e⟩ : ∃ x y z w, lowL [p * p - q * q, 2 * p * q, 0, p * p + q * q] = [x, y, z, w] := ⟨_, _, _, _, rfl⟩
  rw [e] at hl hm hlo
  refine ⟨nz, ?_⟩
  clear nz
  have hgg := Int.mul_pos hg hg
  generalize gcdAll [p * p - q * q, 2 * p * q, 0, p * p + q * q] = g at hm hg hgg
  simp only [List.map_cons, List.map_nil, List.cons.injEq, and_true] at hm
  obtain ⟨m1, m2, m3, m4⟩ := hm
  have wp : 0 < w := by
    rcases Int.lt_or_le 0 w with q | q
    · exact q
    · have := Int.mul_nonneg (Int.le_of_lt hg) (show 0 ≤ -w by omega); rw [Int.mul_neg] at this; omega
  have on : x * x + y * y + z * z = w * w := by
    have k : (g * g) * (x * x + y * y + z * z) = (g * g) * (w * w) := by
      have e1 : (g * g) * (x * x + y * y + z * z) = (g * x) * (g * x) + (g * y) * (g * y) + (g * z) * (g * z) := by grind
      have e2 : (g * g) * (w * w) = (g * w) * (g * w) := by grind
      rw [e1, e2, m1, m2, m3, m4]; grind
    exact Int.eq_of_mul_eq_mul_left (by omega) k
  exact ⟨x, y, z, w, e, ⟨hlo, by omega, on⟩, hl x (by simp), hl y (by simp), hl z (by simp), hl w (by simp)⟩
def c_law_hard_place : Pt := fun ss P R => ∃ (ds : List D) (n : Nat), ss = [.io ds] ∧ Pool (n + 20) ds ∧ ∀ x y z w ds', PlaceI x y z w → B4 175 x y z w → Pool n ds' → P (.v (dL [x, y, z, w])) [ds']
def c_law_ways_v2 : Pt := fun ss P R => ss = [] ∧ P (.own (waysS.map .str)) []
theorem south_iff {a b c w : Int} (h : PlaceI a b c w) : (!decide ([a, b, c, w] = [0, 0, -1, 1])) = decide (w + c ≠ 0) := by
  by_cases k : w + c = 0
  · rw [decide_eq_false (show ¬ (w + c ≠ 0) from fun z => z k)]
    have hc : c = -w := by omega
    subst hc
    have on := h.on
    have s1 := sq_nn a
    have s2 := sq_nn b
    have e : -w * -w = w * w := Int.neg_mul_neg ..
    rw [e] at on
    have z : ∀ n : Int, n * n = 0 → n = 0 := fun n hn => (Int.mul_eq_zero.mp hn).elim id id
    have ha := z a (by omega)
    have hb := z b (by omega)
    subst ha hb
    have low := h.low
    have d : gcdAll [0, 0, -w, w] = w := by
      have p := h.pos
      have dv : w ∣ gcdAll [0, 0, -w, w] := dvd_gcdAll fun n hn => by
        simp only [List.mem_cons, List.not_mem_nil, or_false] at hn
        rcases hn with rfl | rfl | rfl | rfl
        · exact Int.dvd_zero _
        · exact Int.dvd_zero _
        · exact Int.dvd_neg.mpr (Int.dvd_refl _)
        · exact Int.dvd_refl _
      exact Int.dvd_antisymm (gcdAll_nonneg _) (by omega) (gcdAll_dvd (by simp)) dv
    rw [d] at low
    subst low
    decide
  · rw [decide_eq_true (show w + c ≠ 0 from k)]
    have : ¬ [a, b, c, w] = [0, 0, -1, 1] := fun e => by
      simp only [List.cons.injEq, and_true] at e
      omega
    rw [decide_eq_false this]; rfl
theorem two_iff (a b : Int) : (!decide ([a, b] = [0, 0])) = (decide (a ≠ 0) || decide (b ≠ 0)) := by
  by_cases h : a = 0 <;> by_cases k : b = 0 <;> simp [h, k]
def c_law_is_drawn : Pt := fun ss P R => ∃ (x : PySem.Str) (a b c w : Int), ss = [.v (.str x), .v (dL [a, b, c, w])] ∧ x ∈ waysS ∧ PlaceI a b c w ∧ P (vB (drawnW x c (decide (a ≠ 0) || decide (b ≠ 0)) (decide (w + c ≠ 0)))) []
def c_law_met_kept_v5 : Pt := fun ss P R => ∃ o : Oc, ss = [.v (outD o)] ∧ ((∃ d, o = .inl d ∧ P (.v d) []) ∨ (o = .inr 3 ∧ P (.own [.str "place"]) []) ∨ (o = .inr 11 ∧ P (.own [.str "drawing"]) []) ∨ (o = .inr 14 ∧ P (.own [.str "spot"]) []))
theorem fdiv_dvd {a d : Int} (h : d ∣ a) : a.fdiv d = a / d := Int.fdiv_eq_ediv_of_dvd h
theorem lf_pos {a b : Int} (hb : 0 < b) : IsFrac a b (a.fdiv (Int.gcd a b)) (b.fdiv (Int.gcd a b)) := by
  have h0 : gcdAll [a, b] ≠ 0 := fun e => by have := gcdAll_zero e b (by simp); omega
  rw [← gcdAll_two, fdiv_dvd (gcdAll_dvd (by simp)), fdiv_dvd (gcdAll_dvd (by simp))]
  exact frac_pos h0 (Int.ediv_pos_of_pos_of_dvd hb (gcdAll_nonneg _) (gcdAll_dvd (by simp)))
theorem lf_neg {a b : Int} (hb : b < 0) : IsFrac a b (a.fdiv (0 - (Int.gcd a b : Int))) (b.fdiv (0 - (Int.gcd a b : Int))) := by
  have h0 : gcdAll [a, b] ≠ 0 := fun e => by have := gcdAll_zero e b (by simp); omega
  have d1 : gcdAll [a, b] ∣ a := gcdAll_dvd (by simp)
  have d2 : gcdAll [a, b] ∣ b := gcdAll_dvd (by simp)
  rw [← gcdAll_two, Int.zero_sub, fdiv_dvd (Int.neg_dvd.mpr d1), fdiv_dvd (Int.neg_dvd.mpr d2), Int.ediv_neg, Int.ediv_neg]
  refine frac_neg h0 (by omega) ?_
  intro z
  have := Int.mul_pos z (gcdAll_pos h0)
  rw [Int.ediv_mul_cancel d2] at this
  omega
def c_law_fraction : Pt := fun ss P R => ∃ a b : Int, ss = [vI a, vI b] ∧ b ≠ 0 ∧ Bt 8900 a ∧ Bt 8900 b ∧ ∀ p q, IsFrac a b p q → P (.v (.tuple [.int p, .int q])) []
theorem StrR.uniq {x : PySem.Str} {z w : Int} {u v u2 v2 : Pr} (hx : x ∈ waysS) (hw : w ≠ 0) (h1 : x = "disc" ∨ x = "round" → w + z ≠ 0) (h2 : x = "even" ∨ x = "plain" → w * w - z * z ≠ 0) (h3 : x = "sight" ∨ x = "straight" → z ≠ 0) (h : StrR x z w u v) (k : StrR x z w u2 v2) : u = u2 ∧ v = v2 := by
  have w2 : w * w ≠ 0 := Int.mul_ne_zero hw hw
  have one : ∀ {a b : Int} {u u2 : Pr}, b ≠ 0 → IsFrac a b u.1 u.2 → IsFrac a b u2.1 u2.2 → u = u2 := fun hb h k => by
    obtain ⟨e1, e2⟩ := h.uniq hb k
    exact Prod.ext e1 e2
  obtain ⟨q1, q2, q3, q4, q5, q6⟩ := h
  obtain ⟨r1, r2, r3, r4, r5, r6⟩ := k
  rcases way_six hx with e | e | e | e | e | e
  · have hn := h1 (.inl e)
    exact ⟨one (by omega) (q1 e).1 (r1 e).1, one hn (q1 e).2 (r1 e).2⟩
  · have hn := h2 (.inl e)
    exact ⟨one w2 (q2 e).1 (r2 e).1, one hn (q2 e).2 (r2 e).2⟩
  · have hn := h2 (.inr e)
    exact ⟨one (by decide) (q3 e).1 (r3 e).1, one hn (q3 e).2 (r3 e).2⟩
  · have hn := h1 (.inr e)
    have hn2 : (w + z) ^ 2 ≠ 0 := by rw [show (w + z) ^ 2 = (w + z) * (w + z) by grind]; exact Int.mul_ne_zero hn hn
    exact ⟨one hn2 (q4 e).1 (r4 e).1, one hn2 (q4 e).2 (r4 e).2⟩
  · exact ⟨one w2 (q5 e).1 (r5 e).1, one (by decide) (q5 e).2 (r5 e).2⟩
  · have hz := h3 (.inr e)
    have z2 : z * z ≠ 0 := Int.mul_ne_zero hz hz
    have z4 : z ^ 4 ≠ 0 := by rw [show z ^ 4 = (z * z) * (z * z) by grind]; exact Int.mul_ne_zero z2 z2
    exact ⟨one z4 (q6 e).1 (r6 e).1, one z2 (q6 e).2 (r6 e).2⟩
/-- the stretches of a place that is drawn are told by what they are -/
theorem StrR.at {x : PySem.Str} {p : PlI} {k : Nat} {u v u2 v2 : Pr} (hx : x ∈ waysS) (hp : p.ok k) (hd : drawnP x p = true) (h : StrR x p.z p.w u v) (q : StrR x p.z p.w u2 v2) : u = u2 ∧ v = v2 := by
  have hw := hp.pl.pos
  refine h.uniq hx (by omega) (fun e => ?_) (fun e => ?_) (fun e => ?_) q
  · rcases e with rfl | rfl <;> exact of_decide_eq_true hd
  · rcases e with rfl | rfl <;> exact flat_nz hp.pl hd
  · have : 0 < p.z := by rcases e with rfl | rfl <;> exact of_decide_eq_true hd
    omega
def c_law_stretches : Pt := fun ss P R => ∃ (x : PySem.Str) (p : PlI), ss = [.v (.str x), .v p.d] ∧ x ∈ waysS ∧ p.ok 190 ∧ drawnP x p = true ∧ ∀ u v, StrR x p.z p.w u v → P (.v (spotD u v)) []
def c_is_way : Pt := fun ss P R => ∃ d, ss = [.v d] ∧ StrS d ∧ P (vB (isWay d)) []
def c_need_way : Pt := fun ss P R => ∃ d, ss = [.v d] ∧ StrS d ∧ (isWay d = true → P (.v .none) []) ∧ (isWay d = false → R 11 [])
def c_is_whole : Pt := fun ss P R => ∃ d, ss = [.v d] ∧ P (vB (isIntD d)) []
theorem bools_map {α : Type} {f : α → Bool} : ∀ (l : List α), boolsOf (l.map fun x => (PySem.PyData.bool (f x))) = some (l.map f)
  | [] => rfl
  | x :: r => by
    show (boolsOf (r.map _)).map (f x :: ·) = _
    rw [bools_map r]; rfl
def c_are_whole : Pt := fun ss P R => ∃ (d : D) (n : Int), ss = [.v d, vI n] ∧ P (vB (isRow d n)) []
def c_shared_part : Pt := fun ss P R => ∃ a b : Int, ss = [vI a, vI b] ∧ P (vI (Int.gcd a b)) []
def c_part_of_all : Pt := fun ss P R => ∃ ns : List Int, (ss = [.v (.tuple (ns.map .int))] ∨ ss = [.v (.list (ns.map .int))]) ∧ P (vI (gcdAll ns)) []
def c_is_lowest : Pt := fun ss P R => ∃ (d : D) (n : Int), ss = [.v d, vI n] ∧ P (vB (isLow d n)) []
def c_dot : Pt := fun ss P R => ∃ (a b c a' b' c' : Int) (r r' : List Int) (k : Nat), (ss = [.v (dL (a :: b :: c :: r)), .v (dL (a' :: b' :: c' :: r'))] ∨ ss = [.v (.list ((a :: b :: c :: r).map .int)), .v (dL (a' :: b' :: c' :: r'))] ∨ ss = [.v (.list ((a :: b :: c :: r).map .int)), .v (.list ((a' :: b' :: c' :: r').map .int))] ∨ ss = [.v (dL (a :: b :: c :: r)), .v (.list ((a' :: b' :: c' :: r').map .int))]) ∧ k ≤ 100000 ∧ Bt k a ∧ Bt k b ∧ Bt k c ∧ Bt k a' ∧ Bt k b' ∧ Bt k c' ∧ P (vI (a * a' + b * b' + c * c')) []
def c_is_place : Pt := fun ss P R => ∃ d, ss = [.v d] ∧ dB 50000 d ∧ P (vB (isPl d)) []
def c_need_place_v2 : Pt := fun ss P R => ∃ d : D, ss = [.v d] ∧ dB 50000 d ∧ (isPl d = true → P (.v .none) []) ∧ (isPl d = false → R 3 [])
def c_disc_stretches : Pt := fun ss P R => ∃ z w : Int, ss = [vI z, vI w] ∧ Bt 200 z ∧ Bt 200 w ∧ P (.v (strD (w + z) (2 * w) (2 * w) (w + z))) []
def c_even_stretches : Pt := fun ss P R => ∃ z w : Int, ss = [vI z, vI w] ∧ Bt 200 z ∧ Bt 200 w ∧ P (.v (strD (w * w - z * z) (w * w) (w * w) (w * w - z * z))) []
def c_plain_stretches : Pt := fun ss P R => ∃ z w : Int, ss = [vI z, vI w] ∧ Bt 200 z ∧ Bt 200 w ∧ P (.v (strD 1 1 (w * w) (w * w - z * z))) []
def c_round_stretches : Pt := fun ss P R => ∃ z w : Int, ss = [vI z, vI w] ∧ Bt 200 z ∧ Bt 200 w ∧ P (.v (strD (w * w) ((w + z) ^ 2) (w * w) ((w + z) ^ 2))) []
def c_sight_stretches : Pt := fun ss P R => ∃ z w : Int, ss = [vI z, vI w] ∧ Bt 200 z ∧ Bt 200 w ∧ P (.v (strD (z * z) (w * w) 1 1)) []
def c_straight_stretches : Pt := fun ss P R => ∃ z w : Int, ss = [vI z, vI w] ∧ Bt 200 z ∧ Bt 200 w ∧ P (.v (strD (w ^ 4) (z ^ 4) (w * w) (z * z))) []
def c_is_drawn : Pt := fun ss P R => ∃ (x : PySem.Str) (a b c w : Int), ss = [.v (.str x), .v (dL [a, b, c, w])] ∧ x ∈ waysS ∧ P (vB (drawnW x c (decide (a ≠ 0) || decide (b ≠ 0)) (decide (w + c ≠ 0)))) []
def c_lowest_row : Pt := fun ss P R => ∃ ns : List Int, ss = [.v (.tuple (ns.map .int))] ∧ (∀ n ∈ ns, Bt 8900 n) ∧ gcdAll ns ≠ 0 ∧ P (.v (.tuple ((lowL ns).map .int))) []
def c_fraction_by : Pt := fun ss P R => ∃ a b : Int, ss = [vI a, vI b] ∧ b ≠ 0 ∧ Bt 8900 a ∧ Bt 8900 b ∧ ∀ p q, IsFrac a b p q → P (.v (.tuple [.int p, .int q])) []
def c_fraction_of : Pt := fun ss P R => ∃ a b : Int, ss = [vI a, vI b] ∧ b ≠ 0 ∧ Bt 8900 a ∧ Bt 8900 b ∧ ∀ p q, IsFrac a b p q → P (.v (.tuple [.int p, .int q])) []
def c_stretches_v2 : Pt := fun ss P R => (∃ d d2 : D, ss = [.v d, .v d2] ∧ StrS d ∧ isWay d = false ∧ R 11 []) ∨ (∃ (x : PySem.Str) (d2 : D), ss = [.v (.str x), .v d2] ∧ x ∈ waysS ∧ dB 50000 d2 ∧ isPl d2 = false ∧ R 3 []) ∨
  ∃ (x : PySem.Str) (p : PlI), ss = [.v (.str x), .v p.d] ∧ x ∈ waysS ∧ p.ok 190 ∧ (drawnP x p = true → ∀ u v, StrR x p.z p.w u v → P (.v (spotD u v)) []) ∧ (drawnP x p = false → R 14 [])
theorem Bp.sm1 {u : Pr} (hu : Bp 900 u) : sm (dP u) := sm_dL (ns := [u.1, u.2]) (k := 900) (by decide) (fun n hn => by
    simp only [List.mem_cons, List.not_mem_nil, or_false] at hn
    rcases hn with rfl | rfl
    · exact hu.1
    · exact hu.2)
theorem Bp.smS {u v : Pr} (hu : Bp 900 u) (hv : Bp 900 v) : sm (spotD u v) := sm_tup (sms_cons hu.sm1 (sms_cons hv.sm1 sms_nil))
def ir_law_pool : S :=
  (.seq (.asg (.n 2) (.c (.int 0)))
  (.seq (.ifs (.tx (.cmp .Lt (.var 1) (.bi .len (.cons (.var 0) .nil)))) (.seq (.asg (.n 2) (.idx (.var 0) (.var 1)))
  .skip) .skip)
  (.seq (.ret (.lst (.cons (.bi .max2 (.cons (.c (.int 0)) (.cons (.bin .Sub (.var 2) (.bin .Pow (.c (.int 10)) (.c (.int 18)))) .nil))) (.cons (.bin .Mod (.var 2) (.c (.int 1000000007))) (.cons (.bin .Add (.bin .Mult (.c (.int 7919)) (.var 1)) (.c (.int 1))) .nil)))))
  .skip)))
def ir_law_take_v2 : S :=
  (.seq (.ifs (.tx (.cmp .Gt (.idx (.var 0) (.c (.int 0))) (.c (.int 0)))) (.seq (.asg (.n 2) (.bin .Mod (.idx (.var 0) (.c (.int 0))) (.var 1)))
  (.seq (.sidx 0 (.c (.int 0)) (.bin .FloorDiv (.idx (.var 0) (.c (.int 0))) (.var 1)))
  (.seq (.ret (.var 2))
  .skip))) .skip)
  (.seq (.sidx 0 (.c (.int 2)) (.bin .Add (.idx (.var 0) (.c (.int 2))) (.c (.int 1))))
  (.seq (.asg (.n 3) (.bin .Mod (.bin .Add (.bin .Add (.bin .Mult (.idx (.var 0) (.c (.int 1))) (.c (.int 48271))) (.bin .Mult (.c (.int 104729)) (.idx (.var 0) (.c (.int 2))))) (.c (.int 101))) (.c (.int 2147483629))))
  (.seq (.asg (.n 3) (.bin .Mod (.bin .Pow (.var 3) (.c (.int 5))) (.c (.int 2147483587))))
  (.seq (.asg (.n 4) (.bin .Add (.bin .Add (.var 3) (.bin .Mult (.bin .Mult (.c (.int 69621)) (.idx (.var 0) (.c (.int 2)))) (.idx (.var 0) (.c (.int 2))))) (.bin .Mod (.idx (.var 0) (.c (.int 1))) (.c (.int 65537)))))
  (.seq (.asg (.n 4) (.bin .Mod (.bin .Pow (.var 4) (.c (.int 3))) (.c (.int 2147483563))))
  (.seq (.ret (.bin .Mod (.bin .FloorDiv (.bin .Mod (.bin .Mult (.var 4) (.c (.int 40692))) (.c (.int 2147483549))) (.c (.int 64))) (.var 1)))
  .skip)))))))
def ir_law_shared : S :=
  (.seq (.par (.cons (.n 0) (.cons (.n 1) .nil)) (.cons (.bi .abs (.cons (.var 0) .nil)) (.cons (.bi .abs (.cons (.var 1) .nil)) .nil)))
  (.seq (.whl (.tx (.cmp .Gt (.var 1) (.c (.int 0)))) (.seq (.par (.cons (.n 0) (.cons (.n 1) .nil)) (.cons (.var 1) (.cons (.bin .Mod (.var 0) (.var 1)) .nil)))
  .skip))
  (.seq (.ret (.var 0))
  .skip)))
def ir_law_lowest : S :=
  (.seq (.asg (.n 1) (.c (.int 0)))
  (.seq (.forr (.n 2) (.var 0) (.seq (.asg (.n 1) (.call 21 [true, true] [] (.cons (.var 1) (.cons (.var 2) .nil))))
  .skip))
  (.seq (.ret (.bi .tuple (.cons (.cmpr (.n 2) (.var 0) .nil (.bin .FloorDiv (.var 2) (.var 1))) .nil)))
  .skip)))
def ir_law_at_v2 : S :=
  (.seq (.par (.cons (.n 3) (.cons (.n 4) .nil)) (.cons (.bin .Add (.bin .Mult (.var 0) (.var 0)) (.bin .Mult (.var 1) (.var 1))) (.cons (.bin .Mult (.var 2) (.var 2)) .nil)))
  (.seq (.ret (.call 46 [true] [] (.cons (.tup (.cons (.bin .Mult (.bin .Mult (.c (.int 2)) (.var 0)) (.var 2)) (.cons (.bin .Mult (.bin .Mult (.c (.int 2)) (.var 1)) (.var 2)) (.cons (.bin .Sub (.var 4) (.var 3)) (.cons (.bin .Add (.var 4) (.var 3)) .nil))))) .nil)))
  .skip))
def ir_law_great_v2 : S :=
  (.seq (.asg (.n 1) (.c (.int 0)))
  (.seq (.forr (.n 2) (.itr .rng (.cons (.c (.int 3)) .nil)) (.seq (.asg (.n 1) (.bin .Add (.bin .Mult (.var 1) (.c (.int 1000000))) (.call 140 [true, true] [] (.cons (.var 0) (.cons (.c (.int 1000000)) .nil)))))
  .skip))
  (.seq (.ret (.var 1))
  .skip)))
def ir_law_place_v2 : S :=
  (.seq (.asg (.n 1) (.call 140 [true, true] [] (.cons (.var 0) (.cons (.c (.int 8)) .nil))))
  (.seq (.ifs (.tx (.cmp .Eq (.var 1) (.c (.int 0)))) (.seq (.ret (.idx (.lst (.cons (.tup (.cons (.c (.int 0)) (.cons (.c (.int 0)) (.cons (.c (.int 1)) (.cons (.c (.int 1)) .nil))))) (.cons (.tup (.cons (.c (.int 0)) (.cons (.c (.int 0)) (.cons (.neg (.c (.int 1))) (.cons (.c (.int 1)) .nil))))) (.cons (.tup (.cons (.c (.int 1)) (.cons (.c (.int 0)) (.cons (.c (.int 0)) (.cons (.c (.int 1)) .nil))))) (.cons (.tup (.cons (.c (.int 0)) (.cons (.neg (.c (.int 1))) (.cons (.c (.int 0)) (.cons (.c (.int 1)) .nil))))) .nil))))) (.call 140 [true, true] [] (.cons (.var 0) (.cons (.c (.int 4)) .nil)))))
  .skip) .skip)
  (.seq (.ifs (.tx (.cmp .Eq (.var 1) (.c (.int 1)))) (.seq (.par (.cons (.n 2) (.cons (.n 3) .nil)) (.cons (.bin .Sub (.call 143 [true] [] (.cons (.var 0) .nil)) (.bin .Mult (.c (.int 5)) (.bin .Pow (.c (.int 10)) (.c (.int 17))))) (.cons (.bin .Sub (.call 143 [true] [] (.cons (.var 0) .nil)) (.bin .Mult (.c (.int 5)) (.bin .Pow (.c (.int 10)) (.c (.int 17))))) .nil)))
  (.seq (.ret (.call 142 [true, true, true] [] (.cons (.var 2) (.cons (.var 3) (.cons (.bin .Add (.c (.int 1)) (.call 143 [true] [] (.cons (.var 0) .nil))) .nil)))))
  .skip)) .skip)
  (.seq (.asg (.n 4) (.idx (.lst (.cons (.c (.int 3)) (.cons (.c (.int 3)) (.cons (.c (.int 9)) (.cons (.c (.int 30)) .nil))))) (.call 140 [true, true] [] (.cons (.var 0) (.cons (.c (.int 4)) .nil)))))
  (.seq (.asg (.n 5) (.bin .Add (.c (.int 1)) (.call 140 [true, true] [] (.cons (.var 0) (.cons (.idx (.lst (.cons (.c (.int 1)) (.cons (.c (.int 3)) (.cons (.c (.int 9)) (.cons (.c (.int 30)) .nil))))) (.call 140 [true, true] [] (.cons (.var 0) (.cons (.c (.int 4)) .nil)))) .nil)))))
  (.seq (.asg (.n 2) (.bin .Sub (.call 140 [true, true] [] (.cons (.var 0) (.cons (.bin .Add (.bin .Mult (.c (.int 2)) (.var 4)) (.c (.int 1))) .nil))) (.var 4)))
  (.seq (.ret (.call 142 [true, true, true] [] (.cons (.var 2) (.cons (.bin .Sub (.call 140 [true, true] [] (.cons (.var 0) (.cons (.bin .Add (.bin .Mult (.c (.int 2)) (.var 4)) (.c (.int 1))) .nil))) (.var 4)) (.cons (.var 5) .nil)))))
  .skip)))))))
def ir_law_neighbours : S :=
  (.seq (.asg (.tup (.cons (.n 1) (.cons (.n 2) .nil))) (.tup (.cons (.c (.int 1)) (.cons (.c (.int 2)) .nil))))
  (.seq (.forr (.n 3) (.itr .rng (.cons (.call 140 [true, true] [] (.cons (.var 0) (.cons (.c (.int 52)) .nil))) .nil)) (.seq (.par (.cons (.n 1) (.cons (.n 2) .nil)) (.cons (.var 2) (.cons (.bin .Add (.bin .Mult (.c (.int 2)) (.var 2)) (.var 1)) .nil)))
  .skip))
  (.seq (.ret (.tup (.cons (.var 1) (.cons (.var 2) .nil))))
  .skip)))
def ir_law_hard_place : S :=
  (.seq (.asg (.n 1) (.call 140 [true, true] [] (.cons (.var 0) (.cons (.c (.int 10)) .nil))))
  (.seq (.ifs (.tx (.cmp .Lt (.var 1) (.c (.int 4)))) (.seq (.ret (.call 144 [true] [] (.cons (.var 0) .nil)))
  .skip) .skip)
  (.seq (.par (.cons (.n 2) (.cons (.n 3) .nil)) (.cons (.bin .Add (.c (.int 1)) (.call 140 [true, true] [] (.cons (.var 0) (.cons (.c (.int 12)) .nil)))) (.cons (.bin .Sub (.call 140 [true, true] [] (.cons (.var 0) (.cons (.c (.int 25)) .nil))) (.c (.int 12))) .nil)))
  (.seq (.ifs (.tx (.cmp .Eq (.var 1) (.c (.int 4)))) (.seq (.ret (.call 46 [true] [] (.cons (.tup (.cons (.bin .Sub (.bin .Mult (.var 2) (.var 2)) (.bin .Mult (.var 3) (.var 3))) (.cons (.bin .Mult (.bin .Mult (.c (.int 2)) (.var 2)) (.var 3)) (.cons (.c (.int 0)) (.cons (.bin .Add (.bin .Mult (.var 2) (.var 2)) (.bin .Mult (.var 3) (.var 3))) .nil))))) .nil)))
  .skip) .skip)
  (.seq (.ifs (.tx (.cmp .Gt (.var 1) (.c (.int 7)))) (.seq (.asg (.tup (.cons (.n 4) (.cons (.n 5) .nil))) (.call 403 [true] [] (.cons (.var 0) .nil)))
  (.seq (.ret (.idx (.lst (.cons (.call 142 [true, true, true] [] (.cons (.var 4) (.cons (.c (.int 0)) (.cons (.var 5) .nil)))) (.cons (.call 142 [true, true, true] [] (.cons (.idx (.lst (.cons (.var 5) (.cons (.bin .Sub (.c (.int 0)) (.var 5)) .nil))) (.bi .int (.cons (.cmp .Lt (.var 3) (.c (.int 0))) .nil))) (.cons (.var 4) (.cons (.var 2) .nil)))) .nil))) (.bin .Sub (.var 1) (.c (.int 8)))))
  .skip)) .skip)
  (.seq (.asg (.n 6) (.idx (.lst (.cons (.c (.int 1)) (.cons (.bin .Pow (.c (.int 10)) (.c (.int 6))) (.cons (.bin .Pow (.c (.int 10)) (.c (.int 15))) .nil)))) (.call 140 [true, true] [] (.cons (.var 0) (.cons (.c (.int 3)) .nil)))))
  (.seq (.ifs (.tx (.cmp .Eq (.var 1) (.c (.int 5)))) (.seq (.ret (.call 142 [true, true, true] [] (.cons (.var 2) (.cons (.var 3) (.cons (.bin .Mult (.c (.int 13)) (.var 6)) .nil)))))
  .skip) .skip)
  (.seq (.ifs (.tx (.cmp .Eq (.var 1) (.c (.int 6)))) (.seq (.ret (.call 142 [true, true, true] [] (.cons (.bin .Mult (.var 2) (.var 6)) (.cons (.bin .Mult (.var 3) (.var 6)) (.cons (.c (.int 1)) .nil)))))
  .skip) .skip)
  (.seq (.ret (.call 142 [true, true, true] [] (.cons (.bin .Mult (.var 2) (.var 6)) (.cons (.bin .Sub (.var 6) (.var 2)) (.cons (.bin .Add (.var 6) (.var 3)) .nil)))))
  .skip)))))))))
def ir_law_ways_v2 : S :=
  (.seq (.ret (.lst (.cons (.c (.str "disc")) (.cons (.c (.str "even")) (.cons (.c (.str "plain")) (.cons (.c (.str "round")) (.cons (.c (.str "sight")) (.cons (.c (.str "straight")) .nil))))))))
  .skip)
def ir_law_is_drawn : S :=
  (.seq (.ifs (.tx (.cmp .In (.var 0) (.tup (.cons (.c (.str "straight")) (.cons (.c (.str "sight")) .nil))))) (.seq (.ret (.cmp .Gt (.idx (.var 1) (.c (.int 2))) (.c (.int 0))))
  .skip) .skip)
  (.seq (.ifs (.tx (.cmp .In (.var 0) (.tup (.cons (.c (.str "even")) (.cons (.c (.str "plain")) .nil))))) (.seq (.ret (.cmp .NotEq (.slc (.var 1) .nil (.cons (.c (.int 2)) .nil)) (.tup (.cons (.c (.int 0)) (.cons (.c (.int 0)) .nil)))))
  .skip) .skip)
  (.seq (.ret (.cmp .NotEq (.var 1) (.tup (.cons (.c (.int 0)) (.cons (.c (.int 0)) (.cons (.neg (.c (.int 1))) (.cons (.c (.int 1)) .nil)))))))
  .skip)))
def ir_law_met_kept_v5 : S :=
  (.seq (.asg (.n 1) (.c .none))
  (.seq (.asg (.n 2) (.c .none))
  (.seq (.tri (.seq (.asg (.n 2) (.act 0))
  .skip) (.alt [(3, some "NoPlace"), (11, some "NoDrawing"), (14, some "NoSpot")] (some 3) (.seq (.asg (.n 1) (.var 3))
  .skip)
  .skip))
  (.seq (.ifs (.tx (.cmp .Is (.var 1) (.c .none))) (.seq (.ret (.var 2))
  .skip) .skip)
  (.seq (.asg (.n 4) (.lst (.cons (.isx (.var 1) [("NoPlace", false), ("NoDrawing", true), ("NoSpot", false)]) (.cons (.isx (.var 1) [("NoPlace", true), ("NoDrawing", false), ("NoSpot", false)]) (.cons (.isx (.var 1) [("NoPlace", false), ("NoDrawing", false), ("NoSpot", true)]) .nil)))))
  (.seq (.asg (.n 4) (.bin .Add (.var 4) (.lst (.cons (.isx (.var 1) [("NoPlace", false), ("NoDrawing", false), ("NoSpot", false)]) (.cons (.isx (.var 1) [("NoPlace", false), ("NoDrawing", false), ("NoSpot", false)]) .nil)))))
  (.seq (.asg (.n 5) (.isx (.var 1) [("NoPlace", false), ("NoDrawing", false), ("NoSpot", false)]))
  (.seq (.ifs (.tor (.tx (.cmp .NotEq (.lcnt (.var 4) (.c (.bool true))) (.c (.int 1)))) (.tor (.tx (.var 5)) (.tnot (.tx (.isx (.var 1) [("NoPlace", true), ("NoDrawing", true), ("NoSpot", true)]))))) (.seq (.ret (.lst (.cons (.c (.str "odd")) .nil)))
  .skip) .skip)
  (.seq (.ret (.lst (.cons (.idx (.lst (.cons (.c (.str "drawing")) (.cons (.c (.str "place")) (.cons (.c (.str "spot")) (.cons (.c (.str "circle")) (.cons (.c (.str "side")) .nil)))))) (.lidx (.var 4) (.c (.bool true)))) .nil)))
  .skip)))))))))
def ir_law_met_kept_v5P : S :=
  (.seq (.asg (.n 1) (.c .none))
  (.seq (.asg (.n 2) (.c .none))
  (.seq (.tri (.seq (.asg (.n 2) (.actP 0 6))
  .skip) (.alt [(3, some "NoPlace"), (11, some "NoDrawing"), (14, some "NoSpot")] (some 3) (.seq (.asg (.n 1) (.var 3))
  .skip)
  .skip))
  (.seq (.ifs (.tx (.cmp .Is (.var 1) (.c .none))) (.seq (.ret (.var 2))
  .skip) .skip)
  (.seq (.asg (.n 4) (.lst (.cons (.isx (.var 1) [("NoPlace", false), ("NoDrawing", true), ("NoSpot", false)]) (.cons (.isx (.var 1) [("NoPlace", true), ("NoDrawing", false), ("NoSpot", false)]) (.cons (.isx (.var 1) [("NoPlace", false), ("NoDrawing", false), ("NoSpot", true)]) .nil)))))
  (.seq (.asg (.n 4) (.bin .Add (.var 4) (.lst (.cons (.isx (.var 1) [("NoPlace", false), ("NoDrawing", false), ("NoSpot", false)]) (.cons (.isx (.var 1) [("NoPlace", false), ("NoDrawing", false), ("NoSpot", false)]) .nil)))))
  (.seq (.asg (.n 5) (.isx (.var 1) [("NoPlace", false), ("NoDrawing", false), ("NoSpot", false)]))
  (.seq (.ifs (.tor (.tx (.cmp .NotEq (.lcnt (.var 4) (.c (.bool true))) (.c (.int 1)))) (.tor (.tx (.var 5)) (.tnot (.tx (.isx (.var 1) [("NoPlace", true), ("NoDrawing", true), ("NoSpot", true)]))))) (.seq (.ret (.lst (.cons (.c (.str "odd")) .nil)))
  .skip) .skip)
  (.seq (.ret (.lst (.cons (.idx (.lst (.cons (.c (.str "drawing")) (.cons (.c (.str "place")) (.cons (.c (.str "spot")) (.cons (.c (.str "circle")) (.cons (.c (.str "side")) .nil)))))) (.lidx (.var 4) (.c (.bool true)))) .nil)))
  .skip)))))))))
def ir_law_fraction : S :=
  (.seq (.asg (.n 2) (.call 21 [true, true] [] (.cons (.var 0) (.cons (.var 1) .nil))))
  (.seq (.ifs (.tx (.cmp .Lt (.var 1) (.c (.int 0)))) (.seq (.asg (.n 2) (.bin .Sub (.c (.int 0)) (.var 2)))
  .skip) .skip)
  (.seq (.ret (.tup (.cons (.bin .FloorDiv (.var 0) (.var 2)) (.cons (.bin .FloorDiv (.var 1) (.var 2)) .nil))))
  .skip)))
def ir_law_stretches : S :=
  (.seq (.asg (.tup (.cons (.n 2) (.cons (.n 3) .nil))) (.slc (.var 1) (.cons (.c (.int 2)) .nil) .nil))
  (.seq (.ifs (.tx (.cmp .Eq (.var 0) (.c (.str "round")))) (.seq (.ret (.tup (.cons (.call 24 [true, true] [] (.cons (.bin .Mult (.var 3) (.var 3)) (.cons (.bin .Mult (.bin .Add (.var 3) (.var 2)) (.bin .Add (.var 3) (.var 2))) .nil))) (.cons (.call 24 [true, true] [] (.cons (.bin .Mult (.var 3) (.var 3)) (.cons (.bin .Mult (.bin .Add (.var 3) (.var 2)) (.bin .Add (.var 3) (.var 2))) .nil))) .nil))))
  .skip) .skip)
  (.seq (.ifs (.tx (.cmp .Eq (.var 0) (.c (.str "straight")))) (.seq (.ret (.tup (.cons (.call 24 [true, true] [] (.cons (.bin .Mult (.bin .Mult (.bin .Mult (.var 3) (.var 3)) (.var 3)) (.var 3)) (.cons (.bin .Mult (.bin .Mult (.bin .Mult (.var 2) (.var 2)) (.var 2)) (.var 2)) .nil))) (.cons (.call 24 [true, true] [] (.cons (.bin .Mult (.var 3) (.var 3)) (.cons (.bin .Mult (.var 2) (.var 2)) .nil))) .nil))))
  .skip) .skip)
  (.seq (.ifs (.tx (.cmp .Eq (.var 0) (.c (.str "sight")))) (.seq (.ret (.tup (.cons (.call 24 [true, true] [] (.cons (.bin .Mult (.var 2) (.var 2)) (.cons (.bin .Mult (.var 3) (.var 3)) .nil))) (.cons (.tup (.cons (.c (.int 1)) (.cons (.c (.int 1)) .nil))) .nil))))
  .skip) .skip)
  (.seq (.ifs (.tx (.cmp .Eq (.var 0) (.c (.str "disc")))) (.seq (.ret (.tup (.cons (.call 24 [true, true] [] (.cons (.bin .Add (.var 3) (.var 2)) (.cons (.bin .Mult (.c (.int 2)) (.var 3)) .nil))) (.cons (.call 24 [true, true] [] (.cons (.bin .Mult (.c (.int 2)) (.var 3)) (.cons (.bin .Add (.var 3) (.var 2)) .nil))) .nil))))
  .skip) .skip)
  (.seq (.asg (.n 4) (.ite (.tx (.cmp .Eq (.var 0) (.c (.str "plain")))) (.tup (.cons (.c (.int 1)) (.cons (.c (.int 1)) .nil))) (.call 24 [true, true] [] (.cons (.bin .Sub (.bin .Mult (.var 3) (.var 3)) (.bin .Mult (.var 2) (.var 2))) (.cons (.bin .Mult (.var 3) (.var 3)) .nil)))))
  (.seq (.ret (.tup (.cons (.var 4) (.cons (.call 24 [true, true] [] (.cons (.bin .Mult (.var 3) (.var 3)) (.cons (.bin .Sub (.bin .Mult (.var 3) (.var 3)) (.bin .Mult (.var 2) (.var 2))) .nil))) .nil))))
  .skip)))))))
def ir_is_way : S :=
  (.seq (.ret (.and (.bi (.isi ["str"]) (.cons (.var 0) .nil)) (.cmp .In (.var 0) (.c (.tuple [(.str "disc"), (.str "even"), (.str "plain"), (.str "round"), (.str "sight"), (.str "straight")])))))
  .skip)
def ir_need_way : S :=
  (.seq (.ifs (.tnot (.tx (.call 234 [true] [] (.cons (.var 0) .nil)))) (.seq (.rais 11)
  .skip) .skip)
  .skip)
def ir_is_whole : S :=
  (.seq (.ret (.and (.bi (.isi ["int"]) (.cons (.var 0) .nil)) (.not (.bi (.isi ["bool"]) (.cons (.var 0) .nil)))))
  .skip)
def ir_are_whole : S :=
  (.seq (.ret (.and (.bi (.isi ["tuple"]) (.cons (.var 0) .nil)) (.and (.cmp .Eq (.bi .len (.cons (.var 0) .nil)) (.var 1)) (.bi .all (.cons (.cmpr (.n 2) (.var 0) .nil (.call 5 [true] [] (.cons (.var 2) .nil))) .nil)))))
  .skip)
def ir_shared_part : S :=
  (.seq (.par (.cons (.n 0) (.cons (.n 1) .nil)) (.cons (.bi .abs (.cons (.var 0) .nil)) (.cons (.bi .abs (.cons (.var 1) .nil)) .nil)))
  (.seq (.whl (.tx (.cmp .NotEq (.var 1) (.c (.int 0)))) (.seq (.par (.cons (.n 0) (.cons (.n 1) .nil)) (.cons (.var 1) (.cons (.bin .Mod (.var 0) (.var 1)) .nil)))
  .skip))
  (.seq (.ret (.var 0))
  .skip)))
def ir_part_of_all : S :=
  (.seq (.asg (.n 1) (.c (.int 0)))
  (.seq (.forr (.n 2) (.var 0) (.seq (.asg (.n 1) (.call 8 [true, true] [] (.cons (.var 1) (.cons (.var 2) .nil))))
  .skip))
  (.seq (.ret (.var 1))
  .skip)))
def ir_is_lowest : S :=
  (.seq (.ret (.and (.call 7 [true, true] [] (.cons (.var 0) (.cons (.var 1) .nil))) (.cmp .Eq (.call 9 [true] [] (.cons (.var 0) .nil)) (.c (.int 1)))))
  .skip)
def ir_dot : S :=
  (.seq (.ret (.bin .Add (.bin .Add (.bin .Mult (.idx (.var 0) (.c (.int 0))) (.idx (.var 1) (.c (.int 0)))) (.bin .Mult (.idx (.var 0) (.c (.int 1))) (.idx (.var 1) (.c (.int 1))))) (.bin .Mult (.idx (.var 0) (.c (.int 2))) (.idx (.var 1) (.c (.int 2))))))
  .skip)
def ir_is_place : S :=
  (.seq (.ret (.and (.call 10 [true, true] [] (.cons (.var 0) (.cons (.c (.int 4)) .nil))) (.and (.cmp .GtE (.idx (.var 0) (.c (.int 3))) (.c (.int 1))) (.cmp .Eq (.call 59 [true, true] [] (.cons (.var 0) (.cons (.var 0) .nil))) (.bin .Pow (.idx (.var 0) (.c (.int 3))) (.c (.int 2)))))))
  .skip)
def ir_need_place_v2 : S :=
  (.seq (.ifs (.tnot (.tx (.call 60 [true] [] (.cons (.var 0) .nil)))) (.seq (.rais 3)
  .skip) .skip)
  .skip)
def ir_disc_stretches : S :=
  (.seq (.ret (.tup (.cons (.tup (.cons (.bin .Add (.var 1) (.var 0)) (.cons (.bin .Mult (.c (.int 2)) (.var 1)) .nil))) (.cons (.tup (.cons (.bin .Mult (.c (.int 2)) (.var 1)) (.cons (.bin .Add (.var 1) (.var 0)) .nil))) .nil))))
  .skip)
def ir_even_stretches : S :=
  (.seq (.ret (.tup (.cons (.tup (.cons (.bin .Sub (.bin .Mult (.var 1) (.var 1)) (.bin .Mult (.var 0) (.var 0))) (.cons (.bin .Mult (.var 1) (.var 1)) .nil))) (.cons (.tup (.cons (.bin .Mult (.var 1) (.var 1)) (.cons (.bin .Sub (.bin .Mult (.var 1) (.var 1)) (.bin .Mult (.var 0) (.var 0))) .nil))) .nil))))
  .skip)
def ir_plain_stretches : S :=
  (.seq (.ret (.tup (.cons (.tup (.cons (.c (.int 1)) (.cons (.c (.int 1)) .nil))) (.cons (.tup (.cons (.bin .Mult (.var 1) (.var 1)) (.cons (.bin .Sub (.bin .Mult (.var 1) (.var 1)) (.bin .Mult (.var 0) (.var 0))) .nil))) .nil))))
  .skip)
def ir_round_stretches : S :=
  (.seq (.ret (.tup (.cons (.tup (.cons (.bin .Mult (.var 1) (.var 1)) (.cons (.bin .Pow (.bin .Add (.var 1) (.var 0)) (.c (.int 2))) .nil))) (.cons (.tup (.cons (.bin .Mult (.var 1) (.var 1)) (.cons (.bin .Pow (.bin .Add (.var 1) (.var 0)) (.c (.int 2))) .nil))) .nil))))
  .skip)
def ir_sight_stretches : S :=
  (.seq (.ret (.tup (.cons (.tup (.cons (.bin .Mult (.var 0) (.var 0)) (.cons (.bin .Mult (.var 1) (.var 1)) .nil))) (.cons (.tup (.cons (.c (.int 1)) (.cons (.c (.int 1)) .nil))) .nil))))
  .skip)
def ir_straight_stretches : S :=
  (.seq (.ret (.tup (.cons (.tup (.cons (.bin .Pow (.var 1) (.c (.int 4))) (.cons (.bin .Pow (.var 0) (.c (.int 4))) .nil))) (.cons (.tup (.cons (.bin .Mult (.var 1) (.var 1)) (.cons (.bin .Mult (.var 0) (.var 0)) .nil))) .nil))))
  .skip)
def ir_is_drawn : S :=
  (.seq (.asg (.tup (.cons (.n 2) (.cons (.n 3) (.cons (.n 4) (.cons (.n 5) .nil))))) (.var 1))
  (.seq (.ifs (.tx (.cmp .In (.var 0) (.tup (.cons (.c (.str "straight")) (.cons (.c (.str "sight")) .nil))))) (.seq (.ret (.cmp .Gt (.var 4) (.c (.int 0))))
  .skip) .skip)
  (.seq (.ifs (.tx (.cmp .In (.var 0) (.tup (.cons (.c (.str "even")) (.cons (.c (.str "plain")) .nil))))) (.seq (.ret (.or (.cmp .NotEq (.var 2) (.c (.int 0))) (.cmp .NotEq (.var 3) (.c (.int 0)))))
  .skip) .skip)
  (.seq (.ret (.cmp .NotEq (.bin .Add (.var 5) (.var 4)) (.c (.int 0))))
  .skip))))
def ir_lowest_row : S :=
  (.seq (.asg (.n 1) (.call 9 [true] [] (.cons (.var 0) .nil)))
  (.seq (.ret (.bi .tuple (.cons (.cmpr (.n 2) (.var 0) .nil (.bin .FloorDiv (.var 2) (.var 1))) .nil)))
  .skip))
def ir_fraction_by : S :=
  (.seq (.asg (.n 2) (.call 18 [true] [] (.cons (.tup (.cons (.var 0) (.cons (.var 1) .nil))) .nil)))
  (.seq (.ret (.ite (.tx (.cmp .Gt (.idx (.var 2) (.c (.int 1))) (.c (.int 0)))) (.var 2) (.tup (.cons (.neg (.idx (.var 2) (.c (.int 0)))) (.cons (.neg (.idx (.var 2) (.c (.int 1)))) .nil)))))
  .skip))
def ir_fraction_of : S :=
  (.seq (.ifs (.tor (.tnot (.tx (.call 5 [true] [] (.cons (.var 0) .nil)))) (.tor (.tnot (.tx (.call 5 [true] [] (.cons (.var 1) .nil)))) (.tx (.cmp .Eq (.var 1) (.c (.int 0)))))) (.seq .nev
  .skip) .skip)
  (.seq (.ret (.call 19 [true, true] [] (.cons (.var 0) (.cons (.var 1) .nil))))
  .skip))
def ir_stretches_v2 : S :=
  (.seq (.expr (.call 416 [true] [] (.cons (.var 0) .nil)))
  (.seq (.expr (.call 463 [true] [] (.cons (.var 1) .nil)))
  (.seq (.ifs (.tnot (.tx (.call 238 [true, true] [] (.cons (.var 0) (.cons (.var 1) .nil))))) (.seq (.rais 14)
  .skip) .skip)
  (.seq (.pickf 2 [("disc", "disc_stretches"), ("even", "even_stretches"), ("plain", "plain_stretches"), ("round", "round_stretches"), ("sight", "sight_stretches"), ("straight", "straight_stretches")] (.var 0))
  (.seq (.asg (.tup (.cons (.tup (.cons (.n 3) (.cons (.n 4) .nil))) (.cons (.tup (.cons (.n 5) (.cons (.n 6) .nil))) .nil))) (.callv 2 [("disc_stretches", 419, [true, true]), ("even_stretches", 420, [true, true]), ("plain_stretches", 421, [true, true]), ("round_stretches", 422, [true, true]), ("sight_stretches", 423, [true, true]), ("straight_stretches", 424, [true, true])] (.cons (.idx (.var 1) (.c (.int 2))) (.cons (.idx (.var 1) (.c (.int 3))) .nil))))
  (.seq (.ret (.tup (.cons (.call 20 [true, true] [] (.cons (.var 3) (.cons (.var 4) .nil))) (.cons (.call 20 [true, true] [] (.cons (.var 5) (.cons (.var 6) .nil))) .nil))))
  .skip))))))
def ir_law_v69 : S :=
  (.seq (.forr (.n 1) (.itr .rng (.cons (.bi .max2 (.cons (.c (.int 1)) (.cons (.bi .min2 (.cons (.c (.int 12)) (.cons (.bi .len (.cons (.var 0) .nil)) .nil))) .nil))) .nil)) (.seq (.asg (.n 9) (.call 0 [true, true] [] (.cons (.var 0) (.cons (.var 1) .nil))))
  (.seq (.asg (.n 5) (.call 404 [true] [] (.cons (.var 9) .nil)))
  (.seq (.forr (.n 10) (.call 225 [] [] .nil) (.seq (.asg (.n 2) (.lst (.cons (.c (.str "spot")) .nil)))
  (.seq (.ifs (.tx (.call 236 [true, true] [] (.cons (.var 10) (.cons (.var 5) .nil)))) (.seq (.asg (.n 2) (.call 532 [true, true] [] (.cons (.var 10) (.cons (.var 5) .nil))))
  .skip) .skip)
  (.seq (.ifs (.tx (.cmp .NotEq (.bi .repr (.cons (.lam 531 (.call 533 [true, true] [] (.cons (.var 10) (.cons (.var 5) .nil)))) .nil)) (.bi .repr (.cons (.var 2) .nil)))) (.seq (.ret (.c (.bool false)))
  .skip) .skip)
  (.seq (.ifs (.tx (.cmp .NotEq (.lam 531 (.call 533 [true, true] [] (.cons (.var 10) (.cons (.var 5) .nil)))) (.var 2))) (.seq (.ret (.c (.bool false)))
  .skip) .skip)
  .skip)))))
  (.seq (.asg (.n 3) (.lst (.cons (.c .none) (.cons (.c (.str "flat")) (.cons (.tup (.cons (.c (.str "round")) .nil)) (.cons (.tup (.cons (.c (.str "round")) (.cons (.tup (.cons (.c (.int 1)) (.cons (.c (.int 0)) (.cons (.c (.int 0)) (.cons (.c (.int 0)) .nil))))) .nil))) (.cons (.c (.str "")) (.cons (.c (.int 3)) (.cons (.lst (.cons (.c (.str "round")) .nil)) (.cons .dct .nil))))))))))
  (.seq (.asg (.n 4) (.lst (.cons (.c .none) (.cons (.tup (.cons (.c (.int 0)) (.cons (.c (.int 0)) (.cons (.c (.int 1)) .nil)))) (.cons (.tup (.cons (.c (.int 0)) (.cons (.c (.int 0)) (.cons (.c (.int 2)) (.cons (.c (.int 2)) .nil))))) (.cons (.tup (.cons (.c (.int 1)) (.cons (.c (.int 1)) (.cons (.c (.int 1)) (.cons (.c (.int 1)) .nil))))) (.cons (.lst (.cons (.c (.int 0)) (.cons (.c (.int 0)) (.cons (.c (.int 1)) (.cons (.c (.int 1)) .nil))))) (.cons (.c (.str "far")) (.cons (.tup (.cons (.c (.int 0)) (.cons (.c (.int 0)) (.cons (.c (.int 1)) (.cons (.c (.bool true)) .nil))))) (.cons .dct .nil))))))))))
  (.seq (.asg (.tup (.cons (.n 7) (.cons (.n 6) .nil))) (.tup (.cons (.idx (.var 3) (.call 140 [true, true] [] (.cons (.var 9) (.cons (.c (.int 8)) .nil)))) (.cons (.idx (.var 4) (.call 140 [true, true] [] (.cons (.var 9) (.cons (.c (.int 8)) .nil)))) .nil))))
  (.seq (.asg (.n 8) (.idx (.lst (.cons (.var 5) (.cons (.var 6) .nil))) (.call 140 [true, true] [] (.cons (.var 9) (.cons (.c (.int 2)) .nil)))))
  (.seq (.ifs (.tx (.cmp .NotEq (.lam 531 (.call 533 [true, true] [] (.cons (.var 7) (.cons (.var 8) .nil)))) (.lst (.cons (.c (.str "drawing")) .nil)))) (.seq (.ret (.c (.bool false)))
  .skip) .skip)
  (.seq (.ifs (.tx (.cmp .NotEq (.lamP 531 9 (.call 533 [true, true] [] (.cons (.idx (.call 225 [] [] .nil) (.call 140 [true, true] [] (.cons (.var 9) (.cons (.c (.int 6)) .nil)))) (.cons (.var 6) .nil)))) (.lst (.cons (.c (.str "place")) .nil)))) (.seq (.ret (.c (.bool false)))
  .skip) .skip)
  .skip))))))))))
  (.seq (.ret (.c (.bool true)))
  .skip))
def G : Nat → Fn
  | 0 => Fn.of [false, false] c_law_pool
  | 140 => Fn.of [true, false] c_law_take_v2
  | 21 => Fn.of [false, false] c_law_shared
  | 46 => Fn.of [false] c_law_lowest
  | 142 => Fn.of [false, false, false] c_law_at_v2
  | 143 => Fn.of [true] c_law_great_v2
  | 144 => Fn.of [true] c_law_place_v2
  | 403 => Fn.of [true] c_law_neighbours
  | 404 => Fn.of [true] c_law_hard_place
  | 225 => Fn.of [] c_law_ways_v2
  | 236 => Fn.of [false, false] c_law_is_drawn
  | 531 => Fn.of [] c_law_met_kept_v5
  | 24 => Fn.of [false, false] c_law_fraction
  | 532 => Fn.of [false, false] c_law_stretches
  | 234 => Fn.of [false] c_is_way
  | 416 => Fn.of [false] c_need_way
  | 5 => Fn.of [false] c_is_whole
  | 7 => Fn.of [false, false] c_are_whole
  | 8 => Fn.of [false, false] c_shared_part
  | 9 => Fn.of [false] c_part_of_all
  | 10 => Fn.of [false, false] c_is_lowest
  | 59 => Fn.of [false, false] c_dot
  | 60 => Fn.of [false] c_is_place
  | 463 => Fn.of [false] c_need_place_v2
  | 419 => Fn.of [false, false] c_disc_stretches
  | 420 => Fn.of [false, false] c_even_stretches
  | 421 => Fn.of [false, false] c_plain_stretches
  | 422 => Fn.of [false, false] c_round_stretches
  | 423 => Fn.of [false, false] c_sight_stretches
  | 424 => Fn.of [false, false] c_straight_stretches
  | 238 => Fn.of [false, false] c_is_drawn
  | 18 => Fn.of [false] c_lowest_row
  | 19 => Fn.of [false, false] c_fraction_by
  | 20 => Fn.of [false, false] c_fraction_of
  | 533 => Fn.of [false, false] c_stretches_v2
  | 534 => lawFn 63
  | _ => Fn.of [] fun _ _ _ => False
local macro_rules | `(command| #guard_panic in $c) => `($c:command #guard_msgs (drop all) in example : True := True.intro)
set_option Elab.async true
#guard_panic in
theorem v_law_pool : Ver G (Fn.of [false, false] c_law_pool) 2 3 ir_law_pool := by
  refine verOf ?_
  rintro _ P R ⟨ns, k, rfl, h1, h2, q⟩
  refine ⟨rfl, ?_⟩
  show wS G ir_law_pool _ [_, _, _] _
  wtm_at "g"
  ((conv => whnf); first | refine brD (fun h => ?_) (fun h => ?_) | refine brND (fun h => ?_) (fun h => ?_) | refine brNe (fun h => ?_) (fun h => ?_))
  · have hk : k < (ns.map PySem.PyData.int).length := h
    have hk2 : k.toNat < ns.length := by rw [List.length_map] at hk; omega
    wtm_at "w"
    refine optIx h1 hk fun d hd => ?_
    obtain ⟨z, _, rfl⟩ := getMap hd
    wtm_at "g"
    generalize hx : Int.fmod _ 1000000007 = x
    rw [fmp (by decide)] at hx
    wtm_at "g"
    refine .mk (q _ ⟨_, _, _, rfl, ?_, ?_, ?_, ?_, ?_⟩)
    · split <;> omega
    all_goals omega
  · wtm_at "g"
    generalize hx : Int.fmod _ 1000000007 = x
    rw [fmp (by decide)] at hx
    wtm_at "g"
    refine .mk (q _ ⟨_, _, _, rfl, ?_, ?_, ?_, ?_, ?_⟩)
    · split <;> omega
    all_goals omega
#guard_panic in
theorem v_law_take_v2 : Ver G (Fn.of [true, false] c_law_take_v2) 2 5 ir_law_take_v2 := by
  refine verOf ?_
  rintro _ P R ⟨ds, n, m, rfl, ⟨a, b, c, rfl, h1, h2, h3, h4, h5⟩, h7, h8, q⟩
  refine ⟨rfl, ?_⟩
  show wS G ir_law_take_v2 _ [_, _, _, _, _] _
  wtm_at "g"
  ((conv => whnf); first | refine brD (fun h => ?_) (fun h => ?_) | refine brND (fun h => ?_) (fun h => ?_) | refine brNe (fun h => ?_) (fun h => ?_))
  · wtm_at "g"
    refine .mk (q _ _ ?_ ?_ ⟨_, _, _, rfl, ?_, h2, h3, h4, ?_⟩)
    · rw [fmp (by omega)]; exact Int.emod_nonneg _ (by omega)
    · rw [fmp (by omega)]; exact Int.emod_lt_of_pos _ (by omega)
    · rw [fdp (by omega)]; exact Int.ediv_nonneg h1 (by omega)
    · omega
  · wtm_at "g"
    generalize hx : Int.fmod _ 2147483629 = x
    rw [fmp (by decide)] at hx
    wtm_at "g"
    generalize hy : Int.fmod _ 2147483587 = y
    rw [fmp (by decide)] at hy
    wtm_at "g"
    generalize hz : Int.fmod _ 65537 = z
    rw [fmp (by decide)] at hz
    have q0 : 0 ≤ 69621 * (c + 1) * (c + 1) := Int.mul_nonneg (by omega) (by omega)
    have q1 : 69621 * (c + 1) * (c + 1) ≤ 69621 * 10000001 * 10000001 := Int.mul_le_mul (by omega) (by omega) (by omega) (by omega)
    wtm_at "g"
    generalize hu : Int.fmod _ 2147483563 = u
    rw [fmp (by decide)] at hu
    wtm_at "g"
    generalize hv : Int.fmod _ 2147483549 = v
    rw [fmp (by decide)] at hv
    wtm_at "g"
    refine .mk (q _ _ ?_ ?_ ⟨_, _, _, rfl, h1, h2, h3, ?_, ?_⟩)
    · rw [fmp (by omega)]; exact Int.emod_nonneg _ (by omega)
    · rw [fmp (by omega)]; exact Int.emod_lt_of_pos _ (by omega)
    · omega
    · omega
#guard_panic in
theorem v_law_shared : Ver G (Fn.of [false, false] c_law_shared) 2 2 ir_law_shared := by
  refine verOf ?_
  rintro _ P R ⟨a, b, rfl, q⟩
  refine ⟨rfl, ?_⟩
  show wS G ir_law_shared _ [_, _] _
  wtm_at "g"
  refine ⟨fun m e => ∃ x y : Int, 0 ≤ x ∧ 0 ≤ y ∧ e = [some (vI x), some (vI y)] ∧ Int.gcd x y = Int.gcd a b ∧ m = y.natAbs, ⟨_, if a < 0 then -a else a, if b < 0 then -b else b, ?_, ?_, rfl, ?_, rfl⟩, ?_⟩
  · split <;> omega
  · split <;> omega
  · split <;> split <;> simp
  · rintro m _ ⟨x, y, hx, hy, rfl, hg, rfl⟩
    wtm_at "g"
    ((conv => whnf); first | refine brD (fun h => ?_) (fun h => ?_) | refine brND (fun h => ?_) (fun h => ?_) | refine brNe (fun h => ?_) (fun h => ?_))
    · have hy0 : y ≠ 0 := by first | exact h | exact fun e => h e | omega
      wtm_at "g"
      refine ⟨_, ?_, y, Int.fmod x y, hy, ?_, rfl, ?_, rfl⟩
      · rw [fmp hy]
        have h1 := Int.emod_nonneg x hy0
        have h2 := Int.emod_lt_of_pos x (show 0 < y by omega)
        omega
      · rw [fmp hy]; exact Int.emod_nonneg _ hy0
      · rw [fmp hy, gcd_step hx hy, hg]
    · have hy0 : y = 0 := by omega
      wtm_at "g"
      refine .mk ?_
      subst hy0
      rw [Int.gcd_zero_right] at hg
      have e : (x : Int) = (Int.gcd a b : Int) := by omega
      show P (vI x) []
      rw [e]; exact q
#guard_panic in
theorem v_law_lowest : Ver G (Fn.of [false] c_law_lowest) 1 3 ir_law_lowest := by
  refine verOf ?_
  rintro _ P R ⟨ns, hs, hb, h0, q⟩
  refine ⟨by rcases hs with rfl | rfl <;> rfl, ?_⟩
  obtain ⟨d, hd, rfl⟩ : ∃ d, (d = .tuple (ns.map .int) ∨ d = .list (ns.map .int)) ∧ _ = [SV.v d] := by
    rcases hs with h | h
    · exact ⟨_, .inl rfl, h⟩
    · exact ⟨_, .inr rfl, h⟩
  show wS G ir_law_lowest _ [_, _, _] _
  have key : ∀ {Q : List D → Prop}, Q (ns.map .int) → (match itemsOf d with | some items => Ls items Q | none => False) := by
    intro Q h
    rcases hd with rfl | rfl <;> exact ⟨h⟩
  have hg := gcdAll_bt h0 hb
  have hp := gcdAll_pos h0
  wtm_at "g"
  refine key ?_
  refine forW_inv (fun i e => ∃ s2, e = [some (.v d), some (vI (gcdAll (ns.take i))), s2] ∧ MP s2) ⟨_, rfl, trivial⟩ ?_ ?_
  · rintro i dd e K hi ⟨s2, rfl, m2⟩ hK - -
    obtain ⟨z, hz, rfl⟩ := getMap hi
    wtm_at "g"
    wtm_at "c"
    wtm_at "g"
    refine (hK _ ⟨some (vI z), ?_, trivial⟩).1
    have e : gcdAll (ns.take (i + 1)) = (Int.gcd (gcdAll (ns.take i)) z : Int) := by
      unfold gcdAll
      rw [List.take_succ, hz, List.foldl_append]; rfl
    rw [e]
  rintro e ⟨s2, rfl, m2⟩
  rw [List.length_map, List.take_length]
  wtm_at "g"
  refine key ?_
  refine eachW_inv (fun i acc e => (∃ s, e = [some (.v d), some (vI (gcdAll ns)), s]) ∧ acc = (ns.take i).map fun n => (PySem.PyData.int (n / gcdAll ns))) ⟨⟨_, rfl⟩, rfl⟩ ?_ ?_
  · rintro i dd acc e K hi ⟨⟨s, rfl⟩, rfl⟩ hK
    obtain ⟨z, hz, rfl⟩ := getMap hi
    wtm_at "g"
    refine hK _ _ ⟨⟨_, rfl⟩, ?_⟩
    rw [List.take_succ, hz, List.map_append, fdp (by omega)]; rfl
  · rintro acc e ⟨⟨s, rfl⟩, rfl⟩
    wtm_at "g"
    refine .mk ?_
    have e : (ns.take (ns.map PySem.PyData.int).length).map (fun n => (PySem.PyData.int (n / gcdAll ns))) = (lowL ns).map .int := by
      rw [List.length_map, List.take_length]; unfold lowL; rw [List.map_map]; rfl
    rw [e]; exact q
#guard_panic in
theorem v_law_at_v2 : Ver G (Fn.of [false, false, false] c_law_at_v2) 3 5 ir_law_at_v2 := by
  refine verOf ?_
  rintro _ P R ⟨p, q, m, k, rfl, h1, hp, hq, hm, hk, g⟩
  refine ⟨rfl, ?_⟩
  show wS G ir_law_at_v2 _ [_, _, _, _, _] _
  have bp := hp.mono hk
  have bq := hq.mono hk
  have bm := hm.mono hk
  have e : [2 * p * m, 2 * q * m, m * m - (p * p + q * q), m * m + (p * p + q * q)] = [2 * p * m, 2 * q * m, m * m - p * p - q * q, m * m + p * p + q * q] := by
    rw [Int.sub_sub, Int.add_assoc]
  have h0 : gcdAll [2 * p * m, 2 * q * m, m * m - (p * p + q * q), m * m + (p * p + q * q)] ≠ 0 := by rw [e]; exact at_nzp (p := p) (q := q) h1
  have hb : ∀ n ∈ [2 * p * m, 2 * q * m, m * m - (p * p + q * q), m * m + (p * p + q * q)], Bt 8900 n := four_bt (by wtm_at "btm") (by wtm_at "btm") (by wtm_at "btm") (by wtm_at "btm")
  wtm_at "g"
  refine callOf ⟨_, .inl rfl, hb, h0, ?_⟩
  wtm_at "g"
  unfold atL at g
  rw [← e] at g
  exact .mk g
#guard_panic in
theorem v_law_great_v2 : Ver G (Fn.of [true] c_law_great_v2) 1 3 ir_law_great_v2 := by
  refine verOf ?_
  rintro _ P R ⟨ds, n, rfl, hp, q⟩
  refine ⟨rfl, ?_⟩
  show wS G ir_law_great_v2 _ [_, _, _] _
  wtm_at "g"
  refine lsI ?_
  wtm_at "g"
  wtm_at "c"
  intro d1 ds1 a1 b1 p1
  wtm_at "g"
  wtm_at "c"
  intro d2 ds2 a2 b2 p2
  wtm_at "g"
  wtm_at "c"
  intro d3 ds3 a3 b3 p3
  wtm_at "g"
  exact .mk (q _ _ (by omega) (by omega) p3)
#guard_panic in
theorem v_law_place_v2 : Ver G (Fn.of [true] c_law_place_v2) 1 6 ir_law_place_v2 := by
  refine verOf ?_
  rintro _ P R ⟨ds, n, rfl, hp, g⟩
  refine ⟨rfl, ?_⟩
  show wS G ir_law_place_v2 _ [_, _, _, _, _, _] _
  have e17 : (10 : Int) ^ Int.toNat 17 = 100000000000000000 := by decide
  wtm_at "g"
  wtm_at "c"
  intro w ds1 w0 w1 p1
  wtm_at "g"
  ((conv => whnf); first | refine brD (fun h => ?_) (fun h => ?_) | refine brND (fun h => ?_) (fun h => ?_) | refine brNe (fun h => ?_) (fun h => ?_))
  · wtm_at "g"
    wtm_at "c"
    intro t ds2 t0 t1 p2
    wtm_at "g"
    refine optIx t0 (by exact t1) fun d hd => ?_
    obtain ⟨x, y, z, w, rfl, hpl, hb⟩ : ∃ x y z w, d = dL [x, y, z, w] ∧ PlaceI x y z w ∧ B4 125 x y z w := by
      have z0 : Bt 125 0 := ⟨Nat.two_pow_pos _⟩
      have o1 : Bt 125 1 := ⟨Nat.one_lt_two_pow (by decide)⟩
      obtain rfl | rfl | rfl | rfl : t = 0 ∨ t = 1 ∨ t = 2 ∨ t = 3 := by omega
      · cases hd; exact ⟨0, 0, 1, 1, rfl, ⟨by decide, by decide, by decide⟩, z0, z0, o1, o1⟩
      · cases hd; exact ⟨0, 0, -1, 1, rfl, ⟨by decide, by decide, by decide⟩, z0, z0, o1.neg, o1⟩
      · cases hd; exact ⟨1, 0, 0, 1, rfl, ⟨by decide, by decide, by decide⟩, o1, z0, z0, o1⟩
      · cases hd; exact ⟨0, -1, 0, 1, rfl, ⟨by decide, by decide, by decide⟩, z0, o1.neg, z0, o1⟩
    wtm_at "g"
    exact .mk (g x y z w _ hpl hb (p2.le (by omega)))
  · wtm_at "g"
    ((conv => whnf); first | refine brD (fun h => ?_) (fun h => ?_) | refine brND (fun h => ?_) (fun h => ?_) | refine brNe (fun h => ?_) (fun h => ?_))
    · wtm_at "g"
      wtm_at "c"
      intro a ds2 a0 a1 p2
      have ba : Bt 60 (a - 5 * 10 ^ Int.toNat 17) := ⟨by rw [e17]; omega⟩
      wtm_at "g"
      wtm_at "c"
      intro b ds3 b0 b1 p3
      have bb : Bt 60 (b - 5 * 10 ^ Int.toNat 17) := ⟨by rw [e17]; omega⟩
      wtm_at "g"
      wtm_at "c"
      intro c ds4 c0 c1 p4
      have bc : Bt 60 (1 + c) := ⟨by omega⟩
      obtain ⟨x, y, z, w, e, hpl, hb⟩ := at_all (j := 125) (show 1 ≤ 1 + c by omega) ba bb bc (by decide)
      wtm_at "g"
      refine callOf ⟨_, _, _, 60, rfl, by omega, ba, bb, bc, by decide, ?_⟩
      rw [e]
      wtm_at "g"
      exact .mk (g x y z w _ hpl hb (p4.le (by omega)))
    · wtm_at "g"
      wtm_at "c"
      intro t ds2 t0 t1 p2
      wtm_at "g"
      refine optIx t0 (by exact t1) fun d hd => ?_
      obtain ⟨top, rfl, top0, top1⟩ : ∃ f : Int, d = .int f ∧ 1 ≤ f ∧ f ≤ 30 := by
        obtain rfl | rfl | rfl | rfl : t = 0 ∨ t = 1 ∨ t = 2 ∨ t = 3 := by omega
        all_goals (cases hd; exact ⟨_, rfl, by decide, by decide⟩)
      wtm_at "g"
      wtm_at "c"
      intro u ds3 u0 u1 p3
      wtm_at "g"
      refine optIx u0 (by exact u1) fun d hd => ?_
      obtain ⟨f, rfl, f0, f1⟩ : ∃ f : Int, d = .int f ∧ 1 ≤ f ∧ f ≤ 30 := by
        obtain rfl | rfl | rfl | rfl : u = 0 ∨ u = 1 ∨ u = 2 ∨ u = 3 := by omega
        all_goals (cases hd; exact ⟨_, rfl, by decide, by decide⟩)
      have bf : Bt 60 f := ⟨by omega⟩
      wtm_at "g"
      wtm_at "c"
      intro v ds4 v0 v1 p4
      have bv : Bt 60 (1 + v) := ⟨by omega⟩
      have bt : Bt 60 top := ⟨by omega⟩
      wtm_at "g"
      wtm_at "c"
      intro a ds5 a0 a1 p5
      have ba : Bt 60 (a - top) := ⟨by omega⟩
      wtm_at "g"
      wtm_at "c"
      intro b ds6 b0 b1 p6
      have bb : Bt 60 (b - top) := ⟨by omega⟩
      obtain ⟨x, y, z, w, e, hpl, hb⟩ := at_all (j := 125) (show 1 ≤ 1 + v by omega) ba bb bv (by decide)
      wtm_at "g"
      refine callOf ⟨_, _, _, 60, rfl, by omega, ba, bb, bv, by decide, ?_⟩
      rw [e]
      wtm_at "g"
      exact .mk (g x y z w _ hpl hb (p6.le (by omega)))
#guard_panic in
theorem v_law_neighbours : Ver G (Fn.of [true] c_law_neighbours) 1 4 ir_law_neighbours := by
  refine verOf ?_
  rintro _ P R ⟨ds, n, rfl, hp, g⟩
  refine ⟨rfl, ?_⟩
  show wS G ir_law_neighbours _ [_, _, _, _] _
  wtm_at "g"
  wtm_at "c"
  intro k ds_k k0 k1 pk
  wtm_at "g"
  wtm_at "w"
  refine lsI ?_
  refine forW_inv (fun i e => ∃ a b s3, e = [some (.io ds_k), some (vI a), some (vI b), s3] ∧ 0 < a ∧ a ≤ b ∧ b ≤ 2 * 3 ^ i ∧ MP s3) ⟨1, 2, _, rfl, by decide, by decide, by decide, trivial⟩ ?_ ?_
  · rintro i d e K hi ⟨a, b, s3, rfl, h1, h2, h3, m3⟩ hK - -
    obtain ⟨hi1, rfl⟩ := rng_get hi
    have h4 := pow3_m (show i ≤ 51 by omega)
    have h6 : b ≤ 2 * 3 ^ 51 := Int.le_trans h3 (Int.mul_le_mul_of_nonneg_left h4 (by decide))
    have bb : Bt 84 b := pow84_bt h1 h2 h6
    have b2 : Bt 2 (2 : Int) := ⟨by decide⟩
    have ba : Bt 84 a := pow84_bt h1 (Int.le_refl a) (Int.le_trans h2 h6)
    have h5 := pow3_s i
    wtm_at "g"
    exact (hK _ ⟨b, 2 * b + a, _, rfl, by omega, by omega, by omega, by first | trivial | assumption⟩).1
  · rintro e ⟨a, b, s3, rfl, h1, h2, h3, m3⟩
    rw [rng_length] at h3
    have h4 := pow3_m (show k.toNat ≤ 51 by omega)
    wtm_at "g"
    exact .mk (g a b _ h1 h2 (pow84_bt h1 h2 (Int.le_trans h3 (Int.mul_le_mul_of_nonneg_left h4 (by decide)))) pk)
#guard_panic in
theorem v_law_hard_place : Ver G (Fn.of [true] c_law_hard_place) 1 7 ir_law_hard_place := by
  refine verOf ?_
  rintro _ P R ⟨ds, n, rfl, hp, g⟩
  refine ⟨rfl, ?_⟩
  show wS G ir_law_hard_place _ [_, _, _, _, _, _, _] _
  have e6 : (10 : Int) ^ Int.toNat 6 = 1000000 := by decide
  have e15 : (10 : Int) ^ Int.toNat 15 = 1000000000000000 := by decide
  have hp0 : Pool (n + 19 + 1) ds := hp
  clear hp
  wtm_at "g"
  wtm_at "c"
  intro w ds_w w0 w1 pw
  wtm_at "g"
  by_cases c4 : w < 4
  · wtm_at "g"
    refine callOf ⟨ds_w, n + 7, rfl, pw.le (by omega), fun x y z w ds' h1 h2 h3 => ?_⟩
    wtm_at "g"
    exact .mk (g x y z w _ h1 (h2.mono (by decide)) (h3.le (by omega)))
  have hp1 : Pool (n + 18 + 1) ds_w := pw
  clear pw
  wtm_at "g"
  wtm_at "c"
  intro p ds_p p0 p1 pp
  have hp2 : Pool (n + 17 + 1) ds_p := pp
  clear pp
  wtm_at "g"
  wtm_at "c"
  intro q ds_q q0 q1 pq
  have bp : Bt 8 (1 + p) := ⟨by omega⟩
  have bq : Bt 8 (q - 12) := ⟨by omega⟩
  have p1 : 1 ≤ 1 + p := by omega
  have q12 : -12 ≤ q - 12 := by omega
  by_cases w4 : w = 4
  · obtain ⟨nz, x, y, z, w', e, hpl, hb⟩ := flat_place p1 bp bq
    have b2 : Bt 2 (2 : Int) := ⟨by decide⟩
    have hb2 : ∀ n ∈ [(1 + p) * (1 + p) - (q - 12) * (q - 12), 2 * (1 + p) * (q - 12), 0, (1 + p) * (1 + p) + (q - 12) * (q - 12)], Bt 8900 n := four_bt (((bp.mul bp).sub (bq.mul bq)).mono (by decide)) (((b2.mul bp).mul bq).mono (by decide)) ⟨Nat.two_pow_pos _⟩ (((bp.mul bp).add (bq.mul bq)).mono (by decide))
    wtm_at "g"
    refine callOf ⟨[(1 + p) * (1 + p) - (q - 12) * (q - 12), 2 * (1 + p) * (q - 12), 0, (1 + p) * (1 + p) + (q - 12) * (q - 12)], .inl rfl, hb2, nz, ?_⟩
    rw [e]
    wtm_at "g"
    exact .mk (g x y z w' _ hpl hb (pq.le (by omega)))
  by_cases w7 : 7 < w
  · have z84 : Bt 84 (0 : Int) := ⟨Nat.two_pow_pos _⟩
    wtm_at "g"
    refine callOf ⟨ds_q, n + 1, rfl, pq.le (by omega), fun a b ds' h1 h2 h3 p3 => ?_⟩
    have ba : Bt 84 a := ⟨by have := h3.lt; omega⟩
    obtain ⟨x, y, z, w', e, hpl, hb⟩ := at_allh (j := 175) (.inl (show 1 ≤ b by omega)) ba z84 h3 (by decide)
    wtm_at "g"
    refine callOf ⟨a, 0, b, 84, rfl, .inl (by omega), ba, z84, h3, by decide, ?_⟩
    rw [e]
    by_cases z0 : q - 12 < 0
    · have bc : Bt 84 (0 - b) := by rw [Int.zero_sub]; exact h3.neg
      obtain ⟨x2, y2, z2, w2, e2, hpl2, hb2⟩ := at_allh (j := 175) (.inl p1) bc ba (bp.mono (show 8 ≤ 84 by decide)) (by decide)
      wtm_at "g"
      refine optIx (i := if decide (q - 12 < 0) = true then (1 : Int) else 0) (by split <;> omega) (by show _ < (2 : Int); split <;> omega) fun d hd => ?_
      rw [if_pos (decide_eq_true z0)] at hd
      cases hd
      wtm_at "g"
      refine callOf ⟨0 - b, a, 1 + p, 84, rfl, .inl p1, bc, ba, bp.mono (by decide), by decide, ?_⟩
      rw [e2]
      wtm_at "g"
      refine optIx (i := w - 8) (by omega) (by show w - 8 < 2; omega) fun d hd => ?_
      obtain rfl | rfl : w = 8 ∨ w = 9 := by omega
      · cases hd
        wtm_at "g"
        exact .mk (g x y z w' _ hpl hb (p3.le (by omega)))
      · cases hd
        wtm_at "g"
        exact .mk (g x2 y2 z2 w2 _ hpl2 hb2 (p3.le (by omega)))
    · have bc : Bt 84 (b) := h3
      obtain ⟨x2, y2, z2, w2, e2, hpl2, hb2⟩ := at_allh (j := 175) (.inl p1) bc ba (bp.mono (show 8 ≤ 84 by decide)) (by decide)
      wtm_at "g"
      refine optIx (i := if decide (q - 12 < 0) = true then (1 : Int) else 0) (by split <;> omega) (by show _ < (2 : Int); split <;> omega) fun d hd => ?_
      rw [if_neg (by simpa using z0)] at hd
      cases hd
      wtm_at "g"
      refine callOf ⟨b, a, 1 + p, 84, rfl, .inl p1, bc, ba, bp.mono (by decide), by decide, ?_⟩
      rw [e2]
      wtm_at "g"
      refine optIx (i := w - 8) (by omega) (by show w - 8 < 2; omega) fun d hd => ?_
      obtain rfl | rfl : w = 8 ∨ w = 9 := by omega
      · cases hd
        wtm_at "g"
        exact .mk (g x y z w' _ hpl hb (p3.le (by omega)))
      · cases hd
        wtm_at "g"
        exact .mk (g x2 y2 z2 w2 _ hpl2 hb2 (p3.le (by omega)))
  have hp3 : Pool (n + 16 + 1) ds_q := pq
  clear pq
  wtm_at "g"
  wtm_at "g"
  wtm_at "c"
  intro f ds_f f0 f1 pf
  wtm_at "g"
  refine optIx f0 (by exact f1) fun d hd => ?_
  obtain ⟨far, rfl, t0, t1⟩ : ∃ far : Int, d = .int far ∧ 1 ≤ far ∧ far ≤ 1000000000000000 := by
    obtain rfl | rfl | rfl : f = 0 ∨ f = 1 ∨ f = 2 := by omega
    all_goals (cases hd; exact ⟨_, rfl, by decide, by decide⟩)
  clear hd
  have bf : Bt 50 far := ⟨by omega⟩
  have b13 : Bt 4 (13 : Int) := ⟨by decide⟩
  have b1 : Bt 60 (1 : Int) := ⟨by decide⟩
  have bp6 : Bt 60 (1 + p) := bp.mono (by decide)
  have bq6 : Bt 60 (q - 12) := bq.mono (by decide)
  have b13f : Bt 60 (13 * far) := (b13.mul bf).mono (by decide)
  have bpf : Bt 60 ((1 + p) * far) := (bp.mul bf).mono (by decide)
  have bqf : Bt 60 ((q - 12) * far) := (bq.mul bf).mono (by decide)
  have bfp : Bt 60 (far - (1 + p)) := (bf.sub (bp.mono (show 8 ≤ 50 by decide))).mono (by decide)
  have bfq : Bt 60 (far + (q - 12)) := (bf.add (bq.mono (show 8 ≤ 50 by decide))).mono (by decide)
  have ppf : 1 ≤ (1 + p) * far := Int.mul_pos (show 0 < 1 + p by omega) (show 0 < far by omega)
  by_cases w5 : w = 5
  · obtain ⟨x, y, z, w', e, hpl, hb⟩ := at_allh (j := 175) (.inl (show 1 ≤ 13 * far by omega)) bp6 bq6 b13f (by decide)
    wtm_at "g"
    refine callOf ⟨1 + p, q - 12, 13 * far, 60, rfl, .inl (by omega), bp6, bq6, b13f, by decide, ?_⟩
    rw [e]
    wtm_at "g"
    exact .mk (g x y z w' _ hpl hb (pf.le (by omega)))
  by_cases w6 : w = 6
  · obtain ⟨x, y, z, w', e, hpl, hb⟩ := at_allh (j := 175) (.inl (show (1 : Int) ≤ 1 by decide)) bpf bqf b1 (by decide)
    wtm_at "g"
    refine callOf ⟨(1 + p) * far, (q - 12) * far, 1, 60, rfl, .inl (by decide), bpf, bqf, b1, by decide, ?_⟩
    rw [e]
    wtm_at "g"
    exact .mk (g x y z w' _ hpl hb (pf.le (by omega)))
  · obtain ⟨x, y, z, w', e, hpl, hb⟩ := at_allh (j := 175) (.inr ppf) bpf bfp bfq (by decide)
    wtm_at "g"
    refine callOf ⟨(1 + p) * far, far - (1 + p), far + (q - 12), 60, rfl, .inr ppf, bpf, bfp, bfq, by decide, ?_⟩
    rw [e]
    wtm_at "g"
    exact .mk (g x y z w' _ hpl hb (pf.le (by omega)))
#guard_panic in
theorem v_law_ways_v2 : Ver G (Fn.of [] c_law_ways_v2) 0 0 ir_law_ways_v2 := by
  refine verOf ?_
  rintro _ P R ⟨rfl, g⟩
  refine ⟨rfl, ?_⟩
  show wS G ir_law_ways_v2 _ [] _
  wtm_at "g"
  exact .mk g
#guard_panic in
theorem v_law_is_drawn : Ver G (Fn.of [false, false] c_law_is_drawn) 2 2 ir_law_is_drawn := by
  refine verOf ?_
  rintro _ P R ⟨x, a, b, c, w, rfl, hx, hp, g⟩
  refine ⟨rfl, ?_⟩
  show wS G ir_law_is_drawn _ [_, _] _
  rw [← south_iff hp, ← two_iff] at g
  rcases way_six hx with rfl | rfl | rfl | rfl | rfl | rfl
  · wtm_at "g"
    refine .mk ?_
    show P (vB (!PySem.PyData.eqv (dL [a, b, c, w]) (dL [0, 0, -1, 1]))) []
    rw [eqv_L]; exact g
  · wtm_at "g"
    refine .mk ?_
    show P (vB (!PySem.PyData.eqv (dL [a, b]) (dL [0, 0]))) []
    rw [eqv_L]; exact g
  · wtm_at "g"
    refine .mk ?_
    show P (vB (!PySem.PyData.eqv (dL [a, b]) (dL [0, 0]))) []
    rw [eqv_L]; exact g
  · wtm_at "g"
    refine .mk ?_
    show P (vB (!PySem.PyData.eqv (dL [a, b, c, w]) (dL [0, 0, -1, 1]))) []
    rw [eqv_L]; exact g
  · wtm_at "g"
    exact .mk g
  · wtm_at "g"
    exact .mk g
#guard_panic in
theorem v_law_met_kept_v5 : VerL G (Fn.of [] c_law_met_kept_v5) 6 ir_law_met_kept_v5 := by
  refine verOfL ?_
  intro O P R hO a
  have h1 : ∀ d, O (.inl d) → P (.v d) [] := fun d hd => by
    obtain ⟨P0, R0, ⟨o, e, g⟩, k, _⟩ := hO _ hd
    cases outD_inj e
    rcases g with ⟨d', e1, g⟩ | ⟨e1, g⟩ | ⟨e1, g⟩ | ⟨e1, g⟩ <;> (cases e1; try exact k _ _ g)
  have h2 : ∀ c, O (.inr c) → (c = 3 ∧ P (.own [.str "place"]) []) ∨ (c = 11 ∧ P (.own [.str "drawing"]) []) ∨ (c = 14 ∧ P (.own [.str "spot"]) []) := fun c hc => by
    obtain ⟨P0, R0, ⟨o, e, g⟩, k, _⟩ := hO _ hc
    cases outD_inj e
    rcases g with ⟨d', e1, g⟩ | ⟨e1, g⟩ | ⟨e1, g⟩ | ⟨e1, g⟩
    · cases e1
    · cases e1; exact .inl ⟨rfl, k _ _ g⟩
    · cases e1; exact .inr (.inl ⟨rfl, k _ _ g⟩)
    · cases e1; exact .inr (.inr ⟨rfl, k _ _ g⟩)
  show wS (thG G _ _) ir_law_met_kept_v5 _ [some (.th _), _, _, _, _, _] _
  wtm_at "g"
  refine actI (fun d fin hd => ?_) (fun c fin hc => ?_)
  · have g := h1 d hd
    wtm_at "g"
    exact .mk g
  · rcases h2 c hc with ⟨rfl, g⟩ | ⟨rfl, g⟩ | ⟨rfl, g⟩
    · wtm_at "g"
      exact .mk g
    · wtm_at "g"
      exact .mk g
    · wtm_at "g"
      exact .mk g
#guard_panic in
theorem v_law_met_kept_v5P : VerLP G (Fn.of [] c_law_met_kept_v5) 7 ir_law_met_kept_v5P := by
  refine verOfLP ?_
  intro ds O P R hO a
  have h1 : ∀ d ds', O (.inl d) ds' → P (.v d) [ds'] := fun d ds' hd => by
    obtain ⟨P0, R0, ⟨o, e, g⟩, k, _⟩ := hO _ _ hd
    cases outD_inj e
    rcases g with ⟨d', e1, g⟩ | ⟨e1, g⟩ | ⟨e1, g⟩ | ⟨e1, g⟩ <;> (cases e1; try exact k _ _ g)
  have h2 : ∀ c ds', O (.inr c) ds' → (c = 3 ∧ P (.own [.str "place"]) [ds']) ∨ (c = 11 ∧ P (.own [.str "drawing"]) [ds']) ∨ (c = 14 ∧ P (.own [.str "spot"]) [ds']) := fun c ds' hc => by
    obtain ⟨P0, R0, ⟨o, e, g⟩, k, _⟩ := hO _ _ hc
    cases outD_inj e
    rcases g with ⟨d', e1, g⟩ | ⟨e1, g⟩ | ⟨e1, g⟩ | ⟨e1, g⟩
    · cases e1
    · cases e1; exact .inl ⟨rfl, k _ _ g⟩
    · cases e1; exact .inr (.inl ⟨rfl, k _ _ g⟩)
    · cases e1; exact .inr (.inr ⟨rfl, k _ _ g⟩)
  show wS (thGP G _ _ _) ir_law_met_kept_v5P _ [some (.th _), _, _, _, _, _, _] _
  wtm_at "g"
  refine actPI (fun d ds' hd => ?_) (fun c ds' hc => ?_)
  · have g := h1 d ds' hd
    wtm_at "g"
    exact .mk g
  · rcases h2 c ds' hc with ⟨rfl, g⟩ | ⟨rfl, g⟩ | ⟨rfl, g⟩
    · wtm_at "g"
      exact .mk g
    · wtm_at "g"
      exact .mk g
    · wtm_at "g"
      exact .mk g
#guard_panic in
theorem v_law_fraction : Ver G (Fn.of [false, false] c_law_fraction) 2 3 ir_law_fraction := by
  refine verOf ?_
  rintro _ P R ⟨a, b, rfl, h0, ha, hb, q⟩
  refine ⟨rfl, ?_⟩
  show wS G ir_law_fraction _ [_, _, _] _
  have g0 : gcdAll [a, b] ≠ 0 := fun e => h0 (gcdAll_zero e b (by simp))
  have gb : Bt 8900 (Int.gcd a b : Int) := by
    rw [← gcdAll_two]
    refine gcdAll_bt g0 fun n hn => ?_
    simp only [List.mem_cons, List.not_mem_nil, or_false] at hn
    rcases hn with rfl | rfl <;> assumption
  have gp := gcdAll_pos g0
  rw [gcdAll_two] at gp
  have gb2 : Bt 8900 (0 - (Int.gcd a b : Int)) := by rw [Int.zero_sub]; exact gb.neg
  wtm_at "g"
  wtm_at "c"
  wtm_at "g"
  ((conv => whnf); first | refine brD (fun h => ?_) (fun h => ?_) | refine brND (fun h => ?_) (fun h => ?_) | refine brNe (fun h => ?_) (fun h => ?_))
  · wtm_at "g"
    exact .mk (q _ _ (lf_neg h))
  · wtm_at "g"
    exact .mk (q _ _ (lf_pos (by omega)))
#guard_panic in
theorem v_law_stretches : Ver G (Fn.of [false, false] c_law_stretches) 2 5 ir_law_stretches := by
  refine verOf ?_
  rintro _ P R ⟨x, p, rfl, hx, hp, hd, g⟩
  obtain ⟨b1, b2, b3, b4⟩ := hp.bt
  have hw := hp.pl.pos
  have t2 : Bt 2 (2 : Int) := ⟨by decide⟩
  have one : IsFrac 1 1 1 1 := ⟨by decide, by decide, by decide⟩
  have w2 : p.w * p.w ≠ 0 := Int.mul_ne_zero (by omega) (by omega)
  have c2 : Bt 8900 (p.w * p.w) := (b4.mul b4).mono (by decide)
  refine ⟨rfl, ?_⟩
  show wS G ir_law_stretches _ [_, _, _, _, _] _
  rcases way_six hx with rfl | rfl | rfl | rfl | rfl | rfl
  · have hn : p.w + p.z ≠ 0 := of_decide_eq_true hd
    have n1 : Bt 8900 (p.w + p.z) := (b4.add b3).mono (by decide)
    have n2 : Bt 8900 (2 * p.w) := (t2.mul b4).mono (by decide)
    wtm_at "g"
    wtm_at "g"
    refine callOf ⟨p.w + p.z, 2 * p.w, rfl, by omega, n1, n2, ?_⟩
    intro a b h1
    wtm_at "g"
    refine callOf ⟨2 * p.w, p.w + p.z, rfl, hn, n2, n1, ?_⟩
    intro c d h2
    wtm_at "g"
    exact .mk (g (a, b) (c, d) ⟨fun _ => ⟨h1, h2⟩, fun e => absurd e (by decide), fun e => absurd e (by decide), fun e => absurd e (by decide), fun e => absurd e (by decide), fun e => absurd e (by decide)⟩)
  · have hn : p.w * p.w - p.z * p.z ≠ 0 := flat_nz hp.pl hd
    have n1 : Bt 8900 (p.w * p.w - p.z * p.z) := ((b4.mul b4).sub (b3.mul b3)).mono (by decide)
    wtm_at "g"
    wtm_at "g"
    refine callOf ⟨p.w * p.w - p.z * p.z, p.w * p.w, rfl, w2, n1, c2, ?_⟩
    intro a b h1
    wtm_at "g"
    refine callOf ⟨p.w * p.w, p.w * p.w - p.z * p.z, rfl, hn, c2, n1, ?_⟩
    intro c d h2
    wtm_at "g"
    exact .mk (g (a, b) (c, d) ⟨fun e => absurd e (by decide), fun _ => ⟨h1, h2⟩, fun e => absurd e (by decide), fun e => absurd e (by decide), fun e => absurd e (by decide), fun e => absurd e (by decide)⟩)
  · have hn : p.w * p.w - p.z * p.z ≠ 0 := flat_nz hp.pl hd
    have n1 : Bt 8900 (p.w * p.w - p.z * p.z) := ((b4.mul b4).sub (b3.mul b3)).mono (by decide)
    wtm_at "g"
    wtm_at "g"
    refine callOf ⟨p.w * p.w, p.w * p.w - p.z * p.z, rfl, hn, c2, n1, ?_⟩
    intro c d h2
    wtm_at "g"
    exact .mk (g (1, 1) (c, d) ⟨fun e => absurd e (by decide), fun e => absurd e (by decide), fun _ => ⟨one, h2⟩, fun e => absurd e (by decide), fun e => absurd e (by decide), fun e => absurd e (by decide)⟩)
  · have hn : p.w + p.z ≠ 0 := of_decide_eq_true hd
    have es : (p.w + p.z) * (p.w + p.z) = (p.w + p.z) ^ 2 := by grind
    have hn2 : (p.w + p.z) * (p.w + p.z) ≠ 0 := Int.mul_ne_zero hn hn
    have n1 : Bt 8900 ((p.w + p.z) * (p.w + p.z)) := ((b4.add b3).mul (b4.add b3)).mono (by decide)
    wtm_at "g"
    wtm_at "g"
    refine callOf ⟨p.w * p.w, (p.w + p.z) * (p.w + p.z), rfl, hn2, c2, n1, ?_⟩
    intro a b h1
    wtm_at "g"
    refine callOf ⟨p.w * p.w, (p.w + p.z) * (p.w + p.z), rfl, hn2, c2, n1, ?_⟩
    intro c d h2
    rw [es] at h1 h2
    wtm_at "g"
    exact .mk (g (a, b) (c, d) ⟨fun e => absurd e (by decide), fun e => absurd e (by decide), fun e => absurd e (by decide), fun _ => ⟨h1, h2⟩, fun e => absurd e (by decide), fun e => absurd e (by decide)⟩)
  · have n1 : Bt 8900 (p.z * p.z) := (b3.mul b3).mono (by decide)
    wtm_at "g"
    wtm_at "g"
    refine callOf ⟨p.z * p.z, p.w * p.w, rfl, w2, n1, c2, ?_⟩
    intro a b h1
    wtm_at "g"
    exact .mk (g (a, b) (1, 1) ⟨fun e => absurd e (by decide), fun e => absurd e (by decide), fun e => absurd e (by decide), fun e => absurd e (by decide), fun _ => ⟨h1, one⟩, fun e => absurd e (by decide)⟩)
  · have hz : 0 < p.z := of_decide_eq_true hd
    have z2 : p.z * p.z ≠ 0 := Int.mul_ne_zero (by omega) (by omega)
    have e4 : p.z * p.z * p.z * p.z = p.z ^ 4 := by grind
    have f4 : p.w * p.w * p.w * p.w = p.w ^ 4 := by grind
    have z4 : p.z * p.z * p.z * p.z ≠ 0 := Int.mul_ne_zero (Int.mul_ne_zero z2 (by omega)) (by omega)
    have n1 : Bt 8900 (p.z * p.z) := (b3.mul b3).mono (by decide)
    have n3 : Bt 8900 (p.z * p.z * p.z * p.z) := (((b3.mul b3).mul b3).mul b3).mono (by decide)
    have n4 : Bt 8900 (p.w * p.w * p.w * p.w) := (((b4.mul b4).mul b4).mul b4).mono (by decide)
    wtm_at "g"
    wtm_at "g"
    refine callOf ⟨p.w * p.w * p.w * p.w, p.z * p.z * p.z * p.z, rfl, z4, n4, n3, ?_⟩
    intro a b h1
    wtm_at "g"
    refine callOf ⟨p.w * p.w, p.z * p.z, rfl, z2, c2, n1, ?_⟩
    intro c d h2
    rw [e4, f4] at h1
    wtm_at "g"
    exact .mk (g (a, b) (c, d) ⟨fun e => absurd e (by decide), fun e => absurd e (by decide), fun e => absurd e (by decide), fun e => absurd e (by decide), fun e => absurd e (by decide), fun _ => ⟨h1, h2⟩⟩)
#guard_panic in
theorem v_is_way : Ver G (Fn.of [false] c_is_way) 1 1 ir_is_way := by
  refine verOf ?_
  rintro _ P R ⟨d, rfl, hs, g⟩
  refine ⟨rfl, ?_⟩
  show wS G ir_is_way _ [_] _
  cases d with
  | str x =>
    have hx := hs x rfl
    wtm_at "g"
    refine .mk ?_
    show P (vB _) []
    rw [isWay_any]; exact g
  | _ => wtm_at "g"; exact .mk g
#guard_panic in
theorem v_need_way : Ver G (Fn.of [false] c_need_way) 1 1 ir_need_way := by
  refine verOf ?_
  rintro _ P R ⟨d, rfl, hs, g1, g2⟩
  refine ⟨rfl, ?_⟩
  show wS G ir_need_way _ [_] _
  wtm_at "g"
  refine callOf ⟨d, rfl, hs, ?_⟩
  cases h : isWay d with
  | true =>
    wtm_at "g"
    exact .mk (g1 h)
  | false =>
    wtm_at "g"
    exact g2 h
#guard_panic in
theorem v_is_whole : Ver G (Fn.of [false] c_is_whole) 1 1 ir_is_whole := by
  refine verOf ?_
  rintro _ P R ⟨d, rfl, q⟩
  refine ⟨rfl, ?_⟩
  show wS G ir_is_whole _ [_] _
  cases d <;> (wtm_at "g") <;> exact .mk q
#guard_panic in
theorem v_are_whole : Ver G (Fn.of [false, false] c_are_whole) 2 3 ir_are_whole := by
  refine verOf ?_
  rintro _ P R ⟨d, n, rfl, q⟩
  refine ⟨rfl, ?_⟩
  show wS G ir_are_whole _ [_, _, _] _
  cases d with
  | tuple xs =>
    wtm_at "g"
    ((conv => whnf); first | refine brD (fun h => ?_) (fun h => ?_) | refine brND (fun h => ?_) (fun h => ?_) | refine brNe (fun h => ?_) (fun h => ?_))
    · wtm_at "g"
      refine lsI ?_
      refine eachW_inv (fun i acc e => (∃ s, e = [some (.v (.tuple xs)), some (vI n), s]) ∧ acc = (xs.take i).map fun x => (PySem.PyData.bool (isIntD x))) ⟨⟨_, rfl⟩, rfl⟩ ?_ ?_
      · rintro i d acc e K hi ⟨⟨s, rfl⟩, rfl⟩ hK
        wtm_at "g"
        wtm_at "c"
        wtm_at "g"
        refine hK _ _ ⟨⟨_, rfl⟩, ?_⟩
        rw [List.take_succ, hi, List.map_append]; rfl
      · rintro acc e ⟨⟨s, rfl⟩, rfl⟩
        rw [List.take_length]
        wtm_at "w"
        refine ⟨_, bools_map _, ?_⟩
        wtm_at "g"
        refine .mk ?_
        have e : isRow (.tuple xs) n = (xs.map isIntD).all id := by
          show (decide ((xs.length : Int) = n) && xs.all isIntD) = _
          rw [decide_eq_true h, Bool.true_and, List.all_map]; rfl
        rw [← e]; exact q
    · wtm_at "g"
      refine .mk ?_
      have e : isRow (.tuple xs) n = false := by
        show (decide ((xs.length : Int) = n) && xs.all isIntD) = _
        rw [decide_eq_false h]; rfl
      show P (vB _) []
      rw [decide_eq_false h, ← e]; exact q
  | _ => wtm_at "g"; exact .mk q
#guard_panic in
theorem v_shared_part : Ver G (Fn.of [false, false] c_shared_part) 2 2 ir_shared_part := by
  refine verOf ?_
  rintro _ P R ⟨a, b, rfl, q⟩
  refine ⟨rfl, ?_⟩
  show wS G ir_shared_part _ [_, _] _
  wtm_at "g"
  refine ⟨fun m e => ∃ x y : Int, 0 ≤ x ∧ 0 ≤ y ∧ e = [some (vI x), some (vI y)] ∧ Int.gcd x y = Int.gcd a b ∧ m = y.natAbs, ⟨_, if a < 0 then -a else a, if b < 0 then -b else b, ?_, ?_, rfl, ?_, rfl⟩, ?_⟩
  · split <;> omega
  · split <;> omega
  · split <;> split <;> simp
  · rintro m _ ⟨x, y, hx, hy, rfl, hg, rfl⟩
    wtm_at "g"
    ((conv => whnf); first | refine brD (fun h => ?_) (fun h => ?_) | refine brND (fun h => ?_) (fun h => ?_) | refine brNe (fun h => ?_) (fun h => ?_))
    · have hy0 : y ≠ 0 := by first | exact h | exact fun e => h e | omega
      wtm_at "g"
      refine ⟨_, ?_, y, Int.fmod x y, hy, ?_, rfl, ?_, rfl⟩
      · rw [fmp hy]
        have h1 := Int.emod_nonneg x hy0
        have h2 := Int.emod_lt_of_pos x (show 0 < y by omega)
        omega
      · rw [fmp hy]; exact Int.emod_nonneg _ hy0
      · rw [fmp hy, gcd_step hx hy, hg]
    · have hy0 : y = 0 := by omega
      wtm_at "g"
      refine .mk ?_
      subst hy0
      rw [Int.gcd_zero_right] at hg
      have e : (x : Int) = (Int.gcd a b : Int) := by omega
      show P (vI x) []
      rw [e]; exact q
#guard_panic in
theorem v_part_of_all : Ver G (Fn.of [false] c_part_of_all) 1 3 ir_part_of_all := by
  refine verOf ?_
  rintro _ P R ⟨xs, hs, q⟩
  refine ⟨by rcases hs with rfl | rfl <;> rfl, ?_⟩
  obtain ⟨d, hd, rfl⟩ : ∃ d, (d = .tuple (xs.map .int) ∨ d = .list (xs.map .int)) ∧ _ = [SV.v d] := by
    rcases hs with h | h
    · exact ⟨_, .inl rfl, h⟩
    · exact ⟨_, .inr rfl, h⟩
  show wS G ir_part_of_all _ [_, _, _] _
  have key : ∀ {Q : List D → Prop}, Q (xs.map .int) → (match itemsOf d with | some items => Ls items Q | none => False) := by
    intro Q h
    rcases hd with rfl | rfl <;> exact ⟨h⟩
  wtm_at "g"
  refine key ?_
  refine forW_inv (fun i e => ∃ s, mayPut (some s) ∧ e = [some (.v d), some (vI (gcdAll (xs.take i))), s]) ⟨none, trivial, rfl⟩ ?_ ?_
  · rintro i d e K hi ⟨s, hs, rfl⟩ hK _ _
    obtain ⟨z, hz, rfl⟩ := getMap hi
    wtm_at "g"
    wtm_at "c"
    wtm_at "g"
    refine (hK _ ⟨some (vI z), trivial, ?_⟩).1
    have e : gcdAll (xs.take (i + 1)) = (Int.gcd (gcdAll (xs.take i)) z : Int) := by
      unfold gcdAll
      rw [List.take_succ, hz, List.foldl_append]; rfl
    rw [e]
  · rintro e ⟨s, hs, rfl⟩
    wtm_at "g"
    refine .mk ?_
    rw [List.length_map, List.take_length]; exact q
#guard_panic in
theorem v_is_lowest : Ver G (Fn.of [false, false] c_is_lowest) 2 2 ir_is_lowest := by
  refine verOf ?_
  rintro _ P R ⟨d, n, rfl, q⟩
  refine ⟨rfl, ?_⟩
  show wS G ir_is_lowest _ [_, _] _
  wtm_at "g"
  wtm_at "c"
  wtm_at "g"
  refine brB (fun h => ?_) (fun h => ?_)
  · obtain ⟨ns, rfl, hn⟩ := row_ints h
    wtm_at "g"
    refine callOf ⟨ns, .inl rfl, ?_⟩
    wtm_at "g"
    refine .mk ?_
    have e : isLow (.tuple (ns.map .int)) n = decide (gcdAll ns = 1) := by
      unfold isLow
      rw [h, Bool.true_and]
      show decide (gcdAll _ = 1) = _
      rw [intD_map]
    rw [← e]; exact q
  · wtm_at "g"
    refine .mk ?_
    have e : isLow d n = isRow d n := by unfold isLow; rw [h]; rfl
    rw [← e]; exact q
#guard_panic in
theorem v_dot : Ver G (Fn.of [false, false] c_dot) 2 2 ir_dot := by
  refine verOf ?_
  rintro _ P R ⟨a, b, c, a', b', c', r, r', k, hs, hk, h1, h2, h3, h4, h5, h6, g⟩
  have m1 := h1.mulOk h4 (by omega)
  have m2 := h2.mulOk h5 (by omega)
  have m3 := h3.mulOk h6 (by omega)
  rcases hs with rfl | rfl | rfl | rfl <;> (
    refine ⟨rfl, ?_⟩
    show wS G ir_dot _ [_, _] _
    wtm_at "g"
    refine optI (ixc 0 rfl rfl) ?_
    wtm_at "g"
    refine optI (ixc 0 rfl rfl) ?_
    wtm_at "g"
    refine optI (ixc 1 rfl rfl) ?_
    wtm_at "g"
    refine optI (ixc 1 rfl rfl) ?_
    wtm_at "g"
    refine optI (ixc 2 rfl rfl) ?_
    wtm_at "g"
    refine optI (ixc 2 rfl rfl) ?_
    wtm_at "g"
    exact .mk g)
#guard_panic in
theorem v_is_place : Ver G (Fn.of [false] c_is_place) 1 1 ir_is_place := by
  refine verOf ?_
  rintro _ P R ⟨d, rfl, hb, g⟩
  refine ⟨rfl, ?_⟩
  show wS G ir_is_place _ [_] _
  wtm_at "g"
  refine callOf ⟨d, 4, rfl, ?_⟩
  wtm_at "g"
  refine brB (fun h => ?_) (fun h => ?_)
  · have h1 : isRow d 4 = true := by
      unfold isLow at h
      exact (Bool.and_eq_true_iff.mp h).1
    obtain ⟨ns, rfl, hn⟩ := row_ints h1
    match ns, hn with
    | [x, y, z, w], _ =>
      have hbb := dB_get hb
      have b1 : Bt 50000 x := hbb x (by simp)
      have b2 : Bt 50000 y := hbb y (by simp)
      have b3 : Bt 50000 z := hbb z (by simp)
      have b4 : Bt 50000 w := hbb w (by simp)
      have e : isLow (dL [x, y, z, w]) 4 = decide (gcdAll [x, y, z, w] = 1) := rfl
      rw [e] at h
      wtm_at "g"
      refine brB (fun h' => ?_) (fun h' => ?_)
      · wtm_at "g"
        refine callOf ⟨x, y, z, x, y, z, [w], [w], 50000, .inl rfl, by decide, b1, b2, b3, b1, b2, b3, ?_⟩
        wtm_at "g"
        refine .mk ?_
        have e2 : isPl (dL [x, y, z, w]) = decide (x * x + y * y + z * z = w ^ Int.toNat 2) := by
          show (decide (gcdAll [x, y, z, w] = 1) && (decide (1 ≤ w) && decide (x * x + y * y + z * z = w * w))) = _
          rw [h, h']
          have : w ^ Int.toNat 2 = w * w := by show w ^ 2 = w * w; rw [Int.pow_succ, Int.pow_succ, Int.pow_zero, Int.one_mul]
          rw [this]; rfl
        rw [e2] at g; exact g
      · wtm_at "g"
        refine .mk ?_
        have e2 : isPl (dL [x, y, z, w]) = decide (1 ≤ w) := by
          show (decide (gcdAll [x, y, z, w] = 1) && (decide (1 ≤ w) && decide (x * x + y * y + z * z = w * w))) = _
          rw [h, h']; rfl
        rw [e2] at g; exact g
  · wtm_at "g"
    refine .mk ?_
    show P (vB (isLow d 4)) []
    rw [h, ← isPl_low h]; exact g
#guard_panic in
theorem v_need_place_v2 : Ver G (Fn.of [false] c_need_place_v2) 1 1 ir_need_place_v2 := by
  refine verOf ?_
  rintro _ P R ⟨d, rfl, hd, g1, g2⟩
  refine ⟨rfl, ?_⟩
  show wS G ir_need_place_v2 _ [_] _
  wtm_at "g"
  refine callOf ⟨d, rfl, hd, ?_⟩
  cases h : isPl d with
  | true =>
    wtm_at "g"
    exact .mk (g1 h)
  | false =>
    wtm_at "g"
    exact g2 h
#guard_panic in
theorem v_disc_stretches : Ver G (Fn.of [false, false] c_disc_stretches) 2 2 ir_disc_stretches := by
  refine verOf ?_
  rintro _ P R ⟨z, w, rfl, hz, hw, g⟩
  refine ⟨rfl, ?_⟩
  show wS G ir_disc_stretches _ [_, _] _
  wtm_at "g"
  exact .mk g
#guard_panic in
theorem v_even_stretches : Ver G (Fn.of [false, false] c_even_stretches) 2 2 ir_even_stretches := by
  refine verOf ?_
  rintro _ P R ⟨z, w, rfl, hz, hw, g⟩
  refine ⟨rfl, ?_⟩
  show wS G ir_even_stretches _ [_, _] _
  wtm_at "g"
  exact .mk g
#guard_panic in
theorem v_plain_stretches : Ver G (Fn.of [false, false] c_plain_stretches) 2 2 ir_plain_stretches := by
  refine verOf ?_
  rintro _ P R ⟨z, w, rfl, hz, hw, g⟩
  refine ⟨rfl, ?_⟩
  show wS G ir_plain_stretches _ [_, _] _
  wtm_at "g"
  exact .mk g
#guard_panic in
theorem v_round_stretches : Ver G (Fn.of [false, false] c_round_stretches) 2 2 ir_round_stretches := by
  refine verOf ?_
  rintro _ P R ⟨z, w, rfl, hz, hw, g⟩
  refine ⟨rfl, ?_⟩
  show wS G ir_round_stretches _ [_, _] _
  wtm_at "g"
  exact .mk g
#guard_panic in
theorem v_sight_stretches : Ver G (Fn.of [false, false] c_sight_stretches) 2 2 ir_sight_stretches := by
  refine verOf ?_
  rintro _ P R ⟨z, w, rfl, hz, hw, g⟩
  refine ⟨rfl, ?_⟩
  show wS G ir_sight_stretches _ [_, _] _
  wtm_at "g"
  exact .mk g
#guard_panic in
theorem v_straight_stretches : Ver G (Fn.of [false, false] c_straight_stretches) 2 2 ir_straight_stretches := by
  refine verOf ?_
  rintro _ P R ⟨z, w, rfl, hz, hw, g⟩
  refine ⟨rfl, ?_⟩
  show wS G ir_straight_stretches _ [_, _] _
  wtm_at "g"
  exact .mk g
#guard_panic in
theorem v_is_drawn : Ver G (Fn.of [false, false] c_is_drawn) 2 6 ir_is_drawn := by
  refine verOf ?_
  rintro _ P R ⟨x, a, b, c, w, rfl, hx, g⟩
  refine ⟨rfl, ?_⟩
  show wS G ir_is_drawn _ [_, _, _, _, _, _] _
  have e1 : ∀ n : Int, (!decide (n = 0)) = decide (n ≠ 0) := fun n => by by_cases h : n = 0 <;> simp [h]
  rcases way_six hx with rfl | rfl | rfl | rfl | rfl | rfl
  · wtm_at "g"
    exact .mk (by rw [e1]; exact g)
  · have g' : P (vB (decide (a ≠ 0) || decide (b ≠ 0))) [] := g
    wtm_at "g"
    wtm_at "w"
    by_cases ha : a = 0
    · subst ha
      wtm_at "g"
      exact .mk (by rw [e1]; exact g)
    · refine brTrue (by simpa using ha) ?_
      rw [show (decide (a ≠ 0) || decide (b ≠ 0)) = true by simp [ha]] at g'
      wtm_at "g"
      exact .mk (by rw [show (!decide (a = 0)) = true by simp [ha]]; exact g')
  · have g' : P (vB (decide (a ≠ 0) || decide (b ≠ 0))) [] := g
    wtm_at "g"
    wtm_at "w"
    by_cases ha : a = 0
    · subst ha
      wtm_at "g"
      exact .mk (by rw [e1]; exact g)
    · refine brTrue (by simpa using ha) ?_
      rw [show (decide (a ≠ 0) || decide (b ≠ 0)) = true by simp [ha]] at g'
      wtm_at "g"
      exact .mk (by rw [show (!decide (a = 0)) = true by simp [ha]]; exact g')
  · wtm_at "g"
    exact .mk (by rw [e1]; exact g)
  · wtm_at "g"
    exact .mk g
  · wtm_at "g"
    exact .mk g
#guard_panic in
theorem v_lowest_row : Ver G (Fn.of [false] c_lowest_row) 1 3 ir_lowest_row := by
  refine verOf ?_
  rintro _ P R ⟨ns, rfl, hb, h0, q⟩
  refine ⟨rfl, ?_⟩
  show wS G ir_lowest_row _ [_, _, _] _
  have hg := gcdAll_bt h0 hb
  have hp := gcdAll_pos h0
  wtm_at "g"
  refine callOf ⟨ns, .inl rfl, ?_⟩
  wtm_at "g"
  refine lsI ?_
  refine eachW_inv (fun i acc e => (∃ s, e = [some (.v (.tuple (ns.map .int))), some (vI (gcdAll ns)), s]) ∧ acc = (ns.take i).map fun n => (PySem.PyData.int (n / gcdAll ns))) ⟨⟨_, rfl⟩, rfl⟩ ?_ ?_
  · rintro i d acc e K hi ⟨⟨s, rfl⟩, rfl⟩ hK
    obtain ⟨z, hz, rfl⟩ := getMap hi
    wtm_at "g"
    refine hK _ _ ⟨⟨_, rfl⟩, ?_⟩
    rw [List.take_succ, hz, List.map_append, fdp (by omega)]; rfl
  · rintro acc e ⟨⟨s, rfl⟩, rfl⟩
    wtm_at "g"
    refine .mk ?_
    have e : (ns.take (ns.map PySem.PyData.int).length).map (fun n => (PySem.PyData.int (n / gcdAll ns))) = (lowL ns).map .int := by
      rw [List.length_map, List.take_length]; unfold lowL; rw [List.map_map]; rfl
    rw [e]; exact q
#guard_panic in
theorem v_fraction_by : Ver G (Fn.of [false, false] c_fraction_by) 2 3 ir_fraction_by := by
  refine verOf ?_
  rintro _ P R ⟨a, b, rfl, h0, ha, hb, q⟩
  refine ⟨rfl, ?_⟩
  show wS G ir_fraction_by _ [_, _, _] _
  have g0 : gcdAll [a, b] ≠ 0 := fun e => h0 (gcdAll_zero e b (by simp))
  wtm_at "g"
  refine callOf ⟨[a, b], rfl, ?_, g0, ?_⟩
  · intro n hn
    simp only [List.mem_cons, List.not_mem_nil, or_false] at hn
    rcases hn with rfl | rfl <;> assumption
  wtm_at "g"
  ((conv => whnf); first | refine brD (fun h => ?_) (fun h => ?_) | refine brND (fun h => ?_) (fun h => ?_) | refine brNe (fun h => ?_) (fun h => ?_))
  · wtm_at "g"
    exact .mk (q _ _ (frac_pos g0 (by omega)))
  · wtm_at "g"
    exact .mk (q _ _ (frac_neg g0 h0 (by omega)))
#guard_panic in
theorem v_fraction_of : Ver G (Fn.of [false, false] c_fraction_of) 2 2 ir_fraction_of := by
  refine verOf ?_
  rintro _ P R ⟨a, b, rfl, h0, ha, hb, q⟩
  refine ⟨rfl, ?_⟩
  show wS G ir_fraction_of _ [_, _] _
  wtm_at "g"
  wtm_at "c"
  wtm_at "g"
  wtm_at "c"
  wtm_at "g"
  wtm_at "c"
  intro p r h
  wtm_at "g"
  exact .mk (q p r h)
#guard_panic in
theorem v_stretches_v2 : Ver G (Fn.of [false, false] c_stretches_v2) 2 7 ir_stretches_v2 := by
  refine verOf ?_
  rintro _ P R (⟨d, d2, rfl, hs, hw, g⟩ | ⟨x, d2, rfl, hx, hd, hp, g⟩ | ⟨x, p, rfl, hx, hp, g0, g1⟩)
  · skip
    refine ⟨rfl, ?_⟩
    show wS G ir_stretches_v2 _ [_, _, _, _, _, _, _] _
    wtm_at "g"
    refine callOf ⟨d, rfl, hs, fun h => absurd (h.symm.trans hw) (by decide), fun _ => ?_⟩
    exact g
  · skip
    refine ⟨rfl, ?_⟩
    show wS G ir_stretches_v2 _ [_, _, _, _, _, _, _] _
    wtm_at "g"
    refine callOf ⟨_, rfl, fun y e => by cases e; exact way_shaped hx, fun _ => ?_, fun h => absurd ((way_is hx).symm.trans h) (by decide)⟩
    wtm_at "g"
    refine callOf ⟨d2, rfl, hd, fun h => absurd (h.symm.trans hp) (by decide), fun _ => ?_⟩
    exact g
  obtain ⟨b1, b2, b3, b4⟩ := hp.bt
  have b3' : Bt 200 p.z := b3.mono (by decide)
  have b4' : Bt 200 p.w := b4.mono (by decide)
  have hw := hp.pl.pos
  have on := hp.pl.on
  have t2 : Bt 2 (2 : Int) := ⟨by decide⟩
  have o1 : Bt 8900 (1 : Int) := ⟨Nat.one_lt_two_pow (by decide)⟩
  have w2 : p.w * p.w ≠ 0 := Int.mul_ne_zero (by omega) (by omega)
  refine ⟨rfl, ?_⟩
  show wS G ir_stretches_v2 _ [_, _, _, _, _, _, _] _
  wtm_at "g"
  refine callOf ⟨_, rfl, fun y e => by cases e; exact way_shaped hx, fun _ => ?_, fun h => absurd ((way_is hx).symm.trans h) (by decide)⟩
  wtm_at "g"
  refine callOf ⟨p.d, rfl, dB_L (four_bt b1 b2 b3 b4) (by decide), fun _ => ?_, fun h => absurd (hp.pl.is.symm.trans h) (by decide)⟩
  wtm_at "g"
  refine callOf ⟨x, p.x, p.y, p.z, p.w, rfl, hx, ?_⟩
  cases hd : drawnP x p with
  | false =>
    rw [show drawnW x p.z (decide (p.x ≠ 0) || decide (p.y ≠ 0)) (decide (p.w + p.z ≠ 0)) = false from hd]
    wtm_at "g"
    exact g1 hd
  | true =>
  rw [show drawnW x p.z (decide (p.x ≠ 0) || decide (p.y ≠ 0)) (decide (p.w + p.z ≠ 0)) = true from hd]
  have g := g0 hd
  rcases way_six hx with rfl | rfl | rfl | rfl | rfl | rfl
  · have hn : p.w + p.z ≠ 0 := of_decide_eq_true hd
    have n1 : Bt 8900 (p.w + p.z) := (b4.add b3).mono (by decide)
    have n2 : Bt 8900 (2 * p.w) := (t2.mul b4).mono (by decide)
    wtm_at "g"
    wtm_at "g"
    refine callOf ⟨p.z, p.w, rfl, b3', b4', ?_⟩
    wtm_at "g"
    refine callOf ⟨p.w + p.z, 2 * p.w, rfl, by omega, n1, n2, ?_⟩
    intro u1 u2 hu
    wtm_at "g"
    refine callOf ⟨2 * p.w, p.w + p.z, rfl, hn, n2, n1, ?_⟩
    intro v1 v2 hv
    wtm_at "g"
    exact .mk (g (u1, u2) (v1, v2) ⟨fun _ => ⟨hu, hv⟩, fun e => absurd e (by decide), fun e => absurd e (by decide), fun e => absurd e (by decide), fun e => absurd e (by decide), fun e => absurd e (by decide)⟩)
  · have hn : p.w * p.w - p.z * p.z ≠ 0 := flat_nz hp.pl hd
    have n1 : Bt 8900 (p.w * p.w - p.z * p.z) := ((b4.mul b4).sub (b3.mul b3)).mono (by decide)
    have n2 : Bt 8900 (p.w * p.w) := (b4.mul b4).mono (by decide)
    wtm_at "g"
    wtm_at "g"
    refine callOf ⟨p.z, p.w, rfl, b3', b4', ?_⟩
    wtm_at "g"
    refine callOf ⟨p.w * p.w - p.z * p.z, p.w * p.w, rfl, w2, n1, n2, ?_⟩
    intro u1 u2 hu
    wtm_at "g"
    refine callOf ⟨p.w * p.w, p.w * p.w - p.z * p.z, rfl, hn, n2, n1, ?_⟩
    intro v1 v2 hv
    wtm_at "g"
    exact .mk (g (u1, u2) (v1, v2) ⟨fun e => absurd e (by decide), fun _ => ⟨hu, hv⟩, fun e => absurd e (by decide), fun e => absurd e (by decide), fun e => absurd e (by decide), fun e => absurd e (by decide)⟩)
  · have hn : p.w * p.w - p.z * p.z ≠ 0 := flat_nz hp.pl hd
    have n1 : Bt 8900 (p.w * p.w - p.z * p.z) := ((b4.mul b4).sub (b3.mul b3)).mono (by decide)
    have n2 : Bt 8900 (p.w * p.w) := (b4.mul b4).mono (by decide)
    wtm_at "g"
    wtm_at "g"
    refine callOf ⟨p.z, p.w, rfl, b3', b4', ?_⟩
    wtm_at "g"
    refine callOf ⟨1, 1, rfl, by decide, o1, o1, ?_⟩
    intro u1 u2 hu
    wtm_at "g"
    refine callOf ⟨p.w * p.w, p.w * p.w - p.z * p.z, rfl, hn, n2, n1, ?_⟩
    intro v1 v2 hv
    wtm_at "g"
    exact .mk (g (u1, u2) (v1, v2) ⟨fun e => absurd e (by decide), fun e => absurd e (by decide), fun _ => ⟨hu, hv⟩, fun e => absurd e (by decide), fun e => absurd e (by decide), fun e => absurd e (by decide)⟩)
  · have hn : p.w + p.z ≠ 0 := of_decide_eq_true hd
    have hn2 : (p.w + p.z) ^ 2 ≠ 0 := by rw [show (p.w + p.z) ^ 2 = (p.w + p.z) * (p.w + p.z) by grind]; exact Int.mul_ne_zero hn hn
    have n1 : Bt 8900 ((p.w + p.z) ^ 2) := Bt.sq (b4.add b3) (by decide)
    have n2 : Bt 8900 (p.w * p.w) := (b4.mul b4).mono (by decide)
    wtm_at "g"
    wtm_at "g"
    refine callOf ⟨p.z, p.w, rfl, b3', b4', ?_⟩
    wtm_at "g"
    refine callOf ⟨p.w * p.w, (p.w + p.z) ^ 2, rfl, hn2, n2, n1, ?_⟩
    intro u1 u2 hu
    wtm_at "g"
    refine callOf ⟨p.w * p.w, (p.w + p.z) ^ 2, rfl, hn2, n2, n1, ?_⟩
    intro v1 v2 hv
    wtm_at "g"
    exact .mk (g (u1, u2) (v1, v2) ⟨fun e => absurd e (by decide), fun e => absurd e (by decide), fun e => absurd e (by decide), fun _ => ⟨hu, hv⟩, fun e => absurd e (by decide), fun e => absurd e (by decide)⟩)
  · have hz : 0 < p.z := of_decide_eq_true hd
    have n1 : Bt 8900 (p.z * p.z) := (b3.mul b3).mono (by decide)
    have n2 : Bt 8900 (p.w * p.w) := (b4.mul b4).mono (by decide)
    wtm_at "g"
    wtm_at "g"
    refine callOf ⟨p.z, p.w, rfl, b3', b4', ?_⟩
    wtm_at "g"
    refine callOf ⟨p.z * p.z, p.w * p.w, rfl, w2, n1, n2, ?_⟩
    intro u1 u2 hu
    wtm_at "g"
    refine callOf ⟨1, 1, rfl, by decide, o1, o1, ?_⟩
    intro v1 v2 hv
    wtm_at "g"
    exact .mk (g (u1, u2) (v1, v2) ⟨fun e => absurd e (by decide), fun e => absurd e (by decide), fun e => absurd e (by decide), fun e => absurd e (by decide), fun _ => ⟨hu, hv⟩, fun e => absurd e (by decide)⟩)
  · have hz : 0 < p.z := of_decide_eq_true hd
    have z2 : p.z * p.z ≠ 0 := Int.mul_ne_zero (by omega) (by omega)
    have z4 : p.z ^ 4 ≠ 0 := by rw [show p.z ^ 4 = (p.z * p.z) * (p.z * p.z) by grind]; exact Int.mul_ne_zero z2 z2
    have n1 : Bt 8900 (p.z * p.z) := (b3.mul b3).mono (by decide)
    have n2 : Bt 8900 (p.w * p.w) := (b4.mul b4).mono (by decide)
    have n3 : Bt 8900 (p.z ^ 4) := Bt.p4 b3 (by decide)
    have n4 : Bt 8900 (p.w ^ 4) := Bt.p4 b4 (by decide)
    wtm_at "g"
    wtm_at "g"
    refine callOf ⟨p.z, p.w, rfl, b3', b4', ?_⟩
    wtm_at "g"
    refine callOf ⟨p.w ^ 4, p.z ^ 4, rfl, z4, n4, n3, ?_⟩
    intro u1 u2 hu
    wtm_at "g"
    refine callOf ⟨p.w * p.w, p.z * p.z, rfl, z2, n2, n1, ?_⟩
    intro v1 v2 hv
    wtm_at "g"
    exact .mk (g (u1, u2) (v1, v2) ⟨fun e => absurd e (by decide), fun e => absurd e (by decide), fun e => absurd e (by decide), fun e => absurd e (by decide), fun e => absurd e (by decide), fun _ => ⟨hu, hv⟩⟩)
#guard_panic in
theorem v_law_v69 : Ver G (lawFn 63) 1 11 ir_law_v69 := by
  intro (ns : List Int) (hl : ns.length ≤ 63)
  refine ⟨rfl, ?_⟩
  show wS G ir_law_v69 _ [_, _, _, _, _, _, _, _, _, _, _] _
  have hlen : (ns.map PySem.PyData.int).length = ns.length := List.length_map ..
  have hn9 : ∀ z : Int, (if (if ((ns.map PySem.PyData.int).length : Int) < 12 then ((ns.map PySem.PyData.int).length : Int) else 12) > 1 then (if ((ns.map PySem.PyData.int).length : Int) < 12 then ((ns.map PySem.PyData.int).length : Int) else 12) else 1) = z → 0 ≤ z ∧ z ≤ 12 := fun z hz => by rw [hlen] at hz; split at hz <;> split at hz <;> omega
  wtm_at "g"
  generalize hz : (if (if ((ns.map PySem.PyData.int).length : Int) < 12 then ((ns.map PySem.PyData.int).length : Int) else 12) > 1 then (if ((ns.map PySem.PyData.int).length : Int) < 12 then ((ns.map PySem.PyData.int).length : Int) else 12) else 1) = z
  obtain ⟨z0, z1⟩ := hn9 z hz
  clear hn9 hz
  wtm_at "g"
  wtm_at "w"
  refine lsI ?_
  refine forW_inv (fun i e => ∃ s1 s2 s3 s4 s5 s6 s7 s8 s9 s10, e = [some (.v (.list (ns.map .int))), s1, s2, s3, s4, s5, s6, s7, s8, s9, s10] ∧ MP s1 ∧ MP s2 ∧ MP s3 ∧ MP s4 ∧ MP s5 ∧ MP s6 ∧ MP s7 ∧ MP s8 ∧ MP s9 ∧ MP s10) ⟨_, _, _, _, _, _, _, _, _, _, rfl, trivial, trivial, trivial, trivial, trivial, trivial, trivial, trivial, trivial, trivial⟩ ?_ ?_
  rotate_left
  · rintro e' ⟨s1, s2, s3, s4, s5, s6, s7, s8, s9, s10, rfl, -⟩
    wtm_at "g"
    exact .mk rfl
  rintro i d e K hi ⟨s1, s2, s3, s4, s5, s6, s7, s8, s9, s10, rfl, n1, n2, n3, n4, n5, n6, n7, n8, n9, n10⟩ hK - -
  obtain ⟨hi1, rfl⟩ := rng_get hi
  have hi9 : i ≤ 63 := by omega
  clear hi
  wtm_at "g"
  refine callOf ⟨ns, _, rfl, by omega, by omega, ?_⟩
  intro pool hp
  wtm_at "g"
  refine callOf ⟨pool, 8900000, rfl, hp.le (by omega), ?_⟩
  intro x y z w ds1 hpl hb p1
  have hsd : (PySem.PyData.list [PySem.PyData.str "spot"]).showable = true ∧ ((PySem.PyData.list [PySem.PyData.str "spot"]).hasDict = false ∨ noL (PySem.PyData.list [PySem.PyData.str "spot"]) = true) ∧ (PySem.PyData.list [PySem.PyData.str "spot"]).depth ≤ 64 ∧ (PySem.PyData.list [PySem.PyData.str "spot"]).shown.length ≤ PySem.sizeLine := ⟨rfl, .inl rfl, by decide, by decide +kernel⟩
  have kh : PlI.ok ⟨x, y, z, w⟩ 190 := ⟨hpl, B4.mono hb (by decide)⟩
  wtm_at "g"
  refine callOf ⟨rfl, ?_⟩
  wtm_at "g"
  wtm_at "w"
  refine lsI ?_
  refine forW_inv (fun j e => ∃ m2 m10, e = [some (.v (.list (ns.map .int))), some (vI (0 + (i : Int))), m2, s3, s4, some (.v (dL [x, y, z, w])), s6, s7, s8, some (.own ds1), m10] ∧ MP m2 ∧ MP m10) ⟨_, _, rfl, n2, n10⟩ ?_ ?_
  · rintro j d e K2 hj ⟨m2, m10, rfl, M2, M10⟩ hK2 - -
    obtain ⟨wy, hx0, rfl⟩ : ∃ x : PySem.Str, waysS[j]? = some x ∧ d = .str x := getMapD hj
    have hx : wy ∈ waysS := List.mem_of_getElem? hx0
    clear hj hx0
    wtm_at "g"
    refine callOf ⟨wy, x, y, z, w, rfl, hx, hpl, ?_⟩
    cases dh : drawnP wy ⟨x, y, z, w⟩ with
    | false =>
      rw [show drawnW wy z (decide (x ≠ 0) || decide (y ≠ 0)) (decide (w + z ≠ 0)) = false from dh]
      wtm_at "g"
      refine callOf (.inr (.inr ⟨wy, ⟨x, y, z, w⟩, rfl, hx, kh, fun h => absurd (h.symm.trans dh) (by decide), fun _ => ?_⟩))
      wtm_at "g"
      refine callOf ⟨.inr 14, rfl, .inr (.inr (.inr ⟨rfl, ?_⟩))⟩
      wtm_at "g"
      wtm_at "w"
      refine brN (brSh rfl ?_)
      wtm_at "g"
      refine callOf (.inr (.inr ⟨wy, ⟨x, y, z, w⟩, rfl, hx, kh, fun h => absurd (h.symm.trans dh) (by decide), fun _ => ?_⟩))
      wtm_at "g"
      refine callOf ⟨.inr 14, rfl, .inr (.inr (.inr ⟨rfl, ?_⟩))⟩
      wtm_at "g"
      exact (hK2 _ ⟨_, _, rfl, by first | trivial | assumption, by first | trivial | assumption⟩).1
    | true =>
      rw [show drawnW wy z (decide (x ≠ 0) || decide (y ≠ 0)) (decide (w + z ≠ 0)) = true from dh]
      wtm_at "g"
      refine callOf ⟨wy, ⟨x, y, z, w⟩, rfl, hx, kh, dh, fun u v h1 => ?_⟩
      obtain ⟨bu, bv⟩ := StrR.bp hx kh dh h1
      have sk := Bp.smS bu bv
      wtm_at "g"
      refine callOf (.inr (.inr ⟨wy, ⟨x, y, z, w⟩, rfl, hx, kh, fun _ u2 v2 h2 => ?_, fun h => absurd (dh.symm.trans h) (by decide)⟩))
      obtain ⟨rfl, rfl⟩ := StrR.at hx kh dh h1 h2
      wtm_at "g"
      refine callOf ⟨.inl (spotD u v), rfl, .inl ⟨_, rfl, ?_⟩⟩
      wtm_at "g"
      wtm_at "w"
      refine brN (brSh rfl ?_)
      wtm_at "g"
      refine callOf (.inr (.inr ⟨wy, ⟨x, y, z, w⟩, rfl, hx, kh, fun _ u2 v2 h3 => ?_, fun h => absurd (dh.symm.trans h) (by decide)⟩))
      obtain ⟨rfl, rfl⟩ := StrR.at hx kh dh h1 h3
      wtm_at "g"
      refine callOf ⟨.inl (spotD u v), rfl, .inl ⟨_, rfl, ?_⟩⟩
      wtm_at "e"
      wtm_at "w"
      refine brN (brRefl rfl rfl ?_)
      wtm_at "g"
      exact (hK2 _ ⟨_, _, rfl, by first | trivial | assumption, by first | trivial | assumption⟩).1
  rintro e ⟨m2, m10, rfl, M2, M10⟩
  have p1' : Pool (8899900 + 1 + 1 + 1 + 1) ds1 := p1.le (by omega)
  clear p1
  wtm_at "g"
  wtm_at "g"
  wtm_at "c"
  intro a ds_a a0 a1 pa
  wtm_at "g"
  refine optIx a0 (by exact a1) fun da ha => ?_
  obtain ⟨ws, wn⟩ : StrS da ∧ isWay da = false := by
    obtain rfl | rfl | rfl | rfl | rfl | rfl | rfl | rfl : a = 0 ∨ a = 1 ∨ a = 2 ∨ a = 3 ∨ a = 4 ∨ a = 5 ∨ a = 6 ∨ a = 7 := by omega
    all_goals (cases ha; refine ⟨fun y e => ?_, by decide +kernel⟩; (first | (cases e; done) | (cases e; decide +kernel)))
  clear ha
  wtm_at "g"
  wtm_at "c"
  intro b ds_b b0 b1 pb
  wtm_at "g"
  refine optIx b0 (by exact b1) fun db hb2 => ?_
  obtain ⟨pb, pn⟩ : dB 50000 db ∧ isPl db = false := by
    have lb : ∀ {i : Int}, i.natAbs < 2 ^ 60 → Bt 50000 i := fun h => ⟨Nat.lt_of_lt_of_le h (Nat.pow_le_pow_right (by decide) (by decide))⟩
    obtain rfl | rfl | rfl | rfl | rfl | rfl | rfl | rfl : b = 0 ∨ b = 1 ∨ b = 2 ∨ b = 3 ∨ b = 4 ∨ b = 5 ∨ b = 6 ∨ b = 7 := by omega
    all_goals
      cases hb2
      refine ⟨?_, by decide +kernel⟩
      first
        | trivial
        | (intro x hx i e
           subst e
           simp only [List.mem_cons, List.not_mem_nil, or_false, PySem.PyData.int.injEq, reduceCtorEq] at hx
           rcases hx with hx | hx | hx | hx <;> (subst hx; exact lb (by decide)))
        | (intro x hx i e
           subst e
           simp only [List.mem_cons, List.not_mem_nil, or_false, PySem.PyData.int.injEq, reduceCtorEq] at hx
           rcases hx with hx | hx | hx <;> (subst hx; exact lb (by decide)))
  clear hb2
  wtm_at "g"
  wtm_at "g"
  wtm_at "c"
  intro c ds_c c0 c1 pc
  wtm_at "g"
  refine optIx c0 (by exact c1) fun dc hc => ?_
  clear hc
  wtm_at "g"
  refine callOf (.inl ⟨da, dc, rfl, ws, wn, ?_⟩)
  wtm_at "g"
  refine callOf ⟨.inr 11, rfl, .inr (.inr (.inl ⟨rfl, ?_⟩))⟩
  wtm_at "g"
  wtm_at "g"
  refine callOf ⟨rfl, ?_⟩
  wtm_at "g"
  wtm_at "c"
  intro f ds_f f0 f1 pf
  wtm_at "g"
  refine optIx f0 (by exact f1) fun df hf => ?_
  obtain ⟨wy, rfl, hx⟩ : ∃ x : PySem.Str, df = .str x ∧ x ∈ waysS := by
    obtain ⟨x, hx0, e⟩ := getMapD hf
    exact ⟨x, e, List.mem_of_getElem? hx0⟩
  clear hf
  wtm_at "g"
  refine callOf (.inr (.inl ⟨wy, db, rfl, hx, pb, pn, ?_⟩))
  wtm_at "g"
  refine callOf ⟨.inr 3, rfl, .inr (.inl ⟨rfl, ?_⟩)⟩
  wtm_at "g"
  exact (hK _ ⟨_, _, _, _, _, _, _, _, _, _, rfl, by first | trivial | assumption, by first | trivial | assumption, by first | trivial | assumption, by first | trivial | assumption, by first | trivial | assumption, by first | trivial | assumption, by first | trivial | assumption, by first | trivial | assumption, by first | trivial | assumption, by first | trivial | assumption⟩).1
set_option Elab.async false
end Lw
namespace Lw
open PySem L2 DI
open PyProof.Rows hiding St
theorem con_nil {P : Str → D → Prop} : ∀ x d, ([] : List (Str × D)).lookup x = some d → P x d := fun _ _ h => by cases h
theorem con_cons {P : Str → D → Prop} {a : Str} {v : D} {l : List (Str × D)} (p : P a v) (t : ∀ x d, l.lookup x = some d → P x d) : ∀ x d, ((a, v) :: l).lookup x = some d → P x d := fun x d h => by
  rw [List.lookup_cons] at h
  split at h
  · rename_i e; cases h; rw [eq_of_beq e]; exact p
  · exact t x d h
theorem con_tup {K : Fg} {a : Addr} {o : Obj} {its : Array Value} {n : Nat} {xs : List V} {ds : List D} (hk : K.lookup a = some o) (hc : o.cls = .type "tuple") (h0 : o.dict = none) (hd : o.data = .seq its n) (hz : its.size ≤ sizeLine) (hv : Vals xs its.toList) (hr : RepL K (fun _ => none) xs ds) : Rep K (fun _ => none) (.ref a) (.tuple ds) := .tup ⟨.inr ⟨o, its, n, hk, hc, hd, hz, hv⟩, .inr ⟨o, hk, h0⟩⟩ hr
theorem bn_nil {P : Str → Prop} : ∀ x ∈ ([] : List Str), P x := fun _ h => by cases h
theorem bn_cons {P : Str → Prop} {a : Str} {l : List Str} (p : P a) (t : ∀ x ∈ l, P x) : ∀ x ∈ a :: l, P x := fun x h => by
  rcases List.mem_cons.mp h with e | e
  · rw [e]; exact p
  · exact t x e
theorem all_nil {α : Type} {P : α → Prop} : ∀ x ∈ ([] : List α), P x := fun _ h => by cases h
theorem all_cons {α : Type} {P : α → Prop} {a : α} {l : List α} (p : P a) (t : ∀ x ∈ l, P x) : ∀ x ∈ a :: l, P x := fun x h => by
  rcases List.mem_cons.mp h with e | e
  · rw [e]; exact p
  · exact t x e
def top (i : Nat) : Stmt := PySem.Challenge.pw_leafglobe_k64_stretches_told.main.body.getD i (.Pass ⟨0, 0, 0, 0⟩)
abbrev s__law_pool : Stmt := top 42
abbrev s__law_take : Stmt := top 43
abbrev s__law_shared : Stmt := top 45
abbrev s__law_lowest : Stmt := top 46
abbrev s__law_at : Stmt := top 48
abbrev s__law_great : Stmt := top 44
abbrev s__law_place : Stmt := top 49
abbrev s__law_neighbours : Stmt := top 52
abbrev s__law_hard_place : Stmt := top 53
abbrev s__law_ways : Stmt := top 50
abbrev s__law_is_drawn : Stmt := top 51
abbrev s__law_met_kept : Stmt := top 55
abbrev s__law_fraction : Stmt := top 47
abbrev s__law_stretches : Stmt := top 54
abbrev s_is_way : Stmt := top 29
abbrev s_need_way : Stmt := top 32
abbrev s_is_whole : Stmt := top 14
abbrev s_are_whole : Stmt := top 15
abbrev s_shared_part : Stmt := top 16
abbrev s_part_of_all : Stmt := top 17
abbrev s_is_lowest : Stmt := top 19
abbrev s_dot : Stmt := top 24
abbrev s_is_place : Stmt := top 25
abbrev s_need_place : Stmt := top 26
abbrev s_disc_stretches : Stmt := top 36
abbrev s_even_stretches : Stmt := top 37
abbrev s_plain_stretches : Stmt := top 38
abbrev s_round_stretches : Stmt := top 33
abbrev s_sight_stretches : Stmt := top 35
abbrev s_straight_stretches : Stmt := top 34
abbrev s_is_drawn : Stmt := top 30
abbrev s_lowest_row : Stmt := top 18
abbrev s_fraction_by : Stmt := top 21
abbrev s_fraction_of : Stmt := top 22
abbrev s_stretches : Stmt := top 40
abbrev s_law : Stmt := top 56
def ct__law_pool : Ct := { N := ["_law_script", "_law_k", "_law_cell"], sc := defScope s__law_pool, blk := false, con := [], bn := ["len", "max"], shp := [] }
theorem cb__law_pool : cBody 60 ct__law_pool (defBody s__law_pool) = some ir_law_pool := by decide +kernel
theorem sc__law_pool : FnScope ["_law_script", "_law_k", "_law_cell"] ["_law_script", "_law_k"] (defScope s__law_pool) := ⟨rfl, rfl, rfl, by decide +kernel, rfl, by decide +kernel, by decide +kernel⟩
def ct__law_take : Ct := { N := ["_law_pool_here", "_law_many", "_law_digit", "_law_one", "_law_two"], sc := defScope s__law_take, blk := false, con := [], bn := [], shp := [] }
theorem cb__law_take : cBody 60 ct__law_take (defBody s__law_take) = some ir_law_take_v2 := by decide +kernel
theorem sc__law_take : FnScope ["_law_pool_here", "_law_many", "_law_digit", "_law_one", "_law_two"] ["_law_pool_here", "_law_many"] (defScope s__law_take) := ⟨rfl, rfl, rfl, by decide +kernel, rfl, by decide +kernel, by decide +kernel⟩
def ct__law_shared : Ct := { N := ["_law_one", "_law_other"], sc := defScope s__law_shared, blk := false, con := [], bn := ["abs"], shp := [] }
theorem cb__law_shared : cBody 60 ct__law_shared (defBody s__law_shared) = some ir_law_shared := by decide +kernel
theorem sc__law_shared : FnScope ["_law_one", "_law_other"] ["_law_one", "_law_other"] (defScope s__law_shared) := ⟨rfl, rfl, rfl, by decide +kernel, rfl, by decide +kernel, by decide +kernel⟩
def ct__law_lowest : Ct := { N := ["_law_row", "_law_part", "_law_number"], sc := defScope s__law_lowest, blk := false, con := [], bn := ["tuple"], shp := [⟨"_law_shared", 2, [], 21, [true, true], []⟩] }
theorem cb__law_lowest : cBody 60 ct__law_lowest (defBody s__law_lowest) = some ir_law_lowest := by decide +kernel
theorem sc__law_lowest : FnScope ["_law_row", "_law_part", "_law_number"] ["_law_row"] (defScope s__law_lowest) := ⟨rfl, rfl, rfl, by decide +kernel, rfl, by decide +kernel, by decide +kernel⟩
def ct__law_at : Ct := { N := ["_law_p", "_law_q", "_law_m", "_law_far", "_law_near"], sc := defScope s__law_at, blk := false, con := [], bn := [], shp := [⟨"_law_lowest", 1, [], 46, [true], []⟩] }
theorem cb__law_at : cBody 60 ct__law_at (defBody s__law_at) = some ir_law_at_v2 := by decide +kernel
theorem sc__law_at : FnScope ["_law_p", "_law_q", "_law_m", "_law_far", "_law_near"] ["_law_p", "_law_q", "_law_m"] (defScope s__law_at) := ⟨rfl, rfl, rfl, by decide +kernel, rfl, by decide +kernel, by decide +kernel⟩
def ct__law_great : Ct := { N := ["_law_pool_here", "_law_found", "_law_turn"], sc := defScope s__law_great, blk := false, con := [], bn := ["range"], shp := [⟨"_law_take", 2, [], 140, [true, true], []⟩] }
theorem cb__law_great : cBody 60 ct__law_great (defBody s__law_great) = some ir_law_great_v2 := by decide +kernel
theorem sc__law_great : FnScope ["_law_pool_here", "_law_found", "_law_turn"] ["_law_pool_here"] (defScope s__law_great) := ⟨rfl, rfl, rfl, by decide +kernel, rfl, by decide +kernel, by decide +kernel⟩
def ct__law_place : Ct := { N := ["_law_pool_here", "_law_way", "_law_one", "_law_other", "_law_top", "_law_base"], sc := defScope s__law_place, blk := false, con := [], bn := [], shp := [⟨"_law_take", 2, [], 140, [true, true], []⟩, ⟨"_law_at", 3, [], 142, [true, true, true], []⟩, ⟨"_law_great", 1, [], 143, [true], []⟩] }
theorem cb__law_place : cBody 60 ct__law_place (defBody s__law_place) = some ir_law_place_v2 := by decide +kernel
theorem sc__law_place : FnScope ["_law_pool_here", "_law_way", "_law_one", "_law_other", "_law_top", "_law_base"] ["_law_pool_here"] (defScope s__law_place) := ⟨rfl, rfl, rfl, by decide +kernel, rfl, by decide +kernel, by decide +kernel⟩
def ct__law_neighbours : Ct := { N := ["_law_pool_here", "_law_a", "_law_b", "_law_turn"], sc := defScope s__law_neighbours, blk := false, con := [], bn := ["range"], shp := [⟨"_law_take", 2, [], 140, [true, true], []⟩] }
theorem cb__law_neighbours : cBody 60 ct__law_neighbours (defBody s__law_neighbours) = some ir_law_neighbours := by decide +kernel
theorem sc__law_neighbours : FnScope ["_law_pool_here", "_law_a", "_law_b", "_law_turn"] ["_law_pool_here"] (defScope s__law_neighbours) := ⟨rfl, rfl, rfl, by decide +kernel, rfl, by decide +kernel, by decide +kernel⟩
def ct__law_hard_place : Ct := { N := ["_law_pool_here", "_law_way", "_law_p", "_law_q", "_law_a", "_law_b", "_law_far"], sc := defScope s__law_hard_place, blk := false, con := [], bn := ["int"], shp := [⟨"_law_take", 2, [], 140, [true, true], []⟩, ⟨"_law_at", 3, [], 142, [true, true, true], []⟩, ⟨"_law_place", 1, [], 144, [true], []⟩, ⟨"_law_lowest", 1, [], 46, [true], []⟩, ⟨"_law_neighbours", 1, [], 403, [true], []⟩] }
theorem cb__law_hard_place : cBody 60 ct__law_hard_place (defBody s__law_hard_place) = some ir_law_hard_place := by decide +kernel
theorem sc__law_hard_place : FnScope ["_law_pool_here", "_law_way", "_law_p", "_law_q", "_law_a", "_law_b", "_law_far"] ["_law_pool_here"] (defScope s__law_hard_place) := ⟨rfl, rfl, rfl, by decide +kernel, rfl, by decide +kernel, by decide +kernel⟩
def ct__law_ways : Ct := { N := [], sc := defScope s__law_ways, blk := false, con := [], bn := [], shp := [] }
theorem cb__law_ways : cBody 60 ct__law_ways (defBody s__law_ways) = some ir_law_ways_v2 := by decide +kernel
theorem sc__law_ways : FnScope [] [] (defScope s__law_ways) := ⟨rfl, rfl, rfl, by decide +kernel, rfl, by decide +kernel, by decide +kernel⟩
def ct__law_is_drawn : Ct := { N := ["_law_way", "_law_here"], sc := defScope s__law_is_drawn, blk := false, con := [], bn := [], shp := [] }
theorem cb__law_is_drawn : cBody 60 ct__law_is_drawn (defBody s__law_is_drawn) = some ir_law_is_drawn := by decide +kernel
theorem sc__law_is_drawn : FnScope ["_law_way", "_law_here"] ["_law_way", "_law_here"] (defScope s__law_is_drawn) := ⟨rfl, rfl, rfl, by decide +kernel, rfl, by decide +kernel, by decide +kernel⟩
def ct__law_met_kept : Ct := { N := ["_law_call", "_law_caught", "_law_told", "e", "_law_some", "_law_others"], sc := defScope s__law_met_kept, blk := false, con := [], bn := ["isinstance"], shp := [], thk := some "_law_call", isx := [("NoHalvings", [("NoPlace", false), ("NoDrawing", false), ("NoSpot", false)]), ("NoFraction", [("NoPlace", false), ("NoDrawing", false), ("NoSpot", false)]), ("NoDirection", [("NoPlace", false), ("NoDrawing", false), ("NoSpot", false)]), ("NoMark", [("NoPlace", false), ("NoDrawing", false), ("NoSpot", false)]), ("NoPair", [("NoPlace", false), ("NoDrawing", false), ("NoSpot", false)]), ("NoTurn", [("NoPlace", false), ("NoDrawing", false), ("NoSpot", false)]), ("NoDrawing", [("NoPlace", false), ("NoDrawing", true), ("NoSpot", false)]), ("NoPlace", [("NoPlace", true), ("NoDrawing", false), ("NoSpot", false)]), ("NoSpot", [("NoPlace", false), ("NoDrawing", false), ("NoSpot", true)]), ("NoCircle", [("NoPlace", false), ("NoDrawing", false), ("NoSpot", false)]), ("NoSide", [("NoPlace", false), ("NoDrawing", false), ("NoSpot", false)]), ("ValueError", [("NoPlace", true), ("NoDrawing", true), ("NoSpot", true)])], exm := [("LeafError", [(3, some "NoPlace"), (11, some "NoDrawing"), (14, some "NoSpot")])] }
def ct__law_met_keptP : Ct := { N := ["_law_call", "_law_caught", "_law_told", "e", "_law_some", "_law_others", "#"], sc := defScope s__law_met_kept, blk := false, con := [], bn := ["isinstance"], shp := [], thk := some "_law_call", gho := some "#", isx := [("NoHalvings", [("NoPlace", false), ("NoDrawing", false), ("NoSpot", false)]), ("NoFraction", [("NoPlace", false), ("NoDrawing", false), ("NoSpot", false)]), ("NoDirection", [("NoPlace", false), ("NoDrawing", false), ("NoSpot", false)]), ("NoMark", [("NoPlace", false), ("NoDrawing", false), ("NoSpot", false)]), ("NoPair", [("NoPlace", false), ("NoDrawing", false), ("NoSpot", false)]), ("NoTurn", [("NoPlace", false), ("NoDrawing", false), ("NoSpot", false)]), ("NoDrawing", [("NoPlace", false), ("NoDrawing", true), ("NoSpot", false)]), ("NoPlace", [("NoPlace", true), ("NoDrawing", false), ("NoSpot", false)]), ("NoSpot", [("NoPlace", false), ("NoDrawing", false), ("NoSpot", true)]), ("NoCircle", [("NoPlace", false), ("NoDrawing", false), ("NoSpot", false)]), ("NoSide", [("NoPlace", false), ("NoDrawing", false), ("NoSpot", false)]), ("ValueError", [("NoPlace", true), ("NoDrawing", true), ("NoSpot", true)])], exm := [("LeafError", [(3, some "NoPlace"), (11, some "NoDrawing"), (14, some "NoSpot")])] }
theorem cb__law_met_keptP : cBody 60 ct__law_met_keptP (defBody s__law_met_kept) = some ir_law_met_kept_v5P := by decide +kernel
theorem sc__law_met_keptP : FnScope ["_law_call", "_law_caught", "_law_told", "e", "_law_some", "_law_others", "#"] ["_law_call"] (defScope s__law_met_kept) := ⟨rfl, rfl, rfl, by decide +kernel, rfl, by decide +kernel, by decide +kernel⟩
theorem cb__law_met_kept : cBody 60 ct__law_met_kept (defBody s__law_met_kept) = some ir_law_met_kept_v5 := by decide +kernel
theorem sc__law_met_kept : FnScope ["_law_call", "_law_caught", "_law_told", "e", "_law_some", "_law_others"] ["_law_call"] (defScope s__law_met_kept) := ⟨rfl, rfl, rfl, by decide +kernel, rfl, by decide +kernel, by decide +kernel⟩
def ct__law_fraction : Ct := { N := ["_law_over", "_law_base", "_law_part"], sc := defScope s__law_fraction, blk := false, con := [], bn := [], shp := [⟨"_law_shared", 2, [], 21, [true, true], []⟩] }
theorem cb__law_fraction : cBody 60 ct__law_fraction (defBody s__law_fraction) = some ir_law_fraction := by decide +kernel
theorem sc__law_fraction : FnScope ["_law_over", "_law_base", "_law_part"] ["_law_over", "_law_base"] (defScope s__law_fraction) := ⟨rfl, rfl, rfl, by decide +kernel, rfl, by decide +kernel, by decide +kernel⟩
def ct__law_stretches : Ct := { N := ["_law_way", "_law_here", "_law_z", "_law_w", "_law_along"], sc := defScope s__law_stretches, blk := false, con := [], bn := [], shp := [⟨"_law_fraction", 2, [], 24, [true, true], []⟩] }
theorem cb__law_stretches : cBody 60 ct__law_stretches (defBody s__law_stretches) = some ir_law_stretches := by decide +kernel
theorem sc__law_stretches : FnScope ["_law_way", "_law_here", "_law_z", "_law_w", "_law_along"] ["_law_way", "_law_here"] (defScope s__law_stretches) := ⟨rfl, rfl, rfl, by decide +kernel, rfl, by decide +kernel, by decide +kernel⟩
def ct_is_way : Ct := { N := ["thing"], sc := defScope s_is_way, blk := false, con := [("WAYS", (.tuple [(.str "disc"), (.str "even"), (.str "plain"), (.str "round"), (.str "sight"), (.str "straight")]))], bn := ["isinstance", "str"], shp := [] }
theorem cb_is_way : cBody 60 ct_is_way (defBody s_is_way) = some ir_is_way := by decide +kernel
theorem sc_is_way : FnScope ["thing"] ["thing"] (defScope s_is_way) := ⟨rfl, rfl, rfl, by decide +kernel, rfl, by decide +kernel, by decide +kernel⟩
def ct_need_way : Ct := { N := ["thing"], sc := defScope s_need_way, blk := false, con := [], bn := [], shp := [⟨"is_way", 1, [], 234, [true], []⟩], exc := [("NoDrawing", 11)] }
theorem cb_need_way : cBody 60 ct_need_way (defBody s_need_way) = some ir_need_way := by decide +kernel
theorem sc_need_way : FnScope ["thing"] ["thing"] (defScope s_need_way) := ⟨rfl, rfl, rfl, by decide +kernel, rfl, by decide +kernel, by decide +kernel⟩
def ct_is_whole : Ct := { N := ["thing"], sc := defScope s_is_whole, blk := false, con := [], bn := ["isinstance", "int", "bool"], shp := [] }
theorem cb_is_whole : cBody 60 ct_is_whole (defBody s_is_whole) = some ir_is_whole := by decide +kernel
theorem sc_is_whole : FnScope ["thing"] ["thing"] (defScope s_is_whole) := ⟨rfl, rfl, rfl, by decide +kernel, rfl, by decide +kernel, by decide +kernel⟩
def ct_are_whole : Ct := { N := ["thing", "many", "part"], sc := defScope s_are_whole, blk := false, con := [], bn := ["isinstance", "tuple", "all", "len"], shp := [⟨"is_whole", 1, [], 5, [true], []⟩] }
theorem cb_are_whole : cBody 60 ct_are_whole (defBody s_are_whole) = some ir_are_whole := by decide +kernel
theorem sc_are_whole : FnScope ["thing", "many", "part"] ["thing", "many"] (defScope s_are_whole) := ⟨rfl, rfl, rfl, by decide +kernel, rfl, by decide +kernel, by decide +kernel⟩
def ct_shared_part : Ct := { N := ["one", "other"], sc := defScope s_shared_part, blk := false, con := [], bn := ["abs"], shp := [] }
theorem cb_shared_part : cBody 60 ct_shared_part (defBody s_shared_part) = some ir_shared_part := by decide +kernel
theorem sc_shared_part : FnScope ["one", "other"] ["one", "other"] (defScope s_shared_part) := ⟨rfl, rfl, rfl, by decide +kernel, rfl, by decide +kernel, by decide +kernel⟩
def ct_part_of_all : Ct := { N := ["row", "found", "number"], sc := defScope s_part_of_all, blk := false, con := [], bn := [], shp := [⟨"shared_part", 2, [], 8, [true, true], []⟩] }
theorem cb_part_of_all : cBody 60 ct_part_of_all (defBody s_part_of_all) = some ir_part_of_all := by decide +kernel
theorem sc_part_of_all : FnScope ["row", "found", "number"] ["row"] (defScope s_part_of_all) := ⟨rfl, rfl, rfl, by decide +kernel, rfl, by decide +kernel, by decide +kernel⟩
def ct_is_lowest : Ct := { N := ["thing", "many"], sc := defScope s_is_lowest, blk := false, con := [], bn := [], shp := [⟨"are_whole", 2, [], 7, [true, true], []⟩, ⟨"part_of_all", 1, [], 9, [true], []⟩] }
theorem cb_is_lowest : cBody 60 ct_is_lowest (defBody s_is_lowest) = some ir_is_lowest := by decide +kernel
theorem sc_is_lowest : FnScope ["thing", "many"] ["thing", "many"] (defScope s_is_lowest) := ⟨rfl, rfl, rfl, by decide +kernel, rfl, by decide +kernel, by decide +kernel⟩
def ct_dot : Ct := { N := ["one", "other"], sc := defScope s_dot, blk := false, con := [], bn := [], shp := [] }
theorem cb_dot : cBody 60 ct_dot (defBody s_dot) = some ir_dot := by decide +kernel
theorem sc_dot : FnScope ["one", "other"] ["one", "other"] (defScope s_dot) := ⟨rfl, rfl, rfl, by decide +kernel, rfl, by decide +kernel, by decide +kernel⟩
def ct_is_place : Ct := { N := ["thing"], sc := defScope s_is_place, blk := false, con := [], bn := [], shp := [⟨"is_lowest", 2, [], 10, [true, true], []⟩, ⟨"dot", 2, [], 59, [true, true], []⟩] }
theorem cb_is_place : cBody 60 ct_is_place (defBody s_is_place) = some ir_is_place := by decide +kernel
theorem sc_is_place : FnScope ["thing"] ["thing"] (defScope s_is_place) := ⟨rfl, rfl, rfl, by decide +kernel, rfl, by decide +kernel, by decide +kernel⟩
def ct_need_place : Ct := { N := ["thing"], sc := defScope s_need_place, blk := false, con := [], bn := [], shp := [⟨"is_place", 1, [], 60, [true], []⟩], exc := [("NoPlace", 3)] }
theorem cb_need_place : cBody 60 ct_need_place (defBody s_need_place) = some ir_need_place_v2 := by decide +kernel
theorem sc_need_place : FnScope ["thing"] ["thing"] (defScope s_need_place) := ⟨rfl, rfl, rfl, by decide +kernel, rfl, by decide +kernel, by decide +kernel⟩
def ct_disc_stretches : Ct := { N := ["z", "w"], sc := defScope s_disc_stretches, blk := false, con := [], bn := [], shp := [] }
theorem cb_disc_stretches : cBody 60 ct_disc_stretches (defBody s_disc_stretches) = some ir_disc_stretches := by decide +kernel
theorem sc_disc_stretches : FnScope ["z", "w"] ["z", "w"] (defScope s_disc_stretches) := ⟨rfl, rfl, rfl, by decide +kernel, rfl, by decide +kernel, by decide +kernel⟩
def ct_even_stretches : Ct := { N := ["z", "w"], sc := defScope s_even_stretches, blk := false, con := [], bn := [], shp := [] }
theorem cb_even_stretches : cBody 60 ct_even_stretches (defBody s_even_stretches) = some ir_even_stretches := by decide +kernel
theorem sc_even_stretches : FnScope ["z", "w"] ["z", "w"] (defScope s_even_stretches) := ⟨rfl, rfl, rfl, by decide +kernel, rfl, by decide +kernel, by decide +kernel⟩
def ct_plain_stretches : Ct := { N := ["z", "w"], sc := defScope s_plain_stretches, blk := false, con := [], bn := [], shp := [] }
theorem cb_plain_stretches : cBody 60 ct_plain_stretches (defBody s_plain_stretches) = some ir_plain_stretches := by decide +kernel
theorem sc_plain_stretches : FnScope ["z", "w"] ["z", "w"] (defScope s_plain_stretches) := ⟨rfl, rfl, rfl, by decide +kernel, rfl, by decide +kernel, by decide +kernel⟩
def ct_round_stretches : Ct := { N := ["z", "w"], sc := defScope s_round_stretches, blk := false, con := [], bn := [], shp := [] }
theorem cb_round_stretches : cBody 60 ct_round_stretches (defBody s_round_stretches) = some ir_round_stretches := by decide +kernel
theorem sc_round_stretches : FnScope ["z", "w"] ["z", "w"] (defScope s_round_stretches) := ⟨rfl, rfl, rfl, by decide +kernel, rfl, by decide +kernel, by decide +kernel⟩
def ct_sight_stretches : Ct := { N := ["z", "w"], sc := defScope s_sight_stretches, blk := false, con := [], bn := [], shp := [] }
theorem cb_sight_stretches : cBody 60 ct_sight_stretches (defBody s_sight_stretches) = some ir_sight_stretches := by decide +kernel
theorem sc_sight_stretches : FnScope ["z", "w"] ["z", "w"] (defScope s_sight_stretches) := ⟨rfl, rfl, rfl, by decide +kernel, rfl, by decide +kernel, by decide +kernel⟩
def ct_straight_stretches : Ct := { N := ["z", "w"], sc := defScope s_straight_stretches, blk := false, con := [], bn := [], shp := [] }
theorem cb_straight_stretches : cBody 60 ct_straight_stretches (defBody s_straight_stretches) = some ir_straight_stretches := by decide +kernel
theorem sc_straight_stretches : FnScope ["z", "w"] ["z", "w"] (defScope s_straight_stretches) := ⟨rfl, rfl, rfl, by decide +kernel, rfl, by decide +kernel, by decide +kernel⟩
def ct_is_drawn : Ct := { N := ["way", "place", "x", "y", "z", "w"], sc := defScope s_is_drawn, blk := false, con := [], bn := [], shp := [] }
theorem cb_is_drawn : cBody 60 ct_is_drawn (defBody s_is_drawn) = some ir_is_drawn := by decide +kernel
theorem sc_is_drawn : FnScope ["way", "place", "x", "y", "z", "w"] ["way", "place"] (defScope s_is_drawn) := ⟨rfl, rfl, rfl, by decide +kernel, rfl, by decide +kernel, by decide +kernel⟩
def ct_lowest_row : Ct := { N := ["row", "part", "number"], sc := defScope s_lowest_row, blk := false, con := [], bn := ["tuple"], shp := [⟨"part_of_all", 1, [], 9, [true], []⟩] }
theorem cb_lowest_row : cBody 60 ct_lowest_row (defBody s_lowest_row) = some ir_lowest_row := by decide +kernel
theorem sc_lowest_row : FnScope ["row", "part", "number"] ["row"] (defScope s_lowest_row) := ⟨rfl, rfl, rfl, by decide +kernel, rfl, by decide +kernel, by decide +kernel⟩
def ct_fraction_by : Ct := { N := ["over", "under", "found"], sc := defScope s_fraction_by, blk := false, con := [], bn := [], shp := [⟨"lowest_row", 1, [], 18, [true], []⟩] }
theorem cb_fraction_by : cBody 60 ct_fraction_by (defBody s_fraction_by) = some ir_fraction_by := by decide +kernel
theorem sc_fraction_by : FnScope ["over", "under", "found"] ["over", "under"] (defScope s_fraction_by) := ⟨rfl, rfl, rfl, by decide +kernel, rfl, by decide +kernel, by decide +kernel⟩
def ct_fraction_of : Ct := { N := ["over", "under"], sc := defScope s_fraction_of, blk := false, con := [], bn := [], shp := [⟨"fraction_by", 2, [], 19, [true, true], []⟩, ⟨"is_whole", 1, [], 5, [true], []⟩] }
theorem cb_fraction_of : cBody 60 ct_fraction_of (defBody s_fraction_of) = some ir_fraction_of := by decide +kernel
theorem sc_fraction_of : FnScope ["over", "under"] ["over", "under"] (defScope s_fraction_of) := ⟨rfl, rfl, rfl, by decide +kernel, rfl, by decide +kernel, by decide +kernel⟩
def ct_stretches : Ct := { N := ["way", "place", "told", "one", "under", "other", "below"], sc := defScope s_stretches, blk := false, con := [], bn := [], shp := [⟨"need_way", 1, [], 416, [true], []⟩, ⟨"need_place", 1, [], 463, [true], []⟩, ⟨"is_drawn", 2, [], 238, [true, true], []⟩, ⟨"fraction_of", 1, ["under"], 20, [true, true], []⟩, ⟨"disc_stretches", 2, [], 419, [true, true], []⟩, ⟨"even_stretches", 2, [], 420, [true, true], []⟩, ⟨"plain_stretches", 2, [], 421, [true, true], []⟩, ⟨"round_stretches", 2, [], 422, [true, true], []⟩, ⟨"sight_stretches", 2, [], 423, [true, true], []⟩, ⟨"straight_stretches", 2, [], 424, [true, true], []⟩], exc := [("NoSpot", 14)], dic := [("STRETCHES", [("disc", "disc_stretches"), ("even", "even_stretches"), ("plain", "plain_stretches"), ("round", "round_stretches"), ("sight", "sight_stretches"), ("straight", "straight_stretches")])], fnn := ["disc_stretches", "even_stretches", "plain_stretches", "round_stretches", "sight_stretches", "straight_stretches"] }
theorem cb_stretches : cBody 60 ct_stretches (defBody s_stretches) = some ir_stretches_v2 := by decide +kernel
theorem sc_stretches : FnScope ["way", "place", "told", "one", "under", "other", "below"] ["way", "place"] (defScope s_stretches) := ⟨rfl, rfl, rfl, by decide +kernel, rfl, by decide +kernel, by decide +kernel⟩
def ct_law : Ct := { N := ["_law_script", "_law_k", "_law_due", "_law_some", "_law_odds", "_law_here", "_law_no_place", "_law_no_way", "_law_other", "_law_pool_here", "_law_way"], sc := defScope s_law, blk := false, con := [], bn := ["range", "max", "min", "len", "repr"], shp := [⟨"_law_pool", 2, [], 0, [true, true], []⟩, ⟨"_law_hard_place", 1, [], 404, [true], []⟩, ⟨"_law_ways", 0, [], 225, [], []⟩, ⟨"_law_is_drawn", 2, [], 236, [true, true], []⟩, ⟨"_law_take", 2, [], 140, [true, true], []⟩, ⟨"_law_stretches", 2, [], 532, [true, true], []⟩, ⟨"stretches", 2, [], 533, [true, true], []⟩], lam := [("_law_met_kept", 531)], lamP := [("_law_met_kept", "_law_pool_here")] }
theorem cb_law : cBody 60 ct_law (defBody s_law) = some ir_law_v69 := by decide +kernel
theorem sc_law : FnScope ["_law_script", "_law_k", "_law_due", "_law_some", "_law_odds", "_law_here", "_law_no_place", "_law_no_way", "_law_other", "_law_pool_here", "_law_way"] ["_law_script"] (defScope s_law) := ⟨rfl, rfl, rfl, by decide +kernel, rfl, by decide +kernel, by decide +kernel⟩
theorem kit_refN {K : Fg} {C C' : Addr} {b : Bool} (h : C' ≠ C) (h1 : PySem.W.hasDictIn K C = true) (h2 : PySem.W.typeIn K (.ref C) = some (.type "type")) (h3 : PySem.W.subIn K (.ref C') (.ref C) = some b) : PySem.W.kitOne K (.ref C') (.ref C) = some b := kit_refF (beq_eq_false_iff_ne.mpr fun e => h (Value.ref.inj e)) h1 h2 h3
local macro_rules | `(command| #guard_panic in $c) => `($c:command #guard_msgs (drop all) in example : True := True.intro)
set_option Elab.async true
#guard_panic in
theorem law_mk {l : PySem.W.OpenLaw} {w : World} {K : Fg} {h : Heap} {mg : Str → Option Value} {fa : Addr} {ts : List Addr} (X : K.In h) (G0 : h.Ns mainGlobals mg) (hfa : mg "law" = some (.ref fa))
    {f__law_pool : Addr} {od__law_pool an__law_pool : Option Addr} {sl__law_pool : Array (Option Value)} {oc__law_pool kV__law_pool dc__law_pool pm__law_pool cd__law_pool ct__law_pool : Value}
    {f__law_take : Addr} {od__law_take an__law_take : Option Addr} {sl__law_take : Array (Option Value)} {oc__law_take kV__law_take dc__law_take pm__law_take cd__law_take ct__law_take : Value}
    {f__law_shared : Addr} {od__law_shared an__law_shared : Option Addr} {sl__law_shared : Array (Option Value)} {oc__law_shared kV__law_shared dc__law_shared pm__law_shared cd__law_shared ct__law_shared : Value}
    {f__law_lowest : Addr} {od__law_lowest an__law_lowest : Option Addr} {sl__law_lowest : Array (Option Value)} {oc__law_lowest kV__law_lowest dc__law_lowest pm__law_lowest cd__law_lowest ct__law_lowest : Value}
    {f__law_at : Addr} {od__law_at an__law_at : Option Addr} {sl__law_at : Array (Option Value)} {oc__law_at kV__law_at dc__law_at pm__law_at cd__law_at ct__law_at : Value}
    {f__law_great : Addr} {od__law_great an__law_great : Option Addr} {sl__law_great : Array (Option Value)} {oc__law_great kV__law_great dc__law_great pm__law_great cd__law_great ct__law_great : Value}
    {f__law_place : Addr} {od__law_place an__law_place : Option Addr} {sl__law_place : Array (Option Value)} {oc__law_place kV__law_place dc__law_place pm__law_place cd__law_place ct__law_place : Value}
    {f__law_neighbours : Addr} {od__law_neighbours an__law_neighbours : Option Addr} {sl__law_neighbours : Array (Option Value)} {oc__law_neighbours kV__law_neighbours dc__law_neighbours pm__law_neighbours cd__law_neighbours ct__law_neighbours : Value}
    {f__law_hard_place : Addr} {od__law_hard_place an__law_hard_place : Option Addr} {sl__law_hard_place : Array (Option Value)} {oc__law_hard_place kV__law_hard_place dc__law_hard_place pm__law_hard_place cd__law_hard_place ct__law_hard_place : Value}
    {f__law_ways : Addr} {od__law_ways an__law_ways : Option Addr} {sl__law_ways : Array (Option Value)} {oc__law_ways kV__law_ways dc__law_ways pm__law_ways cd__law_ways ct__law_ways : Value}
    {f__law_is_drawn : Addr} {od__law_is_drawn an__law_is_drawn : Option Addr} {sl__law_is_drawn : Array (Option Value)} {oc__law_is_drawn kV__law_is_drawn dc__law_is_drawn pm__law_is_drawn cd__law_is_drawn ct__law_is_drawn : Value}
    {f__law_met_kept : Addr} {od__law_met_kept an__law_met_kept : Option Addr} {sl__law_met_kept : Array (Option Value)} {oc__law_met_kept kV__law_met_kept dc__law_met_kept pm__law_met_kept cd__law_met_kept ct__law_met_kept : Value}
    {f__law_fraction : Addr} {od__law_fraction an__law_fraction : Option Addr} {sl__law_fraction : Array (Option Value)} {oc__law_fraction kV__law_fraction dc__law_fraction pm__law_fraction cd__law_fraction ct__law_fraction : Value}
    {f__law_stretches : Addr} {od__law_stretches an__law_stretches : Option Addr} {sl__law_stretches : Array (Option Value)} {oc__law_stretches kV__law_stretches dc__law_stretches pm__law_stretches cd__law_stretches ct__law_stretches : Value}
    {f_is_way : Addr} {od_is_way an_is_way : Option Addr} {sl_is_way : Array (Option Value)} {oc_is_way kV_is_way dc_is_way pm_is_way cd_is_way ct_is_way : Value}
    {f_need_way : Addr} {od_need_way an_need_way : Option Addr} {sl_need_way : Array (Option Value)} {oc_need_way kV_need_way dc_need_way pm_need_way cd_need_way ct_need_way : Value}
    {f_is_whole : Addr} {od_is_whole an_is_whole : Option Addr} {sl_is_whole : Array (Option Value)} {oc_is_whole kV_is_whole dc_is_whole pm_is_whole cd_is_whole ct_is_whole : Value}
    {f_are_whole : Addr} {od_are_whole an_are_whole : Option Addr} {sl_are_whole : Array (Option Value)} {oc_are_whole kV_are_whole dc_are_whole pm_are_whole cd_are_whole ct_are_whole : Value}
    {f_shared_part : Addr} {od_shared_part an_shared_part : Option Addr} {sl_shared_part : Array (Option Value)} {oc_shared_part kV_shared_part dc_shared_part pm_shared_part cd_shared_part ct_shared_part : Value}
    {f_part_of_all : Addr} {od_part_of_all an_part_of_all : Option Addr} {sl_part_of_all : Array (Option Value)} {oc_part_of_all kV_part_of_all dc_part_of_all pm_part_of_all cd_part_of_all ct_part_of_all : Value}
    {f_is_lowest : Addr} {od_is_lowest an_is_lowest : Option Addr} {sl_is_lowest : Array (Option Value)} {oc_is_lowest kV_is_lowest dc_is_lowest pm_is_lowest cd_is_lowest ct_is_lowest : Value}
    {f_dot : Addr} {od_dot an_dot : Option Addr} {sl_dot : Array (Option Value)} {oc_dot kV_dot dc_dot pm_dot cd_dot ct_dot : Value}
    {f_is_place : Addr} {od_is_place an_is_place : Option Addr} {sl_is_place : Array (Option Value)} {oc_is_place kV_is_place dc_is_place pm_is_place cd_is_place ct_is_place : Value}
    {f_need_place : Addr} {od_need_place an_need_place : Option Addr} {sl_need_place : Array (Option Value)} {oc_need_place kV_need_place dc_need_place pm_need_place cd_need_place ct_need_place : Value}
    {f_disc_stretches : Addr} {od_disc_stretches an_disc_stretches : Option Addr} {sl_disc_stretches : Array (Option Value)} {oc_disc_stretches kV_disc_stretches dc_disc_stretches pm_disc_stretches cd_disc_stretches ct_disc_stretches : Value}
    {f_even_stretches : Addr} {od_even_stretches an_even_stretches : Option Addr} {sl_even_stretches : Array (Option Value)} {oc_even_stretches kV_even_stretches dc_even_stretches pm_even_stretches cd_even_stretches ct_even_stretches : Value}
    {f_plain_stretches : Addr} {od_plain_stretches an_plain_stretches : Option Addr} {sl_plain_stretches : Array (Option Value)} {oc_plain_stretches kV_plain_stretches dc_plain_stretches pm_plain_stretches cd_plain_stretches ct_plain_stretches : Value}
    {f_round_stretches : Addr} {od_round_stretches an_round_stretches : Option Addr} {sl_round_stretches : Array (Option Value)} {oc_round_stretches kV_round_stretches dc_round_stretches pm_round_stretches cd_round_stretches ct_round_stretches : Value}
    {f_sight_stretches : Addr} {od_sight_stretches an_sight_stretches : Option Addr} {sl_sight_stretches : Array (Option Value)} {oc_sight_stretches kV_sight_stretches dc_sight_stretches pm_sight_stretches cd_sight_stretches ct_sight_stretches : Value}
    {f_straight_stretches : Addr} {od_straight_stretches an_straight_stretches : Option Addr} {sl_straight_stretches : Array (Option Value)} {oc_straight_stretches kV_straight_stretches dc_straight_stretches pm_straight_stretches cd_straight_stretches ct_straight_stretches : Value}
    {f_is_drawn : Addr} {od_is_drawn an_is_drawn : Option Addr} {sl_is_drawn : Array (Option Value)} {oc_is_drawn kV_is_drawn dc_is_drawn pm_is_drawn cd_is_drawn ct_is_drawn : Value}
    {f_lowest_row : Addr} {od_lowest_row an_lowest_row : Option Addr} {sl_lowest_row : Array (Option Value)} {oc_lowest_row kV_lowest_row dc_lowest_row pm_lowest_row cd_lowest_row ct_lowest_row : Value}
    {f_fraction_by : Addr} {od_fraction_by an_fraction_by : Option Addr} {sl_fraction_by : Array (Option Value)} {oc_fraction_by kV_fraction_by dc_fraction_by pm_fraction_by cd_fraction_by ct_fraction_by : Value}
    {f_fraction_of : Addr} {od_fraction_of an_fraction_of : Option Addr} {sl_fraction_of : Array (Option Value)} {oc_fraction_of dc_fraction_of pm_fraction_of cd_fraction_of ct_fraction_of : Value} {D_fraction_of : Addr}
    {t_fraction_of_under : Tok}
    {f_stretches : Addr} {od_stretches an_stretches : Option Addr} {sl_stretches : Array (Option Value)} {oc_stretches kV_stretches dc_stretches pm_stretches cd_stretches ct_stretches : Value}
    {f_law : Addr} {od_law an_law : Option Addr} {sl_law : Array (Option Value)} {oc_law kV_law dc_law pm_law  ct_law : Value} {cA_law TA_law : Addr}
    {A_WAYS : Addr} {ep_WAYS : Nat} {sl_WAYS : Array (Option Value)}
    {t_WAYS_0 : Tok}
    {t_WAYS_1 : Tok}
    {t_WAYS_2 : Tok}
    {t_WAYS_3 : Tok}
    {t_WAYS_4 : Tok}
    {t_WAYS_5 : Tok}
    {A_STRETCHES : Addr} {es_STRETCHES : Array DictEntry} {n_STRETCHES : Nat}
    {C_NoPlace : Addr}
    {C_NoDrawing : Addr}
    {C_NoSpot : Addr}
    {C_NoHalvings : Addr}
    {C_NoFraction : Addr}
    {C_NoDirection : Addr}
    {C_NoMark : Addr}
    {C_NoPair : Addr}
    {C_NoTurn : Addr}
    {C_NoCircle : Addr}
    {C_NoSide : Addr}
    {C_LeafError : Addr}
    (a__law_pool : PySem.W.nsIn K mainGlobals "_law_pool" = some (some (.ref f__law_pool))) (l__law_pool : K.lookup f__law_pool = some ⟨oc__law_pool, od__law_pool, .func (PySem.W.fnOf "_law_pool" "_law_pool" (defArgs s__law_pool) (defBody s__law_pool) (defScope s__law_pool) .none kV__law_pool dc__law_pool pm__law_pool an__law_pool cd__law_pool ct__law_pool), sl__law_pool⟩) (c__law_pool : PySem.W.codeIn K cd__law_pool "_law_pool" = true) (k__law_pool : PySem.W.keepIn K (.ref f__law_pool) = true)
    (a__law_take : PySem.W.nsIn K mainGlobals "_law_take" = some (some (.ref f__law_take))) (l__law_take : K.lookup f__law_take = some ⟨oc__law_take, od__law_take, .func (PySem.W.fnOf "_law_take" "_law_take" (defArgs s__law_take) (defBody s__law_take) (defScope s__law_take) .none kV__law_take dc__law_take pm__law_take an__law_take cd__law_take ct__law_take), sl__law_take⟩) (c__law_take : PySem.W.codeIn K cd__law_take "_law_take" = true) (k__law_take : PySem.W.keepIn K (.ref f__law_take) = true)
    (a__law_shared : PySem.W.nsIn K mainGlobals "_law_shared" = some (some (.ref f__law_shared))) (l__law_shared : K.lookup f__law_shared = some ⟨oc__law_shared, od__law_shared, .func (PySem.W.fnOf "_law_shared" "_law_shared" (defArgs s__law_shared) (defBody s__law_shared) (defScope s__law_shared) .none kV__law_shared dc__law_shared pm__law_shared an__law_shared cd__law_shared ct__law_shared), sl__law_shared⟩) (c__law_shared : PySem.W.codeIn K cd__law_shared "_law_shared" = true) (k__law_shared : PySem.W.keepIn K (.ref f__law_shared) = true)
    (a__law_lowest : PySem.W.nsIn K mainGlobals "_law_lowest" = some (some (.ref f__law_lowest))) (l__law_lowest : K.lookup f__law_lowest = some ⟨oc__law_lowest, od__law_lowest, .func (PySem.W.fnOf "_law_lowest" "_law_lowest" (defArgs s__law_lowest) (defBody s__law_lowest) (defScope s__law_lowest) .none kV__law_lowest dc__law_lowest pm__law_lowest an__law_lowest cd__law_lowest ct__law_lowest), sl__law_lowest⟩) (c__law_lowest : PySem.W.codeIn K cd__law_lowest "_law_lowest" = true) (k__law_lowest : PySem.W.keepIn K (.ref f__law_lowest) = true)
    (a__law_at : PySem.W.nsIn K mainGlobals "_law_at" = some (some (.ref f__law_at))) (l__law_at : K.lookup f__law_at = some ⟨oc__law_at, od__law_at, .func (PySem.W.fnOf "_law_at" "_law_at" (defArgs s__law_at) (defBody s__law_at) (defScope s__law_at) .none kV__law_at dc__law_at pm__law_at an__law_at cd__law_at ct__law_at), sl__law_at⟩) (c__law_at : PySem.W.codeIn K cd__law_at "_law_at" = true) (k__law_at : PySem.W.keepIn K (.ref f__law_at) = true)
    (a__law_great : PySem.W.nsIn K mainGlobals "_law_great" = some (some (.ref f__law_great))) (l__law_great : K.lookup f__law_great = some ⟨oc__law_great, od__law_great, .func (PySem.W.fnOf "_law_great" "_law_great" (defArgs s__law_great) (defBody s__law_great) (defScope s__law_great) .none kV__law_great dc__law_great pm__law_great an__law_great cd__law_great ct__law_great), sl__law_great⟩) (c__law_great : PySem.W.codeIn K cd__law_great "_law_great" = true) (k__law_great : PySem.W.keepIn K (.ref f__law_great) = true)
    (a__law_place : PySem.W.nsIn K mainGlobals "_law_place" = some (some (.ref f__law_place))) (l__law_place : K.lookup f__law_place = some ⟨oc__law_place, od__law_place, .func (PySem.W.fnOf "_law_place" "_law_place" (defArgs s__law_place) (defBody s__law_place) (defScope s__law_place) .none kV__law_place dc__law_place pm__law_place an__law_place cd__law_place ct__law_place), sl__law_place⟩) (c__law_place : PySem.W.codeIn K cd__law_place "_law_place" = true) (k__law_place : PySem.W.keepIn K (.ref f__law_place) = true)
    (a__law_neighbours : PySem.W.nsIn K mainGlobals "_law_neighbours" = some (some (.ref f__law_neighbours))) (l__law_neighbours : K.lookup f__law_neighbours = some ⟨oc__law_neighbours, od__law_neighbours, .func (PySem.W.fnOf "_law_neighbours" "_law_neighbours" (defArgs s__law_neighbours) (defBody s__law_neighbours) (defScope s__law_neighbours) .none kV__law_neighbours dc__law_neighbours pm__law_neighbours an__law_neighbours cd__law_neighbours ct__law_neighbours), sl__law_neighbours⟩) (c__law_neighbours : PySem.W.codeIn K cd__law_neighbours "_law_neighbours" = true) (k__law_neighbours : PySem.W.keepIn K (.ref f__law_neighbours) = true)
    (a__law_hard_place : PySem.W.nsIn K mainGlobals "_law_hard_place" = some (some (.ref f__law_hard_place))) (l__law_hard_place : K.lookup f__law_hard_place = some ⟨oc__law_hard_place, od__law_hard_place, .func (PySem.W.fnOf "_law_hard_place" "_law_hard_place" (defArgs s__law_hard_place) (defBody s__law_hard_place) (defScope s__law_hard_place) .none kV__law_hard_place dc__law_hard_place pm__law_hard_place an__law_hard_place cd__law_hard_place ct__law_hard_place), sl__law_hard_place⟩) (c__law_hard_place : PySem.W.codeIn K cd__law_hard_place "_law_hard_place" = true) (k__law_hard_place : PySem.W.keepIn K (.ref f__law_hard_place) = true)
    (a__law_ways : PySem.W.nsIn K mainGlobals "_law_ways" = some (some (.ref f__law_ways))) (l__law_ways : K.lookup f__law_ways = some ⟨oc__law_ways, od__law_ways, .func (PySem.W.fnOf "_law_ways" "_law_ways" (defArgs s__law_ways) (defBody s__law_ways) (defScope s__law_ways) .none kV__law_ways dc__law_ways pm__law_ways an__law_ways cd__law_ways ct__law_ways), sl__law_ways⟩) (c__law_ways : PySem.W.codeIn K cd__law_ways "_law_ways" = true) (k__law_ways : PySem.W.keepIn K (.ref f__law_ways) = true)
    (a__law_is_drawn : PySem.W.nsIn K mainGlobals "_law_is_drawn" = some (some (.ref f__law_is_drawn))) (l__law_is_drawn : K.lookup f__law_is_drawn = some ⟨oc__law_is_drawn, od__law_is_drawn, .func (PySem.W.fnOf "_law_is_drawn" "_law_is_drawn" (defArgs s__law_is_drawn) (defBody s__law_is_drawn) (defScope s__law_is_drawn) .none kV__law_is_drawn dc__law_is_drawn pm__law_is_drawn an__law_is_drawn cd__law_is_drawn ct__law_is_drawn), sl__law_is_drawn⟩) (c__law_is_drawn : PySem.W.codeIn K cd__law_is_drawn "_law_is_drawn" = true) (k__law_is_drawn : PySem.W.keepIn K (.ref f__law_is_drawn) = true)
    (a__law_met_kept : PySem.W.nsIn K mainGlobals "_law_met_kept" = some (some (.ref f__law_met_kept))) (l__law_met_kept : K.lookup f__law_met_kept = some ⟨oc__law_met_kept, od__law_met_kept, .func (PySem.W.fnOf "_law_met_kept" "_law_met_kept" (defArgs s__law_met_kept) (defBody s__law_met_kept) (defScope s__law_met_kept) .none kV__law_met_kept dc__law_met_kept pm__law_met_kept an__law_met_kept cd__law_met_kept ct__law_met_kept), sl__law_met_kept⟩) (c__law_met_kept : PySem.W.codeIn K cd__law_met_kept "_law_met_kept" = true) (k__law_met_kept : PySem.W.keepIn K (.ref f__law_met_kept) = true)
    (a__law_fraction : PySem.W.nsIn K mainGlobals "_law_fraction" = some (some (.ref f__law_fraction))) (l__law_fraction : K.lookup f__law_fraction = some ⟨oc__law_fraction, od__law_fraction, .func (PySem.W.fnOf "_law_fraction" "_law_fraction" (defArgs s__law_fraction) (defBody s__law_fraction) (defScope s__law_fraction) .none kV__law_fraction dc__law_fraction pm__law_fraction an__law_fraction cd__law_fraction ct__law_fraction), sl__law_fraction⟩) (c__law_fraction : PySem.W.codeIn K cd__law_fraction "_law_fraction" = true) (k__law_fraction : PySem.W.keepIn K (.ref f__law_fraction) = true)
    (a__law_stretches : PySem.W.nsIn K mainGlobals "_law_stretches" = some (some (.ref f__law_stretches))) (l__law_stretches : K.lookup f__law_stretches = some ⟨oc__law_stretches, od__law_stretches, .func (PySem.W.fnOf "_law_stretches" "_law_stretches" (defArgs s__law_stretches) (defBody s__law_stretches) (defScope s__law_stretches) .none kV__law_stretches dc__law_stretches pm__law_stretches an__law_stretches cd__law_stretches ct__law_stretches), sl__law_stretches⟩) (c__law_stretches : PySem.W.codeIn K cd__law_stretches "_law_stretches" = true) (k__law_stretches : PySem.W.keepIn K (.ref f__law_stretches) = true)
    (a_is_way : PySem.W.nsIn K mainGlobals "is_way" = some (some (.ref f_is_way))) (l_is_way : K.lookup f_is_way = some ⟨oc_is_way, od_is_way, .func (PySem.W.fnOf "is_way" "is_way" (defArgs s_is_way) (defBody s_is_way) (defScope s_is_way) .none kV_is_way dc_is_way pm_is_way an_is_way cd_is_way ct_is_way), sl_is_way⟩) (c_is_way : PySem.W.codeIn K cd_is_way "is_way" = true) (k_is_way : PySem.W.keepIn K (.ref f_is_way) = true)
    (a_need_way : PySem.W.nsIn K mainGlobals "need_way" = some (some (.ref f_need_way))) (l_need_way : K.lookup f_need_way = some ⟨oc_need_way, od_need_way, .func (PySem.W.fnOf "need_way" "need_way" (defArgs s_need_way) (defBody s_need_way) (defScope s_need_way) .none kV_need_way dc_need_way pm_need_way an_need_way cd_need_way ct_need_way), sl_need_way⟩) (c_need_way : PySem.W.codeIn K cd_need_way "need_way" = true) (k_need_way : PySem.W.keepIn K (.ref f_need_way) = true)
    (a_is_whole : PySem.W.nsIn K mainGlobals "is_whole" = some (some (.ref f_is_whole))) (l_is_whole : K.lookup f_is_whole = some ⟨oc_is_whole, od_is_whole, .func (PySem.W.fnOf "is_whole" "is_whole" (defArgs s_is_whole) (defBody s_is_whole) (defScope s_is_whole) .none kV_is_whole dc_is_whole pm_is_whole an_is_whole cd_is_whole ct_is_whole), sl_is_whole⟩) (c_is_whole : PySem.W.codeIn K cd_is_whole "is_whole" = true) (k_is_whole : PySem.W.keepIn K (.ref f_is_whole) = true)
    (a_are_whole : PySem.W.nsIn K mainGlobals "are_whole" = some (some (.ref f_are_whole))) (l_are_whole : K.lookup f_are_whole = some ⟨oc_are_whole, od_are_whole, .func (PySem.W.fnOf "are_whole" "are_whole" (defArgs s_are_whole) (defBody s_are_whole) (defScope s_are_whole) .none kV_are_whole dc_are_whole pm_are_whole an_are_whole cd_are_whole ct_are_whole), sl_are_whole⟩) (c_are_whole : PySem.W.codeIn K cd_are_whole "are_whole" = true) (k_are_whole : PySem.W.keepIn K (.ref f_are_whole) = true)
    (a_shared_part : PySem.W.nsIn K mainGlobals "shared_part" = some (some (.ref f_shared_part))) (l_shared_part : K.lookup f_shared_part = some ⟨oc_shared_part, od_shared_part, .func (PySem.W.fnOf "shared_part" "shared_part" (defArgs s_shared_part) (defBody s_shared_part) (defScope s_shared_part) .none kV_shared_part dc_shared_part pm_shared_part an_shared_part cd_shared_part ct_shared_part), sl_shared_part⟩) (c_shared_part : PySem.W.codeIn K cd_shared_part "shared_part" = true) (k_shared_part : PySem.W.keepIn K (.ref f_shared_part) = true)
    (a_part_of_all : PySem.W.nsIn K mainGlobals "part_of_all" = some (some (.ref f_part_of_all))) (l_part_of_all : K.lookup f_part_of_all = some ⟨oc_part_of_all, od_part_of_all, .func (PySem.W.fnOf "part_of_all" "part_of_all" (defArgs s_part_of_all) (defBody s_part_of_all) (defScope s_part_of_all) .none kV_part_of_all dc_part_of_all pm_part_of_all an_part_of_all cd_part_of_all ct_part_of_all), sl_part_of_all⟩) (c_part_of_all : PySem.W.codeIn K cd_part_of_all "part_of_all" = true) (k_part_of_all : PySem.W.keepIn K (.ref f_part_of_all) = true)
    (a_is_lowest : PySem.W.nsIn K mainGlobals "is_lowest" = some (some (.ref f_is_lowest))) (l_is_lowest : K.lookup f_is_lowest = some ⟨oc_is_lowest, od_is_lowest, .func (PySem.W.fnOf "is_lowest" "is_lowest" (defArgs s_is_lowest) (defBody s_is_lowest) (defScope s_is_lowest) .none kV_is_lowest dc_is_lowest pm_is_lowest an_is_lowest cd_is_lowest ct_is_lowest), sl_is_lowest⟩) (c_is_lowest : PySem.W.codeIn K cd_is_lowest "is_lowest" = true) (k_is_lowest : PySem.W.keepIn K (.ref f_is_lowest) = true)
    (a_dot : PySem.W.nsIn K mainGlobals "dot" = some (some (.ref f_dot))) (l_dot : K.lookup f_dot = some ⟨oc_dot, od_dot, .func (PySem.W.fnOf "dot" "dot" (defArgs s_dot) (defBody s_dot) (defScope s_dot) .none kV_dot dc_dot pm_dot an_dot cd_dot ct_dot), sl_dot⟩) (c_dot : PySem.W.codeIn K cd_dot "dot" = true) (k_dot : PySem.W.keepIn K (.ref f_dot) = true)
    (a_is_place : PySem.W.nsIn K mainGlobals "is_place" = some (some (.ref f_is_place))) (l_is_place : K.lookup f_is_place = some ⟨oc_is_place, od_is_place, .func (PySem.W.fnOf "is_place" "is_place" (defArgs s_is_place) (defBody s_is_place) (defScope s_is_place) .none kV_is_place dc_is_place pm_is_place an_is_place cd_is_place ct_is_place), sl_is_place⟩) (c_is_place : PySem.W.codeIn K cd_is_place "is_place" = true) (k_is_place : PySem.W.keepIn K (.ref f_is_place) = true)
    (a_need_place : PySem.W.nsIn K mainGlobals "need_place" = some (some (.ref f_need_place))) (l_need_place : K.lookup f_need_place = some ⟨oc_need_place, od_need_place, .func (PySem.W.fnOf "need_place" "need_place" (defArgs s_need_place) (defBody s_need_place) (defScope s_need_place) .none kV_need_place dc_need_place pm_need_place an_need_place cd_need_place ct_need_place), sl_need_place⟩) (c_need_place : PySem.W.codeIn K cd_need_place "need_place" = true) (k_need_place : PySem.W.keepIn K (.ref f_need_place) = true)
    (a_disc_stretches : PySem.W.nsIn K mainGlobals "disc_stretches" = some (some (.ref f_disc_stretches))) (l_disc_stretches : K.lookup f_disc_stretches = some ⟨oc_disc_stretches, od_disc_stretches, .func (PySem.W.fnOf "disc_stretches" "disc_stretches" (defArgs s_disc_stretches) (defBody s_disc_stretches) (defScope s_disc_stretches) .none kV_disc_stretches dc_disc_stretches pm_disc_stretches an_disc_stretches cd_disc_stretches ct_disc_stretches), sl_disc_stretches⟩) (c_disc_stretches : PySem.W.codeIn K cd_disc_stretches "disc_stretches" = true) (k_disc_stretches : PySem.W.keepIn K (.ref f_disc_stretches) = true)
    (a_even_stretches : PySem.W.nsIn K mainGlobals "even_stretches" = some (some (.ref f_even_stretches))) (l_even_stretches : K.lookup f_even_stretches = some ⟨oc_even_stretches, od_even_stretches, .func (PySem.W.fnOf "even_stretches" "even_stretches" (defArgs s_even_stretches) (defBody s_even_stretches) (defScope s_even_stretches) .none kV_even_stretches dc_even_stretches pm_even_stretches an_even_stretches cd_even_stretches ct_even_stretches), sl_even_stretches⟩) (c_even_stretches : PySem.W.codeIn K cd_even_stretches "even_stretches" = true) (k_even_stretches : PySem.W.keepIn K (.ref f_even_stretches) = true)
    (a_plain_stretches : PySem.W.nsIn K mainGlobals "plain_stretches" = some (some (.ref f_plain_stretches))) (l_plain_stretches : K.lookup f_plain_stretches = some ⟨oc_plain_stretches, od_plain_stretches, .func (PySem.W.fnOf "plain_stretches" "plain_stretches" (defArgs s_plain_stretches) (defBody s_plain_stretches) (defScope s_plain_stretches) .none kV_plain_stretches dc_plain_stretches pm_plain_stretches an_plain_stretches cd_plain_stretches ct_plain_stretches), sl_plain_stretches⟩) (c_plain_stretches : PySem.W.codeIn K cd_plain_stretches "plain_stretches" = true) (k_plain_stretches : PySem.W.keepIn K (.ref f_plain_stretches) = true)
    (a_round_stretches : PySem.W.nsIn K mainGlobals "round_stretches" = some (some (.ref f_round_stretches))) (l_round_stretches : K.lookup f_round_stretches = some ⟨oc_round_stretches, od_round_stretches, .func (PySem.W.fnOf "round_stretches" "round_stretches" (defArgs s_round_stretches) (defBody s_round_stretches) (defScope s_round_stretches) .none kV_round_stretches dc_round_stretches pm_round_stretches an_round_stretches cd_round_stretches ct_round_stretches), sl_round_stretches⟩) (c_round_stretches : PySem.W.codeIn K cd_round_stretches "round_stretches" = true) (k_round_stretches : PySem.W.keepIn K (.ref f_round_stretches) = true)
    (a_sight_stretches : PySem.W.nsIn K mainGlobals "sight_stretches" = some (some (.ref f_sight_stretches))) (l_sight_stretches : K.lookup f_sight_stretches = some ⟨oc_sight_stretches, od_sight_stretches, .func (PySem.W.fnOf "sight_stretches" "sight_stretches" (defArgs s_sight_stretches) (defBody s_sight_stretches) (defScope s_sight_stretches) .none kV_sight_stretches dc_sight_stretches pm_sight_stretches an_sight_stretches cd_sight_stretches ct_sight_stretches), sl_sight_stretches⟩) (c_sight_stretches : PySem.W.codeIn K cd_sight_stretches "sight_stretches" = true) (k_sight_stretches : PySem.W.keepIn K (.ref f_sight_stretches) = true)
    (a_straight_stretches : PySem.W.nsIn K mainGlobals "straight_stretches" = some (some (.ref f_straight_stretches))) (l_straight_stretches : K.lookup f_straight_stretches = some ⟨oc_straight_stretches, od_straight_stretches, .func (PySem.W.fnOf "straight_stretches" "straight_stretches" (defArgs s_straight_stretches) (defBody s_straight_stretches) (defScope s_straight_stretches) .none kV_straight_stretches dc_straight_stretches pm_straight_stretches an_straight_stretches cd_straight_stretches ct_straight_stretches), sl_straight_stretches⟩) (c_straight_stretches : PySem.W.codeIn K cd_straight_stretches "straight_stretches" = true) (k_straight_stretches : PySem.W.keepIn K (.ref f_straight_stretches) = true)
    (a_is_drawn : PySem.W.nsIn K mainGlobals "is_drawn" = some (some (.ref f_is_drawn))) (l_is_drawn : K.lookup f_is_drawn = some ⟨oc_is_drawn, od_is_drawn, .func (PySem.W.fnOf "is_drawn" "is_drawn" (defArgs s_is_drawn) (defBody s_is_drawn) (defScope s_is_drawn) .none kV_is_drawn dc_is_drawn pm_is_drawn an_is_drawn cd_is_drawn ct_is_drawn), sl_is_drawn⟩) (c_is_drawn : PySem.W.codeIn K cd_is_drawn "is_drawn" = true) (k_is_drawn : PySem.W.keepIn K (.ref f_is_drawn) = true)
    (a_lowest_row : PySem.W.nsIn K mainGlobals "lowest_row" = some (some (.ref f_lowest_row))) (l_lowest_row : K.lookup f_lowest_row = some ⟨oc_lowest_row, od_lowest_row, .func (PySem.W.fnOf "lowest_row" "lowest_row" (defArgs s_lowest_row) (defBody s_lowest_row) (defScope s_lowest_row) .none kV_lowest_row dc_lowest_row pm_lowest_row an_lowest_row cd_lowest_row ct_lowest_row), sl_lowest_row⟩) (c_lowest_row : PySem.W.codeIn K cd_lowest_row "lowest_row" = true) (k_lowest_row : PySem.W.keepIn K (.ref f_lowest_row) = true)
    (a_fraction_by : PySem.W.nsIn K mainGlobals "fraction_by" = some (some (.ref f_fraction_by))) (l_fraction_by : K.lookup f_fraction_by = some ⟨oc_fraction_by, od_fraction_by, .func (PySem.W.fnOf "fraction_by" "fraction_by" (defArgs s_fraction_by) (defBody s_fraction_by) (defScope s_fraction_by) .none kV_fraction_by dc_fraction_by pm_fraction_by an_fraction_by cd_fraction_by ct_fraction_by), sl_fraction_by⟩) (c_fraction_by : PySem.W.codeIn K cd_fraction_by "fraction_by" = true) (k_fraction_by : PySem.W.keepIn K (.ref f_fraction_by) = true)
    (a_fraction_of : PySem.W.nsIn K mainGlobals "fraction_of" = some (some (.ref f_fraction_of))) (l_fraction_of : K.lookup f_fraction_of = some ⟨oc_fraction_of, od_fraction_of, .func (PySem.W.fnOf "fraction_of" "fraction_of" (defArgs s_fraction_of) (defBody s_fraction_of) (defScope s_fraction_of) .none (.ref D_fraction_of) dc_fraction_of pm_fraction_of an_fraction_of cd_fraction_of ct_fraction_of), sl_fraction_of⟩) (c_fraction_of : PySem.W.codeIn K cd_fraction_of "fraction_of" = true) (k_fraction_of : PySem.W.keepIn K (.ref f_fraction_of) = true)
    (e_fraction_of_under : PySem.W.nsIn K D_fraction_of "under" = some (some (.int 1 t_fraction_of_under)))
    (a_stretches : PySem.W.nsIn K mainGlobals "stretches" = some (some (.ref f_stretches))) (l_stretches : K.lookup f_stretches = some ⟨oc_stretches, od_stretches, .func (PySem.W.fnOf "stretches" "stretches" (defArgs s_stretches) (defBody s_stretches) (defScope s_stretches) .none kV_stretches dc_stretches pm_stretches an_stretches cd_stretches ct_stretches), sl_stretches⟩) (c_stretches : PySem.W.codeIn K cd_stretches "stretches" = true) (k_stretches : PySem.W.keepIn K (.ref f_stretches) = true)
    (a_law : PySem.W.nsIn K mainGlobals "law" = some (some (.ref f_law))) (l_law : K.lookup f_law = some ⟨oc_law, od_law, .func (PySem.W.fnOf "law" "law" (defArgs s_law) (defBody s_law) (defScope s_law) .none kV_law dc_law pm_law an_law (.ref cA_law) ct_law), sl_law⟩) (c_law : PySem.W.codeIn K (.ref cA_law) "law" = true) (k_law : PySem.W.keepIn K (.ref f_law) = true)
    (tb_law : PySem.W.tabIn K "law" = some (cA_law, TA_law)) (tk_law : K.lookup TA_law = none) (th_law : PySem.W.codeHdIn K cA_law TA_law = true) (tm_law : TA_law ∈ ts)
    (z_len : PySem.W.nsIn K mainGlobals "len" = some none)
    (z_max : PySem.W.nsIn K mainGlobals "max" = some none)
    (z_abs : PySem.W.nsIn K mainGlobals "abs" = some none)
    (z_tuple : PySem.W.nsIn K mainGlobals "tuple" = some none)
    (z_range : PySem.W.nsIn K mainGlobals "range" = some none)
    (z_int : PySem.W.nsIn K mainGlobals "int" = some none)
    (z_isinstance : PySem.W.nsIn K mainGlobals "isinstance" = some none)
    (z_str : PySem.W.nsIn K mainGlobals "str" = some none)
    (z_bool : PySem.W.nsIn K mainGlobals "bool" = some none)
    (z_all : PySem.W.nsIn K mainGlobals "all" = some none)
    (z_min : PySem.W.nsIn K mainGlobals "min" = some none)
    (z_repr : PySem.W.nsIn K mainGlobals "repr" = some none)
    (q_WAYS : PySem.W.nsIn K mainGlobals "WAYS" = some (some (.ref A_WAYS)))
    (l_WAYS : K.lookup A_WAYS = some ⟨.type "tuple", none, .seq #[.str "disc" t_WAYS_0, .str "even" t_WAYS_1, .str "plain" t_WAYS_2, .str "round" t_WAYS_3, .str "sight" t_WAYS_4, .str "straight" t_WAYS_5] ep_WAYS, sl_WAYS⟩)
    (q_STRETCHES : PySem.W.nsIn K mainGlobals "STRETCHES" = some (some (.ref A_STRETCHES))) (l_STRETCHES : K.lookup A_STRETCHES = some ⟨.type "dict", none, .dict es_STRETCHES n_STRETCHES, #[]⟩) (kl_STRETCHES : PySem.W.KeysLit w.params es_STRETCHES.toList)
    (e_STRETCHES_disc : PySem.W.nsIn K A_STRETCHES "disc" = some (some (.ref f_disc_stretches)))
    (e_STRETCHES_even : PySem.W.nsIn K A_STRETCHES "even" = some (some (.ref f_even_stretches)))
    (e_STRETCHES_plain : PySem.W.nsIn K A_STRETCHES "plain" = some (some (.ref f_plain_stretches)))
    (e_STRETCHES_round : PySem.W.nsIn K A_STRETCHES "round" = some (some (.ref f_round_stretches)))
    (e_STRETCHES_sight : PySem.W.nsIn K A_STRETCHES "sight" = some (some (.ref f_sight_stretches)))
    (e_STRETCHES_straight : PySem.W.nsIn K A_STRETCHES "straight" = some (some (.ref f_straight_stretches)))
    (w_NoPlace : PySem.W.nsIn K mainGlobals "NoPlace" = some (some (.ref C_NoPlace)))
    (w_NoDrawing : PySem.W.nsIn K mainGlobals "NoDrawing" = some (some (.ref C_NoDrawing)))
    (w_NoSpot : PySem.W.nsIn K mainGlobals "NoSpot" = some (some (.ref C_NoSpot)))
    (w_NoHalvings : PySem.W.nsIn K mainGlobals "NoHalvings" = some (some (.ref C_NoHalvings)))
    (w_NoFraction : PySem.W.nsIn K mainGlobals "NoFraction" = some (some (.ref C_NoFraction)))
    (w_NoDirection : PySem.W.nsIn K mainGlobals "NoDirection" = some (some (.ref C_NoDirection)))
    (w_NoMark : PySem.W.nsIn K mainGlobals "NoMark" = some (some (.ref C_NoMark)))
    (w_NoPair : PySem.W.nsIn K mainGlobals "NoPair" = some (some (.ref C_NoPair)))
    (w_NoTurn : PySem.W.nsIn K mainGlobals "NoTurn" = some (some (.ref C_NoTurn)))
    (w_NoCircle : PySem.W.nsIn K mainGlobals "NoCircle" = some (some (.ref C_NoCircle)))
    (w_NoSide : PySem.W.nsIn K mainGlobals "NoSide" = some (some (.ref C_NoSide)))
    (w_LeafError : PySem.W.nsIn K mainGlobals "LeafError" = some (some (.ref C_LeafError)))
    (we_NoPlace : PySem.W.excIn K C_NoPlace [.type "ValueError", .type "Exception", .type "BaseException", .type "object"] "ValueError.__new__" = true)
    (wk_NoPlace : PySem.W.keepIn K (.ref C_NoPlace) = true)
    (ws_NoPlace : PySem.W.subIn K (.ref C_NoPlace) (.type "BaseException") = some true)
    (wt_NoPlace : PySem.W.typeIn K (.ref C_NoPlace) = some (.type "type"))
    (xg_NoPlace : PySem.W.findIn K (.ref C_NoPlace) "__getattribute__" = some (some (.builtin "BaseException.__getattribute__")))
    (xk_NoPlace : PySem.W.findIn K (.ref C_NoPlace) "__getattr__" = some none)
    (xd_NoPlace : PySem.W.hasDictIn K C_NoPlace = true)
    (xa_NoPlace : PySem.W.findIn K (.ref C_NoPlace) "__class__" = some (some (.builtin "object.__class__")))
    (xn_NoPlace : PySem.W.specialIn K (.builtin "object.__class__") "__get__" = some (some (.builtin "getset_descriptor.__get__")))
    (xt_NoPlace : PySem.W.takesIn K (.builtin "object.__class__") = some true)
    (xm_NoPlace : PySem.W.mroIn K C_NoPlace (.type "object") = some true)
    (xiint_NoPlace : PySem.W.subIn K (.ref C_NoPlace) (.type "int") = some false)
    (xibool_NoPlace : PySem.W.subIn K (.ref C_NoPlace) (.type "bool") = some false)
    (xituple_NoPlace : PySem.W.subIn K (.ref C_NoPlace) (.type "tuple") = some false)
    (xilist_NoPlace : PySem.W.subIn K (.ref C_NoPlace) (.type "list") = some false)
    (xistr_NoPlace : PySem.W.subIn K (.ref C_NoPlace) (.type "str") = some false)
    (ko_NoPlace_NoHalvings : PySem.W.kitOne K (.ref C_NoPlace) (.ref C_NoHalvings) = some false)
    (ko_NoPlace_NoFraction : PySem.W.kitOne K (.ref C_NoPlace) (.ref C_NoFraction) = some false)
    (ko_NoPlace_NoDirection : PySem.W.kitOne K (.ref C_NoPlace) (.ref C_NoDirection) = some false)
    (ko_NoPlace_NoMark : PySem.W.kitOne K (.ref C_NoPlace) (.ref C_NoMark) = some false)
    (ko_NoPlace_NoPair : PySem.W.kitOne K (.ref C_NoPlace) (.ref C_NoPair) = some false)
    (ko_NoPlace_NoTurn : PySem.W.kitOne K (.ref C_NoPlace) (.ref C_NoTurn) = some false)
    (ko_NoPlace_NoDrawing : PySem.W.kitOne K (.ref C_NoPlace) (.ref C_NoDrawing) = some false)
    (ko_NoPlace_NoPlace : PySem.W.kitOne K (.ref C_NoPlace) (.ref C_NoPlace) = some true)
    (ko_NoPlace_NoSpot : PySem.W.kitOne K (.ref C_NoPlace) (.ref C_NoSpot) = some false)
    (ko_NoPlace_NoCircle : PySem.W.kitOne K (.ref C_NoPlace) (.ref C_NoCircle) = some false)
    (ko_NoPlace_NoSide : PySem.W.kitOne K (.ref C_NoPlace) (.ref C_NoSide) = some false)
    (ko_NoPlace_ValueError : PySem.W.kitOne K (.ref C_NoPlace) (.type "ValueError") = some true)
    (eo_NoPlace_LeafError : PySem.W.exmOne K (.ref C_NoPlace) (.ref C_LeafError) = some true)
    (we_NoDrawing : PySem.W.excIn K C_NoDrawing [.type "ValueError", .type "Exception", .type "BaseException", .type "object"] "ValueError.__new__" = true)
    (wk_NoDrawing : PySem.W.keepIn K (.ref C_NoDrawing) = true)
    (ws_NoDrawing : PySem.W.subIn K (.ref C_NoDrawing) (.type "BaseException") = some true)
    (wt_NoDrawing : PySem.W.typeIn K (.ref C_NoDrawing) = some (.type "type"))
    (xg_NoDrawing : PySem.W.findIn K (.ref C_NoDrawing) "__getattribute__" = some (some (.builtin "BaseException.__getattribute__")))
    (xk_NoDrawing : PySem.W.findIn K (.ref C_NoDrawing) "__getattr__" = some none)
    (xd_NoDrawing : PySem.W.hasDictIn K C_NoDrawing = true)
    (xa_NoDrawing : PySem.W.findIn K (.ref C_NoDrawing) "__class__" = some (some (.builtin "object.__class__")))
    (xn_NoDrawing : PySem.W.specialIn K (.builtin "object.__class__") "__get__" = some (some (.builtin "getset_descriptor.__get__")))
    (xt_NoDrawing : PySem.W.takesIn K (.builtin "object.__class__") = some true)
    (xm_NoDrawing : PySem.W.mroIn K C_NoDrawing (.type "object") = some true)
    (xiint_NoDrawing : PySem.W.subIn K (.ref C_NoDrawing) (.type "int") = some false)
    (xibool_NoDrawing : PySem.W.subIn K (.ref C_NoDrawing) (.type "bool") = some false)
    (xituple_NoDrawing : PySem.W.subIn K (.ref C_NoDrawing) (.type "tuple") = some false)
    (xilist_NoDrawing : PySem.W.subIn K (.ref C_NoDrawing) (.type "list") = some false)
    (xistr_NoDrawing : PySem.W.subIn K (.ref C_NoDrawing) (.type "str") = some false)
    (ko_NoDrawing_NoHalvings : PySem.W.kitOne K (.ref C_NoDrawing) (.ref C_NoHalvings) = some false)
    (ko_NoDrawing_NoFraction : PySem.W.kitOne K (.ref C_NoDrawing) (.ref C_NoFraction) = some false)
    (ko_NoDrawing_NoDirection : PySem.W.kitOne K (.ref C_NoDrawing) (.ref C_NoDirection) = some false)
    (ko_NoDrawing_NoMark : PySem.W.kitOne K (.ref C_NoDrawing) (.ref C_NoMark) = some false)
    (ko_NoDrawing_NoPair : PySem.W.kitOne K (.ref C_NoDrawing) (.ref C_NoPair) = some false)
    (ko_NoDrawing_NoTurn : PySem.W.kitOne K (.ref C_NoDrawing) (.ref C_NoTurn) = some false)
    (ko_NoDrawing_NoDrawing : PySem.W.kitOne K (.ref C_NoDrawing) (.ref C_NoDrawing) = some true)
    (ko_NoDrawing_NoPlace : PySem.W.kitOne K (.ref C_NoDrawing) (.ref C_NoPlace) = some false)
    (ko_NoDrawing_NoSpot : PySem.W.kitOne K (.ref C_NoDrawing) (.ref C_NoSpot) = some false)
    (ko_NoDrawing_NoCircle : PySem.W.kitOne K (.ref C_NoDrawing) (.ref C_NoCircle) = some false)
    (ko_NoDrawing_NoSide : PySem.W.kitOne K (.ref C_NoDrawing) (.ref C_NoSide) = some false)
    (ko_NoDrawing_ValueError : PySem.W.kitOne K (.ref C_NoDrawing) (.type "ValueError") = some true)
    (eo_NoDrawing_LeafError : PySem.W.exmOne K (.ref C_NoDrawing) (.ref C_LeafError) = some true)
    (we_NoSpot : PySem.W.excIn K C_NoSpot [.type "ValueError", .type "Exception", .type "BaseException", .type "object"] "ValueError.__new__" = true)
    (wk_NoSpot : PySem.W.keepIn K (.ref C_NoSpot) = true)
    (ws_NoSpot : PySem.W.subIn K (.ref C_NoSpot) (.type "BaseException") = some true)
    (wt_NoSpot : PySem.W.typeIn K (.ref C_NoSpot) = some (.type "type"))
    (xg_NoSpot : PySem.W.findIn K (.ref C_NoSpot) "__getattribute__" = some (some (.builtin "BaseException.__getattribute__")))
    (xk_NoSpot : PySem.W.findIn K (.ref C_NoSpot) "__getattr__" = some none)
    (xd_NoSpot : PySem.W.hasDictIn K C_NoSpot = true)
    (xa_NoSpot : PySem.W.findIn K (.ref C_NoSpot) "__class__" = some (some (.builtin "object.__class__")))
    (xn_NoSpot : PySem.W.specialIn K (.builtin "object.__class__") "__get__" = some (some (.builtin "getset_descriptor.__get__")))
    (xt_NoSpot : PySem.W.takesIn K (.builtin "object.__class__") = some true)
    (xm_NoSpot : PySem.W.mroIn K C_NoSpot (.type "object") = some true)
    (xiint_NoSpot : PySem.W.subIn K (.ref C_NoSpot) (.type "int") = some false)
    (xibool_NoSpot : PySem.W.subIn K (.ref C_NoSpot) (.type "bool") = some false)
    (xituple_NoSpot : PySem.W.subIn K (.ref C_NoSpot) (.type "tuple") = some false)
    (xilist_NoSpot : PySem.W.subIn K (.ref C_NoSpot) (.type "list") = some false)
    (xistr_NoSpot : PySem.W.subIn K (.ref C_NoSpot) (.type "str") = some false)
    (ko_NoSpot_NoHalvings : PySem.W.kitOne K (.ref C_NoSpot) (.ref C_NoHalvings) = some false)
    (ko_NoSpot_NoFraction : PySem.W.kitOne K (.ref C_NoSpot) (.ref C_NoFraction) = some false)
    (ko_NoSpot_NoDirection : PySem.W.kitOne K (.ref C_NoSpot) (.ref C_NoDirection) = some false)
    (ko_NoSpot_NoMark : PySem.W.kitOne K (.ref C_NoSpot) (.ref C_NoMark) = some false)
    (ko_NoSpot_NoPair : PySem.W.kitOne K (.ref C_NoSpot) (.ref C_NoPair) = some false)
    (ko_NoSpot_NoTurn : PySem.W.kitOne K (.ref C_NoSpot) (.ref C_NoTurn) = some false)
    (ko_NoSpot_NoDrawing : PySem.W.kitOne K (.ref C_NoSpot) (.ref C_NoDrawing) = some false)
    (ko_NoSpot_NoPlace : PySem.W.kitOne K (.ref C_NoSpot) (.ref C_NoPlace) = some false)
    (ko_NoSpot_NoSpot : PySem.W.kitOne K (.ref C_NoSpot) (.ref C_NoSpot) = some true)
    (ko_NoSpot_NoCircle : PySem.W.kitOne K (.ref C_NoSpot) (.ref C_NoCircle) = some false)
    (ko_NoSpot_NoSide : PySem.W.kitOne K (.ref C_NoSpot) (.ref C_NoSide) = some false)
    (ko_NoSpot_ValueError : PySem.W.kitOne K (.ref C_NoSpot) (.type "ValueError") = some true)
    (eo_NoSpot_LeafError : PySem.W.exmOne K (.ref C_NoSpot) (.ref C_LeafError) = some true)
    (z_ValueError : PySem.W.nsIn K mainGlobals "ValueError" = some none)
    : ∃ (fd : FuncData) (cs : List (Addr × Addr)), (∀ p ∈ cs, PySem.W.codeHdIn K p.1 p.2 = true ∧ p.2 ∈ ts ∧ K.lookup p.2 = none) ∧ (∀ (s : Shared) (v : Value), BindsTo s fd ⟨[v], []⟩ [("_law_script", v)]) ∧ ∀ base : Heap, K.In base → base.Ns mainGlobals mg → (∀ p ∈ cs, LamX.TabB base mg p.1 p.2) → ∃ cv : CV, cv.T.map (·.1) = cs.map (·.2) ∧ FnG l.prog w K mg base 9 fa fd ["_law_script"] (spOf K cv (lawFn 63)) := by
  have e := hfa.symm.trans (PySem.W.mg_of X G0 a_law)
  cases e
  refine ⟨PySem.W.fnOf "law" "law" (defArgs s_law) (defBody s_law) (defScope s_law) .none kV_law dc_law pm_law an_law (.ref cA_law) ct_law, [(cA_law, TA_law)], (all_cons ⟨th_law, tm_law, tk_law⟩ all_nil), fun s v => .of_eq rfl, fun base hb hn htb => ⟨⟨fun c => if c = 3 then .ref C_NoPlace else if c = 11 then .ref C_NoDrawing else if c = 14 then .ref C_NoSpot else .none, [(TA_law, "law.<locals>.<lambda>")], fun _ => none, [], []⟩, rfl, ?_⟩⟩
  have TB_law := htb (cA_law, TA_law) (by simp)
  have g__law_pool : FnG l.prog w K mg base 1 f__law_pool _ ["_law_script", "_law_k"] (spOf K ⟨fun c => if c = 3 then .ref C_NoPlace else if c = 11 then .ref C_NoDrawing else if c = 14 then .ref C_NoSpot else .none, [(TA_law, "law.<locals>.<lambda>")], fun _ => none, [], []⟩ (G 0)) := fnG_of (k := 0) (G := G) (f := G 0) (fun_mk (st := s__law_pool) l__law_pool c__law_pool k__law_pool) sc__law_pool rfl rfl rfl cb__law_pool v_law_pool con_nil (bn_cons (PySem.W.mg_none_of X G0 z_len) (bn_cons (PySem.W.mg_none_of X G0 z_max) bn_nil)) all_nil
  have g__law_take : FnG l.prog w K mg base 1 f__law_take _ ["_law_pool_here", "_law_many"] (spOf K ⟨fun c => if c = 3 then .ref C_NoPlace else if c = 11 then .ref C_NoDrawing else if c = 14 then .ref C_NoSpot else .none, [(TA_law, "law.<locals>.<lambda>")], fun _ => none, [], []⟩ (G 140)) := fnG_of (k := 0) (G := G) (f := G 140) (fun_mk (st := s__law_take) l__law_take c__law_take k__law_take) sc__law_take rfl rfl rfl cb__law_take v_law_take_v2 con_nil bn_nil all_nil
  have g__law_shared : FnG l.prog w K mg base 1 f__law_shared _ ["_law_one", "_law_other"] (spOf K ⟨fun c => if c = 3 then .ref C_NoPlace else if c = 11 then .ref C_NoDrawing else if c = 14 then .ref C_NoSpot else .none, [(TA_law, "law.<locals>.<lambda>")], fun _ => none, [], []⟩ (G 21)) := fnG_of (k := 0) (G := G) (f := G 21) (fun_mk (st := s__law_shared) l__law_shared c__law_shared k__law_shared) sc__law_shared rfl rfl rfl cb__law_shared v_law_shared con_nil (bn_cons (PySem.W.mg_none_of X G0 z_abs) bn_nil) all_nil
  have g__law_lowest : FnG l.prog w K mg base 2 f__law_lowest _ ["_law_row"] (spOf K ⟨fun c => if c = 3 then .ref C_NoPlace else if c = 11 then .ref C_NoDrawing else if c = 14 then .ref C_NoSpot else .none, [(TA_law, "law.<locals>.<lambda>")], fun _ => none, [], []⟩ (G 46)) := fnG_of (k := 1) (G := G) (f := G 46) (fun_mk (st := s__law_lowest) l__law_lowest c__law_lowest k__law_lowest) sc__law_lowest rfl rfl rfl cb__law_lowest v_law_lowest con_nil (bn_cons (PySem.W.mg_none_of X G0 z_tuple) bn_nil) (by refine (all_cons ?_ all_nil); exact ⟨⟨f__law_shared, _, _, 1, [], [], PySem.W.mg_of X G0 a__law_shared, k__law_shared, g__law_shared, by decide, .nil, .nil, fun s us ws hK l1 l2 => match us, ws, l1, l2 with | [_, _], [], _, _ => .of_eq rfl⟩, rfl, rfl⟩)
  have g__law_at : FnG l.prog w K mg base 3 f__law_at _ ["_law_p", "_law_q", "_law_m"] (spOf K ⟨fun c => if c = 3 then .ref C_NoPlace else if c = 11 then .ref C_NoDrawing else if c = 14 then .ref C_NoSpot else .none, [(TA_law, "law.<locals>.<lambda>")], fun _ => none, [], []⟩ (G 142)) := fnG_of (k := 2) (G := G) (f := G 142) (fun_mk (st := s__law_at) l__law_at c__law_at k__law_at) sc__law_at rfl rfl rfl cb__law_at v_law_at_v2 con_nil bn_nil (by refine (all_cons ?_ all_nil); exact ⟨⟨f__law_lowest, _, _, 2, [], [], PySem.W.mg_of X G0 a__law_lowest, k__law_lowest, g__law_lowest, by decide, .nil, .nil, fun s us ws hK l1 l2 => match us, ws, l1, l2 with | [_], [], _, _ => .of_eq rfl⟩, rfl, rfl⟩)
  have g__law_great : FnG l.prog w K mg base 2 f__law_great _ ["_law_pool_here"] (spOf K ⟨fun c => if c = 3 then .ref C_NoPlace else if c = 11 then .ref C_NoDrawing else if c = 14 then .ref C_NoSpot else .none, [(TA_law, "law.<locals>.<lambda>")], fun _ => none, [], []⟩ (G 143)) := fnG_of (k := 1) (G := G) (f := G 143) (fun_mk (st := s__law_great) l__law_great c__law_great k__law_great) sc__law_great rfl rfl rfl cb__law_great v_law_great_v2 con_nil (bn_cons (PySem.W.mg_none_of X G0 z_range) bn_nil) (by refine (all_cons ?_ all_nil); exact ⟨⟨f__law_take, _, _, 1, [], [], PySem.W.mg_of X G0 a__law_take, k__law_take, g__law_take, by decide, .nil, .nil, fun s us ws hK l1 l2 => match us, ws, l1, l2 with | [_, _], [], _, _ => .of_eq rfl⟩, rfl, rfl⟩)
  have g__law_place : FnG l.prog w K mg base 4 f__law_place _ ["_law_pool_here"] (spOf K ⟨fun c => if c = 3 then .ref C_NoPlace else if c = 11 then .ref C_NoDrawing else if c = 14 then .ref C_NoSpot else .none, [(TA_law, "law.<locals>.<lambda>")], fun _ => none, [], []⟩ (G 144)) := fnG_of (k := 3) (G := G) (f := G 144) (fun_mk (st := s__law_place) l__law_place c__law_place k__law_place) sc__law_place rfl rfl rfl cb__law_place v_law_place_v2 con_nil bn_nil (by refine (all_cons ?_ (all_cons ?_ (all_cons ?_ all_nil))); exact ⟨⟨f__law_take, _, _, 1, [], [], PySem.W.mg_of X G0 a__law_take, k__law_take, g__law_take, by decide, .nil, .nil, fun s us ws hK l1 l2 => match us, ws, l1, l2 with | [_, _], [], _, _ => .of_eq rfl⟩, rfl, rfl⟩; exact ⟨⟨f__law_at, _, _, 3, [], [], PySem.W.mg_of X G0 a__law_at, k__law_at, g__law_at, by decide, .nil, .nil, fun s us ws hK l1 l2 => match us, ws, l1, l2 with | [_, _, _], [], _, _ => .of_eq rfl⟩, rfl, rfl⟩; exact ⟨⟨f__law_great, _, _, 2, [], [], PySem.W.mg_of X G0 a__law_great, k__law_great, g__law_great, by decide, .nil, .nil, fun s us ws hK l1 l2 => match us, ws, l1, l2 with | [_], [], _, _ => .of_eq rfl⟩, rfl, rfl⟩)
  have g__law_neighbours : FnG l.prog w K mg base 2 f__law_neighbours _ ["_law_pool_here"] (spOf K ⟨fun c => if c = 3 then .ref C_NoPlace else if c = 11 then .ref C_NoDrawing else if c = 14 then .ref C_NoSpot else .none, [(TA_law, "law.<locals>.<lambda>")], fun _ => none, [], []⟩ (G 403)) := fnG_of (k := 1) (G := G) (f := G 403) (fun_mk (st := s__law_neighbours) l__law_neighbours c__law_neighbours k__law_neighbours) sc__law_neighbours rfl rfl rfl cb__law_neighbours v_law_neighbours con_nil (bn_cons (PySem.W.mg_none_of X G0 z_range) bn_nil) (by refine (all_cons ?_ all_nil); exact ⟨⟨f__law_take, _, _, 1, [], [], PySem.W.mg_of X G0 a__law_take, k__law_take, g__law_take, by decide, .nil, .nil, fun s us ws hK l1 l2 => match us, ws, l1, l2 with | [_, _], [], _, _ => .of_eq rfl⟩, rfl, rfl⟩)
  have g__law_hard_place : FnG l.prog w K mg base 5 f__law_hard_place _ ["_law_pool_here"] (spOf K ⟨fun c => if c = 3 then .ref C_NoPlace else if c = 11 then .ref C_NoDrawing else if c = 14 then .ref C_NoSpot else .none, [(TA_law, "law.<locals>.<lambda>")], fun _ => none, [], []⟩ (G 404)) := fnG_of (k := 4) (G := G) (f := G 404) (fun_mk (st := s__law_hard_place) l__law_hard_place c__law_hard_place k__law_hard_place) sc__law_hard_place rfl rfl rfl cb__law_hard_place v_law_hard_place con_nil (bn_cons (PySem.W.mg_none_of X G0 z_int) bn_nil) (by refine (all_cons ?_ (all_cons ?_ (all_cons ?_ (all_cons ?_ (all_cons ?_ all_nil))))); exact ⟨⟨f__law_take, _, _, 1, [], [], PySem.W.mg_of X G0 a__law_take, k__law_take, g__law_take, by decide, .nil, .nil, fun s us ws hK l1 l2 => match us, ws, l1, l2 with | [_, _], [], _, _ => .of_eq rfl⟩, rfl, rfl⟩; exact ⟨⟨f__law_at, _, _, 3, [], [], PySem.W.mg_of X G0 a__law_at, k__law_at, g__law_at, by decide, .nil, .nil, fun s us ws hK l1 l2 => match us, ws, l1, l2 with | [_, _, _], [], _, _ => .of_eq rfl⟩, rfl, rfl⟩; exact ⟨⟨f__law_place, _, _, 4, [], [], PySem.W.mg_of X G0 a__law_place, k__law_place, g__law_place, by decide, .nil, .nil, fun s us ws hK l1 l2 => match us, ws, l1, l2 with | [_], [], _, _ => .of_eq rfl⟩, rfl, rfl⟩; exact ⟨⟨f__law_lowest, _, _, 2, [], [], PySem.W.mg_of X G0 a__law_lowest, k__law_lowest, g__law_lowest, by decide, .nil, .nil, fun s us ws hK l1 l2 => match us, ws, l1, l2 with | [_], [], _, _ => .of_eq rfl⟩, rfl, rfl⟩; exact ⟨⟨f__law_neighbours, _, _, 2, [], [], PySem.W.mg_of X G0 a__law_neighbours, k__law_neighbours, g__law_neighbours, by decide, .nil, .nil, fun s us ws hK l1 l2 => match us, ws, l1, l2 with | [_], [], _, _ => .of_eq rfl⟩, rfl, rfl⟩)
  have g__law_ways : FnG l.prog w K mg base 1 f__law_ways _ [] (spOf K ⟨fun c => if c = 3 then .ref C_NoPlace else if c = 11 then .ref C_NoDrawing else if c = 14 then .ref C_NoSpot else .none, [(TA_law, "law.<locals>.<lambda>")], fun _ => none, [], []⟩ (G 225)) := fnG_of (k := 0) (G := G) (f := G 225) (fun_mk (st := s__law_ways) l__law_ways c__law_ways k__law_ways) sc__law_ways rfl rfl rfl cb__law_ways v_law_ways_v2 con_nil bn_nil all_nil
  have g__law_is_drawn : FnG l.prog w K mg base 1 f__law_is_drawn _ ["_law_way", "_law_here"] (spOf K ⟨fun c => if c = 3 then .ref C_NoPlace else if c = 11 then .ref C_NoDrawing else if c = 14 then .ref C_NoSpot else .none, [(TA_law, "law.<locals>.<lambda>")], fun _ => none, [], []⟩ (G 236)) := fnG_of (k := 0) (G := G) (f := G 236) (fun_mk (st := s__law_is_drawn) l__law_is_drawn c__law_is_drawn k__law_is_drawn) sc__law_is_drawn rfl rfl rfl cb__law_is_drawn v_law_is_drawn con_nil bn_nil all_nil
  have gL__law_met_kept : ∀ k, 0 ≤ k → FnL l.prog w K mg base ⟨fun c => if c = 3 then .ref C_NoPlace else if c = 11 then .ref C_NoDrawing else if c = 14 then .ref C_NoSpot else .none, [(TA_law, "law.<locals>.<lambda>")], fun _ => none, [], []⟩ k f__law_met_kept (G 531) := fun k hk => fnL_of (k := k) (G := G) (f := G 531) (a := "_law_call") (fun_mk (st := s__law_met_kept) l__law_met_kept c__law_met_kept k__law_met_kept) sc__law_met_kept rfl rfl rfl cb__law_met_kept v_law_met_kept_v5 rfl rfl (by decide +kernel) (fun s u _ => .of_eq rfl) con_nil (bn_cons (PySem.W.mg_none_of X G0 z_isinstance) bn_nil) all_nil (by decide) (isx := (lk_cons ⟨⟨.ref C_NoHalvings, .ref C_NoHalvings, fun v r => by cases r; rfl, .inl ⟨_, rfl, PySem.W.mg_of X G0 w_NoHalvings⟩, (lk_cons ⟨C_NoPlace, (clsN_of w_NoPlace ⟨xg_NoPlace, xk_NoPlace, ws_NoPlace, xd_NoPlace, xa_NoPlace, xn_NoPlace, xt_NoPlace, xm_NoPlace⟩ xiint_NoPlace xibool_NoPlace xituple_NoPlace xilist_NoPlace xistr_NoPlace), ⟨xg_NoPlace, xk_NoPlace, ws_NoPlace, xd_NoPlace, xa_NoPlace, xn_NoPlace, xt_NoPlace, xm_NoPlace⟩, ko_NoPlace_NoHalvings⟩ (lk_cons ⟨C_NoDrawing, (clsN_of w_NoDrawing ⟨xg_NoDrawing, xk_NoDrawing, ws_NoDrawing, xd_NoDrawing, xa_NoDrawing, xn_NoDrawing, xt_NoDrawing, xm_NoDrawing⟩ xiint_NoDrawing xibool_NoDrawing xituple_NoDrawing xilist_NoDrawing xistr_NoDrawing), ⟨xg_NoDrawing, xk_NoDrawing, ws_NoDrawing, xd_NoDrawing, xa_NoDrawing, xn_NoDrawing, xt_NoDrawing, xm_NoDrawing⟩, ko_NoDrawing_NoHalvings⟩ (lk_cons ⟨C_NoSpot, (clsN_of w_NoSpot ⟨xg_NoSpot, xk_NoSpot, ws_NoSpot, xd_NoSpot, xa_NoSpot, xn_NoSpot, xt_NoSpot, xm_NoSpot⟩ xiint_NoSpot xibool_NoSpot xituple_NoSpot xilist_NoSpot xistr_NoSpot), ⟨xg_NoSpot, xk_NoSpot, ws_NoSpot, xd_NoSpot, xa_NoSpot, xn_NoSpot, xt_NoSpot, xm_NoSpot⟩, ko_NoSpot_NoHalvings⟩ lk_nil)))⟩⟩ (lk_cons ⟨⟨.ref C_NoFraction, .ref C_NoFraction, fun v r => by cases r; rfl, .inl ⟨_, rfl, PySem.W.mg_of X G0 w_NoFraction⟩, (lk_cons ⟨C_NoPlace, (clsN_of w_NoPlace ⟨xg_NoPlace, xk_NoPlace, ws_NoPlace, xd_NoPlace, xa_NoPlace, xn_NoPlace, xt_NoPlace, xm_NoPlace⟩ xiint_NoPlace xibool_NoPlace xituple_NoPlace xilist_NoPlace xistr_NoPlace), ⟨xg_NoPlace, xk_NoPlace, ws_NoPlace, xd_NoPlace, xa_NoPlace, xn_NoPlace, xt_NoPlace, xm_NoPlace⟩, ko_NoPlace_NoFraction⟩ (lk_cons ⟨C_NoDrawing, (clsN_of w_NoDrawing ⟨xg_NoDrawing, xk_NoDrawing, ws_NoDrawing, xd_NoDrawing, xa_NoDrawing, xn_NoDrawing, xt_NoDrawing, xm_NoDrawing⟩ xiint_NoDrawing xibool_NoDrawing xituple_NoDrawing xilist_NoDrawing xistr_NoDrawing), ⟨xg_NoDrawing, xk_NoDrawing, ws_NoDrawing, xd_NoDrawing, xa_NoDrawing, xn_NoDrawing, xt_NoDrawing, xm_NoDrawing⟩, ko_NoDrawing_NoFraction⟩ (lk_cons ⟨C_NoSpot, (clsN_of w_NoSpot ⟨xg_NoSpot, xk_NoSpot, ws_NoSpot, xd_NoSpot, xa_NoSpot, xn_NoSpot, xt_NoSpot, xm_NoSpot⟩ xiint_NoSpot xibool_NoSpot xituple_NoSpot xilist_NoSpot xistr_NoSpot), ⟨xg_NoSpot, xk_NoSpot, ws_NoSpot, xd_NoSpot, xa_NoSpot, xn_NoSpot, xt_NoSpot, xm_NoSpot⟩, ko_NoSpot_NoFraction⟩ lk_nil)))⟩⟩ (lk_cons ⟨⟨.ref C_NoDirection, .ref C_NoDirection, fun v r => by cases r; rfl, .inl ⟨_, rfl, PySem.W.mg_of X G0 w_NoDirection⟩, (lk_cons ⟨C_NoPlace, (clsN_of w_NoPlace ⟨xg_NoPlace, xk_NoPlace, ws_NoPlace, xd_NoPlace, xa_NoPlace, xn_NoPlace, xt_NoPlace, xm_NoPlace⟩ xiint_NoPlace xibool_NoPlace xituple_NoPlace xilist_NoPlace xistr_NoPlace), ⟨xg_NoPlace, xk_NoPlace, ws_NoPlace, xd_NoPlace, xa_NoPlace, xn_NoPlace, xt_NoPlace, xm_NoPlace⟩, ko_NoPlace_NoDirection⟩ (lk_cons ⟨C_NoDrawing, (clsN_of w_NoDrawing ⟨xg_NoDrawing, xk_NoDrawing, ws_NoDrawing, xd_NoDrawing, xa_NoDrawing, xn_NoDrawing, xt_NoDrawing, xm_NoDrawing⟩ xiint_NoDrawing xibool_NoDrawing xituple_NoDrawing xilist_NoDrawing xistr_NoDrawing), ⟨xg_NoDrawing, xk_NoDrawing, ws_NoDrawing, xd_NoDrawing, xa_NoDrawing, xn_NoDrawing, xt_NoDrawing, xm_NoDrawing⟩, ko_NoDrawing_NoDirection⟩ (lk_cons ⟨C_NoSpot, (clsN_of w_NoSpot ⟨xg_NoSpot, xk_NoSpot, ws_NoSpot, xd_NoSpot, xa_NoSpot, xn_NoSpot, xt_NoSpot, xm_NoSpot⟩ xiint_NoSpot xibool_NoSpot xituple_NoSpot xilist_NoSpot xistr_NoSpot), ⟨xg_NoSpot, xk_NoSpot, ws_NoSpot, xd_NoSpot, xa_NoSpot, xn_NoSpot, xt_NoSpot, xm_NoSpot⟩, ko_NoSpot_NoDirection⟩ lk_nil)))⟩⟩ (lk_cons ⟨⟨.ref C_NoMark, .ref C_NoMark, fun v r => by cases r; rfl, .inl ⟨_, rfl, PySem.W.mg_of X G0 w_NoMark⟩, (lk_cons ⟨C_NoPlace, (clsN_of w_NoPlace ⟨xg_NoPlace, xk_NoPlace, ws_NoPlace, xd_NoPlace, xa_NoPlace, xn_NoPlace, xt_NoPlace, xm_NoPlace⟩ xiint_NoPlace xibool_NoPlace xituple_NoPlace xilist_NoPlace xistr_NoPlace), ⟨xg_NoPlace, xk_NoPlace, ws_NoPlace, xd_NoPlace, xa_NoPlace, xn_NoPlace, xt_NoPlace, xm_NoPlace⟩, ko_NoPlace_NoMark⟩ (lk_cons ⟨C_NoDrawing, (clsN_of w_NoDrawing ⟨xg_NoDrawing, xk_NoDrawing, ws_NoDrawing, xd_NoDrawing, xa_NoDrawing, xn_NoDrawing, xt_NoDrawing, xm_NoDrawing⟩ xiint_NoDrawing xibool_NoDrawing xituple_NoDrawing xilist_NoDrawing xistr_NoDrawing), ⟨xg_NoDrawing, xk_NoDrawing, ws_NoDrawing, xd_NoDrawing, xa_NoDrawing, xn_NoDrawing, xt_NoDrawing, xm_NoDrawing⟩, ko_NoDrawing_NoMark⟩ (lk_cons ⟨C_NoSpot, (clsN_of w_NoSpot ⟨xg_NoSpot, xk_NoSpot, ws_NoSpot, xd_NoSpot, xa_NoSpot, xn_NoSpot, xt_NoSpot, xm_NoSpot⟩ xiint_NoSpot xibool_NoSpot xituple_NoSpot xilist_NoSpot xistr_NoSpot), ⟨xg_NoSpot, xk_NoSpot, ws_NoSpot, xd_NoSpot, xa_NoSpot, xn_NoSpot, xt_NoSpot, xm_NoSpot⟩, ko_NoSpot_NoMark⟩ lk_nil)))⟩⟩ (lk_cons ⟨⟨.ref C_NoPair, .ref C_NoPair, fun v r => by cases r; rfl, .inl ⟨_, rfl, PySem.W.mg_of X G0 w_NoPair⟩, (lk_cons ⟨C_NoPlace, (clsN_of w_NoPlace ⟨xg_NoPlace, xk_NoPlace, ws_NoPlace, xd_NoPlace, xa_NoPlace, xn_NoPlace, xt_NoPlace, xm_NoPlace⟩ xiint_NoPlace xibool_NoPlace xituple_NoPlace xilist_NoPlace xistr_NoPlace), ⟨xg_NoPlace, xk_NoPlace, ws_NoPlace, xd_NoPlace, xa_NoPlace, xn_NoPlace, xt_NoPlace, xm_NoPlace⟩, ko_NoPlace_NoPair⟩ (lk_cons ⟨C_NoDrawing, (clsN_of w_NoDrawing ⟨xg_NoDrawing, xk_NoDrawing, ws_NoDrawing, xd_NoDrawing, xa_NoDrawing, xn_NoDrawing, xt_NoDrawing, xm_NoDrawing⟩ xiint_NoDrawing xibool_NoDrawing xituple_NoDrawing xilist_NoDrawing xistr_NoDrawing), ⟨xg_NoDrawing, xk_NoDrawing, ws_NoDrawing, xd_NoDrawing, xa_NoDrawing, xn_NoDrawing, xt_NoDrawing, xm_NoDrawing⟩, ko_NoDrawing_NoPair⟩ (lk_cons ⟨C_NoSpot, (clsN_of w_NoSpot ⟨xg_NoSpot, xk_NoSpot, ws_NoSpot, xd_NoSpot, xa_NoSpot, xn_NoSpot, xt_NoSpot, xm_NoSpot⟩ xiint_NoSpot xibool_NoSpot xituple_NoSpot xilist_NoSpot xistr_NoSpot), ⟨xg_NoSpot, xk_NoSpot, ws_NoSpot, xd_NoSpot, xa_NoSpot, xn_NoSpot, xt_NoSpot, xm_NoSpot⟩, ko_NoSpot_NoPair⟩ lk_nil)))⟩⟩ (lk_cons ⟨⟨.ref C_NoTurn, .ref C_NoTurn, fun v r => by cases r; rfl, .inl ⟨_, rfl, PySem.W.mg_of X G0 w_NoTurn⟩, (lk_cons ⟨C_NoPlace, (clsN_of w_NoPlace ⟨xg_NoPlace, xk_NoPlace, ws_NoPlace, xd_NoPlace, xa_NoPlace, xn_NoPlace, xt_NoPlace, xm_NoPlace⟩ xiint_NoPlace xibool_NoPlace xituple_NoPlace xilist_NoPlace xistr_NoPlace), ⟨xg_NoPlace, xk_NoPlace, ws_NoPlace, xd_NoPlace, xa_NoPlace, xn_NoPlace, xt_NoPlace, xm_NoPlace⟩, ko_NoPlace_NoTurn⟩ (lk_cons ⟨C_NoDrawing, (clsN_of w_NoDrawing ⟨xg_NoDrawing, xk_NoDrawing, ws_NoDrawing, xd_NoDrawing, xa_NoDrawing, xn_NoDrawing, xt_NoDrawing, xm_NoDrawing⟩ xiint_NoDrawing xibool_NoDrawing xituple_NoDrawing xilist_NoDrawing xistr_NoDrawing), ⟨xg_NoDrawing, xk_NoDrawing, ws_NoDrawing, xd_NoDrawing, xa_NoDrawing, xn_NoDrawing, xt_NoDrawing, xm_NoDrawing⟩, ko_NoDrawing_NoTurn⟩ (lk_cons ⟨C_NoSpot, (clsN_of w_NoSpot ⟨xg_NoSpot, xk_NoSpot, ws_NoSpot, xd_NoSpot, xa_NoSpot, xn_NoSpot, xt_NoSpot, xm_NoSpot⟩ xiint_NoSpot xibool_NoSpot xituple_NoSpot xilist_NoSpot xistr_NoSpot), ⟨xg_NoSpot, xk_NoSpot, ws_NoSpot, xd_NoSpot, xa_NoSpot, xn_NoSpot, xt_NoSpot, xm_NoSpot⟩, ko_NoSpot_NoTurn⟩ lk_nil)))⟩⟩ (lk_cons ⟨⟨.ref C_NoDrawing, .ref C_NoDrawing, fun v r => by cases r; rfl, .inl ⟨_, rfl, PySem.W.mg_of X G0 w_NoDrawing⟩, (lk_cons ⟨C_NoPlace, (clsN_of w_NoPlace ⟨xg_NoPlace, xk_NoPlace, ws_NoPlace, xd_NoPlace, xa_NoPlace, xn_NoPlace, xt_NoPlace, xm_NoPlace⟩ xiint_NoPlace xibool_NoPlace xituple_NoPlace xilist_NoPlace xistr_NoPlace), ⟨xg_NoPlace, xk_NoPlace, ws_NoPlace, xd_NoPlace, xa_NoPlace, xn_NoPlace, xt_NoPlace, xm_NoPlace⟩, ko_NoPlace_NoDrawing⟩ (lk_cons ⟨C_NoDrawing, (clsN_of w_NoDrawing ⟨xg_NoDrawing, xk_NoDrawing, ws_NoDrawing, xd_NoDrawing, xa_NoDrawing, xn_NoDrawing, xt_NoDrawing, xm_NoDrawing⟩ xiint_NoDrawing xibool_NoDrawing xituple_NoDrawing xilist_NoDrawing xistr_NoDrawing), ⟨xg_NoDrawing, xk_NoDrawing, ws_NoDrawing, xd_NoDrawing, xa_NoDrawing, xn_NoDrawing, xt_NoDrawing, xm_NoDrawing⟩, ko_NoDrawing_NoDrawing⟩ (lk_cons ⟨C_NoSpot, (clsN_of w_NoSpot ⟨xg_NoSpot, xk_NoSpot, ws_NoSpot, xd_NoSpot, xa_NoSpot, xn_NoSpot, xt_NoSpot, xm_NoSpot⟩ xiint_NoSpot xibool_NoSpot xituple_NoSpot xilist_NoSpot xistr_NoSpot), ⟨xg_NoSpot, xk_NoSpot, ws_NoSpot, xd_NoSpot, xa_NoSpot, xn_NoSpot, xt_NoSpot, xm_NoSpot⟩, ko_NoSpot_NoDrawing⟩ lk_nil)))⟩⟩ (lk_cons ⟨⟨.ref C_NoPlace, .ref C_NoPlace, fun v r => by cases r; rfl, .inl ⟨_, rfl, PySem.W.mg_of X G0 w_NoPlace⟩, (lk_cons ⟨C_NoPlace, (clsN_of w_NoPlace ⟨xg_NoPlace, xk_NoPlace, ws_NoPlace, xd_NoPlace, xa_NoPlace, xn_NoPlace, xt_NoPlace, xm_NoPlace⟩ xiint_NoPlace xibool_NoPlace xituple_NoPlace xilist_NoPlace xistr_NoPlace), ⟨xg_NoPlace, xk_NoPlace, ws_NoPlace, xd_NoPlace, xa_NoPlace, xn_NoPlace, xt_NoPlace, xm_NoPlace⟩, ko_NoPlace_NoPlace⟩ (lk_cons ⟨C_NoDrawing, (clsN_of w_NoDrawing ⟨xg_NoDrawing, xk_NoDrawing, ws_NoDrawing, xd_NoDrawing, xa_NoDrawing, xn_NoDrawing, xt_NoDrawing, xm_NoDrawing⟩ xiint_NoDrawing xibool_NoDrawing xituple_NoDrawing xilist_NoDrawing xistr_NoDrawing), ⟨xg_NoDrawing, xk_NoDrawing, ws_NoDrawing, xd_NoDrawing, xa_NoDrawing, xn_NoDrawing, xt_NoDrawing, xm_NoDrawing⟩, ko_NoDrawing_NoPlace⟩ (lk_cons ⟨C_NoSpot, (clsN_of w_NoSpot ⟨xg_NoSpot, xk_NoSpot, ws_NoSpot, xd_NoSpot, xa_NoSpot, xn_NoSpot, xt_NoSpot, xm_NoSpot⟩ xiint_NoSpot xibool_NoSpot xituple_NoSpot xilist_NoSpot xistr_NoSpot), ⟨xg_NoSpot, xk_NoSpot, ws_NoSpot, xd_NoSpot, xa_NoSpot, xn_NoSpot, xt_NoSpot, xm_NoSpot⟩, ko_NoSpot_NoPlace⟩ lk_nil)))⟩⟩ (lk_cons ⟨⟨.ref C_NoSpot, .ref C_NoSpot, fun v r => by cases r; rfl, .inl ⟨_, rfl, PySem.W.mg_of X G0 w_NoSpot⟩, (lk_cons ⟨C_NoPlace, (clsN_of w_NoPlace ⟨xg_NoPlace, xk_NoPlace, ws_NoPlace, xd_NoPlace, xa_NoPlace, xn_NoPlace, xt_NoPlace, xm_NoPlace⟩ xiint_NoPlace xibool_NoPlace xituple_NoPlace xilist_NoPlace xistr_NoPlace), ⟨xg_NoPlace, xk_NoPlace, ws_NoPlace, xd_NoPlace, xa_NoPlace, xn_NoPlace, xt_NoPlace, xm_NoPlace⟩, ko_NoPlace_NoSpot⟩ (lk_cons ⟨C_NoDrawing, (clsN_of w_NoDrawing ⟨xg_NoDrawing, xk_NoDrawing, ws_NoDrawing, xd_NoDrawing, xa_NoDrawing, xn_NoDrawing, xt_NoDrawing, xm_NoDrawing⟩ xiint_NoDrawing xibool_NoDrawing xituple_NoDrawing xilist_NoDrawing xistr_NoDrawing), ⟨xg_NoDrawing, xk_NoDrawing, ws_NoDrawing, xd_NoDrawing, xa_NoDrawing, xn_NoDrawing, xt_NoDrawing, xm_NoDrawing⟩, ko_NoDrawing_NoSpot⟩ (lk_cons ⟨C_NoSpot, (clsN_of w_NoSpot ⟨xg_NoSpot, xk_NoSpot, ws_NoSpot, xd_NoSpot, xa_NoSpot, xn_NoSpot, xt_NoSpot, xm_NoSpot⟩ xiint_NoSpot xibool_NoSpot xituple_NoSpot xilist_NoSpot xistr_NoSpot), ⟨xg_NoSpot, xk_NoSpot, ws_NoSpot, xd_NoSpot, xa_NoSpot, xn_NoSpot, xt_NoSpot, xm_NoSpot⟩, ko_NoSpot_NoSpot⟩ lk_nil)))⟩⟩ (lk_cons ⟨⟨.ref C_NoCircle, .ref C_NoCircle, fun v r => by cases r; rfl, .inl ⟨_, rfl, PySem.W.mg_of X G0 w_NoCircle⟩, (lk_cons ⟨C_NoPlace, (clsN_of w_NoPlace ⟨xg_NoPlace, xk_NoPlace, ws_NoPlace, xd_NoPlace, xa_NoPlace, xn_NoPlace, xt_NoPlace, xm_NoPlace⟩ xiint_NoPlace xibool_NoPlace xituple_NoPlace xilist_NoPlace xistr_NoPlace), ⟨xg_NoPlace, xk_NoPlace, ws_NoPlace, xd_NoPlace, xa_NoPlace, xn_NoPlace, xt_NoPlace, xm_NoPlace⟩, ko_NoPlace_NoCircle⟩ (lk_cons ⟨C_NoDrawing, (clsN_of w_NoDrawing ⟨xg_NoDrawing, xk_NoDrawing, ws_NoDrawing, xd_NoDrawing, xa_NoDrawing, xn_NoDrawing, xt_NoDrawing, xm_NoDrawing⟩ xiint_NoDrawing xibool_NoDrawing xituple_NoDrawing xilist_NoDrawing xistr_NoDrawing), ⟨xg_NoDrawing, xk_NoDrawing, ws_NoDrawing, xd_NoDrawing, xa_NoDrawing, xn_NoDrawing, xt_NoDrawing, xm_NoDrawing⟩, ko_NoDrawing_NoCircle⟩ (lk_cons ⟨C_NoSpot, (clsN_of w_NoSpot ⟨xg_NoSpot, xk_NoSpot, ws_NoSpot, xd_NoSpot, xa_NoSpot, xn_NoSpot, xt_NoSpot, xm_NoSpot⟩ xiint_NoSpot xibool_NoSpot xituple_NoSpot xilist_NoSpot xistr_NoSpot), ⟨xg_NoSpot, xk_NoSpot, ws_NoSpot, xd_NoSpot, xa_NoSpot, xn_NoSpot, xt_NoSpot, xm_NoSpot⟩, ko_NoSpot_NoCircle⟩ lk_nil)))⟩⟩ (lk_cons ⟨⟨.ref C_NoSide, .ref C_NoSide, fun v r => by cases r; rfl, .inl ⟨_, rfl, PySem.W.mg_of X G0 w_NoSide⟩, (lk_cons ⟨C_NoPlace, (clsN_of w_NoPlace ⟨xg_NoPlace, xk_NoPlace, ws_NoPlace, xd_NoPlace, xa_NoPlace, xn_NoPlace, xt_NoPlace, xm_NoPlace⟩ xiint_NoPlace xibool_NoPlace xituple_NoPlace xilist_NoPlace xistr_NoPlace), ⟨xg_NoPlace, xk_NoPlace, ws_NoPlace, xd_NoPlace, xa_NoPlace, xn_NoPlace, xt_NoPlace, xm_NoPlace⟩, ko_NoPlace_NoSide⟩ (lk_cons ⟨C_NoDrawing, (clsN_of w_NoDrawing ⟨xg_NoDrawing, xk_NoDrawing, ws_NoDrawing, xd_NoDrawing, xa_NoDrawing, xn_NoDrawing, xt_NoDrawing, xm_NoDrawing⟩ xiint_NoDrawing xibool_NoDrawing xituple_NoDrawing xilist_NoDrawing xistr_NoDrawing), ⟨xg_NoDrawing, xk_NoDrawing, ws_NoDrawing, xd_NoDrawing, xa_NoDrawing, xn_NoDrawing, xt_NoDrawing, xm_NoDrawing⟩, ko_NoDrawing_NoSide⟩ (lk_cons ⟨C_NoSpot, (clsN_of w_NoSpot ⟨xg_NoSpot, xk_NoSpot, ws_NoSpot, xd_NoSpot, xa_NoSpot, xn_NoSpot, xt_NoSpot, xm_NoSpot⟩ xiint_NoSpot xibool_NoSpot xituple_NoSpot xilist_NoSpot xistr_NoSpot), ⟨xg_NoSpot, xk_NoSpot, ws_NoSpot, xd_NoSpot, xa_NoSpot, xn_NoSpot, xt_NoSpot, xm_NoSpot⟩, ko_NoSpot_NoSide⟩ lk_nil)))⟩⟩ (lk_cons ⟨⟨.ty "ValueError", .type "ValueError", fun v r => by cases r; rfl, .inr ⟨_, rfl, PySem.W.mg_none_of X G0 z_ValueError, by decide +kernel, by decide⟩, (lk_cons ⟨C_NoPlace, (clsN_of w_NoPlace ⟨xg_NoPlace, xk_NoPlace, ws_NoPlace, xd_NoPlace, xa_NoPlace, xn_NoPlace, xt_NoPlace, xm_NoPlace⟩ xiint_NoPlace xibool_NoPlace xituple_NoPlace xilist_NoPlace xistr_NoPlace), ⟨xg_NoPlace, xk_NoPlace, ws_NoPlace, xd_NoPlace, xa_NoPlace, xn_NoPlace, xt_NoPlace, xm_NoPlace⟩, ko_NoPlace_ValueError⟩ (lk_cons ⟨C_NoDrawing, (clsN_of w_NoDrawing ⟨xg_NoDrawing, xk_NoDrawing, ws_NoDrawing, xd_NoDrawing, xa_NoDrawing, xn_NoDrawing, xt_NoDrawing, xm_NoDrawing⟩ xiint_NoDrawing xibool_NoDrawing xituple_NoDrawing xilist_NoDrawing xistr_NoDrawing), ⟨xg_NoDrawing, xk_NoDrawing, ws_NoDrawing, xd_NoDrawing, xa_NoDrawing, xn_NoDrawing, xt_NoDrawing, xm_NoDrawing⟩, ko_NoDrawing_ValueError⟩ (lk_cons ⟨C_NoSpot, (clsN_of w_NoSpot ⟨xg_NoSpot, xk_NoSpot, ws_NoSpot, xd_NoSpot, xa_NoSpot, xn_NoSpot, xt_NoSpot, xm_NoSpot⟩ xiint_NoSpot xibool_NoSpot xituple_NoSpot xilist_NoSpot xistr_NoSpot), ⟨xg_NoSpot, xk_NoSpot, ws_NoSpot, xd_NoSpot, xa_NoSpot, xn_NoSpot, xt_NoSpot, xm_NoSpot⟩, ko_NoSpot_ValueError⟩ lk_nil)))⟩⟩ lk_nil))))))))))))) (exm := (lk_cons ⟨⟨_, .inl (PySem.W.mg_of X G0 w_LeafError), (lk_cons ⟨C_NoPlace, rfl, eo_NoPlace_LeafError, fun m h => by cases h; exact (clsN_of w_NoPlace ⟨xg_NoPlace, xk_NoPlace, ws_NoPlace, xd_NoPlace, xa_NoPlace, xn_NoPlace, xt_NoPlace, xm_NoPlace⟩ xiint_NoPlace xibool_NoPlace xituple_NoPlace xilist_NoPlace xistr_NoPlace)⟩ (lk_cons ⟨C_NoDrawing, rfl, eo_NoDrawing_LeafError, fun m h => by cases h; exact (clsN_of w_NoDrawing ⟨xg_NoDrawing, xk_NoDrawing, ws_NoDrawing, xd_NoDrawing, xa_NoDrawing, xn_NoDrawing, xt_NoDrawing, xm_NoDrawing⟩ xiint_NoDrawing xibool_NoDrawing xituple_NoDrawing xilist_NoDrawing xistr_NoDrawing)⟩ (lk_cons ⟨C_NoSpot, rfl, eo_NoSpot_LeafError, fun m h => by cases h; exact (clsN_of w_NoSpot ⟨xg_NoSpot, xk_NoSpot, ws_NoSpot, xd_NoSpot, xa_NoSpot, xn_NoSpot, xt_NoSpot, xm_NoSpot⟩ xiint_NoSpot xibool_NoSpot xituple_NoSpot xilist_NoSpot xistr_NoSpot)⟩ lk_nil)))⟩⟩ lk_nil))
  have gLP__law_met_kept : ∀ k, 0 ≤ k → FnLP l.prog w K mg base ⟨fun c => if c = 3 then .ref C_NoPlace else if c = 11 then .ref C_NoDrawing else if c = 14 then .ref C_NoSpot else .none, [(TA_law, "law.<locals>.<lambda>")], fun _ => none, [], []⟩ k f__law_met_kept (G 531) := fun k hk => fnLP_of (k := k) (G := G) (f := G 531) (a := "_law_call") (gn := "#") (fun_mk (st := s__law_met_kept) l__law_met_kept c__law_met_kept k__law_met_kept) sc__law_met_keptP rfl rfl rfl cb__law_met_keptP v_law_met_kept_v5P (by decide) rfl (by decide +kernel) (by decide +kernel) rfl rfl (by decide +kernel) (fun s u _ => .of_eq rfl) con_nil (bn_cons (PySem.W.mg_none_of X G0 z_isinstance) bn_nil) all_nil (by decide) (isx := (lk_cons ⟨⟨.ref C_NoHalvings, .ref C_NoHalvings, fun v r => by cases r; rfl, .inl ⟨_, rfl, PySem.W.mg_of X G0 w_NoHalvings⟩, (lk_cons ⟨C_NoPlace, (clsN_of w_NoPlace ⟨xg_NoPlace, xk_NoPlace, ws_NoPlace, xd_NoPlace, xa_NoPlace, xn_NoPlace, xt_NoPlace, xm_NoPlace⟩ xiint_NoPlace xibool_NoPlace xituple_NoPlace xilist_NoPlace xistr_NoPlace), ⟨xg_NoPlace, xk_NoPlace, ws_NoPlace, xd_NoPlace, xa_NoPlace, xn_NoPlace, xt_NoPlace, xm_NoPlace⟩, ko_NoPlace_NoHalvings⟩ (lk_cons ⟨C_NoDrawing, (clsN_of w_NoDrawing ⟨xg_NoDrawing, xk_NoDrawing, ws_NoDrawing, xd_NoDrawing, xa_NoDrawing, xn_NoDrawing, xt_NoDrawing, xm_NoDrawing⟩ xiint_NoDrawing xibool_NoDrawing xituple_NoDrawing xilist_NoDrawing xistr_NoDrawing), ⟨xg_NoDrawing, xk_NoDrawing, ws_NoDrawing, xd_NoDrawing, xa_NoDrawing, xn_NoDrawing, xt_NoDrawing, xm_NoDrawing⟩, ko_NoDrawing_NoHalvings⟩ (lk_cons ⟨C_NoSpot, (clsN_of w_NoSpot ⟨xg_NoSpot, xk_NoSpot, ws_NoSpot, xd_NoSpot, xa_NoSpot, xn_NoSpot, xt_NoSpot, xm_NoSpot⟩ xiint_NoSpot xibool_NoSpot xituple_NoSpot xilist_NoSpot xistr_NoSpot), ⟨xg_NoSpot, xk_NoSpot, ws_NoSpot, xd_NoSpot, xa_NoSpot, xn_NoSpot, xt_NoSpot, xm_NoSpot⟩, ko_NoSpot_NoHalvings⟩ lk_nil)))⟩⟩ (lk_cons ⟨⟨.ref C_NoFraction, .ref C_NoFraction, fun v r => by cases r; rfl, .inl ⟨_, rfl, PySem.W.mg_of X G0 w_NoFraction⟩, (lk_cons ⟨C_NoPlace, (clsN_of w_NoPlace ⟨xg_NoPlace, xk_NoPlace, ws_NoPlace, xd_NoPlace, xa_NoPlace, xn_NoPlace, xt_NoPlace, xm_NoPlace⟩ xiint_NoPlace xibool_NoPlace xituple_NoPlace xilist_NoPlace xistr_NoPlace), ⟨xg_NoPlace, xk_NoPlace, ws_NoPlace, xd_NoPlace, xa_NoPlace, xn_NoPlace, xt_NoPlace, xm_NoPlace⟩, ko_NoPlace_NoFraction⟩ (lk_cons ⟨C_NoDrawing, (clsN_of w_NoDrawing ⟨xg_NoDrawing, xk_NoDrawing, ws_NoDrawing, xd_NoDrawing, xa_NoDrawing, xn_NoDrawing, xt_NoDrawing, xm_NoDrawing⟩ xiint_NoDrawing xibool_NoDrawing xituple_NoDrawing xilist_NoDrawing xistr_NoDrawing), ⟨xg_NoDrawing, xk_NoDrawing, ws_NoDrawing, xd_NoDrawing, xa_NoDrawing, xn_NoDrawing, xt_NoDrawing, xm_NoDrawing⟩, ko_NoDrawing_NoFraction⟩ (lk_cons ⟨C_NoSpot, (clsN_of w_NoSpot ⟨xg_NoSpot, xk_NoSpot, ws_NoSpot, xd_NoSpot, xa_NoSpot, xn_NoSpot, xt_NoSpot, xm_NoSpot⟩ xiint_NoSpot xibool_NoSpot xituple_NoSpot xilist_NoSpot xistr_NoSpot), ⟨xg_NoSpot, xk_NoSpot, ws_NoSpot, xd_NoSpot, xa_NoSpot, xn_NoSpot, xt_NoSpot, xm_NoSpot⟩, ko_NoSpot_NoFraction⟩ lk_nil)))⟩⟩ (lk_cons ⟨⟨.ref C_NoDirection, .ref C_NoDirection, fun v r => by cases r; rfl, .inl ⟨_, rfl, PySem.W.mg_of X G0 w_NoDirection⟩, (lk_cons ⟨C_NoPlace, (clsN_of w_NoPlace ⟨xg_NoPlace, xk_NoPlace, ws_NoPlace, xd_NoPlace, xa_NoPlace, xn_NoPlace, xt_NoPlace, xm_NoPlace⟩ xiint_NoPlace xibool_NoPlace xituple_NoPlace xilist_NoPlace xistr_NoPlace), ⟨xg_NoPlace, xk_NoPlace, ws_NoPlace, xd_NoPlace, xa_NoPlace, xn_NoPlace, xt_NoPlace, xm_NoPlace⟩, ko_NoPlace_NoDirection⟩ (lk_cons ⟨C_NoDrawing, (clsN_of w_NoDrawing ⟨xg_NoDrawing, xk_NoDrawing, ws_NoDrawing, xd_NoDrawing, xa_NoDrawing, xn_NoDrawing, xt_NoDrawing, xm_NoDrawing⟩ xiint_NoDrawing xibool_NoDrawing xituple_NoDrawing xilist_NoDrawing xistr_NoDrawing), ⟨xg_NoDrawing, xk_NoDrawing, ws_NoDrawing, xd_NoDrawing, xa_NoDrawing, xn_NoDrawing, xt_NoDrawing, xm_NoDrawing⟩, ko_NoDrawing_NoDirection⟩ (lk_cons ⟨C_NoSpot, (clsN_of w_NoSpot ⟨xg_NoSpot, xk_NoSpot, ws_NoSpot, xd_NoSpot, xa_NoSpot, xn_NoSpot, xt_NoSpot, xm_NoSpot⟩ xiint_NoSpot xibool_NoSpot xituple_NoSpot xilist_NoSpot xistr_NoSpot), ⟨xg_NoSpot, xk_NoSpot, ws_NoSpot, xd_NoSpot, xa_NoSpot, xn_NoSpot, xt_NoSpot, xm_NoSpot⟩, ko_NoSpot_NoDirection⟩ lk_nil)))⟩⟩ (lk_cons ⟨⟨.ref C_NoMark, .ref C_NoMark, fun v r => by cases r; rfl, .inl ⟨_, rfl, PySem.W.mg_of X G0 w_NoMark⟩, (lk_cons ⟨C_NoPlace, (clsN_of w_NoPlace ⟨xg_NoPlace, xk_NoPlace, ws_NoPlace, xd_NoPlace, xa_NoPlace, xn_NoPlace, xt_NoPlace, xm_NoPlace⟩ xiint_NoPlace xibool_NoPlace xituple_NoPlace xilist_NoPlace xistr_NoPlace), ⟨xg_NoPlace, xk_NoPlace, ws_NoPlace, xd_NoPlace, xa_NoPlace, xn_NoPlace, xt_NoPlace, xm_NoPlace⟩, ko_NoPlace_NoMark⟩ (lk_cons ⟨C_NoDrawing, (clsN_of w_NoDrawing ⟨xg_NoDrawing, xk_NoDrawing, ws_NoDrawing, xd_NoDrawing, xa_NoDrawing, xn_NoDrawing, xt_NoDrawing, xm_NoDrawing⟩ xiint_NoDrawing xibool_NoDrawing xituple_NoDrawing xilist_NoDrawing xistr_NoDrawing), ⟨xg_NoDrawing, xk_NoDrawing, ws_NoDrawing, xd_NoDrawing, xa_NoDrawing, xn_NoDrawing, xt_NoDrawing, xm_NoDrawing⟩, ko_NoDrawing_NoMark⟩ (lk_cons ⟨C_NoSpot, (clsN_of w_NoSpot ⟨xg_NoSpot, xk_NoSpot, ws_NoSpot, xd_NoSpot, xa_NoSpot, xn_NoSpot, xt_NoSpot, xm_NoSpot⟩ xiint_NoSpot xibool_NoSpot xituple_NoSpot xilist_NoSpot xistr_NoSpot), ⟨xg_NoSpot, xk_NoSpot, ws_NoSpot, xd_NoSpot, xa_NoSpot, xn_NoSpot, xt_NoSpot, xm_NoSpot⟩, ko_NoSpot_NoMark⟩ lk_nil)))⟩⟩ (lk_cons ⟨⟨.ref C_NoPair, .ref C_NoPair, fun v r => by cases r; rfl, .inl ⟨_, rfl, PySem.W.mg_of X G0 w_NoPair⟩, (lk_cons ⟨C_NoPlace, (clsN_of w_NoPlace ⟨xg_NoPlace, xk_NoPlace, ws_NoPlace, xd_NoPlace, xa_NoPlace, xn_NoPlace, xt_NoPlace, xm_NoPlace⟩ xiint_NoPlace xibool_NoPlace xituple_NoPlace xilist_NoPlace xistr_NoPlace), ⟨xg_NoPlace, xk_NoPlace, ws_NoPlace, xd_NoPlace, xa_NoPlace, xn_NoPlace, xt_NoPlace, xm_NoPlace⟩, ko_NoPlace_NoPair⟩ (lk_cons ⟨C_NoDrawing, (clsN_of w_NoDrawing ⟨xg_NoDrawing, xk_NoDrawing, ws_NoDrawing, xd_NoDrawing, xa_NoDrawing, xn_NoDrawing, xt_NoDrawing, xm_NoDrawing⟩ xiint_NoDrawing xibool_NoDrawing xituple_NoDrawing xilist_NoDrawing xistr_NoDrawing), ⟨xg_NoDrawing, xk_NoDrawing, ws_NoDrawing, xd_NoDrawing, xa_NoDrawing, xn_NoDrawing, xt_NoDrawing, xm_NoDrawing⟩, ko_NoDrawing_NoPair⟩ (lk_cons ⟨C_NoSpot, (clsN_of w_NoSpot ⟨xg_NoSpot, xk_NoSpot, ws_NoSpot, xd_NoSpot, xa_NoSpot, xn_NoSpot, xt_NoSpot, xm_NoSpot⟩ xiint_NoSpot xibool_NoSpot xituple_NoSpot xilist_NoSpot xistr_NoSpot), ⟨xg_NoSpot, xk_NoSpot, ws_NoSpot, xd_NoSpot, xa_NoSpot, xn_NoSpot, xt_NoSpot, xm_NoSpot⟩, ko_NoSpot_NoPair⟩ lk_nil)))⟩⟩ (lk_cons ⟨⟨.ref C_NoTurn, .ref C_NoTurn, fun v r => by cases r; rfl, .inl ⟨_, rfl, PySem.W.mg_of X G0 w_NoTurn⟩, (lk_cons ⟨C_NoPlace, (clsN_of w_NoPlace ⟨xg_NoPlace, xk_NoPlace, ws_NoPlace, xd_NoPlace, xa_NoPlace, xn_NoPlace, xt_NoPlace, xm_NoPlace⟩ xiint_NoPlace xibool_NoPlace xituple_NoPlace xilist_NoPlace xistr_NoPlace), ⟨xg_NoPlace, xk_NoPlace, ws_NoPlace, xd_NoPlace, xa_NoPlace, xn_NoPlace, xt_NoPlace, xm_NoPlace⟩, ko_NoPlace_NoTurn⟩ (lk_cons ⟨C_NoDrawing, (clsN_of w_NoDrawing ⟨xg_NoDrawing, xk_NoDrawing, ws_NoDrawing, xd_NoDrawing, xa_NoDrawing, xn_NoDrawing, xt_NoDrawing, xm_NoDrawing⟩ xiint_NoDrawing xibool_NoDrawing xituple_NoDrawing xilist_NoDrawing xistr_NoDrawing), ⟨xg_NoDrawing, xk_NoDrawing, ws_NoDrawing, xd_NoDrawing, xa_NoDrawing, xn_NoDrawing, xt_NoDrawing, xm_NoDrawing⟩, ko_NoDrawing_NoTurn⟩ (lk_cons ⟨C_NoSpot, (clsN_of w_NoSpot ⟨xg_NoSpot, xk_NoSpot, ws_NoSpot, xd_NoSpot, xa_NoSpot, xn_NoSpot, xt_NoSpot, xm_NoSpot⟩ xiint_NoSpot xibool_NoSpot xituple_NoSpot xilist_NoSpot xistr_NoSpot), ⟨xg_NoSpot, xk_NoSpot, ws_NoSpot, xd_NoSpot, xa_NoSpot, xn_NoSpot, xt_NoSpot, xm_NoSpot⟩, ko_NoSpot_NoTurn⟩ lk_nil)))⟩⟩ (lk_cons ⟨⟨.ref C_NoDrawing, .ref C_NoDrawing, fun v r => by cases r; rfl, .inl ⟨_, rfl, PySem.W.mg_of X G0 w_NoDrawing⟩, (lk_cons ⟨C_NoPlace, (clsN_of w_NoPlace ⟨xg_NoPlace, xk_NoPlace, ws_NoPlace, xd_NoPlace, xa_NoPlace, xn_NoPlace, xt_NoPlace, xm_NoPlace⟩ xiint_NoPlace xibool_NoPlace xituple_NoPlace xilist_NoPlace xistr_NoPlace), ⟨xg_NoPlace, xk_NoPlace, ws_NoPlace, xd_NoPlace, xa_NoPlace, xn_NoPlace, xt_NoPlace, xm_NoPlace⟩, ko_NoPlace_NoDrawing⟩ (lk_cons ⟨C_NoDrawing, (clsN_of w_NoDrawing ⟨xg_NoDrawing, xk_NoDrawing, ws_NoDrawing, xd_NoDrawing, xa_NoDrawing, xn_NoDrawing, xt_NoDrawing, xm_NoDrawing⟩ xiint_NoDrawing xibool_NoDrawing xituple_NoDrawing xilist_NoDrawing xistr_NoDrawing), ⟨xg_NoDrawing, xk_NoDrawing, ws_NoDrawing, xd_NoDrawing, xa_NoDrawing, xn_NoDrawing, xt_NoDrawing, xm_NoDrawing⟩, ko_NoDrawing_NoDrawing⟩ (lk_cons ⟨C_NoSpot, (clsN_of w_NoSpot ⟨xg_NoSpot, xk_NoSpot, ws_NoSpot, xd_NoSpot, xa_NoSpot, xn_NoSpot, xt_NoSpot, xm_NoSpot⟩ xiint_NoSpot xibool_NoSpot xituple_NoSpot xilist_NoSpot xistr_NoSpot), ⟨xg_NoSpot, xk_NoSpot, ws_NoSpot, xd_NoSpot, xa_NoSpot, xn_NoSpot, xt_NoSpot, xm_NoSpot⟩, ko_NoSpot_NoDrawing⟩ lk_nil)))⟩⟩ (lk_cons ⟨⟨.ref C_NoPlace, .ref C_NoPlace, fun v r => by cases r; rfl, .inl ⟨_, rfl, PySem.W.mg_of X G0 w_NoPlace⟩, (lk_cons ⟨C_NoPlace, (clsN_of w_NoPlace ⟨xg_NoPlace, xk_NoPlace, ws_NoPlace, xd_NoPlace, xa_NoPlace, xn_NoPlace, xt_NoPlace, xm_NoPlace⟩ xiint_NoPlace xibool_NoPlace xituple_NoPlace xilist_NoPlace xistr_NoPlace), ⟨xg_NoPlace, xk_NoPlace, ws_NoPlace, xd_NoPlace, xa_NoPlace, xn_NoPlace, xt_NoPlace, xm_NoPlace⟩, ko_NoPlace_NoPlace⟩ (lk_cons ⟨C_NoDrawing, (clsN_of w_NoDrawing ⟨xg_NoDrawing, xk_NoDrawing, ws_NoDrawing, xd_NoDrawing, xa_NoDrawing, xn_NoDrawing, xt_NoDrawing, xm_NoDrawing⟩ xiint_NoDrawing xibool_NoDrawing xituple_NoDrawing xilist_NoDrawing xistr_NoDrawing), ⟨xg_NoDrawing, xk_NoDrawing, ws_NoDrawing, xd_NoDrawing, xa_NoDrawing, xn_NoDrawing, xt_NoDrawing, xm_NoDrawing⟩, ko_NoDrawing_NoPlace⟩ (lk_cons ⟨C_NoSpot, (clsN_of w_NoSpot ⟨xg_NoSpot, xk_NoSpot, ws_NoSpot, xd_NoSpot, xa_NoSpot, xn_NoSpot, xt_NoSpot, xm_NoSpot⟩ xiint_NoSpot xibool_NoSpot xituple_NoSpot xilist_NoSpot xistr_NoSpot), ⟨xg_NoSpot, xk_NoSpot, ws_NoSpot, xd_NoSpot, xa_NoSpot, xn_NoSpot, xt_NoSpot, xm_NoSpot⟩, ko_NoSpot_NoPlace⟩ lk_nil)))⟩⟩ (lk_cons ⟨⟨.ref C_NoSpot, .ref C_NoSpot, fun v r => by cases r; rfl, .inl ⟨_, rfl, PySem.W.mg_of X G0 w_NoSpot⟩, (lk_cons ⟨C_NoPlace, (clsN_of w_NoPlace ⟨xg_NoPlace, xk_NoPlace, ws_NoPlace, xd_NoPlace, xa_NoPlace, xn_NoPlace, xt_NoPlace, xm_NoPlace⟩ xiint_NoPlace xibool_NoPlace xituple_NoPlace xilist_NoPlace xistr_NoPlace), ⟨xg_NoPlace, xk_NoPlace, ws_NoPlace, xd_NoPlace, xa_NoPlace, xn_NoPlace, xt_NoPlace, xm_NoPlace⟩, ko_NoPlace_NoSpot⟩ (lk_cons ⟨C_NoDrawing, (clsN_of w_NoDrawing ⟨xg_NoDrawing, xk_NoDrawing, ws_NoDrawing, xd_NoDrawing, xa_NoDrawing, xn_NoDrawing, xt_NoDrawing, xm_NoDrawing⟩ xiint_NoDrawing xibool_NoDrawing xituple_NoDrawing xilist_NoDrawing xistr_NoDrawing), ⟨xg_NoDrawing, xk_NoDrawing, ws_NoDrawing, xd_NoDrawing, xa_NoDrawing, xn_NoDrawing, xt_NoDrawing, xm_NoDrawing⟩, ko_NoDrawing_NoSpot⟩ (lk_cons ⟨C_NoSpot, (clsN_of w_NoSpot ⟨xg_NoSpot, xk_NoSpot, ws_NoSpot, xd_NoSpot, xa_NoSpot, xn_NoSpot, xt_NoSpot, xm_NoSpot⟩ xiint_NoSpot xibool_NoSpot xituple_NoSpot xilist_NoSpot xistr_NoSpot), ⟨xg_NoSpot, xk_NoSpot, ws_NoSpot, xd_NoSpot, xa_NoSpot, xn_NoSpot, xt_NoSpot, xm_NoSpot⟩, ko_NoSpot_NoSpot⟩ lk_nil)))⟩⟩ (lk_cons ⟨⟨.ref C_NoCircle, .ref C_NoCircle, fun v r => by cases r; rfl, .inl ⟨_, rfl, PySem.W.mg_of X G0 w_NoCircle⟩, (lk_cons ⟨C_NoPlace, (clsN_of w_NoPlace ⟨xg_NoPlace, xk_NoPlace, ws_NoPlace, xd_NoPlace, xa_NoPlace, xn_NoPlace, xt_NoPlace, xm_NoPlace⟩ xiint_NoPlace xibool_NoPlace xituple_NoPlace xilist_NoPlace xistr_NoPlace), ⟨xg_NoPlace, xk_NoPlace, ws_NoPlace, xd_NoPlace, xa_NoPlace, xn_NoPlace, xt_NoPlace, xm_NoPlace⟩, ko_NoPlace_NoCircle⟩ (lk_cons ⟨C_NoDrawing, (clsN_of w_NoDrawing ⟨xg_NoDrawing, xk_NoDrawing, ws_NoDrawing, xd_NoDrawing, xa_NoDrawing, xn_NoDrawing, xt_NoDrawing, xm_NoDrawing⟩ xiint_NoDrawing xibool_NoDrawing xituple_NoDrawing xilist_NoDrawing xistr_NoDrawing), ⟨xg_NoDrawing, xk_NoDrawing, ws_NoDrawing, xd_NoDrawing, xa_NoDrawing, xn_NoDrawing, xt_NoDrawing, xm_NoDrawing⟩, ko_NoDrawing_NoCircle⟩ (lk_cons ⟨C_NoSpot, (clsN_of w_NoSpot ⟨xg_NoSpot, xk_NoSpot, ws_NoSpot, xd_NoSpot, xa_NoSpot, xn_NoSpot, xt_NoSpot, xm_NoSpot⟩ xiint_NoSpot xibool_NoSpot xituple_NoSpot xilist_NoSpot xistr_NoSpot), ⟨xg_NoSpot, xk_NoSpot, ws_NoSpot, xd_NoSpot, xa_NoSpot, xn_NoSpot, xt_NoSpot, xm_NoSpot⟩, ko_NoSpot_NoCircle⟩ lk_nil)))⟩⟩ (lk_cons ⟨⟨.ref C_NoSide, .ref C_NoSide, fun v r => by cases r; rfl, .inl ⟨_, rfl, PySem.W.mg_of X G0 w_NoSide⟩, (lk_cons ⟨C_NoPlace, (clsN_of w_NoPlace ⟨xg_NoPlace, xk_NoPlace, ws_NoPlace, xd_NoPlace, xa_NoPlace, xn_NoPlace, xt_NoPlace, xm_NoPlace⟩ xiint_NoPlace xibool_NoPlace xituple_NoPlace xilist_NoPlace xistr_NoPlace), ⟨xg_NoPlace, xk_NoPlace, ws_NoPlace, xd_NoPlace, xa_NoPlace, xn_NoPlace, xt_NoPlace, xm_NoPlace⟩, ko_NoPlace_NoSide⟩ (lk_cons ⟨C_NoDrawing, (clsN_of w_NoDrawing ⟨xg_NoDrawing, xk_NoDrawing, ws_NoDrawing, xd_NoDrawing, xa_NoDrawing, xn_NoDrawing, xt_NoDrawing, xm_NoDrawing⟩ xiint_NoDrawing xibool_NoDrawing xituple_NoDrawing xilist_NoDrawing xistr_NoDrawing), ⟨xg_NoDrawing, xk_NoDrawing, ws_NoDrawing, xd_NoDrawing, xa_NoDrawing, xn_NoDrawing, xt_NoDrawing, xm_NoDrawing⟩, ko_NoDrawing_NoSide⟩ (lk_cons ⟨C_NoSpot, (clsN_of w_NoSpot ⟨xg_NoSpot, xk_NoSpot, ws_NoSpot, xd_NoSpot, xa_NoSpot, xn_NoSpot, xt_NoSpot, xm_NoSpot⟩ xiint_NoSpot xibool_NoSpot xituple_NoSpot xilist_NoSpot xistr_NoSpot), ⟨xg_NoSpot, xk_NoSpot, ws_NoSpot, xd_NoSpot, xa_NoSpot, xn_NoSpot, xt_NoSpot, xm_NoSpot⟩, ko_NoSpot_NoSide⟩ lk_nil)))⟩⟩ (lk_cons ⟨⟨.ty "ValueError", .type "ValueError", fun v r => by cases r; rfl, .inr ⟨_, rfl, PySem.W.mg_none_of X G0 z_ValueError, by decide +kernel, by decide⟩, (lk_cons ⟨C_NoPlace, (clsN_of w_NoPlace ⟨xg_NoPlace, xk_NoPlace, ws_NoPlace, xd_NoPlace, xa_NoPlace, xn_NoPlace, xt_NoPlace, xm_NoPlace⟩ xiint_NoPlace xibool_NoPlace xituple_NoPlace xilist_NoPlace xistr_NoPlace), ⟨xg_NoPlace, xk_NoPlace, ws_NoPlace, xd_NoPlace, xa_NoPlace, xn_NoPlace, xt_NoPlace, xm_NoPlace⟩, ko_NoPlace_ValueError⟩ (lk_cons ⟨C_NoDrawing, (clsN_of w_NoDrawing ⟨xg_NoDrawing, xk_NoDrawing, ws_NoDrawing, xd_NoDrawing, xa_NoDrawing, xn_NoDrawing, xt_NoDrawing, xm_NoDrawing⟩ xiint_NoDrawing xibool_NoDrawing xituple_NoDrawing xilist_NoDrawing xistr_NoDrawing), ⟨xg_NoDrawing, xk_NoDrawing, ws_NoDrawing, xd_NoDrawing, xa_NoDrawing, xn_NoDrawing, xt_NoDrawing, xm_NoDrawing⟩, ko_NoDrawing_ValueError⟩ (lk_cons ⟨C_NoSpot, (clsN_of w_NoSpot ⟨xg_NoSpot, xk_NoSpot, ws_NoSpot, xd_NoSpot, xa_NoSpot, xn_NoSpot, xt_NoSpot, xm_NoSpot⟩ xiint_NoSpot xibool_NoSpot xituple_NoSpot xilist_NoSpot xistr_NoSpot), ⟨xg_NoSpot, xk_NoSpot, ws_NoSpot, xd_NoSpot, xa_NoSpot, xn_NoSpot, xt_NoSpot, xm_NoSpot⟩, ko_NoSpot_ValueError⟩ lk_nil)))⟩⟩ lk_nil))))))))))))) (exm := (lk_cons ⟨⟨_, .inl (PySem.W.mg_of X G0 w_LeafError), (lk_cons ⟨C_NoPlace, rfl, eo_NoPlace_LeafError, fun m h => by cases h; exact (clsN_of w_NoPlace ⟨xg_NoPlace, xk_NoPlace, ws_NoPlace, xd_NoPlace, xa_NoPlace, xn_NoPlace, xt_NoPlace, xm_NoPlace⟩ xiint_NoPlace xibool_NoPlace xituple_NoPlace xilist_NoPlace xistr_NoPlace)⟩ (lk_cons ⟨C_NoDrawing, rfl, eo_NoDrawing_LeafError, fun m h => by cases h; exact (clsN_of w_NoDrawing ⟨xg_NoDrawing, xk_NoDrawing, ws_NoDrawing, xd_NoDrawing, xa_NoDrawing, xn_NoDrawing, xt_NoDrawing, xm_NoDrawing⟩ xiint_NoDrawing xibool_NoDrawing xituple_NoDrawing xilist_NoDrawing xistr_NoDrawing)⟩ (lk_cons ⟨C_NoSpot, rfl, eo_NoSpot_LeafError, fun m h => by cases h; exact (clsN_of w_NoSpot ⟨xg_NoSpot, xk_NoSpot, ws_NoSpot, xd_NoSpot, xa_NoSpot, xn_NoSpot, xt_NoSpot, xm_NoSpot⟩ xiint_NoSpot xibool_NoSpot xituple_NoSpot xilist_NoSpot xistr_NoSpot)⟩ lk_nil)))⟩⟩ lk_nil))
  have g__law_fraction : FnG l.prog w K mg base 2 f__law_fraction _ ["_law_over", "_law_base"] (spOf K ⟨fun c => if c = 3 then .ref C_NoPlace else if c = 11 then .ref C_NoDrawing else if c = 14 then .ref C_NoSpot else .none, [(TA_law, "law.<locals>.<lambda>")], fun _ => none, [], []⟩ (G 24)) := fnG_of (k := 1) (G := G) (f := G 24) (fun_mk (st := s__law_fraction) l__law_fraction c__law_fraction k__law_fraction) sc__law_fraction rfl rfl rfl cb__law_fraction v_law_fraction con_nil bn_nil (by refine (all_cons ?_ all_nil); exact ⟨⟨f__law_shared, _, _, 1, [], [], PySem.W.mg_of X G0 a__law_shared, k__law_shared, g__law_shared, by decide, .nil, .nil, fun s us ws hK l1 l2 => match us, ws, l1, l2 with | [_, _], [], _, _ => .of_eq rfl⟩, rfl, rfl⟩)
  have g__law_stretches : FnG l.prog w K mg base 3 f__law_stretches _ ["_law_way", "_law_here"] (spOf K ⟨fun c => if c = 3 then .ref C_NoPlace else if c = 11 then .ref C_NoDrawing else if c = 14 then .ref C_NoSpot else .none, [(TA_law, "law.<locals>.<lambda>")], fun _ => none, [], []⟩ (G 532)) := fnG_of (k := 2) (G := G) (f := G 532) (fun_mk (st := s__law_stretches) l__law_stretches c__law_stretches k__law_stretches) sc__law_stretches rfl rfl rfl cb__law_stretches v_law_stretches con_nil bn_nil (by refine (all_cons ?_ all_nil); exact ⟨⟨f__law_fraction, _, _, 2, [], [], PySem.W.mg_of X G0 a__law_fraction, k__law_fraction, g__law_fraction, by decide, .nil, .nil, fun s us ws hK l1 l2 => match us, ws, l1, l2 with | [_, _], [], _, _ => .of_eq rfl⟩, rfl, rfl⟩)
  have g_is_way : FnG l.prog w K mg base 1 f_is_way _ ["thing"] (spOf K ⟨fun c => if c = 3 then .ref C_NoPlace else if c = 11 then .ref C_NoDrawing else if c = 14 then .ref C_NoSpot else .none, [(TA_law, "law.<locals>.<lambda>")], fun _ => none, [], []⟩ (G 234)) := fnG_of (k := 0) (G := G) (f := G 234) (fun_mk (st := s_is_way) l_is_way c_is_way k_is_way) sc_is_way rfl rfl rfl cb_is_way v_is_way (con_cons ⟨.ref A_WAYS, _, PySem.W.mg_of X G0 q_WAYS, rfl, (con_tup (xs := [.str "disc", .str "even", .str "plain", .str "round", .str "sight", .str "straight"]) l_WAYS rfl rfl rfl (by show 6 ≤ sizeLine; decide) (.cons (⟨_, rfl⟩) (.cons (⟨_, rfl⟩) (.cons (⟨_, rfl⟩) (.cons (⟨_, rfl⟩) (.cons (⟨_, rfl⟩) (.cons (⟨_, rfl⟩) .nil)))))) (.cons (.str _) (.cons (.str _) (.cons (.str _) (.cons (.str _) (.cons (.str _) (.cons (.str _) .nil)))))))⟩ con_nil) (bn_cons (PySem.W.mg_none_of X G0 z_isinstance) (bn_cons (PySem.W.mg_none_of X G0 z_str) bn_nil)) all_nil
  have g_need_way : FnG l.prog w K mg base 2 f_need_way _ ["thing"] (spOf K ⟨fun c => if c = 3 then .ref C_NoPlace else if c = 11 then .ref C_NoDrawing else if c = 14 then .ref C_NoSpot else .none, [(TA_law, "law.<locals>.<lambda>")], fun _ => none, [], []⟩ (G 416)) := fnG_of (k := 1) (G := G) (f := G 416) (fun_mk (st := s_need_way) l_need_way c_need_way k_need_way) sc_need_way rfl rfl rfl cb_need_way v_need_way con_nil bn_nil (by refine (all_cons ?_ all_nil); exact ⟨⟨f_is_way, _, _, 1, [], [], PySem.W.mg_of X G0 a_is_way, k_is_way, g_is_way, by decide, .nil, .nil, fun s us ws hK l1 l2 => match us, ws, l1, l2 with | [_], [], _, _ => .of_eq rfl⟩, rfl, rfl⟩) (exc := (lk_cons ⟨⟨C_NoDrawing, rfl, PySem.W.mg_of X G0 w_NoDrawing, we_NoDrawing, wk_NoDrawing, ws_NoDrawing, wt_NoDrawing⟩⟩ lk_nil))
  have g_is_whole : FnG l.prog w K mg base 1 f_is_whole _ ["thing"] (spOf K ⟨fun c => if c = 3 then .ref C_NoPlace else if c = 11 then .ref C_NoDrawing else if c = 14 then .ref C_NoSpot else .none, [(TA_law, "law.<locals>.<lambda>")], fun _ => none, [], []⟩ (G 5)) := fnG_of (k := 0) (G := G) (f := G 5) (fun_mk (st := s_is_whole) l_is_whole c_is_whole k_is_whole) sc_is_whole rfl rfl rfl cb_is_whole v_is_whole con_nil (bn_cons (PySem.W.mg_none_of X G0 z_isinstance) (bn_cons (PySem.W.mg_none_of X G0 z_int) (bn_cons (PySem.W.mg_none_of X G0 z_bool) bn_nil))) all_nil
  have g_are_whole : FnG l.prog w K mg base 2 f_are_whole _ ["thing", "many"] (spOf K ⟨fun c => if c = 3 then .ref C_NoPlace else if c = 11 then .ref C_NoDrawing else if c = 14 then .ref C_NoSpot else .none, [(TA_law, "law.<locals>.<lambda>")], fun _ => none, [], []⟩ (G 7)) := fnG_of (k := 1) (G := G) (f := G 7) (fun_mk (st := s_are_whole) l_are_whole c_are_whole k_are_whole) sc_are_whole rfl rfl rfl cb_are_whole v_are_whole con_nil (bn_cons (PySem.W.mg_none_of X G0 z_isinstance) (bn_cons (PySem.W.mg_none_of X G0 z_tuple) (bn_cons (PySem.W.mg_none_of X G0 z_all) (bn_cons (PySem.W.mg_none_of X G0 z_len) bn_nil)))) (by refine (all_cons ?_ all_nil); exact ⟨⟨f_is_whole, _, _, 1, [], [], PySem.W.mg_of X G0 a_is_whole, k_is_whole, g_is_whole, by decide, .nil, .nil, fun s us ws hK l1 l2 => match us, ws, l1, l2 with | [_], [], _, _ => .of_eq rfl⟩, rfl, rfl⟩)
  have g_shared_part : FnG l.prog w K mg base 1 f_shared_part _ ["one", "other"] (spOf K ⟨fun c => if c = 3 then .ref C_NoPlace else if c = 11 then .ref C_NoDrawing else if c = 14 then .ref C_NoSpot else .none, [(TA_law, "law.<locals>.<lambda>")], fun _ => none, [], []⟩ (G 8)) := fnG_of (k := 0) (G := G) (f := G 8) (fun_mk (st := s_shared_part) l_shared_part c_shared_part k_shared_part) sc_shared_part rfl rfl rfl cb_shared_part v_shared_part con_nil (bn_cons (PySem.W.mg_none_of X G0 z_abs) bn_nil) all_nil
  have g_part_of_all : FnG l.prog w K mg base 2 f_part_of_all _ ["row"] (spOf K ⟨fun c => if c = 3 then .ref C_NoPlace else if c = 11 then .ref C_NoDrawing else if c = 14 then .ref C_NoSpot else .none, [(TA_law, "law.<locals>.<lambda>")], fun _ => none, [], []⟩ (G 9)) := fnG_of (k := 1) (G := G) (f := G 9) (fun_mk (st := s_part_of_all) l_part_of_all c_part_of_all k_part_of_all) sc_part_of_all rfl rfl rfl cb_part_of_all v_part_of_all con_nil bn_nil (by refine (all_cons ?_ all_nil); exact ⟨⟨f_shared_part, _, _, 1, [], [], PySem.W.mg_of X G0 a_shared_part, k_shared_part, g_shared_part, by decide, .nil, .nil, fun s us ws hK l1 l2 => match us, ws, l1, l2 with | [_, _], [], _, _ => .of_eq rfl⟩, rfl, rfl⟩)
  have g_is_lowest : FnG l.prog w K mg base 3 f_is_lowest _ ["thing", "many"] (spOf K ⟨fun c => if c = 3 then .ref C_NoPlace else if c = 11 then .ref C_NoDrawing else if c = 14 then .ref C_NoSpot else .none, [(TA_law, "law.<locals>.<lambda>")], fun _ => none, [], []⟩ (G 10)) := fnG_of (k := 2) (G := G) (f := G 10) (fun_mk (st := s_is_lowest) l_is_lowest c_is_lowest k_is_lowest) sc_is_lowest rfl rfl rfl cb_is_lowest v_is_lowest con_nil bn_nil (by refine (all_cons ?_ (all_cons ?_ all_nil)); exact ⟨⟨f_are_whole, _, _, 2, [], [], PySem.W.mg_of X G0 a_are_whole, k_are_whole, g_are_whole, by decide, .nil, .nil, fun s us ws hK l1 l2 => match us, ws, l1, l2 with | [_, _], [], _, _ => .of_eq rfl⟩, rfl, rfl⟩; exact ⟨⟨f_part_of_all, _, _, 2, [], [], PySem.W.mg_of X G0 a_part_of_all, k_part_of_all, g_part_of_all, by decide, .nil, .nil, fun s us ws hK l1 l2 => match us, ws, l1, l2 with | [_], [], _, _ => .of_eq rfl⟩, rfl, rfl⟩)
  have g_dot : FnG l.prog w K mg base 1 f_dot _ ["one", "other"] (spOf K ⟨fun c => if c = 3 then .ref C_NoPlace else if c = 11 then .ref C_NoDrawing else if c = 14 then .ref C_NoSpot else .none, [(TA_law, "law.<locals>.<lambda>")], fun _ => none, [], []⟩ (G 59)) := fnG_of (k := 0) (G := G) (f := G 59) (fun_mk (st := s_dot) l_dot c_dot k_dot) sc_dot rfl rfl rfl cb_dot v_dot con_nil bn_nil all_nil
  have g_is_place : FnG l.prog w K mg base 4 f_is_place _ ["thing"] (spOf K ⟨fun c => if c = 3 then .ref C_NoPlace else if c = 11 then .ref C_NoDrawing else if c = 14 then .ref C_NoSpot else .none, [(TA_law, "law.<locals>.<lambda>")], fun _ => none, [], []⟩ (G 60)) := fnG_of (k := 3) (G := G) (f := G 60) (fun_mk (st := s_is_place) l_is_place c_is_place k_is_place) sc_is_place rfl rfl rfl cb_is_place v_is_place con_nil bn_nil (by refine (all_cons ?_ (all_cons ?_ all_nil)); exact ⟨⟨f_is_lowest, _, _, 3, [], [], PySem.W.mg_of X G0 a_is_lowest, k_is_lowest, g_is_lowest, by decide, .nil, .nil, fun s us ws hK l1 l2 => match us, ws, l1, l2 with | [_, _], [], _, _ => .of_eq rfl⟩, rfl, rfl⟩; exact ⟨⟨f_dot, _, _, 1, [], [], PySem.W.mg_of X G0 a_dot, k_dot, g_dot, by decide, .nil, .nil, fun s us ws hK l1 l2 => match us, ws, l1, l2 with | [_, _], [], _, _ => .of_eq rfl⟩, rfl, rfl⟩)
  have g_need_place : FnG l.prog w K mg base 5 f_need_place _ ["thing"] (spOf K ⟨fun c => if c = 3 then .ref C_NoPlace else if c = 11 then .ref C_NoDrawing else if c = 14 then .ref C_NoSpot else .none, [(TA_law, "law.<locals>.<lambda>")], fun _ => none, [], []⟩ (G 463)) := fnG_of (k := 4) (G := G) (f := G 463) (fun_mk (st := s_need_place) l_need_place c_need_place k_need_place) sc_need_place rfl rfl rfl cb_need_place v_need_place_v2 con_nil bn_nil (by refine (all_cons ?_ all_nil); exact ⟨⟨f_is_place, _, _, 4, [], [], PySem.W.mg_of X G0 a_is_place, k_is_place, g_is_place, by decide, .nil, .nil, fun s us ws hK l1 l2 => match us, ws, l1, l2 with | [_], [], _, _ => .of_eq rfl⟩, rfl, rfl⟩) (exc := (lk_cons ⟨⟨C_NoPlace, rfl, PySem.W.mg_of X G0 w_NoPlace, we_NoPlace, wk_NoPlace, ws_NoPlace, wt_NoPlace⟩⟩ lk_nil))
  have g_disc_stretches : FnG l.prog w K mg base 1 f_disc_stretches _ ["z", "w"] (spOf K ⟨fun c => if c = 3 then .ref C_NoPlace else if c = 11 then .ref C_NoDrawing else if c = 14 then .ref C_NoSpot else .none, [(TA_law, "law.<locals>.<lambda>")], fun _ => none, [], []⟩ (G 419)) := fnG_of (k := 0) (G := G) (f := G 419) (fun_mk (st := s_disc_stretches) l_disc_stretches c_disc_stretches k_disc_stretches) sc_disc_stretches rfl rfl rfl cb_disc_stretches v_disc_stretches con_nil bn_nil all_nil
  have g_even_stretches : FnG l.prog w K mg base 1 f_even_stretches _ ["z", "w"] (spOf K ⟨fun c => if c = 3 then .ref C_NoPlace else if c = 11 then .ref C_NoDrawing else if c = 14 then .ref C_NoSpot else .none, [(TA_law, "law.<locals>.<lambda>")], fun _ => none, [], []⟩ (G 420)) := fnG_of (k := 0) (G := G) (f := G 420) (fun_mk (st := s_even_stretches) l_even_stretches c_even_stretches k_even_stretches) sc_even_stretches rfl rfl rfl cb_even_stretches v_even_stretches con_nil bn_nil all_nil
  have g_plain_stretches : FnG l.prog w K mg base 1 f_plain_stretches _ ["z", "w"] (spOf K ⟨fun c => if c = 3 then .ref C_NoPlace else if c = 11 then .ref C_NoDrawing else if c = 14 then .ref C_NoSpot else .none, [(TA_law, "law.<locals>.<lambda>")], fun _ => none, [], []⟩ (G 421)) := fnG_of (k := 0) (G := G) (f := G 421) (fun_mk (st := s_plain_stretches) l_plain_stretches c_plain_stretches k_plain_stretches) sc_plain_stretches rfl rfl rfl cb_plain_stretches v_plain_stretches con_nil bn_nil all_nil
  have g_round_stretches : FnG l.prog w K mg base 1 f_round_stretches _ ["z", "w"] (spOf K ⟨fun c => if c = 3 then .ref C_NoPlace else if c = 11 then .ref C_NoDrawing else if c = 14 then .ref C_NoSpot else .none, [(TA_law, "law.<locals>.<lambda>")], fun _ => none, [], []⟩ (G 422)) := fnG_of (k := 0) (G := G) (f := G 422) (fun_mk (st := s_round_stretches) l_round_stretches c_round_stretches k_round_stretches) sc_round_stretches rfl rfl rfl cb_round_stretches v_round_stretches con_nil bn_nil all_nil
  have g_sight_stretches : FnG l.prog w K mg base 1 f_sight_stretches _ ["z", "w"] (spOf K ⟨fun c => if c = 3 then .ref C_NoPlace else if c = 11 then .ref C_NoDrawing else if c = 14 then .ref C_NoSpot else .none, [(TA_law, "law.<locals>.<lambda>")], fun _ => none, [], []⟩ (G 423)) := fnG_of (k := 0) (G := G) (f := G 423) (fun_mk (st := s_sight_stretches) l_sight_stretches c_sight_stretches k_sight_stretches) sc_sight_stretches rfl rfl rfl cb_sight_stretches v_sight_stretches con_nil bn_nil all_nil
  have g_straight_stretches : FnG l.prog w K mg base 1 f_straight_stretches _ ["z", "w"] (spOf K ⟨fun c => if c = 3 then .ref C_NoPlace else if c = 11 then .ref C_NoDrawing else if c = 14 then .ref C_NoSpot else .none, [(TA_law, "law.<locals>.<lambda>")], fun _ => none, [], []⟩ (G 424)) := fnG_of (k := 0) (G := G) (f := G 424) (fun_mk (st := s_straight_stretches) l_straight_stretches c_straight_stretches k_straight_stretches) sc_straight_stretches rfl rfl rfl cb_straight_stretches v_straight_stretches con_nil bn_nil all_nil
  have g_is_drawn : FnG l.prog w K mg base 1 f_is_drawn _ ["way", "place"] (spOf K ⟨fun c => if c = 3 then .ref C_NoPlace else if c = 11 then .ref C_NoDrawing else if c = 14 then .ref C_NoSpot else .none, [(TA_law, "law.<locals>.<lambda>")], fun _ => none, [], []⟩ (G 238)) := fnG_of (k := 0) (G := G) (f := G 238) (fun_mk (st := s_is_drawn) l_is_drawn c_is_drawn k_is_drawn) sc_is_drawn rfl rfl rfl cb_is_drawn v_is_drawn con_nil bn_nil all_nil
  have g_lowest_row : FnG l.prog w K mg base 3 f_lowest_row _ ["row"] (spOf K ⟨fun c => if c = 3 then .ref C_NoPlace else if c = 11 then .ref C_NoDrawing else if c = 14 then .ref C_NoSpot else .none, [(TA_law, "law.<locals>.<lambda>")], fun _ => none, [], []⟩ (G 18)) := fnG_of (k := 2) (G := G) (f := G 18) (fun_mk (st := s_lowest_row) l_lowest_row c_lowest_row k_lowest_row) sc_lowest_row rfl rfl rfl cb_lowest_row v_lowest_row con_nil (bn_cons (PySem.W.mg_none_of X G0 z_tuple) bn_nil) (by refine (all_cons ?_ all_nil); exact ⟨⟨f_part_of_all, _, _, 2, [], [], PySem.W.mg_of X G0 a_part_of_all, k_part_of_all, g_part_of_all, by decide, .nil, .nil, fun s us ws hK l1 l2 => match us, ws, l1, l2 with | [_], [], _, _ => .of_eq rfl⟩, rfl, rfl⟩)
  have g_fraction_by : FnG l.prog w K mg base 4 f_fraction_by _ ["over", "under"] (spOf K ⟨fun c => if c = 3 then .ref C_NoPlace else if c = 11 then .ref C_NoDrawing else if c = 14 then .ref C_NoSpot else .none, [(TA_law, "law.<locals>.<lambda>")], fun _ => none, [], []⟩ (G 19)) := fnG_of (k := 3) (G := G) (f := G 19) (fun_mk (st := s_fraction_by) l_fraction_by c_fraction_by k_fraction_by) sc_fraction_by rfl rfl rfl cb_fraction_by v_fraction_by con_nil bn_nil (by refine (all_cons ?_ all_nil); exact ⟨⟨f_lowest_row, _, _, 3, [], [], PySem.W.mg_of X G0 a_lowest_row, k_lowest_row, g_lowest_row, by decide, .nil, .nil, fun s us ws hK l1 l2 => match us, ws, l1, l2 with | [_], [], _, _ => .of_eq rfl⟩, rfl, rfl⟩)
  have g_fraction_of : FnG l.prog w K mg base 5 f_fraction_of _ ["over", "under"] (spOf K ⟨fun c => if c = 3 then .ref C_NoPlace else if c = 11 then .ref C_NoDrawing else if c = 14 then .ref C_NoSpot else .none, [(TA_law, "law.<locals>.<lambda>")], fun _ => none, [], []⟩ (G 20)) := fnG_of (k := 4) (G := G) (f := G 20) (fun_mk (st := s_fraction_of) l_fraction_of c_fraction_of k_fraction_of) sc_fraction_of rfl rfl rfl cb_fraction_of v_fraction_of con_nil bn_nil (by refine (all_cons ?_ (all_cons ?_ all_nil)); exact ⟨⟨f_fraction_by, _, _, 4, [], [], PySem.W.mg_of X G0 a_fraction_by, k_fraction_by, g_fraction_by, by decide, .nil, .nil, fun s us ws hK l1 l2 => match us, ws, l1, l2 with | [_, _], [], _, _ => .of_eq rfl⟩, rfl, rfl⟩; exact ⟨⟨f_is_whole, _, _, 1, [], [], PySem.W.mg_of X G0 a_is_whole, k_is_whole, g_is_whole, by decide, .nil, .nil, fun s us ws hK l1 l2 => match us, ws, l1, l2 with | [_], [], _, _ => .of_eq rfl⟩, rfl, rfl⟩)
  have g_stretches : FnG l.prog w K mg base 6 f_stretches _ ["way", "place"] (spOf K ⟨fun c => if c = 3 then .ref C_NoPlace else if c = 11 then .ref C_NoDrawing else if c = 14 then .ref C_NoSpot else .none, [(TA_law, "law.<locals>.<lambda>")], fun _ => none, [], []⟩ (G 533)) := fnG_of (k := 5) (G := G) (f := G 533) (fun_mk (st := s_stretches) l_stretches c_stretches k_stretches) sc_stretches rfl rfl rfl cb_stretches v_stretches_v2 con_nil bn_nil (by refine (all_cons ?_ (all_cons ?_ (all_cons ?_ (all_cons ?_ (all_cons ?_ (all_cons ?_ (all_cons ?_ (all_cons ?_ (all_cons ?_ (all_cons ?_ all_nil)))))))))); exact ⟨⟨f_need_way, _, _, 2, [], [], PySem.W.mg_of X G0 a_need_way, k_need_way, g_need_way, by decide, .nil, .nil, fun s us ws hK l1 l2 => match us, ws, l1, l2 with | [_], [], _, _ => .of_eq rfl⟩, rfl, rfl⟩; exact ⟨⟨f_need_place, _, _, 5, [], [], PySem.W.mg_of X G0 a_need_place, k_need_place, g_need_place, by decide, .nil, .nil, fun s us ws hK l1 l2 => match us, ws, l1, l2 with | [_], [], _, _ => .of_eq rfl⟩, rfl, rfl⟩; exact ⟨⟨f_is_drawn, _, _, 1, [], [], PySem.W.mg_of X G0 a_is_drawn, k_is_drawn, g_is_drawn, by decide, .nil, .nil, fun s us ws hK l1 l2 => match us, ws, l1, l2 with | [_, _], [], _, _ => .of_eq rfl⟩, rfl, rfl⟩; exact ⟨⟨f_fraction_of, _, _, 5, [], [], PySem.W.mg_of X G0 a_fraction_of, k_fraction_of, g_fraction_of, by decide, .nil, .nil, fun s us ws hK l1 l2 => match us, ws, l1, l2 with | [_], [_], _, _ => .of_eq rfl⟩, rfl, rfl⟩; exact ⟨⟨f_disc_stretches, _, _, 1, [], [], PySem.W.mg_of X G0 a_disc_stretches, k_disc_stretches, g_disc_stretches, by decide, .nil, .nil, fun s us ws hK l1 l2 => match us, ws, l1, l2 with | [_, _], [], _, _ => .of_eq rfl⟩, rfl, rfl⟩; exact ⟨⟨f_even_stretches, _, _, 1, [], [], PySem.W.mg_of X G0 a_even_stretches, k_even_stretches, g_even_stretches, by decide, .nil, .nil, fun s us ws hK l1 l2 => match us, ws, l1, l2 with | [_, _], [], _, _ => .of_eq rfl⟩, rfl, rfl⟩; exact ⟨⟨f_plain_stretches, _, _, 1, [], [], PySem.W.mg_of X G0 a_plain_stretches, k_plain_stretches, g_plain_stretches, by decide, .nil, .nil, fun s us ws hK l1 l2 => match us, ws, l1, l2 with | [_, _], [], _, _ => .of_eq rfl⟩, rfl, rfl⟩; exact ⟨⟨f_round_stretches, _, _, 1, [], [], PySem.W.mg_of X G0 a_round_stretches, k_round_stretches, g_round_stretches, by decide, .nil, .nil, fun s us ws hK l1 l2 => match us, ws, l1, l2 with | [_, _], [], _, _ => .of_eq rfl⟩, rfl, rfl⟩; exact ⟨⟨f_sight_stretches, _, _, 1, [], [], PySem.W.mg_of X G0 a_sight_stretches, k_sight_stretches, g_sight_stretches, by decide, .nil, .nil, fun s us ws hK l1 l2 => match us, ws, l1, l2 with | [_, _], [], _, _ => .of_eq rfl⟩, rfl, rfl⟩; exact ⟨⟨f_straight_stretches, _, _, 1, [], [], PySem.W.mg_of X G0 a_straight_stretches, k_straight_stretches, g_straight_stretches, by decide, .nil, .nil, fun s us ws hK l1 l2 => match us, ws, l1, l2 with | [_, _], [], _, _ => .of_eq rfl⟩, rfl, rfl⟩) (exc := (lk_cons ⟨⟨C_NoSpot, rfl, PySem.W.mg_of X G0 w_NoSpot, we_NoSpot, wk_NoSpot, ws_NoSpot, wt_NoSpot⟩⟩ lk_nil)) (dic := (lk_cons ⟨⟨A_STRETCHES, PySem.W.mg_of X G0 q_STRETCHES, (lk_cons ⟨f_disc_stretches, ⟨_, _, _, l_STRETCHES, kl_STRETCHES, e_STRETCHES_disc, rfl⟩, a_disc_stretches⟩ (lk_cons ⟨f_even_stretches, ⟨_, _, _, l_STRETCHES, kl_STRETCHES, e_STRETCHES_even, rfl⟩, a_even_stretches⟩ (lk_cons ⟨f_plain_stretches, ⟨_, _, _, l_STRETCHES, kl_STRETCHES, e_STRETCHES_plain, rfl⟩, a_plain_stretches⟩ (lk_cons ⟨f_round_stretches, ⟨_, _, _, l_STRETCHES, kl_STRETCHES, e_STRETCHES_round, rfl⟩, a_round_stretches⟩ (lk_cons ⟨f_sight_stretches, ⟨_, _, _, l_STRETCHES, kl_STRETCHES, e_STRETCHES_sight, rfl⟩, a_sight_stretches⟩ (lk_cons ⟨f_straight_stretches, ⟨_, _, _, l_STRETCHES, kl_STRETCHES, e_STRETCHES_straight, rfl⟩, a_straight_stretches⟩ lk_nil))))))⟩⟩ lk_nil)) (fnn := (all_cons ⟨f_disc_stretches, PySem.W.mg_of X G0 a_disc_stretches, a_disc_stretches⟩ (all_cons ⟨f_even_stretches, PySem.W.mg_of X G0 a_even_stretches, a_even_stretches⟩ (all_cons ⟨f_plain_stretches, PySem.W.mg_of X G0 a_plain_stretches, a_plain_stretches⟩ (all_cons ⟨f_round_stretches, PySem.W.mg_of X G0 a_round_stretches, a_round_stretches⟩ (all_cons ⟨f_sight_stretches, PySem.W.mg_of X G0 a_sight_stretches, a_sight_stretches⟩ (all_cons ⟨f_straight_stretches, PySem.W.mg_of X G0 a_straight_stretches, a_straight_stretches⟩ all_nil)))))))
  have g_law : FnG l.prog w K mg base 9 fa _ ["_law_script"] (spOf K ⟨fun c => if c = 3 then .ref C_NoPlace else if c = 11 then .ref C_NoDrawing else if c = 14 then .ref C_NoSpot else .none, [(TA_law, "law.<locals>.<lambda>")], fun _ => none, [], []⟩ (G 534)) := fnG_of (k := 8) (G := G) (f := G 534) (fun_mk (st := s_law) l_law c_law k_law) sc_law rfl rfl rfl cb_law v_law_v69 con_nil (bn_cons (PySem.W.mg_none_of X G0 z_range) (bn_cons (PySem.W.mg_none_of X G0 z_max) (bn_cons (PySem.W.mg_none_of X G0 z_min) (bn_cons (PySem.W.mg_none_of X G0 z_len) (bn_cons (PySem.W.mg_none_of X G0 z_repr) bn_nil))))) (by refine (all_cons ?_ (all_cons ?_ (all_cons ?_ (all_cons ?_ (all_cons ?_ (all_cons ?_ (all_cons ?_ all_nil))))))); exact ⟨⟨f__law_pool, _, _, 1, [], [], PySem.W.mg_of X G0 a__law_pool, k__law_pool, g__law_pool, by decide, .nil, .nil, fun s us ws hK l1 l2 => match us, ws, l1, l2 with | [_, _], [], _, _ => .of_eq rfl⟩, rfl, rfl⟩; exact ⟨⟨f__law_hard_place, _, _, 5, [], [], PySem.W.mg_of X G0 a__law_hard_place, k__law_hard_place, g__law_hard_place, by decide, .nil, .nil, fun s us ws hK l1 l2 => match us, ws, l1, l2 with | [_], [], _, _ => .of_eq rfl⟩, rfl, rfl⟩; exact ⟨⟨f__law_ways, _, _, 1, [], [], PySem.W.mg_of X G0 a__law_ways, k__law_ways, g__law_ways, by decide, .nil, .nil, fun s us ws hK l1 l2 => match us, ws, l1, l2 with | [], [], _, _ => .of_eq rfl⟩, rfl, rfl⟩; exact ⟨⟨f__law_is_drawn, _, _, 1, [], [], PySem.W.mg_of X G0 a__law_is_drawn, k__law_is_drawn, g__law_is_drawn, by decide, .nil, .nil, fun s us ws hK l1 l2 => match us, ws, l1, l2 with | [_, _], [], _, _ => .of_eq rfl⟩, rfl, rfl⟩; exact ⟨⟨f__law_take, _, _, 1, [], [], PySem.W.mg_of X G0 a__law_take, k__law_take, g__law_take, by decide, .nil, .nil, fun s us ws hK l1 l2 => match us, ws, l1, l2 with | [_, _], [], _, _ => .of_eq rfl⟩, rfl, rfl⟩; exact ⟨⟨f__law_stretches, _, _, 3, [], [], PySem.W.mg_of X G0 a__law_stretches, k__law_stretches, g__law_stretches, by decide, .nil, .nil, fun s us ws hK l1 l2 => match us, ws, l1, l2 with | [_, _], [], _, _ => .of_eq rfl⟩, rfl, rfl⟩; exact ⟨⟨f_stretches, _, _, 6, [], [], PySem.W.mg_of X G0 a_stretches, k_stretches, g_stretches, by decide, .nil, .nil, fun s us ws hK l1 l2 => match us, ws, l1, l2 with | [_, _], [], _, _ => .of_eq rfl⟩, rfl, rfl⟩) (lam := (lk_cons ⟨⟨f__law_met_kept, cA_law, TA_law, 6, PySem.W.mg_of X G0 a__law_met_kept, k__law_met_kept, by decide, gL__law_met_kept 7 (by decide), TB_law, rfl, List.mem_of_getElem? (i := 0) rfl, fun p hp e => by simp only [List.mem_cons, List.not_mem_nil, or_false] at hp; subst hp; rfl, (by refine (all_cons ?_ (all_cons ?_ (all_cons ?_ (all_cons ?_ (all_cons ?_ (all_cons ?_ (all_cons ?_ all_nil))))))); exact ⟨⟨f__law_pool, _, _, 1, [], [], PySem.W.mg_of X G0 a__law_pool, k__law_pool, g__law_pool, by decide, .nil, .nil, fun s us ws hK l1 l2 => match us, ws, l1, l2 with | [_, _], [], _, _ => .of_eq rfl⟩, rfl, rfl⟩; exact ⟨⟨f__law_hard_place, _, _, 5, [], [], PySem.W.mg_of X G0 a__law_hard_place, k__law_hard_place, g__law_hard_place, by decide, .nil, .nil, fun s us ws hK l1 l2 => match us, ws, l1, l2 with | [_], [], _, _ => .of_eq rfl⟩, rfl, rfl⟩; exact ⟨⟨f__law_ways, _, _, 1, [], [], PySem.W.mg_of X G0 a__law_ways, k__law_ways, g__law_ways, by decide, .nil, .nil, fun s us ws hK l1 l2 => match us, ws, l1, l2 with | [], [], _, _ => .of_eq rfl⟩, rfl, rfl⟩; exact ⟨⟨f__law_is_drawn, _, _, 1, [], [], PySem.W.mg_of X G0 a__law_is_drawn, k__law_is_drawn, g__law_is_drawn, by decide, .nil, .nil, fun s us ws hK l1 l2 => match us, ws, l1, l2 with | [_, _], [], _, _ => .of_eq rfl⟩, rfl, rfl⟩; exact ⟨⟨f__law_take, _, _, 1, [], [], PySem.W.mg_of X G0 a__law_take, k__law_take, g__law_take, by decide, .nil, .nil, fun s us ws hK l1 l2 => match us, ws, l1, l2 with | [_, _], [], _, _ => .of_eq rfl⟩, rfl, rfl⟩; exact ⟨⟨f__law_stretches, _, _, 3, [], [], PySem.W.mg_of X G0 a__law_stretches, k__law_stretches, g__law_stretches, by decide, .nil, .nil, fun s us ws hK l1 l2 => match us, ws, l1, l2 with | [_, _], [], _, _ => .of_eq rfl⟩, rfl, rfl⟩; exact ⟨⟨f_stretches, _, _, 6, [], [], PySem.W.mg_of X G0 a_stretches, k_stretches, g_stretches, by decide, .nil, .nil, fun s us ws hK l1 l2 => match us, ws, l1, l2 with | [_, _], [], _, _ => .of_eq rfl⟩, rfl, rfl⟩)⟩⟩ lk_nil)) (lamP := (lk_cons (fun pn _ => ⟨⟨f__law_met_kept, cA_law, TA_law, 6, PySem.W.mg_of X G0 a__law_met_kept, k__law_met_kept, by decide, gLP__law_met_kept 7 (by decide), TB_law, rfl, List.mem_of_getElem? (i := 0) rfl, fun p hp e => by simp only [List.mem_cons, List.not_mem_nil, or_false] at hp; subst hp; rfl, (by refine (all_cons ?_ (all_cons ?_ (all_cons ?_ (all_cons ?_ (all_cons ?_ (all_cons ?_ (all_cons ?_ all_nil))))))); exact ⟨⟨f__law_pool, _, _, 1, [], [], PySem.W.mg_of X G0 a__law_pool, k__law_pool, g__law_pool, by decide, .nil, .nil, fun s us ws hK l1 l2 => match us, ws, l1, l2 with | [_, _], [], _, _ => .of_eq rfl⟩, rfl, rfl⟩; exact ⟨⟨f__law_hard_place, _, _, 5, [], [], PySem.W.mg_of X G0 a__law_hard_place, k__law_hard_place, g__law_hard_place, by decide, .nil, .nil, fun s us ws hK l1 l2 => match us, ws, l1, l2 with | [_], [], _, _ => .of_eq rfl⟩, rfl, rfl⟩; exact ⟨⟨f__law_ways, _, _, 1, [], [], PySem.W.mg_of X G0 a__law_ways, k__law_ways, g__law_ways, by decide, .nil, .nil, fun s us ws hK l1 l2 => match us, ws, l1, l2 with | [], [], _, _ => .of_eq rfl⟩, rfl, rfl⟩; exact ⟨⟨f__law_is_drawn, _, _, 1, [], [], PySem.W.mg_of X G0 a__law_is_drawn, k__law_is_drawn, g__law_is_drawn, by decide, .nil, .nil, fun s us ws hK l1 l2 => match us, ws, l1, l2 with | [_, _], [], _, _ => .of_eq rfl⟩, rfl, rfl⟩; exact ⟨⟨f__law_take, _, _, 1, [], [], PySem.W.mg_of X G0 a__law_take, k__law_take, g__law_take, by decide, .nil, .nil, fun s us ws hK l1 l2 => match us, ws, l1, l2 with | [_, _], [], _, _ => .of_eq rfl⟩, rfl, rfl⟩; exact ⟨⟨f__law_stretches, _, _, 3, [], [], PySem.W.mg_of X G0 a__law_stretches, k__law_stretches, g__law_stretches, by decide, .nil, .nil, fun s us ws hK l1 l2 => match us, ws, l1, l2 with | [_, _], [], _, _ => .of_eq rfl⟩, rfl, rfl⟩; exact ⟨⟨f_stretches, _, _, 6, [], [], PySem.W.mg_of X G0 a_stretches, k_stretches, g_stretches, by decide, .nil, .nil, fun s us ws hK l1 l2 => match us, ws, l1, l2 with | [_, _], [], _, _ => .of_eq rfl⟩, rfl, rfl⟩)⟩⟩) lk_nil))
  exact g_law
set_option Elab.async false
end Lw
open PySem PySem.W PyProof.Rows
set_option maxRecDepth 100000 in
set_option maxHeartbeats 0 in
theorem PySem.Challenge.cw_leafglobe_k64_stretches_told_holds : PySem.Challenge.rw_leafglobe_k64_stretches_told.Holds := by
  w_on; o_law; k_head; (case hw => w_witness2)
  k_fill
  refine DI.walkLawT (l := PySem.Challenge.rw_leafglobe_k64_stretches_told) (n := 63) (k := 9) (x := "_law_script") rfl (by decide) rfl ⟨rfl, by decide, by decide⟩ (fun w h Y => ⟨PySem.W.km_in_of Y, PySem.W.km_tabs_of Y⟩) ?F
  case F =>
    intro w mg fa h KX G hmg
    refine' Lw.law_mk KX G hmg ?a__law_pool ?l__law_pool ?c__law_pool ?k__law_pool ?a__law_take ?l__law_take ?c__law_take ?k__law_take ?a__law_shared ?l__law_shared ?c__law_shared ?k__law_shared ?a__law_lowest ?l__law_lowest ?c__law_lowest ?k__law_lowest ?a__law_at ?l__law_at ?c__law_at ?k__law_at ?a__law_great ?l__law_great ?c__law_great ?k__law_great ?a__law_place ?l__law_place ?c__law_place ?k__law_place ?a__law_neighbours ?l__law_neighbours ?c__law_neighbours ?k__law_neighbours ?a__law_hard_place ?l__law_hard_place ?c__law_hard_place ?k__law_hard_place ?a__law_ways ?l__law_ways ?c__law_ways ?k__law_ways ?a__law_is_drawn ?l__law_is_drawn ?c__law_is_drawn ?k__law_is_drawn ?a__law_met_kept ?l__law_met_kept ?c__law_met_kept ?k__law_met_kept ?a__law_fraction ?l__law_fraction ?c__law_fraction ?k__law_fraction ?a__law_stretches ?l__law_stretches ?c__law_stretches ?k__law_stretches ?a_is_way ?l_is_way ?c_is_way ?k_is_way ?a_need_way ?l_need_way ?c_need_way ?k_need_way ?a_is_whole ?l_is_whole ?c_is_whole ?k_is_whole ?a_are_whole ?l_are_whole ?c_are_whole ?k_are_whole ?a_shared_part ?l_shared_part ?c_shared_part ?k_shared_part ?a_part_of_all ?l_part_of_all ?c_part_of_all ?k_part_of_all ?a_is_lowest ?l_is_lowest ?c_is_lowest ?k_is_lowest ?a_dot ?l_dot ?c_dot ?k_dot ?a_is_place ?l_is_place ?c_is_place ?k_is_place ?a_need_place ?l_need_place ?c_need_place ?k_need_place ?a_disc_stretches ?l_disc_stretches ?c_disc_stretches ?k_disc_stretches ?a_even_stretches ?l_even_stretches ?c_even_stretches ?k_even_stretches ?a_plain_stretches ?l_plain_stretches ?c_plain_stretches ?k_plain_stretches ?a_round_stretches ?l_round_stretches ?c_round_stretches ?k_round_stretches ?a_sight_stretches ?l_sight_stretches ?c_sight_stretches ?k_sight_stretches ?a_straight_stretches ?l_straight_stretches ?c_straight_stretches ?k_straight_stretches ?a_is_drawn ?l_is_drawn ?c_is_drawn ?k_is_drawn ?a_lowest_row ?l_lowest_row ?c_lowest_row ?k_lowest_row ?a_fraction_by ?l_fraction_by ?c_fraction_by ?k_fraction_by ?a_fraction_of ?l_fraction_of ?c_fraction_of ?k_fraction_of ?e_fraction_of_under ?a_stretches ?l_stretches ?c_stretches ?k_stretches ?a_law ?l_law ?c_law ?k_law ?tb_law ?tk_law ?th_law ?tm_law ?z_len ?z_max ?z_abs ?z_tuple ?z_range ?z_int ?z_isinstance ?z_str ?z_bool ?z_all ?z_min ?z_repr ?q_WAYS ?l_WAYS ?q_STRETCHES ?l_STRETCHES ?kl_STRETCHES ?e_STRETCHES_disc ?e_STRETCHES_even ?e_STRETCHES_plain ?e_STRETCHES_round ?e_STRETCHES_sight ?e_STRETCHES_straight ?w_NoPlace ?w_NoDrawing ?w_NoSpot ?w_NoHalvings ?w_NoFraction ?w_NoDirection ?w_NoMark ?w_NoPair ?w_NoTurn ?w_NoCircle ?w_NoSide ?w_LeafError ?we_NoPlace ?wk_NoPlace ?ws_NoPlace ?wt_NoPlace ?xg_NoPlace ?xk_NoPlace ?xd_NoPlace ?xa_NoPlace ?xn_NoPlace ?xt_NoPlace ?xm_NoPlace ?xiint_NoPlace ?xibool_NoPlace ?xituple_NoPlace ?xilist_NoPlace ?xistr_NoPlace ?ko_NoPlace_NoHalvings ?ko_NoPlace_NoFraction ?ko_NoPlace_NoDirection ?ko_NoPlace_NoMark ?ko_NoPlace_NoPair ?ko_NoPlace_NoTurn ?ko_NoPlace_NoDrawing ?ko_NoPlace_NoPlace ?ko_NoPlace_NoSpot ?ko_NoPlace_NoCircle ?ko_NoPlace_NoSide ?ko_NoPlace_ValueError ?eo_NoPlace_LeafError ?we_NoDrawing ?wk_NoDrawing ?ws_NoDrawing ?wt_NoDrawing ?xg_NoDrawing ?xk_NoDrawing ?xd_NoDrawing ?xa_NoDrawing ?xn_NoDrawing ?xt_NoDrawing ?xm_NoDrawing ?xiint_NoDrawing ?xibool_NoDrawing ?xituple_NoDrawing ?xilist_NoDrawing ?xistr_NoDrawing ?ko_NoDrawing_NoHalvings ?ko_NoDrawing_NoFraction ?ko_NoDrawing_NoDirection ?ko_NoDrawing_NoMark ?ko_NoDrawing_NoPair ?ko_NoDrawing_NoTurn ?ko_NoDrawing_NoDrawing ?ko_NoDrawing_NoPlace ?ko_NoDrawing_NoSpot ?ko_NoDrawing_NoCircle ?ko_NoDrawing_NoSide ?ko_NoDrawing_ValueError ?eo_NoDrawing_LeafError ?we_NoSpot ?wk_NoSpot ?ws_NoSpot ?wt_NoSpot ?xg_NoSpot ?xk_NoSpot ?xd_NoSpot ?xa_NoSpot ?xn_NoSpot ?xt_NoSpot ?xm_NoSpot ?xiint_NoSpot ?xibool_NoSpot ?xituple_NoSpot ?xilist_NoSpot ?xistr_NoSpot ?ko_NoSpot_NoHalvings ?ko_NoSpot_NoFraction ?ko_NoSpot_NoDirection ?ko_NoSpot_NoMark ?ko_NoSpot_NoPair ?ko_NoSpot_NoTurn ?ko_NoSpot_NoDrawing ?ko_NoSpot_NoPlace ?ko_NoSpot_NoSpot ?ko_NoSpot_NoCircle ?ko_NoSpot_NoSide ?ko_NoSpot_ValueError ?eo_NoSpot_LeafError ?z_ValueError
    (case a__law_pool => k_is)
    (case l__law_pool => k_is)
    (case c__law_pool => k_is)
    (case k__law_pool => k_is)
    (case a__law_take => k_is)
    (case l__law_take => k_is)
    (case c__law_take => k_is)
    (case k__law_take => k_is)
    (case a__law_shared => k_is)
    (case l__law_shared => k_is)
    (case c__law_shared => k_is)
    (case k__law_shared => k_is)
    (case a__law_lowest => k_is)
    (case l__law_lowest => k_is)
    (case c__law_lowest => k_is)
    (case k__law_lowest => k_is)
    (case a__law_at => k_is)
    (case l__law_at => k_is)
    (case c__law_at => k_is)
    (case k__law_at => k_is)
    (case a__law_great => k_is)
    (case l__law_great => k_is)
    (case c__law_great => k_is)
    (case k__law_great => k_is)
    (case a__law_place => k_is)
    (case l__law_place => k_is)
    (case c__law_place => k_is)
    (case k__law_place => k_is)
    (case a__law_neighbours => k_is)
    (case l__law_neighbours => k_is)
    (case c__law_neighbours => k_is)
    (case k__law_neighbours => k_is)
    (case a__law_hard_place => k_is)
    (case l__law_hard_place => k_is)
    (case c__law_hard_place => k_is)
    (case k__law_hard_place => k_is)
    (case a__law_ways => k_is)
    (case l__law_ways => k_is)
    (case c__law_ways => k_is)
    (case k__law_ways => k_is)
    (case a__law_is_drawn => k_is)
    (case l__law_is_drawn => k_is)
    (case c__law_is_drawn => k_is)
    (case k__law_is_drawn => k_is)
    (case a__law_met_kept => k_is)
    (case l__law_met_kept => k_is)
    (case c__law_met_kept => k_is)
    (case k__law_met_kept => k_is)
    (case a__law_fraction => k_is)
    (case l__law_fraction => k_is)
    (case c__law_fraction => k_is)
    (case k__law_fraction => k_is)
    (case a__law_stretches => k_is)
    (case l__law_stretches => k_is)
    (case c__law_stretches => k_is)
    (case k__law_stretches => k_is)
    (case a_is_way => k_is)
    (case l_is_way => k_is)
    (case c_is_way => k_is)
    (case k_is_way => k_is)
    (case a_need_way => k_is)
    (case l_need_way => k_is)
    (case c_need_way => k_is)
    (case k_need_way => k_is)
    (case a_is_whole => k_is)
    (case l_is_whole => k_is)
    (case c_is_whole => k_is)
    (case k_is_whole => k_is)
    (case a_are_whole => k_is)
    (case l_are_whole => k_is)
    (case c_are_whole => k_is)
    (case k_are_whole => k_is)
    (case a_shared_part => k_is)
    (case l_shared_part => k_is)
    (case c_shared_part => k_is)
    (case k_shared_part => k_is)
    (case a_part_of_all => k_is)
    (case l_part_of_all => k_is)
    (case c_part_of_all => k_is)
    (case k_part_of_all => k_is)
    (case a_is_lowest => k_is)
    (case l_is_lowest => k_is)
    (case c_is_lowest => k_is)
    (case k_is_lowest => k_is)
    (case a_dot => k_is)
    (case l_dot => k_is)
    (case c_dot => k_is)
    (case k_dot => k_is)
    (case a_is_place => k_is)
    (case l_is_place => k_is)
    (case c_is_place => k_is)
    (case k_is_place => k_is)
    (case a_need_place => k_is)
    (case l_need_place => k_is)
    (case c_need_place => k_is)
    (case k_need_place => k_is)
    (case a_disc_stretches => k_is)
    (case l_disc_stretches => k_is)
    (case c_disc_stretches => k_is)
    (case k_disc_stretches => k_is)
    (case a_even_stretches => k_is)
    (case l_even_stretches => k_is)
    (case c_even_stretches => k_is)
    (case k_even_stretches => k_is)
    (case a_plain_stretches => k_is)
    (case l_plain_stretches => k_is)
    (case c_plain_stretches => k_is)
    (case k_plain_stretches => k_is)
    (case a_round_stretches => k_is)
    (case l_round_stretches => k_is)
    (case c_round_stretches => k_is)
    (case k_round_stretches => k_is)
    (case a_sight_stretches => k_is)
    (case l_sight_stretches => k_is)
    (case c_sight_stretches => k_is)
    (case k_sight_stretches => k_is)
    (case a_straight_stretches => k_is)
    (case l_straight_stretches => k_is)
    (case c_straight_stretches => k_is)
    (case k_straight_stretches => k_is)
    (case a_is_drawn => k_is)
    (case l_is_drawn => k_is)
    (case c_is_drawn => k_is)
    (case k_is_drawn => k_is)
    (case a_lowest_row => k_is)
    (case l_lowest_row => k_is)
    (case c_lowest_row => k_is)
    (case k_lowest_row => k_is)
    (case a_fraction_by => k_is)
    (case l_fraction_by => k_is)
    (case c_fraction_by => k_is)
    (case k_fraction_by => k_is)
    (case a_fraction_of => k_is)
    (case l_fraction_of => k_is)
    (case c_fraction_of => k_is)
    (case k_fraction_of => k_is)
    (case e_fraction_of_under => k_is)
    (case a_stretches => k_is)
    (case l_stretches => k_is)
    (case c_stretches => k_is)
    (case k_stretches => k_is)
    (case a_law => k_is)
    (case l_law => k_is)
    (case c_law => k_is)
    (case k_law => k_is)
    (case tb_law => first | k_is | rfl)
    (case tk_law => first | k_is | rfl)
    (case th_law => first | k_is | rfl)
    (case tm_law => simp)
    (case z_len => k_is)
    (case z_max => k_is)
    (case z_abs => k_is)
    (case z_tuple => k_is)
    (case z_range => k_is)
    (case z_int => k_is)
    (case z_isinstance => k_is)
    (case z_str => k_is)
    (case z_bool => k_is)
    (case z_all => k_is)
    (case z_min => k_is)
    (case z_repr => k_is)
    (case q_WAYS => k_is)
    (case l_WAYS => k_is)
    (case q_STRETCHES => k_is)
    (case l_STRETCHES => k_is)
    (case kl_STRETCHES => exact ⟨⟨_, _, rfl, rfl⟩, ⟨⟨_, _, rfl, rfl⟩, ⟨⟨_, _, rfl, rfl⟩, ⟨⟨_, _, rfl, rfl⟩, ⟨⟨_, _, rfl, rfl⟩, ⟨⟨_, _, rfl, rfl⟩, trivial⟩⟩⟩⟩⟩⟩)
    (case e_STRETCHES_disc => k_is)
    (case e_STRETCHES_even => k_is)
    (case e_STRETCHES_plain => k_is)
    (case e_STRETCHES_round => k_is)
    (case e_STRETCHES_sight => k_is)
    (case e_STRETCHES_straight => k_is)
    (case w_NoPlace => k_is)
    (case w_NoDrawing => k_is)
    (case w_NoSpot => k_is)
    (case w_NoHalvings => k_is)
    (case w_NoFraction => k_is)
    (case w_NoDirection => k_is)
    (case w_NoMark => k_is)
    (case w_NoPair => k_is)
    (case w_NoTurn => k_is)
    (case w_NoCircle => k_is)
    (case w_NoSide => k_is)
    (case w_LeafError => k_is)
    (case we_NoPlace => k_exc)
    (case wk_NoPlace => k_is)
    (case ws_NoPlace => k_is)
    (case wt_NoPlace => k_is)
    (case xg_NoPlace => k_is)
    (case xk_NoPlace => k_is)
    (case xd_NoPlace => k_is)
    (case xa_NoPlace => k_is)
    (case xn_NoPlace => k_is)
    (case xt_NoPlace => k_is)
    (case xm_NoPlace => k_is)
    (case xiint_NoPlace => k_is)
    (case xibool_NoPlace => k_is)
    (case xituple_NoPlace => k_is)
    (case xilist_NoPlace => k_is)
    (case xistr_NoPlace => k_is)
    (case ko_NoPlace_NoHalvings => exact Lw.kit_refN (by decide) (by k_is) (by k_is) (by k_is))
    (case ko_NoPlace_NoFraction => exact Lw.kit_refN (by decide) (by k_is) (by k_is) (by k_is))
    (case ko_NoPlace_NoDirection => exact Lw.kit_refN (by decide) (by k_is) (by k_is) (by k_is))
    (case ko_NoPlace_NoMark => exact Lw.kit_refN (by decide) (by k_is) (by k_is) (by k_is))
    (case ko_NoPlace_NoPair => exact Lw.kit_refN (by decide) (by k_is) (by k_is) (by k_is))
    (case ko_NoPlace_NoTurn => exact Lw.kit_refN (by decide) (by k_is) (by k_is) (by k_is))
    (case ko_NoPlace_NoDrawing => exact Lw.kit_refN (by decide) (by k_is) (by k_is) (by k_is))
    (case ko_NoPlace_NoPlace => exact DI.kit_self)
    (case ko_NoPlace_NoSpot => exact Lw.kit_refN (by decide) (by k_is) (by k_is) (by k_is))
    (case ko_NoPlace_NoCircle => exact Lw.kit_refN (by decide) (by k_is) (by k_is) (by k_is))
    (case ko_NoPlace_NoSide => exact Lw.kit_refN (by decide) (by k_is) (by k_is) (by k_is))
    (case ko_NoPlace_ValueError => exact DI.kit_ty' (by decide +kernel) (by k_is))
    (case eo_NoPlace_LeafError => exact PySem.W.exm_ref (by k_is) (by k_is) (by k_is) (by k_is))
    (case we_NoDrawing => k_exc)
    (case wk_NoDrawing => k_is)
    (case ws_NoDrawing => k_is)
    (case wt_NoDrawing => k_is)
    (case xg_NoDrawing => k_is)
    (case xk_NoDrawing => k_is)
    (case xd_NoDrawing => k_is)
    (case xa_NoDrawing => k_is)
    (case xn_NoDrawing => k_is)
    (case xt_NoDrawing => k_is)
    (case xm_NoDrawing => k_is)
    (case xiint_NoDrawing => k_is)
    (case xibool_NoDrawing => k_is)
    (case xituple_NoDrawing => k_is)
    (case xilist_NoDrawing => k_is)
    (case xistr_NoDrawing => k_is)
    (case ko_NoDrawing_NoHalvings => exact Lw.kit_refN (by decide) (by k_is) (by k_is) (by k_is))
    (case ko_NoDrawing_NoFraction => exact Lw.kit_refN (by decide) (by k_is) (by k_is) (by k_is))
    (case ko_NoDrawing_NoDirection => exact Lw.kit_refN (by decide) (by k_is) (by k_is) (by k_is))
    (case ko_NoDrawing_NoMark => exact Lw.kit_refN (by decide) (by k_is) (by k_is) (by k_is))
    (case ko_NoDrawing_NoPair => exact Lw.kit_refN (by decide) (by k_is) (by k_is) (by k_is))
    (case ko_NoDrawing_NoTurn => exact Lw.kit_refN (by decide) (by k_is) (by k_is) (by k_is))
    (case ko_NoDrawing_NoDrawing => exact DI.kit_self)
    (case ko_NoDrawing_NoPlace => exact Lw.kit_refN (by decide) (by k_is) (by k_is) (by k_is))
    (case ko_NoDrawing_NoSpot => exact Lw.kit_refN (by decide) (by k_is) (by k_is) (by k_is))
    (case ko_NoDrawing_NoCircle => exact Lw.kit_refN (by decide) (by k_is) (by k_is) (by k_is))
    (case ko_NoDrawing_NoSide => exact Lw.kit_refN (by decide) (by k_is) (by k_is) (by k_is))
    (case ko_NoDrawing_ValueError => exact DI.kit_ty' (by decide +kernel) (by k_is))
    (case eo_NoDrawing_LeafError => exact PySem.W.exm_ref (by k_is) (by k_is) (by k_is) (by k_is))
    (case we_NoSpot => k_exc)
    (case wk_NoSpot => k_is)
    (case ws_NoSpot => k_is)
    (case wt_NoSpot => k_is)
    (case xg_NoSpot => k_is)
    (case xk_NoSpot => k_is)
    (case xd_NoSpot => k_is)
    (case xa_NoSpot => k_is)
    (case xn_NoSpot => k_is)
    (case xt_NoSpot => k_is)
    (case xm_NoSpot => k_is)
    (case xiint_NoSpot => k_is)
    (case xibool_NoSpot => k_is)
    (case xituple_NoSpot => k_is)
    (case xilist_NoSpot => k_is)
    (case xistr_NoSpot => k_is)
    (case ko_NoSpot_NoHalvings => exact Lw.kit_refN (by decide) (by k_is) (by k_is) (by k_is))
    (case ko_NoSpot_NoFraction => exact Lw.kit_refN (by decide) (by k_is) (by k_is) (by k_is))
    (case ko_NoSpot_NoDirection => exact Lw.kit_refN (by decide) (by k_is) (by k_is) (by k_is))
    (case ko_NoSpot_NoMark => exact Lw.kit_refN (by decide) (by k_is) (by k_is) (by k_is))
    (case ko_NoSpot_NoPair => exact Lw.kit_refN (by decide) (by k_is) (by k_is) (by k_is))
    (case ko_NoSpot_NoTurn => exact Lw.kit_refN (by decide) (by k_is) (by k_is) (by k_is))
    (case ko_NoSpot_NoDrawing => exact Lw.kit_refN (by decide) (by k_is) (by k_is) (by k_is))
    (case ko_NoSpot_NoPlace => exact Lw.kit_refN (by decide) (by k_is) (by k_is) (by k_is))
    (case ko_NoSpot_NoSpot => exact DI.kit_self)
    (case ko_NoSpot_NoCircle => exact Lw.kit_refN (by decide) (by k_is) (by k_is) (by k_is))
    (case ko_NoSpot_NoSide => exact Lw.kit_refN (by decide) (by k_is) (by k_is) (by k_is))
    (case ko_NoSpot_ValueError => exact DI.kit_ty' (by decide +kernel) (by k_is))
    (case eo_NoSpot_LeafError => exact PySem.W.exm_ref (by k_is) (by k_is) (by k_is) (by k_is))
    (case z_ValueError => k_is)
#print axioms PySem.Challenge.cw_leafglobe_k64_stretches_told_holds
