import PyProof.Rows.All
import Wide.All
import OpenK.AllK
import Wide.FinOn
import HandS.ForMost
import HandS.Deep
import HandS.Wide
import HandS.TupAny
import HandS.Style
import HandS.SortInts
import HandS.IsInst
import HandS.Codes
import HandS.Conv
import HandS.Iter
import HandS.Lambda
import HandS.SetFor
import HandS.Strs
import HandS.NoneIn
import HandS.More
import PyProof.ReprRoads
import KE.KDictDisplayH
import KE.SortData
import PySem.Challenge.RW_codemail_k11_whole_bars
set_option Elab.async false
set_option linter.all false
set_option maxRecDepth 100000
/-! Mi, first part: what a def does, as a plain function (the mirror's words). -/
namespace Mi
open PySem

inductive Val where
  | non | bl (b : Bool) | int (i : Int) | str (s : Str) | ref (n : Nat)
  | lst (xs : List Val) | tup (xs : List Val)
  /-- a lambda of the kind i, with what it captured -/
  | fn (i : Nat) (cs : List Val)

/-- what stands at a place of the store -/
inductive Cell where
  | lst (xs : List Val)
  | ins (C : Nat) (vs : List Val)
  | dk (kvs : List (L2.Key × Val))
  | dt (kvs : List (List L2.Key × Val))
  /-- the k-th table of code objects -/
  | tb (k : Nat)

abbrev Sto := List Cell
inductive Slot where
  | no | val (v : Val) | own (xs : List Val)
abbrev Sl := List Slot

abbrev E := Sl → Sto → Option (Val × Sto)
abbrev T := Sl → Sto → Option (Bool × Sto)
abbrev L := Sl → Sto → Option (List Val × Sto)
inductive Out where
  | nx | rt (v : Val) | bk | ct
abbrev S := Sl → Sto → Option (Out × Sl × Sto)
abbrev G := Val → Sl → Sto → Option Sl
abbrev F := List Val → Sto → Option (Val × Sto)

/-! ### values -/
def viewL (st : Sto) : Val → Option (List Val)
  | .lst xs => some xs
  | .tup xs => some xs
  | .ref n => match st[n]? with
    | some (.lst xs) => some xs
    | _ => none
  | _ => none
/-- .. lists alone -/
def viewQ (st : Sto) : Val → Option (List Val)
  | .lst xs => some xs
  | .ref n => match st[n]? with
    | some (.lst xs) => some xs
    | _ => none
  | _ => none
/-- a value as data -/
def pd (st : Sto) : Nat → Val → Option PyData
  | _, .non => some .none
  | _, .bl b => some (.bool b)
  | _, .int i => some (.int i)
  | _, .str s => if PyData.canLay0 (.str s) then some (.str s) else none
  | 0, _ => none
  | _, .fn _ _ => none
  | n + 1, .lst xs => (xs.mapM (pd st n)).map .list
  | n + 1, .tup xs => (xs.mapM (pd st n)).map .tuple
  | n + 1, .ref r => match st[r]? with
    | some (.lst xs) => (xs.mapM (pd st n)).map .list
    | _ => none
def deep : Nat := 20
def veq (st : Sto) (x y : Val) : Option Bool := (pd st deep x).bind fun a => (pd st deep y).bind fun b => some (PyData.eqv a b)
def flat : Val → Bool
  | .non => true
  | .bl _ => true
  | .int _ => true
  | .str _ => true
  | _ => false
/-- == of flat values -/
def feq : Val → Val → Bool
  | .non, .non => true
  | .bl a, .bl b => a == b
  | .bl a, .int b => (if a then 1 else 0) == b
  | .int a, .bl b => a == (if b then 1 else 0)
  | .int a, .int b => a == b
  | .str a, .str b => a == b
  | _, _ => false
def fin (x : Val) (xs : List Val) : Bool := xs.any fun y => feq y x
def isLst : Val → Bool
  | .tup _ => false
  | _ => true
def vin (st : Sto) (x y : Val) : Option Bool := (viewL st y).bind fun xs =>
  if flat x && xs.all flat then some (fin x xs) else
  if isLst y then (pd st deep x).bind fun d => (xs.mapM (pd st deep)).bind fun ds => some (ds.any fun z => PyData.eqv z d) else none

/-! ### expressions -/
def eC (v : Val) : E := fun _ st => some (v, st)
def eVar (i : Nat) : E := fun sl st => match sl[i]? with
  | some (.val v) => some (v, st)
  | _ => none
/-- an owned list is read, too -/
def eVarO (i : Nat) : E := fun sl st => match sl[i]? with
  | some (.val v) => some (v, st)
  | some (.own xs) => some (.lst xs, st)
  | _ => none
def e1 (op : Sto → Val → Option Val) (a : E) : E := fun sl st => (a sl st).bind fun p => (op p.2 p.1).bind fun z => some (z, p.2)
def e2 (op : Sto → Val → Val → Option Val) (a b : E) : E := fun sl st => (a sl st).bind fun p => (b sl p.2).bind fun q => (op q.2 p.1 q.1).bind fun z => some (z, q.2)
def oI (f : Int → Int → Int) : Sto → Val → Val → Option Val
  | _, .int i, .int j => some (.int (f i j))
  | _, _, _ => none
def oIc (c : Int → Int → Bool) (f : Int → Int → Int) : Sto → Val → Val → Option Val
  | _, .int i, .int j => if c i j then some (.int (f i j)) else none
  | _, _, _ => none
def oB (f : Int → Int → Bool) : Sto → Val → Val → Option Val
  | _, .int i, .int j => some (.bl (f i j))
  | _, _, _ => none
def big : Nat := 2 ^ 400
/-- + : numbers, lists, tuples -/
def oAdd : Sto → Val → Val → Option Val
  | _, .int i, .int j => some (.int (i + j))
  | _, .tup xs, .tup ys => if xs.length + ys.length ≤ 100000 then some (.tup (xs ++ ys)) else none
  | st, x, y => (viewQ st x).bind fun xs => (viewQ st y).bind fun ys => if xs.length + ys.length ≤ 100000 then some (.lst (xs ++ ys)) else none
def oSub := oI fun i j => i - j
def oMulI := oIc (fun i j => decide (i.natAbs < big) && decide (j.natAbs < big)) fun i j => i * j
/-- * : numbers, a list and a number -/
def oMul : Sto → Val → Val → Option Val
  | st, .int i, .int j => oMulI st (.int i) (.int j)
  | st, x, .int k => (viewQ st x).bind fun xs => if -1000000 ≤ k ∧ k ≤ 1000000 ∧ xs.length * k.toNat ≤ 100000 then some (.lst (List.replicate k.toNat xs).flatten) else none
  | _, _, _ => none
def oMod := oIc (fun _ j => decide (0 < j)) fun i j => i % j
def oDiv := oIc (fun _ j => decide (0 < j) && decide (j < 1073741824)) fun i j => i / j
def oPow := oIc (fun i j => decide (0 ≤ j) && decide (j ≤ 1000) && decide (i.natAbs < 2 ^ 64)) fun i j => i ^ j.toNat
def oShl := oIc (fun i j => decide (0 ≤ j) && decide (j ≤ 1000) && decide (i.natAbs < 2 ^ 64)) fun i j => i * 2 ^ j.toNat
def oShr := oIc (fun _ j => decide (0 ≤ j)) fun i j => i / 2 ^ j.toNat
def oAnd := oI fun i j => Builtin.bitAnd i j
/-- ≤, < of numbers, by their build (for the kernel's sake) -/
def leB : Int → Int → Bool
  | .ofNat a, .ofNat b => Nat.ble a b
  | .negSucc _, .ofNat _ => true
  | .ofNat _, .negSucc _ => false
  | .negSucc a, .negSucc b => Nat.ble b a
theorem leB_eq (i j : Int) : leB i j = decide (i ≤ j) := by
  rw [Bool.eq_iff_iff, decide_eq_true_iff]
  cases i with
  | ofNat a => cases j with
    | ofNat b =>
      show Nat.ble a b = true ↔ (a : Int) ≤ (b : Int)
      rw [Nat.ble_eq]
      omega
    | negSucc b =>
      have h : Int.negSucc b = -((b : Int) + 1) := Int.negSucc_eq b
      rw [h]
      constructor
      · intro z; cases z
      · intro z; have z : (a : Int) ≤ -((b : Int) + 1) := z; omega
  | negSucc a => cases j with
    | ofNat b =>
      have h : Int.negSucc a = -((a : Int) + 1) := Int.negSucc_eq a
      rw [h]
      constructor
      · intro _; show -((a : Int) + 1) ≤ (b : Int); omega
      · intro _; rfl
    | negSucc b =>
      rw [Int.negSucc_eq a, Int.negSucc_eq b]
      show Nat.ble b a = true ↔ _
      rw [Nat.ble_eq]
      omega
def ltB (i j : Int) : Bool := !leB j i
theorem ltB_eq (i j : Int) : ltB i j = decide (i < j) := by
  unfold ltB
  rw [leB_eq, ← decide_not]
  exact decide_eq_decide.mpr (by omega)
def oLt := oB ltB
def oLe := oB leB
def oGt := oB fun i j => ltB j i
def oGe := oB fun i j => leB j i
def oEq : Sto → Val → Val → Option Val := fun st x y => (veq st x y).map .bl
def oNe : Sto → Val → Val → Option Val := fun st x y => (veq st x y).map fun b => .bl (!b)
def oIn : Sto → Val → Val → Option Val := fun st x y => (vin st x y).map .bl
def oNin : Sto → Val → Val → Option Val := fun st x y => (vin st x y).map fun b => .bl (!b)
/-- is, is not, with True, False -/
def oIs : Sto → Val → Val → Option Val
  | _, .bl a, .bl b => some (.bl (a == b))
  | _, _, _ => none
def oIsn : Sto → Val → Val → Option Val
  | _, .bl a, .bl b => some (.bl (!(a == b)))
  | _, _, _ => none
/-- x[i] -/
def oIx : Sto → Val → Val → Option Val
  | st, x, .int i => (viewL st x).bind fun xs => L2.atI xs i
  | _, _, _ => none
def oNeg : Sto → Val → Option Val
  | _, .int i => some (.int (-i))
  | _, _ => none
def oAbs : Sto → Val → Option Val
  | _, .int i => some (.int (if i < 0 then -i else i))
  | _, _ => none
def oInt : Sto → Val → Option Val
  | _, .bl b => some (.int (if b then 1 else 0))
  | _, .int i => some (.int i)
  | _, _ => none
def oLen : Sto → Val → Option Val := fun st x => (viewL st x).bind fun xs => some (.int (xs.length : Nat))

/-! ### tests -/
def tE (e : E) : T := fun sl st => (e sl st).bind fun p => match p.1 with
  | .bl b => some (b, p.2)
  | _ => none
def tAnd (a b : T) : T := fun sl st => (a sl st).bind fun p => if p.1 then b sl p.2 else some (false, p.2)
def tOr (a b : T) : T := fun sl st => (a sl st).bind fun p => if p.1 then some (true, p.2) else b sl p.2
def tNot (a : T) : T := fun sl st => (a sl st).bind fun p => some (!p.1, p.2)
def eIf (t : T) (a b : E) : E := fun sl st => (t sl st).bind fun p => if p.1 then a sl p.2 else b sl p.2
/-- and, or, not of truths as values -/
def eAnd (a b : E) : E := fun sl st => (a sl st).bind fun p => match p.1 with
  | .bl true => b sl p.2
  | .bl false => some (.bl false, p.2)
  | _ => none
def eOr (a b : E) : E := fun sl st => (a sl st).bind fun p => match p.1 with
  | .bl true => some (.bl true, p.2)
  | .bl false => b sl p.2
  | _ => none
def eNot (a : E) : E := fun sl st => (a sl st).bind fun p => match p.1 with
  | .bl b => some (.bl (!b), p.2)
  | _ => none
/-- a < b < c -/
def eCh (op op' : Sto → Val → Val → Option Val) (a b c : E) : E := fun sl st => (a sl st).bind fun p => (b sl p.2).bind fun q => (op q.2 p.1 q.1).bind fun z => match z with
  | .bl true => (c sl q.2).bind fun r => (op' r.2 q.1 r.1).bind fun z' => match z' with
    | .bl b => some (.bl b, r.2)
    | _ => none
  | .bl false => some (.bl false, q.2)
  | _ => none

/-! ### lists of expressions, displays -/
def aNil : L := fun _ st => some ([], st)
def aCons (a : E) (r : L) : L := fun sl st => (a sl st).bind fun p => (r sl p.2).bind fun q => some (p.1 :: q.1, q.2)
def eTup (a : L) : E := fun sl st => (a sl st).bind fun p => if p.1.length ≤ 100000 then some (.tup p.1, p.2) else none
/-- a new list as data, as a place of the store -/
def eD (l : L) : E := fun sl st => (l sl st).bind fun p => some (.lst p.1, p.2)
def eK (l : L) : E := fun sl st => (l sl st).bind fun p => some (.ref p.2.length, p.2 ++ [.lst p.1])
def lDisp (a : L) : L := fun sl st => (a sl st).bind fun p => if p.1.length ≤ 100000 then some p else none
/-- a new list by an operation -/
def l1 (op : Sto → Val → Option (List Val)) (a : E) : L := fun sl st => (a sl st).bind fun p => (op p.2 p.1).bind fun z => some (z, p.2)
def l2 (op : Sto → Val → Val → Option (List Val)) (a b : E) : L := fun sl st => (a sl st).bind fun p => (b sl p.2).bind fun q => (op q.2 p.1 q.1).bind fun z => some (z, q.2)
def oCat : Sto → Val → Val → Option (List Val) := fun st x y => (viewQ st x).bind fun xs => (viewQ st y).bind fun ys => if xs.length + ys.length ≤ 100000 then some (xs ++ ys) else none
def oRep : Sto → Val → Val → Option (List Val)
  | st, x, .int k => (viewQ st x).bind fun xs => if -1000000 ≤ k ∧ k ≤ 1000000 ∧ xs.length * k.toNat ≤ 100000 then some (List.replicate k.toNat xs).flatten else none
  | _, _, _ => none
def oList : Sto → Val → Option (List Val) := fun st x => viewL st x
def allInt : List Val → Option (List Int)
  | [] => some []
  | .int i :: r => (allInt r).bind fun l => some (i :: l)
  | _ => none
/-- in rising order -/
def insI (i : Int) : List Int → List Int
  | [] => [i]
  | j :: r => if i ≤ j then i :: j :: r else j :: insI i r
def sortI : List Int → List Int
  | [] => []
  | i :: r => insI i (sortI r)
def oSort : Sto → Val → Option (List Val) := fun st x => (viewQ st x).bind fun xs => (allInt xs).bind fun ns => some ((sortI ns).map .int)
/-- sorted(set(x)): each once, rising -/
def insU (i : Int) : List Int → List Int
  | [] => [i]
  | j :: r => if i < j then i :: j :: r else if i = j then j :: r else j :: insU i r
def sortU : List Int → List Int
  | [] => []
  | i :: r => insU i (sortU r)
def oSortU : Sto → Val → Option (List Val) := fun st x => (viewQ st x).bind fun xs => (allInt xs).bind fun ns => if ns.length < 64 then some ((sortU ns).map .int) else none
/-- len(set(x)) -/
def oLenU : Sto → Val → Option Val := fun st x => (viewQ st x).bind fun xs => (allInt xs).bind fun ns => if ns.length < 64 then some (.int ((sortU ns).length : Nat)) else none
/-- list(range(n)), list(range(a, b)) -/
def oRg1 : Sto → Val → Option (List Val)
  | _, .int n => if -1000000 ≤ n ∧ n ≤ 100000 then some ((List.range n.toNat).map fun i => .int (i : Nat)) else none
  | _, _ => none
def oRg2 : Sto → Val → Val → Option (List Val)
  | _, .int a, .int b => if -1000000 ≤ a ∧ a ≤ 1000000 ∧ -1000000 ≤ b ∧ b ≤ 100000 ∧ b - a ≤ 100000 then some ((List.range (b - a).toNat).map fun i => .int (a + (i : Nat))) else none
  | _, _, _ => none
def oRev : Sto → Val → Option (List Val) := fun st x => (viewQ st x).bind fun xs => some xs.reverse
/-- x[a:b], ends that may lack -/
abbrev P := Sl → Sto → Option (Option Int × Sto)
def pN : P := fun _ st => some (none, st)
def pS (e : E) : P := fun sl st => (e sl st).bind fun p => match p.1 with
  | .int i => some (some i, p.2)
  | _ => none
def cut {α : Type} (xs : List α) (lo hi : Option Int) : List α := (xs.drop (HT.sIx xs.length 0 lo)).take (HT.sIx xs.length xs.length hi - HT.sIx xs.length 0 lo)
def lSl (a : E) (lo hi : P) : L := fun sl st => (a sl st).bind fun p => (lo sl p.2).bind fun q => (hi sl q.2).bind fun r => (viewQ r.2 p.1).bind fun xs => some (cut xs q.1 r.1, r.2)
/-- .. of a list or a tuple -/
def eSl (a : E) (lo hi : P) : E := fun sl st => (a sl st).bind fun p => (lo sl p.2).bind fun q => (hi sl q.2).bind fun r => match p.1 with
  | .tup xs => some (.tup (cut xs q.1 r.1), r.2)
  | x => (viewQ r.2 x).bind fun xs => some (.lst (cut xs q.1 r.1), r.2)

/-! ### what is walked -/
inductive Src where
  | seq (v : Val) | rng (lo : Int) (n : Nat) | enum (v : Val) | zip (v w : Val)
abbrev I := Sl → Sto → Option (Src × Sto)
/-- the item at a turn: none where it can't be told, some none behind the last -/
def Src.item (st : Sto) : Src → Nat → Option (Option Val)
  | .seq v, i => (viewL st v).bind fun xs => some xs[i]?
  | .rng lo n, i => some (if i < n then some (.int (lo + (i : Nat))) else none)
  | .enum v, i => (viewQ st v).bind fun xs => some (xs[i]?.map fun x => .tup [.int (i : Nat), x])
  | .zip v w, i => (viewQ st v).bind fun xs => (viewQ st w).bind fun ys => some (match xs[i]?, ys[i]? with
    | some x, some y => some (.tup [x, y])
    | _, _ => none)
def Src.len (st : Sto) : Src → Nat
  | .seq v => ((viewL st v).getD []).length
  | .rng _ n => n
  | .enum v => ((viewQ st v).getD []).length
  | .zip v _ => ((viewQ st v).getD []).length
def iSeq (e : E) : I := fun sl st => (e sl st).bind fun p => (viewL p.2 p.1).bind fun _ => some (.seq p.1, p.2)
def iRg1 (e : E) : I := fun sl st => (e sl st).bind fun p => match p.1 with
  | .int n => if -1000000 ≤ n ∧ n ≤ 1000000 then some (.rng 0 n.toNat, p.2) else none
  | _ => none
def iRg2 (a b : E) : I := fun sl st => (a sl st).bind fun p => (b sl p.2).bind fun q => match p.1, q.1 with
  | .int i, .int j => if -1000000 ≤ i ∧ i ≤ 1000000 ∧ -1000000 ≤ j ∧ j ≤ 1000000 then some (.rng i (j - i).toNat, q.2) else none
  | _, _ => none
/-- range(a, b, c), c above 0 -/
def iEnum (e : E) : I := fun sl st => (e sl st).bind fun p => (viewQ p.2 p.1).bind fun _ => some (.enum p.1, p.2)
def iZip (a b : E) : I := fun sl st => (a sl st).bind fun p => (b sl p.2).bind fun q => (viewQ q.2 p.1).bind fun _ => (viewQ q.2 q.1).bind fun _ => some (.zip p.1 q.1, q.2)

/-! ### targets -/
def gName (i : Nat) : G := fun v sl _ => if i < sl.length then some (sl.set i (.val v)) else none
abbrev Gs := List Val → Sl → Sto → Option Sl
def gNil : Gs := fun vs sl _ => match vs with
  | [] => some sl
  | _ => none
def gCons (g : G) (r : Gs) : Gs := fun vs sl st => match vs with
  | v :: vs => (g v sl st).bind fun sl => r vs sl st
  | _ => none
def gTup (n : Nat) (r : Gs) : G := fun v sl st => match v with
  | .tup xs => if xs.length = n then r xs sl st else none
  | _ => none
/-- .. a list is taken apart, too -/
def gSeq (n : Nat) (r : Gs) : G := fun v sl st => (viewL st v).bind fun xs => if xs.length = n then r xs sl st else none

/-! ### comprehensions -/
def wipe (sl : Sl) : List Nat → Sl
  | [] => sl
  | i :: r => (wipe sl r).set i .no
/-- no slot of these is a list of its own -/
def noOwn (sl : Sl) : List Nat → Bool
  | [] => true
  | i :: r => (match sl[i]? with
    | some (.own _) => false
    | _ => true) && noOwn sl r
def lcLoop (src : Src) (vs : List Nat) (g : G) (t : T) (e : E) (sl : Sl) : Nat → Nat → List Val → Sto → Option (List Val × Sto)
  | n, i, acc, st => match src.item st i with
    | some (some x) => match n with
      | 0 => none
      | n + 1 => (g x (wipe sl vs) st).bind fun sl1 => (t sl1 st).bind fun p =>
        if p.1 then (e sl1 p.2).bind fun q => if acc.length < 100000 then lcLoop src vs g t e sl n (i + 1) (acc ++ [q.1]) q.2 else none
        else lcLoop src vs g t e sl n (i + 1) acc p.2
    | some none => some (acc, st)
    | none => none
def lComp (s : I) (vs : List Nat) (g : G) (t : T) (e : E) : L := fun sl st => if noOwn sl vs then (s sl st).bind fun p => lcLoop p.1 vs g t e sl (p.1.len p.2) 0 [] p.2 else none
def tTrue : T := fun _ st => some (true, st)
def allBl : List Val → Option (List Bool)
  | [] => some []
  | .bl b :: r => (allBl r).bind fun l => some (b :: l)
  | _ => none
def eAny (l : L) : E := fun sl st => (l sl st).bind fun p => (allBl p.1).bind fun bs => some (.bl (bs.any id), p.2)
def eAll (l : L) : E := fun sl st => (l sl st).bind fun p => (allBl p.1).bind fun bs => some (.bl (bs.all id), p.2)

/-! ### objects, calls -/
/-- the attributes of each class, in the order in which they are first set -/
def nms : Nat → List Str
  | 0 => ["many", "kind", "life", "tries", "gone", "codes", "wrong", "boxes"]
  | 1 => ["state", "lines"]
  | 3 => ["line"]
  | 4 => ["accounts"]
  | 5 => ["boxes"]
  | 6 => ["barred", "ways"]
  | _ => []
def oFld (C k : Nat) : Sto → Val → Option Val
  | st, .ref n => match st[n]? with
    | some (.ins D vs) => if D = C then vs[k]? else none
    | _ => none
  | _, _ => none
/-- an attribute is set: a new one at the end, or one that is there -/
def putA (vs : List Val) (k : Nat) (v : Val) : Option (List Val) := if k < vs.length then some (vs.set k v) else if k = vs.length then some (vs ++ [v]) else none
def eCall (m : F) (a : L) : E := fun sl st => (a sl st).bind fun p => m p.1 p.2
/-- o.m(..): by the class of o -/
def isIns (st : Sto) (C : Nat) : Val → Bool
  | .ref n => match st[n]? with
    | some (.ins D _) => D == C
    | _ => false
  | _ => false
def eMeth (C : Nat) (m : F) (o : E) (a : L) : E := fun sl st => (o sl st).bind fun p => if isIns p.2 C p.1 then (a sl p.2).bind fun q => m (p.1 :: q.1) q.2 else none
def eMeth2 (C : Nat) (m : F) (C' : Nat) (m' : F) (o : E) (a : L) : E := fun sl st => (o sl st).bind fun p =>
  if isIns p.2 C p.1 then (a sl p.2).bind fun q => m (p.1 :: q.1) q.2
  else if isIns p.2 C' p.1 then (a sl p.2).bind fun q => m' (p.1 :: q.1) q.2 else none
def eNew (C : Nat) (m : F) (a : L) : E := fun sl st => (a sl st).bind fun p => (m (.ref p.2.length :: p.1) (p.2 ++ [.ins C []])).bind fun q => match q.1 with
  | .non => some (.ref p.2.length, q.2)
  | _ => none

/-! ### statements -/
def sSkip : S := fun sl st => some (.nx, sl, st)
def sSeq (a b : S) : S := fun sl st => (a sl st).bind fun p => match p.1 with
  | .nx => b p.2.1 p.2.2
  | _ => some p
def sDrop (e : E) : S := fun sl st => (e sl st).bind fun p => some (.nx, sl, p.2)
def sRet (e : E) : S := fun sl st => (e sl st).bind fun p => some (.rt p.1, sl, p.2)
def sAsg (e : E) (g : G) : S := fun sl st => (e sl st).bind fun p => (g p.1 sl p.2).bind fun sl => some (.nx, sl, p.2)
/-- a new list, the slot's own -/
def sOwn (i : Nat) (l : L) : S := fun sl st => (l sl st).bind fun p => if i < sl.length then some (.nx, sl.set i (.own p.1), p.2) else none
def sPar (i j : Nat) (a b : E) : S := fun sl st => (a sl st).bind fun p => (b sl p.2).bind fun q => if i < sl.length ∧ j < sl.length then some (.nx, (sl.set i (.val p.1)).set j (.val q.1), q.2) else none
/-- a, b = [..], [..]: each the slot's own, or kept as a value -/
def sParOO (i j : Nat) (a b : L) : S := fun sl st => (a sl st).bind fun p => (b sl p.2).bind fun q => if i < sl.length ∧ j < sl.length then some (.nx, (sl.set i (.own p.1)).set j (.own q.1), q.2) else none
def sParVO (i j : Nat) (a : E) (b : L) : S := fun sl st => (a sl st).bind fun p => (b sl p.2).bind fun q => if i < sl.length ∧ j < sl.length then some (.nx, (sl.set i (.val p.1)).set j (.own q.1), q.2) else none
def sIf (t : T) (a b : S) : S := fun sl st => (t sl st).bind fun p => if p.1 then a sl p.2 else b sl p.2
def forLoop (src : Src) (g : G) (b : S) : Nat → Nat → Sl → Sto → Option (Out × Sl × Sto)
  | n, i, sl, st => match src.item st i with
    | some (some x) => match n with
      | 0 => none
      | n + 1 => (g x sl st).bind fun sl1 => (b sl1 st).bind fun p => match p.1 with
        | .nx => forLoop src g b n (i + 1) p.2.1 p.2.2
        | .ct => forLoop src g b n (i + 1) p.2.1 p.2.2
        | .bk => some (.nx, p.2)
        | .rt v => some (.rt v, p.2)
    | some none => some (.nx, sl, st)
    | none => none
def sFor (s : I) (g : G) (b : S) : S := fun sl st => (s sl st).bind fun p => forLoop p.1 g b (p.1.len p.2) 0 sl p.2
def whLoop (t : T) (b : S) : Nat → Sl → Sto → Option (Out × Sl × Sto)
  | 0, _, _ => none
  | n + 1, sl, st => (t sl st).bind fun p => if p.1 then (b sl p.2).bind fun q => match q.1 with
        | .nx => whLoop t b n q.2.1 q.2.2
        | .ct => whLoop t b n q.2.1 q.2.2
        | .bk => some (.nx, q.2)
        | .rt v => some (.rt v, q.2)
    else some (.nx, sl, p.2)
/-- n: a number of turns that is enough -/
def sWhile (n : Nat) (t : T) (b : S) : S := whLoop t b n
/-- x.append(e), x.extend(e) of the slot's own list -/
def sApp (i : Nat) (e : E) : S := fun sl st => match sl[i]? with
  | some (.own xs) => (e sl st).bind fun p => if xs.length < 100000 then some (.nx, sl.set i (.own (xs ++ [p.1])), p.2) else none
  | _ => none
def sExt (i : Nat) (l : L) : S := fun sl st => match sl[i]? with
  | some (.own xs) => (l sl st).bind fun p => if xs.length + p.1.length ≤ 100000 then some (.nx, sl.set i (.own (xs ++ p.1)), p.2) else none
  | _ => none
/-- o.append(e), o a list of the store -/
def sAppK (o e : E) : S := fun sl st => (o sl st).bind fun p => match p.1 with
  | .ref n => match p.2[n]? with
    | some (.lst _) => (e sl p.2).bind fun q => match q.2[n]? with
      | some (.lst xs) => if xs.length < 100000 then some (.nx, sl, q.2.set n (.lst (xs ++ [q.1]))) else none
      | _ => none
    | _ => none
  | _ => none
/-- o.f = e -/
def sFld (C k : Nat) (o e : E) : S := fun sl st => (e sl st).bind fun p => (o sl p.2).bind fun q => match q.1 with
  | .ref n => match q.2[n]? with
    | some (.ins D vs) => if D = C then (putA vs k p.1).bind fun vs => some (.nx, sl, q.2.set n (.ins C vs)) else none
    | _ => none
  | _ => none
/-- a def: its slots n, its body -/
def fnOf (k n : Nat) (b : S) : F := fun vs st => if vs.length = k then (b (vs.map .val ++ List.replicate (n - k) .no) st).bind fun p => match p.1 with
    | .nx => some (.non, p.2.2)
    | .rt v => some (v, p.2.2)
    | _ => none
  else none
end Mi

set_option Elab.async false
set_option linter.all false
set_option maxRecDepth 100000
set_option maxHeartbeats 1000000
/-! Mi, second part: what a value, a store, a frame stand for. -/
namespace Mi
open PySem L2 LamX

/-- a tuple that stands and that nobody changes -/
def strV : V → Bool
  | .str _ => true
  | _ => false
def TupAt (K : PySem.W.Frag) (A : Addr → Prop) (H : Hp) (a : Addr) (us : List V) : Prop := (¬ A a ∧ H a = some (.tup us)) ∨ ((∀ H', SqT K H' a us) ∧ us.all strV = true)

/-- what a function object of the kind i at f is: its things, what its cells held -/
class Gam where
  is : Nat → Addr → List (Addr × HO) → List V → Prop
  /-- the tables of code objects, the names of these -/
  tb : Nat → Addr × Str
def FnAt (A : Addr → Prop) (H : Hp) (hs : List (Addr × HO)) : Prop := ∀ p ∈ hs, ¬ A p.1 ∧ H p.1 = some p.2
/-- .. a list -/
def LstAt (K : PySem.W.Frag) (A : Addr → Prop) (H : Hp) (a : Addr) (us : List V) : Prop := (¬ A a ∧ Rd H a (.lst us)) ∨ ∀ H', SqL K H' a us

variable [Gam]
mutual
inductive Rep (K : PySem.W.Frag) (ρ : List Addr) (A : Addr → Prop) (H : Hp) : Val → V → Prop
  | non : Rep K ρ A H .non .non
  | bl (b : Bool) : Rep K ρ A H (.bl b) (.bl b)
  | int (i : Int) : Rep K ρ A H (.int i) (.int i)
  | str (s : Str) : Rep K ρ A H (.str s) (.str s)
  | ref {n : Nat} {a : Addr} : ρ[n]? = some a → Rep K ρ A H (.ref n) (.ref a)
  | lst {a : Addr} {xs : List Val} {us : List V} : LstAt K A H a us → RepL K ρ A H xs us → Rep K ρ A H (.lst xs) (.ref a)
  | tup {a : Addr} {xs : List Val} {us : List V} : TupAt K A H a us → RepL K ρ A H xs us → Rep K ρ A H (.tup xs) (.ref a)
  | fn {i : Nat} {f : Addr} {hs : List (Addr × HO)} {us : List V} {cs : List Val} : Gam.is i f hs us → FnAt A H hs → RepL K ρ A H cs us → Rep K ρ A H (.fn i cs) (.ref f)
inductive RepL (K : PySem.W.Frag) (ρ : List Addr) (A : Addr → Prop) (H : Hp) : List Val → List V → Prop
  | nil : RepL K ρ A H [] []
  | cons {x : Val} {u : V} {xs : List Val} {us : List V} : Rep K ρ A H x u → RepL K ρ A H xs us → RepL K ρ A H (x :: xs) (u :: us)
end

/-- from H to H': what W may change; W' is what may be changed then -/
structure Fr (W : Addr → Prop) (H : Hp) (W' : Addr → Prop) (H' : Hp) : Prop where
  keep : ∀ a o, ¬ W a → H a = some o → H' a = some o
  new : ∀ a, W' a → W a ∨ H a = none
theorem Fr.refl {W : Addr → Prop} {H : Hp} : Fr W H W H := ⟨fun _ _ _ h => h, fun _ h => .inl h⟩
theorem Fr.trans {W W' W'' : Addr → Prop} {H H' H'' : Hp} (a : Fr W H W' H') (b : Fr W' H' W'' H'') : Fr W H W'' H'' where
  keep := fun x o hn h => b.keep x o (fun w => (a.new x w).elim hn fun z => by rw [h] at z; cases z) (a.keep x o hn h)
  new := fun x w => by
    rcases b.new x w with q | q
    · exact a.new x q
    · by_cases hw : W x
      · exact .inl hw
      · refine .inr ?_
        cases e : H x with
        | none => rfl
        | some o =>
          rw [a.keep x o hw e] at q
          cases q
theorem Fr.upd {W : Addr → Prop} {H : Hp} {p : Addr} {o : HO} (h : W p ∨ H p = none) : Fr W H W (upd H p o) :=
  ⟨fun a u hn e => by
    have hne : a ≠ p := fun z => by
      subst z
      rcases h with h | h
      · exact hn h
      · rw [h] at e; cases e
    rw [upd_ne hne]; exact e, fun a h => .inl h⟩

section
variable {K : PySem.W.Frag} {ρ ρ' : List Addr} {A A' : Addr → Prop} {H H' : Hp}
theorem rd_some {a : Addr} {u : HO} (h : Rd H a u) : H a ≠ none := by
  rcases h with h | ⟨o, h⟩ <;> rw [h] <;> simp
theorem Fr.rd {a : Addr} {u : HO} (f : Fr A H A' H') (hn : ¬ A a) (h : Rd H a u) : Rd H' a u ∧ ¬ A' a := by
  refine ⟨?_, fun z => (f.new a z).elim hn (rd_some h)⟩
  rcases h with h | ⟨o, h⟩
  · exact .inl (f.keep a _ hn h)
  · exact .inr ⟨o, f.keep a _ hn h⟩
theorem Fr.tupAt {a : Addr} {us : List V} (f : Fr A H A' H') (h : TupAt K A H a us) : TupAt K A' H' a us := by
  rcases h with ⟨h1, h2⟩ | h
  · exact .inl ⟨fun z => (f.new a z).elim h1 fun q => (by rw [h2] at q; cases q), f.keep a _ h1 h2⟩
  · exact .inr h
theorem Fr.lstAt {a : Addr} {us : List V} (f : Fr A H A' H') (h : LstAt K A H a us) : LstAt K A' H' a us := by
  rcases h with ⟨h1, h2⟩ | h
  · obtain ⟨q1, q2⟩ := f.rd h1 h2
    exact .inl ⟨q2, q1⟩
  · exact .inr h
theorem Fr.fnAt {hs : List (Addr × HO)} (f : Fr A H A' H') (h : FnAt A H hs) : FnAt A' H' hs := fun p hp => by
  obtain ⟨h1, h2⟩ := h p hp
  exact ⟨fun z => (f.new p.1 z).elim h1 fun q => (by rw [h2] at q; cases q), f.keep p.1 _ h1 h2⟩
mutual
theorem Rep.mono (f : Fr A H A' H') (hr : ρ <+: ρ') : ∀ {x : Val} {u : V}, Rep K ρ A H x u → Rep K ρ' A' H' x u
  | _, _, .non => .non
  | _, _, .bl b => .bl b
  | _, _, .int i => .int i
  | _, _, .str s => .str s
  | _, _, .ref h => .ref (by
      obtain ⟨t, rfl⟩ := hr
      rw [List.getElem?_append_left (List.getElem?_eq_some_iff.mp h).1]
      exact h)
  | _, _, .lst h1 h3 => .lst (f.lstAt h1) (RepL.mono f hr h3)
  | _, _, .tup h1 h2 => .tup (f.tupAt h1) (RepL.mono f hr h2)
  | _, _, .fn h1 h2 h3 => .fn h1 (f.fnAt h2) (RepL.mono f hr h3)
theorem RepL.mono (f : Fr A H A' H') (hr : ρ <+: ρ') : ∀ {xs : List Val} {us : List V}, RepL K ρ A H xs us → RepL K ρ' A' H' xs us
  | _, _, .nil => .nil
  | _, _, .cons h t => .cons (Rep.mono f hr h) (RepL.mono f hr t)
end
/-- fewer things are kept apart -/
theorem Fr.less (h : ∀ a, A' a → A a) : Fr A H A' H := ⟨fun _ _ _ e => e, fun a w => .inl (h a w)⟩

theorem RepL.length : ∀ {xs : List Val} {us : List V}, RepL K ρ A H xs us → xs.length = us.length
  | _, _, .nil => rfl
  | _, _, .cons _ t => by rw [List.length_cons, List.length_cons, t.length]
theorem RepL.get : ∀ {xs : List Val} {us : List V}, RepL K ρ A H xs us → ∀ {i : Nat} {x : Val}, xs[i]? = some x → ∃ u, us[i]? = some u ∧ Rep K ρ A H x u
  | _, _, .nil, i, x, h => by simp at h
  | _, _, .cons r t, 0, x, h => by
    simp at h
    subst h
    exact ⟨_, rfl, r⟩
  | _, _, .cons r t, i + 1, x, h => by
    simp at h
    obtain ⟨u, h1, h2⟩ := t.get h
    exact ⟨u, by simpa using h1, h2⟩
theorem RepL.of : ∀ {xs : List Val} {us : List V}, xs.length = us.length → (∀ (i : Nat) x u, xs[i]? = some x → us[i]? = some u → Rep K ρ A H x u) → RepL K ρ A H xs us
  | [], [], _, _ => .nil
  | [], _ :: _, h, _ => by simp at h
  | _ :: _, [], h, _ => by simp at h
  | x :: xs, u :: us, h, f => .cons (f 0 x u rfl rfl) (RepL.of (by simpa using h) fun i y v h1 h2 => f (i + 1) y v (by simpa using h1) (by simpa using h2))
theorem RepL.append : ∀ {xs ys : List Val} {us vs : List V}, RepL K ρ A H xs us → RepL K ρ A H ys vs → RepL K ρ A H (xs ++ ys) (us ++ vs)
  | _, _, _, _, .nil, s => s
  | _, _, _, _, .cons r t, s => .cons r (RepL.append t s)
theorem RepL.take : ∀ {xs : List Val} {us : List V} (n : Nat), RepL K ρ A H xs us → RepL K ρ A H (xs.take n) (us.take n)
  | _, _, 0, _ => by simp; exact .nil
  | _, _, n + 1, .nil => by simp; exact .nil
  | _, _, n + 1, .cons r t => .cons r (RepL.take n t)
theorem RepL.drop : ∀ {xs : List Val} {us : List V} (n : Nat), RepL K ρ A H xs us → RepL K ρ A H (xs.drop n) (us.drop n)
  | _, _, 0, r => r
  | _, _, n + 1, .nil => by simp; exact .nil
  | _, _, n + 1, .cons r t => RepL.drop n t
theorem RepL.set {x : Val} {u : V} (r : Rep K ρ A H x u) : ∀ {xs : List Val} {us : List V} (i : Nat), RepL K ρ A H xs us → RepL K ρ A H (xs.set i x) (us.set i u)
  | _, _, _, .nil => .nil
  | _, _, 0, .cons _ t => .cons r t
  | _, _, i + 1, .cons q t => .cons q (RepL.set r i t)
theorem RepL.reverse : ∀ {xs : List Val} {us : List V}, RepL K ρ A H xs us → RepL K ρ A H xs.reverse us.reverse
  | _, _, .nil => .nil
  | _, _, .cons r t => by
    rw [List.reverse_cons, List.reverse_cons]
    exact t.reverse.append (.cons r .nil)
theorem RepL.rep {xs : List Val} {us : List V} (h : RepL K ρ A H xs us) : ∀ n : Nat, RepL K ρ A H (List.replicate n xs).flatten (List.replicate n us).flatten
  | 0 => .nil
  | n + 1 => by
    rw [List.replicate_succ, List.replicate_succ, List.flatten_cons, List.flatten_cons]
    exact h.append (RepL.rep h n)
theorem RepL.ints (ns : List Int) : RepL K ρ A H (ns.map .int) (ns.map V.int) := by
  induction ns with
  | nil => exact .nil
  | cons n ns ih => exact .cons (.int n) ih
end

/-! ### the store, the frame -/
def AR (ρ : List Addr) (Z : Addr → Prop) : Addr → Prop := fun a => a ∈ ρ ∨ Z a
def Own (sl : Sl) (σ : St) (a : Addr) : Prop := ∃ (i : Nat) (xs : List Val), sl[i]? = some (.own xs) ∧ σ[i]? = some (some (.ref a))
def ZO (Z : Addr → Prop) (sl : Sl) (σ : St) : Addr → Prop := fun a => Z a ∨ Own sl σ a
/-- what a frame may change -/
def WO (ρ : List Addr) (sl : Sl) (σ : St) : Addr → Prop := fun a => a ∈ ρ ∨ Own sl σ a

def RepC (K : PySem.W.Frag) (cls : Nat → Addr) (ρ : List Addr) (A : Addr → Prop) (H : Hp) (a : Addr) : Cell → Prop
  | .lst xs => ∃ us, H a = some (.lst us) ∧ RepL K ρ A H xs us
  | .ins C vs => ∃ dx us, H a = some (.ins (cls C) dx ((nms C).zip us)) ∧ us.length ≤ (nms C).length ∧ RepL K ρ A H vs us
  | .dk kvs => ∃ kvu : List (Key × V), H a = some (.dK kvu) ∧ kvu.map (·.1) = kvs.map (·.1) ∧ RepL K ρ A H (kvs.map (·.2)) (kvu.map (·.2))
  | .dt kvs => ∃ kvu : List (List Key × V), H a = some (.dT kvu) ∧ kvu.map (·.1) = kvs.map (·.1) ∧ RepL K ρ A H (kvs.map (·.2)) (kvu.map (·.2))
  | .tb k => a = (Gam.tb k).1 ∧ ∃ ps : Array Value, H a = some (.tbl ps) ∧ TriplesOk ps.toList ∧ ∀ (pos : Pos) (cv : Value), codeAmong pos ps.toList = some cv → ∃ c, cv = .ref c ∧ ¬ A c ∧ H c = some (CodeO c (Gam.tb k).2)

structure RelR (K : PySem.W.Frag) (cls : Nat → Addr) (ρ : List Addr) (Z : Addr → Prop) (H : Hp) (st : Sto) : Prop where
  nd : ρ.Nodup
  len : ρ.length = st.length
  cells : ∀ (n : Nat) (c : Cell) (a : Addr), st[n]? = some c → ρ[n]? = some a → RepC K cls ρ (AR ρ Z) H a c
  dom : ∀ a, AR ρ Z a → H a ≠ none
  dis : ∀ a, a ∈ ρ → ¬ Z a
structure Rel (K : PySem.W.Frag) (cls : Nat → Addr) (ρ : List Addr) (Z : Addr → Prop) (σ : St) (H : Hp) (sl : Sl) (st : Sto) : Prop where
  s : RelR K cls ρ (ZO Z sl σ) H st
  slen : sl.length = σ.length
  slots : ∀ (i : Nat) v, sl[i]? = some (.val v) → ∃ u, σ[i]? = some (some u) ∧ Rep K ρ (AR ρ (ZO Z sl σ)) H v u
  owns : ∀ (i : Nat) xs, sl[i]? = some (.own xs) → ∃ a us, σ[i]? = some (some (.ref a)) ∧ H a = some (.lst us) ∧ RepL K ρ (AR ρ (ZO Z sl σ)) H xs us ∧ ¬ Z a
  inj : ∀ (i j : Nat) xs ys a, sl[i]? = some (.own xs) → sl[j]? = some (.own ys) → σ[i]? = some (some (.ref a)) → σ[j]? = some (some (.ref a)) → i = j

/-- ρ's places may have changed, more may have come -/
structure Ext (ρ : List Addr) (H : Hp) (ρ' : List Addr) (H' : Hp) : Prop where
  pre : ρ <+: ρ'
  fr : Fr (· ∈ ρ) H (· ∈ ρ') H'
theorem Ext.refl {ρ : List Addr} {H : Hp} : Ext ρ H ρ H := ⟨List.prefix_rfl, .refl⟩
theorem Ext.trans {ρ ρ' ρ'' : List Addr} {H H' H'' : Hp} (a : Ext ρ H ρ' H') (b : Ext ρ' H' ρ'' H'') : Ext ρ H ρ'' H'' := ⟨a.pre.trans b.pre, a.fr.trans b.fr⟩

section
variable {K : PySem.W.Frag} {cls : Nat → Addr} {ρ ρ' : List Addr} {Z : Addr → Prop} {σ : St} {H H' : Hp} {sl : Sl} {st st' : Sto}
/-- with the callers' things apart -/
theorem Ext.ar (e : Ext ρ H ρ' H') : Fr (AR ρ Z) H (AR ρ' Z) H' := ⟨fun a o hn h => e.fr.keep a o (fun z => hn (.inl z)) h, fun a w => w.elim (fun z => (e.fr.new a z).imp .inl id) fun z => .inl (.inr z)⟩
theorem Ext.rep {x : Val} {u : V} (e : Ext ρ H ρ' H') (h : Rep K ρ (AR ρ Z) H x u) : Rep K ρ' (AR ρ' Z) H' x u := h.mono e.ar e.pre
theorem Ext.repL {xs : List Val} {us : List V} (e : Ext ρ H ρ' H') (h : RepL K ρ (AR ρ Z) H xs us) : RepL K ρ' (AR ρ' Z) H' xs us := h.mono e.ar e.pre
theorem RelR.at (R : RelR K cls ρ Z H st) {n : Nat} {c : Cell} (h : st[n]? = some c) : ∃ a, ρ[n]? = some a ∧ RepC K cls ρ (AR ρ Z) H a c := by
  have hl : n < ρ.length := by rw [R.len]; exact (List.getElem?_eq_some_iff.mp h).1
  exact ⟨ρ[n], List.getElem?_eq_getElem hl, R.cells n c _ h (List.getElem?_eq_getElem hl)⟩
theorem RepC.mono {A A' : Addr → Prop} {a : Addr} {c : Cell} (f : Fr A H A' H') (hr : ρ <+: ρ') (hs : H' a = H a) (h : RepC K cls ρ A H a c) : RepC K cls ρ' A' H' a c := by
  cases c with
  | lst xs => obtain ⟨us, e, r⟩ := h; exact ⟨us, hs.trans e, r.mono f hr⟩
  | ins C vs => obtain ⟨dx, us, e, l, r⟩ := h; exact ⟨dx, us, hs.trans e, l, r.mono f hr⟩
  | dk kvs => obtain ⟨us, e, l, r⟩ := h; exact ⟨us, hs.trans e, l, r.mono f hr⟩
  | dt kvs => obtain ⟨us, e, l, r⟩ := h; exact ⟨us, hs.trans e, l, r.mono f hr⟩
  | tb k =>
    obtain ⟨e0, ps, e, t, n⟩ := h
    refine ⟨e0, ps, hs.trans e, t, fun pos cv hc => ?_⟩
    obtain ⟨c, e1, e2, e3⟩ := n pos cv hc
    exact ⟨c, e1, fun z => (f.new c z).elim e2 fun q => (by rw [e3] at q; cases q), f.keep c _ e2 e3⟩
/-- a new object that no value is -/
theorem RelR.new {p : Addr} {o : HO} (R : RelR K cls ρ Z H st) (hp : H p = none) : RelR K cls ρ Z (upd H p o) st := by
  have hne : ∀ a, AR ρ Z a → a ≠ p := fun a h z => by subst z; exact R.dom _ h hp
  refine ⟨R.nd, R.len, fun n c a h1 h2 => ?_, fun a h => ?_, R.dis⟩
  · exact (R.cells n c a h1 h2).mono (Fr.upd (.inr hp)) List.prefix_rfl (upd_ne (hne a (.inl (List.mem_of_getElem? h2))))
  · rw [upd_ne (hne a h)]; exact R.dom a h
theorem Ext.new {p : Addr} {o : HO} (hp : H p = none) : Ext ρ H ρ (upd H p o) := ⟨List.prefix_rfl, Fr.upd (.inr hp)⟩
/-- the frame stands behind a step of the store -/
theorem Rel.step (R : Rel K cls ρ Z σ H sl st) (e : Ext ρ H ρ' H') (R' : RelR K cls ρ' (ZO Z sl σ) H' st') : Rel K cls ρ' Z σ H' sl st' where
  s := R'
  slen := R.slen
  slots := fun i v h => by
    obtain ⟨u, h1, h2⟩ := R.slots i v h
    exact ⟨u, h1, e.rep h2⟩
  owns := fun i xs h => by
    obtain ⟨a, us, h1, h2, h3, h4⟩ := R.owns i xs h
    refine ⟨a, us, h1, e.fr.keep a _ (fun z => R.s.dis a z (.inr ⟨i, xs, h, h1⟩)) h2, e.repL h3, h4⟩
  inj := R.inj
theorem Rel.new {p : Addr} {o : HO} (R : Rel K cls ρ Z σ H sl st) (hp : H p = none) : Rel K cls ρ Z σ (upd H p o) sl st := R.step (Ext.new hp) (R.s.new hp)
/-- a place is added -/
theorem Fr.push {p : Addr} {o : HO} (hp : H p = none) : Fr (AR ρ Z) H (AR (ρ ++ [p]) Z) (L2.upd H p o) := ⟨fun a u hn h => by rw [upd_ne (ne_of_none h hp)]; exact h, fun a h => by
  rcases h with h | h
  · rcases List.mem_append.mp h with h | h
    · exact .inl (.inl h)
    · have e : a = p := by simpa using h
      subst e; exact .inr hp
  · exact .inl (.inr h)⟩
theorem Ext.push {p : Addr} {o : HO} (hp : H p = none) : Ext ρ H (ρ ++ [p]) (upd H p o) := ⟨List.prefix_append _ _, ⟨fun a u hn h => by rw [upd_ne (ne_of_none h hp)]; exact h, fun a h => by
  rcases List.mem_append.mp h with h | h
  · exact .inl h
  · have e : a = p := by simpa using h
    subst e; exact .inr hp⟩⟩
theorem RelR.push {p : Addr} {o : HO} {c : Cell} (R : RelR K cls ρ Z H st) (hp : H p = none) (hc : RepC K cls (ρ ++ [p]) (AR (ρ ++ [p]) Z) (upd H p o) p c) : RelR K cls (ρ ++ [p]) Z (upd H p o) (st ++ [c]) where
  nd := List.nodup_append.mpr ⟨R.nd, by simp, fun a h b h' z => by
    have e : b = p := by simpa using h'
    subst e; subst z
    exact R.dom _ (.inl h) hp⟩
  len := by rw [List.length_append, List.length_append, R.len]; rfl
  cells := fun n c' a h1 h2 => by
    by_cases hn : n < st.length
    · rw [List.getElem?_append_left hn] at h1
      rw [List.getElem?_append_left (by rw [R.len]; exact hn)] at h2
      exact (R.cells n c' a h1 h2).mono (Fr.push hp) (List.prefix_append _ _) (upd_ne (fun z => R.dom a (.inl (List.mem_of_getElem? h2)) (z ▸ hp)))
    · have hl := (List.getElem?_eq_some_iff.mp h1).1
      rw [List.length_append, List.length_singleton] at hl
      have e : n = st.length := by omega
      subst e
      rw [List.getElem?_append_right (Nat.le_refl _), Nat.sub_self] at h1
      have hl2 : ρ.length = st.length := R.len
      rw [← hl2, List.getElem?_append_right (Nat.le_refl _), Nat.sub_self] at h2
      cases h1
      cases h2
      exact hc
  dom := fun a h => by
    by_cases e : a = p
    · subst e; rw [upd_same]; simp
    · rw [upd_ne e]
      rcases h with h | h
      · rcases List.mem_append.mp h with h | h
        · exact R.dom a (.inl h)
        · exact absurd (by simpa using h) e
      · exact R.dom a (.inr h)
  dis := fun a h => by
    rcases List.mem_append.mp h with h | h
    · exact R.dis a h
    · have e : a = p := by simpa using h
      subst e; exact fun z => R.dom _ (.inr z) hp
theorem Rel.push {p : Addr} {o : HO} {c : Cell} (R : Rel K cls ρ Z σ H sl st) (hp : H p = none) (hc : RepC K cls (ρ ++ [p]) (AR (ρ ++ [p]) (ZO Z sl σ)) (upd H p o) p c) : Rel K cls (ρ ++ [p]) Z σ (upd H p o) sl (st ++ [c]) :=
  R.step (Ext.push hp) (R.s.push hp hc)
/-- a place is changed -/
theorem RelR.set {n : Nat} {a : Addr} {o : HO} {c : Cell} (R : RelR K cls ρ Z H st) (ha : ρ[n]? = some a) (hc : RepC K cls ρ (AR ρ Z) (upd H a o) a c) : RelR K cls ρ Z (upd H a o) (st.set n c) where
  nd := R.nd
  len := by rw [List.length_set]; exact R.len
  cells := fun m c' b h1 h2 => by
    by_cases hm : m = n
    · subst hm
      rw [ha] at h2
      cases h2
      have hl : m < st.length := by rw [← R.len]; exact (List.getElem?_eq_some_iff.mp ha).1
      rw [List.getElem?_set_self hl] at h1
      cases h1
      exact hc
    · rw [List.getElem?_set_ne (Ne.symm hm)] at h1
      have hb : b ≠ a := fun z => by
        subst z
        exact hm ((List.getElem?_inj (List.getElem?_eq_some_iff.mp h2).1 R.nd).mp (h2.trans ha.symm))
      exact (R.cells m c' b h1 h2).mono (Fr.upd (.inl (.inl (List.mem_of_getElem? ha)))) List.prefix_rfl (upd_ne hb)
  dom := fun b h => by
    by_cases hb : b = a
    · subst hb; rw [upd_same]; simp
    · rw [upd_ne hb]; exact R.dom b h
  dis := R.dis
theorem Rel.set {n : Nat} {a : Addr} {o : HO} {c : Cell} (R : Rel K cls ρ Z σ H sl st) (ha : ρ[n]? = some a) (hc : RepC K cls ρ (AR ρ (ZO Z sl σ)) (upd H a o) a c) : Rel K cls ρ Z σ (upd H a o) sl (st.set n c) :=
  R.step ⟨List.prefix_rfl, Fr.upd (.inl (List.mem_of_getElem? ha))⟩ (R.s.set ha hc)
theorem Ext.set {n : Nat} {a : Addr} {o : HO} (ha : ρ[n]? = some a) : Ext ρ H ρ (upd H a o) := ⟨List.prefix_rfl, Fr.upd (.inl (List.mem_of_getElem? ha))⟩
end
end Mi

set_option Elab.async false
set_option linter.all false
set_option maxRecDepth 100000
set_option maxHeartbeats 1000000
/-! Mi, third part: each word of the mirror is what the text does: expressions. -/
namespace Mi
open PySem L2
variable [Gam]

/-- a value, or (m) a slot's own list -/
def RepM (K : PySem.W.Frag) (m : Bool) (ρ : List Addr) (Z : Addr → Prop) (σ : L2.St) (H : Hp) (sl : Sl) (x : Val) (u : V) : Prop :=
  Rep K ρ (AR ρ (ZO Z sl σ)) H x u ∨ (m = true ∧ ∃ (i : Nat) (xs : List Val) (a : Addr), x = .lst xs ∧ u = .ref a ∧ sl[i]? = some (.own xs) ∧ σ[i]? = some (some (.ref a)))
def RepML (K : PySem.W.Frag) (m : Bool) (ρ : List Addr) (Z : Addr → Prop) (σ : L2.St) (H : Hp) (sl : Sl) : List Val → List V → Prop
  | [], [] => True
  | x :: xs, u :: us => RepM K m ρ Z σ H sl x u ∧ RepML K m ρ Z σ H sl xs us
  | _, _ => False
structure Snd (K : PySem.W.Frag) (cls : Nat → Addr) (m : Bool) (t : TE) (f : E) : Prop where
  run : ∀ (ρ : List Addr) (Z : Addr → Prop) (σ : L2.St) (H : Hp) (sl : Sl) (st : Sto) (d : Val) (st' : Sto), Rel K cls ρ Z σ H sl st → f sl st = some (d, st') → ∀ Q : VK,
    (∀ u ρ' H', Rel K cls ρ' Z σ H' sl st' → Ext ρ H ρ' H' → RepM K m ρ' Z σ H' sl d u → Q u H') → t σ H Q
structure SndT (K : PySem.W.Frag) (cls : Nat → Addr) (t : TT) (f : T) : Prop where
  run : ∀ (ρ : List Addr) (Z : Addr → Prop) (σ : L2.St) (H : Hp) (sl : Sl) (st : Sto) (b : Bool) (st' : Sto), Rel K cls ρ Z σ H sl st → f sl st = some (b, st') → ∀ Q : Bool → Hp → Prop,
    (∀ ρ' H', Rel K cls ρ' Z σ H' sl st' → Ext ρ H ρ' H' → Q b H') → t σ H Q
structure SndA (K : PySem.W.Frag) (cls : Nat → Addr) (m : Bool) (t : TA) (f : L) : Prop where
  run : ∀ (ρ : List Addr) (Z : Addr → Prop) (σ : L2.St) (H : Hp) (sl : Sl) (st : Sto) (ds : List Val) (st' : Sto), Rel K cls ρ Z σ H sl st → f sl st = some (ds, st') → ∀ Q : List V → Hp → Prop,
    (∀ us ρ' H', Rel K cls ρ' Z σ H' sl st' → Ext ρ H ρ' H' → RepML K m ρ' Z σ H' sl ds us → Q us H') → t σ H Q
/-- a new list -/
structure SndL (K : PySem.W.Frag) (cls : Nat → Addr) (t : TE) (f : L) : Prop where
  run : ∀ (ρ : List Addr) (Z : Addr → Prop) (σ : L2.St) (H : Hp) (sl : Sl) (st : Sto) (ds : List Val) (st' : Sto), Rel K cls ρ Z σ H sl st → f sl st = some (ds, st') → ∀ Q : VK,
    (∀ p us ρ' H', Rel K cls ρ' Z σ H' sl st' → Ext ρ H ρ' H' → H' p = none → RepL K ρ' (AR ρ' (ZO Z sl σ)) H' ds us → Q (.ref p) (upd H' p (.lst us))) → t σ H Q
/-- an end of a slice -/
structure SndP (K : PySem.W.Frag) (cls : Nat → Addr) (t : TO) (f : P) : Prop where
  run : ∀ (ρ : List Addr) (Z : Addr → Prop) (σ : L2.St) (H : Hp) (sl : Sl) (st : Sto) (o : Option Int) (st' : Sto), Rel K cls ρ Z σ H sl st → f sl st = some (o, st') → ∀ Q : Option Int → Hp → Prop,
    (∀ ρ' H', Rel K cls ρ' Z σ H' sl st' → Ext ρ H ρ' H' → Q o H') → t σ H Q

/-- the context's own fragment -/
class KX (X : Cx) (K : PySem.W.Frag) : Prop where
  e : X.K = K
instance kx_self {X : Cx} : KX X X.K := ⟨rfl⟩
abbrev SE (X : Cx) (K : PySem.W.Frag) (cls : Nat → Addr) (m : Bool) (e : Expr) (t : TE) (f : E) : Prop := PE X e t ∧ Snd K cls m t f
abbrev ST (X : Cx) (K : PySem.W.Frag) (cls : Nat → Addr) (e : Expr) (t : TT) (f : T) : Prop := PT X e t ∧ SndT K cls t f
abbrev SW (X : Cx) (K : PySem.W.Frag) (cls : Nat → Addr) (e : Expr) (t : TT) (f : T) : Prop := PW X e t ∧ SndT K cls t f
abbrev SA (X : Cx) (K : PySem.W.Frag) (cls : Nat → Addr) (m : Bool) (es : List Expr) (t : TA) (f : L) : Prop := PA X es t ∧ SndA K cls m t f
abbrev SL (X : Cx) (K : PySem.W.Frag) (cls : Nat → Addr) (e : Expr) (t : TE) (f : L) : Prop := PE X e t ∧ SndL K cls t f
abbrev SO (X : Cx) (K : PySem.W.Frag) (cls : Nat → Addr) (e : Option Expr) (t : TO) (f : P) : Prop := PO X e t ∧ SndP K cls t f

theorem bind_some {α β : Type} {x : Option α} {g : α → Option β} {z : β} (h : x.bind g = some z) : ∃ y, x = some y ∧ g y = some z := by
  cases x with
  | none => cases h
  | some y => exact ⟨y, rfl, h⟩

section
variable {K : PySem.W.Frag} {cls : Nat → Addr} {ρ ρ' : List Addr} {Z : Addr → Prop} {σ : L2.St} {H H' : Hp} {sl : Sl} {st st' : Sto} {m : Bool} {x y : Val} {u v : V}
theorem RepM.of (h : Rep K ρ (AR ρ (ZO Z sl σ)) H x u) : RepM K m ρ Z σ H sl x u := .inl h
theorem RepM.rep (h : RepM K false ρ Z σ H sl x u) : Rep K ρ (AR ρ (ZO Z sl σ)) H x u := h.elim id fun z => nomatch z.1
theorem RepM.up (h : RepM K m ρ Z σ H sl x u) : RepM K true ρ Z σ H sl x u := h.imp id fun z => ⟨rfl, z.2⟩
theorem RepM.ext (e : Ext ρ H ρ' H') (h : RepM K m ρ Z σ H sl x u) : RepM K m ρ' Z σ H' sl x u := h.imp (fun h => e.rep h) id
theorem RepML.ext (e : Ext ρ H ρ' H') : ∀ {xs : List Val} {us : List V}, RepML K m ρ Z σ H sl xs us → RepML K m ρ' Z σ H' sl xs us
  | [], [], _ => trivial
  | _ :: _, _ :: _, h => ⟨h.1.ext e, RepML.ext e h.2⟩
theorem RepML.repL : ∀ {xs : List Val} {us : List V}, RepML K false ρ Z σ H sl xs us → RepL K ρ (AR ρ (ZO Z sl σ)) H xs us
  | [], [], _ => .nil
  | _ :: _, _ :: _, h => .cons h.1.rep (RepML.repL h.2)
theorem RepML.cons_inv {xs : List Val} {us : List V} (h : RepML K m ρ Z σ H sl (x :: xs) us) : ∃ u us', us = u :: us' ∧ RepM K m ρ Z σ H sl x u ∧ RepML K m ρ Z σ H sl xs us' := by
  cases us with
  | nil => exact False.elim h
  | cons u us => exact ⟨u, us, rfl, h.1, h.2⟩
theorem RepML.nil_inv {us : List V} (h : RepML K m ρ Z σ H sl [] us) : us = [] := by
  cases us with
  | nil => rfl
  | cons u us => exact False.elim h
theorem lst_sq {A : Addr → Prop} {a : Addr} {us : List V} (h : LstAt K A H a us) : SqL K H a us := h.elim (fun z => .inl z.2) fun z => z H
/-- a list that is read -/
theorem viewQ_of (R : Rel K cls ρ Z σ H sl st) (h : RepM K m ρ Z σ H sl x u) {xs : List Val} (hv : viewQ st x = some xs) :
    ∃ a us, u = .ref a ∧ SqL K H a us ∧ RepL K ρ (AR ρ (ZO Z sl σ)) H xs us := by
  rcases h with h | ⟨_, i, ys, a, rfl, rfl, h1, h2⟩
  · cases h with
    | lst h1 h3 => cases hv; exact ⟨_, _, rfl, lst_sq h1, h3⟩
    | ref h1 =>
      rename_i n a
      have hv' : (match st[n]? with
        | some (.lst xs) => some xs
        | _ => none) = some xs := hv
      split at hv'
      · rename_i ys e
        cases hv'
        obtain ⟨us, e1, r⟩ := R.s.cells n _ a e h1
        exact ⟨a, us, rfl, .of e1, r⟩
      · cases hv'
    | tup _ _ => cases hv
    | non => cases hv
    | bl => cases hv
    | int => cases hv
    | str => cases hv
    | fn _ _ _ => cases hv
  · cases hv
    obtain ⟨b, us, e1, e2, r, _⟩ := R.owns i _ h1
    rw [h2] at e1
    cases e1
    exact ⟨a, us, rfl, .of e2, r⟩
theorem tup_sq {A : Addr → Prop} {a : Addr} {us : List V} (h : TupAt K A H a us) : SqT K H a us := h.elim (fun z => .inl (.inl z.2)) fun z => z.1 H
theorem viewL_of (R : Rel K cls ρ Z σ H sl st) (h : RepM K m ρ Z σ H sl x u) {xs : List Val} (hv : viewL st x = some xs) :
    ∃ a us, u = .ref a ∧ ((SqL K H a us ∧ viewQ st x = some xs) ∨ (SqT K H a us ∧ x = .tup xs ∧ TupAt K (AR ρ (ZO Z sl σ)) H a us)) ∧ RepL K ρ (AR ρ (ZO Z sl σ)) H xs us := by
  by_cases hx : ∃ ys, x = .tup ys
  · obtain ⟨ys, rfl⟩ := hx
    cases hv
    rcases h with h | ⟨_, _, _, _, z, _⟩
    · cases h with
      | tup h1 h2 => exact ⟨_, _, rfl, .inr ⟨tup_sq h1, rfl, h1⟩, h2⟩
    · cases z
  · have hq : viewQ st x = some xs := by
      cases x <;> first | exact hv | exact absurd ⟨_, rfl⟩ hx
    obtain ⟨a, us, e, r1, r2⟩ := viewQ_of R h hq
    exact ⟨a, us, e, .inl ⟨r1, hq⟩, r2⟩
end

/-! ### operations on values -/
def OpS (K : PySem.W.Frag) (cls : Nat → Addr) (op : Sto → Val → Val → Option Val) (r : R2) : Prop :=
  ∀ (ρ : List Addr) (Z : Addr → Prop) (σ : L2.St) (H : Hp) (sl : Sl) (st : Sto) (x y z : Val) (u v : V), Rel K cls ρ Z σ H sl st → RepM K true ρ Z σ H sl x u → RepM K true ρ Z σ H sl y v → op st x y = some z → ∀ Q : VK,
    (∀ w H', Rel K cls ρ Z σ H' sl st → Ext ρ H ρ H' → Rep K ρ (AR ρ (ZO Z sl σ)) H' z w → Q w H') → r u v H Q
def Op1S (K : PySem.W.Frag) (cls : Nat → Addr) (op : Sto → Val → Option Val) (r : V → Hp → VK → Prop) : Prop :=
  ∀ (ρ : List Addr) (Z : Addr → Prop) (σ : L2.St) (H : Hp) (sl : Sl) (st : Sto) (x z : Val) (u : V), Rel K cls ρ Z σ H sl st → RepM K true ρ Z σ H sl x u → op st x = some z → ∀ Q : VK,
    (∀ w H', Rel K cls ρ Z σ H' sl st → Ext ρ H ρ H' → Rep K ρ (AR ρ (ZO Z sl σ)) H' z w → Q w H') → r u H Q
def OpLS (K : PySem.W.Frag) (cls : Nat → Addr) (op : Sto → Val → Val → Option (List Val)) (r : R2) : Prop :=
  ∀ (ρ : List Addr) (Z : Addr → Prop) (σ : L2.St) (H : Hp) (sl : Sl) (st : Sto) (x y : Val) (zs : List Val) (u v : V), Rel K cls ρ Z σ H sl st → RepM K true ρ Z σ H sl x u → RepM K true ρ Z σ H sl y v → op st x y = some zs → ∀ Q : VK,
    (∀ p us, H p = none → RepL K ρ (AR ρ (ZO Z sl σ)) H zs us → Q (.ref p) (upd H p (.lst us))) → r u v H Q
def Op1LS (K : PySem.W.Frag) (cls : Nat → Addr) (op : Sto → Val → Option (List Val)) (r : V → Hp → VK → Prop) : Prop :=
  ∀ (ρ : List Addr) (Z : Addr → Prop) (σ : L2.St) (H : Hp) (sl : Sl) (st : Sto) (x : Val) (zs : List Val) (u : V), Rel K cls ρ Z σ H sl st → RepM K true ρ Z σ H sl x u → op st x = some zs → ∀ Q : VK,
    (∀ p us, H p = none → RepL K ρ (AR ρ (ZO Z sl σ)) H zs us → Q (.ref p) (upd H p (.lst us))) → r u H Q

section
variable {K : PySem.W.Frag} {cls : Nat → Addr} {ta tb tc : TE} {fa fb fc : E} {m m' m'' : Bool}
theorem Snd.up (h : Snd K cls m ta fa) : Snd K cls true ta fa := ⟨fun ρ Z σ H sl st d st' R e Q q => h.run ρ Z σ H sl st d st' R e Q fun u ρ' H' R' x r => q u ρ' H' R' x r.up⟩
theorem Snd.any (h : Snd K cls false ta fa) : Snd K cls m ta fa := ⟨fun ρ Z σ H sl st d st' R e Q q => h.run ρ Z σ H sl st d st' R e Q fun u ρ' H' R' x r => q u ρ' H' R' x (.of r.rep)⟩
theorem snd_c {v : Val} {u : V} (h : ∀ (ρ : List Addr) (A : Addr → Prop) (H : Hp), Rep K ρ A H v u) : Snd K cls m (tC u) (eC v) := ⟨fun ρ Z σ H sl st d st' R e Q q => by
  cases e
  exact q u ρ H R .refl (.of (h _ _ _))⟩
theorem snd_var {i : Nat} : Snd K cls m (tVar i) (eVar i) := ⟨fun ρ Z σ H sl st d st' R e Q q => by
  unfold eVar at e
  split at e
  · rename_i v h
    cases e
    obtain ⟨u, h1, h2⟩ := R.slots i _ h
    exact ⟨u, h1, q u ρ H R .refl (.of h2)⟩
  · cases e⟩
theorem snd_varO {i : Nat} : Snd K cls true (tVar i) (eVarO i) := ⟨fun ρ Z σ H sl st d st' R e Q q => by
  unfold eVarO at e
  split at e
  · rename_i v h
    cases e
    obtain ⟨u, h1, h2⟩ := R.slots i _ h
    exact ⟨u, h1, q u ρ H R .refl (.of h2)⟩
  · rename_i xs h
    cases e
    obtain ⟨a, us, h1, h2, h3, h4⟩ := R.owns i _ h
    exact ⟨.ref a, h1, q _ ρ H R .refl (.inr ⟨rfl, i, xs, a, rfl, rfl, h, h1⟩)⟩
  · cases e⟩
theorem snd_e2 {op : Sto → Val → Val → Option Val} {r : R2} (ho : OpS K cls op r) (ha : Snd K cls m' ta fa) (hb : Snd K cls m'' tb fb) : Snd K cls m (tOp r ta tb) (e2 op fa fb) := ⟨fun ρ Z σ H sl st d st' R e Q q => by
  obtain ⟨p, e1, e⟩ := bind_some e
  obtain ⟨p2, e2, e⟩ := bind_some e
  obtain ⟨z, e3, e⟩ := bind_some e
  cases e
  refine ha.run ρ Z σ H sl st p.1 p.2 R e1 _ fun u ρ1 H1 R1 x1 r1 => ?_
  refine hb.run ρ1 Z σ H1 sl p.2 p2.1 p2.2 R1 e2 _ fun v ρ2 H2 R2 x2 r2 => ?_
  exact ho ρ2 Z σ H2 sl p2.2 _ _ _ u v R2 (r1.ext x2).up r2.up e3 _ fun w H3 R3 x3 r3 => q w ρ2 H3 R3 ((x1.trans x2).trans x3) (.of r3)⟩
theorem snd_e1 {op : Sto → Val → Option Val} {r : V → Hp → VK → Prop} (ho : Op1S K cls op r) (ha : Snd K cls m' ta fa) : Snd K cls m (tUn r ta) (e1 op fa) := ⟨fun ρ Z σ H sl st d st' R e Q q => by
  obtain ⟨p, e1, e⟩ := bind_some e
  obtain ⟨z, e3, e⟩ := bind_some e
  cases e
  refine ha.run ρ Z σ H sl st p.1 p.2 R e1 _ fun u ρ1 H1 R1 x1 r1 => ?_
  exact ho ρ1 Z σ H1 sl p.2 _ _ u R1 r1.up e3 _ fun w H3 R3 x3 r3 => q w ρ1 H3 R3 (x1.trans x3) (.of r3)⟩
/-- a built-in of one argument -/
theorem snd_b1 {op : Sto → Val → Option Val} {r : List V → Hp → VK → Prop} (ho : Op1S K cls op (fun u => r [u])) (ha : Snd K cls m' ta fa) : Snd K cls m (tCB r (tCons ta tNil)) (e1 op fa) := snd_e1 ho ha
theorem snd_l2 {op : Sto → Val → Val → Option (List Val)} {r : R2} (ho : OpLS K cls op r) (ha : Snd K cls m' ta fa) (hb : Snd K cls m'' tb fb) : SndL K cls (tOp r ta tb) (l2 op fa fb) := ⟨fun ρ Z σ H sl st d st' R e Q q => by
  obtain ⟨p, e1, e⟩ := bind_some e
  obtain ⟨p2, e2, e⟩ := bind_some e
  obtain ⟨z, e3, e⟩ := bind_some e
  cases e
  refine ha.run ρ Z σ H sl st p.1 p.2 R e1 _ fun u ρ1 H1 R1 x1 r1 => ?_
  refine hb.run ρ1 Z σ H1 sl p.2 p2.1 p2.2 R1 e2 _ fun v ρ2 H2 R2 x2 r2 => ?_
  exact ho ρ2 Z σ H2 sl p2.2 _ _ _ u v R2 (r1.ext x2).up r2.up e3 _ fun w us hp rl => q w us ρ2 _ R2 (x1.trans x2) hp rl⟩
theorem Rel.fresh {ρ ρ' : List Addr} {Z : Addr → Prop} {σ : L2.St} {H H' : Hp} {sl : Sl} {st' : Sto} {p : Addr} (R : Rel K cls ρ' Z σ H' sl st') (x : Ext ρ H ρ' H') (hp : H' p = none) : H p = none := by
  cases h : H p with
  | none => rfl
  | some o =>
    have h0 : ¬ p ∈ ρ := fun z => R.s.dom p (.inl (x.pre.mem z)) hp
    rw [x.fr.keep p o h0 h] at hp
    cases hp
theorem snd_l1 {op : Sto → Val → Option (List Val)} {r : V → Hp → VK → Prop} (ho : Op1LS K cls op r) (ha : Snd K cls m' ta fa) : SndL K cls (tUn r ta) (l1 op fa) := ⟨fun ρ Z σ H sl st d st' R e Q q => by
  obtain ⟨p, e1, e⟩ := bind_some e
  obtain ⟨z, e3, e⟩ := bind_some e
  cases e
  refine ha.run ρ Z σ H sl st p.1 p.2 R e1 _ fun u ρ1 H1 R1 x1 r1 => ?_
  exact ho ρ1 Z σ H1 sl p.2 _ _ u R1 r1.up e3 _ fun w us hp rl => q w us ρ1 _ R1 x1 hp rl⟩
/-- a built-in of one argument -/
theorem snd_bl1 {op : Sto → Val → Option (List Val)} {r : List V → Hp → VK → Prop} (ho : Op1LS K cls op (fun u => r [u])) (ha : Snd K cls m' ta fa) : SndL K cls (tCB r (tCons ta tNil)) (l1 op fa) := snd_l1 ho ha
/-- a new list kept as a value -/
theorem snd_d {f : L} (h : SndL K cls ta f) : Snd K cls m ta (eD f) := ⟨fun ρ Z σ H sl st d st' R e Q q => by
  obtain ⟨p, e1, e⟩ := bind_some e
  cases e
  exact h.run ρ Z σ H sl st p.1 p.2 R e1 _ fun w us ρ1 H1 R1 x1 hp rl => q _ ρ1 _ (R1.new hp) (x1.trans (.new hp)) (.of (.lst (.inl ⟨fun z => R1.s.dom _ z hp, .inl upd_same⟩) (Ext.repL (.new hp) rl)))⟩
/-- .. laid into the store -/
theorem snd_k {f : L} (h : SndL K cls ta f) : Snd K cls m ta (eK f) := ⟨fun ρ Z σ H sl st d st' R e Q q => by
  obtain ⟨p, e1, e⟩ := bind_some e
  cases e
  refine h.run ρ Z σ H sl st p.1 p.2 R e1 _ fun w us ρ1 H1 R1 x1 hp rl => ?_
  refine q _ (ρ1 ++ [w]) _ (R1.push hp ⟨us, upd_same, Ext.repL (.push hp) rl⟩) (x1.trans (.push hp)) (.of (.ref ?_))
  rw [← R1.s.len, List.getElem?_append_right (Nat.le_refl _), Nat.sub_self] <;> rfl⟩
end
end Mi

set_option Elab.async false
set_option linter.all false
set_option maxRecDepth 100000
set_option maxHeartbeats 1000000
/-! Mi, fourth part: operations on values. -/
namespace Mi
open PySem PyProof.Rows L2
variable [Gam]

section
variable {K : PySem.W.Frag} {cls : Nat → Addr} {ρ : List Addr} {Z : Addr → Prop} {σ : L2.St} {H : Hp} {sl : Sl} {st : Sto} {m : Bool} {x y : Val} {u v : V}
theorem int_inv {i : Int} (h : RepM K m ρ Z σ H sl (.int i) u) : u = .int i := by
  rcases h with h | ⟨_, _, _, _, z, _⟩
  · cases h; rfl
  · cases z
theorem bl_inv {i : Bool} (h : RepM K m ρ Z σ H sl (.bl i) u) : u = .bl i := by
  rcases h with h | ⟨_, _, _, _, z, _⟩
  · cases h; rfl
  · cases z
theorem str_inv {i : Str} (h : RepM K m ρ Z σ H sl (.str i) u) : u = .str i := by
  rcases h with h | ⟨_, _, _, _, z, _⟩
  · cases h; rfl
  · cases z
theorem tup_inv {xs : List Val} (h : RepM K m ρ Z σ H sl (.tup xs) u) : ∃ a us, u = .ref a ∧ TupAt K (AR ρ (ZO Z sl σ)) H a us ∧ RepL K ρ (AR ρ (ZO Z sl σ)) H xs us := by
  rcases h with h | ⟨_, _, _, _, z, _⟩
  · cases h with
    | tup h1 h2 => exact ⟨_, _, rfl, h1, h2⟩
  · cases z
theorem ops_I {f : Int → Int → Int} : OpS K cls (oI f) (rI0 fun i j => .int (f i j)) := by
  intro ρ Z σ H sl st x y z u v R h1 h2 e Q q
  cases x <;> cases y <;> first | cases e | skip
  rename_i i j
  exact ⟨i, j, int_inv h1, int_inv h2, q _ H R .refl (.int _)⟩
theorem ops_Ic {c : Int → Int → Bool} {C : Int → Int → Prop} {f : Int → Int → Int} (hc : ∀ i j, c i j = true → C i j) : OpS K cls (oIc c f) (rI C fun i j => .int (f i j)) := by
  intro ρ Z σ H sl st x y z u v R h1 h2 e Q q
  cases x <;> cases y <;> first | cases e | skip
  rename_i i j
  have e' : (if c i j then some (Val.int (f i j)) else none) = some z := e
  split at e'
  · rename_i hk
    cases e'
    exact ⟨i, j, int_inv h1, int_inv h2, hc i j hk, q _ H R .refl (.int _)⟩
  · cases e'
theorem ops_B {f : Int → Int → Bool} : OpS K cls (oB f) (rI0 fun i j => .bl (f i j)) := by
  intro ρ Z σ H sl st x y z u v R h1 h2 e Q q
  cases x <;> cases y <;> first | cases e | skip
  rename_i i j
  exact ⟨i, j, int_inv h1, int_inv h2, q _ H R .refl (.bl _)⟩
theorem ops_Bq {f g : Int → Int → Bool} (h : ∀ i j, f i j = g i j) : OpS K cls (oB f) (rI0 fun i j => .bl (g i j)) := by
  have e : f = g := funext fun i => funext fun j => h i j
  subst e
  exact ops_B

/-! ### data -/
theorem depthAll_le : ∀ {ds : List PyData} {n : Nat}, (∀ d ∈ ds, d.depth ≤ n) → PyData.depthAll ds ≤ n
  | [], n, _ => by simp [PyData.depthAll]
  | d :: ds, n, h => by
    simp only [PyData.depthAll]
    have h1 := h d (by simp)
    have h2 := depthAll_le (ds := ds) (n := n) fun e he => h e (by simp [he])
    omega
theorem canLayAll_of : ∀ {ds : List PyData}, (∀ d ∈ ds, d.canLay0 = true) → PyData.canLayAll0 ds = true
  | [], _ => by simp [PyData.canLayAll0]
  | d :: ds, h => by
    simp only [PyData.canLayAll0, Bool.and_eq_true]
    exact ⟨h d (by simp), canLayAll_of fun e he => h e (by simp [he])⟩
theorem mapM_dp {A : Addr → Prop} {n : Nat} (ih : ∀ (x : Val) (u : V) (d : PyData), Rep K ρ A H x u → pd st n x = some d → Dp K H u d ∧ d.canLay0 = true ∧ d.depth ≤ n) :
    ∀ {xs : List Val} {us : List V} {ds : List PyData}, RepL K ρ A H xs us → xs.mapM (pd st n) = some ds → DpAll K H us ds ∧ ∀ d ∈ ds, d.canLay0 = true ∧ d.depth ≤ n
  | _, _, ds, .nil, h => by
    have e : ds = [] := by simpa using h
    subst e
    exact ⟨.nil, by simp⟩
  | _, _, ds, .cons r t, h => by
    rename_i x u xs us
    rw [List.mapM_cons] at h
    obtain ⟨d, h1, h2⟩ := bind_some h
    obtain ⟨es, h3, h4⟩ := bind_some h2
    cases h4
    obtain ⟨i1, i2⟩ := ih x u d r h1
    obtain ⟨j1, j2⟩ := mapM_dp ih t h3
    refine ⟨.cons i1 j1, fun e he => ?_⟩
    rcases List.mem_cons.mp he with z | z
    · subst z; exact i2
    · exact j2 e z
theorem pd_rep (R : RelR K cls ρ (ZO Z sl σ) H st) : ∀ (n : Nat) (x : Val) (u : V) (d : PyData), Rep K ρ (AR ρ (ZO Z sl σ)) H x u → pd st n x = some d → Dp K H u d ∧ d.canLay0 = true ∧ d.depth ≤ n := by
  intro n
  induction n with
  | zero =>
    intro x u d h e
    cases h with
    | non => cases e; exact ⟨.non, rfl, by simp [PyData.depth]⟩
    | bl b => cases e; exact ⟨.bl b, rfl, by simp [PyData.depth]⟩
    | int b => cases e; exact ⟨.int b, rfl, by simp [PyData.depth]⟩
    | str s =>
      unfold pd at e
      split at e
      · rename_i hs
        cases e; exact ⟨.str s, hs, by simp [PyData.depth]⟩
      · cases e
    | ref _ => cases e
    | lst _ _ => cases e
    | tup _ _ => cases e
    | fn _ _ _ => cases e
  | succ n ih =>
    intro x u d h e
    cases h with
    | non => cases e; exact ⟨.non, rfl, by simp [PyData.depth]⟩
    | bl b => cases e; exact ⟨.bl b, rfl, by simp [PyData.depth]⟩
    | int b => cases e; exact ⟨.int b, rfl, by simp [PyData.depth]⟩
    | str s =>
      unfold pd at e
      split at e
      · rename_i hs
        cases e; exact ⟨.str s, hs, by simp [PyData.depth]⟩
      · cases e
    | ref h1 =>
      rename_i r a
      unfold pd at e
      split at e
      · rename_i xs hx
        obtain ⟨us, e1, r1⟩ := R.cells r _ a hx h1
        obtain ⟨ds, e2, rfl⟩ := Option.map_eq_some_iff.mp e
        obtain ⟨j1, j2⟩ := mapM_dp ih r1 e2
        refine ⟨.lst (.inl (.inl e1)) j1, by simp only [PyData.canLay0]; exact canLayAll_of fun d hd => (j2 d hd).1, ?_⟩
        have := depthAll_le fun d hd => (j2 d hd).2
        simp only [PyData.depth]
        omega
      · cases e
    | lst h1 h3 =>
      obtain ⟨ds, e2, rfl⟩ := Option.map_eq_some_iff.mp e
      obtain ⟨j1, j2⟩ := mapM_dp ih h3 e2
      refine ⟨.lst (lst_sq h1) j1, by simp only [PyData.canLay0]; exact canLayAll_of fun d hd => (j2 d hd).1, ?_⟩
      have := depthAll_le fun d hd => (j2 d hd).2
      simp only [PyData.depth]
      omega
    | fn _ _ _ => cases e
    | tup h1 h3 =>
      obtain ⟨ds, e2, rfl⟩ := Option.map_eq_some_iff.mp e
      obtain ⟨j1, j2⟩ := mapM_dp ih h3 e2
      refine ⟨.tup (tup_sq h1) j1, by simp only [PyData.canLay0]; exact canLayAll_of fun d hd => (j2 d hd).1, ?_⟩
      have := depthAll_le fun d hd => (j2 d hd).2
      simp only [PyData.depth]
      omega
theorem pd_dp (R : Rel K cls ρ Z σ H sl st) {x : Val} {u : V} {d : PyData} (h : RepM K m ρ Z σ H sl x u) (e : pd st deep x = some d) : Dp K H u d ∧ SeqAt.shaped d = true := by
  have fin : Dp K H u d ∧ d.canLay0 = true ∧ d.depth ≤ deep → Dp K H u d ∧ SeqAt.shaped d = true := fun ⟨h1, h2, h3⟩ => by
    refine ⟨h1, ?_⟩
    show (d.canLay0 && decide (d.depth ≤ 64)) = true
    rw [h2, Bool.true_and]
    exact decide_eq_true (by have : deep = 20 := rfl; omega)
  rcases h with h | ⟨_, i, xs, a, rfl, rfl, h1, h2⟩
  · exact fin (pd_rep R.s deep x u d h e)
  · obtain ⟨b, us, e1, e2, r, _⟩ := R.owns i _ h1
    rw [h2] at e1
    cases e1
    have e' : ((xs.mapM (pd st 19)).map PyData.list) = some d := e
    obtain ⟨ds, e3, rfl⟩ := Option.map_eq_some_iff.mp e'
    obtain ⟨j1, j2⟩ := mapM_dp (fun x u d => pd_rep R.s 19 x u d) r e3
    refine fin ⟨.lst (.inl (.inl e2)) j1, by simp only [PyData.canLay0]; exact canLayAll_of fun d hd => (j2 d hd).1, ?_⟩
    have := depthAll_le fun d hd => (j2 d hd).2
    have hd : deep = 20 := rfl
    simp only [PyData.depth]
    omega
theorem veq_some {x y : Val} {b : Bool} (h : veq st x y = some b) : ∃ d e, pd st deep x = some d ∧ pd st deep y = some e ∧ PyData.eqv d e = b := by
  obtain ⟨d, h1, h⟩ := bind_some h
  obtain ⟨e, h2, h⟩ := bind_some h
  exact ⟨d, e, h1, h2, Option.some.inj h⟩
theorem ops_eq : OpS K cls oEq (rEqD K) := by
  intro ρ Z σ H sl st x y z u v R h1 h2 e Q q
  obtain ⟨b, hb, rfl⟩ := Option.map_eq_some_iff.mp e
  obtain ⟨d, d', e1, e2, rfl⟩ := veq_some hb
  obtain ⟨a1, a2⟩ := pd_dp R h1 e1
  obtain ⟨b1, b2⟩ := pd_dp R h2 e2
  exact ⟨d, d', a1, b1, a2, b2, q _ H R .refl (.bl _)⟩
theorem ops_ne : OpS K cls oNe (rNeD K) := by
  intro ρ Z σ H sl st x y z u v R h1 h2 e Q q
  obtain ⟨b, hb, rfl⟩ := Option.map_eq_some_iff.mp e
  obtain ⟨d, d', e1, e2, rfl⟩ := veq_some hb
  obtain ⟨a1, a2⟩ := pd_dp R h1 e1
  obtain ⟨b1, b2⟩ := pd_dp R h2 e2
  exact ⟨d, d', a1, b1, a2, b2, q _ H R .refl (.bl _)⟩

/-! ### in -/
theorem flat_rep {A : Addr → Prop} (h : Rep K ρ A H x u) (f : flat x = true) : flatV u = true := by
  cases h <;> first | rfl | cases f
theorem flat_repM (h : RepM K m ρ Z σ H sl x u) (f : flat x = true) : flatV u = true := by
  rcases h with h | ⟨_, _, _, _, rfl, _⟩
  · exact flat_rep h f
  · cases f
theorem flats_rep {A : Addr → Prop} : ∀ {xs : List Val} {us : List V}, RepL K ρ A H xs us → xs.all flat = true → us.all flatV = true
  | _, _, .nil, _ => rfl
  | _, _, .cons r t, h => by
    rw [List.all_cons, Bool.and_eq_true] at h ⊢
    exact ⟨flat_rep r h.1, flats_rep t h.2⟩
theorem feq_rep {A : Addr → Prop} {x' : Val} {u' : V} (h : Rep K ρ A H x u) (h' : RepM K m ρ Z σ H sl x' u') (f : flat x = true) (f' : flat x' = true) : eqV u u' = feq x x' := by
  rcases h' with h' | ⟨_, _, _, _, rfl, _⟩
  · cases h <;> cases h' <;> first | rfl | cases f | cases f'
  · cases f'
theorem fin_rep {A : Addr → Prop} {x' : Val} {u' : V} (h' : RepM K m ρ Z σ H sl x' u') (f' : flat x' = true) : ∀ {xs : List Val} {us : List V}, RepL K ρ A H xs us → xs.all flat = true → inV u' us = fin x' xs
  | _, _, .nil, _ => rfl
  | _, _, .cons r t, h => by
    rw [List.all_cons, Bool.and_eq_true] at h
    show (eqV _ u' || inV u' _) = (feq _ x' || fin x' _)
    rw [feq_rep r h' h.1 f', fin_rep h' f' t h.2]
theorem vin_core (R : Rel K cls ρ Z σ H sl st) (h1 : RepM K true ρ Z σ H sl x u) (h2 : RepM K true ρ Z σ H sl y v) {b : Bool} (e : vin st x y = some b) :
    (∃ p xs, v = .ref p ∧ (SqL K H p xs ∨ SqT K H p xs) ∧ flatV u = true ∧ xs.all flatV = true ∧ inV u xs = b) ∨
    ∃ d ds, Dp K H u d ∧ Dp K H v (.list ds) ∧ SeqAt.shaped d = true ∧ SeqAt.shaped (.list ds) = true ∧ (ds.any fun z => PyData.eqv z d) = b := by
  obtain ⟨xs, e1, e⟩ := bind_some e
  obtain ⟨a, us, rfl, r1, r2⟩ := viewL_of R h2 e1
  split at e
  · rename_i hf
    rw [Bool.and_eq_true] at hf
    cases e
    refine .inl ⟨a, us, rfl, ?_, flat_repM h1 hf.1, flats_rep r2 hf.2, fin_rep h1 hf.1 r2 hf.2⟩
    rcases r1 with ⟨r1, _⟩ | ⟨r1, _⟩
    · exact .inl r1
    · exact .inr r1
  · split at e
    · rename_i hl
      obtain ⟨d, e2, e⟩ := bind_some e
      obtain ⟨ds, e3, e⟩ := bind_some e
      cases e
      obtain ⟨a1, a2⟩ := pd_dp R h1 e2
      rcases r1 with ⟨r1, _⟩ | ⟨r1, rfl, _⟩
      · obtain ⟨j1, j2⟩ := mapM_dp (fun x u d => pd_rep R.s deep x u d) r2 e3
        refine .inr ⟨d, ds, a1, .lst r1 j1, a2, ?_, rfl⟩
        show (PyData.canLay0 (.list ds) && decide (PyData.depth (.list ds) ≤ 64)) = true
        have h3 := depthAll_le fun d hd => (j2 d hd).2
        have h4 : PyData.depth (.list ds) ≤ 64 := by
          have hd : deep = 20 := rfl
          simp only [PyData.depth]
          omega
        rw [decide_eq_true h4, Bool.and_true]
        simp only [PyData.canLay0]
        exact canLayAll_of fun d hd => (j2 d hd).1
      · cases hl
    · cases e
theorem ops_in : OpS K cls oIn (fun x y H Q => rIn K false x y H Q ∨ rInD K x y H Q) := by
  intro ρ Z σ H sl st x y z u v R h1 h2 e Q q
  obtain ⟨b, hb, rfl⟩ := Option.map_eq_some_iff.mp e
  rcases vin_core R h1 h2 hb with ⟨p, xs, rfl, a1, a2, a3, a4⟩ | ⟨d, ds, a1, a2, a3, a4, a5⟩
  · exact .inl ⟨p, xs, rfl, a1, a2, a3, by rw [a4]; exact q _ H R .refl (.bl _)⟩
  · exact .inr ⟨d, ds, a1, a2, a3, a4, by rw [a5]; exact q _ H R .refl (.bl _)⟩
theorem ops_nin : OpS K cls oNin (fun x y H Q => rIn K true x y H Q ∨ rNotInD K x y H Q) := by
  intro ρ Z σ H sl st x y z u v R h1 h2 e Q q
  obtain ⟨b, hb, rfl⟩ := Option.map_eq_some_iff.mp e
  rcases vin_core R h1 h2 hb with ⟨p, xs, rfl, a1, a2, a3, a4⟩ | ⟨d, ds, a1, a2, a3, a4, a5⟩
  · exact .inl ⟨p, xs, rfl, a1, a2, a3, by rw [if_pos rfl, a4]; exact q _ H R .refl (.bl _)⟩
  · exact .inr ⟨d, ds, a1, a2, a3, a4, by rw [a5]; exact q _ H R .refl (.bl _)⟩

/-! ### is, places, lengths -/
theorem ops_is : OpS K cls oIs rIsB := by
  intro ρ Z σ H sl st x y z u v R h1 h2 e Q q
  cases x <;> cases y <;> first | cases e | skip
  rename_i i j
  exact ⟨i, j, bl_inv h1, bl_inv h2, by rw [show decide (i = j) = (i == j) by cases i <;> cases j <;> rfl]; exact q _ H R .refl (.bl _)⟩
theorem ops_isn : OpS K cls oIsn rNotB := by
  intro ρ Z σ H sl st x y z u v R h1 h2 e Q q
  cases x <;> cases y <;> first | cases e | skip
  rename_i i j
  exact ⟨i, j, bl_inv h1, bl_inv h2, by rw [show decide (i = j) = (i == j) by cases i <;> cases j <;> rfl]; exact q _ H R .refl (.bl _)⟩
theorem atI_rep {A : Addr → Prop} {xs : List Val} {us : List V} {i : Int} {z : Val} (r : RepL K ρ A H xs us) (h : atI xs i = some z) : ∃ w, atI us i = some w ∧ Rep K ρ A H z w := by
  unfold atI at h ⊢
  obtain ⟨j, h1, h2⟩ := bind_some h
  obtain ⟨w, h3, h4⟩ := r.get h2
  rw [r.length] at h1
  exact ⟨w, by rw [h1]; exact h3, h4⟩
theorem ops_ix : OpS K cls oIx (fun x y H Q => rIxL K x y H Q ∨ rIxT K x y H Q) := by
  intro ρ Z σ H sl st x y z u v R h1 h2 e Q q
  cases y <;> first | cases e | skip
  rename_i i
  have e' : (viewL st x).bind (fun xs => L2.atI xs i) = some z := e
  obtain ⟨xs, e1, e2⟩ := bind_some e'
  obtain ⟨a, us, rfl, r1, r2⟩ := viewL_of R h1 e1
  obtain ⟨w, h3, h4⟩ := atI_rep r2 e2
  have hv := int_inv h2
  subst hv
  rcases r1 with ⟨r1, _⟩ | ⟨r1, _⟩
  · exact .inl ⟨a, us, i, w, rfl, rfl, r1, h3, q _ H R .refl h4⟩
  · exact .inr ⟨a, us, i, w, rfl, rfl, r1, h3, q _ H R .refl h4⟩
theorem ops_neg : Op1S K cls oNeg (rU fun i => .int (-i)) := by
  intro ρ Z σ H sl st x z u R h1 e Q q
  cases x <;> first | cases e | skip
  exact ⟨_, int_inv h1, q _ H R .refl (.int _)⟩
theorem ops_abs : Op1S K cls oAbs (fun u => (fun xs H Q => ∃ i, xs = [.int i] ∧ Q (.int (if i < 0 then -i else i)) H) [u]) := by
  intro ρ Z σ H sl st x z u R h1 e Q q
  cases x <;> first | cases e | skip
  have hu := int_inv h1
  subst hu
  exact ⟨_, rfl, q _ H R .refl (.int _)⟩
theorem ops_int : Op1S K cls oInt (fun u => (fun xs H Q => (∃ i, xs = [.int i] ∧ Q (.int i) H) ∨ ∃ k, xs = [.bl k] ∧ Q (.int (if k then 1 else 0)) H) [u]) := by
  intro ρ Z σ H sl st x z u R h1 e Q q
  cases x <;> first | cases e | skip
  · have hu := bl_inv h1
    subst hu
    exact .inr ⟨_, rfl, q _ H R .refl (.int _)⟩
  · have hu := int_inv h1
    subst hu
    exact .inl ⟨_, rfl, q _ H R .refl (.int _)⟩
def rLen (K : PySem.W.Frag) : List V → Hp → VK → Prop := fun xs H Q => ∃ p ys, xs = [.ref p] ∧ (SqL K H p ys ∨ SqT K H p ys) ∧ Q (.int ys.length) H
theorem ops_len : Op1S K cls oLen (fun u => rLen K [u]) := by
  intro ρ Z σ H sl st x z u R h1 e Q q
  have e' : (viewL st x).bind (fun xs => some (Val.int (xs.length : Nat))) = some z := e
  obtain ⟨xs, e1, e2⟩ := bind_some e'
  cases e2
  obtain ⟨a, us, rfl, r1, r2⟩ := viewL_of R h1 e1
  refine ⟨a, us, rfl, ?_, by rw [← r2.length]; exact q _ H R .refl (.int _)⟩
  rcases r1 with ⟨r1, _⟩ | ⟨r1, _⟩
  · exact .inl r1
  · exact .inr r1
theorem call_lenS {X : Cx} : CallR X (.builtin "len") (rLen X.K) := by
  intro pins s σ H xs us Q I r h
  obtain ⟨p, ys, rfl, hq, q⟩ := h
  refine call_len pins s σ H _ us Q I r ⟨.ref p, ys.length, rfl, ?_, q⟩
  rcases hq with hq | hq
  · exact .inl ⟨_, hq, rfl⟩
  · exact .inr ⟨_, hq, rfl⟩

/-! ### new lists -/
/-- list + list, of any that are read -/
def rCatS (K : PySem.W.Frag) : R2 := fun x y H Q => ∃ l b xs zs, x = .ref l ∧ y = .ref b ∧ SqL K H l xs ∧ SqL K H b zs ∧ xs.length + zs.length ≤ sizeLine ∧ ∀ p, H p = none → Q (.ref p) (upd H p (.lst (xs ++ zs)))
theorem op_catS {X : Cx} : OpR X (binaryOp .Add) (rCatS X.K) := by
  intro pins s σ H x y v u Q I rx ry h
  obtain ⟨l, b, xs, zs, rfl, rfl, hH, hB, hz, q⟩ := h
  cases rx
  cases ry
  obtain ⟨its, r, ⟨⟨c1, d1, t1, s1⟩, n, e, hc, hd, ht⟩, z⟩ := I.list hH
  obtain ⟨its2, r2, ⟨⟨c2, d2, t2, s2⟩, n2, e2, hc2, hd2, ht2⟩, z2⟩ := I.list hB
  simp only at hc hd ht hc2 hd2 ht2
  subst hc hd ht hc2 hd2 ht2
  have hl := r.length
  have hl2 := r2.length
  refine concat_meets ⟨_, e, rfl⟩ ⟨_, e2, rfl⟩ noFill_list_add seq_list_add F.slot_list_add F.entry_list_add (F.args_list_add_2 _ _) (list_addW l b its.toArray its2.toArray n n2 none none s1 s2 (by rw [List.size_toArray, List.size_toArray]; omega)) ⟨e, e2, ?_⟩
  have ea : its.toArray ++ its2.toArray = (its ++ its2).toArray := by simp
  rw [ea]
  exact ⟨.ref _, _, I.lnew (t' := s.toks) (r.append r2) (by rw [List.length_append]; omega), rfl, q _ I.fresh⟩
theorem viewQ_two {xs ys : List Val} (R : Rel K cls ρ Z σ H sl st) (h1 : RepM K true ρ Z σ H sl x u) (h2 : RepM K true ρ Z σ H sl y v) (e1 : viewQ st x = some xs) (e2 : viewQ st y = some ys) :
    ∃ a b us vs, u = .ref a ∧ v = .ref b ∧ SqL K H a us ∧ SqL K H b vs ∧ RepL K ρ (AR ρ (ZO Z sl σ)) H xs us ∧ RepL K ρ (AR ρ (ZO Z sl σ)) H ys vs := by
  obtain ⟨a, us, rfl, r1, r2⟩ := viewQ_of R h1 e1
  obtain ⟨b, vs, rfl, r3, r4⟩ := viewQ_of R h2 e2
  exact ⟨a, b, us, vs, rfl, rfl, r1, r3, r2, r4⟩
theorem opl_cat : OpLS K cls oCat (rCatS K) := by
  intro ρ Z σ H sl st x y zs u v R h1 h2 e Q q
  obtain ⟨xs, e1, e⟩ := bind_some e
  obtain ⟨ys, e2, e⟩ := bind_some e
  split at e
  · rename_i hl
    cases e
    obtain ⟨a, b, us, vs, rfl, rfl, r1, r2, r3, r4⟩ := viewQ_two R h1 h2 e1 e2
    refine ⟨a, b, us, vs, rfl, rfl, r1, r2, ?_, fun p hp => q p _ hp (r3.append r4)⟩
    rw [← r3.length, ← r4.length]
    exact Nat.le_trans hl (by decide)
  · cases e
/-- + of any kind -/
def rAddX (K : PySem.W.Frag) : R2 := fun x y H Q => rI0 (fun i j => .int (i + j)) x y H Q ∨ rCatA K x y H Q ∨ rCatS K x y H Q
theorem op_addX {X : Cx} : OpR X (binaryOp .Add) (rAddX X.K) := op_add.or (op_catA.or op_catS)
theorem ops_add : OpS K cls oAdd (rAddX K) := by
  intro ρ Z σ H sl st x y z u v R h1 h2 e Q q
  have lists : ((viewQ st x).bind fun xs => (viewQ st y).bind fun ys => if xs.length + ys.length ≤ 100000 then some (Val.lst (xs ++ ys)) else none) = some z → rAddX K u v H Q := fun e => by
    obtain ⟨xs, e1, e⟩ := bind_some e
    obtain ⟨ys, e2, e⟩ := bind_some e
    split at e
    · rename_i hl
      cases e
      refine .inr (.inr (opl_cat ρ Z σ H sl st x y (xs ++ ys) u v R h1 h2 (by unfold oCat; rw [e1]; show (viewQ st y).bind _ = _; rw [e2]; show (if _ then _ else _) = _; rw [if_pos hl]) Q fun p us hp r => ?_))
      exact q _ _ (R.new hp) (.new hp) (.lst (.inl ⟨fun z => R.s.dom _ z hp, .inl upd_same⟩) (Ext.repL (.new hp) r))
    · cases e
  unfold oAdd at e
  split at e
  · rename_i i j
    cases e
    exact .inl ⟨i, j, int_inv h1, int_inv h2, q _ H R .refl (.int _)⟩
  · rename_i xs ys
    split at e
    · rename_i hl
      cases e
      obtain ⟨a, us, rfl, t1, r1⟩ := tup_inv h1
      obtain ⟨b, vs, rfl, t2, r2⟩ := tup_inv h2
      refine .inr (.inl ⟨a, b, us, vs, rfl, rfl, tup_sq t1, tup_sq t2, ?_, fun h0 => ?_, fun _ h0 => ?_, fun _ _ p hp => ?_⟩)
      · rw [← r1.length, ← r2.length]
        exact Nat.le_trans hl (by decide)
      · have hx : xs = [] := List.eq_nil_of_length_eq_zero (by rw [r1.length, h0]; rfl)
        subst hx
        exact q _ H R .refl (.tup t2 r2)
      · have hx : ys = [] := List.eq_nil_of_length_eq_zero (by rw [r2.length, h0]; rfl)
        subst hx
        rw [List.append_nil] at q
        exact q _ H R .refl (.tup t1 r1)
      · exact q _ _ (R.new hp) (.new hp) (.tup (.inl ⟨fun z => R.s.dom _ z hp, upd_same⟩) (Ext.repL (.new hp) (r1.append r2)))
    · cases e
  · exact lists e
def rRepS (K : PySem.W.Frag) : R2 := fun x y H Q => ∃ l k xs, x = .ref l ∧ y = .int k ∧ SqL K H l xs ∧ -(2 ^ 63) ≤ k ∧ k < 2 ^ 63 ∧ xs.length * k.toNat ≤ sizeLine ∧
  ∀ p, H p = none → Q (.ref p) (upd H p (.lst (List.replicate k.toNat xs).flatten))
theorem int_rmulW (a : Int) (t : Tok) (l : Addr) (items : Array Value) (n : Nat) (sl : Array (Option Value)) :
    Meets (Builtin.«int.__rmul__» ⟨[.int a t, .ref l], []⟩) (fun _ R s => s.heap.get? l = some { cls := .type "list", dict := none, data := .seq items n, slots := sl } ∧ R (.ok (.ret Value.notImplemented)) s) :=
  .of_wp fun prog w A R s h => by obtain ⟨hp, g, d, tk, os⟩ := s; obtain ⟨hl, h⟩ := h; wp_walk; exact ⟨_, rfl, h⟩
theorem list_mulW (l : Addr) (items : Array Value) (n : Nat) (sl : Array (Option Value)) (x : Int) (u : Tok) (hc0 : ¬(!Builtin.List.listFitsIndex x) = true) (hc1 : ¬items.size * x.toNat > (2 ^ 63 - 1) / 8) (hc2 : ¬Builtin.List.listTooLong (items.size * x.toNat) = true) :
    Meets (Builtin.«list.__mul__» ⟨[.ref l, .int x u], []⟩) (fun _ R s => s.heap.get? l = some { cls := .type "list", dict := none, data := .seq items n, slots := sl } ∧ R (.ok (.ret (Value.ref s.heap.objs.size))) { s with heap := s.heap.push { cls := Value.type "list", data := Data.seq (List.foldl (fun x1 x2 => x1 ++ x2) #[] (List.replicate (if items.isEmpty = true then 0 else x.toNat) items)) }, toks := s.toks }) :=
  .of_wp fun prog w A R s h => by
    obtain ⟨hp, g, d, tk, os⟩ := s; obtain ⟨hl, h⟩ := h
    have hsz := AutoListH.joined_fits hc2
    wp_walk; refine wpAny_ite_false (decide_eq_false (Nat.not_lt.mpr hsz)) ?_; wp_walk; exact ⟨_, rfl, h⟩
theorem op_repS {X : Cx} : OpR X (binaryOp .Mult) (rRepS X.K) := by
  intro pins s σ H x y v u Q I rx ry h
  obtain ⟨l, k, xs, rfl, rfl, hH, h1, h2, hz, q⟩ := h
  cases rx
  obtain ⟨t, rfl⟩ := ry
  obtain ⟨its, r, ⟨⟨c1, d1, t1, s1⟩, n, e, hc, hd, ht⟩, z⟩ := I.list hH
  simp only at hc hd ht
  subst hc hd ht
  have hl := r.length
  have hlen : its.toArray.size * k.toNat ≤ sizeLine := by rw [List.size_toArray, ← hl]; exact hz
  have hcap : ¬ its.toArray.size * k.toNat > (2 ^ 63 - 1) / 8 := by
    have : (sizeLine : Nat) ≤ (2 ^ 63 - 1) / 8 := by decide
    omega
  have hfit : ¬ (!Builtin.List.listFitsIndex k) = true := by
    rw [fitsIndex_both h1 h2]
    exact Bool.false_ne_true
  have hlong : ¬ Builtin.List.listTooLong (its.toArray.size * k.toNat) = true := by
    rw [notLongL hlen]
    exact Bool.false_ne_true
  have hnew : List.foldl (fun x1 x2 => x1 ++ x2) #[] (List.replicate (if its.toArray.isEmpty = true then 0 else k.toNat) its.toArray) = (List.replicate k.toNat its).flatten.toArray := by
    have f0 : ∀ m : Nat, List.foldl (fun x1 x2 => x1 ++ x2) #[] (List.replicate m its.toArray) = (List.replicate m its).flatten.toArray := fun m => by
      have := foldl_rep its m []
      rw [List.nil_append] at this
      exact this
    rw [f0]
    cases its with
    | nil => simp
    | cons a r' => rw [if_neg (by simp)]
  refine wpAny_binaryOp_repeat_ref (T := "list") (U := "int") (by decide) ⟨_, e, rfl⟩ (fun s' => typeIs_int s' k t) noFill_list_mul F.fills_int_mul F.slot_int_rmul repeat_list F.slot_int_index.lookup
    (call_meets F.slot_int_rmul (typeIs_int s k t) F.entry_int_rmul (F.args_int_rmul_2 _ _) (int_rmulW k t l its.toArray n s1)
      ⟨e, rfl, ⟨_, e, rfl⟩, call_meets F.slot_list_mul ⟨_, e, rfl⟩ F.entry_list_mul (F.args_list_mul_2 _ _) (list_mulW l its.toArray n s1 k t hfit hcap hlong) ⟨e, ?_⟩⟩)
  rw [hnew]
  exact ⟨.ref _, _, I.lnew (t' := s.toks) (r.rep k.toNat) (by rw [PyProof.Rows.lm_len_rep_flat, Nat.mul_comm]; exact hz), rfl, q _ I.fresh⟩
theorem opl_rep : OpLS K cls oRep (rRepS K) := by
  intro ρ Z σ H sl st x y zs u v R h1 h2 e Q q
  unfold oRep at e
  split at e
  · rename_i k
    obtain ⟨xs, e1, e⟩ := bind_some e
    split at e
    · rename_i hl
      cases e
      obtain ⟨a, us, rfl, r1, r2⟩ := viewQ_of R h1 e1
      exact ⟨a, k, us, rfl, int_inv h2, r1, by omega, by omega, (by rw [← r2.length]; exact Nat.le_trans hl.2.2 (by decide)), fun p hp => q p _ hp (r2.rep k.toNat)⟩
    · cases e
  · cases e
def rMulX (K : PySem.W.Frag) : R2 := fun x y H Q => rI CMulW (fun i j => .int (i * j)) x y H Q ∨ rRepS K x y H Q
theorem op_mulX {X : Cx} : OpR X (binaryOp .Mult) (rMulX X.K) := op_mulW.or op_repS
theorem big_mul {i j : Int} (h : (decide (i.natAbs < big) && decide (j.natAbs < big)) = true) : CMulW i j := by
  rw [Bool.and_eq_true, decide_eq_true_eq, decide_eq_true_eq] at h
  exact wide_mul (a := 400) (b := 400) h.1 h.2 (by decide) (by decide) (by decide)
theorem ops_mul : OpS K cls oMul (rMulX K) := by
  intro ρ Z σ H sl st x y z u v R h1 h2 e Q q
  unfold oMul at e
  split at e
  · rename_i st' i j
    have e' : (if (decide (i.natAbs < big) && decide (j.natAbs < big)) = true then some (Val.int (i * j)) else none) = some z := e
    split at e'
    · rename_i hb
      cases e'
      exact .inl ⟨i, j, int_inv h1, int_inv h2, big_mul hb, q _ H R .refl (.int _)⟩
    · cases e'
  · rename_i k _
    obtain ⟨xs, e1, e⟩ := bind_some e
    split at e
    · rename_i hl
      cases e
      obtain ⟨a, us, rfl, r1, r2⟩ := viewQ_of R h1 e1
      refine .inr ⟨a, k, us, rfl, int_inv h2, r1, by omega, by omega, (by rw [← r2.length]; exact Nat.le_trans hl.2.2 (by decide)), fun p hp => ?_⟩
      exact q _ _ (R.new hp) (.new hp) (.lst (.inl ⟨fun z => R.s.dom _ z hp, .inl upd_same⟩) (Ext.repL (.new hp) (r2.rep k.toNat)))
    · cases e
  · cases e
theorem and_pos {j : Int} (h : decide (0 < j) = true) : 0 < j := of_decide_eq_true h
theorem ops_mod : OpS K cls oMod (rI (fun _ j => 0 < j) fun i j => .int (i % j)) := ops_Ic fun _ _ h => of_decide_eq_true h
theorem ops_div : OpS K cls oDiv (rI CDiv fun i j => .int (i / j)) := ops_Ic fun i j h => by
  rw [Bool.and_eq_true, decide_eq_true_eq, decide_eq_true_eq] at h
  exact h
theorem ops_pow : OpS K cls oPow (rI CPow fun i j => .int (i ^ j.toNat)) := ops_Ic fun i j h => by
  rw [Bool.and_eq_true, Bool.and_eq_true, decide_eq_true_eq, decide_eq_true_eq, decide_eq_true_eq] at h
  exact ⟨h.1.1, by omega, h.2⟩
theorem ops_shl : OpS K cls oShl (rI CPow fun i j => .int (i * 2 ^ j.toNat)) := ops_Ic fun i j h => by
  rw [Bool.and_eq_true, Bool.and_eq_true, decide_eq_true_eq, decide_eq_true_eq, decide_eq_true_eq] at h
  exact ⟨h.1.1, by omega, h.2⟩
theorem ops_shr : OpS K cls oShr (rI (fun _ j => 0 ≤ j) fun i j => .int (i / 2 ^ j.toNat)) := ops_Ic fun _ _ h => of_decide_eq_true h

/-! ### list(x), sorted(x), x[::-1] -/
def rListS (K : PySem.W.Frag) : List V → Hp → VK → Prop := fun xs H Q => ∃ p ys, xs = [.ref p] ∧ (SqL K H p ys ∨ SqT K H p ys) ∧ ∀ l, H l = none → Q (.ref l) (upd H l (.lst ys))
theorem opl_list : Op1LS K cls oList (fun u => rListS K [u]) := by
  intro ρ Z σ H sl st x zs u R h1 e Q q
  obtain ⟨a, us, rfl, r1, r2⟩ := viewL_of R h1 e
  refine ⟨a, us, rfl, ?_, fun p hp => q p us hp r2⟩
  rcases r1 with ⟨r1, _⟩ | ⟨r1, _⟩
  · exact .inl r1
  · exact .inr r1
theorem allInt_rep {A : Addr → Prop} : ∀ {xs : List Val} {us : List V} {ns : List Int}, RepL K ρ A H xs us → allInt xs = some ns → us = ns.map V.int ∧ xs = ns.map Val.int
  | _, _, ns, .nil, h => by cases h; exact ⟨rfl, rfl⟩
  | _, _, ns, .cons r t, h => by
    cases r <;> first | cases h | skip
    obtain ⟨l, h1, h2⟩ := bind_some h
    cases h2
    obtain ⟨q1, q2⟩ := allInt_rep t h1
    exact ⟨by rw [q1]; rfl, by rw [q2]; rfl⟩
theorem insI_perm (i : Int) : ∀ l : List Int, (insI i l).Perm (i :: l)
  | [] => .refl _
  | j :: r => by
    unfold insI
    split
    · exact .refl _
    · exact ((insI_perm i r).cons j).trans (.swap _ _ _)
theorem sortI_perm : ∀ l : List Int, (sortI l).Perm l
  | [] => .refl _
  | i :: r => (insI_perm i (sortI r)).trans ((sortI_perm r).cons i)
theorem insI_sorted (i : Int) : ∀ {l : List Int}, l.Pairwise (· ≤ ·) → (insI i l).Pairwise (· ≤ ·)
  | [], _ => by simp [insI]
  | j :: r, h => by
    unfold insI
    rw [List.pairwise_cons] at h
    split
    · rename_i hij
      rw [List.pairwise_cons]
      refine ⟨fun k hk => ?_, List.pairwise_cons.mpr h⟩
      rcases List.mem_cons.mp hk with z | z
      · omega
      · have := h.1 k z; omega
    · rename_i hij
      rw [List.pairwise_cons]
      refine ⟨fun k hk => ?_, insI_sorted i h.2⟩
      rcases List.mem_cons.mp ((insI_perm i r).mem_iff.mp hk) with z | z
      · omega
      · exact h.1 k z
theorem sortI_sorted : ∀ l : List Int, (sortI l).Pairwise (· ≤ ·)
  | [] => List.Pairwise.nil
  | i :: r => insI_sorted i (sortI_sorted r)
theorem sorted_unique : ∀ {l l' : List Int}, l.Perm l' → l.Pairwise (· ≤ ·) → l'.Pairwise (· ≤ ·) → l = l' := fun p h h' => p.eq_of_pairwise (fun a b _ _ h1 h2 => Int.le_antisymm h1 h2) h h'
theorem opl_sort : Op1LS K cls oSort (fun u => rSortedI K [u]) := by
  intro ρ Z σ H sl st x zs u R h1 e Q q
  obtain ⟨xs, e1, e⟩ := bind_some e
  obtain ⟨ns, e2, e⟩ := bind_some e
  cases e
  obtain ⟨a, us, rfl, r1, r2⟩ := viewQ_of R h1 e1
  obtain ⟨rfl, rfl⟩ := allInt_rep r2 e2
  refine ⟨a, ns, rfl, r1, fun ns' p hp hs h0 => ?_⟩
  have e3 : ns' = sortI ns := sorted_unique (hp.trans (sortI_perm ns).symm) hs (sortI_sorted ns)
  subst e3
  exact q p _ h0 (RepL.ints _)
def rRevS (K : PySem.W.Frag) : V → Hp → VK → Prop := fun x H Q => ∃ a xs, x = .ref a ∧ SqL K H a xs ∧ ∀ p, H p = none → Q (.ref p) (upd H p (.lst xs.reverse))
theorem opl_rev : Op1LS K cls oRev (rRevS K) := by
  intro ρ Z σ H sl st x zs u R h1 e Q q
  obtain ⟨xs, e1, e⟩ := bind_some e
  cases e
  obtain ⟨a, us, rfl, r1, r2⟩ := viewQ_of R h1 e1
  exact ⟨a, us, rfl, r1, fun p hp => q p _ hp r2.reverse⟩
theorem snd_rev {ta : TE} {fa : E} (ha : Snd K cls m ta fa) : SndL K cls (tRevL K ta) (l1 oRev fa) := snd_l1 (r := rRevS K) opl_rev ha

/-! ### slices -/
theorem cut_rep {A : Addr → Prop} {xs : List Val} {us : List V} (r : RepL K ρ A H xs us) (lo hi : Option Int) : RepL K ρ A H (cut xs lo hi) (cutV us lo hi) := by
  unfold cut cutV
  rw [r.length]
  exact (r.drop _).take _
theorem snd_pn : SndP K cls tNoPart pN := ⟨fun ρ Z σ H sl st o st' R e Q q => by
  cases e
  exact q ρ H R .refl⟩
theorem snd_ps {ta : TE} {fa : E} (ha : Snd K cls m ta fa) : SndP K cls (tPart ta) (pS fa) := ⟨fun ρ Z σ H sl st o st' R e Q q => by
  obtain ⟨p, e1, e⟩ := bind_some e
  split at e
  · rename_i i hi
    cases e
    refine ha.run ρ Z σ H sl st p.1 p.2 R e1 _ fun u ρ1 H1 R1 x1 r1 => ?_
    rw [hi] at r1
    exact ⟨i, int_inv r1, q ρ1 H1 R1 x1⟩
  · cases e⟩
theorem snd_sl {ta : TE} {fa : E} {tl th : TO} {fl fh : P} (ha : Snd K cls m ta fa) (hl : SndP K cls tl fl) (hh : SndP K cls th fh) : SndL K cls (tSl (rSlL K) ta tl th) (lSl fa fl fh) := ⟨fun ρ Z σ H sl st ds st' R e Q q => by
  obtain ⟨p, e1, e⟩ := bind_some e
  obtain ⟨p2, e2, e⟩ := bind_some e
  obtain ⟨p3, e3, e⟩ := bind_some e
  obtain ⟨xs, e4, e⟩ := bind_some e
  cases e
  refine ha.run ρ Z σ H sl st p.1 p.2 R e1 _ fun u ρ1 H1 R1 x1 r1 => ?_
  refine hl.run ρ1 Z σ H1 sl p.2 p2.1 p2.2 R1 e2 _ fun ρ2 H2 R2 x2 => ?_
  refine hh.run ρ2 Z σ H2 sl p2.2 p3.1 p3.2 R2 e3 _ fun ρ3 H3 R3 x3 => ?_
  obtain ⟨a, us, rfl, r2, r3⟩ := viewQ_of R3 (r1.ext (x2.trans x3)) e4
  exact ⟨a, us, rfl, r2, fun w hw => q w _ ρ3 H3 R3 ((x1.trans x2).trans x3) hw (cut_rep r3 _ _)⟩⟩
def rSlX (K : PySem.W.Frag) : V → Option Int → Option Int → Hp → VK → Prop := fun x lo hi H Q => rSlL K x lo hi H Q ∨ rSlA K x lo hi H Q
theorem sl_X {X : Cx} : SlR X (rSlX X.K) := sl_list.or sl_tupA
theorem cut_whole {xs : List Val} {lo hi : Option Int} (h : HT.sIx xs.length 0 lo = 0 ∧ HT.sIx xs.length xs.length hi = xs.length) : cut xs lo hi = xs := by
  unfold cut
  rw [h.1, h.2, List.drop_zero, Nat.sub_zero, List.take_length]
theorem snd_slx {ta : TE} {fa : E} {tl th : TO} {fl fh : P} {m' : Bool} (ha : Snd K cls m ta fa) (hl : SndP K cls tl fl) (hh : SndP K cls th fh) : Snd K cls m' (tSl (rSlX K) ta tl th) (eSl fa fl fh) := ⟨fun ρ Z σ H sl st ds st' R e Q q => by
  obtain ⟨p, e1, e⟩ := bind_some e
  obtain ⟨p2, e2, e⟩ := bind_some e
  obtain ⟨p3, e3, e⟩ := bind_some e
  refine ha.run ρ Z σ H sl st p.1 p.2 R e1 _ fun u ρ1 H1 R1 x1 r1 => ?_
  refine hl.run ρ1 Z σ H1 sl p.2 p2.1 p2.2 R1 e2 _ fun ρ2 H2 R2 x2 => ?_
  refine hh.run ρ2 Z σ H2 sl p2.2 p3.1 p3.2 R2 e3 _ fun ρ3 H3 R3 x3 => ?_
  have r1' := r1.ext (x2.trans x3)
  split at e
  · rename_i xs hx
    cases e
    rw [hx] at r1'
    obtain ⟨a, us, rfl, t, r⟩ := tup_inv r1'
    refine .inr ⟨a, us, rfl, tup_sq t, fun hw => ?_, fun hw w hp => ?_⟩
    · rw [← r.length] at hw
      rw [cut_whole hw] at q
      exact q _ ρ3 H3 R3 ((x1.trans x2).trans x3) (.of (.tup t r))
    · exact q _ ρ3 _ (R3.new hp) (((x1.trans x2).trans x3).trans (.new hp)) (.of (.tup (.inl ⟨fun z => R3.s.dom _ z hp, upd_same⟩) (Ext.repL (.new hp) (cut_rep r _ _))))
  · obtain ⟨xs, e4, e⟩ := bind_some e
    cases e
    obtain ⟨a, us, rfl, r2, r3⟩ := viewQ_of R3 r1' e4
    exact .inl ⟨a, us, rfl, r2, fun w hp => q _ ρ3 _ (R3.new hp) (((x1.trans x2).trans x3).trans (.new hp)) (.of (.lst (.inl ⟨fun z => R3.s.dom _ z hp, .inl upd_same⟩) (Ext.repL (.new hp) (cut_rep r3 _ _))))⟩⟩
end
end Mi

set_option Elab.async false
set_option linter.all false
set_option maxRecDepth 100000
set_option maxHeartbeats 1000000
/-! Mi, fifth part: truths, displays, walks, comprehensions. -/
namespace Mi
open PySem L2
variable [Gam]

section
variable {K : PySem.W.Frag} {cls : Nat → Addr} {ta tb tc te : TE} {fa fb fc fe : E} {m m' m'' : Bool} {tA tB' : TT} {fA fB : T}
theorem snd_tE (ha : Snd K cls m ta fa) : SndT K cls (tTest ta) (tE fa) := ⟨fun ρ Z σ H sl st b st' R e Q q => by
  obtain ⟨p, e1, e⟩ := bind_some e
  split at e
  · rename_i b' hb
    cases e
    refine ha.run ρ Z σ H sl st p.1 p.2 R e1 _ fun u ρ1 H1 R1 x1 r1 => ?_
    rw [hb] at r1
    exact ⟨b, bl_inv r1, q ρ1 H1 R1 x1⟩
  · cases e⟩
theorem snd_tAnd (ha : SndT K cls tA fA) (hb : SndT K cls tB' fB) : SndT K cls (L2.tAnd tA tB') (tAnd fA fB) := ⟨fun ρ Z σ H sl st b st' R e Q q => by
  obtain ⟨p, e1, e⟩ := bind_some e
  refine ha.run ρ Z σ H sl st p.1 p.2 R e1 _ fun ρ1 H1 R1 x1 => ?_
  cases h : p.1 with
  | true =>
    rw [h, if_pos rfl] at e
    rw [if_pos rfl]
    exact hb.run ρ1 Z σ H1 sl p.2 b st' R1 e _ fun ρ2 H2 R2 x2 => q ρ2 H2 R2 (x1.trans x2)
  | false =>
    rw [h, if_neg (by decide)] at e
    cases e
    rw [if_neg (by decide)]
    exact q ρ1 H1 R1 x1⟩
theorem snd_tOr (ha : SndT K cls tA fA) (hb : SndT K cls tB' fB) : SndT K cls (L2.tOr tA tB') (tOr fA fB) := ⟨fun ρ Z σ H sl st b st' R e Q q => by
  obtain ⟨p, e1, e⟩ := bind_some e
  refine ha.run ρ Z σ H sl st p.1 p.2 R e1 _ fun ρ1 H1 R1 x1 => ?_
  cases h : p.1 with
  | false =>
    rw [h, if_neg (by decide)] at e
    rw [if_neg (by decide)]
    exact hb.run ρ1 Z σ H1 sl p.2 b st' R1 e _ fun ρ2 H2 R2 x2 => q ρ2 H2 R2 (x1.trans x2)
  | true =>
    rw [h, if_pos rfl] at e
    cases e
    rw [if_pos rfl]
    exact q ρ1 H1 R1 x1⟩
theorem snd_tNot (ha : SndT K cls tA fA) : SndT K cls (L2.tNot tA) (tNot fA) := ⟨fun ρ Z σ H sl st b st' R e Q q => by
  obtain ⟨p, e1, e⟩ := bind_some e
  cases e
  exact ha.run ρ Z σ H sl st p.1 p.2 R e1 _ fun ρ1 H1 R1 x1 => q ρ1 H1 R1 x1⟩
theorem snd_if (hA : SndT K cls tA fA) (ha : Snd K cls m ta fa) (hb : Snd K cls m tb fb) : Snd K cls m (tIf tA ta tb) (eIf fA fa fb) := ⟨fun ρ Z σ H sl st d st' R e Q q => by
  obtain ⟨p, e1, e⟩ := bind_some e
  refine hA.run ρ Z σ H sl st p.1 p.2 R e1 _ fun ρ1 H1 R1 x1 => ?_
  cases h : p.1 with
  | true =>
    rw [h, if_pos rfl] at e
    rw [if_pos rfl]
    exact ha.run ρ1 Z σ H1 sl p.2 d st' R1 e _ fun u ρ2 H2 R2 x2 r => q u ρ2 H2 R2 (x1.trans x2) r
  | false =>
    rw [h, if_neg (by decide)] at e
    rw [if_neg (by decide)]
    exact hb.run ρ1 Z σ H1 sl p.2 d st' R1 e _ fun u ρ2 H2 R2 x2 r => q u ρ2 H2 R2 (x1.trans x2) r⟩
theorem snd_and (ha : Snd K cls m' ta fa) (hb : Snd K cls m tb fb) : Snd K cls m (tAndV ta tb) (eAnd fa fb) := ⟨fun ρ Z σ H sl st d st' R e Q q => by
  obtain ⟨p, e1, e⟩ := bind_some e
  refine ha.run ρ Z σ H sl st p.1 p.2 R e1 _ fun u ρ1 H1 R1 x1 r1 => ?_
  split at e
  · rename_i h
    rw [h] at r1
    refine ⟨true, bl_inv r1, ?_⟩
    rw [if_pos rfl]
    exact hb.run ρ1 Z σ H1 sl p.2 d st' R1 e _ fun u ρ2 H2 R2 x2 r => q u ρ2 H2 R2 (x1.trans x2) r
  · rename_i h
    rw [h] at r1
    cases e
    refine ⟨false, bl_inv r1, ?_⟩
    rw [if_neg (by decide)]
    exact q _ ρ1 H1 R1 x1 (.of (.bl _))
  · cases e⟩
theorem snd_or (ha : Snd K cls m' ta fa) (hb : Snd K cls m tb fb) : Snd K cls m (tOrV ta tb) (eOr fa fb) := ⟨fun ρ Z σ H sl st d st' R e Q q => by
  obtain ⟨p, e1, e⟩ := bind_some e
  refine ha.run ρ Z σ H sl st p.1 p.2 R e1 _ fun u ρ1 H1 R1 x1 r1 => ?_
  split at e
  · rename_i h
    rw [h] at r1
    cases e
    refine ⟨true, bl_inv r1, ?_⟩
    rw [if_pos rfl]
    exact q _ ρ1 H1 R1 x1 (.of (.bl _))
  · rename_i h
    rw [h] at r1
    refine ⟨false, bl_inv r1, ?_⟩
    rw [if_neg (by decide)]
    exact hb.run ρ1 Z σ H1 sl p.2 d st' R1 e _ fun u ρ2 H2 R2 x2 r => q u ρ2 H2 R2 (x1.trans x2) r
  · cases e⟩
theorem snd_not (ha : Snd K cls m' ta fa) : Snd K cls m (tNotV ta) (eNot fa) := ⟨fun ρ Z σ H sl st d st' R e Q q => by
  obtain ⟨p, e1, e⟩ := bind_some e
  refine ha.run ρ Z σ H sl st p.1 p.2 R e1 _ fun u ρ1 H1 R1 x1 r1 => ?_
  split at e
  · rename_i b h
    rw [h] at r1
    cases e
    exact ⟨b, bl_inv r1, q _ ρ1 H1 R1 x1 (.of (.bl _))⟩
  · cases e⟩
theorem snd_ch {op op' : Sto → Val → Val → Option Val} {r r' : R2} (ho : OpS K cls op r) (ho' : OpS K cls op' r') (ha : Snd K cls m ta fa) (hb : Snd K cls m' tb fb) (hc : Snd K cls m'' tc fc) {m0 : Bool} :
    Snd K cls m0 (tChain r r' ta tb tc) (eCh op op' fa fb fc) := ⟨fun ρ Z σ H sl st d st' R e Q q => by
  obtain ⟨p, e1, e⟩ := bind_some e
  obtain ⟨p2, e2, e⟩ := bind_some e
  obtain ⟨z, e3, e⟩ := bind_some e
  refine ha.run ρ Z σ H sl st p.1 p.2 R e1 _ fun u ρ1 H1 R1 x1 r1 => ?_
  refine hb.run ρ1 Z σ H1 sl p.2 p2.1 p2.2 R1 e2 _ fun v ρ2 H2 R2 x2 r2 => ?_
  refine ho ρ2 Z σ H2 sl p2.2 _ _ _ u v R2 (r1.ext x2).up r2.up e3 _ fun w H3 R3 x3 r3 => ?_
  split at e
  · obtain ⟨p3, e4, e⟩ := bind_some e
    obtain ⟨z', e5, e⟩ := bind_some e
    refine ⟨true, bl_inv (.of (m := true) r3), ?_⟩
    rw [if_pos rfl]
    refine hc.run ρ2 Z σ H3 sl p2.2 p3.1 p3.2 R3 e4 _ fun v' ρ4 H4 R4 x4 r4 => ?_
    split at e
    · cases e
      exact ho' ρ4 Z σ H4 sl p3.2 _ _ _ v v' R4 (r2.ext (x3.trans x4)).up r4.up e5 _ fun w' H5 R5 x5 r5 => q w' ρ4 H5 R5 ((((x1.trans x2).trans x3).trans x4).trans x5) (.of r5)
    · cases e
  · cases e
    refine ⟨false, bl_inv (.of (m := true) r3), ?_⟩
    rw [if_neg (by decide)]
    exact q _ ρ2 H3 R3 ((x1.trans x2).trans x3) (.of (.bl _))
  · cases e⟩

/-! ### lists of expressions -/
theorem snd_nil : SndA K cls m tNil aNil := ⟨fun ρ Z σ H sl st ds st' R e Q q => by
  cases e
  exact q [] ρ H R .refl trivial⟩
theorem snd_cons {tr : TA} {fr : L} (ha : Snd K cls m ta fa) (hr : SndA K cls m tr fr) : SndA K cls m (tCons ta tr) (aCons fa fr) := ⟨fun ρ Z σ H sl st ds st' R e Q q => by
  obtain ⟨p, e1, e⟩ := bind_some e
  obtain ⟨p2, e2, e⟩ := bind_some e
  cases e
  refine ha.run ρ Z σ H sl st p.1 p.2 R e1 _ fun u ρ1 H1 R1 x1 r1 => ?_
  exact hr.run ρ1 Z σ H1 sl p.2 p2.1 p2.2 R1 e2 _ fun us ρ2 H2 R2 x2 r2 => q (u :: us) ρ2 H2 R2 (x1.trans x2) ⟨r1.ext x2, r2⟩⟩
theorem snd_tup {tr : TA} {fr : L} (hr : SndA K cls false tr fr) : Snd K cls m (tTup tr) (eTup fr) := ⟨fun ρ Z σ H sl st ds st' R e Q q => by
  obtain ⟨p, e1, e⟩ := bind_some e
  split at e
  · rename_i hl
    cases e
    refine hr.run ρ Z σ H sl st p.1 p.2 R e1 _ fun us ρ1 H1 R1 x1 r1 => ?_
    have rl := r1.repL
    refine ⟨by rw [← rl.length]; exact Nat.le_trans hl (by decide), fun w hp => ?_⟩
    exact q _ ρ1 _ (R1.new hp) (x1.trans (.new hp)) (.of (.tup (.inl ⟨fun z => R1.s.dom _ z hp, upd_same⟩) (Ext.repL (.new hp) rl)))
  · cases e⟩
theorem snd_disp {tr : TA} {fr : L} (hr : SndA K cls false tr fr) : SndL K cls (tLst tr) (lDisp fr) := ⟨fun ρ Z σ H sl st ds st' R e Q q => by
  obtain ⟨p, e1, e⟩ := bind_some e
  split at e
  · rename_i hl
    cases e
    refine hr.run ρ Z σ H sl st _ _ R e1 _ fun us ρ1 H1 R1 x1 r1 => ?_
    have rl := r1.repL
    exact ⟨by rw [← rl.length]; exact Nat.le_trans hl (by decide), fun w hp => q w us ρ1 _ R1 x1 hp rl⟩
  · cases e⟩
theorem allBl_rep {ρ : List Addr} {H : Hp} {A : Addr → Prop} : ∀ {xs : List Val} {us : List V} {bs : List Bool}, RepL K ρ A H xs us → allBl xs = some bs → us = bs.map V.bl
  | _, _, ns, .nil, h => by cases h; rfl
  | _, _, ns, .cons r t, h => by
    cases r <;> first | cases h | skip
    obtain ⟨l, h1, h2⟩ := bind_some h
    cases h2
    rw [allBl_rep t h1]
    rfl
theorem snd_any {fl : L} (hl : SndL K cls ta fl) : Snd K cls m (tCB (rAny K) (tCons ta tNil)) (eAny fl) := ⟨fun ρ Z σ H sl st ds st' R e Q q => by
  obtain ⟨p, e1, e⟩ := bind_some e
  obtain ⟨bs, e2, e⟩ := bind_some e
  cases e
  refine hl.run ρ Z σ H sl st p.1 p.2 R e1 _ fun w us ρ1 H1 R1 x1 hp r1 => ?_
  have hu := allBl_rep r1 e2
  subst hu
  exact ⟨w, bs, rfl, .of upd_same, q _ ρ1 _ (R1.new hp) (x1.trans (.new hp)) (.of (.bl _))⟩⟩
theorem snd_all {fl : L} (hl : SndL K cls ta fl) : Snd K cls m (tCB (rAll K) (tCons ta tNil)) (eAll fl) := ⟨fun ρ Z σ H sl st ds st' R e Q q => by
  obtain ⟨p, e1, e⟩ := bind_some e
  obtain ⟨bs, e2, e⟩ := bind_some e
  cases e
  refine hl.run ρ Z σ H sl st p.1 p.2 R e1 _ fun w us ρ1 H1 R1 x1 hp r1 => ?_
  have hu := allBl_rep r1 e2
  subst hu
  exact ⟨w, bs, rfl, .of upd_same, q _ ρ1 _ (R1.new hp) (x1.trans (.new hp)) (.of (.bl _))⟩⟩
end

/-! ### what is walked -/
section
variable {K : PySem.W.Frag} {cls : Nat → Addr} {ρ ρ' : List Addr} {Z A A' : Addr → Prop} {H H' : Hp} {st : Sto}
inductive SrcAt (K : PySem.W.Frag) (ρ : List Addr) (A : Addr → Prop) (H : Hp) : Src → It → Prop
  | seqL {x : Val} {a : Addr} : Rep K ρ A H x (.ref a) → (∀ xs, x ≠ .tup xs) → SrcAt K ρ A H (.seq x) (Itl K a)
  | seqT {xs : List Val} {a : Addr} : Rep K ρ A H (.tup xs) (.ref a) → SrcAt K ρ A H (.seq (.tup xs)) (Itt K a)
  | rng {lo : Int} {n : Nat} : SrcAt K ρ A H (.rng lo n) (Itr lo n)
  | enum {x : Val} {a : Addr} : Rep K ρ A H x (.ref a) → SrcAt K ρ A H (.enum x) (Ite K a)
  | zip {x y : Val} {a b : Addr} : Rep K ρ A H x (.ref a) → Rep K ρ A H y (.ref b) → SrcAt K ρ A H (.zip x y) (Itz K a b)
  | rg3 {lo c : Int} {n : Nat} : SrcAt K ρ A H (.seq (.tup ((List.range n).map fun k => .int (lo + (k : Nat) * c)))) (Itc lo c n)
theorem SrcAt.mono {src : Src} {J : It} (f : Fr A H A' H') (hr : ρ <+: ρ') (h : SrcAt K ρ A H src J) : SrcAt K ρ' A' H' src J := by
  cases h with
  | seqL h1 h2 => exact .seqL (h1.mono f hr) h2
  | seqT h1 => exact .seqT (h1.mono f hr)
  | rng => exact .rng
  | enum h1 => exact .enum (h1.mono f hr)
  | zip h1 h2 => exact .zip (h1.mono f hr) (h2.mono f hr)
  | rg3 => exact .rg3
theorem viewQ_r (R : RelR K cls ρ Z H st) {x : Val} {a : Addr} {xs : List Val} (h : Rep K ρ (AR ρ Z) H x (.ref a)) (hv : viewQ st x = some xs) : ∃ us, SqL K H a us ∧ RepL K ρ (AR ρ Z) H xs us := by
  cases h with
  | lst h1 h3 => cases hv; exact ⟨_, lst_sq h1, h3⟩
  | ref h1 =>
    rename_i n
    have hv' : (match st[n]? with
      | some (.lst xs) => some xs
      | _ => none) = some xs := hv
    split at hv'
    · rename_i ys e
      cases hv'
      obtain ⟨us, e1, r⟩ := R.cells n _ a e h1
      exact ⟨us, .inl (.inl e1), r⟩
    · cases hv'
  | tup _ _ => cases hv
  | fn _ _ _ => cases hv
theorem RepL.getn {xs : List Val} {us : List V} (r : RepL K ρ A H xs us) {i : Nat} (h : xs[i]? = none) : us.length ≤ i := by
  rw [← r.length]
  exact List.getElem?_eq_none_iff.mp h
/-- one turn -/
theorem SrcAt.turn (R : RelR K cls ρ Z H st) {src : Src} {J : It} (h : SrcAt K ρ (AR ρ Z) H src J) (i : Nat) :
    (∀ x, src.item st i = some (some x) → J.go i H ∧ ∀ u H', J.yld i H u H' → (H' = H ∨ ∃ p o, H p = none ∧ H' = upd H p o) ∧ Rep K ρ (AR ρ Z) H' x u) ∧ (src.item st i = some none → J.stop i H) := by
  cases h with
  | rng =>
    rename_i lo n
    refine ⟨fun x e => ?_, fun e => ?_⟩
    · have e' : some (if i < n then some (Val.int (lo + (i : Nat))) else none) = some (some x) := e
      split at e'
      · rename_i hi
        cases e'
        exact ⟨hi, fun u H' ⟨q1, q2⟩ => ⟨.inl q1, by rw [q2]; exact .int _⟩⟩
      · cases e'
    · have e' : some (if i < n then some (Val.int (lo + (i : Nat))) else none) = some none := e
      split at e'
      · cases e'
      · rename_i hi
        exact Nat.le_of_not_lt hi
  | rg3 =>
    rename_i lo c n
    have it : Src.item st (.seq (.tup ((List.range n).map fun k => .int (lo + (k : Nat) * c)))) i = some (((List.range n).map fun k => Val.int (lo + (k : Nat) * c))[i]?) := rfl
    rw [it, List.getElem?_map]
    by_cases hi : i < n
    · rw [List.getElem?_range hi]
      refine ⟨fun x e => ?_, fun e => by cases e⟩
      cases e
      exact ⟨hi, fun u H' ⟨q1, q2⟩ => ⟨.inl q1, by rw [q2]; exact .int _⟩⟩
    · rw [List.getElem?_eq_none (by rw [List.length_range]; omega)]
      exact ⟨fun x e => (by cases e), fun _ => Nat.le_of_not_lt hi⟩
  | seqL h1 h2 =>
    rename_i x0 a
    have hv : viewL st x0 = viewQ st x0 := by
      cases x0 <;> first | rfl | exact absurd rfl (h2 _)
    refine ⟨fun x e => ?_, fun e => ?_⟩
    · obtain ⟨xs, e1, e2⟩ := bind_some e
      rw [hv] at e1
      obtain ⟨us, q1, q2⟩ := viewQ_r R h1 e1
      obtain ⟨u, q3, q4⟩ := q2.get (Option.some.inj e2)
      refine ⟨⟨us, u, q1, q3⟩, fun w H' ⟨q5, q6⟩ => ⟨.inl q5, ?_⟩⟩
      have := q6 us q1
      rw [q3] at this
      cases this
      rw [q5]
      exact q4
    · obtain ⟨xs, e1, e2⟩ := bind_some e
      rw [hv] at e1
      obtain ⟨us, q1, q2⟩ := viewQ_r R h1 e1
      exact ⟨us, q1, q2.getn (Option.some.inj e2)⟩
  | seqT h1 =>
    rename_i xs0 a
    cases h1 with
    | tup t r =>
      rename_i us
      have q1 := tup_sq t
      refine ⟨fun x e => ?_, fun e => ?_⟩
      · have e2 : xs0[i]? = some x := Option.some.inj e
        obtain ⟨u, q3, q4⟩ := r.get e2
        refine ⟨⟨us, u, q1, q3⟩, fun w H' ⟨q5, q6⟩ => ⟨.inl q5, ?_⟩⟩
        have := q6 us q1
        rw [q3] at this
        cases this
        rw [q5]
        exact q4
      · have e2 : xs0[i]? = none := Option.some.inj e
        exact ⟨us, q1, r.getn e2⟩
  | enum h1 =>
    rename_i x0 a
    refine ⟨fun x e => ?_, fun e => ?_⟩
    · obtain ⟨xs, e1, e2⟩ := bind_some e
      obtain ⟨us, q1, q2⟩ := viewQ_r R h1 e1
      obtain ⟨y, e3, e4⟩ := Option.map_eq_some_iff.mp (Option.some.inj e2)
      subst e4
      obtain ⟨u, q3, q4⟩ := q2.get e3
      refine ⟨⟨us, u, q1, q3⟩, fun w H' ⟨T, y', q5, q6, q7, q8⟩ => ⟨.inr ⟨T, _, q6, q7⟩, ?_⟩⟩
      have := q8 us q1
      rw [q3] at this
      cases this
      rw [q5, q7]
      refine .tup (.inl ⟨fun z => R.dom _ z q6, upd_same⟩) (.cons (.int _) (.cons ?_ .nil))
      exact q4.mono (Fr.upd (.inr q6)) List.prefix_rfl
    · obtain ⟨xs, e1, e2⟩ := bind_some e
      obtain ⟨us, q1, q2⟩ := viewQ_r R h1 e1
      exact ⟨us, q1, q2.getn (Option.map_eq_none_iff.mp (Option.some.inj e2))⟩
  | zip h1 h2 =>
    rename_i x0 y0 a b
    refine ⟨fun x e => ?_, fun e => ?_⟩
    · obtain ⟨xs, e1, e⟩ := bind_some e
      obtain ⟨ys, e2, e⟩ := bind_some e
      obtain ⟨us, q1, q2⟩ := viewQ_r R h1 e1
      obtain ⟨vs, p1, p2⟩ := viewQ_r R h2 e2
      have e3 := Option.some.inj e
      split at e3
      · rename_i y z ey ez
        cases e3
        obtain ⟨u, q3, q4⟩ := q2.get ey
        obtain ⟨v, p3, p4⟩ := p2.get ez
        refine ⟨⟨us, vs, u, v, q1, p1, q3, p3⟩, fun w H' ⟨T, y', z', q5, q6, q7, q8, q9⟩ => ⟨.inr ⟨T, _, q6, q7⟩, ?_⟩⟩
        have t1 := q8 us q1
        rw [q3] at t1
        cases t1
        have t2 := q9 vs p1
        rw [p3] at t2
        cases t2
        rw [q5, q7]
        refine .tup (.inl ⟨fun z => R.dom _ z q6, upd_same⟩) (.cons ?_ (.cons ?_ .nil))
        · exact q4.mono (Fr.upd (.inr q6)) List.prefix_rfl
        · exact p4.mono (Fr.upd (.inr q6)) List.prefix_rfl
      · cases e3
    · obtain ⟨xs, e1, e⟩ := bind_some e
      obtain ⟨ys, e2, e⟩ := bind_some e
      obtain ⟨us, q1, q2⟩ := viewQ_r R h1 e1
      obtain ⟨vs, p1, p2⟩ := viewQ_r R h2 e2
      have e3 := Option.some.inj e
      refine ⟨us, vs, q1, p1, ?_⟩
      split at e3
      · cases e3
      · rename_i hn
        cases hx : xs[i]? with
        | none => exact .inl (q2.getn hx)
        | some y =>
          cases hy : ys[i]? with
          | none => exact .inr (p2.getn hy)
          | some z => exact (hn y z hx hy).elim
end
/-- what a for or a comprehension walks -/
structure SndI (K : PySem.W.Frag) (cls : Nat → Addr) (t : TI) (f : I) : Prop where
  run : ∀ (ρ : List Addr) (Z : Addr → Prop) (σ : L2.St) (H : Hp) (sl : Sl) (st : Sto) (src : Src) (st' : Sto), Rel K cls ρ Z σ H sl st → f sl st = some (src, st') → ∀ Q : It → Hp → Prop,
    (∀ J ρ' H', Rel K cls ρ' Z σ H' sl st' → Ext ρ H ρ' H' → SrcAt K ρ' (AR ρ' (ZO Z sl σ)) H' src J → Q J H') → t σ H Q
abbrev SI (X : Cx) (K : PySem.W.Frag) (cls : Nat → Addr) (tg e : Expr) (t : TI) (f : I) : Prop := PI X tg e t ∧ SndI K cls t f
section
variable {K : PySem.W.Frag} {cls : Nat → Addr} {ta tb : TE} {fa fb : E}
def iSeqX (K : PySem.W.Frag) (te : TE) : TI := fun σ H R => iList K te σ H R ∨ iTup K te σ H R
theorem pi_seqX {X : Cx} {tg e : Expr} (h : PE X e ta) : PI X tg e (iSeqX X.K ta) := ⟨fun pins s σ H R I q => q.elim (fun q => (pi_list h).run pins s σ H R I q) fun q => (pi_tup h).run pins s σ H R I q⟩
theorem snd_iSeq (ha : Snd K cls false ta fa) : SndI K cls (iSeqX K ta) (iSeq fa) := ⟨fun ρ Z σ H sl st src st' R e Q q => by
  obtain ⟨p, e1, e⟩ := bind_some e
  obtain ⟨xs, e2, e⟩ := bind_some e
  cases e
  by_cases hx : ∃ ys, p.1 = .tup ys
  · obtain ⟨ys, hy⟩ := hx
    refine .inr (ha.run ρ Z σ H sl st p.1 p.2 R e1 _ fun u ρ1 H1 R1 x1 r1 => ?_)
    rw [hy] at r1
    obtain ⟨a, us, rfl, t, r⟩ := tup_inv r1
    rw [hy] at q
    exact ⟨a, rfl, ⟨us, tup_sq t⟩, q _ ρ1 H1 R1 x1 (.seqT (.tup t r))⟩
  · refine .inl (ha.run ρ Z σ H sl st p.1 p.2 R e1 _ fun u ρ1 H1 R1 x1 r1 => ?_)
    have hv : viewL p.2 p.1 = viewQ p.2 p.1 := by
      cases h : p.1 <;> first | rfl | exact absurd ⟨_, h⟩ hx
    rw [hv] at e2
    obtain ⟨a, us, rfl, r2, r3⟩ := viewQ_of R1 r1 e2
    exact ⟨a, rfl, ⟨us, r2⟩, q _ ρ1 H1 R1 x1 (.seqL r1.rep fun ys h => hx ⟨ys, h⟩)⟩⟩
theorem snd_iRg1 {m : Bool} (ha : Snd K cls m ta fa) : SndI K cls (iRng1 (tCons ta tNil)) (iRg1 fa) := ⟨fun ρ Z σ H sl st src st' R e Q q => by
  obtain ⟨p, e1, e⟩ := bind_some e
  refine ha.run ρ Z σ H sl st p.1 p.2 R e1 _ fun u ρ1 H1 R1 x1 r1 => ?_
  split at e
  · rename_i n hn
    rw [hn] at r1
    split at e
    · rename_i hb
      cases e
      refine ⟨n, by rw [int_inv r1], by omega, by omega, ?_⟩
      exact q _ ρ1 H1 R1 x1 .rng
    · cases e
  · cases e⟩
theorem snd_iRg2 {m m' : Bool} (ha : Snd K cls m ta fa) (hb : Snd K cls m' tb fb) : SndI K cls (iRng2 (tCons ta (tCons tb tNil))) (iRg2 fa fb) := ⟨fun ρ Z σ H sl st src st' R e Q q => by
  obtain ⟨p, e1, e⟩ := bind_some e
  obtain ⟨p2, e2, e⟩ := bind_some e
  refine ha.run ρ Z σ H sl st p.1 p.2 R e1 _ fun u ρ1 H1 R1 x1 r1 => ?_
  refine hb.run ρ1 Z σ H1 sl p.2 p2.1 p2.2 R1 e2 _ fun v ρ2 H2 R2 x2 r2 => ?_
  split at e
  · rename_i i j hi hj
    rw [hi] at r1
    rw [hj] at r2
    split at e
    · rename_i hb
      cases e
      refine ⟨i, j, by rw [int_inv r1, int_inv r2], ⟨by omega, by omega, by omega, by omega⟩, ?_⟩
      exact q _ ρ2 H2 R2 (x1.trans x2) .rng
    · cases e
  · cases e⟩
theorem snd_iEnum (ha : Snd K cls false ta fa) : SndI K cls (L2.iEnum K (tCons ta tNil)) (iEnum fa) := ⟨fun ρ Z σ H sl st src st' R e Q q => by
  obtain ⟨p, e1, e⟩ := bind_some e
  obtain ⟨xs, e2, e⟩ := bind_some e
  cases e
  refine ha.run ρ Z σ H sl st p.1 p.2 R e1 _ fun u ρ1 H1 R1 x1 r1 => ?_
  obtain ⟨a, us, rfl, r2, r3⟩ := viewQ_of R1 r1 e2
  exact ⟨a, us, rfl, r2, q _ ρ1 H1 R1 x1 (.enum r1.rep)⟩⟩
theorem snd_iZip (ha : Snd K cls false ta fa) (hb : Snd K cls false tb fb) : SndI K cls (L2.iZip K (tCons ta (tCons tb tNil))) (iZip fa fb) := ⟨fun ρ Z σ H sl st src st' R e Q q => by
  obtain ⟨p, e1, e⟩ := bind_some e
  obtain ⟨p2, e2, e⟩ := bind_some e
  obtain ⟨xs, e3, e⟩ := bind_some e
  obtain ⟨ys, e4, e⟩ := bind_some e
  cases e
  refine ha.run ρ Z σ H sl st p.1 p.2 R e1 _ fun u ρ1 H1 R1 x1 r1 => ?_
  refine hb.run ρ1 Z σ H1 sl p.2 p2.1 p2.2 R1 e2 _ fun v ρ2 H2 R2 x2 r2 => ?_
  obtain ⟨a, us, rfl, r3, r4⟩ := viewQ_of R2 (r1.ext x2) e3
  obtain ⟨b, vs, rfl, r5, r6⟩ := viewQ_of R2 r2 e4
  exact ⟨a, b, us, vs, rfl, r3, r5, q _ ρ2 H2 R2 (x1.trans x2) (.zip (r1.ext x2).rep r2.rep)⟩⟩
end
end Mi

set_option Elab.async false
set_option linter.all false
set_option maxRecDepth 100000
set_option maxHeartbeats 1000000
/-! Mi, sixth part: targets and comprehensions. -/
namespace Mi
open PySem L2
variable [Gam]

section
variable {K : PySem.W.Frag} {cls : Nat → Addr} {ρ ρ' : List Addr} {Z Z' : Addr → Prop} {σ σ' : L2.St} {H H' : Hp} {sl sl' : Sl} {st st' : Sto}
/-- the same store, other things kept apart -/
theorem RelR.zs (R : RelR K cls ρ Z H st) (h : ∀ a, Z' a → Z a) : RelR K cls ρ Z' H st where
  nd := R.nd
  len := R.len
  cells := fun n c a h1 h2 => (R.cells n c a h1 h2).mono (Fr.less fun b hb => hb.imp id (h b)) List.prefix_rfl rfl
  dom := fun a ha => R.dom a (ha.imp id (h a))
  dis := fun a ha z => R.dis a ha (h a z)
theorem own_set {i : Nat} {v : Val} {u : V} {a : Addr} (h : Own (sl.set i (.val v)) (σ.set i (some u)) a) : Own sl σ a := by
  obtain ⟨j, xs, h1, h2⟩ := h
  by_cases hj : j = i
  · subst hj
    by_cases hl : j < sl.length
    · rw [List.getElem?_set_self hl] at h1; cases h1
    · rw [List.getElem?_eq_none (by simpa using hl)] at h1; cases h1
  · rw [List.getElem?_set_ne (Ne.symm hj)] at h1
    rw [List.getElem?_set_ne (Ne.symm hj)] at h2
    exact ⟨j, xs, h1, h2⟩
theorem Rel.setVal {i : Nat} {v : Val} {u : V} (R : Rel K cls ρ Z σ H sl st) (r : Rep K ρ (AR ρ (ZO Z sl σ)) H v u) (hi : i < sl.length) : Rel K cls ρ Z (σ.set i (some u)) H (sl.set i (.val v)) st := by
  have le : ∀ a, ZO Z (sl.set i (.val v)) (σ.set i (some u)) a → ZO Z sl σ a := fun a h => h.imp id own_set
  have le2 : ∀ a, AR ρ (ZO Z (sl.set i (.val v)) (σ.set i (some u))) a → AR ρ (ZO Z sl σ) a := fun a h => h.imp id (le a)
  have hi' : i < σ.length := by rw [← R.slen]; exact hi
  refine ⟨R.s.zs le, by rw [List.length_set, List.length_set]; exact R.slen, fun j w h => ?_, fun j xs h => ?_, fun j k xs ys a h1 h2 h3 h4 => ?_⟩
  · by_cases hj : j = i
    · subst hj
      rw [List.getElem?_set_self hi] at h
      cases h
      exact ⟨u, by rw [List.getElem?_set_self hi'], r.mono (Fr.less le2) List.prefix_rfl⟩
    · rw [List.getElem?_set_ne (Ne.symm hj)] at h
      obtain ⟨u', q1, q2⟩ := R.slots j w h
      exact ⟨u', by rw [List.getElem?_set_ne (Ne.symm hj)]; exact q1, q2.mono (Fr.less le2) List.prefix_rfl⟩
  · by_cases hj : j = i
    · subst hj
      rw [List.getElem?_set_self hi] at h
      cases h
    · rw [List.getElem?_set_ne (Ne.symm hj)] at h
      obtain ⟨a, us, q1, q2, q3, q4⟩ := R.owns j xs h
      exact ⟨a, us, by rw [List.getElem?_set_ne (Ne.symm hj)]; exact q1, q2, q3.mono (Fr.less le2) List.prefix_rfl, q4⟩
  · have hj : j ≠ i := fun z => by
      subst z
      rw [List.getElem?_set_self hi] at h1
      cases h1
    have hk : k ≠ i := fun z => by
      subst z
      rw [List.getElem?_set_self hi] at h2
      cases h2
    rw [List.getElem?_set_ne (Ne.symm hj)] at h1 h3
    rw [List.getElem?_set_ne (Ne.symm hk)] at h2 h4
    exact R.inj j k xs ys a h1 h2 h3 h4

/-! ### targets -/
/-- all slots but these are as they were -/
structure Agr (is : List Nat) (σ : L2.St) (sl : Sl) (σ' : L2.St) (sl' : Sl) : Prop where
  len : σ'.length = σ.length
  at_ : ∀ j, j ∉ is → σ'[j]? = σ[j]? ∧ sl'[j]? = sl[j]?
/-- is: the slots that may be stored -/
structure SndG (K : PySem.W.Frag) (cls : Nat → Addr) (is : List Nat) (t : TG) (f : G) : Prop where
  run : ∀ (ρ : List Addr) (Z : Addr → Prop) (σ : L2.St) (H : Hp) (sl : Sl) (st : Sto) (v : Val) (u : V) (sl' : Sl), Rel K cls ρ Z σ H sl st → Rep K ρ (AR ρ (ZO Z sl σ)) H v u → f v sl st = some sl' → ∀ Q : L2.St → Hp → Prop,
    (∀ σ', Rel K cls ρ Z σ' H sl' st → Agr is σ sl σ' sl' → (∀ a, Own sl' σ' a → Own sl σ a) → Q σ' H) → t u σ H Q
structure SndGs (K : PySem.W.Frag) (cls : Nat → Addr) (is : List Nat) (t : TGs) (f : Gs) : Prop where
  run : ∀ (ρ : List Addr) (Z : Addr → Prop) (σ : L2.St) (H : Hp) (sl : Sl) (st : Sto) (vs : List Val) (us : List V) (sl' : Sl), Rel K cls ρ Z σ H sl st → RepL K ρ (AR ρ (ZO Z sl σ)) H vs us → f vs sl st = some sl' → ∀ Q : L2.St → Hp → Prop,
    (∀ σ', Rel K cls ρ Z σ' H sl' st → Agr is σ sl σ' sl' → (∀ a, Own sl' σ' a → Own sl σ a) → Q σ' H) → t us σ H Q
abbrev SG (X : Cx) (K : PySem.W.Frag) (cls : Nat → Addr) (is : List Nat) (e : Expr) (t : TG) (f : G) : Prop := PG X e t ∧ SndG K cls is t f
abbrev SGs (X : Cx) (K : PySem.W.Frag) (cls : Nat → Addr) (is : List Nat) (es : List Expr) (t : TGs) (f : Gs) : Prop := PGs X es t ∧ SndGs K cls is t f
theorem snd_name {i : Nat} : SndG K cls [i] (L2.gName i) (gName i) := ⟨fun ρ Z σ H sl st v u sl' R r e Q q => by
  have e' : (if i < sl.length then some (sl.set i (Slot.val v)) else none) = some sl' := e
  split at e'
  · rename_i hi
    cases e'
    refine q _ (R.setVal r hi) ⟨List.length_set .., fun j hj => ?_⟩ fun a => own_set
    have hj' : i ≠ j := fun z => hj (by simp [z])
    exact ⟨List.getElem?_set_ne hj', List.getElem?_set_ne hj'⟩
  · cases e'⟩
theorem snd_gnil : SndGs K cls [] L2.gNil gNil := ⟨fun ρ Z σ H sl st vs us sl' R r e Q q => by
  cases r with
  | nil => cases e; exact ⟨rfl, q σ R ⟨rfl, fun _ _ => ⟨rfl, rfl⟩⟩ fun _ h => h⟩
  | cons _ _ => cases e⟩
theorem snd_gcons {is js : List Nat} {t : TG} {f : G} {ts : TGs} {fs : Gs} (h : SndG K cls is t f) (hs : SndGs K cls js ts fs) : SndGs K cls (is ++ js) (L2.gCons t ts) (gCons f fs) := ⟨fun ρ Z σ H sl st vs us sl' R r e Q q => by
  cases r with
  | nil => cases e
  | cons r1 r2 =>
    rename_i v u vs us
    obtain ⟨sl1, e1, e2⟩ := bind_some e
    refine ⟨u, us, rfl, h.run ρ Z σ H sl st v u sl1 R r1 e1 _ fun σ1 R1 k1 o1 => ?_⟩
    have le2 : ∀ a, AR ρ (ZO Z sl1 σ1) a → AR ρ (ZO Z sl σ) a := fun a h => h.imp id fun z => z.imp id (o1 a)
    refine hs.run ρ Z σ1 H sl1 st vs us sl' R1 (r2.mono (Fr.less le2) List.prefix_rfl) e2 _ fun σ2 R2 k2 o2 => q σ2 R2 ⟨k2.len.trans k1.len, fun j hj => ?_⟩ fun a w => o1 a (o2 a w)
    rw [List.mem_append, not_or] at hj
    obtain ⟨a1, a2⟩ := k1.at_ j hj.1
    obtain ⟨b1, b2⟩ := k2.at_ j hj.2
    exact ⟨b1.trans a1, b2.trans a2⟩⟩
theorem snd_gtup {is : List Nat} {n : Nat} {ts : TGs} {fs : Gs} (hs : SndGs K cls is ts fs) : SndG K cls is (L2.gTup K n ts) (gTup n fs) := ⟨fun ρ Z σ H sl st v u sl' R r e Q q => by
  cases r <;> first | cases e | skip
  rename_i a xs us t r
  have e' : (if xs.length = n then fs xs sl st else none) = some sl' := e
  split at e'
  · rename_i hl
    exact ⟨a, us, rfl, tup_sq t, by rw [← r.length]; exact hl, hs.run ρ Z σ H sl st xs us sl' R r e' Q q⟩
  · cases e'⟩

/-! ### the block of a comprehension -/
theorem wipe_len : ∀ vs : List Nat, (wipe sl vs).length = sl.length
  | [] => rfl
  | i :: r => by unfold wipe; rw [List.length_set, wipe_len r]
theorem wipe_at {i : Nat} : ∀ {vs : List Nat}, i ∉ vs → (wipe sl vs)[i]? = sl[i]?
  | [], _ => rfl
  | j :: r, h => by
    rw [List.mem_cons, not_or] at h
    unfold wipe
    rw [List.getElem?_set_ne (Ne.symm h.1), wipe_at h.2]
theorem wipe_in {i : Nat} {s : Slot} : ∀ {vs : List Nat}, i ∈ vs → (wipe sl vs)[i]? = some s → s = .no
  | j :: r, h, e => by
    unfold wipe at e
    by_cases hj : i = j
    · subst hj
      by_cases hl : i < (wipe sl r).length
      · rw [List.getElem?_set_self hl] at e; cases e; rfl
      · rw [List.getElem?_eq_none (by simpa using hl)] at e; cases e
    · rw [List.getElem?_set_ne (Ne.symm hj)] at e
      rcases List.mem_cons.mp h with z | z
      · exact absurd z hj
      · exact wipe_in z e
theorem noOwn_at {i : Nat} {xs : List Val} : ∀ {vs : List Nat}, noOwn sl vs = true → i ∈ vs → sl[i]? ≠ some (.own xs)
  | j :: r, h, hi, e => by
    unfold noOwn at h
    rw [Bool.and_eq_true] at h
    rcases List.mem_cons.mp hi with z | z
    · subst z
      rw [e] at h
      exact nomatch h.1
    · exact noOwn_at h.2 z e
theorem wipe_ext {τ τ' : L2.St} (hl : τ'.length = τ.length) : ∀ {vs : List Nat}, (∀ j, j ∉ vs → τ'[j]? = τ[j]?) → L2.wipe τ' vs = L2.wipe τ vs := fun {vs} h => by
  apply List.ext_getElem?
  intro j
  by_cases hj : j ∈ vs
  · have key : ∀ (τ : L2.St) (vs : List Nat), j ∈ vs → (L2.wipe τ vs)[j]? = if j < τ.length then some none else none := by
      intro τ vs
      induction vs with
      | nil => intro h; cases h
      | cons i r ih =>
        intro h
        unfold L2.wipe
        by_cases hi : i = j
        · subst hi
          by_cases hlt : i < τ.length
          · rw [List.getElem?_set_self (by rw [wipe_length]; exact hlt), if_pos hlt]
          · rw [List.getElem?_eq_none (by rw [List.length_set, wipe_length]; omega), if_neg hlt]
        · rw [List.getElem?_set_ne hi]
          rcases List.mem_cons.mp h with z | z
          · exact absurd z.symm hi
          · exact ih z
    rw [key τ' vs hj, key τ vs hj, hl]
  · rw [wipe_out hj, wipe_out hj, h j hj]
theorem wipe_wipe (τ : L2.St) (vs : List Nat) : L2.wipe (L2.wipe τ vs) vs = L2.wipe τ vs := wipe_ext (wipe_length τ vs) fun _ hj => wipe_out hj
theorem own_wipe {vs : List Nat} (hn : noOwn sl vs = true) (a : Addr) : Own (wipe sl vs) (L2.wipe σ vs) a ↔ Own sl σ a := by
  refine ⟨fun ⟨i, xs, h1, h2⟩ => ?_, fun ⟨i, xs, h1, h2⟩ => ?_⟩
  · have hi : i ∉ vs := fun z => by have := wipe_in z h1; cases this
    rw [wipe_at hi] at h1
    rw [wipe_out hi] at h2
    exact ⟨i, xs, h1, h2⟩
  · have hi : i ∉ vs := fun z => noOwn_at hn z h1
    exact ⟨i, xs, by rw [wipe_at hi]; exact h1, by rw [wipe_out hi]; exact h2⟩
/-- the new list D is kept apart; the block's own slots are wiped -/
def ZD (Z : Addr → Prop) (D : Addr) : Addr → Prop := fun a => Z a ∨ a = D
theorem Rel.block {vs : List Nat} {D : Addr} {o : HO} (R : Rel K cls ρ Z σ H sl st) (hn : noOwn sl vs = true) (hD : H D = none) : Rel K cls ρ (ZD Z D) (L2.wipe σ vs) (L2.upd H D o) (wipe sl vs) st := by
  have fr : Fr (AR ρ (ZO Z sl σ)) H (AR ρ (ZO (ZD Z D) (wipe sl vs) (L2.wipe σ vs))) (L2.upd H D o) := ⟨fun a u hna h => by rw [upd_ne (ne_of_none h hD)]; exact h, fun a h => by
    rcases h with h | (h | h) | h
    · exact .inl (.inl h)
    · exact .inl (.inr (.inl h))
    · subst h; exact .inr hD
    · exact .inl (.inr (.inr ((own_wipe hn a).mp h)))⟩
  have hρ : ∀ a, AR ρ (ZO Z sl σ) a → a ≠ D := fun a h z => R.s.dom a h (z ▸ hD)
  refine ⟨⟨R.s.nd, R.s.len, fun n c a h1 h2 => ?_, fun a h => ?_, fun a h z => ?_⟩, by rw [wipe_len, wipe_length]; exact R.slen, fun i v h => ?_, fun i xs h => ?_, fun i j xs ys a h1 h2 h3 h4 => ?_⟩
  · exact (R.s.cells n c a h1 h2).mono fr List.prefix_rfl (upd_ne (hρ a (.inl (List.mem_of_getElem? h2))))
  · by_cases ha : a = D
    · subst ha; rw [upd_same]; simp
    · rw [upd_ne ha]
      exact (fr.new a h).elim (R.s.dom a) fun z => by
        rcases h with h | (h | h) | h
        · exact R.s.dom a (.inl h)
        · exact R.s.dom a (.inr (.inl h))
        · exact absurd h ha
        · exact R.s.dom a (.inr (.inr ((own_wipe hn a).mp h)))
  · rcases z with (z | z) | z
    · exact R.s.dis a h (.inl z)
    · exact hρ a (.inl h) z
    · exact R.s.dis a h (.inr ((own_wipe hn a).mp z))
  · have hi : i ∉ vs := fun z => by have := wipe_in z h; cases this
    rw [wipe_at hi] at h
    obtain ⟨u, q1, q2⟩ := R.slots i v h
    exact ⟨u, by rw [wipe_out hi]; exact q1, q2.mono fr List.prefix_rfl⟩
  · have hi : i ∉ vs := fun z => by have := wipe_in z h; cases this
    rw [wipe_at hi] at h
    obtain ⟨a, us, q1, q2, q3, q4⟩ := R.owns i xs h
    exact ⟨a, us, by rw [wipe_out hi]; exact q1, by rw [upd_ne (ne_of_none q2 hD)]; exact q2, q3.mono fr List.prefix_rfl, fun z => z.elim q4 fun z => ne_of_none q2 hD z⟩
  · have hi : i ∉ vs := fun z => by have := wipe_in z h1; cases this
    have hj : j ∉ vs := fun z => by have := wipe_in z h2; cases this
    rw [wipe_at hi] at h1
    rw [wipe_at hj] at h2
    rw [wipe_out hi] at h3
    rw [wipe_out hj] at h4
    exact R.inj i j xs ys a h1 h2 h3 h4
/-- what is kept apart is written -/
theorem Rel.zput {D : Addr} {o : HO} (R : Rel K cls ρ Z σ H sl st) (hD : Z D) : Rel K cls ρ Z σ (L2.upd H D o) sl st := by
  have hA : AR ρ (ZO Z sl σ) D := .inr (.inl hD)
  have fr : Fr (AR ρ (ZO Z sl σ)) H (AR ρ (ZO Z sl σ)) (L2.upd H D o) := Fr.upd (.inl hA)
  refine ⟨⟨R.s.nd, R.s.len, fun n c a h1 h2 => ?_, fun a h => ?_, R.s.dis⟩, R.slen, fun i v h => ?_, fun i xs h => ?_, R.inj⟩
  · exact (R.s.cells n c a h1 h2).mono fr List.prefix_rfl (upd_ne (show a ≠ D from fun z => R.s.dis a (List.mem_of_getElem? h2) (.inl (by rw [z]; exact hD))))
  · by_cases ha : a = D
    · subst ha; rw [upd_same]; simp
    · rw [upd_ne ha]; exact R.s.dom a h
  · obtain ⟨u, q1, q2⟩ := R.slots i v h
    exact ⟨u, q1, q2.mono fr List.prefix_rfl⟩
  · obtain ⟨a, us, q1, q2, q3, q4⟩ := R.owns i xs h
    exact ⟨a, us, q1, by rw [upd_ne (show a ≠ D from fun z => q4 (by rw [z]; exact hD))]; exact q2, q3.mono fr List.prefix_rfl, q4⟩
def erase (H : Hp) (D : Addr) : Hp := fun a => if a = D then none else H a
theorem erase_ne {D a : Addr} (h : a ≠ D) : erase H D a = H a := if_neg h
theorem erase_same {D : Addr} : erase H D D = none := if_pos rfl
theorem erase_upd {D : Addr} {o : HO} (h : H D = some o) : upd (erase H D) D o = H := by
  funext a
  by_cases ha : a = D
  · subst ha; rw [upd_same, h]
  · rw [upd_ne ha, erase_ne ha]

theorem erase_of {D : Addr} {o : HO} (h : H D = none) : erase (upd H D o) D = H := by
  funext a
  by_cases ha : a = D
  · subst ha; rw [erase_same, h]
  · rw [erase_ne ha, upd_ne ha]
theorem erase_put {D : Addr} {o : HO} : erase (upd H D o) D = erase H D := by
  funext a
  by_cases ha : a = D
  · subst ha; rw [erase_same, erase_same]
  · rw [erase_ne ha, erase_ne ha, upd_ne ha]
theorem Ext.erase {D : Addr} (x : Ext ρ H ρ' H') : Ext ρ (erase H D) ρ' (Mi.erase H' D) := ⟨x.pre, ⟨fun a o hn h => by
  by_cases ha : a = D
  · subst ha; rw [erase_same] at h; cases h
  · rw [erase_ne ha] at h ⊢
    exact x.fr.keep a o hn h, fun a h => (x.fr.new a h).imp id fun z => by
  by_cases ha : a = D
  · subst ha; rw [erase_same]
  · rw [erase_ne ha]; exact z⟩⟩
theorem blockFr {vs : List Nat} {D : Addr} (x : Ext ρ H ρ' (erase H' D)) (hn : noOwn sl vs = true) (hD : H D = none) : Fr (AR ρ (ZO Z sl σ)) H (AR ρ' (ZO (ZD Z D) (wipe sl vs) (L2.wipe σ vs))) H' := ⟨fun a o hna h => by
  have h1 := x.fr.keep a o (fun z => hna (.inl z)) h
  rw [erase_ne (ne_of_none h hD)] at h1
  exact h1, fun a h => by
  rcases h with h | (h | h) | h
  · exact (x.fr.new a h).imp .inl id
  · exact .inl (.inr (.inl h))
  · subst h; exact .inr hD
  · exact .inl (.inr (.inr ((own_wipe hn a).mp h)))⟩
/-- from the block back to the frame around -/
theorem Rel.unblock {vs : List Nat} {D : Addr} (R : Rel K cls ρ Z σ H sl st) (x : Ext ρ H ρ' (erase H' D)) (hn : noOwn sl vs = true) (hD : H D = none) (B : Rel K cls ρ' (ZD Z D) (L2.wipe σ vs) H' (wipe sl vs) st') :
    Rel K cls ρ' Z σ (erase H' D) sl st' ∧ ∀ {xs : List Val} {us : List V}, RepL K ρ' (AR ρ' (ZO (ZD Z D) (wipe sl vs) (L2.wipe σ vs))) H' xs us → RepL K ρ' (AR ρ' (ZO Z sl σ)) (erase H' D) xs us := by
  have sub : ∀ a, AR ρ' (ZO Z sl σ) a → AR ρ' (ZO (ZD Z D) (wipe sl vs) (L2.wipe σ vs)) a := fun a h => h.imp id fun h => h.elim (fun h => .inl (.inl h)) fun h => .inr ((own_wipe hn a).mpr h)
  have inD : AR ρ' (ZO (ZD Z D) (wipe sl vs) (L2.wipe σ vs)) D := .inr (.inl (.inr rfl))
  have fr : Fr (AR ρ' (ZO (ZD Z D) (wipe sl vs) (L2.wipe σ vs))) H' (AR ρ' (ZO Z sl σ)) (erase H' D) := ⟨fun a o hna h => by
    rw [erase_ne fun z => hna (by rw [z]; exact inD)]; exact h, fun a h => .inl (sub a h)⟩
  have hρ : ∀ a, a ∈ ρ' → a ≠ D := fun a h z => B.s.dis a h (.inl (.inr z))
  refine ⟨R.step x ⟨B.s.nd, B.s.len, fun n c a h1 h2 => ?_, fun a h => ?_, fun a h z => B.s.dis a h ?_⟩, fun r => r.mono fr List.prefix_rfl⟩
  · exact (B.s.cells n c a h1 h2).mono fr List.prefix_rfl (erase_ne (hρ a (List.mem_of_getElem? h2)))
  · have ha : a ≠ D := by
      rcases h with h | h | h
      · exact hρ a h
      · exact fun z => R.s.dom a (.inr (.inl h)) (z ▸ hD)
      · exact fun z => R.s.dom a (.inr (.inr h)) (z ▸ hD)
    rw [erase_ne ha]
    exact B.s.dom a (sub a h)
  · exact z.elim (fun z => .inl (.inl z)) fun z => .inr ((own_wipe hn a).mpr z)
theorem own_back {vs is : List Nat} {σ2 : L2.St} {sl1 : Sl} (his : ∀ i ∈ is, i ∈ vs) (k : ∀ j, j ∉ is → σ2[j]? = (L2.wipe σ vs)[j]? ∧ sl1[j]? = (wipe sl vs)[j]?) (a : Addr) (h : Own (wipe sl vs) (L2.wipe σ vs) a) : Own sl1 σ2 a := by
  obtain ⟨i, xs, h1, h2⟩ := h
  have hi : i ∉ is := fun z => by have := wipe_in (his i z) h1; cases this
  obtain ⟨k1, k2⟩ := k i hi
  exact ⟨i, xs, k2.trans h1, k1.trans h2⟩

/-- a comprehension -/
theorem snd_lc {wi : TI} {fi : I} {vs is : List Nat} {tg : TG} {fg : G} {tt : TT} {ft : T} {te : TE} {fe : E} (hi : SndI K cls wi fi) (hg : SndG K cls is tg fg) (his : ∀ i ∈ is, i ∈ vs) (ht : SndT K cls tt ft) (he : Snd K cls false te fe) :
    SndL K cls (tLc wi tg tt te vs) (lComp fi vs fg ft fe) := ⟨fun ρ Z σ H sl st ds st' R e Q q => by
  have e0 : (if noOwn sl vs = true then (fi sl st).bind fun p => lcLoop p.1 vs fg ft fe sl (p.1.len p.2) 0 [] p.2 else none) = some (ds, st') := e
  split at e0
  · rename_i hno
    obtain ⟨⟨src, st1⟩, e1, e2⟩ := bind_some e0
    refine hi.run ρ Z σ H sl st src st1 R e1 _ fun J ρ1 H1 R1 x1 hs => fun D hD => ?_
    have e2' : lcLoop src vs fg ft fe sl (src.len st1) 0 [] st1 = some (ds, st') := e2
    -- the word of the turn: the block stands, the list so far stands at D
    refine ⟨fun i n Hc => ∃ (ρc : List Addr) (acc : List Val) (us : List V) (stc : Sto), Rel K cls ρc (ZD Z D) (L2.wipe σ vs) Hc (wipe sl vs) stc ∧ Ext ρ1 H1 ρc (erase Hc D) ∧ Hc D = some (.lst us) ∧
      RepL K ρc (AR ρc (ZO (ZD Z D) (wipe sl vs) (L2.wipe σ vs))) Hc acc us ∧ lcLoop src vs fg ft fe sl n i acc stc = some (ds, st'), ⟨src.len st1, ρ1, [], [], st1, R1.block hno hD, by rw [erase_of hD]; exact .refl, upd_same, .nil, e2'⟩, ?_⟩
    rintro i n Hc ⟨ρc, acc, us, stc, B, xc, hDc, rl, el⟩
    have hsc := hs.mono (blockFr xc hno hD) xc.pre
    obtain ⟨go, stop⟩ := hsc.turn B.s i
    unfold lcLoop at el
    split at el
    · rename_i x hx
      obtain ⟨g1, g2⟩ := go x hx
      split at el
      · cases el
      · rename_i k
        obtain ⟨sl1, ea, el⟩ := bind_some el
        obtain ⟨⟨b, st2⟩, eb, el⟩ := bind_some el
        refine .inr ⟨g1, fun H' => ∃ (ρc : List Addr) (acc : List Val) (us : List V) (stc : Sto), Rel K cls ρc (ZD Z D) (L2.wipe σ vs) H' (wipe sl vs) stc ∧ Ext ρ1 H1 ρc (erase H' D) ∧ H' D = some (.lst us) ∧
          RepL K ρc (AR ρc (ZO (ZD Z D) (wipe sl vs) (L2.wipe σ vs))) H' acc us ∧ lcLoop src vs fg ft fe sl k (i + 1) acc stc = some (ds, st'), fun H' hN => ⟨k, Nat.lt_succ_self k, hN⟩, fun u H2 hy => ?_⟩
        obtain ⟨hH, ru⟩ := g2 u H2 hy
        have xH : Ext ρc Hc ρc H2 := by
          rcases hH with z | ⟨p, o, z1, z2⟩
          · rw [z]; exact .refl
          · rw [z2]; exact .new z1
        have B2 : Rel K cls ρc (ZD Z D) (L2.wipe σ vs) H2 (wipe sl vs) stc := by
          rcases hH with z | ⟨p, o, z1, z2⟩
          · rw [z]; exact B
          · rw [z2]; exact B.new z1
        have hDz : ZD Z D D := .inr rfl
        have hDρ : ∀ {ρq : List Addr} {σq : L2.St} {Hq : Hp} {slq : Sl} {stq : Sto}, Rel K cls ρq (ZD Z D) σq Hq slq stq → D ∉ ρq := fun Rq z => Rq.s.dis D z (.inl hDz)
        refine hg.run ρc (ZD Z D) (L2.wipe σ vs) H2 (wipe sl vs) stc x u sl1 B2 ru ea _ fun σ2 R2 k2 o2 => ?_
        refine ⟨(wipe_ext k2.len fun j hj => (k2.at_ j fun z => hj (his j z)).1).trans (wipe_wipe σ vs), ?_⟩
        have back : ∀ a, Own (wipe sl vs) (L2.wipe σ vs) a → Own sl1 σ2 a := own_back his k2.at_
        refine ht.run ρc (ZD Z D) σ2 H2 sl1 stc b st2 R2 eb _ fun ρ3 H3 R3 x3 => ?_
        cases b with
        | false =>
          rw [if_neg Bool.false_ne_true] at el ⊢
          have B3 := B2.step x3 (R3.s.zs fun a h => h.imp id (back a))
          have x23 : Ext ρc Hc ρ3 H3 := xH.trans x3
          refine ⟨ρ3, acc, us, st2, B3, xc.trans x23.erase, x23.fr.keep D _ (hDρ B) hDc, x23.repL rl, el⟩
        | true =>
          rw [if_pos rfl] at el ⊢
          obtain ⟨⟨y, st3⟩, ec, el⟩ := bind_some el
          refine he.run ρ3 (ZD Z D) σ2 H3 sl1 st2 y st3 R3 ec _ fun v ρ4 H4 R4 x4 rv => ?_
          split at el
          · rename_i hlen
            have B4 := B2.step (x3.trans x4) (R4.s.zs fun a h => h.imp id (back a))
            have x24 : Ext ρc Hc ρ4 H4 := (xH.trans x3).trans x4
            have hD4 : H4 D = some (.lst us) := x24.fr.keep D _ (hDρ B) hDc
            have rl4 := x24.repL rl
            have rv4 : Rep K ρ4 (AR ρ4 (ZO (ZD Z D) (wipe sl vs) (L2.wipe σ vs))) H4 y v := rv.rep.mono (Fr.less fun a h => h.imp id fun h => h.imp id (back a)) List.prefix_rfl
            have frD : Fr (AR ρ4 (ZO (ZD Z D) (wipe sl vs) (L2.wipe σ vs))) H4 (AR ρ4 (ZO (ZD Z D) (wipe sl vs) (L2.wipe σ vs))) (upd H4 D (.lst (us ++ [v]))) := Fr.upd (.inl (.inr (.inl hDz)))
            refine ⟨us, hD4, by rw [← rl.length]; exact Nat.lt_of_lt_of_le hlen (by decide), ρ4, acc ++ [y], us ++ [v], st3, B4.zput hDz, ?_, upd_same, (rl4.append (.cons rv4 .nil)).mono frD List.prefix_rfl, el⟩
            rw [erase_put]
            exact xc.trans x24.erase
          · cases el
    · rename_i hx
      cases el
      refine .inl ⟨stop hx, ?_⟩
      obtain ⟨Rf, rf⟩ := R1.unblock xc hno hD B
      have := q D us ρc (erase Hc D) Rf (x1.trans xc) erase_same (rf rl)
      rw [erase_upd hDc] at this
      exact this
    · cases el
  · cases e0⟩
end
end Mi

set_option Elab.async false
set_option linter.all false
set_option maxRecDepth 100000
set_option maxHeartbeats 1000000
/-! Mi, seventh part: calls, objects, statements, defs. -/
namespace Mi
open PySem PyProof.Rows L2
variable [Gam]

/-- the promise of a def: what its mirror gives -/
def spM (K : PySem.W.Frag) (cls : Nat → Addr) (m : F) : Sp := fun vs H Q _ => ∃ (ρ : List Addr) (Z : Addr → Prop) (ds : List Val) (st : Sto) (d : Val) (st' : Sto), RelR K cls ρ Z H st ∧ RepL K ρ (AR ρ Z) H ds vs ∧ m ds st = some (d, st') ∧
  ∀ u ρ' H', RelR K cls ρ' Z H' st' → Ext ρ H ρ' H' → Rep K ρ' (AR ρ' Z) H' d u → Q u H'

section
variable {K : PySem.W.Frag} {cls : Nat → Addr} {ρ ρ' : List Addr} {Z Z' : Addr → Prop} {σ σ' : L2.St} {H H' : Hp} {sl sl' : Sl} {st st' : Sto} {ta tb te : TE} {fa fb fe : E} {m m' : Bool} {t : TA} {f : L} {mm mm' : F} {C C' k : Nat}
theorem snd_call {EE : XK} (h : SndA K cls false t f) : Snd K cls m (tCall (spM K cls mm) [] EE t) (eCall mm f) := ⟨fun ρ Z σ H sl st d st' R e Q q => by
  obtain ⟨p, e1, e⟩ := bind_some e
  refine h.run ρ Z σ H sl st p.1 p.2 R e1 _ fun us ρ1 H1 R1 x1 r1 => ?_
  refine ⟨ρ1, ZO Z sl σ, p.1, p.2, d, st', R1.s, by rw [List.append_nil]; exact r1.repL, e, fun u ρ2 H2 R2 x2 r2 => ?_⟩
  exact q u ρ2 H2 (R1.step x2 R2) (x1.trans x2) (.of r2)⟩
/-- no method is an attribute -/
theorem lookup_zip_none {f : Str} : ∀ {ns : List Str} {us : List V}, f ∉ ns → (ns.zip us).lookup f = none
  | [], _, _ => by simp
  | _ :: _, [], _ => by simp
  | n :: ns, u :: us, h => by
    rw [List.mem_cons, not_or] at h
    show List.lookup f ((n, u) :: ns.zip us) = none
    have hb : (f == n) = false := beq_eq_false_iff_ne.mpr h.1
    simp only [List.lookup, hb]
    exact lookup_zip_none h.2
theorem isIns_inv (R : Rel K cls ρ Z σ H sl st) {x : Val} {u : V} (h : RepM K m ρ Z σ H sl x u) (hi : isIns st C x = true) : ∃ a dx us vs n, u = .ref a ∧ x = .ref n ∧ st[n]? = some (.ins C vs) ∧ ρ[n]? = some a ∧ H a = some (.ins (cls C) dx ((nms C).zip us)) ∧ us.length ≤ (nms C).length ∧ RepL K ρ (AR ρ (ZO Z sl σ)) H vs us := by
  unfold isIns at hi
  split at hi
  · rename_i n
    split at hi
    · rename_i D vs hn
      have hD : D = C := by simpa using hi
      subst hD
      rcases h with h | ⟨_, _, _, _, z, _⟩
      · cases h with
        | ref h1 =>
          rename_i a
          obtain ⟨dx, us, q1, q2, q3⟩ := R.s.cells n _ a hn h1
          exact ⟨a, dx, us, vs, n, rfl, rfl, hn, h1, q1, q2, q3⟩
      · cases z
    · cases hi
  · cases hi
theorem snd_meth {nm : Str} {EE : XK} (ha : Snd K cls m' ta fa) (h : SndA K cls false t f) (hn : nm ∉ nms C) : Snd K cls m (tMeth (cls C) nm (spM K cls mm) [] EE ta t) (eMeth C mm fa f) := ⟨fun ρ Z σ H sl st d st' R e Q q => by
  obtain ⟨p, e1, e⟩ := bind_some e
  split at e
  · rename_i hi
    obtain ⟨p2, e2, e⟩ := bind_some e
    refine ha.run ρ Z σ H sl st p.1 p.2 R e1 _ fun u ρ1 H1 R1 x1 r1 => ?_
    obtain ⟨a, dx, us, vs, n, rfl, hx, _, h2, h3, _, _⟩ := isIns_inv R1 r1 hi
    refine ⟨a, dx, _, rfl, h3, lookup_zip_none hn, ?_⟩
    refine h.run ρ1 Z σ H1 sl p.2 p2.1 p2.2 R1 e2 _ fun us ρ2 H2 R2 x2 r2 => ?_
    rw [hx] at e r1
    have r1' : Rep K ρ2 (AR ρ2 (ZO Z sl σ)) H2 (.ref n) (.ref a) := .ref (by
      obtain ⟨tt, ht⟩ := x2.pre
      rw [← ht, List.getElem?_append_left (List.getElem?_eq_some_iff.mp h2).1]
      exact h2)
    refine ⟨ρ2, ZO Z sl σ, .ref n :: p2.1, p2.2, d, st', R2.s, by rw [List.append_nil]; exact .cons r1' r2.repL, e, fun u ρ3 H3 R3 x3 r3 => ?_⟩
    exact q u ρ3 H3 (R2.step x3 R3) ((x1.trans x2).trans x3) (.of r3)
  · cases e⟩
/-- the receiver of one of two classes -/
theorem snd_meth2 {t1 t2 : TE} (h1 : Snd K cls m t1 (eMeth C mm fa f)) (h2 : Snd K cls m t2 (eMeth C' mm' fa f)) : Snd K cls m (fun σ H Q => t1 σ H Q ∨ t2 σ H Q) (eMeth2 C mm C' mm' fa f) := ⟨fun ρ Z σ H sl st d st' R e Q q => by
  obtain ⟨p, e1, e⟩ := bind_some e
  split at e
  · rename_i hi
    refine .inl (h1.run ρ Z σ H sl st d st' R ?_ Q q)
    unfold eMeth
    rw [e1]
    show (if _ then _ else _) = _
    rw [if_pos hi]
    exact e
  · split at e
    · rename_i hi
      refine .inr (h2.run ρ Z σ H sl st d st' R ?_ Q q)
      unfold eMeth
      rw [e1]
      show (if _ then _ else _) = _
      rw [if_pos hi]
      exact e
    · cases e⟩
theorem pe_alt {X : Cx} {e : Expr} {t1 t2 : TE} (h1 : PE X e t1) (h2 : PE X e t2) : PE X e (fun σ H Q => t1 σ H Q ∨ t2 σ H Q) := ⟨fun pins s σ H Q I q => q.elim (h1.run pins s σ H Q I) (h2.run pins s σ H Q I)⟩
theorem snd_new {EE : XK} (h : SndA K cls false t f) : Snd K cls m (tMake (cls C) (spM K cls mm) [] EE t) (eNew C mm f) := ⟨fun ρ Z σ H sl st d st' R e Q q => by
  obtain ⟨p, e1, e⟩ := bind_some e
  obtain ⟨p2, e2, e⟩ := bind_some e
  split at e
  · rename_i hv
    cases e
    refine h.run ρ Z σ H sl st p.1 p.2 R e1 _ fun us ρ1 H1 R1 x1 r1 => fun x dx hx hdx hne => ?_
    have R2 := R1.new (o := .own x) hdx
    have hx2 : upd H1 dx (.own x) x = none := by rw [upd_ne hne.symm]; exact hx
    have R3 : Rel K cls (ρ1 ++ [x]) Z σ (upd (upd H1 dx (.own x)) x (.ins (cls C) dx [])) sl (p.2 ++ [.ins C []]) := R2.push hx2 ⟨dx, [], by rw [upd_same, List.zip_nil_right], Nat.zero_le _, .nil⟩
    have x3 : Ext ρ1 H1 (ρ1 ++ [x]) (upd (upd H1 dx (.own x)) x (.ins (cls C) dx [])) := (Ext.new hdx).trans (.push hx2)
    have hρx : (ρ1 ++ [x])[p.2.length]? = some x := by rw [← R1.s.len, List.getElem?_append_right (Nat.le_refl _), Nat.sub_self] <;> rfl
    refine ⟨ρ1 ++ [x], ZO Z sl σ, .ref p.2.length :: p.1, _, p2.1, p2.2, R3.s, by rw [List.append_nil]; exact .cons (.ref hρx) (x3.repL r1.repL), e2, fun u ρ4 H4 R4 x4 r4 => ?_⟩
    rw [hv] at r4
    refine ⟨by cases r4; rfl, q _ ρ4 H4 (R3.step x4 R4) ((x1.trans x3).trans x4) (.of (.ref ?_))⟩
    obtain ⟨tt, ht⟩ := x4.pre
    rw [← ht, List.getElem?_append_left (List.getElem?_eq_some_iff.mp hρx).1]
    exact hρx
  · cases e⟩

/-! ### attributes -/
theorem lookup_zip {f : Str} : ∀ {ns : List Str} {us : List V} {k : Nat} {v : V}, ns.Nodup → ns[k]? = some f → us[k]? = some v → (ns.zip us).lookup f = some v
  | [], _, k, _, _, h, _ => by simp at h
  | _ :: _, [], k, _, _, _, h => by simp at h
  | n :: ns, u :: us, 0, v, _, h1, h2 => by
    simp at h1 h2
    subst h1
    subst h2
    show List.lookup n ((n, u) :: ns.zip us) = some u
    simp only [List.lookup, beq_self_eq_true]
  | n :: ns, u :: us, k + 1, v, nd, h1, h2 => by
    rw [List.nodup_cons] at nd
    simp at h1 h2
    show List.lookup f ((n, u) :: ns.zip us) = some v
    have hne : f ≠ n := fun z => nd.1 (by rw [← z]; exact List.mem_of_getElem? h1)
    have hb : (f == n) = false := beq_eq_false_iff_ne.mpr hne
    simp only [List.lookup, hb]
    exact lookup_zip nd.2 h1 h2
theorem putF_zip {f : Str} {v : V} : ∀ {ns : List Str} {us : List V} {k : Nat}, ns.Nodup → ns[k]? = some f → (k < us.length → putF f v (ns.zip us) = ns.zip (us.set k v)) ∧ (k = us.length → putF f v (ns.zip us) = ns.zip (us ++ [v]))
  | [], _, k, _, h => by simp at h
  | n :: ns, [], k, nd, h => by
    refine ⟨fun hk => by simp at hk, fun hk => ?_⟩
    have : k = 0 := hk
    subst this
    simp at h
    subst h
    show putF n v [] = (n :: ns).zip [v]
    simp [putF]
  | n :: ns, u :: us, 0, nd, h => by
    simp at h
    subst h
    refine ⟨fun _ => ?_, fun hk => by simp at hk⟩
    show (if n = n then (n, v) :: ns.zip us else _) = _
    rw [if_pos rfl]
    rfl
  | n :: ns, u :: us, k + 1, nd, h => by
    rw [List.nodup_cons] at nd
    simp at h
    have hne : n ≠ f := fun z => nd.1 (by rw [z]; exact List.mem_of_getElem? h)
    obtain ⟨i1, i2⟩ := putF_zip (v := v) (us := us) nd.2 h
    have e : putF f v ((n :: ns).zip (u :: us)) = (n, u) :: putF f v (ns.zip us) := by
      show (if n = f then (n, v) :: ns.zip us else (n, u) :: putF f v (ns.zip us)) = _
      rw [if_neg hne]
    refine ⟨fun hk => ?_, fun hk => ?_⟩
    · rw [e, i1 (by simpa using hk)] <;> rfl
    · rw [e, i2 (by simpa using hk)] <;> rfl
/-- what is known of a class's attribute -/
structure At (K : PySem.W.Frag) (cls : Nat → Addr) (C k : Nat) (f : Str) : Prop where
  cl : Cls K (cls C)
  no : NoAttr K (cls C) f
  nd : (nms C).Nodup
  ix : (nms C)[k]? = some f
def rFld (K : PySem.W.Frag) (f : Str) : V → Hp → VK → Prop := fun x H1 Q => ∃ a C dx fs v, x = .ref a ∧ H1 a = some (.ins C dx fs) ∧ Cls K C ∧ NoAttr K C f ∧ fs.lookup f = some v ∧ Q v H1
theorem ops_fld {f : Str} (h : At K cls C k f) : Op1S K cls (oFld C k) (rFld K f) := by
  intro ρ Z σ H sl st x z u R h1 e Q q
  unfold oFld at e
  split at e
  · rename_i st' n
    split at e
    · rename_i D vs hn
      split at e
      · rename_i hD
        subst hD
        rcases h1 with h1 | ⟨_, _, _, _, z, _⟩
        · cases h1 with
          | ref h2 =>
            rename_i a
            obtain ⟨dx, us, q1, q2, q3⟩ := R.s.cells n _ a hn h2
            obtain ⟨v, q4, q5⟩ := q3.get e
            exact ⟨a, _, dx, _, v, rfl, q1, h.cl, h.no, lookup_zip h.nd h.ix q4, q v H R .refl q5⟩
        · cases z
      · cases e
    · cases e
  · cases e
theorem snd_fld {f : Str} (h : At K cls C k f) (ha : Snd K cls m' ta fa) : Snd K cls m (tFld K ta f) (e1 (oFld C k) fa) := snd_e1 (ops_fld h) ha

/-! ### statements -/
/-- what is due behind a statement, from where it began -/
def After (K : PySem.W.Frag) (cls : Nat → Addr) (ρ : List Addr) (Z : Addr → Prop) (σ : L2.St) (H : Hp) (sl : Sl) (D : Ends) (r : Out × Sl × Sto) : Prop :=
  match r.1 with
  | .nx => ∀ σ' ρ' H', Rel K cls ρ' Z σ' H' r.2.1 r.2.2 → ρ <+: ρ' → Fr (WO ρ sl σ) H (WO ρ' r.2.1 σ') H' → D.nx σ' H'
  | .bk => ∀ σ' ρ' H', Rel K cls ρ' Z σ' H' r.2.1 r.2.2 → ρ <+: ρ' → Fr (WO ρ sl σ) H (WO ρ' r.2.1 σ') H' → D.bk σ' H'
  | .ct => ∀ σ' ρ' H', Rel K cls ρ' Z σ' H' r.2.1 r.2.2 → ρ <+: ρ' → Fr (WO ρ sl σ) H (WO ρ' r.2.1 σ') H' → D.ct σ' H'
  | .rt d => ∀ u ρ' H', RelR K cls ρ' Z H' r.2.2 → ρ <+: ρ' → Fr (WO ρ sl σ) H (· ∈ ρ') H' → Rep K ρ' (AR ρ' Z) H' d u → D.rt u H'
structure SndS (K : PySem.W.Frag) (cls : Nat → Addr) (t : TS) (f : S) : Prop where
  run : ∀ (ρ : List Addr) (Z : Addr → Prop) (σ : L2.St) (H : Hp) (sl : Sl) (st : Sto) (r : Out × Sl × Sto), Rel K cls ρ Z σ H sl st → f sl st = some r → ∀ D : Ends, After K cls ρ Z σ H sl D r → t D σ H
abbrev SS (X : Cx) (K : PySem.W.Frag) (cls : Nat → Addr) (s : Stmt) (t : TS) (f : S) : Prop := PS X s t ∧ SndS K cls t f
abbrev SSs (X : Cx) (K : PySem.W.Frag) (cls : Nat → Addr) (s : List Stmt) (t : TS) (f : S) : Prop := PSs X s t ∧ SndS K cls t f
theorem Ext.wo (x : Ext ρ H ρ' H') : Fr (WO ρ sl σ) H (WO ρ' sl σ) H' := ⟨fun a o hn h => x.fr.keep a o (fun z => hn (.inl z)) h, fun a h => h.elim (fun z => (x.fr.new a z).imp .inl id) fun z => .inl (.inr z)⟩
theorem After.later {D : Ends} {r : Out × Sl × Sto} (h : After K cls ρ Z σ H sl D r) (hp : ρ <+: ρ') (fr : Fr (WO ρ sl σ) H (WO ρ' sl' σ') H') : After K cls ρ' Z σ' H' sl' D r := by
  obtain ⟨o, sl2, st2⟩ := r
  cases o with
  | nx => exact fun σ2 ρ2 H2 R2 p2 f2 => h σ2 ρ2 H2 R2 (hp.trans p2) (fr.trans f2)
  | bk => exact fun σ2 ρ2 H2 R2 p2 f2 => h σ2 ρ2 H2 R2 (hp.trans p2) (fr.trans f2)
  | ct => exact fun σ2 ρ2 H2 R2 p2 f2 => h σ2 ρ2 H2 R2 (hp.trans p2) (fr.trans f2)
  | rt d => exact fun u ρ2 H2 R2 p2 f2 => h u ρ2 H2 R2 (hp.trans p2) (fr.trans f2)
theorem s_skip : SndS K cls tNext sSkip := ⟨fun ρ Z σ H sl st r R e D q => by
  cases e
  exact q σ ρ H R List.prefix_rfl .refl⟩
theorem s_seq {t u : TS} {f g : S} (h1 : SndS K cls t f) (h2 : SndS K cls u g) : SndS K cls (tSeq t u) (sSeq f g) := ⟨fun ρ Z σ H sl st r R e D q => by
  obtain ⟨⟨o, sl1, st1⟩, e1, e2⟩ := bind_some e
  refine h1.run ρ Z σ H sl st _ R e1 _ ?_
  cases o with
  | nx => exact fun σ1 ρ1 H1 R1 p1 f1 => h2.run ρ1 Z σ1 H1 sl1 st1 r R1 e2 D (q.later p1 f1)
  | bk => cases e2; exact q
  | ct => cases e2; exact q
  | rt d => cases e2; exact q⟩
theorem s_drop (ha : Snd K cls m ta fa) : SndS K cls (tDrop ta) (sDrop fa) := ⟨fun ρ Z σ H sl st r R e D q => by
  obtain ⟨p, e1, e⟩ := bind_some e
  cases e
  exact ha.run ρ Z σ H sl st p.1 p.2 R e1 _ fun u ρ1 H1 R1 x1 _ => q σ ρ1 H1 R1 x1.pre x1.wo⟩
/-- at a return the slots' own lists are values -/
theorem RepM.ret (R : Rel K cls ρ Z σ H sl st) {x : Val} {u : V} (h : RepM K m ρ Z σ H sl x u) : Rep K ρ (AR ρ Z) H x u := by
  have le : ∀ a, AR ρ Z a → AR ρ (ZO Z sl σ) a := fun a h => h.imp id .inl
  rcases h with h | ⟨_, i, xs, a, rfl, rfl, h1, h2⟩
  · exact h.mono (Fr.less le) List.prefix_rfl
  · obtain ⟨b, us, q1, q2, q3, q4⟩ := R.owns i xs h1
    rw [h2] at q1
    cases q1
    exact .lst (.inl ⟨fun z => z.elim (fun z => R.s.dis a z (.inr ⟨i, xs, h1, h2⟩)) q4, .inl q2⟩) (q3.mono (Fr.less le) List.prefix_rfl)
theorem RepML.ret (R : Rel K cls ρ Z σ H sl st) : ∀ {xs : List Val} {us : List V}, RepML K m ρ Z σ H sl xs us → RepL K ρ (AR ρ Z) H xs us
  | [], [], _ => .nil
  | _ :: _, _ :: _, h => .cons (h.1.ret R) (RepML.ret R h.2)
theorem wo_ret (R : Rel K cls ρ' Z σ H' sl st) (x : Fr (WO ρ sl σ) H (WO ρ' sl σ) H') : Fr (WO ρ sl σ) H (· ∈ ρ') H' := ⟨x.keep, fun a h => x.new a (.inl h)⟩
theorem s_ret (ha : Snd K cls m ta fa) : SndS K cls (tRet ta) (sRet fa) := ⟨fun ρ Z σ H sl st r R e D q => by
  obtain ⟨p, e1, e⟩ := bind_some e
  cases e
  exact ha.run ρ Z σ H sl st p.1 p.2 R e1 _ fun u ρ1 H1 R1 x1 r1 => q u ρ1 H1 (R1.s.zs fun a h => .inl h) x1.pre (wo_ret R1 x1.wo) (r1.ret R1)⟩
/-- return (a, b, ..), where own lists may be handed out -/
theorem s_retT (ha : SndA K cls m t f) : SndS K cls (tRet (tTup t)) (sRet (eTup f)) := ⟨fun ρ Z σ H sl st r R e D q => by
  obtain ⟨p, e1, e⟩ := bind_some e
  cases e
  obtain ⟨p2, e2, e3⟩ := bind_some e1
  split at e3
  · rename_i hl
    cases e3
    refine ha.run ρ Z σ H sl st p2.1 p2.2 R e2 _ fun us ρ1 H1 R1 x1 r1 => ?_
    have rl := r1.ret R1
    refine ⟨by rw [← rl.length]; exact Nat.le_trans hl (by decide), fun w hp => ?_⟩
    have R2 := R1.new (o := .tup us) hp
    have x2 : Ext ρ H ρ1 (upd H1 w (.tup us)) := x1.trans (.new hp)
    refine q _ ρ1 _ (R2.s.zs fun a h => .inl h) x2.pre (wo_ret R2 x2.wo) (.tup (.inl ⟨fun z => R1.s.dom w (z.imp id .inl) hp, upd_same⟩) (Ext.repL (.new hp) rl))
  · cases e3⟩
theorem s_retN : SndS K cls tRetN (sRet (eC .non)) := ⟨fun ρ Z σ H sl st r R e D q => by
  cases e
  exact q _ ρ H (R.s.zs fun a h => .inl h) List.prefix_rfl (wo_ret R .refl) .non⟩
theorem s_asg {is : List Nat} {tg : TG} {fg : G} (ha : Snd K cls false ta fa) (hg : SndG K cls is tg fg) : SndS K cls (tAsg ta tg) (sAsg fa fg) := ⟨fun ρ Z σ H sl st r R e D q => by
  obtain ⟨p, e1, e⟩ := bind_some e
  obtain ⟨sl1, e2, e⟩ := bind_some e
  cases e
  refine ha.run ρ Z σ H sl st p.1 p.2 R e1 _ fun u ρ1 H1 R1 x1 r1 => ?_
  refine hg.run ρ1 Z σ H1 sl p.2 p.1 u sl1 R1 r1.rep e2 _ fun σ2 R2 _ o2 => ?_
  exact q σ2 ρ1 H1 R2 x1.pre (x1.wo.trans ⟨fun _ _ _ h => h, fun a h => .inl (h.imp id (o2 a))⟩)⟩
theorem Rel.setOwn {i : Nat} {xs : List Val} {us : List V} {p : Addr} (R : Rel K cls ρ Z σ H sl st) (hp : H p = none) (r : RepL K ρ (AR ρ (ZO Z sl σ)) H xs us) (hi : i < sl.length) :
    Rel K cls ρ Z (σ.set i (some (.ref p))) (L2.upd H p (.lst us)) (sl.set i (.own xs)) st ∧ Fr (WO ρ sl σ) H (WO ρ (sl.set i (.own xs)) (σ.set i (some (.ref p)))) (L2.upd H p (.lst us)) := by
  have hi' : i < σ.length := by rw [← R.slen]; exact hi
  have ow : ∀ a, Own (sl.set i (.own xs)) (σ.set i (some (.ref p))) a → a = p ∨ Own sl σ a := fun a ⟨j, ys, h1, h2⟩ => by
    by_cases hj : j = i
    · subst hj
      rw [List.getElem?_set_self hi'] at h2
      cases h2
      exact .inl rfl
    · rw [List.getElem?_set_ne (Ne.symm hj)] at h1 h2
      exact .inr ⟨j, ys, h1, h2⟩
  have fr : Fr (AR ρ (ZO Z sl σ)) H (AR ρ (ZO Z (sl.set i (.own xs)) (σ.set i (some (.ref p))))) (L2.upd H p (.lst us)) := ⟨fun a o hn h => by rw [upd_ne (ne_of_none h hp)]; exact h, fun a h => by
    rcases h with h | h | h
    · exact .inl (.inl h)
    · exact .inl (.inr (.inl h))
    · rcases ow a h with z | z
      · rw [z]; exact .inr hp
      · exact .inl (.inr (.inr z))⟩
  have np : ∀ a, AR ρ (ZO Z sl σ) a → a ≠ p := fun a h z => R.s.dom a h (z ▸ hp)
  refine ⟨⟨⟨R.s.nd, R.s.len, fun n c a h1 h2 => ?_, fun a h => ?_, fun a h z => ?_⟩, by rw [List.length_set, List.length_set]; exact R.slen, fun j w h => ?_, fun j ys h => ?_, fun j k ys zs a h1 h2 h3 h4 => ?_⟩, ⟨fun a o hn h => by rw [upd_ne (ne_of_none h hp)]; exact h, fun a h => ?_⟩⟩
  · exact (R.s.cells n c a h1 h2).mono fr List.prefix_rfl (upd_ne (np a (.inl (List.mem_of_getElem? h2))))
  · by_cases ha : a = p
    · subst ha; rw [upd_same]; simp
    · rw [upd_ne ha]
      exact (fr.new a h).elim (R.s.dom a) fun z => by
        rcases h with h | h | h
        · exact R.s.dom a (.inl h)
        · exact R.s.dom a (.inr (.inl h))
        · exact (ow a h).elim (fun z => absurd z ha) fun z => R.s.dom a (.inr (.inr z))
  · rcases z with z | z
    · exact R.s.dis a h (.inl z)
    · exact (ow a z).elim (np a (.inl h)) fun z => R.s.dis a h (.inr z)
  · have hj : j ≠ i := fun z => by
      subst z
      rw [List.getElem?_set_self hi] at h
      cases h
    rw [List.getElem?_set_ne (Ne.symm hj)] at h
    obtain ⟨u', q1, q2⟩ := R.slots j w h
    exact ⟨u', by rw [List.getElem?_set_ne (Ne.symm hj)]; exact q1, q2.mono fr List.prefix_rfl⟩
  · by_cases hj : j = i
    · subst hj
      rw [List.getElem?_set_self hi] at h
      cases h
      exact ⟨p, us, by rw [List.getElem?_set_self hi'], upd_same, r.mono fr List.prefix_rfl, fun z => np p (.inr (.inl z)) rfl⟩
    · rw [List.getElem?_set_ne (Ne.symm hj)] at h
      obtain ⟨a, us, q1, q2, q3, q4⟩ := R.owns j ys h
      exact ⟨a, us, by rw [List.getElem?_set_ne (Ne.symm hj)]; exact q1, by rw [upd_ne (ne_of_none q2 hp)]; exact q2, q3.mono fr List.prefix_rfl, q4⟩
  · by_cases hj : j = i
    · by_cases hk : k = i
      · rw [hj, hk]
      · subst hj
        rw [List.getElem?_set_self hi'] at h3
        cases h3
        rw [List.getElem?_set_ne (Ne.symm hk)] at h2 h4
        exact absurd rfl (np p (.inr (.inr ⟨k, zs, h2, h4⟩)))
    · rw [List.getElem?_set_ne (Ne.symm hj)] at h1 h3
      by_cases hk : k = i
      · subst hk
        rw [List.getElem?_set_self hi'] at h4
        cases h4
        exact absurd rfl (np p (.inr (.inr ⟨j, ys, h1, h3⟩)))
      · rw [List.getElem?_set_ne (Ne.symm hk)] at h2 h4
        exact R.inj j k ys zs a h1 h2 h3 h4
  · rcases h with h | h
    · exact .inl (.inl h)
    · rcases ow a h with z | z
      · rw [z]; exact .inr hp
      · exact .inl (.inr z)
theorem s_own {i : Nat} {fl : L} (h : SndL K cls ta fl) : SndS K cls (tAsg ta (L2.gName i)) (sOwn i fl) := ⟨fun ρ Z σ H sl st r R e D q => by
  obtain ⟨p, e1, e⟩ := bind_some e
  split at e
  · rename_i hi
    cases e
    refine h.run ρ Z σ H sl st p.1 p.2 R e1 _ fun w us ρ1 H1 R1 x1 hp rl => ?_
    obtain ⟨R2, f2⟩ := R1.setOwn hp rl hi
    exact q _ ρ1 _ R2 x1.pre (x1.wo.trans f2)
  · cases e⟩
theorem s_if {tc : TT} {fc : T} {tu tw : TS} {fu fw : S} (hc : SndT K cls tc fc) (h1 : SndS K cls tu fu) (h2 : SndS K cls tw fw) : SndS K cls (tIfS tc tu tw) (sIf fc fu fw) := ⟨fun ρ Z σ H sl st r R e D q => by
  obtain ⟨p, e1, e⟩ := bind_some e
  refine hc.run ρ Z σ H sl st p.1 p.2 R e1 _ fun ρ1 H1 R1 x1 => ?_
  cases h : p.1 with
  | true =>
    rw [h, if_pos rfl] at e
    rw [if_pos rfl]
    exact h1.run ρ1 Z σ H1 sl p.2 r R1 e D (q.later x1.pre x1.wo)
  | false =>
    rw [h, if_neg Bool.false_ne_true] at e
    rw [if_neg Bool.false_ne_true]
    exact h2.run ρ1 Z σ H1 sl p.2 r R1 e D (q.later x1.pre x1.wo)⟩
/-- two names at once -/
theorem s_par {i j : Nat} (hij : i ≠ j) (ha : Snd K cls false ta fa) (hb : Snd K cls false tb fb) : SndS K cls (tPar i j (tCons ta (tCons tb tNil))) (sPar i j fa fb) := ⟨fun ρ Z σ H sl st r R e D q => by
  obtain ⟨p, e1, e⟩ := bind_some e
  obtain ⟨p2, e2, e⟩ := bind_some e
  split at e
  · rename_i hl
    cases e
    refine ha.run ρ Z σ H sl st p.1 p.2 R e1 _ fun u ρ1 H1 R1 x1 r1 => ?_
    refine hb.run ρ1 Z σ H1 sl p.2 p2.1 p2.2 R1 e2 _ fun v ρ2 H2 R2 x2 r2 => ⟨u, v, rfl, ?_⟩
    have R3 := R2.setVal (r1.ext x2).rep hl.1
    have le : ∀ a, AR ρ2 (ZO Z (sl.set i (.val p.1)) (σ.set i (some u))) a → AR ρ2 (ZO Z sl σ) a := fun a h => h.imp id fun z => z.imp id own_set
    have R4 := R3.setVal (r2.rep.mono (Fr.less le) List.prefix_rfl) (i := j) (by rw [List.length_set]; exact hl.2)
    exact q _ ρ2 H2 R4 (x1.trans x2).pre ((x1.trans x2).wo.trans ⟨fun _ _ _ h => h, fun a h => .inl (h.imp id fun z => own_set (own_set z))⟩)
  · cases e⟩
/-- for -/
theorem s_for {wi : TI} {fi : I} {is : List Nat} {tg : TG} {fg : G} {tb : TS} {fb : S} (hi : SndI K cls wi fi) (hg : SndG K cls is tg fg) (hb : SndS K cls tb fb) : SndS K cls (tFor wi tg tb) (sFor fi fg fb) := ⟨fun ρ Z σ H sl st r R e D q => by
  obtain ⟨⟨src, st1⟩, e1, e2⟩ := bind_some e
  refine hi.run ρ Z σ H sl st src st1 R e1 _ fun J ρ1 H1 R1 x1 hs => ?_
  have e2' : forLoop src fg fb (src.len st1) 0 sl st1 = some r := e2
  have q1 := q.later x1.pre x1.wo
  refine ⟨fun i n σc Hc => ∃ (ρc : List Addr) (slc : Sl) (stc : Sto), Rel K cls ρc Z σc Hc slc stc ∧ ρ1 <+: ρc ∧ Fr (WO ρ1 sl σ) H1 (WO ρc slc σc) Hc ∧ forLoop src fg fb n i slc stc = some r, ⟨src.len st1, ρ1, sl, st1, R1, List.prefix_rfl, .refl, e2'⟩, ?_⟩
  rintro i n σc Hc ⟨ρc, slc, stc, Rc, pc, fc, el⟩
  have frA : Fr (AR ρ1 (ZO Z sl σ)) H1 (AR ρc (ZO Z slc σc)) Hc := ⟨fun a o hn h => fc.keep a o (fun z => hn (z.imp id .inr)) h, fun a h => by
    rcases h with h | h | h
    · exact (fc.new a (.inl h)).imp (fun z => z.imp id .inr) id
    · exact .inl (.inr (.inl h))
    · exact (fc.new a (.inr h)).imp (fun z => z.imp id .inr) id⟩
  obtain ⟨go, stop⟩ := (hs.mono frA pc).turn Rc.s i
  unfold forLoop at el
  split at el
  · rename_i x hx
    obtain ⟨g1, g2⟩ := go x hx
    split at el
    · cases el
    · rename_i k
      obtain ⟨sl2, ea, el⟩ := bind_some el
      obtain ⟨⟨o, sl3, st3⟩, eb, el⟩ := bind_some el
      refine .inr ⟨g1, fun σ' H' => ∃ (ρc : List Addr) (slc : Sl) (stc : Sto), Rel K cls ρc Z σ' H' slc stc ∧ ρ1 <+: ρc ∧ Fr (WO ρ1 sl σ) H1 (WO ρc slc σ') H' ∧ forLoop src fg fb k (i + 1) slc stc = some r, fun σ' H' hN => ⟨k, Nat.lt_succ_self k, hN⟩, fun u H2 hy => ?_⟩
      obtain ⟨hH, ru⟩ := g2 u H2 hy
      have RH : Rel K cls ρc Z σc H2 slc stc ∧ Ext ρc Hc ρc H2 := by
        rcases hH with z | ⟨p, ob, z1, z2⟩
        · rw [z]; exact ⟨Rc, .refl⟩
        · rw [z2]; exact ⟨Rc.new z1, .new z1⟩
      obtain ⟨R2, xH⟩ := RH
      refine hg.run ρc Z σc H2 slc stc x u sl2 R2 ru ea _ fun σ3 R3 _ o3 => ?_
      have f3 : Fr (WO ρ1 sl σ) H1 (WO ρc sl2 σ3) H2 := (fc.trans xH.wo).trans ⟨fun _ _ _ h => h, fun a h => .inl (h.imp id (o3 a))⟩
      refine hb.run ρc Z σ3 H2 sl2 stc _ R3 eb _ ?_
      cases o with
      | nx => exact fun σ4 ρ4 H4 R4 p4 f4 => ⟨ρ4, sl3, st3, R4, pc.trans p4, f3.trans f4, el⟩
      | ct => exact fun σ4 ρ4 H4 R4 p4 f4 => ⟨ρ4, sl3, st3, R4, pc.trans p4, f3.trans f4, el⟩
      | bk =>
        cases el
        exact fun σ4 ρ4 H4 R4 p4 f4 => q1 σ4 ρ4 H4 R4 (pc.trans p4) (f3.trans f4)
      | rt v =>
        cases el
        exact fun u ρ4 H4 R4 p4 f4 r4 => q1 u ρ4 H4 R4 (pc.trans p4) (f3.trans f4) r4
  · rename_i hx
    cases el
    exact .inl ⟨stop hx, q1 σc ρc Hc Rc pc fc⟩
  · cases el⟩
/-- while -/
theorem s_while {n : Nat} {tc : TT} {fc : T} {tb : TS} {fb : S} (hc : SndT K cls tc fc) (hb : SndS K cls tb fb) : SndS K cls (tWhile tc tb) (sWhile n fc fb) := ⟨fun ρ Z σ H sl st r R e D q => by
  refine ⟨fun k σc Hc => ∃ (ρc : List Addr) (slc : Sl) (stc : Sto), Rel K cls ρc Z σc Hc slc stc ∧ ρ <+: ρc ∧ Fr (WO ρ sl σ) H (WO ρc slc σc) Hc ∧ whLoop fc fb k slc stc = some r, ⟨n, ρ, sl, st, R, List.prefix_rfl, .refl, e⟩, ?_⟩
  rintro k σc Hc ⟨ρc, slc, stc, Rc, pc, fr, el⟩
  cases k with
  | zero => cases el
  | succ k =>
    unfold whLoop at el
    obtain ⟨⟨b, st2⟩, ea, el⟩ := bind_some el
    refine hc.run ρc Z σc Hc slc stc b st2 Rc ea _ fun ρ2 H2 R2 x2 => ?_
    cases b with
    | true =>
      rw [if_pos rfl] at el ⊢
      obtain ⟨⟨o, sl3, st3⟩, eb, el⟩ := bind_some el
      refine ⟨fun σ' H' => ∃ (ρc : List Addr) (slc : Sl) (stc : Sto), Rel K cls ρc Z σ' H' slc stc ∧ ρ <+: ρc ∧ Fr (WO ρ sl σ) H (WO ρc slc σ') H' ∧ whLoop fc fb k slc stc = some r, fun σ' H' hN => ⟨k, Nat.lt_succ_self k, hN⟩, ?_⟩
      refine hb.run ρ2 Z σc H2 slc st2 _ R2 eb _ ?_
      have f2 := fr.trans x2.wo
      cases o with
      | nx => exact fun σ4 ρ4 H4 R4 p4 f4 => ⟨ρ4, sl3, st3, R4, (pc.trans x2.pre).trans p4, f2.trans f4, el⟩
      | ct => exact fun σ4 ρ4 H4 R4 p4 f4 => ⟨ρ4, sl3, st3, R4, (pc.trans x2.pre).trans p4, f2.trans f4, el⟩
      | bk =>
        cases el
        exact fun σ4 ρ4 H4 R4 p4 f4 => q σ4 ρ4 H4 R4 ((pc.trans x2.pre).trans p4) (f2.trans f4)
      | rt v =>
        cases el
        exact fun u ρ4 H4 R4 p4 f4 r4 => q u ρ4 H4 R4 ((pc.trans x2.pre).trans p4) (f2.trans f4) r4
    | false =>
      rw [if_neg Bool.false_ne_true] at el ⊢
      cases el
      exact q σc ρ2 H2 R2 (pc.trans x2.pre) (fr.trans x2.wo)⟩
/-- a slot's own list changes -/
theorem Rel.ownPut {i : Nat} {a : Addr} {xs xs' : List Val} {us' : List V} (R : Rel K cls ρ Z σ H sl st) (ho : sl[i]? = some (.own xs)) (hs : σ[i]? = some (some (.ref a))) (r : RepL K ρ (AR ρ (ZO Z sl σ)) H xs' us') :
    Rel K cls ρ Z σ (L2.upd H a (.lst us')) (sl.set i (.own xs')) st ∧ Fr (WO ρ sl σ) H (WO ρ (sl.set i (.own xs')) σ) (L2.upd H a (.lst us')) := by
  have hi : i < sl.length := (List.getElem?_eq_some_iff.mp ho).1
  have hOa : Own sl σ a := ⟨i, xs, ho, hs⟩
  obtain ⟨a', us, q1, q2, q3, q4⟩ := R.owns i xs ho
  rw [hs] at q1
  cases q1
  have ow : ∀ b, Own (sl.set i (.own xs')) σ b ↔ Own sl σ b := fun b => ⟨fun ⟨j, ys, h1, h2⟩ => by
    by_cases hj : j = i
    · subst hj
      exact ⟨j, xs, ho, h2⟩
    · rw [List.getElem?_set_ne (Ne.symm hj)] at h1
      exact ⟨j, ys, h1, h2⟩, fun ⟨j, ys, h1, h2⟩ => by
    by_cases hj : j = i
    · subst hj
      exact ⟨j, xs', by rw [List.getElem?_set_self hi], h2⟩
    · exact ⟨j, ys, by rw [List.getElem?_set_ne (Ne.symm hj)]; exact h1, h2⟩⟩
  have sub : ∀ b, AR ρ (ZO Z (sl.set i (.own xs')) σ) b → AR ρ (ZO Z sl σ) b := fun b h => h.imp id fun z => z.imp id (ow b).mp
  have fr : Fr (AR ρ (ZO Z sl σ)) H (AR ρ (ZO Z (sl.set i (.own xs')) σ)) (L2.upd H a (.lst us')) := ⟨fun b o hn h => by rw [upd_ne (show b ≠ a from fun z => hn (by rw [z]; exact .inr (.inr hOa)))]; exact h, fun b h => .inl (sub b h)⟩
  refine ⟨⟨⟨R.s.nd, R.s.len, fun n c b h1 h2 => ?_, fun b h => ?_, fun b h z => R.s.dis b h (z.imp id (ow b).mp)⟩, by rw [List.length_set]; exact R.slen, fun j w h => ?_, fun j ys h => ?_, fun j k ys zs b h1 h2 h3 h4 => ?_⟩, ⟨fun b o hn h => by rw [upd_ne (show b ≠ a from fun z => hn (by rw [z]; exact .inr hOa))]; exact h, fun b h => .inl (h.imp id (ow b).mp)⟩⟩
  · exact (R.s.cells n c b h1 h2).mono fr List.prefix_rfl (upd_ne (show b ≠ a from fun z => R.s.dis b (List.mem_of_getElem? h2) (.inr (by rw [z]; exact hOa))))
  · by_cases hb : b = a
    · subst hb; rw [upd_same]; simp
    · rw [upd_ne hb]; exact R.s.dom b (sub b h)
  · by_cases hj : j = i
    · subst hj
      rw [List.getElem?_set_self hi] at h
      cases h
    · rw [List.getElem?_set_ne (Ne.symm hj)] at h
      obtain ⟨u', p1, p2⟩ := R.slots j w h
      exact ⟨u', p1, p2.mono fr List.prefix_rfl⟩
  · by_cases hj : j = i
    · subst hj
      rw [List.getElem?_set_self hi] at h
      cases h
      exact ⟨a, us', hs, upd_same, r.mono fr List.prefix_rfl, q4⟩
    · rw [List.getElem?_set_ne (Ne.symm hj)] at h
      obtain ⟨b, vs, p1, p2, p3, p4⟩ := R.owns j ys h
      have hba : b ≠ a := fun z => by
        subst z
        exact hj (R.inj j i ys xs b h ho p1 hs)
      exact ⟨b, vs, p1, by rw [upd_ne hba]; exact p2, p3.mono fr List.prefix_rfl, p4⟩
  · have f : ∀ {j : Nat} {ys : List Val}, (sl.set i (.own xs'))[j]? = some (.own ys) → ∃ zs, sl[j]? = some (.own zs) := fun {j ys} h => by
      by_cases hj : j = i
      · subst hj; exact ⟨xs, ho⟩
      · rw [List.getElem?_set_ne (Ne.symm hj)] at h; exact ⟨ys, h⟩
    obtain ⟨y1, g1⟩ := f h1
    obtain ⟨y2, g2⟩ := f h2
    exact R.inj j k y1 y2 b g1 g2 h3 h4
theorem s_app {i : Nat} (ha : Snd K cls false ta fa) : SndS K cls (tDrop (tBM K "list" rAppend (tVar i) (tCons ta tNil))) (sApp i fa) := ⟨fun ρ Z σ H sl st r R e D q => by
  unfold sApp at e
  split at e
  · rename_i xs ho
    obtain ⟨p, e1, e⟩ := bind_some e
    split at e
    · rename_i hl
      cases e
      obtain ⟨a, us, q1, q2, q3, q4⟩ := R.owns i xs ho
      refine ⟨.ref a, q1, .inl ⟨rfl, us, .of q2⟩, ?_⟩
      refine ha.run ρ Z σ H sl st p.1 p.2 R e1 _ fun u ρ1 H1 R1 x1 r1 => ?_
      obtain ⟨a', us', p1, p2, p3, p4⟩ := R1.owns i xs ho
      rw [q1] at p1
      cases p1
      refine ⟨a, us', u, rfl, rfl, p2, by rw [← p3.length]; exact Nat.lt_of_lt_of_le hl (by decide), ?_⟩
      obtain ⟨R2, f2⟩ := R1.ownPut ho q1 (p3.append (.cons r1.rep .nil))
      exact q σ ρ1 _ R2 x1.pre (x1.wo.trans f2)
    · cases e
  · cases e⟩
theorem s_ext {i : Nat} {fl : L} (hl : SndL K cls ta fl) : SndS K cls (tDrop (tBM K "list" rExtend (tVar i) (tCons ta tNil))) (sExt i fl) := ⟨fun ρ Z σ H sl st r R e D q => by
  unfold sExt at e
  split at e
  · rename_i xs ho
    obtain ⟨p, e1, e⟩ := bind_some e
    split at e
    · rename_i hlen
      cases e
      obtain ⟨a, us, q1, q2, q3, q4⟩ := R.owns i xs ho
      refine ⟨.ref a, q1, .inl ⟨rfl, us, .of q2⟩, ?_⟩
      refine hl.run ρ Z σ H sl st p.1 p.2 R e1 _ fun w vs ρ1 H1 R1 x1 hp rl => ?_
      have R1' := R1.new (o := .lst vs) hp
      have x1' : Ext ρ H ρ1 (upd H1 w (.lst vs)) := x1.trans (.new hp)
      obtain ⟨a', us', p1, p2, p3, p4⟩ := R1'.owns i xs ho
      rw [q1] at p1
      cases p1
      refine ⟨a, w, us', vs, rfl, rfl, p2, upd_same, by rw [← p3.length, ← rl.length]; exact Nat.le_trans hlen (by decide), ?_⟩
      obtain ⟨R2, f2⟩ := R1'.ownPut ho q1 (p3.append (Ext.repL (.new hp) rl))
      exact q σ ρ1 _ R2 x1'.pre (x1'.wo.trans f2)
    · cases e
  · cases e⟩
theorem ref_inv {n : Nat} {u : V} (h : RepM K m ρ Z σ H sl (.ref n) u) : ∃ a, u = .ref a ∧ ρ[n]? = some a := by
  rcases h with h | ⟨_, _, _, _, z, _⟩
  · cases h with
    | ref h => exact ⟨_, rfl, h⟩
  · cases z
theorem Ext.at (x : Ext ρ H ρ' H') {n : Nat} {a : Addr} (h : ρ[n]? = some a) : ρ'[n]? = some a := by
  obtain ⟨t, ht⟩ := x.pre
  rw [← ht, List.getElem?_append_left (List.getElem?_eq_some_iff.mp h).1]
  exact h
theorem s_appK {to : TE} {fo : E} (ho : Snd K cls m to fo) (ha : Snd K cls false ta fa) : SndS K cls (tDrop (tBM K "list" rAppend to (tCons ta tNil))) (sAppK fo fa) := ⟨fun ρ Z σ H sl st r R e D q => by
  obtain ⟨p, e1, e⟩ := bind_some e
  split at e
  · rename_i n hn
    split at e
    · rename_i xs0 hx0
      obtain ⟨p2, e2, e⟩ := bind_some e
      split at e
      · rename_i xs hx
        split at e
        · rename_i hl
          cases e
          refine ho.run ρ Z σ H sl st p.1 p.2 R e1 _ fun u ρ1 H1 R1 x1 r1 => ?_
          rw [hn] at r1
          obtain ⟨a, rfl, hρ⟩ := ref_inv r1
          obtain ⟨us0, w1, w2⟩ := R1.s.cells n _ a hx0 hρ
          refine ⟨.inl ⟨rfl, us0, .of w1⟩, ?_⟩
          refine ha.run ρ1 Z σ H1 sl p.2 p2.1 p2.2 R1 e2 _ fun v ρ2 H2 R2 x2 r2 => ?_
          obtain ⟨us, v1, v2⟩ := R2.s.cells n _ a hx (x2.at hρ)
          refine ⟨a, us, v, rfl, rfl, v1, by rw [← v2.length]; exact Nat.lt_of_lt_of_le hl (by decide), ?_⟩
          have x3 : Ext ρ2 H2 ρ2 (upd H2 a (.lst (us ++ [v]))) := .set (x2.at hρ)
          refine q σ ρ2 _ (R2.set (x2.at hρ) ⟨us ++ [v], upd_same, (x3.repL v2).append (.cons (x3.rep r2.rep) .nil)⟩) ((x1.trans x2).trans x3).pre ((x1.trans x2).trans x3).wo
        · cases e
      · cases e
    · cases e
  · cases e⟩
theorem s_fld {f : Str} {to : TE} {fo : E} (h : At K cls C k f) (ho : Snd K cls m to fo) (ha : Snd K cls false ta fa) (h9 : (nms C).length < 900) : SndS K cls (L2.sFld K to ta f) (sFld C k fo fa) := ⟨fun ρ Z σ H sl st r R e D q => by
  obtain ⟨p, e1, e⟩ := bind_some e
  obtain ⟨p2, e2, e⟩ := bind_some e
  split at e
  · rename_i n hn
    split at e
    · rename_i E0 vs hx
      split at e
      · rename_i hE
        subst hE
        obtain ⟨ws, e3, e⟩ := bind_some e
        cases e
        refine ha.run ρ Z σ H sl st p.1 p.2 R e1 _ fun v ρ1 H1 R1 x1 r1 => ?_
        refine ho.run ρ1 Z σ H1 sl p.2 p2.1 p2.2 R1 e2 _ fun u ρ2 H2 R2 x2 r2 => ?_
        rw [hn] at r2
        obtain ⟨a, rfl, hρ⟩ := ref_inv r2
        obtain ⟨dx, us, w1, w2, w3⟩ := R2.s.cells n _ a hx hρ
        have hzl : ((nms E0).zip us).length < 1000 := by rw [List.length_zip]; omega
        refine ⟨a, cls E0, dx, _, rfl, w1, h.cl, h.no, hzl, ?_⟩
        obtain ⟨z1, z2⟩ := putF_zip (v := v) (us := us) h.nd h.ix
        have hk : k < (nms E0).length := (List.getElem?_eq_some_iff.mp h.ix).1
        have rv := (r1.ext x2).rep
        have x3 : ∀ o, Ext ρ2 H2 ρ2 (upd H2 a o) := fun o => .set hρ
        have hput : ∃ us', putF f v ((nms E0).zip us) = (nms E0).zip us' ∧ us'.length ≤ (nms E0).length ∧ RepL K ρ2 (AR ρ2 (ZO Z sl σ)) H2 ws us' := by
          unfold putA at e3
          split at e3
          · rename_i hlt
            cases e3
            refine ⟨us.set k v, z1 (by rw [← w3.length]; exact hlt), by rw [List.length_set]; exact w2, w3.set rv k⟩
          · split at e3
            · rename_i heq
              cases e3
              refine ⟨us ++ [v], z2 (by rw [← w3.length]; exact heq), by rw [List.length_append, List.length_singleton, ← w3.length, ← heq]; exact hk, w3.append (.cons rv .nil)⟩
            · cases e3
        obtain ⟨us', y1, y2, y3⟩ := hput
        rw [y1]
        exact q σ ρ2 _ (R2.set hρ ⟨dx, us', upd_same, y2, (x3 _).repL y3⟩) (x1.trans x2).pre (Ext.wo ((x1.trans x2).trans (x3 _)))
      · cases e
    · cases e
  · cases e⟩

/-! ### a def -/
theorem start_rel {N : List Str} {k : Nat} {ds : List Val} {vs : List V} (R : RelR K cls ρ Z H st) (r : RepL K ρ (AR ρ Z) H ds vs) (hk : ds.length = k) : Rel K cls ρ Z (L2.start N vs) H (ds.map .val ++ List.replicate (N.length - k) .no) st := by
  have noO : ∀ (i : Nat) (xs : List Val), (ds.map Slot.val ++ List.replicate (N.length - k) Slot.no)[i]? ≠ some (.own xs) := fun i xs h => by
    by_cases hi : i < (ds.map Slot.val).length
    · rw [List.getElem?_append_left hi, List.getElem?_map] at h
      cases hd : ds[i]? with
      | none => rw [hd] at h; cases h
      | some d => rw [hd] at h; cases h
    · rw [List.getElem?_append_right (by omega)] at h
      rw [List.getElem?_replicate] at h
      split at h <;> cases h
  have ow : ∀ a, ZO Z (ds.map Slot.val ++ List.replicate (N.length - k) Slot.no) (L2.start N vs) a → Z a := fun a h => h.elim id fun ⟨i, xs, h1, _⟩ => absurd h1 (noO i xs)
  have sub : ∀ a, AR ρ (ZO Z (ds.map Slot.val ++ List.replicate (N.length - k) Slot.no) (L2.start N vs)) a → AR ρ Z a := fun a h => h.imp id (ow a)
  refine ⟨R.zs ow, ?_, fun i v h => ?_, fun i xs h => absurd h (noO i xs), fun i j xs ys a h => absurd h (noO i xs)⟩
  · unfold L2.start
    rw [List.length_append, List.length_append, List.length_map, List.length_map, List.length_replicate, List.length_replicate, r.length, ← hk, r.length]
  · by_cases hi : i < (ds.map Slot.val).length
    · rw [List.getElem?_append_left hi, List.getElem?_map] at h
      cases hd : ds[i]? with
      | none => rw [hd] at h; cases h
      | some d =>
        rw [hd] at h
        cases h
        obtain ⟨u, h1, h2⟩ := r.get hd
        refine ⟨u, ?_, h2.mono (Fr.less sub) List.prefix_rfl⟩
        unfold L2.start
        have hl : i < vs.length := (List.getElem?_eq_some_iff.mp h1).1
        rw [List.getElem?_append_left (by rw [List.length_map]; exact hl), List.getElem?_map, h1]
        rfl
    · rw [List.getElem?_append_right (by omega)] at h
      rw [List.getElem?_replicate] at h
      split at h <;> cases h
/-- a def whose body's mirror is b keeps its promise -/
theorem def_ok {P : Program} {w : World} {mg : Str → Option Value} {base : Heap} {x qual : Str} {sd : Stmt} {fA : Addr} {fd : FuncData} {N ps : List Str} {lv k n : Nat} {b : S} (F0 : L2.Fun K x qual sd fA fd) (Sc : FnScope N ps (defScope sd)) (hk : ps.length = k) (hn : N.length = n)
    (body : ∀ (cdv : Value) (A : Around) (outer : List Env) (s : Shared) (H : Hp) (E : XK), Room lv (A.deeper (envOfC qual (defScope sd) s.heap.objs.size fA cdv)) → KX (cxOf CX0 P w K mg base N qual (defScope sd) fA cdv A outer s H E).nox K → ∃ t, SSs (cxOf CX0 P w K mg base N qual (defScope sd) fA cdv A outer s H E).nox K cls (defBody sd) t b) :
    FnOk P w K mg base CX0 (lv + 1) fA fd ps (spM K cls (fnOf k n b)) := by
  refine F0.ok Sc (fun vs H Q E h => ?_) (fun cdv A outer s H vs Q E hr h => ?_)
  · obtain ⟨ρ, Z, ds, st, d, st', R, r, e, _⟩ := h
    unfold fnOf at e
    split at e
    · rename_i hl
      rw [← r.length, hl, hk]
    · cases e
  · obtain ⟨ρ, Z, ds, st, d, st', R, r, e, q⟩ := h
    obtain ⟨t, ht, sn⟩ := body cdv A outer s H E hr ⟨rfl⟩
    refine ⟨t, ht, ?_⟩
    unfold fnOf at e
    split at e
    · rename_i hl
      obtain ⟨⟨o, sl1, st1⟩, e1, e2⟩ := bind_some e
      rw [← hn] at e1
      refine sn.run ρ Z (L2.start N vs) H _ st _ (start_rel R r hl) e1 _ ?_
      have noO : ∀ a, ¬ Own (ds.map Slot.val ++ List.replicate (N.length - k) Slot.no) (L2.start N vs) a := fun a ⟨i, xs, h1, _⟩ => by
        by_cases hi : i < (ds.map Slot.val).length
        · rw [List.getElem?_append_left hi, List.getElem?_map] at h1
          cases hd : ds[i]? with
          | none => rw [hd] at h1; cases h1
          | some d => rw [hd] at h1; cases h1
        · rw [List.getElem?_append_right (by omega)] at h1
          rw [List.getElem?_replicate] at h1
          split at h1 <;> cases h1
      have ext : ∀ {ρ' : List Addr} {H' : Hp} {W : Addr → Prop}, ρ <+: ρ' → (∀ a, a ∈ ρ' → W a) → Fr (WO ρ (ds.map Slot.val ++ List.replicate (N.length - k) Slot.no) (L2.start N vs)) H W H' → Ext ρ H ρ' H' := fun {ρ' H' W} hp hw fr =>
        ⟨hp, fun a o hna h => fr.keep a o (fun z => z.elim hna (noO a)) h, fun a h => (fr.new a (hw a h)).imp (fun z => z.elim id fun z => absurd z (noO a)) id⟩
      cases o with
      | nx =>
        cases e2
        exact fun σ' ρ' H' R' p' f' => q .non ρ' H' (R'.s.zs fun a h => .inl h) (ext p' (fun a h => .inl h) f') .non
      | rt v =>
        cases e2
        exact fun u ρ' H' R' p' f' r' => q u ρ' H' R' (ext p' (fun a h => h) f') r'
      | bk => cases e2
      | ct => cases e2
    · cases e
end
end Mi

set_option Elab.async false
set_option linter.all false
set_option maxRecDepth 100000
set_option maxHeartbeats 3200000
/-! Mi, eighth part: sorted(set(..)), len(set(..)) of numbers. -/
namespace Mi
open PySem PySem.Spec PyProof.Rows L2
variable [Gam]

/-- the set as it is made -/
abbrev set0 (w : World) : Obj := { cls := .type "set", dict := none, data := .set #[] 0 (.fresh 0 0 (!w.params.followText "set-order")) }
section
variable {P : Program} {w : World} {A : Around} {E : Value → Shared → Prop} {s : Shared}
theorem set0_at {I l : Addr} {o : Obj} (hl : s.heap.get? l = some o) : ((s.heap.push (set0 w)).get? s.heap.objs.size = some (set0 w)) ∧ (s.heap.push (set0 w)).get? l = some o ∧ l < s.heap.objs.size ∧ (s.heap.push (set0 w)).objs.size = s.heap.objs.size + 1 :=
  ⟨Heap.get?_push_size _ rfl, Heap.get?_push_of_some _ hl, Heap.lt_size hl, Heap.size_push ..⟩
theorem ints_at {items : Array Value} {ns : List Int} (hit : IntsAre items.toList ns) (i : Nat) (v : Value) (hv : items[i]? = some v) : ∃ k t, ns[i]? = some k ∧ v = .int k t := by
  have hlen : items.size = ns.length := by
    have q := IntsAre.length hit
    rw [Array.length_toList] at q
    exact q
  have hi : i < ns.length := by rw [← hlen]; exact (Array.getElem?_eq_some_iff.mp hv).1
  obtain ⟨t, e⟩ := PyProof.Rows.IntsAre.int_at hit i v (by rw [Array.getElem?_toList]; exact hv)
  refine ⟨ns[i], t, List.getElem?_eq_getElem hi, ?_⟩
  rw [e, List.getD_eq_getElem?_getD, List.getElem?_eq_getElem hi] <;> rfl
/-- set(x), x a list of numbers -/
theorem set_ints {l : Addr} {items : Array Value} (ns : List Int) {Q : Value → Shared → Prop} (hh : A.handled = none) (hl : s.heap.IsList l items) (hit : IntsAre items.toList ns) (hb : ns.length + 1 < scanBound)
    (h : ∀ (h' : Heap) (tk c : Nat), SetR w h' s.heap.objs.size (fun j => decide (j ∈ ns)) c → c ≤ ns.length → (∀ b o, s.heap.get? b = some o → h'.get? b = some o) → Q (.ref s.heap.objs.size) { s with heap := h', toks := tk }) :
    wpAny (model P w) A (call (.type "set") [.ref l]) Q E s := by
  have hisz : items.size = ns.length := by
    have q := IntsAre.length hit
    rw [Array.length_toList] at q
    exact q
  obtain ⟨c, tl, hmro⟩ := F.called_set.mro
  have hmade := F.called_set.made
  have hsub := F.called_set.sub
  refine wpAny_call (codeAny_of_tree ?_)
  show wpAny _ _ (callAny (.type "set") _) _ _ _
  refine wpAny_pure ⟨Code.quiet_builtin _ (by decide +kernel), codeAny_builtin F.entry_type_call ?_⟩
  rw [Around.under_plain (weight_type_call_type "set" [.ref l] []) rfl]
  have n1 := F.called_set.notType
  have n2 := F.called_set.canCreate
  have n3 := F.typeCall_set_1 (.ref l)
  repeat (any_goals (first | assumption | wp_step))
  obtain ⟨⟨oc, od, odt, osl⟩, ho, hc, nl, hd⟩ := hl
  simp only at hc hd
  subst hc hd
  obtain ⟨k1, k2, k3, k4⟩ := set0_at (w := w) (I := 0) ho
  refine codeAny_mono (code_set_led1 (.ref l) (E := E) (Q₁ := fun obj s₁ => obj = .ref s.heap.objs.size ∧ s₁ = { s with heap := s.heap.push (set0 w) }) ⟨rfl, rfl⟩) fun r s₁ hr => ?_
  cases r with
  | error e => exact hr
  | ok fl =>
    cases fl with
    | next => exact hr.elim
    | brk => exact hr.elim
    | cont => exact hr.elim
    | ret obj =>
      obtain ⟨rfl, rfl⟩ := hr
      have hT : Shared.TypeIs { s with heap := s.heap.push (set0 w) } (.ref s.heap.objs.size) "set" := ⟨_, k1, rfl⟩
      have i1 := F.called_set.init.lookup
      have i2 := F.called_set.init.bind (.ref s.heap.objs.size)
      repeat (any_goals (first | assumption | wp_step))
      refine codeAny_mono (codeAny_call_builtin (R := wants (fun r s₂ => r = .none ∧ ∃ h' tk c, s₂ = { s with heap := h', toks := tk } ∧ SetR w h' s.heap.objs.size (fun j => decide (j ∈ ns)) c ∧ c ≤ ns.length ∧ (∀ b o, s.heap.get? b = some o → h'.get? b = some o)) E) F.called_set.init.plain F.entry_set_init (check_set_init_1 hT ?_)) fun r₂ s₂ hr₂ => ?_
      · have f1 := F.sub_list_set
        have f2 := F.sub_list_frozenset
        have f3 : (Value.type "list" == Value.type "dict") = false := by decide
        have hl1 : (s.heap.push (set0 w)).IsList l items := ⟨_, k2, rfl, nl, rfl⟩
        unfold Builtin.«set.__init__» noKeywords Builtin.Frozenset.updateFrom
        generalize hPI : pyIter = PI
        wp_walk
        subst hPI
        refine wpAny_pyIter_list hl1 (wpAny_bind (wpAny_runValue ?_))
        have hne : l ≠ (s.heap.push (set0 w)).objs.size := by rw [k4]; exact Nat.ne_of_lt (Nat.lt_succ_of_lt k3)
        have hnf : s.heap.objs.size ∉ [(s.heap.push (set0 w)).objs.size, l] := by
          rw [k4]
          simp only [List.mem_cons, List.not_mem_nil, or_false, not_or]
          exact ⟨Nat.ne_of_lt (Nat.lt_succ_self _), Nat.ne_of_gt k3⟩
        refine set_update_ints ((Walks.list (show A.in1.in1.in1.handled = none by simp [hh]) _ l hne items).toS) s.heap.objs.size hnf ns hisz hb (ints_at hit) (items.size - 0) 0 _ (by omega) (Nat.zero_le _)
          ⟨⟨_, Heap.get?_push_size _ rfl, rfl, rfl⟩, hl1.push _⟩ ⟨0, Nat.le_refl 0, setR_new_at (Heap.get?_push_of_some _ k1)⟩ fun s' c' hm hc' hS' => ?_
        obtain ⟨h', g2, d', tk', os'⟩ := s'
        have eg : g2 = s.gens := hm.gens
        have ed : d' = s.drawn := hm.drawn
        have eo : os' = s.os := hm.os
        subst eg ed eo
        rw [hisz] at hc'
        refine wpAny_pure (wpAny_pure ⟨rfl, h', tk', c', rfl, hS', hc', fun b o e => ?_⟩)
        have hb0 : b < s.heap.objs.size := Heap.lt_size e
        refine hm.heap b o ?_ (Heap.get?_push_of_some _ (Heap.get?_push_of_some _ e))
        rw [k4]
        simp only [List.mem_cons, List.not_mem_nil, or_false, not_or]
        exact ⟨Nat.ne_of_lt hb0, Nat.ne_of_lt (Nat.lt_succ_of_lt hb0)⟩
      · cases r₂ with
        | error e => exact hr₂
        | ok fl₂ =>
          cases fl₂ with
          | ret r =>
            obtain ⟨rfl, h', tk, c', rfl, hS', hc', hk'⟩ := hr₂
            repeat (any_goals (first | assumption | wp_step))
            exact h _ _ _ hS' hc' hk'
          | _ => exact hr₂.elim
end

/-! ### each once, rising -/
theorem insU_mem (i k : Int) : ∀ l : List Int, k ∈ insU i l ↔ k = i ∨ k ∈ l
  | [] => by simp [insU]
  | j :: r => by
    unfold insU
    split
    · simp
    · split
      · rename_i h
        subst h
        simp
      · rw [List.mem_cons, insU_mem i k r, List.mem_cons]
        constructor
        · rintro (h | h | h)
          · exact .inr (.inl h)
          · exact .inl h
          · exact .inr (.inr h)
        · rintro (h | h | h)
          · exact .inr (.inl h)
          · exact .inl h
          · exact .inr (.inr h)
theorem sortU_mem (k : Int) : ∀ l : List Int, k ∈ sortU l ↔ k ∈ l
  | [] => by simp [sortU]
  | i :: r => by
    unfold sortU
    rw [insU_mem, sortU_mem k r, List.mem_cons]
theorem insU_sorted (i : Int) : ∀ {l : List Int}, l.Pairwise (· < ·) → (insU i l).Pairwise (· < ·)
  | [], _ => by simp [insU]
  | j :: r, h => by
    have h' := List.pairwise_cons.mp h
    unfold insU
    split
    · rename_i hij
      refine List.pairwise_cons.mpr ⟨fun k hk => ?_, h⟩
      rcases List.mem_cons.mp hk with z | z
      · omega
      · have := h'.1 k z; omega
    · split
      · exact h
      · rename_i h1 h2
        refine List.pairwise_cons.mpr ⟨fun k hk => ?_, insU_sorted i h'.2⟩
        rcases (insU_mem i k r).mp hk with z | z
        · omega
        · exact h'.1 k z
theorem sortU_sorted : ∀ l : List Int, (sortU l).Pairwise (· < ·)
  | [] => List.Pairwise.nil
  | i :: r => insU_sorted i (sortU_sorted r)
theorem nodup_of_lt {l : List Int} (h : l.Pairwise (· < ·)) : l.Nodup := h.imp fun h => by omega
theorem lt_unique {l l' : List Int} (h : l.Pairwise (· < ·)) (h' : l'.Pairwise (· < ·)) (m : ∀ k, k ∈ l ↔ k ∈ l') : l = l' :=
  ((List.perm_ext_iff_of_nodup (nodup_of_lt h) (nodup_of_lt h')).mpr m).eq_of_pairwise (fun a b _ _ h1 h2 => absurd h1 (by omega)) h h'

section
variable {K : PySem.W.Frag} {cls : Nat → Addr} {ta : TE} {fa : E} {m m' : Bool} {w : World}
/-- set(x) -/
def rSetL (w : World) (K : PySem.W.Frag) : List V → Hp → VK → Prop := fun xs H Q => ∃ (l : Addr) (ns : List Int), xs = [.ref l] ∧ SqL K H l (ns.map V.int) ∧ ns.length < 64 ∧ ∀ p, H p = none → Q (.ref p) (upd H p (SetO w p (fun j => decide (j ∈ ns)) (sortU ns).length))
theorem cr_setL {X : Cx} (hc : X.calm = true) : CallR X (.type "set") (rSetL X.w X.K) := by
  intro pins s σ H xs us Q I r h
  obtain ⟨l, ns, rfl, hq, hl, q⟩ := h
  rw [Vals.ref1 r]
  obtain ⟨its, rv, pl, hz⟩ := I.list hq
  refine set_ints ns (I.ok.hd hc) pl.isList ?_ (by unfold scanBound; omega) fun h' tk c hS hcl hk => ?_
  · have iv : ∀ {ns : List Int} {us : List Value}, Vals (ns.map V.int) us → IntsAre us ns := fun {ns} => by
      induction ns with
      | nil => intro us r; cases r; exact .nil
      | cons n ns ih =>
        intro us r
        cases r with
        | cons r t =>
          obtain ⟨k, rfl⟩ := r
          exact .cons n k (ih t)
    simpa using iv rv
  · have hn : H s.heap.objs.size = none := I.hok.fresh (Nat.le_refl _)
    have e : c = (sortU ns).length := by
      obtain ⟨o, es, ep, t, _, _, _, _, nd, hm, _, _, hn, _, _⟩ := id hS
      have p : (es.toList.map keyOf).Perm (sortU ns) := (List.perm_ext_iff_of_nodup nd (nodup_of_lt (sortU_sorted ns))).mpr fun k => by
        rw [← hm k, sortU_mem, decide_eq_true_iff]
      have := p.length_eq
      rw [List.length_map, Array.length_toList, hn] at this
      exact this
    subst e
    have I2 : Inv X pins σ (upd H s.heap.objs.size (SetO X.w s.heap.objs.size (fun j => decide (j ∈ ns)) (sortU ns).length)) { s with heap := h', toks := tk } :=
      I.call (g' := s.gens) (d' := s.drawn) (ch := []) (Un.laid hk (Nat.le_refl _) hn) (I.hok.laid hk (Nat.le_refl _) (setO_new hS)) I.bare (fun _ z => nomatch z)
    exact ⟨.ref s.heap.objs.size, _, I2, rfl, q _ hn⟩
def rLenSet (w : World) : List V → Hp → VK → Prop := fun xs H Q => ∃ (a : Addr) (S : Int → Bool) (n : Nat), xs = [.ref a] ∧ H a = some (SetO w a S n) ∧ n < 64 ∧ Q (.int (n : Nat)) H
theorem cr_lenSet {X : Cx} : CallR X (.builtin "len") (rLenSet X.w) := by
  intro pins s σ H xs us Q I r h
  obtain ⟨a, S, n, rfl, ha, h64, q⟩ := h
  rw [Vals.ref1 r]
  obtain ⟨o, es, ep, t, ho, hex, hd, _, _, _, _, hf, hn, _, _⟩ := setO_get I ha
  exact call_len_set ho hex hd hf (by rw [hn] <;> omega) ⟨.int n, H, I.tok _, ⟨_, by rw [hn]⟩, q⟩
def tSortU (w : World) (K : PySem.W.Frag) (ta : TE) : TE := tCB (rSortedSet w) (tCons (tCB (rSetL w K) (tCons ta tNil)) tNil)
def tLenU (w : World) (K : PySem.W.Frag) (ta : TE) : TE := tCB (rLenSet w) (tCons (tCB (rSetL w K) (tCons ta tNil)) tNil)
theorem sortU_le : ∀ l : List Int, (sortU l).length ≤ l.length
  | [] => Nat.le_refl _
  | i :: r => by
    have h1 : ∀ l : List Int, (insU i l).length ≤ l.length + 1 := fun l => by
      induction l with
      | nil => simp [insU]
      | cons j r ih =>
        unfold insU
        split
        · simp
        · split
          · simp
          · simp only [List.length_cons]; omega
    have h2 := sortU_le r
    have h3 := h1 (sortU r)
    show (insU i (sortU r)).length ≤ (i :: r).length
    rw [List.length_cons]
    omega
theorem snd_sortU (ha : Snd K cls m ta fa) : SndL K cls (tSortU w K ta) (l1 oSortU fa) := ⟨fun ρ Z σ H sl st ds st' R e Q q => by
  obtain ⟨p, e1, e⟩ := bind_some e
  obtain ⟨zs, e2, e⟩ := bind_some e
  cases e
  obtain ⟨xs, e3, e4⟩ := bind_some e2
  obtain ⟨ns, e5, e6⟩ := bind_some e4
  split at e6
  · rename_i hl
    cases e6
    refine ha.run ρ Z σ H sl st p.1 p.2 R e1 _ fun u ρ1 H1 R1 x1 r1 => ?_
    obtain ⟨a, us, rfl, r2, r3⟩ := viewQ_of R1 r1 e3
    obtain ⟨rfl, rfl⟩ := allInt_rep r3 e5
    refine ⟨a, ns, rfl, r2, hl, fun b hb => ?_⟩
    refine ⟨b, _, _, rfl, upd_same, Nat.lt_of_le_of_lt (sortU_le ns) hl, fun ns' p' hs hm _ hp => ?_⟩
    have e7 : ns' = sortU ns := lt_unique hs (sortU_sorted ns) fun k => by rw [hm k, sortU_mem, decide_eq_true_iff]
    subst e7
    exact q p' _ ρ1 _ (R1.new hb) (x1.trans (.new hb)) hp (RepL.ints _)
  · cases e6⟩
theorem snd_lenU (ha : Snd K cls m ta fa) : Snd K cls m' (tLenU w K ta) (e1 oLenU fa) := ⟨fun ρ Z σ H sl st ds st' R e Q q => by
  obtain ⟨p, e1, e⟩ := bind_some e
  obtain ⟨zs, e2, e⟩ := bind_some e
  cases e
  obtain ⟨xs, e3, e4⟩ := bind_some e2
  obtain ⟨ns, e5, e6⟩ := bind_some e4
  split at e6
  · rename_i hl
    cases e6
    refine ha.run ρ Z σ H sl st p.1 p.2 R e1 _ fun u ρ1 H1 R1 x1 r1 => ?_
    obtain ⟨a, us, rfl, r2, r3⟩ := viewQ_of R1 r1 e3
    obtain ⟨rfl, rfl⟩ := allInt_rep r3 e5
    refine ⟨a, ns, rfl, r2, hl, fun b hb => ?_⟩
    exact ⟨b, _, _, rfl, upd_same, Nat.lt_of_le_of_lt (sortU_le ns) hl, q _ ρ1 _ (R1.new hb) (x1.trans (.new hb)) (.of (.int _))⟩
  · cases e6⟩
end
end Mi

set_option Elab.async false
set_option linter.all false
set_option maxRecDepth 100000
set_option maxHeartbeats 1000000
/-! Mi, ninth part: the words that a derivation is written in: text, reading and mirror at once. -/
namespace Mi
open PySem PySem.Spec PyProof.Rows L2
variable [Gam]

section
variable {X : Cx} {K : PySem.W.Frag} [hK : KX X K] {cls : Nat → Addr} {m m' : Bool} {a b c e : Expr} {ta tb tc te : TE} {fa fb fc fe : E} {pos p p' apos cpos : Pos}
/-! names, constants -/
theorem se_int {i j} : SE X K cls m (.Constant (.int i) j pos) (tC (.int i)) (eC (.int i)) := by obtain ⟨rfl⟩ := hK; exact ⟨pe_int, snd_c fun _ _ _ => .int i⟩
theorem se_bl {i j} : SE X K cls m (.Constant (.bool i) j pos) (tC (.bl i)) (eC (.bl i)) := by obtain ⟨rfl⟩ := hK; exact ⟨pe_bl, snd_c fun _ _ _ => .bl i⟩
theorem se_non {j} : SE X K cls m (.Constant .none j pos) (tC .non) (eC .non) := by obtain ⟨rfl⟩ := hK; exact ⟨pe_non, snd_c fun _ _ _ => .non⟩
theorem se_str {x j} : SE X K cls m (.Constant (.str x) j pos) (tC (.str x)) (eC (.str x)) := by obtain ⟨rfl⟩ := hK; exact ⟨pe_str, snd_c fun _ _ _ => .str x⟩
theorem se_v (i : Nat) {x : Str} (hN : X.N[i]? = some x := by rfl) (hv : Vis X.env.scope x := by first | exact Or.inl rfl | exact Or.inr (Or.inl rfl) | exact Or.inr (Or.inr rfl)) (hd : (x == ("__debug__" : Str)) = false := by decide)
    (hcd : (x == ("__classdict__" : Str)) = false := by decide) : SE X K cls m (.Name x pos) (tVar i) (eVar i) := by obtain ⟨rfl⟩ := hK; exact ⟨pe_var hN hv hd hcd, snd_var⟩
theorem se_o (i : Nat) {x : Str} (hN : X.N[i]? = some x := by rfl) (hv : Vis X.env.scope x := by first | exact Or.inl rfl | exact Or.inr (Or.inl rfl) | exact Or.inr (Or.inr rfl)) (hd : (x == ("__debug__" : Str)) = false := by decide)
    (hcd : (x == ("__classdict__" : Str)) = false := by decide) : SE X K cls true (.Name x pos) (tVar i) (eVarO i) := by obtain ⟨rfl⟩ := hK; exact ⟨pe_var hN hv hd hcd, snd_varO⟩
/-- a number of the module -/
theorem se_gi {x : Str} {i : Int} (hm : ∃ t, X.mg x = some (.int i t)) (hg : Gl X x := by rfl) (hd : (x == ("__debug__" : Str)) = false := by decide) : SE X K cls m (.Name x pos) (tC (.int i)) (eC (.int i)) :=
  by obtain ⟨rfl⟩ := hK; exact ⟨hm.elim fun t ht => pe_glob hg ht ⟨t, rfl⟩ hd, snd_c fun _ _ _ => .int i⟩
/-! operators -/
theorem se_add (ha : SE X K cls true a ta fa) (hb : SE X K cls true b tb fb) : SE X K cls m (.BinOp a .Add b pos) (tOp (rAddX K) ta tb) (e2 oAdd fa fb) := by obtain ⟨rfl⟩ := hK; exact ⟨pe_op op_addX ha.1 hb.1, snd_e2 ops_add ha.2 hb.2⟩
theorem se_sub (ha : SE X K cls true a ta fa) (hb : SE X K cls true b tb fb) : SE X K cls m (.BinOp a .Sub b pos) (tOp (rI0 fun i j => .int (i - j)) ta tb) (e2 oSub fa fb) := by obtain ⟨rfl⟩ := hK; exact ⟨pe_op op_sub ha.1 hb.1, snd_e2 ops_I ha.2 hb.2⟩
theorem se_mul (ha : SE X K cls true a ta fa) (hb : SE X K cls true b tb fb) : SE X K cls m (.BinOp a .Mult b pos) (tOp (rMulX K) ta tb) (e2 oMul fa fb) := by obtain ⟨rfl⟩ := hK; exact ⟨pe_op op_mulX ha.1 hb.1, snd_e2 ops_mul ha.2 hb.2⟩
theorem se_mod (ha : SE X K cls true a ta fa) (hb : SE X K cls true b tb fb) : SE X K cls m (.BinOp a .Mod b pos) (tOp (rI (fun _ j => 0 < j) fun i j => .int (i % j)) ta tb) (e2 oMod fa fb) := by obtain ⟨rfl⟩ := hK; exact ⟨pe_op op_mod ha.1 hb.1, snd_e2 ops_mod ha.2 hb.2⟩
theorem se_div (ha : SE X K cls true a ta fa) (hb : SE X K cls true b tb fb) : SE X K cls m (.BinOp a .FloorDiv b pos) (tOp (rI CDiv fun i j => .int (i / j)) ta tb) (e2 oDiv fa fb) := by obtain ⟨rfl⟩ := hK; exact ⟨pe_op op_fdiv ha.1 hb.1, snd_e2 ops_div ha.2 hb.2⟩
theorem se_pow (ha : SE X K cls true a ta fa) (hb : SE X K cls true b tb fb) : SE X K cls m (.BinOp a .Pow b pos) (tOp (rI CPow fun i j => .int (i ^ j.toNat)) ta tb) (e2 oPow fa fb) := by obtain ⟨rfl⟩ := hK; exact ⟨pe_op op_pow ha.1 hb.1, snd_e2 ops_pow ha.2 hb.2⟩
theorem se_shl (ha : SE X K cls true a ta fa) (hb : SE X K cls true b tb fb) : SE X K cls m (.BinOp a .LShift b pos) (tOp (rI CPow fun i j => .int (i * 2 ^ j.toNat)) ta tb) (e2 oShl fa fb) := by obtain ⟨rfl⟩ := hK; exact ⟨pe_op op_shl ha.1 hb.1, snd_e2 ops_shl ha.2 hb.2⟩
theorem se_shr (ha : SE X K cls true a ta fa) (hb : SE X K cls true b tb fb) : SE X K cls m (.BinOp a .RShift b pos) (tOp (rI (fun _ j => 0 ≤ j) fun i j => .int (i / 2 ^ j.toNat)) ta tb) (e2 oShr fa fb) := by obtain ⟨rfl⟩ := hK; exact ⟨pe_op op_shr ha.1 hb.1, snd_e2 ops_shr ha.2 hb.2⟩
theorem se_band (ha : SE X K cls true a ta fa) (hb : SE X K cls true b tb fb) : SE X K cls m (.BinOp a .BitAnd b pos) (tOp (rI0 fun i j => .int (Builtin.bitAnd i j)) ta tb) (e2 oAnd fa fb) := by obtain ⟨rfl⟩ := hK; exact ⟨pe_op op_and ha.1 hb.1, snd_e2 ops_I ha.2 hb.2⟩
theorem se_neg (ha : SE X K cls true a ta fa) : SE X K cls m (.UnaryOp .USub a pos) (tUn (rU fun i => .int (-i)) ta) (e1 oNeg fa) := by obtain ⟨rfl⟩ := hK; exact ⟨pe_un un_neg ha.1, snd_e1 ops_neg ha.2⟩
/-! comparisons -/
theorem se_cmp {op : CmpOp} {r : R2} {o : Sto → Val → Val → Option Val} (ho : OpR X (compareOp op) r) (hs : OpS K cls o r) (ha : SE X K cls true a ta fa) (hb : SE X K cls true b tb fb) (hm : behindInMarks op b = false) :
    SE X K cls m (.Compare a [op] [b] pos) (tOp r ta tb) (e2 o fa fb) := by obtain ⟨rfl⟩ := hK; exact ⟨pe_cmpR ho ha.1 hb.1 hm, snd_e2 hs ha.2 hb.2⟩
theorem st_cmp {op : CmpOp} {r : R2} {o : Sto → Val → Val → Option Val} (ho : OpR X (compareOp op) r) (hs : OpS K cls o r) (ha : SE X K cls true a ta fa) (hb : SE X K cls true b tb fb) (hm : behindInMarks op b = false) :
    ST X K cls (.Compare a [op] [b] pos) (tTest (tOp r ta tb)) (tE (e2 o fa fb)) := by obtain ⟨rfl⟩ := hK; exact ⟨pt_cmpR ho ha.1 hb.1 hm, snd_tE (m := true) (snd_e2 hs ha.2 hb.2)⟩
/-- the operators' rules in pairs -/
abbrev Cm (X : Cx) (K : PySem.W.Frag) (cls : Nat → Addr) (op : CmpOp) (r : R2) (o : Sto → Val → Val → Option Val) : Prop := OpR X (compareOp op) r ∧ OpS K cls o r
theorem c_lt : Cm X K cls .Lt (rI0 fun i j => .bl (decide (i < j))) oLt := by obtain ⟨rfl⟩ := hK; exact ⟨op_lt, ops_Bq (ltB_eq)⟩
theorem c_le : Cm X K cls .LtE (rI0 fun i j => .bl (decide (i ≤ j))) oLe := by obtain ⟨rfl⟩ := hK; exact ⟨op_le, ops_Bq (leB_eq)⟩
theorem c_gt : Cm X K cls .Gt (rI0 fun i j => .bl (decide (j < i))) oGt := by obtain ⟨rfl⟩ := hK; exact ⟨op_gt, ops_Bq (fun i j => ltB_eq j i)⟩
theorem c_ge : Cm X K cls .GtE (rI0 fun i j => .bl (decide (j ≤ i))) oGe := by obtain ⟨rfl⟩ := hK; exact ⟨op_ge, ops_Bq (fun i j => leB_eq j i)⟩
theorem c_eq (hu : X.A.units + 64 < cLine) : Cm X K cls .Eq (rEqD K) oEq := by obtain ⟨rfl⟩ := hK; exact ⟨op_eqD hu, ops_eq⟩
theorem c_ne (hu : X.A.units + 64 < cLine) : Cm X K cls .NotEq (rNeD K) oNe := by obtain ⟨rfl⟩ := hK; exact ⟨op_neD hu, ops_ne⟩
theorem c_in (hu : X.A.units + 65 < cLine) : Cm X K cls .In (fun x y H Q => rIn K false x y H Q ∨ rInD K x y H Q) oIn := by obtain ⟨rfl⟩ := hK; exact ⟨op_in_seq.or (op_inD hu), ops_in⟩
theorem c_nin (hu : X.A.units + 65 < cLine) : Cm X K cls .NotIn (fun x y H Q => rIn K true x y H Q ∨ rNotInD K x y H Q) oNin := by obtain ⟨rfl⟩ := hK; exact ⟨op_notIn_seq.or (op_notInD hu), ops_nin⟩
theorem c_is : Cm X K cls .Is rIsB oIs := by obtain ⟨rfl⟩ := hK; exact ⟨op_isBl, ops_is⟩
theorem c_isn : Cm X K cls .IsNot rNotB oIsn := by obtain ⟨rfl⟩ := hK; exact ⟨op_notBl, ops_isn⟩
theorem se_c {op : CmpOp} {r : R2} {o : Sto → Val → Val → Option Val} (h : Cm X K cls op r o) (ha : SE X K cls true a ta fa) (hb : SE X K cls true b tb fb) (hm : behindInMarks op b = false := by first | exact nomark _ | rfl) :
    SE X K cls m (.Compare a [op] [b] pos) (tOp r ta tb) (e2 o fa fb) := se_cmp h.1 h.2 ha hb hm
theorem st_c {op : CmpOp} {r : R2} {o : Sto → Val → Val → Option Val} (h : Cm X K cls op r o) (ha : SE X K cls true a ta fa) (hb : SE X K cls true b tb fb) (hm : behindInMarks op b = false := by first | exact nomark _ | rfl) :
    ST X K cls (.Compare a [op] [b] pos) (tTest (tOp r ta tb)) (tE (e2 o fa fb)) := st_cmp h.1 h.2 ha hb hm
theorem se_ch {op op' : CmpOp} {r r' : R2} {o o' : Sto → Val → Val → Option Val} (h : Cm X K cls op r o) (h' : Cm X K cls op' r' o') (ha : SE X K cls true a ta fa) (hb : SE X K cls true b tb fb) (hc : SE X K cls true c tc fc)
    (hm : lastMarks [op, op'] [b, c] = false := by with_unfolding_all rfl) : SE X K cls m (.Compare a [op, op'] [b, c] pos) (tChain r r' ta tb tc) (eCh o o' fa fb fc) := by obtain ⟨rfl⟩ := hK; exact ⟨pe_chain h.1 h'.1 ha.1 hb.1 hc.1 hm, snd_ch h.2 h'.2 ha.2 hb.2 hc.2⟩
theorem st_ch {op op' : CmpOp} {r r' : R2} {o o' : Sto → Val → Val → Option Val} (h : Cm X K cls op r o) (h' : Cm X K cls op' r' o') (ha : SE X K cls true a ta fa) (hb : SE X K cls true b tb fb) (hc : SE X K cls true c tc fc)
    (hm : lastMarks [op, op'] [b, c] = false := by with_unfolding_all rfl) : ST X K cls (.Compare a [op, op'] [b, c] pos) (tTest (tChain r r' ta tb tc)) (tE (eCh o o' fa fb fc)) := by obtain ⟨rfl⟩ := hK; exact ⟨pt_chain h.1 h'.1 ha.1 hb.1 hc.1 hm, snd_tE (m := true) (snd_ch h.2 h'.2 ha.2 hb.2 hc.2)⟩
/-! truths -/
theorem st_e (h : SE X K cls m e te fe) (he : ∀ whole, isTrue e X.env whole = (do let v ← whole; standAt e.pos; holding [v] (truthy v)) := by intro _; rfl) : ST X K cls e (tTest te) (tE fe) := by obtain ⟨rfl⟩ := hK; exact ⟨pt_val h.1 he, snd_tE h.2⟩
section
variable {tA tB' : TT} {fA fB : T} {rest : List Expr}
theorem st_not (h : ST X K cls a tA fA) : ST X K cls (.UnaryOp .Not a pos) (L2.tNot tA) (tNot fA) := by obtain ⟨rfl⟩ := hK; exact ⟨pt_not h.1, snd_tNot h.2⟩
theorem sw_and1 (h : ST X K cls a tA fA) : SW X K cls (.BoolOp .And [a] pos) tA fA := by obtain ⟨rfl⟩ := hK; exact ⟨pw_and1 h.1, h.2⟩
theorem sw_or1 (h : ST X K cls a tA fA) : SW X K cls (.BoolOp .Or [a] pos) tA fA := by obtain ⟨rfl⟩ := hK; exact ⟨pw_or1 h.1, h.2⟩
theorem sw_and (h : ST X K cls a tA fA) (h2 : SW X K cls (.BoolOp .And (b :: rest) pos) tB' fB) : SW X K cls (.BoolOp .And (a :: b :: rest) pos) (L2.tAnd tA tB') (tAnd fA fB) := by obtain ⟨rfl⟩ := hK; exact ⟨pw_and h.1 h2.1, snd_tAnd h.2 h2.2⟩
theorem sw_or (h : ST X K cls a tA fA) (h2 : SW X K cls (.BoolOp .Or (b :: rest) pos) tB' fB) : SW X K cls (.BoolOp .Or (a :: b :: rest) pos) (L2.tOr tA tB') (tOr fA fB) := by obtain ⟨rfl⟩ := hK; exact ⟨pw_or h.1 h2.1, snd_tOr h.2 h2.2⟩
theorem st_w (h : SW X K cls e tA fA) : ST X K cls e tA fA := by obtain ⟨rfl⟩ := hK; exact ⟨h.1.pt, h.2⟩
theorem se_if (h : ST X K cls c tA fA) (ha : SE X K cls m a ta fa) (hb : SE X K cls m b tb fb) : SE X K cls m (.IfExp c a b pos) (tIf tA ta tb) (eIf fA fa fb) := by obtain ⟨rfl⟩ := hK; exact ⟨pe_ifExp h.1 ha.1 hb.1, snd_if h.2 ha.2 hb.2⟩
end
section
variable {rest : List Expr}
theorem se_b1 {op} (h : SE X K cls m a ta fa) : SE X K cls m (.BoolOp op [a] pos) ta fa := by obtain ⟨rfl⟩ := hK; exact ⟨pe_one h.1, h.2⟩
theorem se_and (h : SE X K cls true a ta fa) (h2 : SE X K cls m (.BoolOp .And (b :: rest) pos) tb fb) : SE X K cls m (.BoolOp .And (a :: b :: rest) pos) (tAndV ta tb) (eAnd fa fb) := by obtain ⟨rfl⟩ := hK; exact ⟨pe_and h.1 h2.1, snd_and h.2 h2.2⟩
theorem se_or (h : SE X K cls true a ta fa) (h2 : SE X K cls m (.BoolOp .Or (b :: rest) pos) tb fb) : SE X K cls m (.BoolOp .Or (a :: b :: rest) pos) (tOrV ta tb) (eOr fa fb) := by obtain ⟨rfl⟩ := hK; exact ⟨pe_or h.1 h2.1, snd_or h.2 h2.2⟩
theorem se_not (h : SE X K cls true a ta fa) : SE X K cls m (.UnaryOp .Not a pos) (tNotV ta) (eNot fa) := by obtain ⟨rfl⟩ := hK; exact ⟨pe_not h.1, snd_not h.2⟩
end
/-! places, slices -/
theorem se_ix (ha : SE X K cls true a ta fa) (hb : SE X K cls true b tb fb) (hs : PlainIx b := by exact fun _ _ => rfl) : SE X K cls m (.Subscript a b pos) (tOp (fun x y H Q => rIxL K x y H Q ∨ rIxT K x y H Q) ta tb) (e2 oIx fa fb) :=
  by obtain ⟨rfl⟩ := hK; exact ⟨pe_ix (ix_list.or ix_tup) ha.1 hb.1 hs, snd_e2 ops_ix ha.2 hb.2⟩
section
variable {lo hi : Option Expr} {tl th : TO} {fl fh : P} {p2 : Pos}
theorem so_n : SO X K cls none tNoPart pN := by obtain ⟨rfl⟩ := hK; exact ⟨po_none, snd_pn⟩
theorem so_s (h : SE X K cls true e te fe) : SO X K cls (some e) (tPart te) (pS fe) := by obtain ⟨rfl⟩ := hK; exact ⟨po_some h.1, snd_ps h.2⟩
theorem se_sl (ha : SE X K cls true a ta fa) (hl : SO X K cls lo tl fl) (hh : SO X K cls hi th fh) : SE X K cls m (.Subscript a (.Slice lo hi none p2) pos) (tSl (rSlX K) ta tl th) (eSl fa fl fh) := by obtain ⟨rfl⟩ := hK; exact ⟨pe_slice sl_X ha.1 hl.1 hh.1, snd_slx ha.2 hl.2 hh.2⟩
theorem sl_sl (ha : SE X K cls true a ta fa) (hl : SO X K cls lo tl fl) (hh : SO X K cls hi th fh) : SL X K cls (.Subscript a (.Slice lo hi none p2) pos) (tSl (rSlL K) ta tl th) (lSl fa fl fh) := by obtain ⟨rfl⟩ := hK; exact ⟨pe_slice sl_list ha.1 hl.1 hh.1, snd_sl ha.2 hl.2 hh.2⟩
end
theorem sl_rev {k : Nat} {p1 p2 p3 : Pos} (ha : SE X K cls true a ta fa) : SL X K cls (.Subscript a (.Slice none none (some (.UnaryOp .USub (.Constant (.int 1) k p1) p2)) p3) pos) (tRevL K ta) (l1 oRev fa) := by obtain ⟨rfl⟩ := hK; exact ⟨pe_revL ha.1, snd_rev ha.2⟩
/-! displays, new lists -/
section
variable {es : List Expr} {t : TA} {f : L} {fl : L}
theorem sa_n : SA X K cls m [] tNil aNil := by obtain ⟨rfl⟩ := hK; exact ⟨pa_nil, snd_nil⟩
theorem sa_c (h : SE X K cls m e te fe) (hr : SA X K cls m es t f) (hs : starEach (e :: es) X.env = (false, eval e X.env) :: starEach es X.env := by rfl) : SA X K cls m (e :: es) (tCons te t) (aCons fe f) := by obtain ⟨rfl⟩ := hK; exact ⟨pa_cons h.1 hr.1 hs, snd_cons h.2 hr.2⟩
theorem se_tup {k} (h : SA X K cls false es t f) : SE X K cls m (.Tuple es k pos) (tTup t) (eTup f) := by obtain ⟨rfl⟩ := hK; exact ⟨pe_tup h.1, snd_tup h.2⟩
theorem sl_disp (h : SA X K cls false es t f) : SL X K cls (.List es pos) (tLst t) (lDisp f) := by obtain ⟨rfl⟩ := hK; exact ⟨pe_lst h.1, snd_disp h.2⟩
/-- a new list as a value; as a place of the store -/
theorem se_d (h : SL X K cls e te fl) : SE X K cls m e te (eD fl) := by obtain ⟨rfl⟩ := hK; exact ⟨h.1, snd_d h.2⟩
theorem se_k (h : SL X K cls e te fl) : SE X K cls m e te (eK fl) := by obtain ⟨rfl⟩ := hK; exact ⟨h.1, snd_k h.2⟩
theorem sl_cat (ha : SE X K cls true a ta fa) (hb : SE X K cls true b tb fb) : SL X K cls (.BinOp a .Add b pos) (tOp (rCatS K) ta tb) (l2 oCat fa fb) := by obtain ⟨rfl⟩ := hK; exact ⟨pe_op op_catS ha.1 hb.1, snd_l2 opl_cat ha.2 hb.2⟩
theorem sl_rep (ha : SE X K cls true a ta fa) (hb : SE X K cls true b tb fb) : SL X K cls (.BinOp a .Mult b pos) (tOp (rRepS K) ta tb) (l2 oRep fa fb) := by obtain ⟨rfl⟩ := hK; exact ⟨pe_op op_repS ha.1 hb.1, snd_l2 opl_rep ha.2 hb.2⟩
end
/-! built-ins -/
/-- what is known of the names that are built in -/
structure Bt (mg : Str → Option Value) : Prop where
  len : mg "len" = none
  list : mg "list" = none
  sorted : mg "sorted" = none
  set : mg "set" = none
  any : mg "any" = none
  all : mg "all" = none
  range : mg "range" = none
  enumerate : mg "enumerate" = none
  zip : mg "zip" = none
  isinstance : mg "isinstance" = none
  abs : mg "abs" = none
  int : mg "int" = none
  bool : mg "bool" = none
  str : mg "str" = none
  tuple : mg "tuple" = none
section
variable {fl : L}
theorem se_len (bt : Bt X.mg) (ha : SE X K cls true a ta fa) (hg : Gl X "len" := by rfl) (hs : starEach [a] X.env = (false, eval a X.env) :: starEach [] X.env := by rfl) (hpl : (backTo pos (starEach [] X.env)).any (·.1) = false := by rfl) :
    SE X K cls m (.Call (.Name "len" p) [a] [] pos) (tCB (rLen K) (tCons ta tNil)) (e1 oLen fa) := by obtain ⟨rfl⟩ := hK; exact ⟨pe_callB call_lenS hg bt.len PySem.boot_len (pa_cons ha.1 pa_nil hs) (he := hs) (hpl := hpl), snd_b1 ops_len ha.2⟩
theorem se_abs (bt : Bt X.mg) (ha : SE X K cls true a ta fa) (hg : Gl X "abs" := by rfl) (hs : starEach [a] X.env = (false, eval a X.env) :: starEach [] X.env := by rfl) (hpl : (backTo pos (starEach [] X.env)).any (·.1) = false := by rfl) :
    SE X K cls m (.Call (.Name "abs" p) [a] [] pos) (tCB (fun xs H Q => ∃ i, xs = [.int i] ∧ Q (.int (if i < 0 then -i else i)) H) (tCons ta tNil)) (e1 oAbs fa) := by obtain ⟨rfl⟩ := hK; exact ⟨pe_callB call_abs hg bt.abs (by decide +kernel) (pa_cons ha.1 pa_nil hs) (he := hs) (hpl := hpl), snd_b1 ops_abs ha.2⟩
theorem se_int1 (bt : Bt X.mg) (ha : SE X K cls true a ta fa) (hg : Gl X "int" := by rfl) (hs : starEach [a] X.env = (false, eval a X.env) :: starEach [] X.env := by rfl) (hpl : (backTo pos (starEach [] X.env)).any (·.1) = false := by rfl) :
    SE X K cls m (.Call (.Name "int" p) [a] [] pos) (tCB (fun xs H Q => (∃ i, xs = [.int i] ∧ Q (.int i) H) ∨ ∃ k, xs = [.bl k] ∧ Q (.int (if k then 1 else 0)) H) (tCons ta tNil)) (e1 oInt fa) := by obtain ⟨rfl⟩ := hK; exact ⟨pe_callTy call_int1 hg bt.int (by decide +kernel) (pa_cons ha.1 pa_nil hs) (he := hs) (hpl := hpl), snd_b1 ops_int ha.2⟩
theorem sl_list (bt : Bt X.mg) (ha : SE X K cls true a ta fa) (hg : Gl X "list" := by rfl) (hs : starEach [a] X.env = (false, eval a X.env) :: starEach [] X.env := by rfl) (hpl : (backTo pos (starEach [] X.env)).any (·.1) = false := by rfl) :
    SL X K cls (.Call (.Name "list" p) [a] [] pos) (tCB (rListS K) (tCons ta tNil)) (l1 oList fa) := by obtain ⟨rfl⟩ := hK; exact ⟨pe_callTy call_list_of hg bt.list (by decide +kernel) (pa_cons ha.1 pa_nil hs) (he := hs) (hpl := hpl), snd_bl1 opl_list ha.2⟩
theorem sl_sorted (bt : Bt X.mg) (ha : SE X K cls true a ta fa) (hg : Gl X "sorted" := by rfl) (hs : starEach [a] X.env = (false, eval a X.env) :: starEach [] X.env := by rfl) (hpl : (backTo pos (starEach [] X.env)).any (·.1) = false := by rfl) :
    SL X K cls (.Call (.Name "sorted" p) [a] [] pos) (tCB (rSortedI K) (tCons ta tNil)) (l1 oSort fa) := by obtain ⟨rfl⟩ := hK; exact ⟨pe_callB cr_sortedI hg bt.sorted (by decide +kernel) (pa_cons ha.1 pa_nil hs) (he := hs) (hpl := hpl), snd_bl1 opl_sort ha.2⟩
theorem sl_sortU (bt : Bt X.mg) (ha : SE X K cls true a ta fa) (hg : Gl X "sorted" := by rfl) (hg2 : Gl X "set" := by rfl) (hc : X.calm = true := by rfl) (hs : starEach [a] X.env = (false, eval a X.env) :: starEach [] X.env := by rfl) (hpl : (backTo p' (starEach [] X.env)).any (·.1) = false := by rfl)
    (hs' : starEach [.Call (.Name "set" p2) [a] [] p'] X.env = (false, eval (.Call (.Name "set" p2) [a] [] p') X.env) :: starEach [] X.env := by rfl) (hpl' : (backTo pos (starEach [] X.env)).any (·.1) = false := by rfl) :
    SL X K cls (.Call (.Name "sorted" p) [.Call (.Name "set" p2) [a] [] p'] [] pos) (tSortU X.w K ta) (l1 oSortU fa) :=
  by obtain ⟨rfl⟩ := hK; exact ⟨pe_callB (cr_sortedSet hc) hg bt.sorted (by decide +kernel) (pa_cons (pe_callTy (cr_setL hc) hg2 bt.set (by decide +kernel) (pa_cons ha.1 pa_nil hs) (he := hs) (hpl := hpl)) pa_nil hs') (he := hs') (hpl := hpl'), snd_sortU ha.2⟩
theorem se_lenU (bt : Bt X.mg) {p2 : Pos} (ha : SE X K cls true a ta fa) (hg : Gl X "len" := by rfl) (hg2 : Gl X "set" := by rfl) (hc : X.calm = true := by rfl) (hs : starEach [a] X.env = (false, eval a X.env) :: starEach [] X.env := by rfl) (hpl : (backTo p' (starEach [] X.env)).any (·.1) = false := by rfl)
    (hs' : starEach [.Call (.Name "set" p2) [a] [] p'] X.env = (false, eval (.Call (.Name "set" p2) [a] [] p') X.env) :: starEach [] X.env := by rfl) (hpl' : (backTo pos (starEach [] X.env)).any (·.1) = false := by rfl) :
    SE X K cls m (.Call (.Name "len" p) [.Call (.Name "set" p2) [a] [] p'] [] pos) (tLenU X.w K ta) (e1 oLenU fa) :=
  by obtain ⟨rfl⟩ := hK; exact ⟨pe_callB cr_lenSet hg bt.len PySem.boot_len (pa_cons (pe_callTy (cr_setL hc) hg2 bt.set (by decide +kernel) (pa_cons ha.1 pa_nil hs) (he := hs) (hpl := hpl)) pa_nil hs') (he := hs') (hpl := hpl'), snd_lenU ha.2⟩
theorem se_any (bt : Bt X.mg) (hl : SL X K cls a ta fl) (hg : Gl X "any" := by rfl) (hc : X.calm = true := by rfl) (hs : starEach [a] X.env = (false, eval a X.env) :: starEach [] X.env := by rfl) (hpl : (backTo pos (starEach [] X.env)).any (·.1) = false := by rfl) :
    SE X K cls m (.Call (.Name "any" p) [a] [] pos) (tCB (rAny K) (tCons ta tNil)) (eAny fl) := by obtain ⟨rfl⟩ := hK; exact ⟨pe_callB (cr_any hc) hg bt.any (by decide +kernel) (pa_cons hl.1 pa_nil hs) (he := hs) (hpl := hpl), snd_any hl.2⟩
theorem se_all (bt : Bt X.mg) (hl : SL X K cls a ta fl) (hg : Gl X "all" := by rfl) (hc : X.calm = true := by rfl) (hs : starEach [a] X.env = (false, eval a X.env) :: starEach [] X.env := by rfl) (hpl : (backTo pos (starEach [] X.env)).any (·.1) = false := by rfl) :
    SE X K cls m (.Call (.Name "all" p) [a] [] pos) (tCB (rAll K) (tCons ta tNil)) (eAll fl) := by obtain ⟨rfl⟩ := hK; exact ⟨pe_callB (cr_all hc) hg bt.all (by decide +kernel) (pa_cons hl.1 pa_nil hs) (he := hs) (hpl := hpl), snd_all hl.2⟩
end
end
end Mi

set_option Elab.async false
set_option linter.all false
set_option maxRecDepth 100000
set_option maxHeartbeats 1000000
/-! Mi, tenth part: the words of a derivation: walks, calls, statements. -/
namespace Mi
open PySem PySem.Spec PyProof.Rows L2
variable [Gam]

section
variable {X : Cx} {K : PySem.W.Frag} [hK : KX X K] {cls : Nat → Addr} {m m' : Bool} {a b c e o tg iter elt : Expr} {es : List Expr} {ta tb tc te to : TE} {fa fb fc fe fo : E} {pos p p' p2 apos cpos : Pos} {t : TA} {f : L} {fl : L} {j k : Nat} {x y nm : Str} {mm mm' : F} {C C' : Nat}
/-! what is walked -/
theorem si_seq (h : SE X K cls false e te fe) : SI X K cls tg e (iSeqX K te) (iSeq fe) := by obtain ⟨rfl⟩ := hK; exact ⟨pi_seqX h.1, snd_iSeq h.2⟩
theorem si_rg1 (bt : Bt X.mg) (h : SE X K cls true a ta fa) (hg : Gl X "range" := by rfl) (hs : starEach [a] X.env = [(false, eval a X.env)] := by rfl) (hs2 : starEach [a] X.env = (false, eval a X.env) :: starEach [] X.env := by rfl) :
    SI X K cls tg (.Call (.Name "range" p) [a] [] pos) (iRng1 (tCons ta tNil)) (iRg1 fa) := by obtain ⟨rfl⟩ := hK; exact ⟨pi_range1 hg bt.range (pa_cons h.1 pa_nil hs2) hs, snd_iRg1 h.2⟩
theorem si_rg2 (bt : Bt X.mg) (ha : SE X K cls true a ta fa) (hb : SE X K cls true b tb fb) (hg : Gl X "range" := by rfl) (hs : starEach [a, b] X.env = [(false, eval a X.env), (false, eval b X.env)] := by rfl) (hs2 : starEach [b] X.env = [(false, eval b X.env)] := by rfl)
    (h1 : starEach [a, b] X.env = (false, eval a X.env) :: starEach [b] X.env := by rfl) (h2 : starEach [b] X.env = (false, eval b X.env) :: starEach [] X.env := by rfl) :
    SI X K cls tg (.Call (.Name "range" p) [a, b] [] pos) (iRng2 (tCons ta (tCons tb tNil))) (iRg2 fa fb) := by obtain ⟨rfl⟩ := hK; exact ⟨pi_range2 hg bt.range (pa_cons ha.1 (pa_cons hb.1 pa_nil h2) h1) hs hs2, snd_iRg2 ha.2 hb.2⟩
theorem si_enum {elts : List Expr} {kk : Nat} {tpos : Pos} (bt : Bt X.mg) (h : SE X K cls false a ta fa) (hg : Gl X "enumerate" := by rfl) (hs : starEach [a] X.env = [(false, eval a X.env)] := by rfl) (hs2 : starEach [a] X.env = (false, eval a X.env) :: starEach [] X.env := by rfl) :
    SI X K cls (.Tuple elts kk tpos) (.Call (.Name "enumerate" p) [a] [] pos) (L2.iEnum K (tCons ta tNil)) (iEnum fa) := by obtain ⟨rfl⟩ := hK; exact ⟨pi_enum hg bt.enumerate (pa_cons h.1 pa_nil hs2) hs, snd_iEnum h.2⟩
theorem si_zip {elts : List Expr} {kk : Nat} {tpos : Pos} (bt : Bt X.mg) (ha : SE X K cls false a ta fa) (hb : SE X K cls false b tb fb) (hg : Gl X "zip" := by rfl) (h1 : starEach [a, b] X.env = (false, eval a X.env) :: starEach [b] X.env := by rfl)
    (h2 : starEach [b] X.env = (false, eval b X.env) :: starEach [] X.env := by rfl) (hpl : (backTo pos (starEach [b] X.env)).any (·.1) = false := by rfl) :
    SI X K cls (.Tuple elts kk tpos) (.Call (.Name "zip" p) [a, b] [] pos) (L2.iZip K (tCons ta (tCons tb tNil))) (iZip fa fb) := by obtain ⟨rfl⟩ := hK; exact ⟨pi_zip hg bt.zip (pa_cons ha.1 (pa_cons hb.1 pa_nil h2) h1) h1 hpl, snd_iZip ha.2 hb.2⟩
/-! targets -/
theorem sg_n (i : Nat) (hN : X.N.Nodup) (hi : X.N[i]? = some x := by rfl) (hx : Loc X.env.scope x := by first | exact Or.inl rfl | exact Or.inr rfl) (hf : X.fn x = true ∨ X.env.scope.names.lookup x = some .local := by first | exact .inl rfl | exact .inr rfl) :
    SG X K cls [i] (.Name x pos) (L2.gName i) (gName i) := by obtain ⟨rfl⟩ := hK; exact ⟨pg_name hN hi hx hf, snd_name⟩
theorem sgs_n : SGs X K cls [] [] L2.gNil gNil := by obtain ⟨rfl⟩ := hK; exact ⟨pgs_nil, snd_gnil⟩
theorem sgs_c {is js : List Nat} {tg : TG} {fg : G} {ts : TGs} {fs : Gs} (h : SG X K cls is e tg fg) (hs : SGs X K cls js es ts fs) (hh : (assignEach (e :: es) X.env).map (·.2) = assign e X.env :: (assignEach es X.env).map (·.2) := by rfl) :
    SGs X K cls (is ++ js) (e :: es) (L2.gCons tg ts) (gCons fg fs) := by obtain ⟨rfl⟩ := hK; exact ⟨pgs_cons h.1 hs.1 hh, snd_gcons h.2 hs.2⟩
theorem sg_t {is : List Nat} {kk n : Nat} {ts : TGs} {fs : Gs} (h : SGs X K cls is es ts fs) (hc : X.calm = true := by rfl) (hn : (assignEach es X.env).length = n := by rfl) (hst : (assignEach es X.env).findIdx? (·.1) = none := by rfl) :
    SG X K cls is (.Tuple es kk pos) (L2.gTup K n ts) (gTup n fs) := by obtain ⟨rfl⟩ := hK; exact ⟨pg_tup hc h.1 hn hst, snd_gtup h.2⟩
/-! comprehensions -/
section
variable {scope : Scope} {own : List (Str × Nat)} {ifs : List Expr} {wi : TI} {fi : I} {is : List Nat} {g : TG} {fg : G} {tt : TT} {ft : T}
abbrev STs (X : Cx) (K : PySem.W.Frag) (cls : Nat → Addr) (es : List Expr) (t : TT) (f : T) : Prop := PTs X es t ∧ SndT K cls t f
theorem sts_n : STs X K cls [] tYes tTrue := by obtain ⟨rfl⟩ := hK; exact ⟨pts_nil, ⟨fun ρ Z σ H sl st b st' R e Q q => by cases e; exact q ρ H R .refl⟩⟩
theorem sts_c (h : ST X K cls c tt ft) : STs X K cls [c] tt ft := by obtain ⟨rfl⟩ := hK; exact ⟨pts_one h.1, h.2⟩
theorem sl_lc (own : List (Str × Nat)) (hN : X.N.Nodup) (hi : SI X K cls tg iter wi fi) (ok : blkC X.N X.env.scope scope own = true) (his : ∀ i ∈ is, i ∈ own.map (·.2))
    (hg : ∀ (s : Shared) (H : Hp) (C : Addr) (cl : List (Str × Addr)) (fp : List Addr), KX (X.blk s H scope (compEnvC scope cl C X.env) fp) K → SG (X.blk s H scope (compEnvC scope cl C X.env) fp) K cls is tg g fg)
    (ht : ∀ (s : Shared) (H : Hp) (C : Addr) (cl : List (Str × Addr)) (fp : List Addr), KX (X.blk s H scope (compEnvC scope cl C X.env) fp) K → STs (X.blk s H scope (compEnvC scope cl C X.env) fp) K cls ifs tt ft)
    (he : ∀ (s : Shared) (H : Hp) (C : Addr) (cl : List (Str × Addr)) (fp : List Addr), KX (X.blk s H scope (compEnvC scope cl C X.env) fp) K → SE (X.blk s H scope (compEnvC scope cl C X.env) fp) K cls false elt te fe)
    (hc : X.calm = true := by rfl) (hs : ∀ x, foldedSetIterable iter X.env x = pure x := by intro _; rfl) :
    SL X K cls (.ListComp elt [⟨tg, iter, ifs, 0⟩] scope pos) (tLc wi g tt te (own.map (·.2))) (lComp fi (own.map (·.2)) fg ft fe) :=
  by obtain ⟨rfl⟩ := hK; exact ⟨pe_lc hc hN hi.1 (blkOk_by ok) (fun s H C cl fp => (hg s H C cl fp ⟨rfl⟩).1) (fun s H C cl fp => (ht s H C cl fp ⟨rfl⟩).1) (fun s H C cl fp => (he s H C cl fp ⟨rfl⟩).1) hs,
    snd_lc hi.2 (hg X.s_0 (fun _ => none) 0 [] [] ⟨rfl⟩).2 his (ht X.s_0 (fun _ => none) 0 [] [] ⟨rfl⟩).2 (he X.s_0 (fun _ => none) 0 [] [] ⟨rfl⟩).2⟩
end
/-! calls -/
theorem se_call (c : C8.Cal X.prog X.w K X.mg X.base k x (spM K cls mm) []) (hr : Room j X.A) (ha : SA X K cls false (e :: es) t f) (hk : k ≤ j := by decide) (hg : Gl X x := by rfl)
    (hdb : (x == ("__debug__" : Str)) = false := by decide) (he : starEach (e :: es) X.env = (false, eval e X.env) :: starEach es X.env := by rfl) (hpl : (backTo pos (starEach es X.env)).any (·.1) = false := by rfl) :
    SE X K cls m (.Call (.Name x p) (e :: es) [] pos) (tCall (spM K cls mm) [] E0 t) (eCall mm f) := by obtain ⟨rfl⟩ := hK; exact ⟨C8.pe_c c hr hk hg ha.1 hdb he hpl, snd_call ha.2⟩
theorem se_call0 (c : C8.Cal X.prog X.w K X.mg X.base k x (spM K cls mm) []) (hr : Room j X.A) (hk : k ≤ j := by decide) (hg : Gl X x := by rfl) (hdb : (x == ("__debug__" : Str)) = false := by decide) :
    SE X K cls m (.Call (.Name x p) [] [] pos) (tCall (spM K cls mm) [] E0 tNil) (eCall mm aNil) := by
  obtain ⟨rfl⟩ := hK
  obtain ⟨f, fd, ps, ds, F, hm, kp, b, d⟩ := c.ex
  exact ⟨pe_call0 F (hr.mono hk) hg hm kp b d pass0 hdb, snd_call snd_nil⟩
theorem se_new (c : C8.Mak X.prog X.w K X.mg X.base k x (cls C) (spM K cls mm) []) (hr : Room j X.A) (ha : SA X K cls false (e :: es) t f) (hk : k + 1 ≤ j := by decide) (hg : Gl X x := by rfl)
    (hdb : (x == ("__debug__" : Str)) = false := by decide) (he : starEach (e :: es) X.env = (false, eval e X.env) :: starEach es X.env := by rfl) (hpl : (backTo pos (starEach es X.env)).any (·.1) = false := by rfl) :
    SE X K cls m (.Call (.Name x p) (e :: es) [] pos) (tMake (cls C) (spM K cls mm) [] E0 t) (eNew C mm f) := by obtain ⟨rfl⟩ := hK; exact ⟨C8.pe_mk c hr hk hg ha.1 hdb he hpl, snd_new ha.2⟩
theorem se_meth {pl : Sem Bool} (c : C8.Met X.prog X.w K X.mg X.base k (cls C) nm (spM K cls mm) []) (hr : Room j X.A) (ho : SE X K cls true o to fo) (ha : SA X K cls false (e :: es) t f) (hn : nm ∉ nms C) (hk : k ≤ j := by decide)
    (hst : starEach (e :: es) X.env = (false, eval e X.env) :: starEach es X.env := by rfl) (hpl : (backTo pos (starEach es X.env)).any (·.1) = false := by rfl)
    (ht : eval (.Call (.Attribute o nm apos) (e :: es) [] pos) X.env = (do
      let ov ← eval o X.env
      standAt apos.atName
      let (f, first) ← holding [ov] (getMethod ov nm pl)
      callWith pos f first (backTo pos (starEach (e :: es) X.env)) (backToKw pos (keywordEach [] X.env))) := by rfl) :
    SE X K cls m (.Call (.Attribute o nm apos) (e :: es) [] pos) (tMeth (cls C) nm (spM K cls mm) [] E0 to t) (eMeth C mm fo f) := by obtain ⟨rfl⟩ := hK; exact ⟨C8.pe_mt (pl := pl) c hr hk ho.1 ha.1 hst hpl ht, snd_meth ho.2 ha.2 hn⟩
theorem se_meth0 {pl : Sem Bool} (c : C8.Met X.prog X.w K X.mg X.base k (cls C) nm (spM K cls mm) []) (hr : Room j X.A) (ho : SE X K cls true o to fo) (hn : nm ∉ nms C) (hk : k ≤ j := by decide)
    (ht : eval (.Call (.Attribute o nm apos) [] [] pos) X.env = (do
      let ov ← eval o X.env
      standAt apos.atName
      let (f, first) ← holding [ov] (getMethod ov nm pl)
      callWith pos f first (backTo pos (starEach [] X.env)) (backToKw pos (keywordEach [] X.env))) := by rfl) :
    SE X K cls m (.Call (.Attribute o nm apos) [] [] pos) (tMeth (cls C) nm (spM K cls mm) [] E0 to tNil) (eMeth C mm fo aNil) := by obtain ⟨rfl⟩ := hK; exact ⟨C8.pe_mt0 (pl := pl) c hr hk ho.1 ht, snd_meth ho.2 snd_nil hn⟩
theorem se_alt {t1 t2 : TE} (h1 : SE X K cls m e t1 (eMeth C mm fo f)) (h2 : SE X K cls m e t2 (eMeth C' mm' fo f)) : SE X K cls m e (fun σ H Q => t1 σ H Q ∨ t2 σ H Q) (eMeth2 C mm C' mm' fo f) := by obtain ⟨rfl⟩ := hK; exact ⟨pe_alt h1.1 h2.1, snd_meth2 h1.2 h2.2⟩
theorem se_fld (h : At K cls C k nm) (ho : SE X K cls true o to fo) (hb : attributeBase o nm X.env (eval o X.env) = eval o X.env := by rfl) : SE X K cls m (.Attribute o nm pos) (tFld K to nm) (e1 (oFld C k) fo) := by obtain ⟨rfl⟩ := hK; exact ⟨pe_fld ho.1 hb, snd_fld h ho.2⟩
/-! statements -/
section
variable {s : Stmt} {ss body : List Stmt} {tu tw : TS} {fu fw : S} {tA : TT} {fA : T}
theorem sss_n : SSs X K cls [] tNext sSkip := by obtain ⟨rfl⟩ := hK; exact ⟨pss_nil, s_skip⟩
theorem sss_1 (h : SS X K cls s tu fu) : SSs X K cls [s] tu fu := by obtain ⟨rfl⟩ := hK; exact ⟨pss_one h.1, h.2⟩
theorem sss_c (h : SS X K cls s tu fu) (h2 : SSs X K cls ss tw fw) : SSs X K cls (s :: ss) (tSeq tu tw) (sSeq fu fw) := by obtain ⟨rfl⟩ := hK; exact ⟨pss_cons h.1 h2.1, s_seq h.2 h2.2⟩
theorem ss_pass : SS X K cls (.Pass pos) tNext sSkip := by obtain ⟨rfl⟩ := hK; exact ⟨ps_pass, s_skip⟩
/-- name = e -/
theorem ss_set (i : Nat) (hN : X.N.Nodup) (he : SE X K cls false e te fe) (hi : X.N[i]? = some x := by rfl) (hx : Loc X.env.scope x := by first | exact Or.inl rfl | exact Or.inr rfl) (hs : swapsWith e (some (.Name x p')) pos.line X.env = pure false := by rfl)
    (hf : X.fn x = true ∨ X.env.scope.names.lookup x = some .local := by first | exact .inl rfl | exact .inr rfl) : SS X K cls (.Assign [.Name x p'] e pos) (tAsg te (L2.gName i)) (sAsg fe (gName i)) := by obtain ⟨rfl⟩ := hK; exact ⟨ps_set hN hi hx he.1 hs hf, s_asg he.2 snd_name⟩
/-- name = [..], the slot's own -/
theorem ss_own (i : Nat) (hN : X.N.Nodup) (he : SL X K cls e te fl) (hi : X.N[i]? = some x := by rfl) (hx : Loc X.env.scope x := by first | exact Or.inl rfl | exact Or.inr rfl) (hs : swapsWith e (some (.Name x p')) pos.line X.env = pure false := by rfl)
    (hf : X.fn x = true ∨ X.env.scope.names.lookup x = some .local := by first | exact .inl rfl | exact .inr rfl) : SS X K cls (.Assign [.Name x p'] e pos) (tAsg te (L2.gName i)) (sOwn i fl) := by obtain ⟨rfl⟩ := hK; exact ⟨ps_set hN hi hx he.1 hs hf, s_own he.2⟩
/-! name = [.. for ..], the name a plain local -/
section
variable {scope : Scope} {ifs : List Expr} {wi : TI} {fi : I} {is : List Nat} {g : TG} {fg : G} {tt : TT} {ft : T} {spos py : Pos}
theorem ps_lc (i : Nat) (own : List (Str × Nat)) (hN : X.N.Nodup) (hi : SI X K cls tg iter wi fi) (ok : blkC X.N X.env.scope scope own = true)
    (hg : ∀ (s : Shared) (H : Hp) (C : Addr) (cl : List (Str × Addr)) (fp : List Addr), KX (X.blk s H scope (compEnvC scope cl C X.env) fp) K → SG (X.blk s H scope (compEnvC scope cl C X.env) fp) K cls is tg g fg)
    (ht : ∀ (s : Shared) (H : Hp) (C : Addr) (cl : List (Str × Addr)) (fp : List Addr), KX (X.blk s H scope (compEnvC scope cl C X.env) fp) K → STs (X.blk s H scope (compEnvC scope cl C X.env) fp) K cls ifs tt ft)
    (he : ∀ (s : Shared) (H : Hp) (C : Addr) (cl : List (Str × Addr)) (fp : List Addr), KX (X.blk s H scope (compEnvC scope cl C X.env) fp) K → SE (X.blk s H scope (compEnvC scope cl C X.env) fp) K cls false elt te fe)
    (hy : X.N[i]? = some y) (hyl : X.env.scope.names.lookup y = some .local) (hsw : swapsWith (.ListComp elt [⟨tg, iter, ifs, 0⟩] scope pos) (some (.Name y py)) spos.line X.env = pure true)
    (hc : X.calm = true) (hs : ∀ x, foldedSetIterable iter X.env x = pure x) :
    PS X (.Assign [.Name y py] (.ListComp elt [⟨tg, iter, ifs, 0⟩] scope pos) spos) (tAsg (tLc wi g tt te (own.map (·.2))) (L2.gName i)) :=
  by obtain ⟨rfl⟩ := hK; exact ps_setLc hc hN hy hyl hsw hi.1 (blkOk_by ok) (fun s H C cl fp => (hg s H C cl fp ⟨rfl⟩).1) (fun s H C cl fp => (ht s H C cl fp ⟨rfl⟩).1) (fun s H C cl fp => (he s H C cl fp ⟨rfl⟩).1) hs
theorem ss_lcV (i : Nat) (own : List (Str × Nat)) (hN : X.N.Nodup) (hi : SI X K cls tg iter wi fi) (ok : blkC X.N X.env.scope scope own = true) (his : ∀ i ∈ is, i ∈ own.map (·.2))
    (hg : ∀ (s : Shared) (H : Hp) (C : Addr) (cl : List (Str × Addr)) (fp : List Addr), KX (X.blk s H scope (compEnvC scope cl C X.env) fp) K → SG (X.blk s H scope (compEnvC scope cl C X.env) fp) K cls is tg g fg)
    (ht : ∀ (s : Shared) (H : Hp) (C : Addr) (cl : List (Str × Addr)) (fp : List Addr), KX (X.blk s H scope (compEnvC scope cl C X.env) fp) K → STs (X.blk s H scope (compEnvC scope cl C X.env) fp) K cls ifs tt ft)
    (he : ∀ (s : Shared) (H : Hp) (C : Addr) (cl : List (Str × Addr)) (fp : List Addr), KX (X.blk s H scope (compEnvC scope cl C X.env) fp) K → SE (X.blk s H scope (compEnvC scope cl C X.env) fp) K cls false elt te fe)
    (hsw : swapsWith (.ListComp elt [⟨tg, iter, ifs, 0⟩] scope pos) (some (.Name y py)) spos.line X.env = pure true) (hy : X.N[i]? = some y := by rfl) (hyl : X.env.scope.names.lookup y = some .local := by rfl)
    (hc : X.calm = true := by rfl) (hs : ∀ x, foldedSetIterable iter X.env x = pure x := by intro _; rfl) :
    SS X K cls (.Assign [.Name y py] (.ListComp elt [⟨tg, iter, ifs, 0⟩] scope pos) spos) (tAsg (tLc wi g tt te (own.map (·.2))) (L2.gName i)) (sAsg (eD (lComp fi (own.map (·.2)) fg ft fe)) (gName i)) :=
  by obtain ⟨rfl⟩ := hK; exact ⟨ps_lc i own hN hi ok hg ht he hy hyl hsw hc hs, s_asg (snd_d (snd_lc hi.2 (hg X.s_0 (fun _ => none) 0 [] [] ⟨rfl⟩).2 his (ht X.s_0 (fun _ => none) 0 [] [] ⟨rfl⟩).2 (he X.s_0 (fun _ => none) 0 [] [] ⟨rfl⟩).2)) snd_name⟩
theorem ss_lcO (i : Nat) (own : List (Str × Nat)) (hN : X.N.Nodup) (hi : SI X K cls tg iter wi fi) (ok : blkC X.N X.env.scope scope own = true) (his : ∀ i ∈ is, i ∈ own.map (·.2))
    (hg : ∀ (s : Shared) (H : Hp) (C : Addr) (cl : List (Str × Addr)) (fp : List Addr), KX (X.blk s H scope (compEnvC scope cl C X.env) fp) K → SG (X.blk s H scope (compEnvC scope cl C X.env) fp) K cls is tg g fg)
    (ht : ∀ (s : Shared) (H : Hp) (C : Addr) (cl : List (Str × Addr)) (fp : List Addr), KX (X.blk s H scope (compEnvC scope cl C X.env) fp) K → STs (X.blk s H scope (compEnvC scope cl C X.env) fp) K cls ifs tt ft)
    (he : ∀ (s : Shared) (H : Hp) (C : Addr) (cl : List (Str × Addr)) (fp : List Addr), KX (X.blk s H scope (compEnvC scope cl C X.env) fp) K → SE (X.blk s H scope (compEnvC scope cl C X.env) fp) K cls false elt te fe)
    (hsw : swapsWith (.ListComp elt [⟨tg, iter, ifs, 0⟩] scope pos) (some (.Name y py)) spos.line X.env = pure true) (hy : X.N[i]? = some y := by rfl) (hyl : X.env.scope.names.lookup y = some .local := by rfl)
    (hc : X.calm = true := by rfl) (hs : ∀ x, foldedSetIterable iter X.env x = pure x := by intro _; rfl) :
    SS X K cls (.Assign [.Name y py] (.ListComp elt [⟨tg, iter, ifs, 0⟩] scope pos) spos) (tAsg (tLc wi g tt te (own.map (·.2))) (L2.gName i)) (sOwn i (lComp fi (own.map (·.2)) fg ft fe)) :=
  by obtain ⟨rfl⟩ := hK; exact ⟨ps_lc i own hN hi ok hg ht he hy hyl hsw hc hs, s_own (snd_lc hi.2 (hg X.s_0 (fun _ => none) 0 [] [] ⟨rfl⟩).2 his (ht X.s_0 (fun _ => none) 0 [] [] ⟨rfl⟩).2 (he X.s_0 (fun _ => none) 0 [] [] ⟨rfl⟩).2)⟩
end
/-- targets = e -/
theorem ss_asg {is : List Nat} {g : TG} {fg : G} (he : SE X K cls false e te fe) (hg : SG X K cls is tg g fg) (hs : swapsWithSole [tg] e pos.line X.env = pure false := by rfl) (hw : swappedStores [tg] e X.env = pure none := by rfl)
    (h1 : (assignEach [tg] X.env).map (·.2) = [assign tg X.env] := by rfl) : SS X K cls (.Assign [tg] e pos) (tAsg te g) (sAsg fe fg) := by obtain ⟨rfl⟩ := hK; exact ⟨ps_asg he.1 hg.1 hs hw h1, s_asg he.2 hg.2⟩
/-- a, b = x, y, two plain locals -/
theorem ss_par (i j : Nat) {px py pt : Pos} {kt k2 pt2} (hN : X.N.Nodup) (ha : SE X K cls false a ta fa) (hb : SE X K cls false b tb fb) (hi : X.N[i]? = some x := by rfl) (hj : X.N[j]? = some y := by rfl) (hij : i ≠ j := by decide)
    (hx : X.env.scope.names.lookup x = some .local := by rfl) (hy : X.env.scope.names.lookup y = some .local := by rfl) (hc : X.calm = true := by rfl)
    (h1 : starEach [a, b] X.env = (false, eval a X.env) :: starEach [b] X.env := by rfl) (h2 : starEach [b] X.env = (false, eval b X.env) :: starEach [] X.env := by rfl)
    (hw : swappedStores [.Tuple [.Name x px, .Name y py] kt pt] (.Tuple [a, b] k2 pt2) X.env = pure (some [x, y]) := by rfl)
    (hs : swapsWithSole [.Tuple [.Name x px, .Name y py] kt pt] (.Tuple [a, b] k2 pt2) pos.line X.env = pure false := by rfl) :
    SS X K cls (.Assign [.Tuple [.Name x px, .Name y py] kt pt] (.Tuple [a, b] k2 pt2) pos) (tPar i j (tCons ta (tCons tb tNil))) (sPar i j fa fb) :=
  by obtain ⟨rfl⟩ := hK; exact ⟨ps_par hc hN hi hj hij hx hy (pa_cons ha.1 (pa_cons hb.1 pa_nil h2) h1) hw hs, s_par hij ha.2 hb.2⟩
theorem ss_ret (h : SE X K cls true e te fe) : SS X K cls (.Return (some e) pos) (tRet te) (sRet fe) := by obtain ⟨rfl⟩ := hK; exact ⟨ps_ret h.1, s_ret h.2⟩
theorem ss_retT {kk} (h : SA X K cls true es t f) : SS X K cls (.Return (some (.Tuple es kk p)) pos) (tRet (tTup t)) (sRet (eTup f)) := by obtain ⟨rfl⟩ := hK; exact ⟨ps_ret (pe_tup h.1), s_retT h.2⟩
theorem ss_retN : SS X K cls (.Return none pos) tRetN (sRet (eC .non)) := by obtain ⟨rfl⟩ := hK; exact ⟨ps_retN, s_retN⟩
theorem ss_if (hc : ST X K cls c tA fA) (h1 : SSs X K cls ss tu fu) (h2 : SSs X K cls body tw fw) : SS X K cls (.If c ss body pos) (tIfS tA tu tw) (sIf fA fu fw) := by obtain ⟨rfl⟩ := hK; exact ⟨ps_if hc.1 h1.1 h2.1, s_if hc.2 h1.2 h2.2⟩
theorem ss_for {wi : TI} {fi : I} {is : List Nat} {g : TG} {fg : G} (hi : SI X K cls tg iter wi fi) (hg : SG X K cls is tg g fg) (hb : SSs X K cls body tu fu) (hp : PassesOwn (model X.prog X.w) X.A X.env X.xe := by exact PassesOwn.never) (hc : X.calm = true := by rfl)
    (hs : ∀ x, foldedSetIterable iter X.env x = pure x := by intro _; rfl) : SS X K cls (.For tg iter body [] pos) (tFor wi g tu) (sFor fi fg fu) := by obtain ⟨rfl⟩ := hK; exact ⟨ps_for hp hc hi.1 hg.1 hb.1 hs, s_for hi.2 hg.2 hb.2⟩
theorem ss_while (n : Nat) (hc : ST X K cls c tA fA) (hb : SSs X K cls body tu fu) (hp : PassesOwn (model X.prog X.w) X.A X.env X.xe := by exact PassesOwn.never) : SS X K cls (.While c body [] pos) (tWhile tA tu) (sWhile n fA fu) := by obtain ⟨rfl⟩ := hK; exact ⟨ps_while hp hc.1 hb.1, s_while hc.2 hb.2⟩
theorem ss_drop (h : SE X K cls true e te fe) (hs : swapsWith e none pos.line X.env = pure false := by rfl) : SS X K cls (.Expr e pos) (tDrop te) (sDrop fe) := by obtain ⟨rfl⟩ := hK; exact ⟨ps_expr h.1 hs, s_drop h.2⟩
/-- x.append(e) -/
theorem pe_app {to : TE} {te : TE} (ho : PE X o to) (he : PE X e te) (hs : starEach [e] X.env = (false, eval e X.env) :: starEach [] X.env)
    (hbase : attributeBase o "append" X.env (eval o X.env) = eval o X.env)
    (hfew : ((backTo cpos (starEach [e] X.env)).all (fun x => !x.1) && (backToKw cpos (keywordEach [] X.env)).all (fun x => x.1.isSome) && decide ([e].length + ([] : List Keyword).length + (if ([] : List Keyword).isEmpty then 0 else 1) < 30)) = true)
    (hline : (apos.endLine == cpos.line) = true) (hplain : (backTo cpos (starEach [] X.env)).any (·.1) = false) :
    PE X (.Call (.Attribute o "append" apos) [e] [] cpos) (tBM K "list" rAppend to (tCons te tNil)) :=
  by obtain ⟨rfl⟩ := hK; exact pe_bm PySem.F.plainAttrs_list PySem.F.slot_list_append PySem.F.type_list_append mt_append ho (pa_cons he pa_nil hs) hbase hfew hline hs hplain
theorem ss_app (i : Nat) (he : SE X K cls false e te fe) (hN : X.N[i]? = some x := by rfl) (hv : Vis X.env.scope x := by first | exact Or.inl rfl | exact Or.inr (Or.inl rfl) | exact Or.inr (Or.inr rfl)) (hd : (x == ("__debug__" : Str)) = false := by decide)
    (hcd : (x == ("__classdict__" : Str)) = false := by decide) (hs : starEach [e] X.env = (false, eval e X.env) :: starEach [] X.env := by rfl)
    (hbase : attributeBase (.Name x p) "append" X.env (eval (.Name x p) X.env) = eval (.Name x p) X.env := by rfl)
    (hfew : ((backTo cpos (starEach [e] X.env)).all (fun x => !x.1) && (backToKw cpos (keywordEach [] X.env)).all (fun x => x.1.isSome) && decide ([e].length + ([] : List Keyword).length + (if ([] : List Keyword).isEmpty then 0 else 1) < 30)) = true := by rfl)
    (hline : (apos.endLine == cpos.line) = true := by rfl) (hplain : (backTo cpos (starEach [] X.env)).any (·.1) = false := by rfl)
    (hsw : swapsWith (.Call (.Attribute (.Name x p) "append" apos) [e] [] cpos) none pos.line X.env = pure false := by rfl) :
    SS X K cls (.Expr (.Call (.Attribute (.Name x p) "append" apos) [e] [] cpos) pos) (tDrop (tBM K "list" rAppend (tVar i) (tCons te tNil))) (sApp i fe) :=
  by obtain ⟨rfl⟩ := hK; exact ⟨ps_expr (pe_app (pe_var hN hv hd hcd) he.1 hs hbase hfew hline hplain) hsw, s_app he.2⟩
theorem ss_appK (ho : SE X K cls true o to fo) (he : SE X K cls false e te fe) (hs : starEach [e] X.env = (false, eval e X.env) :: starEach [] X.env := by rfl)
    (hbase : attributeBase o "append" X.env (eval o X.env) = eval o X.env := by rfl)
    (hfew : ((backTo cpos (starEach [e] X.env)).all (fun x => !x.1) && (backToKw cpos (keywordEach [] X.env)).all (fun x => x.1.isSome) && decide ([e].length + ([] : List Keyword).length + (if ([] : List Keyword).isEmpty then 0 else 1) < 30)) = true := by rfl)
    (hline : (apos.endLine == cpos.line) = true := by rfl) (hplain : (backTo cpos (starEach [] X.env)).any (·.1) = false := by rfl)
    (hsw : swapsWith (.Call (.Attribute o "append" apos) [e] [] cpos) none pos.line X.env = pure false := by rfl) :
    SS X K cls (.Expr (.Call (.Attribute o "append" apos) [e] [] cpos) pos) (tDrop (tBM K "list" rAppend to (tCons te tNil))) (sAppK fo fe) :=
  by obtain ⟨rfl⟩ := hK; exact ⟨ps_expr (pe_app ho.1 he.1 hs hbase hfew hline hplain) hsw, s_appK ho.2 he.2⟩
theorem ss_ext (i : Nat) (he : SL X K cls e te fl) (hN : X.N[i]? = some x := by rfl) (hv : Vis X.env.scope x := by first | exact Or.inl rfl | exact Or.inr (Or.inl rfl) | exact Or.inr (Or.inr rfl)) (hd : (x == ("__debug__" : Str)) = false := by decide)
    (hcd : (x == ("__classdict__" : Str)) = false := by decide) (hs : starEach [e] X.env = (false, eval e X.env) :: starEach [] X.env := by rfl)
    (hbase : attributeBase (.Name x p) "extend" X.env (eval (.Name x p) X.env) = eval (.Name x p) X.env := by rfl)
    (hfew : ((backTo cpos (starEach [e] X.env)).all (fun x => !x.1) && (backToKw cpos (keywordEach [] X.env)).all (fun x => x.1.isSome) && decide ([e].length + ([] : List Keyword).length + (if ([] : List Keyword).isEmpty then 0 else 1) < 30)) = true := by rfl)
    (hline : (apos.endLine == cpos.line) = true := by rfl) (hplain : (backTo cpos (starEach [] X.env)).any (·.1) = false := by rfl)
    (hsw : swapsWith (.Call (.Attribute (.Name x p) "extend" apos) [e] [] cpos) none pos.line X.env = pure false := by rfl) :
    SS X K cls (.Expr (.Call (.Attribute (.Name x p) "extend" apos) [e] [] cpos) pos) (tDrop (tBM K "list" rExtend (tVar i) (tCons te tNil))) (sExt i fl) :=
  by obtain ⟨rfl⟩ := hK; exact ⟨ps_expr (pe_bm PySem.F.plainAttrs_list PySem.F.slot_list_extend PySem.F.type_list_extend mt_extend (pe_var hN hv hd hcd) (pa_cons he.1 pa_nil hs) hbase hfew hline hs hplain) hsw, s_ext he.2⟩
theorem ss_fld (h : At K cls C k nm) (ho : SE X K cls true o to fo) (he : SE X K cls false e te fe) (h9 : (nms C).length < 900 := by decide) (hs : swapsWith e (some (.Attribute o nm p')) pos.line X.env = pure false := by rfl) :
    SS X K cls (.Assign [.Attribute o nm p'] e pos) (L2.sFld K to te nm) (sFld C k fo fe) := by obtain ⟨rfl⟩ := hK; exact ⟨ps_fld ho.1 he.1 hs, s_fld h ho.2 he.2 h9⟩
end
end
end Mi

set_option Elab.async false
set_option linter.all false
set_option maxRecDepth 100000
set_option maxHeartbeats 1000000
/-! Mi, eleventh part: isinstance, list(range(..)), two targets at once. -/
namespace Mi
open PySem PySem.Spec PyProof.Rows L2
variable [Gam]

/-! ### isinstance of a built-in class -/
def tyN : Nat → String
  | 0 => "int" | 1 => "bool" | 2 => "str" | 3 => "list" | 4 => "tuple" | 5 => "NoneType" | _ => "dict"
def tyOf (st : Sto) : Val → Option Nat
  | .non => some 5
  | .bl _ => some 1
  | .int _ => some 0
  | .str _ => some 2
  | .lst _ => some 3
  | .tup _ => some 4
  | .fn _ _ => none
  | .ref n => match st[n]? with
    | some (.lst _) => some 3
    | some (.dk _) => some 6
    | some (.dt _) => some 6
    | _ => none
def isiT (a b : Nat) : Bool := a == b || (a == 1 && b == 0)
def oIsi (k : Nat) : Sto → Val → Option Val := fun st x => (tyOf st x).bind fun t => if t < 7 ∧ k < 5 then some (.bl (isiT t k)) else none
theorem kit_tab : ∀ a < 7, ∀ b < 5, kitB (tyN a) (tyN b) = some (isiT a b) := by decide +kernel
section
variable {K : PySem.W.Frag} {cls : Nat → Addr} {ρ : List Addr} {Z : Addr → Prop} {σ : L2.St} {H : Hp} {sl : Sl} {st : Sto} {m m' : Bool} {x : Val} {u : V} {ta tb : TE} {fa fb : E}
theorem sq_ty {a : Addr} {us : List V} (h : SqL K H a us) : TyX K H (.ref a) (.type "list") := by
  rcases h with (h | ⟨o, h⟩) | ⟨o, its, n, h1, h2, _⟩
  · exact .base (.lst h)
  · exact .base (.frz h)
  · exact .kList h1 h2
theorem sqt_ty {a : Addr} {us : List V} (h : SqT K H a us) : TyX K H (.ref a) (.type "tuple") := by
  rcases h with (h | ⟨o, h⟩) | ⟨o, its, n, h1, h2, _⟩
  · exact .base (.tup h)
  · exact .fTuple h
  · exact .kTuple h1 h2
theorem ty_of (R : Rel K cls ρ Z σ H sl st) (h : RepM K m ρ Z σ H sl x u) {t : Nat} (e : tyOf st x = some t) : TyX K H u (.type (tyN t)) := by
  rcases h with h | ⟨_, i, xs, a, rfl, rfl, h1, h2⟩
  · cases h with
    | non => cases e; exact .base .non
    | bl b => cases e; exact .base (.bl b)
    | int i => cases e; exact .base (.int i)
    | str s => cases e; exact .base (.str s)
    | fn _ _ _ => cases e
    | lst h1 h2 => cases e; exact sq_ty (lst_sq h1)
    | tup h1 h2 => cases e; exact sqt_ty (tup_sq h1)
    | ref h1 =>
      rename_i n a
      have e' : (match st[n]? with
        | some (.lst _) => some 3
        | some (.dk _) => some 6
        | some (.dt _) => some 6
        | _ => none) = some t := e
      clear e
      split at e'
      · rename_i xs hx
        cases e'
        obtain ⟨us, e1, _⟩ := R.s.cells n _ a hx h1
        exact .base (.lst e1)
      · rename_i xs hx
        cases e'
        obtain ⟨us, e1, _⟩ := R.s.cells n _ a hx h1
        exact .base (.dK e1)
      · rename_i xs hx
        cases e'
        obtain ⟨us, e1, _⟩ := R.s.cells n _ a hx h1
        exact .base (.dT e1)
      · cases e'
  · cases e
    obtain ⟨b, us, e1, e2, r, _⟩ := R.owns i _ h1
    rw [h2] at e1
    cases e1
    exact .base (.lst e2)
theorem ops_isi {k : Nat} : Op1S K cls (oIsi k) (fun u => fun H Q => rIsi K [u, .ty (tyN k)] H Q) := by
  intro ρ Z σ H sl st x z u R h1 e Q q
  obtain ⟨t, e1, e⟩ := bind_some e
  split at e
  · rename_i hk
    cases e
    exact ⟨u, _, _, _, _, rfl, .ty _, ty_of R h1 e1, kit_ty (kit_tab t hk.1 k hk.2), q _ H R .refl (.bl _)⟩
  · cases e
theorem snd_isi {k : Nat} (ha : Snd K cls m' ta fa) : Snd K cls m (tCB (rIsi K) (tCons ta (tCons (tC (.ty (tyN k))) tNil))) (e1 (oIsi k) fa) := snd_e1 (r := fun u => fun H Q => rIsi K [u, .ty (tyN k)] H Q) ops_isi ha

/-! ### list(range(..)) -/
theorem snd_rg1 (ha : Snd K cls m ta fa) : SndL K cls (tLstRg (tRg1 ta)) (l1 oRg1 fa) := ⟨fun ρ Z σ H sl st ds st' R e Q q => by
  obtain ⟨p, e1, e⟩ := bind_some e
  obtain ⟨zs, e2, e⟩ := bind_some e
  cases e
  refine ha.run ρ Z σ H sl st p.1 p.2 R e1 _ fun u ρ1 H1 R1 x1 r1 => ?_
  unfold oRg1 at e2
  split at e2
  · rename_i n hn
    split at e2
    · rename_i hb
      cases e2
      rw [hn] at r1
      refine ⟨n, int_inv r1, ⟨by omega, by omega, by omega, by omega, by omega⟩, fun w hw => ?_⟩
      have eq1 : rgV 0 n = ((List.range n.toNat).map fun i => Val.int (i : Nat)).map (fun v => match v with | .int i => V.int i | _ => V.non) := by
        unfold rgV
        rw [List.map_map, Int.sub_zero]
        refine List.map_congr_left fun i _ => ?_
        show V.int (0 + (i : Nat)) = V.int (i : Nat)
        rw [Int.zero_add]
      have rl : ∀ l : List Nat, RepL K ρ1 (AR ρ1 (ZO Z sl σ)) H1 (l.map fun i => Val.int (i : Nat)) ((l.map fun i => Val.int (i : Nat)).map (fun v => match v with | .int i => V.int i | _ => V.non)) := fun l => by
        induction l with
        | nil => exact .nil
        | cons a l ih => exact .cons (.int _) ih
      rw [eq1]
      exact q w _ ρ1 _ R1 x1 hw (rl _)
    · cases e2
  · cases e2⟩
theorem snd_rg2 (ha : Snd K cls m ta fa) (hb : Snd K cls m' tb fb) : SndL K cls (tLstRg (tRg2 ta tb)) (l2 oRg2 fa fb) := ⟨fun ρ Z σ H sl st ds st' R e Q q => by
  obtain ⟨p, e1, e⟩ := bind_some e
  obtain ⟨p2, e2, e⟩ := bind_some e
  obtain ⟨zs, e3, e⟩ := bind_some e
  cases e
  refine ha.run ρ Z σ H sl st p.1 p.2 R e1 _ fun u ρ1 H1 R1 x1 r1 => ?_
  refine hb.run ρ1 Z σ H1 sl p.2 p2.1 p2.2 R1 e2 _ fun v ρ2 H2 R2 x2 r2 => ?_
  unfold oRg2 at e3
  split at e3
  · rename_i a b hx hy
    split at e3
    · rename_i hb
      cases e3
      rw [hx] at r1
      rw [hy] at r2
      refine ⟨a, b, int_inv r1, int_inv r2, ⟨by omega, by omega, by omega, by omega, by omega⟩, fun w hw => ?_⟩
      have rl : ∀ l : List Nat, RepL K ρ2 (AR ρ2 (ZO Z sl σ)) H2 (l.map fun i => Val.int (a + (i : Nat))) (l.map fun i => V.int (a + (i : Nat))) := fun l => by
        induction l with
        | nil => exact .nil
        | cons a l ih => exact .cons (.int _) ih
      exact q w _ ρ2 _ R2 (x1.trans x2) hw (rl _)
    · cases e3
  · cases e3⟩

/-! ### two targets at once -/
/-- a list that was kept apart becomes a slot's own -/
theorem Rel.claim {i : Nat} {p : Addr} {xs : List Val} {us : List V} (R : Rel K cls ρ (ZD Z p) σ H sl st) (hp : H p = some (.lst us)) (hz : ¬ Z p) (r : RepL K ρ (AR ρ (ZO (ZD Z p) sl σ)) H xs us) (hi : i < sl.length) :
    Rel K cls ρ Z (σ.set i (some (.ref p))) H (sl.set i (.own xs)) st ∧ ∀ a, WO ρ (sl.set i (.own xs)) (σ.set i (some (.ref p))) a → WO ρ sl σ a ∨ a = p := by
  have hi' : i < σ.length := by rw [← R.slen]; exact hi
  have hpρ : p ∉ ρ := fun z => R.s.dis p z (.inl (.inr rfl))
  have hpo : ¬ Own sl σ p := fun ⟨j, ys, h1, h2⟩ => by
    obtain ⟨a, _, q1, _, _, q4⟩ := R.owns j ys h1
    rw [h2] at q1
    cases q1
    exact q4 (.inr rfl)
  have ow : ∀ a, Own (sl.set i (.own xs)) (σ.set i (some (.ref p))) a → a = p ∨ Own sl σ a := fun a ⟨j, ys, h1, h2⟩ => by
    by_cases hj : j = i
    · subst hj
      rw [List.getElem?_set_self hi'] at h2
      cases h2
      exact .inl rfl
    · rw [List.getElem?_set_ne (Ne.symm hj)] at h1 h2
      exact .inr ⟨j, ys, h1, h2⟩
  have sub : ∀ a, AR ρ (ZO Z (sl.set i (.own xs)) (σ.set i (some (.ref p)))) a → AR ρ (ZO (ZD Z p) sl σ) a := fun a h => by
    rcases h with h | h | h
    · exact .inl h
    · exact .inr (.inl (.inl h))
    · rcases ow a h with z | z
      · exact .inr (.inl (.inr z))
      · exact .inr (.inr z)
  have fr : Fr (AR ρ (ZO (ZD Z p) sl σ)) H (AR ρ (ZO Z (sl.set i (.own xs)) (σ.set i (some (.ref p))))) H := Fr.less sub
  refine ⟨⟨⟨R.s.nd, R.s.len, fun n c a h1 h2 => (R.s.cells n c a h1 h2).mono fr List.prefix_rfl rfl, fun a h => R.s.dom a (sub a h), fun a h z => ?_⟩, by rw [List.length_set, List.length_set]; exact R.slen, fun j w h => ?_, fun j ys h => ?_, fun j k ys zs a h1 h2 h3 h4 => ?_⟩, fun a h => h.elim (fun h => .inl (.inl h)) fun h => (ow a h).elim .inr fun z => .inl (.inr z)⟩
  · rcases z with z | z
    · exact R.s.dis a h (.inl (.inl z))
    · rcases ow a z with y | y
      · exact hpρ (y ▸ h)
      · exact R.s.dis a h (.inr y)
  · have hj : j ≠ i := fun z => by
      subst z
      rw [List.getElem?_set_self hi] at h
      cases h
    rw [List.getElem?_set_ne (Ne.symm hj)] at h
    obtain ⟨u', q1, q2⟩ := R.slots j w h
    exact ⟨u', by rw [List.getElem?_set_ne (Ne.symm hj)]; exact q1, q2.mono fr List.prefix_rfl⟩
  · by_cases hj : j = i
    · subst hj
      rw [List.getElem?_set_self hi] at h
      cases h
      exact ⟨p, us, by rw [List.getElem?_set_self hi'], hp, r.mono fr List.prefix_rfl, hz⟩
    · rw [List.getElem?_set_ne (Ne.symm hj)] at h
      obtain ⟨a, us, q1, q2, q3, q4⟩ := R.owns j ys h
      exact ⟨a, us, by rw [List.getElem?_set_ne (Ne.symm hj)]; exact q1, q2, q3.mono fr List.prefix_rfl, fun z => q4 (.inl z)⟩
  · by_cases hj : j = i
    · by_cases hk : k = i
      · rw [hj, hk]
      · subst hj
        rw [List.getElem?_set_self hi'] at h3
        cases h3
        rw [List.getElem?_set_ne (Ne.symm hk)] at h2 h4
        exact absurd ⟨k, zs, h2, h4⟩ hpo
    · rw [List.getElem?_set_ne (Ne.symm hj)] at h1 h3
      by_cases hk : k = i
      · subst hk
        rw [List.getElem?_set_self hi'] at h4
        cases h4
        exact absurd ⟨j, ys, h1, h3⟩ hpo
      · rw [List.getElem?_set_ne (Ne.symm hk)] at h2 h4
        exact R.inj j k ys zs a h1 h2 h3 h4
/-- both values, then both stores; N: what follows, at the heap behind both values -/
theorem par_vo {i j : Nat} {r : Out × Sl × Sto} {fl : L} (ha : Snd K cls false ta fa) (hb : SndL K cls tb fl) (R : Rel K cls ρ Z σ H sl st) (e : sParVO i j fa fl sl st = some r) (N : V → V → Hp → Prop)
    (q : ∀ x y σ' ρ' H', σ' = (σ.set i (some x)).set j (some y) → r.1 = .nx → Rel K cls ρ' Z σ' H' r.2.1 r.2.2 → ρ <+: ρ' → Fr (WO ρ sl σ) H (WO ρ' r.2.1 σ') H' → N x y H') : ta σ H fun x H1 => tb σ H1 fun y H2 => N x y H2 := by
  obtain ⟨p, e1, e⟩ := bind_some e
  obtain ⟨p2, e2, e⟩ := bind_some e
  split at e
  · rename_i hl
    cases e
    refine ha.run ρ Z σ H sl st p.1 p.2 R e1 _ fun u ρ1 H1 R1 x1 r1 => ?_
    refine hb.run ρ1 Z σ H1 sl p.2 p2.1 p2.2 R1 e2 _ fun w us ρ2 H2 R2 x2 hp rl => ?_
    have R3 := R2.setVal (r1.ext x2).rep hl.1
    have le : ∀ a, AR ρ2 (ZO Z (sl.set i (.val p.1)) (σ.set i (some u))) a → AR ρ2 (ZO Z sl σ) a := fun a h => h.imp id fun z => z.imp id own_set
    obtain ⟨R4, f4⟩ := R3.setOwn (i := j) hp (rl.mono (Fr.less le) List.prefix_rfl) (by rw [List.length_set]; exact hl.2)
    refine q u (.ref w) _ ρ2 _ rfl rfl R4 (x1.trans x2).pre ?_
    exact (x1.trans x2).wo.trans (Fr.trans ⟨fun _ _ _ h => h, fun a h => .inl (h.imp id own_set)⟩ f4)
  · cases e
theorem par_oo {i j : Nat} {r : Out × Sl × Sto} {fl fl' : L} (hij : i ≠ j) (ha : SndL K cls ta fl) (hb : SndL K cls tb fl') (R : Rel K cls ρ Z σ H sl st) (e : sParOO i j fl fl' sl st = some r) (N : V → V → Hp → Prop)
    (q : ∀ x y σ' ρ' H', σ' = (σ.set i (some x)).set j (some y) → r.1 = .nx → Rel K cls ρ' Z σ' H' r.2.1 r.2.2 → ρ <+: ρ' → Fr (WO ρ sl σ) H (WO ρ' r.2.1 σ') H' → N x y H') : ta σ H fun x H1 => tb σ H1 fun y H2 => N x y H2 := by
  obtain ⟨p, e1, e⟩ := bind_some e
  obtain ⟨p2, e2, e⟩ := bind_some e
  split at e
  · rename_i hl
    cases e
    refine ha.run ρ Z σ H sl st p.1 p.2 R e1 _ fun w us ρ1 H1 R1 x1 hp rl => ?_
    have R1' : Rel K cls ρ1 (ZD Z w) σ (upd H1 w (.lst us)) sl p.2 := R1.block (vs := []) rfl hp
    have hz : ¬ Z w := fun z => R1.s.dom w (.inr (.inl z)) hp
    have f1 : Fr (AR ρ1 (ZO Z sl σ)) H1 (AR ρ1 (ZO (ZD Z w) sl σ)) (upd H1 w (.lst us)) := ⟨fun a o hn h => by rw [upd_ne (ne_of_none h hp)]; exact h, fun a h => by
      rcases h with h | (h | h) | h
      · exact .inl (.inl h)
      · exact .inl (.inr (.inl h))
      · exact .inr (h ▸ hp)
      · exact .inl (.inr (.inr h))⟩
    refine hb.run ρ1 (ZD Z w) σ _ sl p.2 p2.1 p2.2 R1' e2 _ fun w2 us2 ρ2 H2 R2 x2 hp2 rl2 => ?_
    have hw2 : H2 w = some (.lst us) := x2.fr.keep w _ (fun z => R1'.s.dis w z (.inl (.inr rfl))) upd_same
    obtain ⟨R3, f3⟩ := R2.setOwn (i := j) hp2 rl2 hl.2
    have hne : w ≠ w2 := ne_of_none hw2 hp2
    have rl3 : RepL K ρ2 (AR ρ2 (ZO (ZD Z w) sl σ)) H2 p.1 us := x2.repL (rl.mono f1 List.prefix_rfl)
    have fr3 : Fr (AR ρ2 (ZO (ZD Z w) sl σ)) H2 (AR ρ2 (ZO (ZD Z w) (sl.set j (.own p2.1)) (σ.set j (some (.ref w2))))) (upd H2 w2 (.lst us2)) := ⟨fun a o hn h => by rw [upd_ne (ne_of_none h hp2)]; exact h, fun a h => by
      rcases h with h | h | h
      · exact .inl (.inl h)
      · exact .inl (.inr (.inl h))
      · exact (f3.new a (.inr h)).imp (fun z => z.elim .inl fun z => .inr (.inr z)) id⟩
    obtain ⟨R4, f4⟩ := R3.claim (i := i) (by rw [upd_ne hne]; exact hw2) hz (rl3.mono fr3 List.prefix_rfl) (by rw [List.length_set]; exact hl.1)
    rw [List.set_comm _ _ hij.symm, List.set_comm _ _ hij.symm] at R4
    refine q (.ref w) (.ref w2) _ ρ2 _ rfl rfl R4 (x1.pre.trans x2.pre) ⟨fun a o hn h => ?_, fun a h => ?_⟩
    · have h1 : H1 a = some o := x1.fr.keep a o (fun z => hn (.inl z)) h
      have h1' : upd H1 w (.lst us) a = some o := by rw [upd_ne (ne_of_none h1 hp)]; exact h1
      have h2 : H2 a = some o := x2.fr.keep a o (fun z => (x1.fr.new a z).elim (fun z => hn (.inl z)) fun z => by rw [z] at h; cases h) h1'
      rw [upd_ne (ne_of_none h2 hp2)]
      exact h2
    · rw [List.set_comm _ _ hij, List.set_comm _ _ hij] at h
      have h0 : ∀ b, H1 b = none → H b = none := fun b hb => R1.fresh x1 hb
      rcases f4 a h with z | z
      · rcases f3.new a z with z | z
        · rcases z with z | z
          · rcases x2.fr.new a z with z | z
            · exact (x1.fr.new a z).imp .inl id
            · refine .inr (h0 a ?_)
              by_cases ha : a = w
              · rw [ha]; exact hp
              · rw [upd_ne ha] at z; exact z
          · exact .inl (.inr z)
        · refine .inr (h0 a ?_)
          have h9 : upd H1 w (.lst us) a = none := R2.fresh x2 z
          by_cases ha : a = w
          · rw [ha]; exact hp
          · rw [upd_ne ha] at h9; exact h9
      · rw [z]; exact .inr (h0 w hp)
  · cases e
theorem s_parVO {i j : Nat} {fl : L} (ha : Snd K cls false ta fa) (hb : SndL K cls tb fl) : SndS K cls (tPar i j (tCons ta (tCons tb tNil))) (sParVO i j fa fl) := ⟨fun ρ Z σ H sl st r R e D q => by
  refine par_vo ha hb R e (fun x y H' => ∃ v w, [x, y] = [v, w] ∧ D.nx ((σ.set i (some v)).set j (some w)) H') fun x y σ' ρ' H' es en R' hp fr => ⟨x, y, rfl, ?_⟩
  obtain ⟨o, sl', st'⟩ := r
  cases en
  subst es
  exact q _ ρ' H' R' hp fr⟩
theorem s_parOO {i j : Nat} {fl fl' : L} (hij : i ≠ j) (ha : SndL K cls ta fl) (hb : SndL K cls tb fl') : SndS K cls (tPar i j (tCons ta (tCons tb tNil))) (sParOO i j fl fl') := ⟨fun ρ Z σ H sl st r R e D q => by
  refine par_oo hij ha hb R e (fun x y H' => ∃ v w, [x, y] = [v, w] ∧ D.nx ((σ.set i (some v)).set j (some w)) H') fun x y σ' ρ' H' es en R' hp fr => ⟨x, y, rfl, ?_⟩
  obtain ⟨o, sl', st'⟩ := r
  cases en
  subst es
  exact q _ ρ' H' R' hp fr⟩
/-- through a tuple -/
def tPar2 (K : PySem.W.Frag) (i j : Nat) (ta tb : TE) : TS := tAsg (tTup (tCons ta (tCons tb tNil))) (L2.gTup K 2 (L2.gCons (L2.gName i) (L2.gCons (L2.gName j) L2.gNil)))
theorem par2_end {i j : Nat} {D : Ends} {x y : V} {H' : Hp} (h : ∀ p, H' p = none → D.nx ((σ.set i (some x)).set j (some y)) (upd H' p (.tup [x, y]))) :
    [x, y].length ≤ sizeLine ∧ ∀ p, H' p = none → L2.gTup K 2 (L2.gCons (L2.gName i) (L2.gCons (L2.gName j) L2.gNil)) (.ref p) σ (upd H' p (.tup [x, y])) D.nx :=
  ⟨by show 2 ≤ sizeLine; decide, fun p hp => ⟨p, [x, y], rfl, .of upd_same, rfl, x, [y], rfl, y, [], rfl, rfl, h p hp⟩⟩
theorem s_parVO_t {i j : Nat} {fl : L} (ha : Snd K cls false ta fa) (hb : SndL K cls tb fl) : SndS K cls (tPar2 K i j ta tb) (sParVO i j fa fl) := ⟨fun ρ Z σ H sl st r R e D q => by
  refine par_vo ha hb R e _ fun x y σ' ρ' H' es en R' hp fr => par2_end fun p h0 => ?_
  obtain ⟨o, sl', st'⟩ := r
  cases en
  subst es
  exact q _ ρ' _ (R'.new h0) hp (fr.trans (Ext.new h0).wo)⟩
theorem s_parOO_t {i j : Nat} {fl fl' : L} (hij : i ≠ j) (ha : SndL K cls ta fl) (hb : SndL K cls tb fl') : SndS K cls (tPar2 K i j ta tb) (sParOO i j fl fl') := ⟨fun ρ Z σ H sl st r R e D q => by
  refine par_oo hij ha hb R e _ fun x y σ' ρ' H' es en R' hp fr => par2_end fun p h0 => ?_
  obtain ⟨o, sl', st'⟩ := r
  cases en
  subst es
  exact q _ ρ' _ (R'.new h0) hp (fr.trans (Ext.new h0).wo)⟩
end
section
variable {X : Cx} {K : PySem.W.Frag} [hK : KX X K] {cls : Nat → Addr} {m m' : Bool} {a b c : Expr} {ta tb tc : TE} {fa fb fc : E} {fl fl' : L} {pos p p2 p' : Pos} {x y : Str}
theorem se_isi (k : Nat) {tn : Str} (bt : Bt X.mg) (hb : X.mg tn = none) (hv : bootBuiltins tn = some (.type (tyN k))) (ha : SE X K cls true a ta fa) (hg : Gl X "isinstance" := by rfl) (hg2 : Gl X tn := by rfl) (hn : tn ≠ "__name__" := by decide) (hd : (tn == ("__debug__" : Str)) = false := by decide)
    (hs : starEach [a, .Name tn p2] X.env = (false, eval a X.env) :: starEach [.Name tn p2] X.env := by rfl) (hs2 : starEach [.Name tn p2] X.env = (false, eval (.Name tn p2) X.env) :: starEach [] X.env := by rfl) (hpl : (backTo pos (starEach [.Name tn p2] X.env)).any (·.1) = false := by rfl) :
    SE X K cls m (.Call (.Name "isinstance" p) [a, .Name tn p2] [] pos) (tCB (rIsi K) (tCons ta (tCons (tC (.ty (tyN k))) tNil))) (e1 (oIsi k) fa) :=
  by obtain ⟨rfl⟩ := hK; exact ⟨pe_callB call_isi hg bt.isinstance (by decide +kernel) (pa_cons ha.1 (pa_cons (pe_bltn hg2 hb hv rfl hn hd) pa_nil hs2) hs) (he := hs) (hpl := hpl), snd_isi ha.2⟩
theorem sl_rg1 (bt : Bt X.mg) (ha : SE X K cls true a ta fa) (hg : Gl X "list" := by rfl) (hg2 : Gl X "range" := by rfl) (hc : X.calm = true := by rfl) (na : starEach [a] X.env = (false, eval a X.env) :: starEach [] X.env := by rfl)
    (nb : starEach [.Call (.Name "range" p2) [a] [] p'] X.env = (false, eval (.Call (.Name "range" p2) [a] [] p') X.env) :: starEach [] X.env := by rfl) :
    SL X K cls (.Call (.Name "list" p) [.Call (.Name "range" p2) [a] [] p'] [] pos) (tLstRg (tRg1 ta)) (l1 oRg1 fa) := by obtain ⟨rfl⟩ := hK; exact ⟨pe_listRg hc hg bt.list (prg_1 hg2 bt.range ha.1 na) nb, snd_rg1 ha.2⟩
theorem sl_rg2 (bt : Bt X.mg) (ha : SE X K cls true a ta fa) (hb : SE X K cls true b tb fb) (hg : Gl X "list" := by rfl) (hg2 : Gl X "range" := by rfl) (hc : X.calm = true := by rfl) (na : starEach [a, b] X.env = (false, eval a X.env) :: starEach [b] X.env := by rfl)
    (nb : starEach [b] X.env = (false, eval b X.env) :: starEach [] X.env := by rfl) (hp : (backTo p' (starEach [b] X.env)).any (·.1) = false := by rfl)
    (nc : starEach [.Call (.Name "range" p2) [a, b] [] p'] X.env = (false, eval (.Call (.Name "range" p2) [a, b] [] p') X.env) :: starEach [] X.env := by rfl) :
    SL X K cls (.Call (.Name "list" p) [.Call (.Name "range" p2) [a, b] [] p'] [] pos) (tLstRg (tRg2 ta tb)) (l2 oRg2 fa fb) := by obtain ⟨rfl⟩ := hK; exact ⟨pe_listRg hc hg bt.list (prg_2 hg2 bt.range ha.1 hb.1 na nb hp) nc, snd_rg2 ha.2 hb.2⟩
section
variable {px py pt : Pos} {kt k2 : Nat} {pt2 : Pos}
theorem ss_parvo (i j : Nat) (hN : X.N.Nodup) (ha : SE X K cls false a ta fa) (hb : SL X K cls b tb fl) (hi : X.N[i]? = some x := by rfl) (hj : X.N[j]? = some y := by rfl) (hij : i ≠ j := by decide)
    (hx : X.env.scope.names.lookup x = some .local := by rfl) (hy : X.env.scope.names.lookup y = some .local := by rfl) (hc : X.calm = true := by rfl)
    (h1 : starEach [a, b] X.env = (false, eval a X.env) :: starEach [b] X.env := by rfl) (h2 : starEach [b] X.env = (false, eval b X.env) :: starEach [] X.env := by rfl)
    (hw : swappedStores [.Tuple [.Name x px, .Name y py] kt pt] (.Tuple [a, b] k2 pt2) X.env = pure (some [x, y]) := by rfl)
    (hs : swapsWithSole [.Tuple [.Name x px, .Name y py] kt pt] (.Tuple [a, b] k2 pt2) pos.line X.env = pure false := by rfl) :
    SS X K cls (.Assign [.Tuple [.Name x px, .Name y py] kt pt] (.Tuple [a, b] k2 pt2) pos) (tPar i j (tCons ta (tCons tb tNil))) (sParVO i j fa fl) :=
  by obtain ⟨rfl⟩ := hK; exact ⟨ps_par hc hN hi hj hij hx hy (pa_cons ha.1 (pa_cons hb.1 pa_nil h2) h1) hw hs, s_parVO ha.2 hb.2⟩
theorem ss_paroo (i j : Nat) (hN : X.N.Nodup) (ha : SL X K cls a ta fl) (hb : SL X K cls b tb fl') (hi : X.N[i]? = some x := by rfl) (hj : X.N[j]? = some y := by rfl) (hij : i ≠ j := by decide)
    (hx : X.env.scope.names.lookup x = some .local := by rfl) (hy : X.env.scope.names.lookup y = some .local := by rfl) (hc : X.calm = true := by rfl)
    (h1 : starEach [a, b] X.env = (false, eval a X.env) :: starEach [b] X.env := by rfl) (h2 : starEach [b] X.env = (false, eval b X.env) :: starEach [] X.env := by rfl)
    (hw : swappedStores [.Tuple [.Name x px, .Name y py] kt pt] (.Tuple [a, b] k2 pt2) X.env = pure (some [x, y]) := by rfl)
    (hs : swapsWithSole [.Tuple [.Name x px, .Name y py] kt pt] (.Tuple [a, b] k2 pt2) pos.line X.env = pure false := by rfl) :
    SS X K cls (.Assign [.Tuple [.Name x px, .Name y py] kt pt] (.Tuple [a, b] k2 pt2) pos) (tPar i j (tCons ta (tCons tb tNil))) (sParOO i j fl fl') :=
  by obtain ⟨rfl⟩ := hK; exact ⟨ps_par hc hN hi hj hij hx hy (pa_cons ha.1 (pa_cons hb.1 pa_nil h2) h1) hw hs, s_parOO hij ha.2 hb.2⟩
theorem ps_par2 {i j : Nat} (hN : X.N.Nodup) (ha : PE X a ta) (hb : PE X b tb) (hi : X.N[i]? = some x) (hj : X.N[j]? = some y) (hx : Loc X.env.scope x) (hfx : X.fn x = true ∨ X.env.scope.names.lookup x = some .local) (hy : Loc X.env.scope y) (hfy : X.fn y = true ∨ X.env.scope.names.lookup y = some .local)
    (h1 : starEach [a, b] X.env = (false, eval a X.env) :: starEach [b] X.env) (h2 : starEach [b] X.env = (false, eval b X.env) :: starEach [] X.env) (hc : X.calm = true)
    (g0 : (assignEach [.Name x px, .Name y py] X.env).map (·.2) = assign (.Name x px) X.env :: (assignEach [.Name y py] X.env).map (·.2)) (g1 : (assignEach [.Name y py] X.env).map (·.2) = assign (.Name y py) X.env :: (assignEach [] X.env).map (·.2))
    (hn : (assignEach [.Name x px, .Name y py] X.env).length = 2) (hst : (assignEach [.Name x px, .Name y py] X.env).findIdx? (·.1) = none)
    (hs : swapsWithSole [.Tuple [.Name x px, .Name y py] kt pt] (.Tuple [a, b] k2 pt2) pos.line X.env = pure false) (hw : swappedStores [.Tuple [.Name x px, .Name y py] kt pt] (.Tuple [a, b] k2 pt2) X.env = pure none)
    (ht : (assignEach [.Tuple [.Name x px, .Name y py] kt pt] X.env).map (·.2) = [assign (.Tuple [.Name x px, .Name y py] kt pt) X.env]) :
    PS X (.Assign [.Tuple [.Name x px, .Name y py] kt pt] (.Tuple [a, b] k2 pt2) pos) (tPar2 K i j ta tb) :=
  by obtain ⟨rfl⟩ := hK; exact ps_asg (pe_tup (pa_cons ha (pa_cons hb pa_nil h2) h1)) (pg_tup hc (pgs_cons (pg_name hN hi hx hfx) (pgs_cons (pg_name hN hj hy hfy) pgs_nil g1) g0) hn hst) hs hw ht
theorem ss_parvo_t (i j : Nat) (hN : X.N.Nodup) (ha : SE X K cls false a ta fa) (hb : SL X K cls b tb fl) (hi : X.N[i]? = some x := by rfl) (hj : X.N[j]? = some y := by rfl)
    (hx : Loc X.env.scope x := by first | exact Or.inl rfl | exact Or.inr rfl) (hfx : X.fn x = true ∨ X.env.scope.names.lookup x = some .local := by first | exact .inl rfl | exact .inr rfl) (hy : Loc X.env.scope y := by first | exact Or.inl rfl | exact Or.inr rfl) (hfy : X.fn y = true ∨ X.env.scope.names.lookup y = some .local := by first | exact .inl rfl | exact .inr rfl)
    (h1 : starEach [a, b] X.env = (false, eval a X.env) :: starEach [b] X.env := by rfl) (h2 : starEach [b] X.env = (false, eval b X.env) :: starEach [] X.env := by rfl) (hc : X.calm = true := by rfl)
    (g0 : (assignEach [.Name x px, .Name y py] X.env).map (·.2) = assign (.Name x px) X.env :: (assignEach [.Name y py] X.env).map (·.2) := by rfl) (g1 : (assignEach [.Name y py] X.env).map (·.2) = assign (.Name y py) X.env :: (assignEach [] X.env).map (·.2) := by rfl)
    (hn : (assignEach [.Name x px, .Name y py] X.env).length = 2 := by rfl) (hst : (assignEach [.Name x px, .Name y py] X.env).findIdx? (·.1) = none := by rfl)
    (hs : swapsWithSole [.Tuple [.Name x px, .Name y py] kt pt] (.Tuple [a, b] k2 pt2) pos.line X.env = pure false := by rfl) (hw : swappedStores [.Tuple [.Name x px, .Name y py] kt pt] (.Tuple [a, b] k2 pt2) X.env = pure none := by rfl)
    (ht : (assignEach [.Tuple [.Name x px, .Name y py] kt pt] X.env).map (·.2) = [assign (.Tuple [.Name x px, .Name y py] kt pt) X.env] := by rfl) :
    SS X K cls (.Assign [.Tuple [.Name x px, .Name y py] kt pt] (.Tuple [a, b] k2 pt2) pos) (tPar2 K i j ta tb) (sParVO i j fa fl) := by obtain ⟨rfl⟩ := hK; exact ⟨ps_par2 hN ha.1 hb.1 hi hj hx hfx hy hfy h1 h2 hc g0 g1 hn hst hs hw ht, s_parVO_t ha.2 hb.2⟩
theorem ss_paroo_t (i j : Nat) (hN : X.N.Nodup) (ha : SL X K cls a ta fl) (hb : SL X K cls b tb fl') (hij : i ≠ j := by decide) (hi : X.N[i]? = some x := by rfl) (hj : X.N[j]? = some y := by rfl)
    (hx : Loc X.env.scope x := by first | exact Or.inl rfl | exact Or.inr rfl) (hfx : X.fn x = true ∨ X.env.scope.names.lookup x = some .local := by first | exact .inl rfl | exact .inr rfl) (hy : Loc X.env.scope y := by first | exact Or.inl rfl | exact Or.inr rfl) (hfy : X.fn y = true ∨ X.env.scope.names.lookup y = some .local := by first | exact .inl rfl | exact .inr rfl)
    (h1 : starEach [a, b] X.env = (false, eval a X.env) :: starEach [b] X.env := by rfl) (h2 : starEach [b] X.env = (false, eval b X.env) :: starEach [] X.env := by rfl) (hc : X.calm = true := by rfl)
    (g0 : (assignEach [.Name x px, .Name y py] X.env).map (·.2) = assign (.Name x px) X.env :: (assignEach [.Name y py] X.env).map (·.2) := by rfl) (g1 : (assignEach [.Name y py] X.env).map (·.2) = assign (.Name y py) X.env :: (assignEach [] X.env).map (·.2) := by rfl)
    (hn : (assignEach [.Name x px, .Name y py] X.env).length = 2 := by rfl) (hst : (assignEach [.Name x px, .Name y py] X.env).findIdx? (·.1) = none := by rfl)
    (hs : swapsWithSole [.Tuple [.Name x px, .Name y py] kt pt] (.Tuple [a, b] k2 pt2) pos.line X.env = pure false := by rfl) (hw : swappedStores [.Tuple [.Name x px, .Name y py] kt pt] (.Tuple [a, b] k2 pt2) X.env = pure none := by rfl)
    (ht : (assignEach [.Tuple [.Name x px, .Name y py] kt pt] X.env).map (·.2) = [assign (.Tuple [.Name x px, .Name y py] kt pt) X.env] := by rfl) :
    SS X K cls (.Assign [.Tuple [.Name x px, .Name y py] kt pt] (.Tuple [a, b] k2 pt2) pos) (tPar2 K i j ta tb) (sParOO i j fl fl') := by obtain ⟨rfl⟩ := hK; exact ⟨ps_par2 hN ha.1 hb.1 hi hj hx hfx hy hfy h1 h2 hc g0 g1 hn hst hs hw ht, s_parOO_t hij ha.2 hb.2⟩
end
end
/-- a list of ints at a, in the heap or in what K holds -/
def ScrAt (K : PySem.W.Frag) (H : Hp) (a : Addr) (ns : List Int) : Prop := Rd H a (.lst (ns.map V.int)) ∨ ∀ H', SqL K H' a (ns.map V.int)
theorem scr_of {K : PySem.W.Frag} {H : Hp} {a : Addr} {ns : List Int} (h : SqL K H a (ns.map V.int)) : ScrAt K H a ns := h.imp id fun z _ => .inr z
/-- room for what == and in ask -/
theorem hu65 {k : Nat} {A : Around} (r : Room k A) : A.units + 65 < cLine := by have := r.un; omega
end Mi

set_option Elab.async false
set_option linter.all false
set_option maxRecDepth 100000
set_option maxHeartbeats 1000000
/-! Mi: stores at a place, augmented stores, raises, lists taken apart. -/
namespace Mi
open PySem PySem.Spec PyProof.Rows L2
variable [Gam]

/-- nothing is promised -/
def sFail : S := fun _ _ => none
/-- o[i] = e, o a list of the store -/
def sSub (o i e : E) : S := fun sl st => (e sl st).bind fun p => (o sl p.2).bind fun q => (i sl q.2).bind fun r => match q.1, r.1 with
  | .ref n, .int k => match r.2[n]? with
    | some (.lst xs) => match L2.ixN xs.length k with
      | some j => some (.nx, sl, r.2.set n (.lst (xs.set j p.1)))
      | none => none
    | _ => none
  | _, _ => none
/-- o[i] += e -/
def sSubA (o i e : E) : S := fun sl st => (o sl st).bind fun q => (i sl q.2).bind fun r => match q.1, r.1 with
  | .ref n, .int k => match r.2[n]? with
    | some (.lst xs) => match L2.atI xs k with
      | some (.int x) => (e sl r.2).bind fun p => match p.1 with
        | .int y => match p.2[n]? with
          | some (.lst ys) => match L2.ixN ys.length k with
            | some j => some (.nx, sl, p.2.set n (.lst (ys.set j (.int (x + y)))))
            | none => none
          | _ => none
        | _ => none
      | _ => none
    | _ => none
  | _, _ => none
/-- o.f += e -/
def sFldA (C k : Nat) (o e : E) : S := fun sl st => (o sl st).bind fun q => match q.1 with
  | .ref n => match q.2[n]? with
    | some (.ins D vs) => if D = C then match vs[k]? with
      | some (.int x) => (e sl q.2).bind fun p => match p.1 with
        | .int y => match p.2[n]? with
          | some (.ins D' ws) => if D' = C ∧ k < ws.length then some (.nx, sl, p.2.set n (.ins C (ws.set k (.int (x + y))))) else none
          | _ => none
        | _ => none
      | _ => none
      else none
    | _ => none
  | _ => none
/-- (a, b, ..) = a list -/
def gUnl (n : Nat) (r : Gs) : G := fun v sl st => match v with
  | .lst xs => if xs.length = n then r xs sl st else none
  | .ref i => match st[i]? with
    | some (.lst xs) => if xs.length = n then r xs sl st else none
    | _ => none
  | _ => none

section
variable {K : PySem.W.Frag} {cls : Nat → Addr} {ρ ρ' : List Addr} {Z : Addr → Prop} {σ : L2.St} {H H' : Hp} {sl : Sl} {st st' : Sto} {m m' : Bool} {ta ti to : TE} {fa fi fo : E} {C k : Nat}
theorem s_fail {t : TS} : SndS K cls t sFail := ⟨fun ρ Z σ H sl st r R e => by cases e⟩
theorem snd_unl {is : List Nat} {n : Nat} {ts : TGs} {fs : Gs} (hs : SndGs K cls is ts fs) : SndG K cls is (L2.gUnl K n ts) (gUnl n fs) := ⟨fun ρ Z σ H sl st v u sl' R r e Q q => by
  cases r <;> first | cases e | skip
  · rename_i i a hi
    have e' : (match st[i]? with
      | some (.lst xs) => if xs.length = n then fs xs sl st else none
      | _ => none) = some sl' := e
    split at e'
    · rename_i xs hx
      obtain ⟨us, w1, w2⟩ := R.s.cells i _ a hx hi
      split at e'
      · rename_i hl
        exact ⟨a, us, rfl, .inl (.of w1), by rw [← w2.length]; exact hl, hs.run ρ Z σ H sl st xs us sl' R w2 e' Q q⟩
      · cases e'
    · cases e'
  · rename_i a xs us t r
    have e' : (if xs.length = n then fs xs sl st else none) = some sl' := e
    split at e'
    · rename_i hl
      exact ⟨a, us, rfl, lst_sq t, by rw [← r.length]; exact hl, hs.run ρ Z σ H sl st xs us sl' R r e' Q q⟩
    · cases e'⟩
theorem rep_int {x : Int} {u : V} {A : Addr → Prop} (h : Rep K ρ A H (.int x) u) : u = .int x := by cases h; rfl
theorem s_sub (ho : Snd K cls m to fo) (hi : Snd K cls m' ti fi) (ha : Snd K cls false ta fa) : SndS K cls (tAsg ta (gSub to ti L2.rSetL)) (sSub fo fi fa) := ⟨fun ρ Z σ H sl st r R e D q => by
  obtain ⟨p, e1, e⟩ := bind_some e
  obtain ⟨p2, e2, e⟩ := bind_some e
  obtain ⟨p3, e3, e⟩ := bind_some e
  split at e
  · rename_i n k hn hk
    split at e
    · rename_i xs hx
      split at e
      · rename_i j hj
        cases e
        refine ha.run ρ Z σ H sl st p.1 p.2 R e1 _ fun v ρ1 H1 R1 x1 r1 => ?_
        refine ho.run ρ1 Z σ H1 sl p.2 p2.1 p2.2 R1 e2 _ fun u ρ2 H2 R2 x2 r2 => ?_
        rw [hn] at r2
        obtain ⟨a, rfl, hρ⟩ := ref_inv r2
        refine hi.run ρ2 Z σ H2 sl p2.2 p3.1 p3.2 R2 e3 _ fun w ρ3 H3 R3 x3 r3 => ?_
        rw [hk] at r3
        have hw : w = .int k := int_inv r3
        subst hw
        obtain ⟨us, v1, v2⟩ := R3.s.cells n _ a hx (x3.at hρ)
        refine ⟨a, us, k, j, rfl, rfl, v1, by rw [← v2.length]; exact hj, ?_⟩
        have x4 : Ext ρ3 H3 ρ3 (upd H3 a (.lst (us.set j v))) := .set (x3.at hρ)
        refine q σ ρ3 _ (R3.set (x3.at hρ) ⟨us.set j v, upd_same, (x4.repL v2).set (x4.rep ((r1.ext x2).ext x3).rep) j⟩) (((x1.trans x2).trans x3).trans x4).pre (((x1.trans x2).trans x3).trans x4).wo
      · cases e
    · cases e
  · cases e⟩
theorem s_subA (ho : Snd K cls m to fo) (hi : Snd K cls m' ti fi) (ha : Snd K cls false ta fa) : SndS K cls (tAugS to ti ta (rIxL K) (ipI fun i j => i + j) L2.rSetL) (sSubA fo fi fa) := ⟨fun ρ Z σ H sl st r R e D q => by
  obtain ⟨p2, e2, e⟩ := bind_some e
  obtain ⟨p3, e3, e⟩ := bind_some e
  split at e
  · rename_i n k hn hk
    split at e
    · rename_i xs hx
      split at e
      · rename_i x hxk
        obtain ⟨p, e1, e⟩ := bind_some e
        split at e
        · rename_i y hy
          split at e
          · rename_i ys hys
            split at e
            · rename_i j hj
              cases e
              refine ho.run ρ Z σ H sl st p2.1 p2.2 R e2 _ fun u ρ2 H2 R2 x2 r2 => ?_
              rw [hn] at r2
              obtain ⟨a, rfl, hρ⟩ := ref_inv r2
              refine hi.run ρ2 Z σ H2 sl p2.2 p3.1 p3.2 R2 e3 _ fun w ρ3 H3 R3 x3 r3 => ?_
              rw [hk] at r3
              have hw : w = .int k := int_inv r3
              subst hw
              obtain ⟨us, v1, v2⟩ := R3.s.cells n _ a hx (x3.at hρ)
              obtain ⟨u0, w1, w2⟩ := atI_rep v2 hxk
              have := rep_int w2
              subst this
              refine ⟨a, us, k, _, rfl, rfl, .inl (.of v1), w1, ?_⟩
              refine ha.run ρ3 Z σ H3 sl p3.2 p.1 p.2 R3 e1 _ fun v ρ4 H4 R4 x4 r4 => ?_
              rw [hy] at r4
              have := rep_int r4.rep
              subst this
              obtain ⟨us', z1, z2⟩ := R4.s.cells n _ a hys (x4.at (x3.at hρ))
              have x5 : Ext ρ4 H4 ρ4 (upd H4 a (.lst (us'.set j (.int (x + y))))) := .set (x4.at (x3.at hρ))
              exact ⟨x, y, rfl, rfl, a, us', k, j, rfl, rfl, z1, by rw [← z2.length]; exact hj,
                q σ ρ4 _ (R4.set (x4.at (x3.at hρ)) ⟨us'.set j (.int (x + y)), upd_same, (x5.repL z2).set (.int _) j⟩) (((x2.trans x3).trans x4).trans x5).pre (((x2.trans x3).trans x4).trans x5).wo⟩
            · cases e
          · cases e
        · cases e
      · cases e
    · cases e
  · cases e⟩
theorem s_fldA {f : Str} (h : At K cls C k f) (ho : Snd K cls m to fo) (ha : Snd K cls false ta fa) (h9 : (nms C).length < 900) : SndS K cls (L2.sFldAug K to ta rAdd f) (sFldA C k fo fa) := ⟨fun ρ Z σ H sl st r R e D q => by
  obtain ⟨p2, e2, e⟩ := bind_some e
  split at e
  · rename_i n hn
    split at e
    · rename_i E0 vs hx
      split at e
      · rename_i hE
        subst hE
        split at e
        · rename_i x hxk
          obtain ⟨p, e1, e⟩ := bind_some e
          split at e
          · rename_i y hy
            split at e
            · rename_i E1 ws hws
              split at e
              · rename_i hc
                obtain ⟨hc1, hc2⟩ := hc
                subst hc1
                cases e
                refine ho.run ρ Z σ H sl st p2.1 p2.2 R e2 _ fun u ρ2 H2 R2 x2 r2 => ?_
                rw [hn] at r2
                obtain ⟨a, rfl, hρ⟩ := ref_inv r2
                obtain ⟨dx, us, w1, w2, w3⟩ := R2.s.cells n _ a hx hρ
                obtain ⟨u0, y1, y2⟩ := w3.get hxk
                have := rep_int y2
                subst this
                refine ⟨a, cls E1, dx, _, _, rfl, w1, h.cl, h.no, lookup_zip h.nd h.ix y1, ?_⟩
                refine ha.run ρ2 Z σ H2 sl p2.2 p.1 p.2 R2 e1 _ fun v ρ3 H3 R3 x3 r3 => ?_
                rw [hy] at r3
                have := rep_int r3.rep
                subst this
                obtain ⟨dx', us', z1, z2, z3⟩ := R3.s.cells n _ a hws (x3.at hρ)
                refine ⟨x, y, rfl, rfl, dx', _, z1, by rw [List.length_zip]; omega, ?_⟩
                have x4 : ∀ o, Ext ρ3 H3 ρ3 (upd H3 a o) := fun o => .set (x3.at hρ)
                rw [(putF_zip (v := .int (x + y)) (us := us') h.nd h.ix).1 (by rw [← z3.length]; exact hc2)]
                exact q σ ρ3 _ (R3.set (x3.at hρ) ⟨dx', us'.set k (.int (x + y)), upd_same, by rw [List.length_set]; exact z2, (x4 _).repL (z3.set (.int _) k)⟩) (x2.trans x3).pre (Ext.wo ((x2.trans x3).trans (x4 _)))
              · cases e
            · cases e
          · cases e
        · cases e
      · cases e
    · cases e
  · cases e⟩
end
theorem get_list {X : Cx} : PGet X (rIxL X.K) := by
  intro pins s σ H x y v u Q I rx ry h
  obtain ⟨p, xs, i, z, rfl, rfl, hq, he, q⟩ := h
  cases rx
  obtain ⟨t, rfl⟩ := ry
  obtain ⟨its, r, pl, hz⟩ := I.list hq
  obtain ⟨j, h1, h2, h3, h4, h5⟩ := atI_get he
  obtain ⟨w, ew, rw'⟩ := r.get h2
  have hl := r.length
  have hn := line63
  have fin : EP X pins σ Q w s := ⟨z, H, I, rw', q⟩
  by_cases h0 : 0 ≤ i
  · have hj : i.toNat = j := by
      rw [seqIndex_of h0 h5] at h1
      exact Option.some.inj h1
    exact wpAny_getItem_list pl.isList h0 (by omega) (by rw [hj]; simpa using ew) fin
  · have hj : (i + (its.toArray.size : Int)).toNat = j := by
      rw [seqIndex_neg (by omega) h4] at h1
      rw [List.size_toArray, ← hl]
      exact Option.some.inj h1
    exact wpAny_getItem_list_neg pl.isList (by omega) (by rw [List.size_toArray] <;> omega) (by omega) (by rw [hj]; simpa using ew) fin
section
variable {X : Cx} {K : PySem.W.Frag} [hK : KX X K] {cls : Nat → Addr} {m m' : Bool} {a b c e o i tg : Expr} {es : List Expr} {ta ti to te : TE} {fa fi fo fe : E} {pos p p' tpos : Pos} {C k : Nat} {nm : Str}
theorem ss_raise {s : Stmt} : SS X K cls s tNever sFail := ⟨ps_never, s_fail⟩
theorem ss_sub (ho : SE X K cls true o to fo) (hi : SE X K cls true i ti fi) (he : SE X K cls false e te fe)
    (ha : ∀ v, assign (.Subscript o i tpos) X.env v = (do
      let ov ← holding [v] (eval o X.env)
      let iv ← holding [v, ov] (eval i X.env)
      standAt tpos
      holding [v, ov, iv] (setItem ov iv v)
      release [v, ov, iv] []) := by intro _; rfl) (hs : swapsWithSole [.Subscript o i tpos] e pos.line X.env = pure false := by rfl) (hw : swappedStores [.Subscript o i tpos] e X.env = pure none := by rfl)
    (h1 : (assignEach [.Subscript o i tpos] X.env).map (·.2) = [assign (.Subscript o i tpos) X.env] := by rfl) :
    SS X K cls (.Assign [.Subscript o i tpos] e pos) (tAsg te (gSub to ti L2.rSetL)) (sSub fo fi fe) := ⟨ps_asg he.1 (pg_sub ho.1 hi.1 set_list ha) hs hw h1, s_sub ho.2 hi.2 he.2⟩
theorem ss_subA (ho : SE X K cls true o to fo) (hi : SE X K cls true i ti fi) (he : SE X K cls false e te fe)
    (ha : ∀ ov iv new, augStore i ov iv new = (do holding [new, ov, iv] (setItem ov iv new); release [new, ov, iv] []; pure .next) := by intros; rfl) :
    SS X K cls (.AugAssign (.Subscript o i tpos) .Add e pos) (tAugS to ti te (rIxL K) (ipI fun i j => i + j) L2.rSetL) (sSubA fo fi fe) := by obtain ⟨rfl⟩ := hK; exact ⟨ps_augS ho.1 hi.1 get_list he.1 ip_add set_list ha, s_subA ho.2 hi.2 he.2⟩
theorem ss_fldA (h : At K cls C k nm) (ho : SE X K cls true o to fo) (he : SE X K cls false e te fe) (h9 : (nms C).length < 900 := by decide) :
    SS X K cls (.AugAssign (.Attribute o nm tpos) .Add e pos) (L2.sFldAug K to te L2.rAdd nm) (sFldA C k fo fe) := by obtain ⟨rfl⟩ := hK; exact ⟨ps_fldaug ho.1 he.1 in_add, s_fldA h ho.2 he.2 h9⟩
theorem sg_unl {is : List Nat} {kk n : Nat} {ts : TGs} {fs : Gs} (h : SGs X K cls is es ts fs) (hc : X.calm = true := by rfl) (hn : (assignEach es X.env).length = n := by rfl) (hst : (assignEach es X.env).findIdx? (·.1) = none := by rfl) :
    SG X K cls is (.Tuple es kk pos) (L2.gUnl K n ts) (gUnl n fs) := by obtain ⟨rfl⟩ := hK; exact ⟨pg_unl hc h.1 hn hst, snd_unl h.2⟩
/-- a list, a tuple of the module -/
theorem se_gt {x : Str} {v : Val} {mg : Str → Option Value} (hm : ∃ a, mg x = some (.ref a) ∧ ∀ (ρ : List Addr) (A : Addr → Prop) (H : Hp), Rep K ρ A H v (.ref a)) (hmg : X.mg = mg := by rfl) (hg : Gl X x := by rfl) (hd : (x == ("__debug__" : Str)) = false := by decide) : SE X K cls m (.Name x pos) (tC (.ref hm.choose)) (eC v) :=
  ⟨pe_glob hg (hmg ▸ hm.choose_spec.1) rfl hd, snd_c hm.choose_spec.2⟩
end
end Mi

set_option Elab.async false
set_option linter.all false
set_option maxRecDepth 100000
set_option maxHeartbeats 1000000
/-! Mi: dicts that are places of the store, keys numbers and texts. -/
namespace Mi
open PySem PySem.Spec PyProof.Rows L2
variable [Gam]

def keyOf : Val → Option Key
  | .int i => some (.inl i)
  | .str s => some (.inr s)
  | _ => none
def valD (kvs : List (Key × Val)) (k : Key) : Option Val := (kvs.find? fun kv => decide (kv.1 = k)).map (·.2)
def putD (kvs : List (Key × Val)) (k : Key) (v : Val) : List (Key × Val) :=
  if (kvs.any fun kv => decide (kv.1 = k)) = true then kvs.map (fun kv => if kv.1 = k then (kv.1, v) else kv) else kvs ++ [(k, v)]
def dictAt (st : Sto) : Val → Option (List (Key × Val))
  | .ref n => match st[n]? with
    | some (.dk kvs) => some kvs
    | _ => none
  | _ => none
/-- {} -/
def eDN : E := fun _ st => some (.ref st.length, st ++ [.dk []])
/-- {k: v, ..} with texts as keys -/
def eDsp (ks : List Str) (l : L) : E := fun sl st => (l sl (st ++ [.dk []])).bind fun p => match p.2[st.length]? with
  | some (.dk []) => some (.ref st.length, p.2.set st.length (.dk ((ks.map Sum.inr).zip p.1)))
  | _ => none
def oDGet : Sto → Val → Val → Option Val := fun st x y => (dictAt st x).bind fun kvs => (keyOf y).bind fun k => valD kvs k
/-- d.get(i, e) -/
def eDGet2 (o i e : E) : E := fun sl st => (o sl st).bind fun p => (dictAt p.2 p.1).bind fun _ => (i sl p.2).bind fun q => (e sl q.2).bind fun r =>
  (dictAt r.2 p.1).bind fun kvs => (keyOf q.1).bind fun k => some ((valD kvs k).getD r.1, r.2)
/-- d[i] = e -/
def sDSet (o i e : E) : S := fun sl st => (e sl st).bind fun p => (o sl p.2).bind fun q => (i sl q.2).bind fun r => match q.1 with
  | .ref n => match r.2[n]? with
    | some (.dk kvs) => (keyOf r.1).bind fun k => if kvs.length < 1000 then some (.nx, sl, r.2.set n (.dk (putD kvs k p.1))) else none
    | _ => none
  | _ => none

/-- a, b, c = .. -/
def sPar3 (i j l : Nat) (a b c : E) : S := fun sl st => (a sl st).bind fun p => (b sl p.2).bind fun q => (c sl q.2).bind fun r => if i < sl.length ∧ j < sl.length ∧ l < sl.length then some (.nx, ((sl.set i (.val p.1)).set j (.val q.1)).set l (.val r.1), r.2) else none
section
variable {K : PySem.W.Frag} {cls : Nat → Addr} {ρ ρ' : List Addr} {A : Addr → Prop} {Z : Addr → Prop} {σ : L2.St} {H H' : Hp} {sl : Sl} {st st' : Sto} {m m' : Bool} {x y : Val} {u v : V}
theorem valD_pos {p : Key × Val} {r : List (Key × Val)} {k : Key} (e : p.1 = k) : valD (p :: r) k = some p.2 := by simp [valD, List.find?_cons, e]
theorem valD_neg {p : Key × Val} {r : List (Key × Val)} {k : Key} (e : ¬ p.1 = k) : valD (p :: r) k = valD r k := by simp [valD, List.find?_cons, e]
theorem kv_get : ∀ {kvs : List (Key × Val)} {kvu : List (Key × V)}, kvu.map (·.1) = kvs.map (·.1) → RepL K ρ A H (kvs.map (·.2)) (kvu.map (·.2)) → ∀ k, (valD kvs k = none ∧ valV kvu k = none) ∨ ∃ v u, valD kvs k = some v ∧ valV kvu k = some u ∧ Rep K ρ A H v u
  | [], [], _, _, k => .inl ⟨rfl, rfl⟩
  | [], _ :: _, e, _, _ => by cases e
  | _ :: _, [], e, _, _ => by cases e
  | p :: r, q :: s, e, h, k => by
    rw [List.map_cons, List.map_cons] at e h
    injection e with e1 e2
    cases h with
    | cons h1 h2 =>
      by_cases hk : p.1 = k
      · exact .inr ⟨p.2, q.2, valD_pos hk, valV_pos (e1.trans hk), h1⟩
      · rw [valD_neg hk, valV_neg (fun z => hk (e1.symm.trans z))]
        exact kv_get e2 h2 k
theorem kv_map {k : Key} (r0 : Rep K ρ A H x u) : ∀ {kvs : List (Key × Val)} {kvu : List (Key × V)}, kvu.map (·.1) = kvs.map (·.1) → RepL K ρ A H (kvs.map (·.2)) (kvu.map (·.2)) →
    (kvu.map fun kv => if kv.1 = k then (kv.1, u) else kv).map (·.1) = (kvs.map fun kv => if kv.1 = k then (kv.1, x) else kv).map (·.1) ∧ RepL K ρ A H ((kvs.map fun kv => if kv.1 = k then (kv.1, x) else kv).map (·.2)) ((kvu.map fun kv => if kv.1 = k then (kv.1, u) else kv).map (·.2))
  | [], [], _, _ => ⟨rfl, .nil⟩
  | [], _ :: _, e, _ => by cases e
  | _ :: _, [], e, _ => by cases e
  | p :: r, q :: s, e, h => by
    rw [List.map_cons, List.map_cons] at e h
    injection e with e1 e2
    cases h with
    | cons h1 h2 =>
      obtain ⟨i1, i2⟩ := kv_map r0 e2 h2
      simp only [List.map_cons]
      rw [i1]
      by_cases hk : p.1 = k
      · rw [if_pos hk, if_pos (e1.trans hk)]
        exact ⟨by rw [e1], .cons r0 i2⟩
      · rw [if_neg hk, if_neg (fun z => hk (e1.symm.trans z))]
        exact ⟨by rw [e1], .cons h1 i2⟩
theorem any_fst {α : Type} {k : Key} (kvs : List (Key × α)) : (kvs.any fun kv => decide (kv.1 = k)) = (kvs.map (·.1)).any fun j => decide (j = k) := by rw [List.any_map]; rfl
theorem kv_put {kvs : List (Key × Val)} {kvu : List (Key × V)} (k : Key) (r0 : Rep K ρ A H x u) (e : kvu.map (·.1) = kvs.map (·.1)) (h : RepL K ρ A H (kvs.map (·.2)) (kvu.map (·.2))) :
    (putK kvu k u).map (·.1) = (putD kvs k x).map (·.1) ∧ RepL K ρ A H ((putD kvs k x).map (·.2)) ((putK kvu k u).map (·.2)) := by
  unfold putK putD
  rw [any_fst kvu, any_fst kvs, e]
  split
  · exact kv_map r0 e h
  · rw [List.map_append, List.map_append, List.map_append, List.map_append, e]
    exact ⟨rfl, h.append (.cons r0 .nil)⟩
theorem keyOf_rep {k : Key} (h : keyOf x = some k) (r : RepM K m ρ Z σ H sl x u) : u = kV k := by
  cases x <;> first | cases h | skip
  · exact int_inv r
  · rcases r with r | ⟨_, _, _, _, z, _⟩
    · cases r; rfl
    · cases z
theorem dictAt_ref {kvs : List (Key × Val)} (h : dictAt st x = some kvs) : ∃ n, x = .ref n ∧ st[n]? = some (.dk kvs) := by
  cases x <;> first | cases h | skip
  rename_i n
  have h' : (match st[n]? with
    | some (.dk kvs) => some kvs
    | _ => none) = some kvs := h
  split at h'
  · rename_i hx
    cases h'
    exact ⟨n, rfl, hx⟩
  · cases h'
section
variable {to ti te : TE} {fo fi fe : E}
theorem snd_dn : Snd K cls m tDNewK eDN := ⟨fun ρ Z σ H sl st d st' R e Q q => by
  cases e
  intro p hp
  refine q _ (ρ ++ [p]) _ (R.push hp ⟨[], upd_same, rfl, .nil⟩) (.push hp) (.of (.ref ?_))
  rw [← R.s.len, List.getElem?_append_right (Nat.le_refl _), Nat.sub_self] <;> rfl⟩
theorem snd_dget (ho : Snd K cls m' to fo) (hi : Snd K cls true ti fi) : Snd K cls m (tDGet to ti) (e2 oDGet fo fi) := ⟨fun ρ Z σ H sl st d st' R e Q q => by
  obtain ⟨p, e1, e⟩ := bind_some e
  obtain ⟨p2, e2, e⟩ := bind_some e
  obtain ⟨z, e3, e⟩ := bind_some e
  cases e
  obtain ⟨kvs, h1, h2⟩ := bind_some e3
  obtain ⟨k, h3, h4⟩ := bind_some h2
  obtain ⟨n, hx, hc⟩ := dictAt_ref h1
  refine ho.run ρ Z σ H sl st p.1 p.2 R e1 _ fun u ρ1 H1 R1 x1 r1 => ?_
  rw [hx] at r1
  obtain ⟨a, rfl, hρ⟩ := ref_inv r1
  refine hi.run ρ1 Z σ H1 sl p.2 p2.1 p2.2 R1 e2 _ fun w ρ2 H2 R2 x2 r2 => ?_
  have := keyOf_rep h3 r2
  subst this
  obtain ⟨kvu, w1, w2, w3⟩ := R2.s.cells n _ a hc (x2.at hρ)
  rcases kv_get w2 w3 k with ⟨z1, z2⟩ | ⟨v', u', z1, z2, z3⟩
  · rw [h4] at z1; cases z1
  · rw [h4] at z1
    cases z1
    exact ⟨a, u', rfl, z2 ▸ DGet.k w1, q _ ρ2 _ R2 (x1.trans x2) (.of z3)⟩⟩
theorem snd_dget2 (ho : Snd K cls m' to fo) (hi : Snd K cls true ti fi) (he : Snd K cls false te fe) : Snd K cls m (tDGet2 to ti te) (eDGet2 fo fi fe) := ⟨fun ρ Z σ H sl st d st' R e Q q => by
  obtain ⟨p, e1, e⟩ := bind_some e
  obtain ⟨kv0, h0, e⟩ := bind_some e
  obtain ⟨p2, e2, e⟩ := bind_some e
  obtain ⟨p3, e3, e⟩ := bind_some e
  obtain ⟨kvs, h1, e⟩ := bind_some e
  obtain ⟨k, h3, e⟩ := bind_some e
  cases e
  obtain ⟨n, hx, hc0⟩ := dictAt_ref h0
  obtain ⟨n', hx', hc⟩ := dictAt_ref h1
  rw [hx] at hx'
  cases hx'
  refine ho.run ρ Z σ H sl st p.1 p.2 R e1 _ fun u ρ1 H1 R1 x1 r1 => ?_
  rw [hx] at r1
  obtain ⟨a, rfl, hρ⟩ := ref_inv r1
  obtain ⟨kv1, y1, _, _⟩ := R1.s.cells n _ a hc0 hρ
  refine ⟨a, rfl, .inl ⟨kv1, .inl y1⟩, ?_⟩
  refine hi.run ρ1 Z σ H1 sl p.2 p2.1 p2.2 R1 e2 _ fun w ρ2 H2 R2 x2 r2 => ?_
  have := keyOf_rep h3 r2
  subst this
  refine he.run ρ2 Z σ H2 sl p2.2 p3.1 p3.2 R2 e3 _ fun w ρ3 H3 R3 x3 r3 => ?_
  obtain ⟨kvu, w1, w2, w3⟩ := R3.s.cells n _ a hc (x3.at (x2.at hρ))
  refine ⟨_, DGet.k w1, ?_⟩
  rcases kv_get w2 w3 k with ⟨z1, z2⟩ | ⟨v', u', z1, z2, z3⟩
  · rw [z2]
    refine q _ ρ3 _ R3 ((x1.trans x2).trans x3) (.of ?_)
    rw [z1]
    exact r3.rep
  · rw [z2]
    refine q _ ρ3 _ R3 ((x1.trans x2).trans x3) (.of ?_)
    rw [z1]
    exact z3⟩
theorem s_dset (ho : Snd K cls m to fo) (hi : Snd K cls true ti fi) (he : Snd K cls false te fe) : SndS K cls (sDPut to ti te) (sDSet fo fi fe) := ⟨fun ρ Z σ H sl st r R e D q => by
  obtain ⟨p, e1, e⟩ := bind_some e
  obtain ⟨p2, e2, e⟩ := bind_some e
  obtain ⟨p3, e3, e⟩ := bind_some e
  split at e
  · rename_i n hn
    split at e
    · rename_i kvs hx
      obtain ⟨k, h3, e⟩ := bind_some e
      split at e
      · rename_i hlen
        cases e
        refine he.run ρ Z σ H sl st p.1 p.2 R e1 _ fun v ρ1 H1 R1 x1 r1 => ?_
        refine ho.run ρ1 Z σ H1 sl p.2 p2.1 p2.2 R1 e2 _ fun u ρ2 H2 R2 x2 r2 => ?_
        rw [hn] at r2
        obtain ⟨a, rfl, hρ⟩ := ref_inv r2
        refine hi.run ρ2 Z σ H2 sl p2.2 p3.1 p3.2 R2 e3 _ fun w ρ3 H3 R3 x3 r3 => ?_
        have := keyOf_rep h3 r3
        subst this
        obtain ⟨kvu, w1, w2, w3⟩ := R3.s.cells n _ a hx (x3.at hρ)
        have hl : kvu.length = kvs.length := by simpa using congrArg List.length w2
        have x4 : Ext ρ3 H3 ρ3 (upd H3 a (.dK (putK kvu k v))) := .set (x3.at hρ)
        obtain ⟨y1, y2⟩ := kv_put k (x4.rep ((r1.ext x2).ext x3).rep) w2 (x4.repL w3)
        refine ⟨a, _, rfl, DPut.k w1 (by rw [hl]; exact Nat.lt_trans hlen (by rw [sizeLine_eq]; decide)), ?_⟩
        exact q σ ρ3 _ (R3.set (x3.at hρ) ⟨putK kvu k v, upd_same, y1, y2⟩) (((x1.trans x2).trans x3).trans x4).pre (((x1.trans x2).trans x3).trans x4).wo
      · cases e
    · cases e
  · cases e⟩
end
theorem s_par3 {i j l : Nat} {ta tb tc : TE} {fa fb fc : E} (ha : Snd K cls false ta fa) (hb : Snd K cls false tb fb) (hc : Snd K cls false tc fc) : SndS K cls (tPar3 i j l (tCons ta (tCons tb (tCons tc tNil)))) (sPar3 i j l fa fb fc) := ⟨fun ρ Z σ H sl st r R e D q => by
  obtain ⟨p, e1, e⟩ := bind_some e
  obtain ⟨p2, e2, e⟩ := bind_some e
  obtain ⟨p3, e3, e⟩ := bind_some e
  split at e
  · rename_i hl
    cases e
    refine ha.run ρ Z σ H sl st p.1 p.2 R e1 _ fun u ρ1 H1 R1 x1 r1 => ?_
    refine hb.run ρ1 Z σ H1 sl p.2 p2.1 p2.2 R1 e2 _ fun v ρ2 H2 R2 x2 r2 => ?_
    refine hc.run ρ2 Z σ H2 sl p2.2 p3.1 p3.2 R2 e3 _ fun w ρ3 H3 R3 x3 r3 => ⟨u, v, w, rfl, ?_⟩
    have Q1 := R3.setVal ((r1.ext x2).ext x3).rep hl.1
    have le : ∀ a, AR ρ3 (ZO Z (sl.set i (.val p.1)) (σ.set i (some u))) a → AR ρ3 (ZO Z sl σ) a := fun a h => h.imp id fun z => z.imp id own_set
    have Q2 := Q1.setVal ((r2.ext x3).rep.mono (Fr.less le) List.prefix_rfl) (i := j) (by rw [List.length_set]; exact hl.2.1)
    have le2 : ∀ a, AR ρ3 (ZO Z ((sl.set i (.val p.1)).set j (.val p2.1)) ((σ.set i (some u)).set j (some v))) a → AR ρ3 (ZO Z sl σ) a := fun a h => h.imp id fun z => z.imp id fun z => own_set (own_set z)
    have Q3 := Q2.setVal (r3.rep.mono (Fr.less le2) List.prefix_rfl) (i := l) (by rw [List.length_set, List.length_set]; exact hl.2.2)
    exact q _ ρ3 H3 Q3 ((x1.trans x2).trans x3).pre (((x1.trans x2).trans x3).wo.trans ⟨fun _ _ _ h => h, fun a h => .inl (h.imp id fun z => own_set (own_set (own_set z)))⟩)
  · cases e⟩
/-! displays -/
structure SndD (K : PySem.W.Frag) (cls : Nat → Addr) (trs : List (TE × TE)) (ks : List Str) (f : L) : Prop where
  run : ∀ (ρ : List Addr) (Z : Addr → Prop) (σ : L2.St) (H : Hp) (sl : Sl) (st : Sto) (ds : List Val) (st' : Sto), Rel K cls ρ Z σ H sl st → f sl st = some (ds, st') → ∀ Q : List (V × V) → Hp → Prop,
    (∀ us ρ' H', Rel K cls ρ' Z σ H' sl st' → Ext ρ H ρ' H' → RepL K ρ' (AR ρ' (ZO Z sl σ)) H' ds us → ks.length = us.length → Q ((ks.zip us).map fun p => (V.str p.1, p.2)) H') → tPairs trs σ H Q
theorem sndD_n : SndD K cls [] [] aNil := ⟨fun ρ Z σ H sl st d st' R e Q q => by
  cases e
  exact q [] ρ H R .refl .nil rfl⟩
theorem sndD_c {te : TE} {fe : E} {f : L} {trs : List (TE × TE)} {k : Str} {ks : List Str} (he : Snd K cls false te fe) (hr : SndD K cls trs ks f) : SndD K cls ((tC (.str k), te) :: trs) (k :: ks) (aCons fe f) := ⟨fun ρ Z σ H sl st d st' R e Q q => by
  obtain ⟨p, e1, e⟩ := bind_some e
  obtain ⟨p2, e2, e⟩ := bind_some e
  cases e
  refine he.run ρ Z σ H sl st p.1 p.2 R e1 _ fun u ρ1 H1 R1 x1 r1 => ?_
  refine hr.run ρ1 Z σ H1 sl p.2 p2.1 p2.2 R1 e2 _ fun us ρ2 H2 R2 x2 r2 hl => ?_
  exact q (u :: us) ρ2 H2 R2 (x1.trans x2) (.cons (x2.rep r1.rep) r2) (by simp [hl])⟩
theorem mergeK_nd : ∀ {more kvs : List (Key × V)}, ((kvs ++ more).map (·.1)).Nodup → mergeK kvs more = kvs ++ more
  | [], kvs, _ => (List.append_nil kvs).symm
  | p :: r, kvs, h => by
    have hn : valV kvs p.1 = none := by
      cases e : valV kvs p.1 with
      | none => rfl
      | some w =>
        have := valV_in e
        rw [List.map_append, List.map_cons] at h
        exact absurd rfl ((List.nodup_append.mp h).2.2 _ this _ (List.mem_cons_self ..))
    have h2 : ((kvs ++ [(p.1, p.2)]) ++ r) = kvs ++ p :: r := by simp
    show mergeK (putK kvs p.1 p.2) r = _
    rw [putK_new _ hn, mergeK_nd (by rw [h2]; exact h), h2]
theorem zip_fst {ks : List Str} {us : List V} (h : ks.length = us.length) : (((ks.map Sum.inr : List Key).zip us).map (·.1)) = ks.map Sum.inr := by
  rw [List.map_fst_zip (by rw [List.length_map]; omega)]
theorem snd_dsp {trs : List (TE × TE)} {ks : List Str} {f : L} (h : SndD K cls trs ks f) (hnd : (ks.map Sum.inr : List Key).Nodup) (h15 : ks.length ≤ 15) : Snd K cls m (tDisp trs) (eDsp ks f) := ⟨fun ρ Z σ H sl st d st' R e Q q => by
  obtain ⟨p, e1, e⟩ := bind_some e
  split at e
  · rename_i hx
    cases e
    intro a ha
    have R1 : Rel K cls (ρ ++ [a]) Z σ (upd H a (.dK [])) sl (st ++ [.dk []]) := R.push ha ⟨[], upd_same, rfl, .nil⟩
    refine h.run _ Z σ _ sl _ p.1 p.2 R1 e1 _ fun us ρ2 H2 R2 x2 r2 hl => ?_
    have hρ : (ρ ++ [a])[st.length]? = some a := by rw [← R.s.len, List.getElem?_append_right (Nat.le_refl _), Nat.sub_self] <;> rfl
    obtain ⟨kvu, w1, w2, w3⟩ := R2.s.cells _ _ a hx (x2.at hρ)
    have : kvu = [] := List.map_eq_nil_iff.mp w2
    subst this
    refine ⟨w1, (ks.map Sum.inr).zip us, ?_, by rw [List.length_zip, List.length_map]; omega, ?_⟩
    · rw [List.zip_map_left, List.map_map]; rfl
    · rw [mergeK_nd (by rw [List.nil_append, zip_fst hl]; exact hnd), List.nil_append]
      have x3 : Ext ρ2 H2 ρ2 (upd H2 a (.dK ((ks.map Sum.inr).zip us))) := .set (x2.at hρ)
      have hl2 := r2.length
      refine q _ ρ2 _ (R2.set (x2.at hρ) ⟨_, upd_same, ?_, ?_⟩) (((Ext.push ha).trans x2).trans x3) (.of (.ref (x2.at hρ)))
      · rw [zip_fst hl, List.map_fst_zip (by rw [List.length_map]; omega)]
      · rw [List.map_snd_zip (by rw [List.length_map]; omega), List.map_snd_zip (by rw [List.length_map]; omega)]
        exact x3.repL r2
  · cases e⟩
end
section
variable {X : Cx} {K : PySem.W.Frag} [hK : KX X K] {cls : Nat → Addr} {m m' : Bool} {a b c e o i tg : Expr} {es : List Expr} {ta ti to te : TE} {fa fi fo fe : E} {pos p p' tpos apos cpos : Pos} {C k : Nat} {nm : Str}
theorem hu1 {k : Nat} {A : Around} (r : Room k A) : A.units + 1 < cLine := by have := hu65 r; omega
theorem se_dn : SE X K cls m (.Dict [] [] pos) tDNewK eDN := ⟨pe_dnewK, snd_dn⟩
theorem se_dget (ho : SE X K cls true o to fo) (hi : SE X K cls true i ti fi) (hu : X.A.units + 1 < cLine) (hs : NoSl i := by exact fun _ _ => rfl) : SE X K cls m (.Subscript o i pos) (tDGet to ti) (e2 oDGet fo fi) := ⟨pe_dget hu ho.1 hi.1 hs, snd_dget ho.2 hi.2⟩
theorem se_dget2 (ho : SE X K cls true o to fo) (hi : SE X K cls true i ti fi) (he : SE X K cls false e te fe) (hu : X.A.units + 1 < cLine) (hm : M2 X o "get" apos i e cpos := by exact ⟨rfl, rfl, rfl, rfl⟩) :
    SE X K cls m (.Call (.Attribute o "get" apos) [i, e] [] cpos) (tDGet2 to ti te) (eDGet2 fo fi fe) := ⟨pe_dget2 hu ho.1 hi.1 he.1 hm, snd_dget2 ho.2 hi.2 he.2⟩
theorem ss_dset (ho : SE X K cls true o to fo) (hi : SE X K cls true i ti fi) (he : SE X K cls false e te fe) (hu : X.A.units + 1 < cLine) (hs : swapsWith e (some (.Subscript o i p')) pos.line X.env = pure false := by rfl) :
    SS X K cls (.Assign [.Subscript o i p'] e pos) (sDPut to ti te) (sDSet fo fi fe) := ⟨ps_dput hu ho.1 hi.1 he.1 hs, s_dset ho.2 hi.2 he.2⟩
theorem ss_par3 {tb tc : TE} {fb fc : E} (i j l : Nat) {x y z : Str} {px py pz pt : Pos} {kt k2 pt2} (hN : X.N.Nodup) (ha : SE X K cls false a ta fa) (hb : SE X K cls false b tb fb) (hcc : SE X K cls false c tc fc) (hi : X.N[i]? = some x := by rfl) (hj : X.N[j]? = some y := by rfl) (hl : X.N[l]? = some z := by rfl) (hij : i ≠ j := by decide) (hil : i ≠ l := by decide) (hjl : j ≠ l := by decide)
    (hx : X.env.scope.names.lookup x = some .local := by rfl) (hy : X.env.scope.names.lookup y = some .local := by rfl) (hz : X.env.scope.names.lookup z = some .local := by rfl) (hc : X.calm = true := by rfl)
    (h1 : starEach [a, b, c] X.env = (false, eval a X.env) :: starEach [b, c] X.env := by rfl) (h2 : starEach [b, c] X.env = (false, eval b X.env) :: starEach [c] X.env := by rfl) (h3 : starEach [c] X.env = (false, eval c X.env) :: starEach [] X.env := by rfl)
    (hw : swappedStores [.Tuple [.Name x px, .Name y py, .Name z pz] kt pt] (.Tuple [a, b, c] k2 pt2) X.env = pure (some [x, y, z]) := by rfl)
    (hs : swapsWithSole [.Tuple [.Name x px, .Name y py, .Name z pz] kt pt] (.Tuple [a, b, c] k2 pt2) pos.line X.env = pure false := by rfl) :
    SS X K cls (.Assign [.Tuple [.Name x px, .Name y py, .Name z pz] kt pt] (.Tuple [a, b, c] k2 pt2) pos) (tPar3 i j l (tCons ta (tCons tb (tCons tc tNil)))) (sPar3 i j l fa fb fc) :=
  by obtain ⟨rfl⟩ := hK; exact ⟨ps_par3 hc hN hi hj hl hij hil hjl hx hy hz (pa_cons ha.1 (pa_cons hb.1 (pa_cons hcc.1 pa_nil h3) h2) h1) hw hs, s_par3 ha.2 hb.2 hcc.2⟩
abbrev SDP (X : Cx) (K : PySem.W.Frag) (cls : Nat → Addr) (pos : Pos) (keys : List (Option Expr)) (values : List Expr) (trs : List (TE × TE)) (ks : List Str) (f : L) : Prop := PPs X pos keys values trs ∧ SndD K cls trs ks f
theorem sdp_n : SDP X K cls pos [] [] [] [] aNil := ⟨pps_nil, sndD_n⟩
theorem sdp_c {x : Str} {j : Nat} {keys : List (Option Expr)} {trs : List (TE × TE)} {ks : List Str} {f : L} (he : SE X K cls false e te fe) (hr : SDP X K cls pos keys es trs ks f) : SDP X K cls pos (some (.Constant (.str x) j p) :: keys) (e :: es) ((tC (.str x), te) :: trs) (x :: ks) (aCons fe f) :=
  ⟨pps_cons pe_str he.1 hr.1, sndD_c he.2 hr.2⟩
theorem se_dsp {keys : List (Option Expr)} {trs : List (TE × TE)} {ks : List Str} {f : L} (h : SDP X K cls pos keys es trs ks f) (hall : keys.all (·.isSome) = true := by rfl) (hl : keys.length = es.length := by rfl) (h0 : keys ≠ [] := by exact List.cons_ne_nil _ _) (h15 : keys.length ≤ 15 := by decide) (hnd : (ks.map Sum.inr : List Key).Nodup := by decide) (hk : ks.length ≤ 15 := by decide) :
    SE X K cls m (.Dict keys es pos) (tDisp trs) (eDsp ks f) := ⟨pe_disp h.1 hall hl h0 h15, snd_dsp h.2 hnd hk⟩
end
end Mi

set_option Elab.async false
set_option linter.all false
set_option maxRecDepth 100000
set_option maxHeartbeats 1000000
/-! Mi: isinstance of one's own classes, C() without an __init__, a dict of the module that maps texts to numbers. -/
namespace Mi
open PySem PySem.Spec PyProof.Rows L2
variable [Gam]

/-- whether an instance of the class j is one of k (7: above all answers) -/
def subC (j k : Nat) : Bool := j == k || k == 7
def oIsc (js : List Nat) (k : Nat) : Sto → Val → Option Val
  | st, .ref n => match st[n]? with
    | some (.ins j _) => if j ∈ js then some (.bl (subC j k)) else none
    | _ => none
  | _, _ => none
def eNew0 (C : Nat) : E := fun _ st => some (.ref st.length, st ++ [.ins C []])
/-- x not in D, D[x]: x a key of D -/
def oKnin (tab : List (Str × Int)) : Sto → Val → Option Val
  | _, .str z => (tab.lookup z).map fun _ => .bl false
  | _, _ => none
def oKix (tab : List (Str × Int)) : Sto → Val → Option Val
  | _, .str z => (tab.lookup z).map .int
  | _, _ => none
theorem kit_self {K : PySem.W.Frag} {C : Addr} : PySem.W.kitOne K (.ref C) (.ref C) = some true := by
  unfold PySem.W.kitOne
  exact if_pos (beq_self_eq_true _)
theorem kit_own {K : PySem.W.Frag} {B C : Addr} {b : Bool} (hn : (B == C) = false) (hc : ∃ x, PySem.W.clsIn K C = some x) (ht : PySem.W.typeIn K (.ref C) = some (.type "type")) (hs : PySem.W.subIn K (.ref B) (.ref C) = some b) : PySem.W.kitOne K (.ref B) (.ref C) = some b := by
  unfold PySem.W.kitOne
  have e : (Value.ref B == Value.ref C) = false := beq_eq_false_iff_ne.mpr fun z => by cases z; rw [beq_self_eq_true] at hn; cases hn
  rw [e, if_neg (by decide)]
  unfold PySem.W.kitCls
  obtain ⟨x, hc⟩ := hc
  show (if ((PySem.W.clsIn K C).isSome && PySem.W.typeIn K (.ref C) == some (.type "type")) = true then PySem.W.subIn K (.ref B) (.ref C) else none) = _
  rw [hc, ht]
  exact (if_pos (by simp)).trans hs
/-- the facts of classes -/
structure IsC (K : PySem.W.Frag) (mg : Str → Option Value) (cls : Nat → Addr) (nm : Str) (js : List Nat) (k : Nat) : Prop where
  hm : mg nm = some (.ref (cls k))
  ty : ∀ j ∈ js, PySem.W.kitOne K (.ref (cls j)) (.ref (cls k)) = some (subC j k)
structure InsT (K : PySem.W.Frag) (cls : Nat → Addr) (js : List Nat) : Prop where
  ty : ∀ j ∈ js, Cls K (cls j) ∧ PySem.W.findIn K (.ref (cls j)) "__class__" = some (some (.builtin "object.__class__")) ∧ PySem.W.mroIn K (cls j) (.type "object") = some true
  hn : PySem.W.specialIn K (.builtin "object.__class__") "__get__" = some (some (.builtin "getset_descriptor.__get__"))
  htk : PySem.W.takesIn K (.builtin "object.__class__") = some true
structure Mk0 (K : PySem.W.Frag) (mg : Str → Option Value) (nm : Str) (C : Addr) : Prop where
  hm : mg nm = some (.ref C)
  makes : PySem.W.makesIn K C = true
  init : PySem.W.findIn K (.ref C) "__init__" = some (some (.builtin "object.__init__"))
  kp : PySem.W.keepIn K (.ref C) = true
structure KTab (K : PySem.W.Frag) (w : World) (mg : Str → Option Value) (nm : Str) (tab : List (Str × Int)) : Prop where
  ex : ∃ d es n, mg nm = some (.ref d) ∧ KDict K w d es n ∧ ∀ z i, (z, i) ∈ tab → ∃ t, PySem.W.nsIn K d z = some (some (.int i t))

section
variable {K : PySem.W.Frag} {cls : Nat → Addr} {ρ ρ' : List Addr} {Z : Addr → Prop} {σ : L2.St} {H H' : Hp} {sl : Sl} {st st' : Sto} {m m' : Bool} {x y : Val} {u v : V} {ta : TE} {fa : E} {js : List Nat} {C k : Nat}
theorem ops_isc {mg : Str → Option Value} {nm : Str} (I : InsT K cls js) (h : IsC K mg cls nm js k) : Op1S K cls (oIsc js k) (fun u => fun H Q => rIsi K [u, .ref (cls k)] H Q) := by
  intro ρ Z σ H sl st x z u R h1 e Q q
  cases x <;> first | cases e | skip
  rename_i n
  have e' : (match st[n]? with
    | some (.ins j _) => if j ∈ js then some (Val.bl (subC j k)) else none
    | _ => none) = some z := e
  split at e'
  · rename_i j vs hx
    split at e'
    · rename_i hj
      cases e'
      obtain ⟨a, rfl, hρ⟩ := ref_inv h1
      obtain ⟨dx, us, w1, _⟩ := R.s.cells n _ a hx hρ
      obtain ⟨c1, c2, c3⟩ := I.ty j hj
      exact ⟨_, _, _, _, _, rfl, .own _, .base (.ins w1 c1 c2 I.hn I.htk c3), h.ty j hj, q _ H R .refl (.bl _)⟩
    · cases e'
  · cases e'
theorem snd_isc {mg : Str → Option Value} {nm : Str} (I : InsT K cls js) (h : IsC K mg cls nm js k) (ha : Snd K cls m' ta fa) : Snd K cls m (tCB (rIsi K) (tCons ta (tCons (tC (.ref (cls k))) tNil))) (e1 (oIsc js k) fa) := snd_e1 (r := fun u => fun H Q => rIsi K [u, .ref (cls k)] H Q) (ops_isc I h) ha
def tMk0 (C : Addr) : TE := fun _ H Q => ∀ x dx, H x = none → H dx = none → dx ≠ x → Q (.ref x) (upd (upd H dx (.own x)) x (.ins C dx []))
theorem snd_new0 : Snd K cls m (tMk0 (cls C)) (eNew0 C) := ⟨fun ρ Z σ H sl st d st' R e Q q => by
  cases e
  intro x dx hx hdx hne
  have R2 := R.new (o := .own x) hdx
  have hx2 : upd H dx (.own x) x = none := by rw [upd_ne hne.symm]; exact hx
  have R3 : Rel K cls (ρ ++ [x]) Z σ (upd (upd H dx (.own x)) x (.ins (cls C) dx [])) sl (st ++ [.ins C []]) := R2.push hx2 ⟨dx, [], by rw [upd_same, List.zip_nil_right], Nat.zero_le _, .nil⟩
  refine q _ (ρ ++ [x]) _ R3 ((Ext.new hdx).trans (.push hx2)) (.of (.ref ?_))
  rw [← R.s.len, List.getElem?_append_right (Nat.le_refl _), Nat.sub_self] <;> rfl⟩
theorem lookup_mem {z : Str} {i : Int} : ∀ {tab : List (Str × Int)}, tab.lookup z = some i → (z, i) ∈ tab
  | [], h => by cases h
  | (y, j) :: r, h => by
    by_cases e : z = y
    · subst e
      simp at h
      subst h
      exact List.mem_cons_self ..
    · have hb : (z == y) = false := beq_eq_false_iff_ne.mpr e
      simp only [List.lookup, hb] at h
      exact List.mem_cons_of_mem _ (lookup_mem h)
end
section
variable {P : Program} {w : World} {A : Around} {C y : Addr}
open PySem.W in
theorem run_mk0 {X : Cx} {pins : List (Addr × Obj)} {σ : L2.St} {H : Hp} {s : Shared} {Q : VK} (hm : PySem.W.makesIn X.K C = true) (hi : PySem.W.findIn X.K (.ref C) "__init__" = some (some (.builtin "object.__init__"))) (I : Inv X pins σ H s)
    (h : ∀ x dx, H x = none → H dx = none → dx ≠ x → Q (.ref x) (upd (upd H dx (.own x)) x (.ins C dx []))) : wpAny (model X.prog X.w) X.A (call (.ref C) []) (EP X pins σ Q) X.xe s := by
  have hq := h (s.heap.objs.size + 1) s.heap.objs.size (I.hok.fresh (Nat.le_succ _)) (I.hok.fresh (Nat.le_refl _)) (Nat.ne_of_lt (Nat.lt_succ_self _))
  have I2 := Inv.made (C := C) I
  have Y := makes_of (M := model X.prog X.w) I.kIn hm
  have t1 : Looks (model X.prog X.w) ((s.heap.push emptyDict).push (instObj C s.heap.objs.size)) (typeOf (.ref (s.heap.objs.size + 1))) (.ref C) := (Looks.ld (show ((s.heap.push emptyDict).push (instObj C s.heap.objs.size)).get? (s.heap.objs.size + 1) = some (instObj C s.heap.objs.size) from by
    have := Heap.get?_push_size (s.heap.push emptyDict) (o := instObj C s.heap.objs.size) rfl
    rwa [Heap.size_push] at this)).andThen .now
  have t2 : Looks (model X.prog X.w) ((s.heap.push emptyDict).push (instObj C s.heap.objs.size)) (isInstance (.ref (s.heap.objs.size + 1)) (.type "object")) true := t1.andThen (Y.top.keeps fun b o e => Heap.get?_push_of_some _ (Heap.get?_push_of_some _ e))
  refine wpAny_call (make_map0 (R := fun r s' => match r with
    | .ok (.ret v) => EP X pins σ Q v s'
    | .ok _ => False
    | .error e => X.xe e s') I.kIn hm hi (fun self => Looks.of_pure (oi_bind self)) ?_)
  refine codeAny_call_builtin oi_plain entry_oi (@check_slot (model X.prog X.w) _ _ _ "object.__init__" "object" "__init__" (.ref (s.heap.objs.size + 1)) [] [] _ oi_kind oi_split t2 (oi_args (.ref (s.heap.objs.size + 1))) ?_)
  rw [oi_run]
  exact wpAny_pure (And.intro rfl ⟨V.ref (s.heap.objs.size + 1), _, I2, rfl, hq⟩)
end
section
variable {X : Cx} {K : PySem.W.Frag} [hK : KX X K] {cls : Nat → Addr} {m m' : Bool} {a b c e o i tg : Expr} {es : List Expr} {ta ti to te : TE} {fa fi fo fe : E} {pos p p2 p' tpos apos cpos : Pos} {C k : Nat} {nm : Str} {js : List Nat}
theorem se_isc (h : IsC K X.mg cls nm js k) (I : InsT K cls js) (bt : Bt X.mg) (ha : SE X K cls true a ta fa) (hg : Gl X "isinstance" := by rfl) (hg2 : Gl X nm := by rfl) (hd : (nm == ("__debug__" : Str)) = false := by decide)
    (hs : starEach [a, .Name nm p2] X.env = (false, eval a X.env) :: starEach [.Name nm p2] X.env := by rfl) (hs2 : starEach [.Name nm p2] X.env = (false, eval (.Name nm p2) X.env) :: starEach [] X.env := by rfl) (hpl : (backTo pos (starEach [.Name nm p2] X.env)).any (·.1) = false := by rfl) :
    SE X K cls m (.Call (.Name "isinstance" p) [a, .Name nm p2] [] pos) (tCB (rIsi K) (tCons ta (tCons (tC (.ref (cls k))) tNil))) (e1 (oIsc js k) fa) :=
  by obtain ⟨rfl⟩ := hK; exact ⟨pe_callB call_isi hg bt.isinstance (by decide +kernel) (pa_cons ha.1 (pa_cons (pe_glob hg2 h.hm rfl hd) pa_nil hs2) hs) (he := hs) (hpl := hpl), snd_isc I h ha.2⟩
theorem se_new0 (h : Mk0 K X.mg nm (cls C)) (hg : Gl X nm := by rfl) (hd : (nm == ("__debug__" : Str)) = false := by decide) : SE X K cls m (.Call (.Name nm p) [] [] pos) (tMk0 (cls C)) (eNew0 C) := by
  obtain ⟨rfl⟩ := hK
  refine ⟨⟨fun pins s σ H Q I q => ?_⟩, snd_new0⟩
  refine wpAny_Call_Name_kw (ld_glob I hg h.hm ?_ hd)
  exact PySem.W.callWith_K0 I.kIn h.kp (run_mk0 h.makes h.init I q)
theorem snd_knin {tab : List (Str × Int)} {d : Addr} {es : Array DictEntry} {n : Nat} (h2 : ∀ z i, (z, i) ∈ tab → ∃ t, PySem.W.nsIn K d z = some (some (.int i t))) (ha : Snd K cls true ta fa) :
    Snd K cls m (tOp (fun x y H Q => ∃ (z : Str) (r : Option Value), x = .str z ∧ y = .ref d ∧ PySem.W.nsIn K d z = some r ∧ Q (.bl (!r.isSome)) H) ta (tC (.ref d))) (e1 (oKnin tab) fa) := ⟨fun ρ Z σ H sl st x st' R e Q q => by
  obtain ⟨y, e1, e⟩ := bind_some e
  obtain ⟨z, e2, e⟩ := bind_some e
  cases e
  refine ha.run ρ Z σ H sl st y.1 y.2 R e1 _ fun u ρ1 H1 R1 x1 r1 => ?_
  obtain ⟨y, st1⟩ := y
  cases y <;> first | cases e2 | skip
  rename_i s hh
  cases hl : tab.lookup s with
  | none => rw [show oKnin tab st1 (.str s) = (tab.lookup s).map (fun _ => Val.bl false) from rfl, hl] at e2; cases e2
  | some j =>
    rw [show oKnin tab st1 (.str s) = (tab.lookup s).map (fun _ => Val.bl false) from rfl, hl] at e2
    cases e2
    obtain ⟨t, h3⟩ := h2 s j (lookup_mem hl)
    exact ⟨s, _, str_inv r1, rfl, h3, q _ ρ1 H1 R1 x1 (.of (.bl false))⟩⟩
theorem st_knin {tab : List (Str × Int)} (h : KTab K X.w X.mg nm tab) (ha : SE X K cls true a ta fa) (hg : Gl X nm := by rfl) (hd : (nm == ("__debug__" : Str)) = false := by decide) (hm : behindInMarks .NotIn (.Name nm p2) = false := by rfl) :
    ∃ t, ST X K cls (.Compare a [.NotIn] [.Name nm p2] pos) t (tE (e1 (oKnin tab) fa)) := by
  obtain ⟨rfl⟩ := hK
  obtain ⟨d, es, n, h1, D, h2⟩ := h.ex
  exact ⟨_, pt_cmpR (op_notIn_kd D) ha.1 (pe_glob (v := .ref d) hg h1 rfl hd) hm, snd_tE (m := true) (snd_knin (es := es) (n := n) h2 ha.2)⟩
theorem se_kix {tab : List (Str × Int)} (h : KTab K X.w X.mg nm tab) (ha : SE X K cls true a ta fa) (hs : PlainIx a := by exact fun _ _ => rfl) (hg : Gl X nm := by rfl) (hd : (nm == ("__debug__" : Str)) = false := by decide) :
    ∃ t, SE X K cls m (.Subscript (.Name nm p2) a pos) t (e1 (oKix tab) fa) := by
  obtain ⟨rfl⟩ := hK
  obtain ⟨d, es, n, h1, D, h2⟩ := h.ex
  refine ⟨_, pe_ix ix_kdict (pe_glob (v := .ref d) hg h1 rfl hd) ha.1 hs, ⟨fun ρ Z σ H sl st x st' R e Q q => ?_⟩⟩
  obtain ⟨y, e1, e⟩ := bind_some e
  obtain ⟨z, e2, e⟩ := bind_some e
  cases e
  refine ha.2.run ρ Z σ H sl st y.1 y.2 R e1 _ fun u ρ1 H1 R1 x1 r1 => ?_
  obtain ⟨y, st1⟩ := y
  cases y <;> first | cases e2 | skip
  rename_i s hh
  cases hl : tab.lookup s with
  | none => rw [show oKix tab st1 (.str s) = (tab.lookup s).map Val.int from rfl, hl] at e2; cases e2
  | some j =>
    rw [show oKix tab st1 (.str s) = (tab.lookup s).map Val.int from rfl, hl] at e2
    cases e2
    obtain ⟨t, h3⟩ := h2 s j (lookup_mem hl)
    exact ⟨d, s, .int j, rfl, str_inv r1, ⟨es, n, _, D.at_, D.lit, h3, ⟨_, rfl⟩⟩, q _ ρ1 H1 R1 x1 (.of (.int j))⟩
end
end Mi

set_option Elab.async false
set_option linter.all false
set_option maxRecDepth 100000
set_option maxHeartbeats 1000000
/-! Mi: list(range(a, b, c)). -/
namespace Mi
open PySem PySem.Spec PyProof.Rows L2
variable [Gam]
def PRg3 (X : Cx) (e : Expr) (t : L2.St → Hp → (Int → Int → Nat → Hp → Prop) → Prop) : Prop :=
  ∀ (pins : List (Addr × Obj)) (s : Shared) (σ : L2.St) (H : Hp) (Q : Int → Int → Nat → Hp → Prop), Inv X pins σ H s → t σ H Q →
    wpAny (model X.prog X.w) X.A (eval e X.env) (fun x s' => ∃ r a b c n t u v H', x = .ref r ∧ IsRange s'.heap r a b c t u v ∧ RgC a b c n ∧ Inv X pins σ H' s' ∧ Q a c n H') X.xe s
def tRg3 (ta : TA) : L2.St → Hp → (Int → Int → Nat → Hp → Prop) → Prop := fun σ H Q => ta σ H fun vs H1 => ∃ (i j c : Int) (n : Nat), vs = [.int i, .int j, .int c] ∧ RgC i j c n ∧ Q i c n H1
theorem prg_3 {X : Cx} {a b c : Expr} {ta : TA} {p pos : Pos} (hg : Gl X "range") (hm : X.mg "range" = none) (ha : PA X [a, b, c] ta)
    (hs : starEach [a, b, c] X.env = (false, eval a X.env) :: starEach [b, c] X.env := by rfl) (hpl : (backTo pos (starEach [b, c] X.env)).any (·.1) = false := by rfl) : PRg3 X (.Call (.Name "range" p) [a, b, c] [] pos) (tRg3 ta) := by
  intro pins s σ H Q I h
  refine Call_ (ld_blt I hg hm boot_range (PyProof.Rows.callWith_type1 (thn (ha.run pos pins s σ H _ I h) fun us s1 ⟨vs, H1, I1, r1, q1⟩ => ?_) hs hpl))
  obtain ⟨i, j, k, n, e, ⟨c0, c1, c2, c3⟩, q⟩ := q1
  subst e
  cases r1 with
  | cons r rr =>
    cases rr with
    | cons r' rr =>
      cases rr with
      | cons r'' rr =>
        cases rr
        obtain ⟨t, rfl⟩ := r
        obtain ⟨t', rfl⟩ := r'
        obtain ⟨t'', rfl⟩ := r''
        refine call_range_3 c0 ?_ (.inl (PyProof.noPylong_small c1))
        exact ⟨_, i, j, k, n, _, _, _, H1, rfl, IsRange.new _ _ _ _ _ _ _, ⟨c0, c1, c2, c3⟩, I1.kept fun b u e => Heap.get?_push_of_some _ e, q⟩
def rg3V (a c : Int) (n : Nat) : List V := (List.range n).map fun i => V.int (a + (i : Nat) * c)
theorem vals_rg3 {a c : Int} {n : Nat} {acc : Array Value} (h : ItemsOf (fun i v => ∃ t, v = .int (a + i * c) t) acc n) : Vals (rg3V a c n) acc.toList := by
  have e : acc.toList.length = n := by rw [Array.length_toList]; exact h.1
  unfold rg3V
  rw [← e]
  refine vals_of_get acc.toList _ fun j u hj => ?_
  obtain ⟨t, rfl⟩ := h.2 j u (by rw [← hj, Array.getElem?_toList])
  exact ⟨t, rfl⟩
def tLstRg3 (te : L2.St → Hp → (Int → Int → Nat → Hp → Prop) → Prop) : TE := fun σ H Q => te σ H fun a c n H1 => n ≤ 1000 ∧ ∀ q, H1 q = none → Q (.ref q) (upd H1 q (.lst (rg3V a c n)))
theorem pe_listRg3 {X : Cx} {e : Expr} {te : L2.St → Hp → (Int → Int → Nat → Hp → Prop) → Prop} {p pos : Pos} (hc : X.calm = true) (hg : Gl X "list") (hm : X.mg "list" = none) (he : PRg3 X e te) (na : starEach [e] X.env = (false, eval e X.env) :: starEach [] X.env := by rfl) : PE X (.Call (.Name "list" p) [e] [] pos) (tLstRg3 te) := by
  refine ⟨fun pins s σ H Q I h => ?_⟩
  refine Call_ (ld_blt I hg hm boot_list (PyProof.Rows.callWith_type1 (args_cons (thn (he pins s σ H _ I h) fun x s1 ⟨r, a, b, c, n, t, u, v, H1, ex, hr, ⟨c0, c1, c2, c3⟩, I1, ok, q⟩ => args_nil ?_) na) na))
  subst ex
  refine call_list_range (n := n) (I1.ok.hd hc) hr c2 c3 (by omega) fun h' tk acc c' hk e' hi => ?_
  refine ⟨.ref s1.heap.objs.size, upd H1 s1.heap.objs.size (.lst (rg3V a c n)), I1.laid hk (Nat.le_refl _) (show ObjOk X.prog X.w _ _ _ (.lst (rg3V a c n)) from ⟨?_, acc.toList, c', vals_rg3 hi, ?_⟩), rfl, q _ (I1.hok.fresh (Nat.le_refl _))⟩
  · unfold rg3V; rw [List.length_map, List.length_range, sizeLine_eq]; omega
  · rw [Array.toArray_toList]; exact e'
def rg3N (i j c : Int) : Nat := (Builtin.Range.rangeSize i j c).toNat
/-- list(range(i, j, c)) -/
def lRg3 (f : L) : L := fun sl st => (f sl st).bind fun p => match p.1 with
  | [.int i, .int j, .int c] => if c ≠ 0 ∧ c.natAbs < 1073741824 ∧ Builtin.Range.small i j c = true ∧ 0 ≤ Builtin.Range.rangeSize i j c ∧ rg3N i j c ≤ 1000 then some ((List.range (rg3N i j c)).map fun k => .int (i + (k : Nat) * c), p.2) else none
  | _ => none
theorem snd_rg3 {K : PySem.W.Frag} {cls : Nat → Addr} {ta : TA} {f : L} (ha : SndA K cls false ta f) : SndL K cls (tLstRg3 (tRg3 ta)) (lRg3 f) := ⟨fun ρ Z σ H sl st ds st' R e Q q => by
  obtain ⟨p, e1, e⟩ := bind_some e
  split at e
  · rename_i i j c hp
    split at e
    · rename_i hc
      cases e
      obtain ⟨c0, c1, c2, c3, c4⟩ := hc
      refine ha.run ρ Z σ H sl st p.1 p.2 R e1 _ fun us ρ1 H1 R1 x1 r1 => ?_
      rw [hp] at r1
      obtain ⟨u1, us1, e2, q1, r2⟩ := r1.cons_inv
      subst e2
      obtain ⟨u2, us2, e2, q2, r3⟩ := r2.cons_inv
      subst e2
      obtain ⟨u3, us3, e2, q3, r4⟩ := r3.cons_inv
      subst e2
      have e2 := r4.nil_inv
      subst e2
      refine ⟨i, j, c, rg3N i j c, by rw [int_inv q1, int_inv q2, int_inv q3], ⟨c0, c1, c2, by unfold rg3N; omega⟩, c4, fun w hw => ?_⟩
      have rl : ∀ l : List Nat, RepL K ρ1 (AR ρ1 (ZO Z sl σ)) H1 (l.map fun k => Val.int (i + (k : Nat) * c)) (l.map fun k => V.int (i + (k : Nat) * c)) := fun l => by
        induction l with
        | nil => exact .nil
        | cons a l ih => exact .cons (.int _) ih
      exact q w _ ρ1 H1 R1 x1 hw (rl _)
    · cases e
  · cases e⟩
theorem sl_rg3 {X : Cx} {K : PySem.W.Frag} [hK : KX X K] {cls : Nat → Addr} {a b c : Expr} {ta : TA} {f : L} {pos p p2 p' : Pos} (bt : Bt X.mg) (ha : SA X K cls false [a, b, c] ta f) (hg : Gl X "list" := by rfl) (hg2 : Gl X "range" := by rfl) (hc : X.calm = true := by rfl)
    (na : starEach [a, b, c] X.env = (false, eval a X.env) :: starEach [b, c] X.env := by rfl) (hp : (backTo p' (starEach [b, c] X.env)).any (·.1) = false := by rfl)
    (nc : starEach [.Call (.Name "range" p2) [a, b, c] [] p'] X.env = (false, eval (.Call (.Name "range" p2) [a, b, c] [] p') X.env) :: starEach [] X.env := by rfl) :
    SL X K cls (.Call (.Name "list" p) [.Call (.Name "range" p2) [a, b, c] [] p'] [] pos) (tLstRg3 (tRg3 ta)) (lRg3 f) := by obtain ⟨rfl⟩ := hK; exact ⟨pe_listRg3 hc hg bt.list (prg_3 hg2 bt.range ha.1 na hp) nc, snd_rg3 ha.2⟩
end Mi

set_option Elab.async false
set_option linter.all false
set_option maxRecDepth 100000
set_option maxHeartbeats 1000000
/-! Mi: in a tuple of data. -/
namespace Mi
open PySem PySem.Spec PyProof.Rows L2
variable [Gam]
def rInT (K : PySem.W.Frag) : R2 := fun x y H Q => ∃ d ds, Dp K H x d ∧ Dp K H y (.tuple ds) ∧ SeqAt.shaped d = true ∧ SeqAt.shaped (.tuple ds) = true ∧ Q (.bl (ds.any fun z => PyData.eqv z d)) H
theorem op_inT {X : Cx} (hu : X.A.units + 65 < cLine) : OpR X (compareOp .In) (rInT X.K) := by
  intro pins s σ H x y v u Q I rx ry h
  obtain ⟨d, ds, hd, he, sd, se, q⟩ := h
  obtain ⟨as, r1⟩ := Dp.reads I d x v hd rx
  obtain ⟨bs, r2⟩ := Dp.reads I (.tuple ds) y u he ry
  exact SeqAt.in_tuple_reads r2 r1 (SeqAt.canLay_of_shaped se) (SeqAt.canLay_of_shaped sd) (room_in_shaped sd hu) ⟨.bl _, H, I, rfl, q⟩
def oInT : Sto → Val → Val → Option Val
  | st, x, .tup ys => (pd st deep x).bind fun d => (ys.mapM (pd st 19)).bind fun ds => some (.bl (ds.any fun z => PyData.eqv z d))
  | _, _, _ => none
theorem ops_inT {K : PySem.W.Frag} {cls : Nat → Addr} : OpS K cls oInT (rInT K) := by
  intro ρ Z σ H sl st x y z u v R h1 h2 e Q q
  cases y <;> first | (exfalso; cases x <;> cases e) | skip
  rename_i ys
  have e' : (pd st deep x).bind (fun d => (ys.mapM (pd st 19)).bind fun ds => some (Val.bl (ds.any fun z => PyData.eqv z d))) = some z := by
    cases x <;> exact e
  obtain ⟨d, e1, e⟩ := bind_some e'
  obtain ⟨ds, e2, e⟩ := bind_some e
  cases e
  obtain ⟨a1, a2⟩ := pd_dp R h1 e1
  have e3 : pd st deep (.tup ys) = some (.tuple ds) := by
    show (ys.mapM (pd st 19)).map _ = _
    rw [e2]; rfl
  obtain ⟨b1, b2⟩ := pd_dp R h2 e3
  exact ⟨d, ds, a1, b1, a2, b2, q _ H R .refl (.bl _)⟩
theorem c_inT {X : Cx} {K : PySem.W.Frag} [hK : KX X K] {cls : Nat → Addr} (hu : X.A.units + 65 < cLine) : Cm X K cls .In (rInT K) oInT := by obtain ⟨rfl⟩ := hK; exact ⟨op_inT hu, ops_inT⟩
end Mi

set_option Elab.async false
set_option linter.all false
set_option maxRecDepth 100000
set_option maxHeartbeats 1000000
/-! Mi: str of lists and tuples (no list is being shown already); calls upon an empty store. -/
namespace Mi
open PySem PySem.Spec PyProof.Rows L2
variable [Gam]

/-! ### a def's promise where nothing is being shown -/
structure FnG (P : Program) (w : World) (K : PySem.W.Frag) (mg : Str → Option Value) (base : Heap) (k : Nat) (f : Addr) (fd : FuncData) (ps : List Str) (sp : Sp) : Prop where
  len : ∀ vs H Q E, sp vs H Q E → vs.length = ps.length
  run : ∀ (A : Around) (outer : List Env) (s : Shared) (H : Hp) (args : Args) (us : List Value) (vs : List V) (Q : VK) (E : XK), A.guards = some [] → Room k A → Env0 P w K mg base A outer s H → BindsTo s fd args (ps.zip us) → Vals vs us → sp vs H Q E →
    codeAny (model P w) A (.call (.ref f) args) (CR CX0 outer P w H s Q E) s
section
variable {P : Program} {w : World} {K : PySem.W.Frag} {mg : Str → Option Value} {base : Heap} {cls : Nat → Addr}
theorem FnG.mono {j k : Nat} {f : Addr} {fd : FuncData} {ps : List Str} {sp : Sp} (F : FnG P w K mg base j f fd ps sp) (h : j ≤ k) : FnG P w K mg base k f fd ps sp :=
  ⟨F.len, fun A outer s H args us vs Q E hg hr => F.run A outer s H args us vs Q E hg (hr.mono h)⟩
theorem FnG.imp {k : Nat} {f : Addr} {fd : FuncData} {ps : List Str} {sp sp' : Sp} (F : FnG P w K mg base k f fd ps sp) (h : ∀ vs H Q E, sp' vs H Q E → sp vs H Q E) : FnG P w K mg base k f fd ps sp' :=
  ⟨fun vs H Q E q => F.len vs H Q E (h _ _ _ _ q), fun A outer s H args us vs Q E hg hr he hb hv hs => F.run A outer s H args us vs Q E hg hr he hb hv (h _ _ _ _ hs)⟩
/-- a def by its body, entered where nothing is being shown -/
theorem fnG_of {x qual : Str} {st : Stmt} {f : Addr} {fd : FuncData} {N ps : List Str} {k : Nat} {sp : Sp} (F : L2.Fun K x qual st f fd) (Sc : FnScope N ps (defScope st)) (len : ∀ vs H Q E, sp vs H Q E → vs.length = ps.length)
    (hbody : ∀ (cdv : Value) (A : Around) (outer : List Env) (s : Shared) (H : Hp) (vs : List V) (Q : VK) (E : XK), (A.deeper (envOfC qual (defScope st) s.heap.objs.size f cdv)).guards = some [] → Room k (A.deeper (envOfC qual (defScope st) s.heap.objs.size f cdv)) → sp vs H Q E →
      ∃ t, PSs (cxOf CX0 P w K mg base N qual (defScope st) f cdv A outer s H E).nox (defBody st) t ∧ t { nx := fun _ H' => Q .non H', rt := Q } (L2.start N vs) H) : FnG P w K mg base (k + 1) f fd ps sp := by
  obtain ⟨oc, od, kV, doc, pm, an, cdv, ct, osl, rfl, lk, hcd⟩ := F.ex
  refine ⟨len, fun A outer s H args us vs Q E hg hr e0 hb r hsp => ?_⟩
  have hl := len _ _ _ _ hsp
  have kin : K.In s.heap := e0.mod.kin.keeps fun b o e => (e0.bs b o e).1
  have lim : s.heap.NoLimit := e0.mod.nolimit.keeps fun b o e => (e0.bs b o e).1
  have kinds : ∀ y ∈ ps.zip us, (defScope st).names.lookup y.1 = some .local ∨ ((defScope st).names.lookup y.1 = some .cell ∧ ((cellsFrom (s.heap.objs.size + 1) (defScope st).names []).lookup y.1).isSome = true) := fun ⟨n, v⟩ hy =>
    (Sc.par n (List.of_mem_zip hy).1).imp id fun q => ⟨q, PySem.W.cellsFrom_some _ _ _ (.inl q)⟩
  refine codeAny_call_function hr.depth (kin _ _ lk) rfl Sc.co Sc.gen rfl (PySem.W.codeRec_of kin hcd) (hb _ _ _ _ ?_)
  refine wpAny_newFunctionEnv_cells Sc.kind kinds fun env he s1 z => ?_
  subst he
  refine ⟨lim.keeps z.toInCall.keep, codeAny_func ?_⟩
  obtain ⟨t, ht, hq⟩ := hbody cdv A outer s H vs Q E hg (hr.deeper _) hsp
  have I := inv_start (CX := CX0) (P := P) (w := w) (mg := mg) (base := base) (A := A) (outer := outer) (H := H) (E := E) Sc hr.hd e0 hl r z
  refine wpAny_mono (ht.nox.run [] s1 (L2.start N vs) H _ I hq) (fun fl s' hs => ?_) fun e s' hs => hs
  cases fl with
  | ret u =>
    obtain ⟨v, σ', H', J, rv, q⟩ := hs
    exact ⟨v, H', J.os, J.bare, J.base, J.hok, rv, q⟩
  | next =>
    obtain ⟨σ', H', J, q⟩ := hs
    exact ⟨V.non, H', J.os, J.bare, J.base, J.hok, rfl, q⟩
  | brk => obtain ⟨_, _, _, q⟩ := hs; exact False.elim q
  | cont => obtain ⟨_, _, _, q⟩ := hs; exact False.elim q
theorem body_sp {N ps : List Str} {n k : Nat} {b : S} {vs : List V} {H : Hp} {Q : VK} {E : XK} {t : TS} (sn : SndS K cls t b) (hk : ps.length = k) (hn : N.length = n) (h : spM K cls (fnOf k n b) vs H Q E) : t { nx := fun _ H' => Q .non H', rt := Q } (L2.start N vs) H := by
  obtain ⟨ρ, Z, ds, st, d, st', R, r, e, q⟩ := h
  unfold fnOf at e
  split at e
  · rename_i hl
    obtain ⟨⟨o, sl1, st1⟩, e1, e2⟩ := bind_some e
    rw [← hn] at e1
    refine sn.run ρ Z (L2.start N vs) H _ st _ (start_rel R r hl) e1 _ ?_
    have noO : ∀ a, ¬ Own (ds.map Slot.val ++ List.replicate (N.length - k) Slot.no) (L2.start N vs) a := fun a ⟨i, xs, h1, _⟩ => by
      by_cases hi : i < (ds.map Slot.val).length
      · rw [List.getElem?_append_left hi, List.getElem?_map] at h1
        cases hd : ds[i]? with
        | none => rw [hd] at h1; cases h1
        | some d => rw [hd] at h1; cases h1
      · rw [List.getElem?_append_right (by omega)] at h1
        rw [List.getElem?_replicate] at h1
        split at h1 <;> cases h1
    have ext : ∀ {ρ' : List Addr} {H' : Hp} {W : Addr → Prop}, ρ <+: ρ' → (∀ a, a ∈ ρ' → W a) → Fr (WO ρ (ds.map Slot.val ++ List.replicate (N.length - k) Slot.no) (L2.start N vs)) H W H' → Ext ρ H ρ' H' := fun {ρ' H' W} hp hw fr =>
      ⟨hp, fun a o hna h => fr.keep a o (fun z => z.elim hna (noO a)) h, fun a h => (fr.new a (hw a h)).imp (fun z => z.elim id fun z => absurd z (noO a)) id⟩
    cases o with
    | nx =>
      cases e2
      exact fun σ' ρ' H' R' p' f' => q .non ρ' H' (R'.s.zs fun a h => .inl h) (ext p' (fun a h => .inl h) f') .non
    | rt v =>
      cases e2
      exact fun u ρ' H' R' p' f' r' => q u ρ' H' R' (ext p' (fun a h => h) f') r'
    | bk => cases e2
    | ct => cases e2
  · cases e
theorem defG_ok {x qual : Str} {sd : Stmt} {fA : Addr} {fd : FuncData} {N ps : List Str} {lv k n : Nat} {b : S} (F0 : L2.Fun K x qual sd fA fd) (Sc : FnScope N ps (defScope sd)) (hk : ps.length = k) (hn : N.length = n)
    (body : ∀ (cdv : Value) (A : Around) (outer : List Env) (s : Shared) (H : Hp) (E : XK), (A.deeper (envOfC qual (defScope sd) s.heap.objs.size fA cdv)).guards = some [] → Room lv (A.deeper (envOfC qual (defScope sd) s.heap.objs.size fA cdv)) → KX (cxOf CX0 P w K mg base N qual (defScope sd) fA cdv A outer s H E).nox K → ∃ t, SSs (cxOf CX0 P w K mg base N qual (defScope sd) fA cdv A outer s H E).nox K cls (defBody sd) t b) :
    FnG P w K mg base (lv + 1) fA fd ps (spM K cls (fnOf k n b)) := by
  refine fnG_of F0 Sc (fun vs H Q E h => ?_) (fun cdv A outer s H vs Q E hg hr h => ?_)
  · obtain ⟨ρ, Z, ds, st, d, st', R, r, e, _⟩ := h
    unfold fnOf at e
    split at e
    · rename_i hl
      rw [← r.length, hl, hk]
    · cases e
  · obtain ⟨t, ht, sn⟩ := body cdv A outer s H E hg hr ⟨rfl⟩
    exact ⟨t, ht, body_sp sn hk hn h⟩
end
/-- a def that may be called where nothing is being shown -/
structure CalG (P : Program) (w : World) (K : PySem.W.Frag) (mg : Str → Option Value) (base : Heap) (k : Nat) (x : Str) (sp : Sp) : Prop where
  ex : ∃ (f : Addr) (fd : FuncData) (ps : List Str), FnG P w K mg base k f fd ps sp ∧ mg x = some (.ref f) ∧ PySem.W.keepIn K (.ref f) = true ∧ Binds K fd ps []
section
variable {X : Cx} {pins : List (Addr × Obj)} {σ : L2.St} {H : Hp} {s : Shared} {k j : Nat} {f : Addr} {fd : FuncData} {ps : List Str} {sp : Sp} {x : Str} {p pos : Pos} {e : Expr} {es : List Expr} {t : TA}
theorem run_fnG {Q : VK} {us : List Value} {vs : List V} (F : FnG X.prog X.w X.K X.mg X.base k f fd ps sp) (hg : X.A.guards = some []) (hr : Room k X.A) (hb : Binds X.K fd ps [])
    (I : Inv X pins σ H s) (r : Vals vs us) (h : sp vs H Q E0) : wpAny (model X.prog X.w) X.A (call (.ref f) us) (EP X pins σ Q) X.xe s := by
  have hl : (us ++ []).length = ps.length := by rw [List.append_nil, ← r.length]; exact F.len _ _ _ _ h
  refine wpAny_call (codeAny_mono (F.run X.A X.stack s H ⟨us, []⟩ (us ++ []) vs Q E0 hg hr I.env0 (hb s us I.kIn hl) (by rw [List.append_nil]; exact r) h) fun r s' hq => ?_)
  cases r with
  | error e => exact pass0 (X := X) pins σ H s e s' I hq
  | ok fl =>
    cases fl with
    | ret u => exact I.after hq
    | next => exact False.elim hq
    | brk => exact False.elim hq
    | cont => exact False.elim hq
theorem pe_callG (c : CalG X.prog X.w X.K X.mg X.base k x sp) (hgd : X.A.guards = some []) (hr : Room j X.A) (hk : k ≤ j) (hg : Gl X x) (ha : PA X (e :: es) t)
    (hdb : (x == ("__debug__" : Str)) = false := by decide) (he : starEach (e :: es) X.env = (false, eval e X.env) :: starEach es X.env := by rfl) (hpl : (backTo pos (starEach es X.env)).any (·.1) = false := by rfl) :
    PE X (.Call (.Name x p) (e :: es) [] pos) (tCall sp [] E0 t) := by
  obtain ⟨f, fd, ps, F, hm, kp, b⟩ := c.ex
  refine ⟨fun pins s σ H Q I h => ?_⟩
  refine wpAny_Call_Name_kw (ld_glob I hg hm ?_ hdb)
  refine PySem.W.callWith_K (h₀ := X.base) I.ok.mod.kin kp (thn (ha.run pos pins s σ H _ I h) fun us s1 ⟨vs, H1, I1, r, q⟩ => ⟨I1.kIn, ?_⟩) he hpl
  have q : sp (vs ++ []) H1 Q E0 := q
  rw [List.append_nil] at q
  exact run_fnG F hgd (hr.mono hk) b I1 r q
theorem pe_callG0 (c : CalG X.prog X.w X.K X.mg X.base k x sp) (hgd : X.A.guards = some []) (hr : Room j X.A) (hk : k ≤ j) (hg : Gl X x)
    (hdb : (x == ("__debug__" : Str)) = false := by decide) : PE X (.Call (.Name x p) [] [] pos) (tCall sp [] E0 tNil) := by
  obtain ⟨f, fd, ps, F, hm, kp, b⟩ := c.ex
  refine ⟨fun pins s σ H Q I h => ?_⟩
  refine wpAny_Call_Name_kw (ld_glob I hg hm ?_ hdb)
  exact PySem.W.callWith_K0 I.kIn kp (run_fnG (us := []) F hgd (hr.mono hk) b I .nil h)
end
section
variable {X : Cx} {K : PySem.W.Frag} [hK : KX X K] {cls : Nat → Addr} {m : Bool} {mm : F} {k j : Nat} {x : Str} {p pos : Pos} {e : Expr} {es : List Expr} {t : TA} {f : L}
theorem se_callG (c : CalG X.prog X.w K X.mg X.base k x (spM K cls mm)) (hgd : X.A.guards = some []) (hr : Room j X.A) (ha : SA X K cls false (e :: es) t f) (hk : k ≤ j := by decide) (hg : Gl X x := by rfl)
    (hdb : (x == ("__debug__" : Str)) = false := by decide) (he : starEach (e :: es) X.env = (false, eval e X.env) :: starEach es X.env := by rfl) (hpl : (backTo pos (starEach es X.env)).any (·.1) = false := by rfl) :
    SE X K cls m (.Call (.Name x p) (e :: es) [] pos) (tCall (spM K cls mm) [] E0 t) (eCall mm f) := by obtain ⟨rfl⟩ := hK; exact ⟨pe_callG c hgd hr hk hg ha.1 hdb he hpl, snd_call ha.2⟩
theorem se_callG0 (c : CalG X.prog X.w K X.mg X.base k x (spM K cls mm)) (hgd : X.A.guards = some []) (hr : Room j X.A) (hk : k ≤ j := by decide) (hg : Gl X x := by rfl) (hdb : (x == ("__debug__" : Str)) = false := by decide) :
    SE X K cls m (.Call (.Name x p) [] [] pos) (tCall (spM K cls mm) [] E0 tNil) (eCall mm aNil) := by obtain ⟨rfl⟩ := hK; exact ⟨pe_callG0 c hgd hr hk hg hdb, snd_call snd_nil⟩
end

/-! ### str of what is a list or a tuple -/
def listy : Val → Bool
  | .lst _ => true
  | .tup _ => true
  | .ref _ => true
  | _ => false
def oStr : Sto → Val → Option Val := fun st x => if listy x then (pd st deep x).bind fun d => if d.showable = true ∧ d.shown.length ≤ sizeLine then some (.str d.shown) else none else none
def rStrD (K : PySem.W.Frag) : List V → Hp → VK → Prop := fun xs H Q => ∃ a d, xs = [.ref a] ∧ Dp K H (.ref a) d ∧ SeqAt.shaped d = true ∧ d.showable = true ∧ d.shown.length ≤ sizeLine ∧ Q (.str d.shown) H
theorem call_strD {X : Cx} (hg : X.A.guards = some []) (hu : X.A.units + 80 < cLine) : CallR X (.type "str") (rStrD X.K) := by
  intro pins s σ H xs us Q I r h
  obtain ⟨a, d, rfl, hd, sd, sh, sz, q⟩ := h
  obtain ⟨u, rfl, r1⟩ := vals1 r
  obtain rfl : u = Value.ref a := r1
  obtain ⟨as, rd⟩ := Dp.reads I d (.ref a) (.ref a) hd rfl
  have hdp : d.canLay0 = true ∧ d.depth ≤ 64 := by
    have sd : (d.canLay0 && decide (d.depth ≤ 64)) = true := sd
    rw [Bool.and_eq_true] at sd
    exact ⟨sd.1, of_decide_eq_true sd.2⟩
  exact str_of_reads rd sh (PyData.noDict_hsm (PyData.hasDict_of_canLay d hdp.1)) hg (by omega) (fun _ _ e => e) (fun h' u tk hk => ⟨.str d.shown, H, I.kept hk, ⟨u, rfl⟩, q⟩) sz
theorem ops_str {K : PySem.W.Frag} {cls : Nat → Addr} : Op1S K cls oStr (fun u => rStrD K [u]) := by
  intro ρ Z σ H sl st x z u R r e Q q
  unfold oStr at e
  split at e
  · rename_i hl
    obtain ⟨d, e1, e⟩ := bind_some e
    split at e
    · rename_i hd
      cases e
      obtain ⟨j1, j2⟩ := pd_dp R r e1
      have hx : ∃ a, u = .ref a := by
        rcases r with r | ⟨_, _, _, _, e', h⟩
        · cases r <;> first | exact ⟨_, rfl⟩ | cases hl
        · obtain ⟨h1, h2⟩ := h
          exact ⟨_, by first | exact h1 | exact h2.1⟩
      obtain ⟨a, rfl⟩ := hx
      exact ⟨a, d, rfl, j1, j2, hd.1, hd.2, q _ _ R .refl (.str _)⟩
    · cases e
  · cases e
/-- != of two texts -/
def oNeS : Sto → Val → Val → Option Val
  | _, .str a, .str b => some (.bl (!decide (a = b)))
  | _, _, _ => none
theorem ops_neS {K : PySem.W.Frag} {cls : Nat → Addr} : OpS K cls oNeS rNe := by
  intro ρ Z σ H sl st x y z u v R r1 r2 e Q q
  unfold oNeS at e
  split at e
  · cases e
    have h1 : ∀ {a : Str} {u : V}, RepM K true ρ Z σ H sl (.str a) u → u = .str a := fun {a u} r => by
      rcases r with r | ⟨_, _, _, _, e', _⟩
      · cases r; rfl
      · cases e'
    rw [h1 r1, h1 r2]
    refine ⟨rfl, ?_⟩
    have := q _ _ R .refl (.bl _)
    rename_i a b
    rw [show decide (V.str a = V.str b) = decide (a = b) by rw [Bool.eq_iff_iff]; simp]
    exact this
  · cases e
section
variable {X : Cx} {K : PySem.W.Frag} [hK : KX X K] {cls : Nat → Addr} {m : Bool} {p pos : Pos} {a : Expr} {ta : TE} {fa : E}
theorem se_strD (bt : Bt X.mg) (hgd : X.A.guards = some []) (hu : X.A.units + 80 < cLine) (ha : SE X K cls true a ta fa) (hg : Gl X "str" := by rfl) (hs : starEach [a] X.env = (false, eval a X.env) :: starEach [] X.env := by rfl) (hpl : (backTo pos (starEach [] X.env)).any (·.1) = false := by rfl) :
    SE X K cls m (.Call (.Name "str" p) [a] [] pos) (tCB (rStrD K) (tCons ta tNil)) (e1 oStr fa) := by obtain ⟨rfl⟩ := hK; exact ⟨pe_callTy (call_strD hgd hu) hg bt.str (by decide +kernel) (pa_cons ha.1 pa_nil hs) (he := hs) (hpl := hpl), snd_b1 ops_str ha.2⟩
theorem c_neS : Cm X K cls .NotEq rNe oNeS := ⟨op_ne, ops_neS⟩
theorem hu80 {k : Nat} {A : Around} (r : Room k A) : A.units + 80 < cLine := by have := r.un; omega
end
end Mi

set_option Elab.async false
set_option linter.all false
set_option maxRecDepth 100000
set_option maxHeartbeats 1000000
/-! Mi: calls upon an empty store: the arguments hold no place, the answer is flat. -/
namespace Mi
open PySem PySem.Spec PyProof.Rows L2
variable [Gam]
section
variable {K : PySem.W.Frag} {cls : Nat → Addr} {ρ ρ' : List Addr} {Z Z' : Addr → Prop} {σ : L2.St} {H H' : Hp} {sl : Sl} {st st' : Sto}
/-- a value that names no place, at an empty store -/
theorem repL_noref {A A' : Addr → Prop} {n : Nat} (ih : ∀ {x : Val} {u : V} {d : PyData}, pd [] n x = some d → Rep K ρ A H x u → Rep K ρ' A' H x u) : ∀ {xs : List Val} {us : List V} {ds : List PyData}, xs.mapM (pd [] n) = some ds → RepL K ρ A H xs us → RepL K ρ' A' H xs us
  | [], us, _, e, r => by cases r; exact .nil
  | x :: xs, us, _, e, r => by
    cases r with
    | cons r rs =>
      rw [List.mapM_cons] at e
      obtain ⟨d, e1, e⟩ := bind_some e
      obtain ⟨ds, e2, _⟩ := bind_some e
      exact .cons (ih e1 r) (repL_noref ih e2 rs)
theorem rep_noref {A A' : Addr → Prop} (hA : ∀ a, A' a → A a) : ∀ (n : Nat) {x : Val} {u : V} {d : PyData}, pd [] n x = some d → Rep K ρ A H x u → Rep K ρ' A' H x u
  | 0, x, u, d, e, r => by
    cases r with
    | non => exact .non
    | bl b => exact .bl b
    | int i => exact .int i
    | str i => exact .str i
    | fn _ _ _ => cases e
    | ref _ => cases e
    | lst _ _ => cases e
    | tup _ _ => cases e
  | n + 1, x, u, d, e, r => by
    cases r with
    | non => exact .non
    | bl b => exact .bl b
    | int i => exact .int i
    | str i => exact .str i
    | fn _ _ _ => cases e
    | ref _ => cases e
    | lst h r =>
      obtain ⟨ds, e1, _⟩ := Option.map_eq_some_iff.mp e
      exact .lst (h.imp (fun h => ⟨fun z => h.1 (hA _ z), h.2⟩) id) (repL_noref (rep_noref hA n) e1 r)
    | tup h r =>
      obtain ⟨ds, e1, _⟩ := Option.map_eq_some_iff.mp e
      exact .tup (h.imp (fun h => ⟨fun z => h.1 (hA _ z), h.2⟩) id) (repL_noref (rep_noref hA n) e1 r)
/-- all stays, more may have come -/
theorem RelR.allKeep (R : RelR K cls ρ Z H st) (hk : ∀ a o, H a = some o → H' a = some o) : RelR K cls ρ Z H' st := by
  refine ⟨R.nd, R.len, fun n c a h1 h2 => ?_, fun a h => ?_, R.dis⟩
  · have hs : H' a = H a := by
      cases e : H a with
      | none => exact absurd e (R.dom a (.inl (List.mem_of_getElem? h2)))
      | some o => exact hk a o e
    exact (R.cells n c a h1 h2).mono ⟨fun a o _ h => hk a o h, fun _ h => .inl h⟩ List.prefix_rfl hs
  · cases e : H a with
    | none => exact absurd e (R.dom a h)
    | some o => rw [hk a o e]; simp
end
/-- a call whose arguments hold no place: the callee runs on an empty store -/
def eCallN (m : F) (f : L) : E := fun sl st => (f sl st).bind fun p => if (p.1.mapM (pd [] deep)).isSome = true then (m p.1 []).bind fun q => if flat q.1 = true then some (q.1, p.2) else none else none
section
variable {K : PySem.W.Frag} {cls : Nat → Addr} {m : Bool} {mm : F} {t : TA} {f : L}
theorem snd_callN {EE : XK} (h : SndA K cls false t f) : Snd K cls m (tCall (spM K cls mm) [] EE t) (eCallN mm f) := ⟨fun ρ Z σ H sl st d st' R e Q q => by
  obtain ⟨p, e1, e⟩ := bind_some e
  split at e
  · rename_i hp
    obtain ⟨ds, hds⟩ := Option.isSome_iff_exists.mp hp
    obtain ⟨⟨v, st2⟩, e2, e⟩ := bind_some e
    split at e
    · rename_i hf
      cases e
      refine h.run ρ Z σ H sl st p.1 p.2 R e1 _ fun us ρ1 H1 R1 x1 r1 => ?_
      have hr : RepL K [] (AR [] fun _ => False) H1 p.1 us := repL_noref (rep_noref (fun a z => by
        rcases z with z | z
        · cases z
        · exact z.elim) deep) hds r1.repL
      refine ⟨[], fun _ => False, p.1, [], v, st2, ⟨List.nodup_nil, rfl, fun n c a h => by simp at h, fun b hb => ?_, fun b hb => by simp at hb⟩, by rw [List.append_nil]; exact hr, e2, fun u ρ2 H2 R2 x2 r2 => ?_⟩
      · rcases hb with hb | hb
        · simp at hb
        · exact hb.elim
      · have hk : ∀ a o, H1 a = some o → H2 a = some o := fun a o h => x2.fr.keep a o (by simp) h
        have x3 : Ext ρ1 H1 ρ1 H2 := ⟨List.prefix_rfl, ⟨fun a o _ h => hk a o h, fun _ h => .inl h⟩⟩
        refine q u ρ1 H2 (R1.step x3 (R1.s.allKeep hk)) (x1.trans x3) (.of ?_)
        cases r2 <;> first | exact .non | exact .bl _ | exact .int _ | exact .str _ | cases hf
    · cases e
  · cases e⟩
end
section
variable {X : Cx} {K : PySem.W.Frag} [hK : KX X K] {cls : Nat → Addr} {m : Bool} {mm : F} {k j : Nat} {x : Str} {p pos : Pos} {e : Expr} {es : List Expr} {t : TA} {f : L}
theorem se_callN (c : C8.Cal X.prog X.w K X.mg X.base k x (spM K cls mm) []) (hr : Room j X.A) (ha : SA X K cls false (e :: es) t f) (hk : k ≤ j := by decide) (hg : Gl X x := by rfl)
    (hdb : (x == ("__debug__" : Str)) = false := by decide) (he : starEach (e :: es) X.env = (false, eval e X.env) :: starEach es X.env := by rfl) (hpl : (backTo pos (starEach es X.env)).any (·.1) = false := by rfl) :
    SE X K cls m (.Call (.Name x p) (e :: es) [] pos) (tCall (spM K cls mm) [] E0 t) (eCallN mm f) := by obtain ⟨rfl⟩ := hK; exact ⟨C8.pe_c c hr hk hg ha.1 hdb he hpl, snd_callN ha.2⟩
theorem se_callN0 (c : C8.Cal X.prog X.w K X.mg X.base k x (spM K cls mm) []) (hr : Room j X.A) (hk : k ≤ j := by decide) (hg : Gl X x := by rfl) (hdb : (x == ("__debug__" : Str)) = false := by decide) :
    SE X K cls m (.Call (.Name x p) [] [] pos) (tCall (spM K cls mm) [] E0 tNil) (eCallN mm aNil) := by
  obtain ⟨rfl⟩ := hK
  obtain ⟨f, fd, ps, ds, F, hm, kp, b, d⟩ := c.ex
  exact ⟨pe_call0 F (hr.mono hk) hg hm kp b d pass0 hdb, snd_callN snd_nil⟩
end
/-! ### the law, called where nothing is being shown -/
theorem law_callG {P : Program} {w : World} {K : PySem.W.Frag} {mg mb : Str → Option Value} {k : Nat} {fa a : Addr} {fd : FuncData} {x : Str} {sp : Sp} {s₁ : Shared} {vs : List Value} {ns : List Int}
    (kin : K.In s₁.heap) (hns : s₁.heap.Ns mainGlobals mg) (hb : s₁.heap.Ns builtinsNs mb) (hbb : ∀ x : Str, x ≠ "__name__" → mb x = bootBuiltins x) (hlim : s₁.heap.NoLimit) (hg : s₁.gens = #[])
    (ha : s₁.heap.get? a = some { cls := .type "list", data := .seq vs.toArray }) (hi : IntsAre vs ns) (hl : ns.length ≤ sizeLine) (hr : Room k callerA)
    (F : ∀ base : Heap, K.In base → base.Ns mainGlobals mg → FnG P w K mg base k fa fd [x] sp) (hbind : ∀ (s : Shared) (u : Value), BindsTo s fd ⟨[u], []⟩ [(x, u)])
    (hsp : ∀ H : Hp, Only H → SqL K H a (ns.map V.int) → sp [.ref a] H (fun v _ => v = .bl true) fun _ _ _ => False) :
    codeAny (model P w) callerA (.call (.ref fa) ⟨[.ref a], []⟩) (fun r s' => r = .ok (.ret (.bool true)) ∧ PySem.OldK s₁.heap s'.heap ∧ s'.os = s₁.os ∧ AllBare s'.gens) s₁ := by
  have rv := vals_ints hi
  -- which heap is told to the walk: the script, unless it is one of the module's own objects
  obtain ⟨H, hO, hS, hok, hA, hK⟩ : ∃ H : Hp, Only H ∧ SqL K H a (ns.map V.int) ∧ HOk P w H s₁.heap ∧ (∀ b, H b ≠ none → b = a) ∧ (H a ≠ none → K.lookup a = none) := by
    cases hk : K.lookup a with
    | some o =>
      have e := kin a o hk
      rw [ha] at e
      cases e
      exact ⟨fun _ => none, fun _ => .inl rfl, .inr ⟨_, vs.toArray, _, hk, rfl, rfl, rfl, by rw [List.size_toArray, hi.length]; exact hl, by simpa using rv⟩, fun b u z => (by have z' : (none : Option HO) = some u := z; cases z'), fun b z => absurd rfl z, fun z => absurd rfl z⟩
    | none =>
      refine ⟨fun b => if b = a then some (.frz { cls := .type "list", data := .seq vs.toArray } (.lst (ns.map V.int))) else none, fun b => ?_, .inl (.inr ⟨{ cls := .type "list", data := .seq vs.toArray }, if_pos rfl⟩), fun b u z => ?_, fun b z => ?_, fun _ => rfl⟩
      · by_cases hb : b = a
        · exact .inr ⟨_, _, if_pos hb⟩
        · exact .inl (if_neg hb)
      · by_cases hb : b = a
        · have z' := (if_pos hb).symm.trans z
          cases z'
          subst hb
          exact ⟨ha, by rw [List.length_map]; exact hl, vs, _, rv, ha⟩
        · cases (if_neg hb).symm.trans z
      · by_cases hb : b = a
        · exact hb
        · exact absurd (if_neg hb) z
  have noD : ∀ {b : Addr} {o : Obj} {es : Array DictEntry} {ep : Nat}, s₁.heap.get? b = some o → o.data = .dict es ep → H b = none := fun {b o es ep} e d => by
    cases q : H b with
    | none => rfl
    | some u =>
      obtain rfl : b = a := hA b (by rw [q]; simp)
      rw [ha] at e; cases e
      cases (show Data.seq vs.toArray _ = Data.dict es ep from d)
  have ns' : ∀ {b : Addr} {m : Str → Option Value}, s₁.heap.Ns b m → (hidT s₁.heap H).Ns b m := fun ⟨o, es, ep, e, d, r⟩ => ⟨o, es, ep, hidT_get e (noD e d), d, r⟩
  have kb : K.In (hidT s₁.heap H) := fun b o e => hidT_get (kin b o e) (by
    cases q : H b with
    | none => rfl
    | some u =>
      obtain rfl : b = a := hA b (by rw [q]; simp)
      rw [hK (by rw [q]; simp)] at e; cases e)
  have mod : Mod K mg (hidT s₁.heap H) := ⟨kb, ns' hns, ⟨mb, ns' hb, hbb⟩, let ⟨mc, h1, h2⟩ := hlim; ⟨mc, ns' h1, h2⟩⟩
  have e0 : Env0 P w K mg (hidT s₁.heap H) callerA [] s₁ H := ⟨rfl, mod, fun b o e => of_hidT e, Nat.le_of_eq (hidT_size _ _), trivial, fun b hb => absurd (show b ∈ ([] : List Addr) from hb) (by simp), hok, .of_eq hg⟩
  refine codeAny_mono ((F _ kb (ns' hns)).run callerA [] s₁ H ⟨[.ref a], []⟩ [.ref a] [.ref a] _ _ rfl hr e0 (hbind s₁ (.ref a)) (.cons rfl .nil) (hsp H hO hS)) fun r s' h => ?_
  cases r with
  | error e => exact False.elim h
  | ok fl =>
    cases fl with
    | next => exact False.elim h
    | brk => exact False.elim h
    | cont => exact False.elim h
    | ret u =>
      obtain ⟨v, H', os, bare, un, hok', r', q⟩ := h
      obtain rfl : v = V.bl true := q
      obtain rfl : u = Value.bool true := r'
      refine ⟨rfl, PySem.OldK.of_keep fun b o e => ?_, os, bare⟩
      cases q : H b with
      | none => exact un.keep b o e q (by intro z; exact absurd (show b ∈ ([] : List Addr) from z) (by simp)) (by simp)
      | some u =>
        rcases hO b with z | ⟨ob, xs, z⟩
        · rw [q] at z; cases z
        · have z2 := un.frzs b ob _ z
          obtain ⟨e1, _⟩ := hok b _ z
          obtain ⟨e2, _⟩ := hok' b _ z2
          rw [e] at e1; cases e1
          exact e2
theorem walk_ofG {l : PySem.W.OpenLaw} {n k : Nat} {q : Program} {loose : List Str} {XP : (Str → Option Value) → Heap → Prop} {YP : World → Heap → Prop} {d : DefRec} {K : Params → PySem.W.Frag} {sp : World → Sp} {x : Str}
    (hn : l.most = some n) (hn2 : n ≤ sizeLine) (hdf : d.params.defaults = []) (hr : Room k callerA) (hY : ∀ (w : World) (h : Heap), YP w h → (K w.params).In h)
    (F : ∀ (w : World) (mg : Str → Option Value) (fa : Addr) (h : Heap), (K w.params).In h → h.Ns mainGlobals mg → mg d.name = some (.ref fa) →
      ∃ fd : FuncData, (∀ (s : Shared) (u : Value), BindsTo s fd ⟨[u], []⟩ [(x, u)]) ∧ ∀ base : Heap, (K w.params).In base → base.Ns mainGlobals mg → FnG l.prog w (K w.params) mg base k fa fd [x] (sp w))
    (hsp : ∀ (w : World) (H : Hp) (a : Addr) (ns : List Int), ns.length ≤ n → Only H → SqL (K w.params) H a (ns.map V.int) → sp w [.ref a] H (fun v _ => v = .bl true) fun _ _ _ => False) :
    PySem.W.WalkO q loose XP YP l.row.toRowW d [] (fun f vs => PySem.call f vs) := by
  refine Att.attach_call hn hdf fun w s₀ s₁ mg mb fa o pm cd doc a vs ns G Y ho hd hcd hmg hobj hints hlen hg => ?_
  have kin := hY w _ Y
  obtain ⟨fd, hb, hF⟩ := F w mg fa _ kin G.T.g hmg
  exact law_callG kin G.T.g G.T.b G.T.builtins G.T.nolimit hg hobj hints (Nat.le_trans hlen hn2) hr hF hb fun H hO hS => hsp w H a ns hlen hO hS
end Mi

set_option Elab.async false
set_option linter.all false
set_option maxRecDepth 100000
set_option maxHeartbeats 1000000
/-! Mi: pop and clear of a list at a place, index of a number in a list. -/
namespace Mi
open PySem PySem.Spec PyProof.Rows L2
variable [Gam]
/-- o.pop(), its item dropped -/
def sPopK (o : E) : S := fun sl st => (o sl st).bind fun p => match p.1 with
  | .ref n => match p.2[n]? with
    | some (.lst xs) => if 0 < xs.length then some (.nx, sl, p.2.set n (.lst xs.dropLast)) else none
    | _ => none
  | _ => none
/-- o.clear() -/
def sClrK (o : E) : S := fun sl st => (o sl st).bind fun p => match p.1 with
  | .ref n => match p.2[n]? with
    | some (.lst _) => some (.nx, sl, p.2.set n (.lst []))
    | _ => none
  | _ => none
/-- the first place of a number -/
def placeOf (i : Int) : List Int → Option Nat
  | [] => none
  | j :: r => if j = i then some 0 else (placeOf i r).map (· + 1)
/-- o.index(e), numbers -/
def eIndex (o e : E) : E := fun sl st => (o sl st).bind fun p => (viewQ p.2 p.1).bind fun _ => (e sl p.2).bind fun q => (viewQ q.2 p.1).bind fun xs => (allInt xs).bind fun ns => match q.1 with
  | .int i => (placeOf i ns).bind fun k => some (.int (k : Nat), q.2)
  | _ => none
theorem placeOf_some {i : Int} : ∀ {ns : List Int} {k : Nat}, placeOf i ns = some k → ns[k]? = some i ∧ ∀ (m : Nat) (j : Int), m < k → ns[m]? = some j → j ≠ i
  | [], _, h => by cases h
  | j :: r, k, h => by
    unfold placeOf at h
    by_cases e : j = i
    · rw [if_pos e] at h
      cases h
      exact ⟨by rw [e]; rfl, fun m _ hm => by omega⟩
    · rw [if_neg e] at h
      obtain ⟨k', h1, rfl⟩ := Option.map_eq_some_iff.mp h
      obtain ⟨h2, h3⟩ := placeOf_some h1
      refine ⟨h2, fun m z hm hz => ?_⟩
      cases m with
      | zero => cases hz; exact e
      | succ m => exact h3 m z (by omega) hz
section
variable {K : PySem.W.Frag} {cls : Nat → Addr} {ρ : List Addr} {A : Addr → Prop} {Z : Addr → Prop} {H : Hp} {m m1 m2 : Bool} {to te : TE} {fo fe : E}
theorem repL_dropLast : ∀ {xs : List Val} {us : List V}, RepL K ρ A H xs us → RepL K ρ A H xs.dropLast us.dropLast
  | [], _, r => by cases r; exact .nil
  | [x], _, r => by
    cases r with
    | cons r t => cases t; exact .nil
  | x :: y :: xs, _, r => by
    cases r with
    | cons r t =>
      cases t with
      | cons r2 t2 => exact .cons r (repL_dropLast (.cons r2 t2))
theorem s_popK (ho : Snd K cls m to fo) : SndS K cls (tDrop (tBM0 K "list" rPop to)) (sPopK fo) := ⟨fun ρ Z σ H sl st r R e D q => by
  obtain ⟨p, e1, e⟩ := bind_some e
  split at e
  · rename_i n hn
    split at e
    · rename_i xs hx
      split at e
      · rename_i hl
        cases e
        refine ho.run ρ Z σ H sl st p.1 p.2 R e1 _ fun u ρ1 H1 R1 x1 r1 => ?_
        rw [hn] at r1
        obtain ⟨a, rfl, hρ⟩ := ref_inv r1
        obtain ⟨us, w1, w2⟩ := R1.s.cells n _ a hx hρ
        have hlen : us.length - 1 < us.length := by rw [← w2.length]; omega
        refine ⟨.inl ⟨rfl, us, .of w1⟩, a, us, _, rfl, rfl, w1, List.getElem?_eq_getElem hlen, ?_⟩
        have x3 : Ext ρ1 H1 ρ1 (upd H1 a (.lst us.dropLast)) := .set hρ
        exact q σ ρ1 _ (R1.set hρ ⟨us.dropLast, upd_same, repL_dropLast (x3.repL w2)⟩) (x1.trans x3).pre (x1.trans x3).wo
      · cases e
    · cases e
  · cases e⟩
theorem s_clrK (ho : Snd K cls m to fo) : SndS K cls (tDrop (tBM0 K "list" rClear to)) (sClrK fo) := ⟨fun ρ Z σ H sl st r R e D q => by
  obtain ⟨p, e1, e⟩ := bind_some e
  split at e
  · rename_i n hn
    split at e
    · rename_i xs hx
      cases e
      refine ho.run ρ Z σ H sl st p.1 p.2 R e1 _ fun u ρ1 H1 R1 x1 r1 => ?_
      rw [hn] at r1
      obtain ⟨a, rfl, hρ⟩ := ref_inv r1
      obtain ⟨us, w1, w2⟩ := R1.s.cells n _ a hx hρ
      refine ⟨.inl ⟨rfl, us, .of w1⟩, a, us, rfl, rfl, w1, ?_⟩
      have x3 : Ext ρ1 H1 ρ1 (upd H1 a (.lst [])) := .set hρ
      exact q σ ρ1 _ (R1.set hρ ⟨[], upd_same, .nil⟩) (x1.trans x3).pre (x1.trans x3).wo
    · cases e
  · cases e⟩
theorem snd_index (ho : Snd K cls m1 to fo) (he : Snd K cls m2 te fe) : Snd K cls m (tBM K "list" (rIndex K) to (tCons te tNil)) (eIndex fo fe) := ⟨fun ρ Z σ H sl st d st' R e Q q => by
  obtain ⟨p, e1, e⟩ := bind_some e
  obtain ⟨xs0, v0, e⟩ := bind_some e
  obtain ⟨p2, e2, e⟩ := bind_some e
  obtain ⟨xs, v1, e⟩ := bind_some e
  obtain ⟨ns, v2, e⟩ := bind_some e
  split at e
  · rename_i i hi
    obtain ⟨k, e3, e⟩ := bind_some e
    cases e
    refine ho.run ρ Z σ H sl st p.1 p.2 R e1 _ fun u ρ1 H1 R1 x1 r1 => ?_
    obtain ⟨a, us0, rfl, sq0, _⟩ := viewQ_of R1 r1 v0
    refine ⟨.inl ⟨rfl, us0, sq0⟩, ?_⟩
    refine he.run ρ1 Z σ H1 sl p.2 p2.1 p2.2 R1 e2 _ fun v ρ2 H2 R2 x2 r2 => ?_
    obtain ⟨a', us, ea, sq, rl⟩ := viewQ_of R2 (r1.ext x2) v1
    cases ea
    obtain ⟨rfl, rfl⟩ := allInt_rep rl v2
    rw [hi] at r2
    have hv : v = .int i := by
      rcases r2 with r2 | ⟨_, _, _, _, z, _⟩
      · cases r2; rfl
      · cases z
    subst hv
    obtain ⟨h1, h2⟩ := placeOf_some e3
    refine ⟨a, _, .int i, k, .int i, rfl, rfl, sq, rfl, List.all_eq_true.mpr fun z hz => by obtain ⟨j, _, rfl⟩ := List.mem_map.mp hz; rfl, by rw [List.getElem?_map, h1]; rfl, by show (i == i) = true; exact beq_self_eq_true _, fun mm z hm hz => ?_, q _ ρ2 H2 R2 (x1.trans x2) (.of (.int _))⟩
    rw [List.getElem?_map] at hz
    obtain ⟨j, hj, rfl⟩ := Option.map_eq_some_iff.mp hz
    exact beq_eq_false_iff_ne.mpr (h2 mm j hm hj)
  · cases e⟩
end
section
variable {X : Cx} {K : PySem.W.Frag} [hK : KX X K] {cls : Nat → Addr} {m m' m1 m2 : Bool} {o e : Expr} {to te : TE} {fo fe : E} {apos cpos pos : Pos}
theorem ss_popK (ho : SE X K cls true o to fo)
    (hbase : attributeBase o "pop" X.env (eval o X.env) = eval o X.env := by rfl) (hline : (apos.endLine == cpos.line) = true := by rfl)
    (hsw : swapsWith (.Call (.Attribute o "pop" apos) [] [] cpos) none pos.line X.env = pure false := by rfl) :
    SS X K cls (.Expr (.Call (.Attribute o "pop" apos) [] [] cpos) pos) (tDrop (tBM0 K "list" rPop to)) (sPopK fo) :=
  by obtain ⟨rfl⟩ := hK; exact ⟨ps_expr (pe_bm0 PySem.F.plainAttrs_list PySem.F.slot_list_pop PySem.F.type_list_pop mt_pop ho.1 hbase hline) hsw, s_popK ho.2⟩
theorem ss_clrK (ho : SE X K cls true o to fo)
    (hbase : attributeBase o "clear" X.env (eval o X.env) = eval o X.env := by rfl) (hline : (apos.endLine == cpos.line) = true := by rfl)
    (hsw : swapsWith (.Call (.Attribute o "clear" apos) [] [] cpos) none pos.line X.env = pure false := by rfl) :
    SS X K cls (.Expr (.Call (.Attribute o "clear" apos) [] [] cpos) pos) (tDrop (tBM0 K "list" rClear to)) (sClrK fo) :=
  by obtain ⟨rfl⟩ := hK; exact ⟨ps_expr (pe_bm0 PySem.F.plainAttrs_list PySem.F.slot_list_clear PySem.F.type_list_clear mt_clear ho.1 hbase hline) hsw, s_clrK ho.2⟩
theorem se_index (ho : SE X K cls true o to fo) (he : SE X K cls true e te fe) (hs : starEach [e] X.env = (false, eval e X.env) :: starEach [] X.env := by rfl)
    (hbase : attributeBase o "index" X.env (eval o X.env) = eval o X.env := by rfl)
    (hfew : ((backTo cpos (starEach [e] X.env)).all (fun x => !x.1) && (backToKw cpos (keywordEach [] X.env)).all (fun x => x.1.isSome) && decide ([e].length + ([] : List Keyword).length + (if ([] : List Keyword).isEmpty then 0 else 1) < 30)) = true := by rfl)
    (hline : (apos.endLine == cpos.line) = true := by rfl) (hplain : (backTo cpos (starEach [] X.env)).any (·.1) = false := by rfl) :
    SE X K cls m (.Call (.Attribute o "index" apos) [e] [] cpos) (tBM K "list" (rIndex K) to (tCons te tNil)) (eIndex fo fe) :=
  by obtain ⟨rfl⟩ := hK; exact ⟨pe_bm PySem.F.plainAttrs_list PySem.F.slot_list_index PySem.F.type_list_index mt_index ho.1 (pa_cons he.1 pa_nil hs) hbase hfew hline hs hplain, snd_index ho.2 he.2⟩
end
end Mi

set_option Elab.async false
set_option linter.all false
set_option maxRecDepth 100000
set_option maxHeartbeats 1000000
/-! Mi: dicts whose keys are tuples of numbers and texts (one number at least); x.pop(0); is not None. -/
namespace Mi
open PySem PySem.Spec PyProof.Rows L2
variable [Gam]
def isIntV : Val → Bool
  | .int _ => true
  | _ => false
def tkey : Val → Option (List Key)
  | .tup xs => if xs.any isIntV = true then xs.mapM keyOf else none
  | _ => none
def valT (kvs : List (List Key × Val)) (k : List Key) : Option Val := (kvs.find? fun kv => decide (kv.1 = k)).map (·.2)
def putT (kvs : List (List Key × Val)) (k : List Key) (v : Val) : List (List Key × Val) :=
  if (kvs.any fun kv => decide (kv.1 = k)) = true then kvs.map (fun kv => if kv.1 = k then (kv.1, v) else kv) else kvs ++ [(k, v)]
def dtAt (st : Sto) : Val → Option (List (List Key × Val))
  | .ref n => match st[n]? with
    | some (.dt kvs) => some kvs
    | _ => none
  | _ => none
/-- {k: v} -/
def eDisp1T (i e : E) : E := fun sl st => (i sl (st ++ [.dt []])).bind fun p => (e sl p.2).bind fun q => match q.2[st.length]? with
  | some (.dt []) => (tkey p.1).bind fun k => some (.ref st.length, q.2.set st.length (.dt [(k, q.1)]))
  | _ => none
def oTGet : Sto → Val → Val → Option Val := fun st x y => (dtAt st x).bind fun kvs => (tkey y).bind fun k => valT kvs k
/-- d.get(i, e) -/
def eTGet2 (o i e : E) : E := fun sl st => (o sl st).bind fun p => (dtAt p.2 p.1).bind fun _ => (i sl p.2).bind fun q => (e sl q.2).bind fun r =>
  (dtAt r.2 p.1).bind fun kvs => (tkey q.1).bind fun k => some ((valT kvs k).getD r.1, r.2)
/-- d[i] = e -/
def sTSet (o i e : E) : S := fun sl st => (e sl st).bind fun p => (o sl p.2).bind fun q => (i sl q.2).bind fun r => match q.1 with
  | .ref n => match r.2[n]? with
    | some (.dt kvs) => (tkey r.1).bind fun k => if kvs.length < 1000 then some (.nx, sl, r.2.set n (.dt (putT kvs k p.1))) else none
    | _ => none
  | _ => none
/-- k in d, k not in d -/
def oTIn : Sto → Val → Val → Option Val := fun st y x => (dtAt st x).bind fun kvs => (tkey y).bind fun k => some (.bl (valT kvs k).isSome)
def oTNin : Sto → Val → Val → Option Val := fun st y x => (dtAt st x).bind fun kvs => (tkey y).bind fun k => some (.bl (!(valT kvs k).isSome))
section
variable {K : PySem.W.Frag} {cls : Nat → Addr} {ρ ρ' : List Addr} {A : Addr → Prop} {Z : Addr → Prop} {σ : L2.St} {H H' : Hp} {sl : Sl} {st st' : Sto} {m m' : Bool} {x y : Val} {u v : V}
theorem valT_pos {p : List Key × Val} {r : List (List Key × Val)} {k : List Key} (e : p.1 = k) : valT (p :: r) k = some p.2 := by simp [valT, List.find?_cons, e]
theorem valT_neg {p : List Key × Val} {r : List (List Key × Val)} {k : List Key} (e : ¬ p.1 = k) : valT (p :: r) k = valT r k := by simp [valT, List.find?_cons, e]
theorem kt_get : ∀ {kvs : List (List Key × Val)} {kvu : List (List Key × V)}, kvu.map (·.1) = kvs.map (·.1) → RepL K ρ A H (kvs.map (·.2)) (kvu.map (·.2)) → ∀ k, (valT kvs k = none ∧ valV kvu k = none) ∨ ∃ v u, valT kvs k = some v ∧ valV kvu k = some u ∧ Rep K ρ A H v u
  | [], [], _, _, k => .inl ⟨rfl, rfl⟩
  | [], _ :: _, e, _, _ => by cases e
  | _ :: _, [], e, _, _ => by cases e
  | p :: r, q :: s, e, h, k => by
    rw [List.map_cons, List.map_cons] at e h
    injection e with e1 e2
    cases h with
    | cons h1 h2 =>
      by_cases hk : p.1 = k
      · exact .inr ⟨p.2, q.2, valT_pos hk, valV_pos (e1.trans hk), h1⟩
      · rw [valT_neg hk, valV_neg (fun z => hk (e1.symm.trans z))]
        exact kt_get e2 h2 k
theorem kt_map {k : List Key} (r0 : Rep K ρ A H x u) : ∀ {kvs : List (List Key × Val)} {kvu : List (List Key × V)}, kvu.map (·.1) = kvs.map (·.1) → RepL K ρ A H (kvs.map (·.2)) (kvu.map (·.2)) →
    (kvu.map fun kv => if kv.1 = k then (kv.1, u) else kv).map (·.1) = (kvs.map fun kv => if kv.1 = k then (kv.1, x) else kv).map (·.1) ∧ RepL K ρ A H ((kvs.map fun kv => if kv.1 = k then (kv.1, x) else kv).map (·.2)) ((kvu.map fun kv => if kv.1 = k then (kv.1, u) else kv).map (·.2))
  | [], [], _, _ => ⟨rfl, .nil⟩
  | [], _ :: _, e, _ => by cases e
  | _ :: _, [], e, _ => by cases e
  | p :: r, q :: s, e, h => by
    rw [List.map_cons, List.map_cons] at e h
    injection e with e1 e2
    cases h with
    | cons h1 h2 =>
      obtain ⟨i1, i2⟩ := kt_map r0 e2 h2
      simp only [List.map_cons]
      rw [i1]
      by_cases hk : p.1 = k
      · rw [if_pos hk, if_pos (e1.trans hk)]
        exact ⟨by rw [e1], .cons r0 i2⟩
      · rw [if_neg hk, if_neg (fun z => hk (e1.symm.trans z))]
        exact ⟨by rw [e1], .cons h1 i2⟩
theorem any_fstT {α : Type} {k : List Key} (kvs : List (List Key × α)) : (kvs.any fun kv => decide (kv.1 = k)) = (kvs.map (·.1)).any fun j => decide (j = k) := by rw [List.any_map]; rfl
theorem kt_put {kvs : List (List Key × Val)} {kvu : List (List Key × V)} (k : List Key) (r0 : Rep K ρ A H x u) (e : kvu.map (·.1) = kvs.map (·.1)) (h : RepL K ρ A H (kvs.map (·.2)) (kvu.map (·.2))) :
    (putK kvu k u).map (·.1) = (putT kvs k x).map (·.1) ∧ RepL K ρ A H ((putT kvs k x).map (·.2)) ((putK kvu k u).map (·.2)) := by
  unfold putK putT
  rw [any_fstT kvu, any_fstT kvs, e]
  split
  · exact kt_map r0 e h
  · rw [List.map_append, List.map_append, List.map_append, List.map_append, e]
    exact ⟨rfl, h.append (.cons r0 .nil)⟩
theorem keysOf_rep : ∀ {xs : List Val} {us : List V} {k : List Key}, xs.mapM keyOf = some k → RepL K ρ A H xs us → us = k.map kV
  | [], us, k, e, r => by cases e; cases r; rfl
  | x :: xs, us, k, e, r => by
    cases r with
    | cons r t =>
      rw [List.mapM_cons] at e
      obtain ⟨j, e1, e⟩ := bind_some e
      obtain ⟨js, e2, e⟩ := bind_some e
      cases e
      rw [keysOf_rep e2 t, List.map_cons]
      congr 1
      cases x <;> first | cases e1 | skip
      · cases r; rfl
      · cases r; rfl
theorem int_notStr : ∀ {xs : List Val} {us : List V}, xs.any isIntV = true → RepL K ρ A H xs us → us.all strV = true → False
  | [], _, e, _, _ => by cases e
  | x :: xs, us, e, r, a => by
    cases r with
    | cons r t =>
      rw [List.all_cons, Bool.and_eq_true] at a
      rw [List.any_cons, Bool.or_eq_true] at e
      rcases e with e | e
      · cases x <;> first | cases e | skip
        cases r
        cases a.1
      · exact int_notStr e t a.2
theorem tkey_rep {k : List Key} (h : tkey x = some k) (r : RepM K m ρ Z σ H sl x u) : ∃ b, u = .ref b ∧ H b = some (.tup (k.map kV)) := by
  cases x <;> first | cases h | skip
  rename_i xs
  have h' : (if xs.any isIntV = true then xs.mapM keyOf else none) = some k := h
  split at h'
  · rename_i hi
    obtain ⟨a, us, rfl, t, r⟩ := tup_inv r
    have eu := keysOf_rep h' r
    rcases t with ⟨_, t⟩ | ⟨_, t⟩
    · rw [eu] at t
      exact ⟨a, rfl, t⟩
    · exact (int_notStr hi r t).elim
  · cases h'
theorem dtAt_ref {kvs : List (List Key × Val)} (h : dtAt st x = some kvs) : ∃ n, x = .ref n ∧ st[n]? = some (.dt kvs) := by
  cases x <;> first | cases h | skip
  rename_i n
  have h' : (match st[n]? with
    | some (.dt kvs) => some kvs
    | _ => none) = some kvs := h
  split at h'
  · rename_i hx
    cases h'
    exact ⟨n, rfl, hx⟩
  · cases h'
end
section
variable {K : PySem.W.Frag} {cls : Nat → Addr} {m m' : Bool} {to ti te : TE} {fo fi fe : E}
theorem snd_tget (ho : Snd K cls m' to fo) (hi : Snd K cls true ti fi) : Snd K cls m (tDGet to ti) (e2 oTGet fo fi) := ⟨fun ρ Z σ H sl st d st' R e Q q => by
  obtain ⟨p, e1, e⟩ := bind_some e
  obtain ⟨p2, e2, e⟩ := bind_some e
  obtain ⟨z, e3, e⟩ := bind_some e
  cases e
  obtain ⟨kvs, h1, h2⟩ := bind_some e3
  obtain ⟨k, h3, h4⟩ := bind_some h2
  obtain ⟨n, hx, hc⟩ := dtAt_ref h1
  refine ho.run ρ Z σ H sl st p.1 p.2 R e1 _ fun u ρ1 H1 R1 x1 r1 => ?_
  rw [hx] at r1
  obtain ⟨a, rfl, hρ⟩ := ref_inv r1
  refine hi.run ρ1 Z σ H1 sl p.2 p2.1 p2.2 R1 e2 _ fun w ρ2 H2 R2 x2 r2 => ?_
  obtain ⟨b, rfl, hb⟩ := tkey_rep h3 r2
  obtain ⟨kvu, w1, w2, w3⟩ := R2.s.cells n _ a hc (x2.at hρ)
  rcases kt_get w2 w3 k with ⟨z1, z2⟩ | ⟨v', u', z1, z2, z3⟩
  · rw [h4] at z1; cases z1
  · rw [h4] at z1
    cases z1
    exact ⟨a, u', rfl, z2 ▸ DGet.t w1 hb, q _ ρ2 _ R2 (x1.trans x2) (.of z3)⟩⟩
theorem snd_tget2 (ho : Snd K cls m' to fo) (hi : Snd K cls true ti fi) (he : Snd K cls false te fe) : Snd K cls m (tDGet2 to ti te) (eTGet2 fo fi fe) := ⟨fun ρ Z σ H sl st d st' R e Q q => by
  obtain ⟨p, e1, e⟩ := bind_some e
  obtain ⟨kv0, h0, e⟩ := bind_some e
  obtain ⟨p2, e2, e⟩ := bind_some e
  obtain ⟨p3, e3, e⟩ := bind_some e
  obtain ⟨kvs, h1, e⟩ := bind_some e
  obtain ⟨k, h3, e⟩ := bind_some e
  cases e
  obtain ⟨n, hx, hc0⟩ := dtAt_ref h0
  obtain ⟨n', hx', hc⟩ := dtAt_ref h1
  rw [hx] at hx'
  cases hx'
  refine ho.run ρ Z σ H sl st p.1 p.2 R e1 _ fun u ρ1 H1 R1 x1 r1 => ?_
  rw [hx] at r1
  obtain ⟨a, rfl, hρ⟩ := ref_inv r1
  obtain ⟨kv1, y1, _, _⟩ := R1.s.cells n _ a hc0 hρ
  refine ⟨a, rfl, .inr ⟨kv1, .inl y1⟩, ?_⟩
  refine hi.run ρ1 Z σ H1 sl p.2 p2.1 p2.2 R1 e2 _ fun w ρ2 H2 R2 x2 r2 => ?_
  refine he.run ρ2 Z σ H2 sl p2.2 p3.1 p3.2 R2 e3 _ fun w3' ρ3 H3 R3 x3 r3 => ?_
  obtain ⟨b, rfl, hb⟩ := tkey_rep h3 (r2.ext x3)
  obtain ⟨kvu, w1, w2, w3⟩ := R3.s.cells n _ a hc (x3.at (x2.at hρ))
  refine ⟨_, DGet.t w1 hb, ?_⟩
  rcases kt_get w2 w3 k with ⟨z1, z2⟩ | ⟨v', u', z1, z2, z3⟩
  · rw [z2]
    refine q _ ρ3 _ R3 ((x1.trans x2).trans x3) (.of ?_)
    rw [z1]
    exact r3.rep
  · rw [z2]
    refine q _ ρ3 _ R3 ((x1.trans x2).trans x3) (.of ?_)
    rw [z1]
    exact z3⟩
theorem s_tset (ho : Snd K cls m to fo) (hi : Snd K cls true ti fi) (he : Snd K cls false te fe) : SndS K cls (sDPut to ti te) (sTSet fo fi fe) := ⟨fun ρ Z σ H sl st r R e D q => by
  obtain ⟨p, e1, e⟩ := bind_some e
  obtain ⟨p2, e2, e⟩ := bind_some e
  obtain ⟨p3, e3, e⟩ := bind_some e
  split at e
  · rename_i n hn
    split at e
    · rename_i kvs hx
      obtain ⟨k, h3, e⟩ := bind_some e
      split at e
      · rename_i hlen
        cases e
        refine he.run ρ Z σ H sl st p.1 p.2 R e1 _ fun v ρ1 H1 R1 x1 r1 => ?_
        refine ho.run ρ1 Z σ H1 sl p.2 p2.1 p2.2 R1 e2 _ fun u ρ2 H2 R2 x2 r2 => ?_
        rw [hn] at r2
        obtain ⟨a, rfl, hρ⟩ := ref_inv r2
        refine hi.run ρ2 Z σ H2 sl p2.2 p3.1 p3.2 R2 e3 _ fun w ρ3 H3 R3 x3 r3 => ?_
        obtain ⟨b, rfl, hb⟩ := tkey_rep h3 r3
        obtain ⟨kvu, w1, w2, w3⟩ := R3.s.cells n _ a hx (x3.at hρ)
        have hl : kvu.length = kvs.length := by simpa using congrArg List.length w2
        have x4 : Ext ρ3 H3 ρ3 (upd H3 a (.dT (putK kvu k v))) := .set (x3.at hρ)
        obtain ⟨y1, y2⟩ := kt_put k (x4.rep ((r1.ext x2).ext x3).rep) w2 (x4.repL w3)
        refine ⟨a, _, rfl, DPut.t w1 hb (by rw [hl]; exact Nat.lt_trans hlen (by rw [sizeLine_eq]; decide)), ?_⟩
        exact q σ ρ3 _ (R3.set (x3.at hρ) ⟨putK kvu k v, upd_same, y1, y2⟩) (((x1.trans x2).trans x3).trans x4).pre (((x1.trans x2).trans x3).trans x4).wo
      · cases e
    · cases e
  · cases e⟩
theorem snd_tin (hi : Snd K cls true ti fi) (ho : Snd K cls m' to fo) : Snd K cls m (tDIn ti to) (e2 oTIn fi fo) := ⟨fun ρ Z σ H sl st d st' R e Q q => by
  obtain ⟨p, e1, e⟩ := bind_some e
  obtain ⟨p2, e2, e⟩ := bind_some e
  obtain ⟨z, e3, e⟩ := bind_some e
  cases e
  obtain ⟨kvs, h1, h2⟩ := bind_some e3
  obtain ⟨k, h3, h4⟩ := bind_some h2
  cases h4
  obtain ⟨n, hx, hc⟩ := dtAt_ref h1
  refine hi.run ρ Z σ H sl st p.1 p.2 R e1 _ fun w ρ1 H1 R1 x1 r1 => ?_
  refine ho.run ρ1 Z σ H1 sl p.2 p2.1 p2.2 R1 e2 _ fun u ρ2 H2 R2 x2 r2 => ?_
  rw [hx] at r2
  obtain ⟨a, rfl, hρ⟩ := ref_inv r2
  obtain ⟨b, rfl, hb⟩ := tkey_rep h3 (r1.ext x2)
  obtain ⟨kvu, w1, w2, w3⟩ := R2.s.cells n _ a hc hρ
  have hs : (valT kvs k).isSome = (valV kvu k).isSome := by
    rcases kt_get w2 w3 k with ⟨z1, z2⟩ | ⟨v', u', z1, z2, z3⟩
    · rw [z1, z2]; rfl
    · rw [z1, z2]; rfl
  refine ⟨a, _, rfl, DGet.t w1 hb, ?_⟩
  have := q _ ρ2 _ R2 (x1.trans x2) (.of (.bl (valT kvs k).isSome))
  rw [hs] at this
  exact this⟩
theorem snd_tnin (hi : Snd K cls true ti fi) (ho : Snd K cls m' to fo) : Snd K cls m (tDNotIn ti to) (e2 oTNin fi fo) := ⟨fun ρ Z σ H sl st d st' R e Q q => by
  obtain ⟨p, e1, e⟩ := bind_some e
  obtain ⟨p2, e2, e⟩ := bind_some e
  obtain ⟨z, e3, e⟩ := bind_some e
  cases e
  obtain ⟨kvs, h1, h2⟩ := bind_some e3
  obtain ⟨k, h3, h4⟩ := bind_some h2
  cases h4
  obtain ⟨n, hx, hc⟩ := dtAt_ref h1
  refine hi.run ρ Z σ H sl st p.1 p.2 R e1 _ fun w ρ1 H1 R1 x1 r1 => ?_
  refine ho.run ρ1 Z σ H1 sl p.2 p2.1 p2.2 R1 e2 _ fun u ρ2 H2 R2 x2 r2 => ?_
  rw [hx] at r2
  obtain ⟨a, rfl, hρ⟩ := ref_inv r2
  obtain ⟨b, rfl, hb⟩ := tkey_rep h3 (r1.ext x2)
  obtain ⟨kvu, w1, w2, w3⟩ := R2.s.cells n _ a hc hρ
  have hs : (valT kvs k).isSome = (valV kvu k).isSome := by
    rcases kt_get w2 w3 k with ⟨z1, z2⟩ | ⟨v', u', z1, z2, z3⟩
    · rw [z1, z2]; rfl
    · rw [z1, z2]; rfl
  refine ⟨a, _, rfl, DGet.t w1 hb, ?_⟩
  have := q _ ρ2 _ R2 (x1.trans x2) (.of (.bl (!(valT kvs k).isSome)))
  rw [hs] at this
  exact this⟩
/-! a display of one entry -/
def tDisp1T (tk tv : TE) : TE := fun σ H Q => ∀ p, H p = none → tPairs [(tk, tv)] σ (upd H p (.dT [])) fun ps H2 => ∃ y k b, ps = [(.ref b, y)] ∧ H2 p = some (.dT []) ∧ H2 b = some (.tup (k.map kV)) ∧ Q (.ref p) (upd H2 p (.dT [(k, y)]))
theorem snd_disp1T (hi : Snd K cls false ti fi) (he : Snd K cls false te fe) : Snd K cls m (tDisp1T ti te) (eDisp1T fi fe) := ⟨fun ρ Z σ H sl st d st' R e Q q => by
  obtain ⟨p, e1, e⟩ := bind_some e
  obtain ⟨p2, e2, e⟩ := bind_some e
  split at e
  · rename_i hx
    obtain ⟨k, h3, e⟩ := bind_some e
    cases e
    intro a ha
    have R0 : Rel K cls (ρ ++ [a]) Z σ (upd H a (.dT [])) sl (st ++ [.dt []]) := R.push ha ⟨[], upd_same, rfl, .nil⟩
    have x0 : Ext ρ H (ρ ++ [a]) (upd H a (.dT [])) := .push ha
    have hρ : (ρ ++ [a])[st.length]? = some a := by rw [← R.s.len, List.getElem?_append_right (Nat.le_refl _), Nat.sub_self] <;> rfl
    refine hi.run _ Z σ _ sl _ p.1 p.2 R0 e1 _ fun w ρ1 H1 R1 x1 r1 => ?_
    refine he.run ρ1 Z σ H1 sl p.2 p2.1 p2.2 R1 e2 _ fun v ρ2 H2 R2 x2 r2 => ?_
    have hρ2 := x2.at (x1.at hρ)
    obtain ⟨kvu, w1, w2, w3⟩ := R2.s.cells _ _ a hx hρ2
    obtain ⟨b, rfl, hb⟩ := tkey_rep h3 (r1.ext x2)
    have hk : kvu = [] := by
      cases kvu with
      | nil => rfl
      | cons p r => cases w2
    subst hk
    have x3 : Ext ρ2 H2 ρ2 (upd H2 a (.dT [(k, v)])) := .set hρ2
    refine ⟨v, k, b, rfl, w1, hb, q _ ρ2 _ (R2.set hρ2 ⟨[(k, v)], upd_same, rfl, .cons (x3.rep r2.rep) .nil⟩) (((x0.trans x1).trans x2).trans x3) (.of (.ref hρ2))⟩
  · cases e⟩
/-! x.pop(0), x is not None -/
def ePop0 (o i : E) : E := fun sl st => (o sl st).bind fun p => match p.1 with
  | .ref n => match p.2[n]? with
    | some (.lst _) => (i sl p.2).bind fun q => match q.1 with
      | .int 0 => match q.2[n]? with
        | some (.lst (x :: xs)) => some (x, q.2.set n (.lst xs))
        | _ => none
      | _ => none
    | _ => none
  | _ => none
def oNotN : Sto → Val → Option Val
  | _, .non => some (.bl false)
  | _, .int _ => some (.bl true)
  | _, .tup _ => some (.bl true)
  | _, _ => none
theorem snd_pop0 (ho : Snd K cls m' to fo) (hi : Snd K cls true ti fi) : Snd K cls m (tBM K "list" rPopAt to (tCons ti tNil)) (ePop0 fo fi) := ⟨fun ρ Z σ H sl st d st' R e Q q => by
  obtain ⟨p, e1, e⟩ := bind_some e
  split at e
  · rename_i n hn
    split at e
    · rename_i xs0 hx0
      obtain ⟨p2, e2, e⟩ := bind_some e
      split at e
      · rename_i hz
        split at e
        · rename_i x xs hx
          cases e
          refine ho.run ρ Z σ H sl st p.1 p.2 R e1 _ fun u ρ1 H1 R1 x1 r1 => ?_
          rw [hn] at r1
          obtain ⟨a, rfl, hρ⟩ := ref_inv r1
          obtain ⟨us0, w1, w2⟩ := R1.s.cells n _ a hx0 hρ
          refine ⟨.inl ⟨rfl, us0, .of w1⟩, ?_⟩
          refine hi.run ρ1 Z σ H1 sl p.2 p2.1 p2.2 R1 e2 _ fun v ρ2 H2 R2 x2 r2 => ?_
          rw [hz] at r2
          obtain rfl := int_inv r2
          obtain ⟨us, v1, v2⟩ := R2.s.cells n _ a hx (x2.at hρ)
          cases v2 with
          | @cons x0 u xs0' us' hu ht =>
            have x3 : Ext ρ2 H2 ρ2 (upd H2 a (.lst us')) := .set (x2.at hρ)
            refine ⟨a, _, 0, 0, u, rfl, rfl, v1, by decide, by decide, ?_, rfl, ?_⟩
            · show seqIndex? 0 (u :: us').length = some 0
              unfold seqIndex?
              simp
            · exact q u ρ2 _ (R2.set (x2.at hρ) ⟨us', upd_same, x3.repL ht⟩) ((x1.trans x2).trans x3) (.of (x3.rep hu))
        · cases e
      · cases e
    · cases e
  · cases e⟩
theorem snd_notN (ho : Snd K cls m' to fo) : Snd K cls m (tNotN to) (e1 oNotN fo) := ⟨fun ρ Z σ H sl st d st' R e Q q => by
  obtain ⟨p, h1, e⟩ := bind_some e
  obtain ⟨z, e2, e⟩ := bind_some e
  cases e
  refine ho.run ρ Z σ H sl st p.1 p.2 R h1 _ fun u ρ1 H1 R1 x1 r1 => ?_
  have hz : d = Val.bl (!decide (u = V.non)) := by
    rcases r1 with r1 | ⟨_, _, _, _, e', _, _⟩
    · generalize p.1 = y at e2 r1
      cases r1 <;> first | (cases e2; done) | skip
      · cases e2; rfl
      · cases e2; rfl
      · cases e2; rfl
    · rw [e'] at e2; cases e2
  rw [hz] at q
  exact q _ ρ1 H1 R1 x1 (.of (.bl _))⟩
end
section
variable {X : Cx} {K : PySem.W.Frag} [hK : KX X K] {cls : Nat → Addr} {m m' : Bool} {o i e : Expr} {to ti te : TE} {fo fi fe : E} {apos cpos pos p' : Pos}
theorem pe_disp1T {k v : Expr} {tk tv : TE} (hu : X.A.units < cLine) (hk : PE X k tk) (hv : PE X v tv) : PE X (.Dict [some k] [v] pos) (tDisp1T tk tv) := by
  have pp := pps_cons (pos := pos) hk hv (pps_nil (X := X) (pos := pos))
  refine ⟨fun pins s σ H Q I q => ?_⟩
  have hn := I.hok.fresh (Nat.le_refl s.heap.objs.size)
  have I1 := I.laid (a := s.heap.objs.size) (o := .dT []) (h' := s.heap.push { cls := .type "dict", data := .dict #[] }) (t' := s.toks) (fun _ _ q => Heap.get?_push_of_some _ q) (Nat.le_refl _) (dt_empty s.heap I.big)
  have hlen := pairTrees_length [some k] [v] X.env pos rfl rfl
  rw [arm_eval_Dict, zip_pairTrees [some k] [v] X.env pos rfl rfl, dictDisplay_pairs _ (fun z => by rw [z] at hlen; cases hlen) (by rw [hlen]; exact Nat.le_of_ble_eq_true rfl)]
  refine wpAny_bind (wpAny_standAt (wpAny_bind (wpAny_subDictH (knd := tupleKind (mixKind X.prog X.w)) (Q := fun d s' => wpAny (model X.prog X.w) X.A (pure (Value.ref d)) (EP X pins σ Q) X.xe s') hu (by rw [hlen]; exact Nat.le_of_ble_eq_true rfl) (thn (pp.run pins _ σ _ _ I1 (q _ hn)) fun ws s2 ⟨ps, H2, I2, rel, y, kk, b, ep, e, hb, q2⟩ => ?_))))
  subst ep
  cases rel with
  | @cons a0 wv as bs h t =>
    cases t
    obtain ⟨u, w2⟩ := wv
    obtain ⟨h1, h2⟩ := h
    obtain rfl : u = Value.ref b := h1
    obtain ⟨z, hd, xs, rel, dd⟩ := dt_of I2.hok e
    cases rel
    refine ⟨[(kk, b, w2)], ⟨rfl, rfl, key_of I2.hok hb, trivial⟩, dd, fun h' tk' dd' hs => wpAny_pure ⟨.ref s.heap.objs.size, _, ?_, rfl, q2⟩⟩
    obtain ⟨qo, es, ep, hq, g2, g3, g4, _, g5⟩ := dd'
    have hkt : KT (upd H2 s.heap.objs.size (.dT [(kk, y)])) [(kk, y)] [(kk, b, w2)] := .cons ⟨rfl, by rw [upd_ne (ne_of hb e (fun z => nomatch z))]; exact hb, h2⟩ .nil
    exact d_write I2 (by rw [e]; exact True.intro) hs ⟨qo, hq⟩ ⟨by rw [sizeLine_eq]; exact Nat.le_of_ble_eq_true rfl, hd, _, hkt, qo, es, ep, hq, g2, g3, g4, g5⟩
theorem se_disp1T {k v : Expr} {tk tv : TE} {fk fv : E} (hu : X.A.units < cLine) (hk : SE X K cls false k tk fk) (hv : SE X K cls false v tv fv) : SE X K cls m (.Dict [some k] [v] pos) (tDisp1T tk tv) (eDisp1T fk fv) := ⟨pe_disp1T hu hk.1 hv.1, snd_disp1T hk.2 hv.2⟩
theorem se_tget (ho : SE X K cls true o to fo) (hi : SE X K cls true i ti fi) (hu : X.A.units + 1 < cLine) (hs : NoSl i := by exact fun _ _ => rfl) : SE X K cls m (.Subscript o i pos) (tDGet to ti) (e2 oTGet fo fi) := ⟨pe_dget hu ho.1 hi.1 hs, snd_tget ho.2 hi.2⟩
theorem se_tin (hi : SE X K cls true i ti fi) (ho : SE X K cls true o to fo) (hu : X.A.units + 1 < cLine) (hm : behindInMarks .In o = false := by first | exact nomark _ | rfl) : SE X K cls m (.Compare i [.In] [o] pos) (tDIn ti to) (e2 oTIn fi fo) := ⟨pe_cmp (pc_din hu hi.1 ho.1) hm, snd_tin hi.2 ho.2⟩
theorem se_tnin (hi : SE X K cls true i ti fi) (ho : SE X K cls true o to fo) (hu : X.A.units + 1 < cLine) (hm : behindInMarks .NotIn o = false := by first | exact nomark _ | rfl) : SE X K cls m (.Compare i [.NotIn] [o] pos) (tDNotIn ti to) (e2 oTNin fi fo) := ⟨pe_cmp (pc_dnotin hu hi.1 ho.1) hm, snd_tnin hi.2 ho.2⟩
theorem se_tget2 (ho : SE X K cls true o to fo) (hi : SE X K cls true i ti fi) (he : SE X K cls false e te fe) (hu : X.A.units + 1 < cLine) (hm : M2 X o "get" apos i e cpos := by exact ⟨rfl, rfl, rfl, rfl⟩) :
    SE X K cls m (.Call (.Attribute o "get" apos) [i, e] [] cpos) (tDGet2 to ti te) (eTGet2 fo fi fe) := ⟨pe_dget2 hu ho.1 hi.1 he.1 hm, snd_tget2 ho.2 hi.2 he.2⟩
theorem ss_tset (ho : SE X K cls true o to fo) (hi : SE X K cls true i ti fi) (he : SE X K cls false e te fe) (hu : X.A.units + 1 < cLine) (hs : swapsWith e (some (.Subscript o i p')) pos.line X.env = pure false := by rfl) :
    SS X K cls (.Assign [.Subscript o i p'] e pos) (sDPut to ti te) (sTSet fo fi fe) := ⟨ps_dput hu ho.1 hi.1 he.1 hs, s_tset ho.2 hi.2 he.2⟩
theorem se_pop0 (ho : SE X K cls true o to fo) (hi : SE X K cls true i ti fi) (hs : starEach [i] X.env = (false, eval i X.env) :: starEach [] X.env := by rfl)
    (hbase : attributeBase o "pop" X.env (eval o X.env) = eval o X.env := by rfl)
    (hfew : ((backTo cpos (starEach [i] X.env)).all (fun x => !x.1) && (backToKw cpos (keywordEach [] X.env)).all (fun x => x.1.isSome) && decide ([i].length + ([] : List Keyword).length + (if ([] : List Keyword).isEmpty then 0 else 1) < 30)) = true := by rfl)
    (hline : (apos.endLine == cpos.line) = true := by rfl) (hplain : (backTo cpos (starEach [] X.env)).any (·.1) = false := by rfl) :
    SE X K cls m (.Call (.Attribute o "pop" apos) [i] [] cpos) (tBM K "list" rPopAt to (tCons ti tNil)) (ePop0 fo fi) :=
  by obtain ⟨rfl⟩ := hK; exact ⟨pe_bm PySem.F.plainAttrs_list PySem.F.slot_list_pop PySem.F.type_list_pop mt_popAt ho.1 (pa_cons hi.1 pa_nil hs) hbase hfew hline hs hplain, snd_pop0 ho.2 hi.2⟩
theorem se_notN {j : Nat} {pos' : Pos} (ho : SE X K cls true o to fo) : SE X K cls m (.Compare o [.IsNot] [.Constant .none j pos'] pos) (tNotN to) (e1 oNotN fo) := ⟨pe_cmp (pc_notN ho.1) rfl, snd_notN ho.2⟩
theorem st_tin (hi : SE X K cls true i ti fi) (ho : SE X K cls true o to fo) (hu : X.A.units + 1 < cLine) (hm : behindInMarks .In o = false := by first | exact nomark _ | rfl) : ST X K cls (.Compare i [.In] [o] pos) (tTest (tDIn ti to)) (tE (e2 oTIn fi fo)) := ⟨pt_cmp (pc_din hu hi.1 ho.1) hm, snd_tE (m := true) (snd_tin hi.2 ho.2)⟩
theorem st_tnin (hi : SE X K cls true i ti fi) (ho : SE X K cls true o to fo) (hu : X.A.units + 1 < cLine) (hm : behindInMarks .NotIn o = false := by first | exact nomark _ | rfl) : ST X K cls (.Compare i [.NotIn] [o] pos) (tTest (tDNotIn ti to)) (tE (e2 oTNin fi fo)) := ⟨pt_cmp (pc_dnotin hu hi.1 ho.1) hm, snd_tE (m := true) (snd_tnin hi.2 ho.2)⟩
theorem st_notN {j : Nat} {pos' : Pos} (ho : SE X K cls true o to fo) : ST X K cls (.Compare o [.IsNot] [.Constant .none j pos'] pos) (tTest (tNotN to)) (tE (e1 oNotN fo)) := ⟨pt_cmp (pc_notN ho.1) rfl, snd_tE (m := true) (snd_notN ho.2)⟩
end
/-! an own list is a value from here on -/
section
variable {K : PySem.W.Frag} {cls : Nat → Addr} {ρ : List Addr} {Z : Addr → Prop} {σ : L2.St} {H : Hp} {sl : Sl} {st : Sto} {t : TS} {f : S}
def sFrz (i : Nat) (s : S) : S := fun sl st => match sl[i]? with
  | some (.own xs) => s (sl.set i (.val (.lst xs))) st
  | _ => none
theorem own_frz {i : Nat} {v : Val} {a : Addr} (hi : i < sl.length) (h : Own (sl.set i (.val v)) σ a) : Own sl σ a := by
  obtain ⟨j, ys, h1, h2⟩ := h
  by_cases e : i = j
  · subst e
    rw [List.getElem?_set_self hi] at h1
    cases h1
  · rw [List.getElem?_set_ne e] at h1
    exact ⟨j, ys, h1, h2⟩
theorem Rel.frz {i : Nat} {xs : List Val} (R : Rel K cls ρ Z σ H sl st) (h : sl[i]? = some (.own xs)) : Rel K cls ρ Z σ H (sl.set i (.val (.lst xs))) st := by
  obtain ⟨a, us, h1, h2, h3, h4⟩ := R.owns i xs h
  have hi : i < sl.length := (List.getElem?_eq_some_iff.mp h).1
  have less : ∀ b, AR ρ (ZO Z (sl.set i (.val (.lst xs))) σ) b → AR ρ (ZO Z sl σ) b := fun b z => z.imp id fun z => z.imp id (own_frz hi)
  have hno : ¬ Own (sl.set i (.val (.lst xs))) σ a := by
    rintro ⟨j, ys, k1, k2⟩
    by_cases e : i = j
    · subst e
      rw [List.getElem?_set_self hi] at k1
      cases k1
    · rw [List.getElem?_set_ne e] at k1
      exact e (R.inj i j xs ys a h k1 h1 k2)
  refine ⟨⟨R.s.nd, R.s.len, fun n c b q1 q2 => (R.s.cells n c b q1 q2).mono (Fr.less less) List.prefix_rfl rfl, fun b z => R.s.dom b (less b z), fun b z w => R.s.dis b z (w.imp id (own_frz hi))⟩, by rw [List.length_set]; exact R.slen, fun j v hj => ?_, fun j ys hj => ?_, fun j k ys zs b hj hk => ?_⟩
  · by_cases e : i = j
    · subst e
      rw [List.getElem?_set_self hi] at hj
      cases hj
      refine ⟨.ref a, h1, .lst (.inl ⟨fun z => ?_, .inl h2⟩) (h3.mono (Fr.less less) List.prefix_rfl)⟩
      rcases z with z | z | z
      · exact R.s.dis a z (.inr ⟨i, xs, h, h1⟩)
      · exact h4 z
      · exact hno z
    · rw [List.getElem?_set_ne e] at hj
      obtain ⟨u, k1, k2⟩ := R.slots j v hj
      exact ⟨u, k1, k2.mono (Fr.less less) List.prefix_rfl⟩
  · by_cases e : i = j
    · subst e
      rw [List.getElem?_set_self hi] at hj
      cases hj
    · rw [List.getElem?_set_ne e] at hj
      obtain ⟨b, vs, k1, k2, k3, k4⟩ := R.owns j ys hj
      exact ⟨b, vs, k1, k2, k3.mono (Fr.less less) List.prefix_rfl, k4⟩
  · have ne : ∀ {j : Nat} {ys : List Val}, (sl.set i (.val (.lst xs)))[j]? = some (.own ys) → sl[j]? = some (.own ys) := fun {j ys} q => by
      by_cases e : i = j
      · subst e
        rw [List.getElem?_set_self hi] at q
        cases q
      · rw [List.getElem?_set_ne e] at q
        exact q
    exact R.inj j k ys zs b (ne hj) (ne hk)
theorem s_frz {i : Nat} (h : SndS K cls t f) : SndS K cls t (sFrz i f) := ⟨fun ρ Z σ H sl st r R e D q => by
  unfold sFrz at e
  split at e
  · rename_i xs hx
    have hi : i < sl.length := (List.getElem?_eq_some_iff.mp hx).1
    refine h.run ρ Z σ H _ st r (R.frz hx) e D ?_
    refine q.later List.prefix_rfl ⟨fun a o hn hH => hH, fun a w => .inl (w.imp id (own_frz hi))⟩
  · cases e⟩
theorem ss_frz {X : Cx} {s : Stmt} {i : Nat} (h : SS X K cls s t f) : SS X K cls s t (sFrz i f) := ⟨h.1, s_frz h.2⟩
end
end Mi

set_option Elab.async false
set_option linter.all false
set_option maxRecDepth 100000
set_option maxHeartbeats 1000000
/-! Mi: walks over range(a, b, c); x.reverse() of a list at a place. -/
namespace Mi
open PySem PySem.Spec PyProof.Rows L2
variable [Gam]
/-- for .. in range(i, j, c) -/
def iRg3 (f : L) : I := fun sl st => (f sl st).bind fun p => match p.1 with
  | [.int i, .int j, .int c] => if c ≠ 0 ∧ c.natAbs < 1073741824 ∧ Builtin.Range.small i j c = true ∧ 0 ≤ Builtin.Range.rangeSize i j c then some (.seq (.tup ((List.range (rg3N i j c)).map fun k => .int (i + (k : Nat) * c))), p.2) else none
  | _ => none
theorem snd_iRg3 {K : PySem.W.Frag} {cls : Nat → Addr} {ta : TA} {f : L} (ha : SndA K cls false ta f) : SndI K cls (L2.iRng3 ta) (iRg3 f) := ⟨fun ρ Z σ H sl st src st' R e Q q => by
  obtain ⟨p, e1, e⟩ := bind_some e
  split at e
  · rename_i i j c hp
    split at e
    · rename_i hc
      cases e
      obtain ⟨c0, c1, c2, c3⟩ := hc
      refine ha.run ρ Z σ H sl st p.1 p.2 R e1 _ fun us ρ1 H1 R1 x1 r1 => ?_
      rw [hp] at r1
      obtain ⟨u1, us1, e2, q1, r2⟩ := r1.cons_inv
      subst e2
      obtain ⟨u2, us2, e2, q2, r3⟩ := r2.cons_inv
      subst e2
      obtain ⟨u3, us3, e2, q3, r4⟩ := r3.cons_inv
      subst e2
      have e2 := r4.nil_inv
      subst e2
      exact ⟨i, j, c, rg3N i j c, by rw [int_inv q1, int_inv q2, int_inv q3], ⟨c0, c1, c2, by unfold rg3N; omega⟩, q _ ρ1 H1 R1 x1 .rg3⟩
    · cases e
  · cases e⟩
theorem si_rg3 {X : Cx} {K : PySem.W.Frag} [hK : KX X K] {cls : Nat → Addr} {tg a b c : Expr} {ta : TA} {f : L} {pos p : Pos} (bt : Bt X.mg) (ha : SA X K cls false [a, b, c] ta f) (hg : Gl X "range" := by rfl)
    (hs : starEach [a, b, c] X.env = (false, eval a X.env) :: starEach [b, c] X.env := by rfl) (hpl : (backTo pos (starEach [b, c] X.env)).any (·.1) = false := by rfl) :
    SI X K cls tg (.Call (.Name "range" p) [a, b, c] [] pos) (L2.iRng3 ta) (iRg3 f) := by obtain ⟨rfl⟩ := hK; exact ⟨pi_range3 hg bt.range ha.1 hs hpl, snd_iRg3 ha.2⟩
/-- o.reverse() -/
def sRevK (o : E) : S := fun sl st => (o sl st).bind fun p => match p.1 with
  | .ref n => match p.2[n]? with
    | some (.lst xs) => some (.nx, sl, p.2.set n (.lst xs.reverse))
    | _ => none
  | _ => none
section
variable {K : PySem.W.Frag} {cls : Nat → Addr} {ρ : List Addr} {A : Addr → Prop} {Z : Addr → Prop} {H : Hp} {m : Bool} {to : TE} {fo : E}
theorem repL_app : ∀ {xs ys : List Val} {us vs : List V}, RepL K ρ A H xs us → RepL K ρ A H ys vs → RepL K ρ A H (xs ++ ys) (us ++ vs)
  | [], _, _, _, r, s => by cases r; exact s
  | x :: xs, _, _, _, r, s => by
    cases r with
    | cons r t => exact .cons r (repL_app t s)
theorem repL_rev : ∀ {xs : List Val} {us : List V}, RepL K ρ A H xs us → RepL K ρ A H xs.reverse us.reverse
  | [], _, r => by cases r; exact .nil
  | x :: xs, _, r => by
    cases r with
    | cons r t =>
      rw [List.reverse_cons, List.reverse_cons]
      exact repL_app (repL_rev t) (.cons r .nil)
theorem s_revK (ho : Snd K cls m to fo) : SndS K cls (tDrop (tBM0 K "list" rReverse to)) (sRevK fo) := ⟨fun ρ Z σ H sl st r R e D q => by
  obtain ⟨p, e1, e⟩ := bind_some e
  split at e
  · rename_i n hn
    split at e
    · rename_i xs hx
      cases e
      refine ho.run ρ Z σ H sl st p.1 p.2 R e1 _ fun u ρ1 H1 R1 x1 r1 => ?_
      rw [hn] at r1
      obtain ⟨a, rfl, hρ⟩ := ref_inv r1
      obtain ⟨us, w1, w2⟩ := R1.s.cells n _ a hx hρ
      refine ⟨.inl ⟨rfl, us, .of w1⟩, a, us, rfl, rfl, w1, ?_⟩
      have x3 : Ext ρ1 H1 ρ1 (upd H1 a (.lst us.reverse)) := .set hρ
      exact q σ ρ1 _ (R1.set hρ ⟨us.reverse, upd_same, repL_rev (x3.repL w2)⟩) (x1.trans x3).pre (x1.trans x3).wo
    · cases e
  · cases e⟩
end
section
variable {X : Cx} {K : PySem.W.Frag} [hK : KX X K] {cls : Nat → Addr} {o : Expr} {to : TE} {fo : E} {apos cpos pos : Pos}
theorem ss_revK (ho : SE X K cls true o to fo)
    (hbase : attributeBase o "reverse" X.env (eval o X.env) = eval o X.env := by rfl) (hline : (apos.endLine == cpos.line) = true := by rfl)
    (hsw : swapsWith (.Call (.Attribute o "reverse" apos) [] [] cpos) none pos.line X.env = pure false := by rfl) :
    SS X K cls (.Expr (.Call (.Attribute o "reverse" apos) [] [] cpos) pos) (tDrop (tBM0 K "list" rReverse to)) (sRevK fo) :=
  by obtain ⟨rfl⟩ := hK; exact ⟨ps_expr (pe_bm0 PySem.F.plainAttrs_list PySem.F.slot_list_reverse PySem.F.type_list_reverse mt_reverse ho.1 hbase hline) hsw, s_revK ho.2⟩
end
end Mi

set_option Elab.async false
set_option linter.all false
set_option maxRecDepth 100000
set_option maxHeartbeats 1000000
/-! Mi: sorted(x), x a list of rows of numbers; x.pop() as a value. -/
namespace Mi
open PySem PySem.Spec PyProof.Rows L2 PySem.W
variable [Gam]
/-! ### rows in order -/
def leR (p q : α × List Int) : Bool := decide (p.2 ≤ q.2)
def insR (p : α × List Int) : List (α × List Int) → List (α × List Int)
  | [] => [p]
  | q :: r => if leR p q then p :: q :: r else q :: insR p r
def sortR : List (α × List Int) → List (α × List Int)
  | [] => []
  | p :: r => insR p (sortR r)
section
variable {α : Type}
theorem leR_total : TotalLe (leR (α := α)) where
  trans := fun a b c h1 h2 => decide_eq_true (List.le_trans (of_decide_eq_true h1) (of_decide_eq_true h2))
  total := fun a b => (List.le_total a.2 b.2).imp decide_eq_true decide_eq_true
theorem mem_insR {p x : α × List Int} : ∀ {l : List (α × List Int)}, x ∈ insR p l ↔ x = p ∨ x ∈ l
  | [] => by simp [insR]
  | q :: r => by
    unfold insR
    split
    · simp
    · rw [List.mem_cons, mem_insR, List.mem_cons]
      constructor
      · rintro (h | h | h)
        · exact .inr (.inl h)
        · exact .inl h
        · exact .inr (.inr h)
      · rintro (h | h | h)
        · exact .inr (.inl h)
        · exact .inl h
        · exact .inr (.inr h)
theorem insR_sorted (p : α × List Int) : ∀ {l : List (α × List Int)}, l.Pairwise (fun a b => leR a b = true) → (insR p l).Pairwise (fun a b => leR a b = true)
  | [], _ => by unfold insR; exact List.pairwise_singleton _ _
  | q :: r, h => by
    unfold insR
    rw [List.pairwise_cons] at h
    split
    · rename_i hl
      refine List.pairwise_cons.mpr ⟨fun k hk => ?_, List.pairwise_cons.mpr h⟩
      rcases List.mem_cons.mp hk with z | z
      · rw [z]; exact hl
      · exact leR_total.trans _ _ _ hl (h.1 k z)
    · rename_i hl
      refine List.pairwise_cons.mpr ⟨fun k hk => ?_, insR_sorted p h.2⟩
      rcases mem_insR.mp hk with z | z
      · rw [z]; exact (leR_total.total p q).elim (fun y => absurd y hl) id
      · exact h.1 k z
theorem sortR_sorted : ∀ l : List (α × List Int), (sortR l).Pairwise (fun a b => leR a b = true)
  | [] => .nil
  | p :: r => insR_sorted p (sortR_sorted r)
theorem insR_filter (c p : α × List Int) : ∀ l : List (α × List Int), (insR p l).filter (sameRank leR c) = (p :: l).filter (sameRank leR c)
  | [] => rfl
  | q :: r => by
    unfold insR
    split
    · rfl
    · rename_i hl
      rw [List.filter_cons, insR_filter c p r, List.filter_cons, List.filter_cons, List.filter_cons]
      by_cases h1 : sameRank leR c p = true
      · by_cases h2 : sameRank leR c q = true
        · unfold sameRank at h1 h2
          rw [Bool.and_eq_true] at h1 h2
          exact absurd (leR_total.trans _ _ _ h1.2 h2.1) hl
        · rw [if_neg h2, if_pos h1, if_pos h1, if_neg h2]
      · rw [if_neg h1, if_neg h1]
theorem sortR_filter (c : α × List Int) : ∀ l : List (α × List Int), (sortR l).filter (sameRank leR c) = l.filter (sameRank leR c)
  | [] => rfl
  | p :: r => by
    show (insR p (sortR r)).filter _ = _
    rw [insR_filter, List.filter_cons, List.filter_cons, sortR_filter c r]
theorem sortR_eq (l : List (α × List Int)) : sortR l = l.mergeSort leR := sort_unique leR_total (sortR_sorted l) fun c => sortR_filter c l
end
/-! ### sorted(x) of such a list -/
def rSortedR (K : PySem.W.Frag) : List V → Hp → VK → Prop := fun vs H Q => ∃ (a : Addr) (ps : List (V × List Int)), vs = [V.ref a] ∧ SqL K H a (ps.map (·.1)) ∧ (∀ p ∈ ps, Dp K H p.1 (.list (p.2.map .int))) ∧ ∀ b, H b = none → Q (.ref b) (upd H b (.lst ((sortR ps).map (·.1))))
theorem each_vals : ∀ {ps : List (V × List Int)} {us : List Value}, Vals (ps.map (·.1)) us → EachIs (fun v (p : V × List Int) => RelV p.1 v) us ps
  | [], _, h => by cases h; exact .nil
  | p :: ps, _, h => by
    cases h with
    | cons r t => exact .cons r (each_vals t)
theorem vals_each : ∀ {ps : List (V × List Int)} {us : List Value}, EachIs (fun v (p : V × List Int) => RelV p.1 v) us ps → Vals (ps.map (·.1)) us
  | _, _, .nil => .nil
  | _, _, .cons r t => .cons r (vals_each t)
theorem each_and {R S : Value → (V × List Int) → Prop} : ∀ {us : List Value} {ps : List (V × List Int)}, EachIs R us ps → (∀ p ∈ ps, ∀ v, R v p → S v p) → EachIs S us ps
  | _, _, .nil, _ => .nil
  | _, _, .cons r t, h => .cons (h _ (List.mem_cons_self ..) _ r) (each_and t fun p hp => h p (List.mem_cons_of_mem _ hp))
theorem alike_ints : ∀ ns ms : List Int, alikeAll (ns.map PyData.int) (ms.map PyData.int) = true
  | [], _ => by rw [List.map_nil, alikeAll]
  | n :: ns, [] => by rw [List.map_nil, List.map_cons, alikeAll]
  | n :: ns, m :: ms => by rw [List.map_cons, List.map_cons, alikeAll, alike, alike_ints ns ms]; rfl
theorem depth_ints : ∀ ns : List Int, PyData.depthAll (ns.map PyData.int) = 0
  | [] => rfl
  | n :: ns => by
    show max (PyData.depth (.int n)) (PyData.depthAll (ns.map PyData.int)) = 0
    rw [depth_ints ns]; rfl
theorem cr_sortedR {X : Cx} (hu : X.A.units + 80 < cLine) : CallR X (.builtin "sorted") (rSortedR X.K) := by
  intro pins s σ H vs us Q I r h
  obtain ⟨a, ps, rfl, hs, hd, q⟩ := h
  obtain ⟨its, rv, hl, hz⟩ := I.list hs
  rw [Vals.ref1 r]
  have e := each_vals rv
  refine sorted_data (bs := ps) (enc := fun p => .list (p.2.map .int)) hl.isList e (each_and e fun p hp v rv => Dp.reads I _ _ _ (hd p hp) rv) ?_ (.inr ?_) (by rw [List.length_map] at hz; exact hz) (fun b _ => ?_) fun out h1 h2 => ?_
  · intro d hd d' hd'
    obtain ⟨p, _, rfl⟩ := List.mem_map.mp hd
    obtain ⟨p', _, rfl⟩ := List.mem_map.mp hd'
    rw [alike]
    exact alike_ints _ _
  · intro d hd
    obtain ⟨p, _, rfl⟩ := List.mem_map.mp hd
    exact ⟨fun z => (by cases z), fun xs z => (by cases z)⟩
  · show X.A.units + 2 + (PyData.depthAll (b.2.map PyData.int) + 1) < cLine
    rw [depth_ints]; omega
  · rw [dataLe_rows (fun p : V × List Int => p.2)] at h2
    have h2 : EachIs (fun v (p : V × List Int) => RelV p.1 v) out (ps.mergeSort leR) := h2
    rw [← sortR_eq] at h2
    obtain ⟨ep, he'⟩ := PyProof.Rows.sortedAll_at s.heap its out.toArray
    have hlen : ((sortR ps).map (·.1)).length ≤ sizeLine := by
      have := h2.length
      rw [List.length_map, ← this, h1]
      rw [List.length_map] at hz
      exact hz
    exact ⟨.ref _, upd H (s.heap.objs.size + 1) (.lst ((sortR ps).map (·.1))), I.laid (t' := s.toks) (fun _ _ => PyProof.Rows.sortedAll_old) (Nat.le_succ _) ⟨hlen, out, ep, vals_each h2, he'⟩, rfl, q _ (I.hok.fresh (Nat.le_succ _))⟩
/-- the rows as numbers -/
def rowOf (st : Sto) (x : Val) : Option (List Int) := (viewQ st x).bind allInt
def oSortR : Sto → Val → Option (List Val) := fun st x => (viewQ st x).bind fun xs => (xs.mapM (rowOf st)).bind fun bs => some ((sortR (xs.zip bs)).map (·.1))
section
variable {K : PySem.W.Frag} {cls : Nat → Addr} {ρ : List Addr} {Z : Addr → Prop} {σ : L2.St} {H : Hp} {sl : Sl} {st : Sto}
theorem insR_map {α β : Type} (f : α → β) (p : α × List Int) : ∀ l : List (α × List Int), (insR p l).map (fun q => (f q.1, q.2)) = insR (f p.1, p.2) (l.map fun q => (f q.1, q.2))
  | [] => rfl
  | q :: r => by
    unfold insR
    show _ = if leR (f p.1, p.2) (f q.1, q.2) = true then _ else _
    have e : leR (f p.1, p.2) (f q.1, q.2) = leR p q := rfl
    rw [e]
    split
    · rfl
    · rw [List.map_cons, insR_map f p r]
theorem sortR_map {α β : Type} (f : α → β) : ∀ l : List (α × List Int), (sortR l).map (fun q => (f q.1, q.2)) = sortR (l.map fun q => (f q.1, q.2))
  | [] => rfl
  | p :: r => by
    show (insR p (sortR r)).map _ = insR _ (sortR _)
    rw [insR_map, sortR_map f r]
theorem rows_rep {A : Addr → Prop} : ∀ {xs : List Val} {us : List V} {bs : List (List Int)}, RepL K ρ A H xs us → xs.mapM (rowOf st) = some bs → ∃ ts : List ((Val × V) × List Int), ts.map (fun t => (t.1.1, t.2)) = xs.zip bs ∧ ts.map (fun t => (t.1.2, t.2)) = us.zip bs ∧ (∀ t ∈ ts, Rep K ρ A H t.1.1 t.1.2 ∧ rowOf st t.1.1 = some t.2) ∧ us.length = bs.length
  | [], _, bs, .nil, h => by cases h; exact ⟨[], rfl, rfl, fun t ht => (by cases ht), rfl⟩
  | x :: xs, u :: us, bs, .cons r t, h => by
    rw [List.mapM_cons] at h
    obtain ⟨b, h1, h⟩ := bind_some h
    obtain ⟨bs', h2, h⟩ := bind_some h
    cases h
    obtain ⟨ts, e1, e2, e3, e4⟩ := rows_rep t h2
    refine ⟨((x, u), b) :: ts, by rw [List.map_cons, e1]; rfl, by rw [List.map_cons, e2]; rfl, fun z hz => ?_, by rw [List.length_cons, List.length_cons, e4]⟩
    rcases List.mem_cons.mp hz with y | y
    · subst y; exact ⟨r, h1⟩
    · exact e3 z y
theorem repL_maps {A : Addr → Prop} : ∀ {ts : List ((Val × V) × List Int)}, (∀ t ∈ ts, Rep K ρ A H t.1.1 t.1.2) → RepL K ρ A H (ts.map fun t => t.1.1) (ts.map fun t => t.1.2)
  | [], _ => .nil
  | t :: ts, h => .cons (h t (List.mem_cons_self ..)) (repL_maps fun z hz => h z (List.mem_cons_of_mem _ hz))
theorem dp_row (R : RelR K cls ρ Z H st) {x : Val} {u : V} {b : List Int} (r : Rep K ρ (AR ρ Z) H x u) (h : rowOf st x = some b) : Dp K H u (.list (b.map .int)) := by
  obtain ⟨ys, e1, e2⟩ := bind_some h
  have hr : ∃ a, u = .ref a := by
    cases x with
    | lst _ => cases r; exact ⟨_, rfl⟩
    | ref _ => cases r; exact ⟨_, rfl⟩
    | _ => cases e1
  obtain ⟨a, rfl⟩ := hr
  obtain ⟨us, s1, s2⟩ := viewQ_r R r e1
  obtain ⟨rfl, rfl⟩ := allInt_rep s2 e2
  have : ∀ ns : List Int, DpAll K H (ns.map V.int) (ns.map PyData.int) := fun ns => by
    induction ns with
    | nil => exact .nil
    | cons n ns ih => exact .cons (.int n) ih
  exact .lst s1 (this b)
theorem mem_sortR {α : Type} {x : α × List Int} : ∀ {l : List (α × List Int)}, x ∈ sortR l ↔ x ∈ l
  | [] => .rfl
  | p :: r => by
    show x ∈ insR p (sortR r) ↔ _
    rw [mem_insR, mem_sortR, List.mem_cons]
end
section
variable {K : PySem.W.Frag} {cls : Nat → Addr}
theorem opl_sortR : Op1LS K cls oSortR (fun u => rSortedR K [u]) := by
  intro ρ Z σ H sl st x zs u R h1 e Q q
  obtain ⟨xs, e1, e⟩ := bind_some e
  obtain ⟨bs, e2, e⟩ := bind_some e
  cases e
  obtain ⟨a, us, rfl, r1, r2⟩ := viewQ_of R h1 e1
  obtain ⟨ts, t1, t2, t3, t4⟩ := rows_rep r2 e2
  have m1 : us = (us.zip bs).map (·.1) := (List.map_fst_zip (Nat.le_of_eq t4)).symm
  refine ⟨a, us.zip bs, rfl, by rw [← m1]; exact r1, fun p hp => ?_, fun b hb => ?_⟩
  · rw [← t2] at hp
    obtain ⟨t, ht, rfl⟩ := List.mem_map.mp hp
    exact dp_row R.s (t3 t ht).1 (t3 t ht).2
  · have f1 : (sortR (us.zip bs)).map (·.1) = (sortR ts).map fun t => t.1.2 := by
      rw [← t2, ← sortR_map (fun t : Val × V => t.2) ts, List.map_map]; rfl
    have f2 : (sortR (xs.zip bs)).map (·.1) = (sortR ts).map fun t => t.1.1 := by
      rw [← t1, ← sortR_map (fun t : Val × V => t.1) ts, List.map_map]; rfl
    rw [f1]
    refine q b _ hb ?_
    rw [f2]
    exact repL_maps fun t ht => (t3 t (mem_sortR.mp ht)).1
end
section
variable {X : Cx} {K : PySem.W.Frag} [hK : KX X K] {cls : Nat → Addr} {a : Expr} {ta : TE} {fa : E} {p pos : Pos}
theorem sl_sortR (bt : Bt X.mg) (hu : X.A.units + 80 < cLine) (ha : SE X K cls true a ta fa) (hg : Gl X "sorted" := by rfl) (hs : starEach [a] X.env = (false, eval a X.env) :: starEach [] X.env := by rfl) (hpl : (backTo pos (starEach [] X.env)).any (·.1) = false := by rfl) :
    SL X K cls (.Call (.Name "sorted" p) [a] [] pos) (tCB (rSortedR K) (tCons ta tNil)) (l1 oSortR fa) := by obtain ⟨rfl⟩ := hK; exact ⟨pe_callB (cr_sortedR hu) hg bt.sorted (by decide +kernel) (pa_cons ha.1 pa_nil hs) (he := hs) (hpl := hpl), snd_bl1 opl_sortR ha.2⟩
end
/-! ### o.pop(), its item taken -/
def ePopK (o : E) : E := fun sl st => (o sl st).bind fun p => match p.1 with
  | .ref n => match p.2[n]? with
    | some (.lst xs) => xs.getLast?.bind fun x => some (x, p.2.set n (.lst xs.dropLast))
    | _ => none
  | _ => none
section
variable {K : PySem.W.Frag} {cls : Nat → Addr} {m m1 : Bool} {to : TE} {fo : E}
theorem snd_popV (ho : Snd K cls m1 to fo) : Snd K cls m (tBM0 K "list" rPop to) (ePopK fo) := ⟨fun ρ Z σ H sl st d st' R e Q q => by
  obtain ⟨p, e1, e⟩ := bind_some e
  split at e
  · rename_i n hn
    split at e
    · rename_i xs hx
      obtain ⟨x, hl, e⟩ := bind_some e
      cases e
      refine ho.run ρ Z σ H sl st p.1 p.2 R e1 _ fun u ρ1 H1 R1 x1 r1 => ?_
      rw [hn] at r1
      obtain ⟨a, rfl, hρ⟩ := ref_inv r1
      obtain ⟨us, w1, w2⟩ := R1.s.cells n _ a hx hρ
      rw [List.getLast?_eq_getElem?] at hl
      obtain ⟨v, v1, v2⟩ := w2.get hl
      rw [w2.length] at v1
      have hlt : us.length - 1 < us.length := (List.getElem?_eq_some_iff.mp v1).1
      refine ⟨.inl ⟨rfl, us, .of w1⟩, a, us, v, rfl, rfl, w1, v1, ?_⟩
      have x3 : Ext ρ1 H1 ρ1 (upd H1 a (.lst us.dropLast)) := .set hρ
      exact q v ρ1 _ (R1.set hρ ⟨us.dropLast, upd_same, repL_dropLast (x3.repL w2)⟩) (x1.trans x3) (.of (x3.rep v2))
    · cases e
  · cases e⟩
end
section
variable {X : Cx} {K : PySem.W.Frag} [hK : KX X K] {cls : Nat → Addr} {m : Bool} {o : Expr} {to : TE} {fo : E} {apos cpos : Pos}
theorem se_popV (ho : SE X K cls true o to fo)
    (hbase : attributeBase o "pop" X.env (eval o X.env) = eval o X.env := by rfl) (hline : (apos.endLine == cpos.line) = true := by rfl) :
    SE X K cls m (.Call (.Attribute o "pop" apos) [] [] cpos) (tBM0 K "list" rPop to) (ePopK fo) :=
  by obtain ⟨rfl⟩ := hK; exact ⟨pe_bm0 PySem.F.plainAttrs_list PySem.F.slot_list_pop PySem.F.type_list_pop mt_pop ho.1 hbase hline, snd_popV ho.2⟩
end
end Mi

set_option Elab.async false
set_option linter.all false
set_option maxRecDepth 100000
set_option maxHeartbeats 2000000
/-! Mi: a statement that looks at all that stands, before it goes on (for the kernel's sake; it gives the same). -/
namespace Mi
open PySem PySem.Spec PyProof.Rows L2
variable [Gam]

section
variable {α : Type}
def fNat (n : Nat) (k : Nat → α) : α := match n with
  | 0 => k 0
  | m + 1 => k (Nat.succ m)
def fInt (i : Int) (k : Int → α) : α := match i with
  | .ofNat n => fNat n fun n => k (.ofNat n)
  | .negSucc n => fNat n fun n => k (.negSucc n)
def fBl (b : Bool) (k : Bool → α) : α := match b with
  | true => k true
  | false => k false
def fLw {β : Type} (f : β → (β → α) → α) : List β → (List β → α) → α
  | [], k => k []
  | x :: xs, k => f x fun y => fLw f xs fun ys => k (y :: ys)
def fV : Nat → Val → (Val → α) → α
  | 0, v, k => k v
  | n + 1, v, k => match v with
    | .non => k .non
    | .bl b => fBl b fun b => k (.bl b)
    | .int i => fInt i fun i => k (.int i)
    | .str s => k (.str s)
    | .ref r => fNat r fun r => k (.ref r)
    | .lst xs => fLw (fV n) xs fun ys => k (.lst ys)
    | .tup xs => fLw (fV n) xs fun ys => k (.tup ys)
    | .fn i cs => fNat i fun i => fLw (fV n) cs fun ys => k (.fn i ys)
def fKey (x : L2.Key) (k : L2.Key → α) : α := match x with
  | .inl i => fInt i fun i => k (.inl i)
  | .inr s => k (.inr s)
def fC (c : Cell) (k : Cell → α) : α := match c with
  | .lst xs => fLw (fV 8) xs fun ys => k (.lst ys)
  | .ins C vs => fLw (fV 8) vs fun ys => k (.ins C ys)
  | .dk kvs => fLw (fun p k => fKey p.1 fun a => fV 8 p.2 fun v => k (a, v)) kvs fun ys => k (.dk ys)
  | .dt kvs => fLw (fun p k => fLw fKey p.1 fun a => fV 8 p.2 fun v => k (a, v)) kvs fun ys => k (.dt ys)
  | .tb n => k (.tb n)
def fSlot (s : Slot) (k : Slot → α) : α := match s with
  | .no => k .no
  | .val v => fV 8 v fun v => k (.val v)
  | .own xs => fLw (fV 8) xs fun ys => k (.own ys)
theorem fNat_eq (n : Nat) (k : Nat → α) : fNat n k = k n := by cases n <;> rfl
theorem fInt_eq (i : Int) (k : Int → α) : fInt i k = k i := by
  cases i with
  | ofNat n => exact fNat_eq n fun n => k (.ofNat n)
  | negSucc n => exact fNat_eq n fun n => k (.negSucc n)
theorem fBl_eq (b : Bool) (k : Bool → α) : fBl b k = k b := by cases b <;> rfl
theorem fLw_eq {β : Type} {f : β → (β → α) → α} (h : ∀ x k, f x k = k x) : ∀ (xs : List β) (k : List β → α), fLw f xs k = k xs
  | [], k => rfl
  | x :: xs, k => by
    show f x (fun y => fLw f xs fun ys => k (y :: ys)) = _
    rw [h, fLw_eq h xs]
theorem fV_eq : ∀ (n : Nat) (v : Val) (k : Val → α), fV n v k = k v
  | 0, v, k => rfl
  | n + 1, v, k => by
    cases v with
    | non => rfl
    | bl b => exact fBl_eq b fun b => k (.bl b)
    | int i => exact fInt_eq i fun i => k (.int i)
    | str s => rfl
    | ref r => exact fNat_eq r fun r => k (.ref r)
    | lst xs => exact fLw_eq (fV_eq n) xs fun ys => k (.lst ys)
    | tup xs => exact fLw_eq (fV_eq n) xs fun ys => k (.tup ys)
    | fn i cs =>
      show fNat i (fun i => fLw (fV n) cs fun ys => k (.fn i ys)) = _
      rw [fNat_eq, fLw_eq (fV_eq n)]
theorem fKey_eq (x : L2.Key) (k : L2.Key → α) : fKey x k = k x := by
  cases x with
  | inl i => exact fInt_eq i fun i => k (.inl i)
  | inr s => rfl
theorem fC_eq (c : Cell) (k : Cell → α) : fC c k = k c := by
  cases c with
  | lst xs => exact fLw_eq (fV_eq 8) xs fun ys => k (.lst ys)
  | ins C vs => exact fLw_eq (fV_eq 8) vs fun ys => k (.ins C ys)
  | dk kvs => exact fLw_eq (fun p k => by rw [fKey_eq, fV_eq]) kvs fun ys => k (.dk ys)
  | dt kvs => exact fLw_eq (fun p k => by rw [fLw_eq fKey_eq, fV_eq]) kvs fun ys => k (.dt ys)
  | tb n => rfl
theorem fSlot_eq (s : Slot) (k : Slot → α) : fSlot s k = k s := by
  cases s with
  | no => rfl
  | val v => exact fV_eq 8 v fun v => k (.val v)
  | own xs => exact fLw_eq (fV_eq 8) xs fun ys => k (.own ys)
end
/-- as b -/
def sNow (b : S) : S := fun sl st => fLw fSlot sl fun sl => fLw fC st fun st => b sl st
theorem sNow_eq (b : S) : sNow b = b := by
  funext sl st
  show fLw fSlot sl (fun sl => fLw fC st fun st => b sl st) = _
  rw [fLw_eq fSlot_eq, fLw_eq fC_eq]
theorem sss_w {X : Cx} {K : PySem.W.Frag} {cls : Nat → Addr} {ss : List Stmt} {t : TS} {f : S} (h : SSs X K cls ss t f) : SSs X K cls ss t (sNow f) := by rw [sNow_eq]; exact h
/-- what comes of it, looked at -/
def fO {α : Type} (o : Out) (k : Out → α) : α := match o with
  | .nx => k .nx
  | .bk => k .bk
  | .ct => k .ct
  | .rt v => fV 8 v fun v => k (.rt v)
theorem fO_eq {α : Type} (o : Out) (k : Out → α) : fO o k = k o := by
  cases o with
  | rt v => exact fV_eq 8 v fun v => k (.rt v)
  | _ => rfl
def sOut (b : S) : S := fun sl st => (b sl st).bind fun p => fO p.1 fun o => fLw fSlot p.2.1 fun sl => fLw fC p.2.2 fun st => some (o, sl, st)
theorem sOut_eq (b : S) : sOut b = b := by
  funext sl st
  show (b sl st).bind (fun p => fO p.1 fun o => fLw fSlot p.2.1 fun sl => fLw fC p.2.2 fun st => some (o, sl, st)) = _
  cases b sl st with
  | none => rfl
  | some p =>
    show (fO p.1 fun o => fLw fSlot p.2.1 fun sl => fLw fC p.2.2 fun st => some (o, sl, st)) = _
    rw [fO_eq, fLw_eq fSlot_eq, fLw_eq fC_eq]
def eNow (e : E) : E := fun sl st => (e sl st).bind fun p => fV 8 p.1 fun v => fLw fC p.2 fun st => some (v, st)
theorem eNow_eq (e : E) : eNow e = e := by
  funext sl st
  show (e sl st).bind (fun p => fV 8 p.1 fun v => fLw fC p.2 fun st => some (v, st)) = _
  cases e sl st with
  | none => rfl
  | some p =>
    show (fV 8 p.1 fun v => fLw fC p.2 fun st => some (v, st)) = _
    rw [fV_eq, fLw_eq fC_eq]
theorem ss_o {X : Cx} {K : PySem.W.Frag} {cls : Nat → Addr} {s : Stmt} {t : TS} {f : S} (h : SS X K cls s t f) : SS X K cls s t (sOut f) := by rw [sOut_eq]; exact h
theorem se_w {X : Cx} {K : PySem.W.Frag} {cls : Nat → Addr} {m : Bool} {e : Expr} {t : TE} {f : E} (h : SE X K cls m e t f) : SE X K cls m e t (eNow f) := by rw [eNow_eq]; exact h
/-! .. without the store -/
def sNowL (b : S) : S := fun sl st => fLw fSlot sl fun sl => b sl st
theorem sNowL_eq (b : S) : sNowL b = b := by
  funext sl st
  show fLw fSlot sl (fun sl => b sl st) = _
  rw [fLw_eq fSlot_eq]
def sOutL (b : S) : S := fun sl st => (b sl st).bind fun p => fO p.1 fun o => fLw fSlot p.2.1 fun sl => some (o, sl, p.2.2)
theorem sOutL_eq (b : S) : sOutL b = b := by
  funext sl st
  show (b sl st).bind (fun p => fO p.1 fun o => fLw fSlot p.2.1 fun sl => some (o, sl, p.2.2)) = _
  cases b sl st with
  | none => rfl
  | some p =>
    show (fO p.1 fun o => fLw fSlot p.2.1 fun sl => some (o, sl, p.2.2)) = _
    rw [fO_eq, fLw_eq fSlot_eq]
def eNowL (e : E) : E := fun sl st => (e sl st).bind fun p => fV 8 p.1 fun v => some (v, p.2)
theorem eNowL_eq (e : E) : eNowL e = e := by
  funext sl st
  show (e sl st).bind (fun p => fV 8 p.1 fun v => some (v, p.2)) = _
  cases e sl st with
  | none => rfl
  | some p =>
    show (fV 8 p.1 fun v => some (v, p.2)) = _
    rw [fV_eq]
theorem sss_wL {X : Cx} {K : PySem.W.Frag} {cls : Nat → Addr} {ss : List Stmt} {t : TS} {f : S} (h : SSs X K cls ss t f) : SSs X K cls ss t (sNowL f) := by rw [sNowL_eq]; exact h
theorem ss_oL {X : Cx} {K : PySem.W.Frag} {cls : Nat → Addr} {s : Stmt} {t : TS} {f : S} (h : SS X K cls s t f) : SS X K cls s t (sOutL f) := by rw [sOutL_eq]; exact h
theorem se_wL {X : Cx} {K : PySem.W.Frag} {cls : Nat → Addr} {m : Bool} {e : Expr} {t : TE} {f : E} (h : SE X K cls m e t f) : SE X K cls m e t (eNowL f) := by rw [eNowL_eq]; exact h
end Mi

set_option Elab.async false
set_option linter.all false
set_option maxRecDepth 100000
set_option maxHeartbeats 1000000
/-! Mi: a call, a statement whose new places are let go: what it leaves names the old ones alone. -/
namespace Mi
open PySem PySem.Spec PyProof.Rows L2
/-- .. names places below n alone -/
def lowV (n : Nat) : Nat → Val → Bool
  | _, .non => true
  | _, .bl _ => true
  | _, .int _ => true
  | _, .str _ => true
  | _, .ref m => Nat.blt m n
  | 0, _ => false
  | k + 1, .lst xs => xs.all (lowV n k)
  | k + 1, .tup xs => xs.all (lowV n k)
  | k + 1, .fn _ cs => cs.all (lowV n k)
def lowC (n : Nat) : Cell → Bool
  | .lst xs => xs.all (lowV n 20)
  | .ins _ vs => vs.all (lowV n 20)
  | .dk kvs => (kvs.map (·.2)).all (lowV n 20)
  | .dt kvs => (kvs.map (·.2)).all (lowV n 20)
  | .tb _ => true
def cutS (n : Nat) (st : Sto) : Option Sto := if (st.take n).all (lowC n) = true then some (st.take n) else none
def keepF (f : F) : F := fun vs st => (f vs st).bind fun p => if lowV st.length 20 p.1 = true then (cutS st.length p.2).map fun s => (p.1, s) else none
def keepL (n : Nat) : Slot → Slot
  | .val v => if lowV n 20 v = true then .val v else .no
  | _ => .no
def sKeep (f : S) : S := fun sl st => (f sl st).bind fun r => match r with
  | (.nx, sl1, st1) => (cutS st.length st1).map fun s => (.nx, sl1.map (keepL st.length), s)
  | (.rt v, sl1, st1) => if lowV st.length 20 v = true then (cutS st.length st1).map fun s => (.rt v, sl1, s) else none
  | _ => none
theorem keepL_of {n : Nat} {w : Val} : keepL n (.val w) = if lowV n 20 w = true then .val w else .no := rfl
theorem keepL_own {n : Nat} {s : Slot} {xs : List Val} (h : keepL n s = .own xs) : False := by
  cases s with
  | val w =>
    rw [keepL_of] at h
    by_cases hn : lowV n 20 w = true
    · rw [if_pos hn] at h
      cases h
    · rw [if_neg hn] at h
      cases h
  | no => cases h
  | own xs => cases h
theorem keepL_val {n : Nat} {s : Slot} {v : Val} (h : keepL n s = .val v) : s = .val v ∧ lowV n 20 v = true := by
  cases s with
  | val w =>
    rw [keepL_of] at h
    by_cases hn : lowV n 20 w = true
    · rw [if_pos hn] at h
      cases h
      exact ⟨rfl, hn⟩
    · rw [if_neg hn] at h
      cases h
  | no => cases h
  | own xs => cases h
theorem keepL_map {n : Nat} {sl : Sl} {i : Nat} {xs : List Val} (h : (sl.map (keepL n))[i]? = some (.own xs)) : False := by
  rw [List.getElem?_map] at h
  obtain ⟨s, _, hs⟩ := Option.map_eq_some_iff.mp h
  exact keepL_own hs
variable [Gam]
section
variable {K : PySem.W.Frag} {cls : Nat → Addr} {ρ ρ' : List Addr} {Z Z' : Addr → Prop} {σ σ' : L2.St} {H H' : Hp} {sl : Sl} {st st' : Sto} {A A' : Addr → Prop}
theorem repL_low {n k : Nat} (ih : ∀ {x : Val} {u : V}, lowV n k x = true → Rep K ρ' A' H x u → Rep K ρ A H x u) : ∀ {xs : List Val} {us : List V}, xs.all (lowV n k) = true → RepL K ρ' A' H xs us → RepL K ρ A H xs us
  | [], us, _, r => by cases r; exact .nil
  | x :: xs, us, e, r => by
    cases r with
    | cons r rs =>
      rw [List.all_cons, Bool.and_eq_true] at e
      exact .cons (ih e.1 r) (repL_low ih e.2 rs)
theorem low_ref (hp : ρ <+: ρ') {m : Nat} {a : Addr} (h : Nat.blt m ρ.length = true) (e : ρ'[m]? = some a) : ρ[m]? = some a := by
  obtain ⟨t, rfl⟩ := hp
  have hl : m < ρ.length := by
    unfold Nat.blt at h
    exact Nat.le_of_ble_eq_true h
  rw [List.getElem?_append_left hl] at e
  exact e
theorem rep_low (hp : ρ <+: ρ') (hA : ∀ a, A a → A' a) : ∀ (k : Nat) {x : Val} {u : V}, lowV ρ.length k x = true → Rep K ρ' A' H x u → Rep K ρ A H x u
  | 0, x, u, e, r => by
    cases r with
    | non => exact .non
    | bl b => exact .bl b
    | int i => exact .int i
    | str i => exact .str i
    | fn _ _ _ => cases e
    | ref h => exact .ref (low_ref hp (by simpa [lowV] using e) h)
    | lst _ _ => cases e
    | tup _ _ => cases e
  | k + 1, x, u, e, r => by
    cases r with
    | non => exact .non
    | bl b => exact .bl b
    | int i => exact .int i
    | str i => exact .str i
    | ref h => exact .ref (low_ref hp (by simpa [lowV] using e) h)
    | fn h1 h2 r => exact .fn h1 (fun p hp => ⟨fun z => (h2 p hp).1 (hA _ z), (h2 p hp).2⟩) (repL_low (rep_low hp hA k) e r)
    | lst h r => exact .lst (h.imp (fun h => ⟨fun z => h.1 (hA _ z), h.2⟩) id) (repL_low (rep_low hp hA k) e r)
    | tup h r => exact .tup (h.imp (fun h => ⟨fun z => h.1 (hA _ z), h.2⟩) id) (repL_low (rep_low hp hA k) e r)
theorem repC_low (hp : ρ <+: ρ') (hA : ∀ a, A a → A' a) {a : Addr} {c : Cell} (e : lowC ρ.length c = true) (r : RepC K cls ρ' A' H a c) : RepC K cls ρ A H a c := by
  cases c with
  | lst xs => obtain ⟨us, h, r⟩ := r; exact ⟨us, h, repL_low (rep_low hp hA 20) e r⟩
  | ins C vs => obtain ⟨dx, us, h, l, r⟩ := r; exact ⟨dx, us, h, l, repL_low (rep_low hp hA 20) e r⟩
  | dk kvs => obtain ⟨us, h, l, r⟩ := r; exact ⟨us, h, l, repL_low (rep_low hp hA 20) e r⟩
  | dt kvs => obtain ⟨us, h, l, r⟩ := r; exact ⟨us, h, l, repL_low (rep_low hp hA 20) e r⟩
  | tb k =>
    obtain ⟨e0, ps, h, t, n⟩ := r
    refine ⟨e0, ps, h, t, fun pos cv hc => ?_⟩
    obtain ⟨c, e1, e2, e3⟩ := n pos cv hc
    exact ⟨c, e1, fun z => e2 (hA _ z), e3⟩
theorem relR_cut {s : Sto} (R : RelR K cls ρ Z H st) (R' : RelR K cls ρ' Z' H' st') (hZ : ∀ a, Z' a ↔ Z a) (hp : ρ <+: ρ') (e : cutS st.length st' = some s) : RelR K cls ρ Z H' s := by
  unfold cutS at e
  split at e
  · rename_i ha
    cases e
    have hl : st.length ≤ st'.length := by rw [← R.len, ← R'.len]; exact hp.length_le
    have hA : ∀ a, AR ρ Z a → AR ρ' Z' a := fun a z => z.imp (fun z => hp.mem z) fun z => (hZ a).mpr z
    refine ⟨R.nd, by rw [R.len, List.length_take]; omega, fun n c a h1 h2 => ?_, fun a h => R'.dom a (hA a h), R.dis⟩
    have hn : n < st.length := by rw [← R.len]; exact (List.getElem?_eq_some_iff.mp h2).1
    have hm : c ∈ st'.take st.length := List.mem_of_getElem? h1
    rw [List.getElem?_take, if_pos hn] at h1
    have h3 : ρ'[n]? = some a := by
      obtain ⟨t, rfl⟩ := hp
      rw [List.getElem?_append_left (by rw [R.len]; exact hn)]
      exact h2
    have hc : lowC ρ.length c = true := by rw [R.len]; exact List.all_eq_true.mp ha c hm
    exact repC_low hp hA hc (R'.cells n c a h1 h3)
  · cases e
theorem spM_keep {f : F} {vs : List V} {Q : VK} {E : XK} (h : spM K cls (keepF f) vs H Q E) : spM K cls f vs H Q E := by
  obtain ⟨ρ, Z, ds, st, d, st', R, r, e, q⟩ := h
  obtain ⟨p, e1, e⟩ := bind_some e
  split at e
  · rename_i hv
    obtain ⟨s, e2, e3⟩ := Option.map_eq_some_iff.mp e
    cases e3
    refine ⟨ρ, Z, ds, st, p.1, p.2, R, r, e1, fun u ρ' H' R' x' r' => q u ρ H' (relR_cut R R' (fun _ => .rfl) x'.pre e2) ⟨List.prefix_rfl, ⟨x'.fr.keep, fun a w => .inl w⟩⟩ ?_⟩
    exact rep_low x'.pre (fun a z => z.imp (fun z => x'.pre.mem z) id) 20 (by rw [R.len]; exact hv) r'
  · cases e
theorem fn_keep {P : Program} {w : World} {mg : Str → Option Value} {base : Heap} {k : Nat} {f : Addr} {fd : FuncData} {ps : List Str} {m : F} (h : FnG P w K mg base k f fd ps (spM K cls m)) : FnG P w K mg base k f fd ps (spM K cls (keepF m)) := h.imp fun _ _ _ _ q => spM_keep q
theorem s_keep {t : TS} {f : S} (h : SndS K cls t f) : SndS K cls t (sKeep f) := ⟨fun ρ Z σ H sl st r R e D q => by
  obtain ⟨⟨o, sl1, st1⟩, e1, e⟩ := bind_some e
  cases o with
  | bk => cases e
  | ct => cases e
  | rt v =>
    have e : (if lowV st.length 20 v = true then (cutS st.length st1).map fun s => (Out.rt v, sl1, s) else none) = some r := e
    split at e
    · rename_i hv
      obtain ⟨s, e2, e3⟩ := Option.map_eq_some_iff.mp e
      cases e3
      refine h.run ρ Z σ H sl st _ R e1 D fun u ρ' H' R' p' f' r' => ?_
      have hA : ∀ a, AR ρ Z a → AR ρ' Z a := fun a z => z.imp (fun z => p'.mem z) id
      have R0 : RelR K cls ρ Z H' s := by
        refine relR_cut (Z := Z) ⟨R.s.nd, R.s.len, fun n c a h1 h2 => ?_, fun a h => R.s.dom a (h.imp id .inl), fun a ha z => R.s.dis a ha (.inl z)⟩ R' (fun _ => .rfl) p' e2
        exact (R.s.cells n c a h1 h2).mono (Fr.less fun a z => z.imp id .inl) List.prefix_rfl rfl
      exact q u ρ H' R0 List.prefix_rfl ⟨f'.keep, fun a z => .inl (.inl z)⟩ (rep_low p' hA 20 (by rw [R.s.len]; exact hv) r')
    · cases e
  | nx =>
    have e : ((cutS st.length st1).map fun s => (Out.nx, sl1.map (keepL st.length), s)) = some r := e
    obtain ⟨s, e2, e3⟩ := Option.map_eq_some_iff.mp e
    cases e3
    refine h.run ρ Z σ H sl st _ R e1 D fun σ' ρ' H' R' p' f' => ?_
    have no : ∀ a, ¬ Own (sl1.map (keepL st.length)) σ' a := fun a ⟨i, xs, h1, _⟩ => keepL_map h1
    have hA : ∀ a, AR ρ (ZO Z (sl1.map (keepL st.length)) σ') a → AR ρ' (ZO Z sl1 σ') a := fun a z => by
      rcases z with z | z | z
      · exact .inl (p'.mem z)
      · exact .inr (.inl z)
      · exact (no a z).elim
    have hA0 : ∀ a, AR ρ (ZO Z (sl1.map (keepL st.length)) σ') a → AR ρ (ZO Z sl σ) a := fun a z => by
      rcases z with z | z | z
      · exact .inl z
      · exact .inr (.inl z)
      · exact (no a z).elim
    refine q σ' ρ H' ⟨?_, by rw [List.length_map]; exact R'.slen, fun i v hv => ?_, fun i xs hx => ?_, fun i j xs ys a h1 _ h3 _ => ?_⟩ List.prefix_rfl ⟨f'.keep, fun a z => .inl (z.elim .inl fun z => (no a z).elim)⟩
    · have R0 : RelR K cls ρ (ZO Z (sl1.map (keepL st.length)) σ') H st := ⟨R.s.nd, R.s.len, fun n c a h1 h2 => (R.s.cells n c a h1 h2).mono (Fr.less fun a z => hA0 a z) List.prefix_rfl rfl, fun a h => R.s.dom a (hA0 a h), fun a ha z => R.s.dis a ha (z.elim .inl fun z => (no a z).elim)⟩
      have R1 : RelR K cls ρ' (ZO Z (sl1.map (keepL st.length)) σ') H' st1 := ⟨R'.s.nd, R'.s.len, fun n c a h1 h2 => (R'.s.cells n c a h1 h2).mono (Fr.less fun a z => z.imp id fun z => z.elim .inl fun z => (no a z).elim) List.prefix_rfl rfl, fun a h => R'.s.dom a (h.imp id fun z => z.elim .inl fun z => (no a z).elim), fun a ha z => R'.s.dis a ha (z.elim .inl fun z => (no a z).elim)⟩
      exact relR_cut R0 R1 (fun _ => .rfl) p' e2
    · rw [List.getElem?_map] at hv
      obtain ⟨s', hs, hk⟩ := Option.map_eq_some_iff.mp hv
      obtain ⟨rfl, hl⟩ := keepL_val hk
      obtain ⟨u, h1, h2⟩ := R'.slots i v hs
      exact ⟨u, h1, rep_low p' hA 20 (by rw [R.s.len]; exact hl) h2⟩
    · exact (keepL_map hx).elim
    · exact (no a ⟨i, xs, h1, h3⟩).elim⟩
end
section
variable {X : Cx} {K : PySem.W.Frag} [hK : KX X K] {cls : Nat → Addr} {s1 s2 : Stmt} {ss : List Stmt} {t1 t2 t3 : TS} {f1 f2 f3 : S}
theorem ss_keep (h : SS X K cls s1 t1 f1) : SS X K cls s1 t1 (sKeep f1) := ⟨h.1, s_keep h.2⟩
theorem sss_k1 (h1 : SS X K cls s1 t1 f1) (h2 : SSs X K cls ss t2 f2) : SSs X K cls (s1 :: ss) (tSeq t1 t2) (sSeq (sKeep f1) f2) := sss_c (ss_keep h1) h2
theorem sss_k2 (h1 : SS X K cls s1 t1 f1) (h2 : SS X K cls s2 t2 f2) (h3 : SSs X K cls ss t3 f3) : SSs X K cls (s1 :: s2 :: ss) (tSeq t1 (tSeq t2 t3)) (sSeq (sKeep (sSeq f1 f2)) f3) := by
  obtain ⟨rfl⟩ := hK
  exact ⟨pss_cons h1.1 (pss_cons h2.1 h3.1), s_seq (t := tSeq t1 t2) (s_keep (s_seq h1.2 h2.2)) h3.2⟩
end
/-! evaluation, statement by statement -/
theorem seq_nx {a b : S} {sl sl1 : Sl} {st st1 : Sto} (h : a sl st = some (.nx, sl1, st1)) : sSeq a b sl st = b sl1 st1 := by
  show (a sl st).bind _ = _
  rw [h]
  rfl
end Mi

set_option Elab.async false
set_option linter.all false
set_option maxRecDepth 100000
set_option maxHeartbeats 4000000
namespace Mi
open PySem PySem.Spec PyProof.Rows L2
/-- no lambda is made -/
instance gam_none : Gam := ⟨fun _ _ _ _ => False, fun _ => (0, ("" : Str))⟩
def b_is_whole : S :=
  sRet (eAnd (e1 (oIsi 0) (eVar 0)) (eNot (e1 (oIsi 1) (eVar 0))))
def m_is_whole : F := fnOf 1 1 b_is_whole
def b_is_between : S :=
  sRet (eAnd (eCall m_is_whole (aCons (eVar 0) (aNil))) (eCh oLe oLe (eVar 1) (eVar 0) (eVar 2)))
def m_is_between : F := fnOf 3 3 b_is_between
def b_are_rising : S :=
  sRet (eAll (lComp (iZip (eVar 0) (eSl (eVar 0) (pS (eC (.int 1))) (pN))) [1, 2] (gTup 2 (gCons (gName 1) (gCons (gName 2) (gNil)))) (tTrue) (e2 oLt (eVar 1) (eVar 2))))
def m_are_rising : F := fnOf 1 3 b_are_rising
def b_are_boxes : S :=
  sSeq (sIf (tOr (tNot (tE (e1 (oIsi 3) (eVar 0)))) (tE (e2 oGt (e1 oLen (eVar 0)) (eVar 1)))) (sRet (eC (.bl false)))
  (sSkip))
  (sRet (eAnd (eAll (lComp (iSeq (eVar 0)) [2] (gName 2) (tTrue) (eCall m_is_between (aCons (eVar 2) (aCons (eC (.int 0)) (aCons (e2 oSub (eC (.int 8)) (eC (.int 1))) (aNil))))))) (eCall m_are_rising (aCons (eVar 0) (aNil)))))
def m_are_boxes : F := fnOf 2 3 b_are_boxes
def b_is_account : S :=
  sSeq (sIf (tOr (tNot (tE (e1 (oIsi 4) (eVar 0)))) (tE (e2 oNe (e1 oLen (eVar 0)) (eC (.int 2))))) (sRet (eC (.bl false)))
  (sSkip))
  (sRet (eAnd (eCall m_are_boxes (aCons (e2 oIx (eVar 0) (eC (.int 0))) (aCons (eC (.int 3)) (aNil)))) (eCall m_are_boxes (aCons (e2 oIx (eVar 0) (eC (.int 1))) (aCons (eC (.int 3)) (aNil))))))
def m_is_account : F := fnOf 1 1 b_is_account
def b_check_house : S :=
  sSeq (sIf (tOr (tNot (tE (e1 (oIsi 3) (eVar 0)))) (tNot (tE (eCh oLe oLe (eC (.int 1)) (e1 oLen (eVar 0)) (eC (.int 6)))))) (sFail)
  (sSkip))
  (sIf (tNot (tE (eAll (lComp (iSeq (eVar 0)) [1] (gName 1) (tTrue) (eCall m_is_account (aCons (eVar 1) (aNil))))))) (sFail)
  (sSkip))
def m_check_house : F := fnOf 1 2 b_check_house
def b_check_boxes : S :=
  sIf (tNot (tE (eCall m_are_boxes (aCons (eVar 0) (aCons (eC (.int 8)) (aNil)))))) (sFail)
  (sSkip)
def m_check_boxes : F := fnOf 1 1 b_check_boxes
def b_check_wanted : S :=
  sIf (tNot (tE (eCall m_is_between (aCons (eVar 1) (aCons (eC (.int 0)) (aCons (e2 oSub (e1 oLen (eVar 0)) (eC (.int 1))) (aNil))))))) (sFail)
  (sSkip)
def m_check_wanted : F := fnOf 2 2 b_check_wanted
def b_come_to : S :=
  sSeq (sParVO 3 4 (eD (lComp (iSeq (eVar 1)) [5] (gName 5) (tE (e2 oNin (eVar 5) (eVar 2))) (eVar 5))) (lDisp (aNil)))
  (sSeq (sAsg (eC (.bl true)) (gName 6))
  (sSeq (sWhile 20 (tE (eVar 6))
  (sSeq (sAsg (eC (.bl false)) (gName 6))
  (sFor (iEnum (eVar 0)) (gTup 2 (gCons (gName 7) (gCons (gTup 2 (gCons (gName 8) (gCons (gName 9) (gNil)))) (gNil))))
  (sIf (tAnd (tE (e2 oNin (eVar 7) (eVarO 4))) (tE (eAny (lComp (iSeq (eVar 8)) [5] (gName 5) (tTrue) (e2 oIn (eVar 5) (eVar 3)))))) (sSeq (sApp 4 (eVar 7))
  (sSeq (sAsg (e2 oAdd (eVar 3) (eD (lComp (iSeq (eVar 9)) [5] (gName 5) (tAnd (tE (e2 oNin (eVar 5) (eVar 3))) (tE (e2 oNin (eVar 5) (eVar 2)))) (eVar 5)))) (gName 3))
  (sAsg (eC (.bl true)) (gName 6))))
  (sSkip)))))
  (sRet (eTup (aCons (eD (l1 oSort (eVar 3))) (aCons (eVarO 4) (aNil)))))))
def m_come_to : F := fnOf 3 10 b_come_to
def b_is_way : S :=
  sSeq (sIf (tOr (tE (e2 oEq (eVar 3) (eD (lDisp (aNil))))) (tOr (tE (e2 oNin (e2 oIx (eVar 3) (eC (.int 0))) (eVar 1))) (tE (e2 oNin (e2 oIx (eVar 3) (e1 oNeg (eC (.int 1)))) (e2 oIx (e2 oIx (eVar 0) (eVar 2)) (eC (.int 0))))))) (sRet (eC (.bl false)))
  (sSkip))
  (sSeq (sFor (iZip (eVar 3) (eSl (eVar 3) (pS (eC (.int 1))) (pN))) (gTup 2 (gCons (gName 4) (gCons (gName 5) (gNil))))
  (sIf (tNot (tE (eAny (lComp (iSeq (eVar 0)) [6, 7] (gTup 2 (gCons (gName 6) (gCons (gName 7) (gNil)))) (tTrue) (eAnd (e2 oIn (eVar 4) (eVar 6)) (e2 oIn (eVar 5) (eVar 7))))))) (sRet (eC (.bl false)))
  (sSkip)))
  (sRet (eC (.bl true))))
def m_is_way : F := fnOf 4 8 b_is_way
def b_Bars___init__ : S :=
  sSeq (sFld 6 0 (eVar 0) (eK (l1 oList (eVar 1))))
  (sFld 6 1 (eVar 0) (eK (lComp (iSeq (eVar 2)) [3] (gName 3) (tTrue) (eK (l1 oList (eVar 3))))))
def m_Bars___init__ : F := fnOf 3 4 b_Bars___init__
def b_Bars_shows : S :=
  sSeq (sAsg (eD (lDisp (aNil))) (gName 4))
  (sSeq (sFor (iSeq (e1 (oFld 6 1) (eVar 0))) (gName 5)
  (sSeq (sIf (tNot (tE (eCall m_is_way (aCons (eVar 1) (aCons (eVar 2) (aCons (eVar 3) (aCons (eVar 5) (aNil)))))))) (sRet (eC (.bl false)))
  (sSkip))
  (sAsg (e2 oAdd (eVar 4) (eVar 5)) (gName 4))))
  (sSeq (sIf (tE (e2 oLt (e1 oLenU (eVar 4)) (e1 oLen (eVar 4)))) (sRet (eC (.bl false)))
  (sSkip))
  (sSeq (sIf (tOr (tE (e2 oNe (e1 (oFld 6 0) (eVar 0)) (eD (l1 oSortU (e1 (oFld 6 0) (eVar 0)))))) (tE (e2 oNe (e1 oLen (e1 (oFld 6 0) (eVar 0))) (e1 oLen (e1 (oFld 6 1) (eVar 0)))))) (sRet (eC (.bl false)))
  (sSkip))
  (sRet (e2 oNin (eVar 3) (e2 oIx (eCall m_come_to (aCons (eVar 1) (aCons (eVar 2) (aCons (e1 (oFld 6 0) (eVar 0)) (aNil))))) (eC (.int 1))))))))
def m_Bars_shows : F := fnOf 4 6 b_Bars_shows
def b_next_boxes : S :=
  sSeq (sOwn 2 (lDisp (aNil)))
  (sSeq (sFor (iSeq (eVar 0)) (gTup 2 (gCons (gName 3) (gCons (gName 4) (gNil))))
  (sIf (tE (e2 oIn (eVar 1) (eVar 3))) (sExt 2 (lComp (iSeq (eVar 4)) [5] (gName 5) (tAnd (tE (e2 oNe (eVar 5) (eVar 1))) (tE (e2 oNin (eVar 5) (eVarO 2)))) (eVar 5)))
  (sSkip)))
  (sRet (eVarO 2)))
def m_next_boxes : F := fnOf 2 6 b_next_boxes
def b_edges_of : S :=
  sSeq (sAsg (eDisp1T (eTup (aCons (eC (.str "begin")) (aCons (eC (.int 0)) (aNil)))) (eK (lComp (iSeq (eVar 1)) [4] (gName 4) (tTrue) (eTup (aCons (eC (.str "in")) (aCons (eVar 4) (aNil))))))) (gName 3))
  (sSeq (sFor (iRg1 (eC (.int 8))) (gName 4)
  (sSeq (sTSet (eVar 3) (eTup (aCons (eC (.str "in")) (aCons (eVar 4) (aNil)))) (eK (lDisp (aCons (eTup (aCons (eC (.str "out")) (aCons (eVar 4) (aNil)))) (aNil)))))
  (sSeq (sTSet (eVar 3) (eTup (aCons (eC (.str "out")) (aCons (eVar 4) (aNil)))) (eK (lComp (iSeq (eCall m_next_boxes (aCons (eVar 0) (aCons (eVar 4) (aNil))))) [5] (gName 5) (tTrue) (eTup (aCons (eC (.str "in")) (aCons (eVar 5) (aNil)))))))
  (sIf (tE (e2 oIn (eVar 4) (e2 oIx (e2 oIx (eVar 0) (eVar 2)) (eC (.int 0))))) (sAppK (e2 oTGet (eVar 3) (eTup (aCons (eC (.str "out")) (aCons (eVar 4) (aNil))))) (eTup (aCons (eC (.str "end")) (aCons (eC (.int 0)) (aNil)))))
  (sSkip)))))
  (sRet (eVar 3)))
def m_edges_of : F := fnOf 3 6 b_edges_of
def b_met_from : S :=
  sSeq (sAsg (eTup (aCons (eC (.str "begin")) (aCons (eC (.int 0)) (aNil)))) (gName 2))
  (sSeq (sPar 3 4 (eDisp1T (eVar 2) (eVar 2)) (eK (lDisp (aCons (eVar 2) (aNil)))))
  (sSeq (sWhile 40 (tE (e2 oNe (eVar 4) (eD (lDisp (aNil)))))
  (sSeq (sAsg (ePop0 (eVar 4) (eC (.int 0))) (gName 5))
  (sSeq (sAsg (eD (lComp (iSeq (eTGet2 (eVar 0) (eVar 5) (eD (lDisp (aNil))))) [7] (gName 7) (tOr (tE (e2 oNin (eTup (aCons (eVar 5) (aCons (eVar 7) (aNil)))) (eVar 1))) (tE (e2 oNe (e2 oIx (eVar 5) (eC (.int 0))) (eC (.str "in"))))) (eVar 7))) (gName 6))
  (sSeq (sAsg (e2 oAdd (eVar 6) (eD (lComp (iSeq (eVar 1)) [7, 8] (gTup 2 (gCons (gName 7) (gCons (gName 8) (gNil)))) (tE (e2 oEq (eVar 8) (eVar 5))) (eVar 7)))) (gName 6))
  (sFor (iSeq (eVar 6)) (gName 7)
  (sIf (tE (e2 oTNin (eVar 7) (eVar 3))) (sSeq (sTSet (eVar 3) (eVar 7) (eVar 5))
  (sAppK (eVar 4) (eVar 7)))
  (sSkip)))))))
  (sRet (eVar 3))))
def m_met_from : F := fnOf 2 9 b_met_from
def b_used_edges : S :=
  sSeq (sPar 1 2 (eD (lDisp (aNil))) (eTup (aCons (eC (.str "end")) (aCons (eC (.int 0)) (aNil)))))
  (sSeq (sAsg (eCall m_met_from (aCons (eVar 0) (aCons (eVar 1) (aNil)))) (gName 3))
  (sSeq (sWhile 12 (tE (e2 oTIn (eVar 2) (eVar 3)))
  (sSeq (sAsg (eVar 2) (gName 4))
  (sSeq (sWhile 40 (tE (e2 oNe (eVar 4) (eTup (aCons (eC (.str "begin")) (aCons (eC (.int 0)) (aNil))))))
  (sSeq (sAsg (e2 oTGet (eVar 3) (eVar 4)) (gName 5))
  (sSeq (sIf (tE (e2 oIn (eTup (aCons (eVar 4) (aCons (eVar 5) (aNil)))) (eVar 1))) (sAsg (eD (lComp (iSeq (eVar 1)) [6] (gName 6) (tE (e2 oNe (eVar 6) (eTup (aCons (eVar 4) (aCons (eVar 5) (aNil)))))) (eVar 6))) (gName 1))
  (sAsg (e2 oAdd (eVar 1) (eD (lDisp (aCons (eTup (aCons (eVar 5) (aCons (eVar 4) (aNil)))) (aNil))))) (gName 1)))
  (sAsg (eVar 5) (gName 4)))))
  (sAsg (eCall m_met_from (aCons (eVar 0) (aCons (eVar 1) (aNil)))) (gName 3)))))
  (sRet (eTup (aCons (eVar 1) (aCons (eVar 3) (aNil)))))))
def m_used_edges : F := fnOf 1 7 b_used_edges
def b_led_on : S :=
  sSeq (sAsg (eTup (aCons (eD (lDisp (aCons (eVar 1) (aNil)))) (aCons (eVar 1) (aNil)))) (gTup 2 (gCons (gName 2) (gCons (gName 3) (gNil)))))
  (sSeq (sWhile 12 (tE (e1 oNotN (eVar 3)))
  (sSeq (sAsg (eD (lComp (iSeq (eVar 0)) [5, 6] (gTup 2 (gCons (gName 5) (gCons (gName 6) (gNil)))) (tAnd (tE (e2 oEq (eVar 5) (eTup (aCons (eC (.str "out")) (aCons (eVar 3) (aNil)))))) (tE (e2 oEq (e2 oIx (eVar 6) (eC (.int 0))) (eC (.str "in"))))) (e2 oIx (eVar 6) (eC (.int 1))))) (gName 4))
  (sSeq (sAsg (eIf (tE (e2 oNe (eVar 4) (eD (lDisp (aNil))))) (e2 oIx (eVar 4) (eC (.int 0))) (eC .non)) (gName 3))
  (sAsg (e2 oAdd (eVar 2) (eVar 4)) (gName 2)))))
  (sRet (eVar 2)))
def m_led_on : F := fnOf 2 7 b_led_on
def b_bars : S :=
  sSeq (sDrop (eCall m_check_house (aCons (eVar 0) (aNil))))
  (sSeq (sDrop (eCall m_check_boxes (aCons (eVar 1) (aNil))))
  (sSeq (sDrop (eCall m_check_wanted (aCons (eVar 0) (aCons (eVar 2) (aNil)))))
  (sSeq (sAsg (eCall m_used_edges (aCons (eCall m_edges_of (aCons (eVar 0) (aCons (eVar 1) (aCons (eVar 2) (aNil))))) (aNil))) (gTup 2 (gCons (gName 3) (gCons (gName 4) (gNil)))))
  (sSeq (sAsg (eD (lComp (iRg1 (eC (.int 8))) [6] (gName 6) (tAnd (tE (e2 oTIn (eTup (aCons (eC (.str "in")) (aCons (eVar 6) (aNil)))) (eVar 4))) (tE (e2 oTNin (eTup (aCons (eC (.str "out")) (aCons (eVar 6) (aNil)))) (eVar 4)))) (eVar 6))) (gName 5))
  (sSeq (sAsg (eD (l1 oSort (eD (lComp (iSeq (eVar 3)) [8, 9] (gTup 2 (gCons (gName 8) (gCons (gName 9) (gNil)))) (tE (e2 oEq (eVar 8) (eTup (aCons (eC (.str "begin")) (aCons (eC (.int 0)) (aNil)))))) (e2 oIx (eVar 9) (eC (.int 1))))))) (gName 7))
  (sRet (eNew 6 m_Bars___init__ (aCons (eVar 5) (aCons (eD (lComp (iSeq (eVar 7)) [6] (gName 6) (tTrue) (eCall m_led_on (aCons (eVar 3) (aCons (eVar 6) (aNil)))))) (aNil))))))))))
def m_bars : F := fnOf 3 10 b_bars
def b_many_bars : S :=
  sRet (e1 oLen (e1 (oFld 6 0) (eCall m_bars (aCons (eVar 0) (aCons (eVar 1) (aCons (eVar 2) (aNil)))))))
def m_many_bars : F := fnOf 3 3 b_many_bars
def b__law_cell_at : S :=
  sSeq (sIf (tE (e2 oLt (eVar 1) (e1 oLen (eVar 0)))) (sRet (e2 oIx (eVar 0) (eVar 1)))
  (sSkip))
  (sRet (eC (.int 0)))
def m__law_cell_at : F := fnOf 2 2 b__law_cell_at
def b__law_draw : S :=
  sSeq (sAsg (eTup (aCons (eC (.int 1000003)) (aCons (eC (.int 1000033)) (aCons (eC (.int 1000037)) (aCons (eC (.int 1000039)) (aCons (eC (.int 1000081)) (aCons (eC (.int 1000099)) (aCons (eC (.int 1000117)) (aCons (eC (.int 1000121)) (aCons (eC (.int 1000133)) (aCons (eC (.int 1000151)) (aCons (eC (.int 1000159)) (aCons (eC (.int 1000171)) (aCons (eC (.int 1000183)) (aCons (eC (.int 1000187)) (aCons (eC (.int 1000193)) (aCons (eC (.int 1000199)) (aNil)))))))))))))))))) (gName 3))
  (sRet (e2 oMod (e2 oMod (e2 oAdd (e2 oMul (eVar 0) (eC (.int 48271))) (e2 oMul (eVar 1) (eC (.int 69621)))) (e2 oIx (eVar 3) (e2 oMod (eVar 1) (eC (.int 16))))) (eVar 2)))
def m__law_draw : F := fnOf 3 4 b__law_draw
def b__law_number : S :=
  sSeq (sIf (tE (e2 oGe (eVar 0) (e2 oPow (eC (.int 10)) (eC (.int 18))))) (sSeq (sAsg (e2 oIx (eTup (aCons (eC (.int 1)) (aCons (eC (.int 7)) (aCons (eC (.int 49)) (aCons (eC (.int 343)) (aCons (eC (.int 2401)) (aNil))))))) (e2 oMod (eVar 1) (eC (.int 5)))) (gName 3))
  (sRet (e2 oDiv (e2 oMod (e2 oSub (eVar 0) (e2 oPow (eC (.int 10)) (eC (.int 18)))) (e2 oMul (eVar 3) (eVar 2))) (eVar 3))))
  (sSkip))
  (sSeq (sIf (tE (e2 oLt (eVar 0) (e1 oNeg (e2 oPow (eC (.int 10)) (eC (.int 18)))))) (sAsg (e2 oMod (eVar 0) (eC (.int 1000811284336359577647248616306026718125307353262274591))) (gName 0))
  (sSkip))
  (sRet (e2 oMod (eCall m__law_draw (aCons (e2 oMul (e2 oAdd (eVar 0) (e2 oMul (eC (.int 977)) (eVar 1))) (e2 oAdd (e2 oAdd (eVar 0) (e2 oMul (eC (.int 31)) (eVar 1))) (eC (.int 5)))) (aCons (e2 oAdd (e2 oMod (eVar 1) (eC (.int 9))) (eC (.int 1))) (aCons (eC (.int 999983)) (aNil))))) (eVar 2))))
def m__law_number : F := fnOf 3 4 b__law_number
def b__law_whole : S :=
  sRet (eAnd (e1 (oIsi 0) (eVar 0)) (eNot (e1 (oIsi 1) (eVar 0))))
def m__law_whole : F := fnOf 1 1 b__law_whole
def b__law_says : S :=
  sRet (eAnd (e1 (oIsi 1) (eVar 0)) (e2 oEq (eVar 0) (eVar 1)))
def m__law_says : F := fnOf 2 2 b__law_says
def b__law_boxes : S :=
  sSeq (sPar 3 4 (eCall m__law_cell_at (aCons (eVar 0) (aCons (eVar 1) (aNil)))) (eD (lDisp (aNil))))
  (sSeq (sFor (iRg1 (eCall m__law_number (aCons (eVar 3) (aCons (e2 oAdd (eVar 1) (eC (.int 1))) (aCons (e2 oAdd (eVar 2) (eC (.int 1))) (aNil)))))) (gName 5)
  (sSeq (sAsg (eCall m__law_number (aCons (e2 oAdd (eCall m__law_cell_at (aCons (eVar 0) (aCons (e2 oAdd (eVar 1) (eVar 5)) (aNil)))) (e2 oMul (eC (.int 7)) (eVar 5))) (aCons (e2 oAdd (eVar 5) (eC (.int 2))) (aCons (eC (.int 8)) (aNil))))) (gName 6))
  (sAsg (eIf (tE (e2 oIn (eVar 6) (eVar 4))) (eVar 4) (e2 oAdd (eVar 4) (eD (lDisp (aCons (eVar 6) (aNil)))))) (gName 4))))
  (sRet (eD (l1 oSort (eVar 4)))))
def m__law_boxes : F := fnOf 3 7 b__law_boxes
def b__law_house : S :=
  sSeq (sParVO 2 3 (eCall m__law_cell_at (aCons (eVar 0) (aCons (eVar 1) (aNil)))) (lDisp (aNil)))
  (sSeq (sAsg (eCall m__law_number (aCons (eVar 2) (aCons (eVar 1) (aCons (eC (.int 3)) (aNil))))) (gName 4))
  (sSeq (sFor (iRg1 (e2 oAdd (eC (.int 1)) (eCall m__law_number (aCons (eVar 2) (aCons (e2 oAdd (eVar 1) (eC (.int 4))) (aCons (eC (.int 6)) (aNil))))))) (gName 5)
  (sSeq (sAsg (e2 oAdd (eCall m__law_cell_at (aCons (eVar 0) (aCons (e2 oAdd (eVar 1) (e2 oMod (eVar 5) (eC (.int 7)))) (aNil)))) (e2 oMul (eC (.int 13)) (eVar 5))) (gName 6))
  (sSeq (sParOO 7 8 (lDisp (aNil)) (lDisp (aNil)))
  (sSeq (sFor (iRg1 (eCall m__law_number (aCons (eVar 6) (aCons (eVar 5) (aCons (eC (.int 4)) (aNil)))))) (gName 9)
  (sApp 7 (eIf (tOr (tE (e2 oGt (eVar 4) (eC (.int 0)))) (tE (e2 oGt (eVar 9) (eC (.int 0))))) (eCall m__law_number (aCons (e2 oAdd (eVar 6) (eVar 9)) (aCons (e2 oAdd (e2 oAdd (eVar 5) (eVar 9)) (eC (.int 1))) (aCons (eC (.int 8)) (aNil))))) (eVar 5))))
  (sSeq (sFor (iRg1 (eCall m__law_number (aCons (eVar 6) (aCons (e2 oAdd (eVar 5) (eC (.int 2))) (aCons (eC (.int 4)) (aNil)))))) (gName 9)
  (sApp 8 (eIf (tOr (tE (e2 oGt (eVar 4) (eC (.int 1)))) (tE (e2 oGt (eVar 9) (eC (.int 0))))) (eCall m__law_number (aCons (e2 oAdd (eVar 6) (eVar 9)) (aCons (e2 oAdd (e2 oAdd (eVar 5) (eVar 9)) (eC (.int 3))) (aCons (eC (.int 8)) (aNil))))) (e2 oMod (e2 oAdd (eVar 5) (eC (.int 1))) (eC (.int 8))))))
  (sApp 3 (eTup (aCons (eD (l1 oSortU (eVarO 7))) (aCons (eD (l1 oSortU (eVarO 8))) (aNil))))))))))
  (sRet (eVarO 3))))
def m__law_house : F := fnOf 2 10 b__law_house
def b__law_come : S :=
  sSeq (sAsg (eTup (aCons (eD (lComp (iSeq (eVar 1)) [5] (gName 5) (tE (e2 oNin (eVar 5) (eVar 2))) (eVar 5))) (aCons (e1 oNeg (eC (.int 1))) (aNil)))) (gTup 2 (gCons (gName 3) (gCons (gName 4) (gNil)))))
  (sSeq (sWhile 40 (tE (e2 oNe (e1 oLen (eVar 3)) (eVar 4)))
  (sSeq (sAsg (e1 oLen (eVar 3)) (gName 4))
  (sFor (iSeq (eVar 0)) (gTup 2 (gCons (gName 6) (gCons (gName 7) (gNil))))
  (sIf (tE (eAny (lComp (iSeq (eVar 6)) [5] (gName 5) (tTrue) (e2 oIn (eVar 5) (eVar 3))))) (sAsg (e2 oAdd (eVar 3) (eD (lComp (iSeq (eVar 7)) [5] (gName 5) (tAnd (tE (e2 oNin (eVar 5) (eVar 3))) (tE (e2 oNin (eVar 5) (eVar 2)))) (eVar 5)))) (gName 3))
  (sSkip)))))
  (sRet (eTup (aCons (eVar 3) (aCons (eD (lComp (iEnum (eVar 0)) [8, 6, 7] (gTup 2 (gCons (gName 8) (gCons (gTup 2 (gCons (gName 6) (gCons (gName 7) (gNil)))) (gNil)))) (tE (eAny (lComp (iSeq (eVar 6)) [5] (gName 5) (tTrue) (e2 oIn (eVar 5) (eVar 3))))) (eVar 8))) (aNil))))))
def m__law_come : F := fnOf 3 9 b__law_come
def b__law_are_bars : S :=
  sSeq (sFor (iSeq (e2 oAdd (eD (lDisp (aCons (eVar 3) (aNil)))) (eVar 4))) (gName 5)
  (sIf (tE (eAny (lComp (iSeq (eVar 5)) [6] (gName 6) (tTrue) (eOr (e1 (oIsi 1) (eVar 6)) (eNot (e1 (oIsi 0) (eVar 6))))))) (sRet (eC (.bl false)))
  (sSkip)))
  (sSeq (sAsg (eD (lDisp (aNil))) (gName 7))
  (sSeq (sFor (iSeq (eVar 4)) (gName 8)
  (sSeq (sAsg (e2 oAdd (eVar 7) (eVar 8)) (gName 7))
  (sSeq (sIf (tOr (tE (e2 oEq (eVar 8) (eD (lDisp (aNil))))) (tOr (tE (e2 oNin (e2 oIx (eVar 8) (eC (.int 0))) (eVar 1))) (tE (e2 oNin (e2 oIx (eVar 8) (e1 oNeg (eC (.int 1)))) (e2 oIx (e2 oIx (eVar 0) (eVar 2)) (eC (.int 0))))))) (sRet (eC (.bl false)))
  (sSkip))
  (sFor (iZip (eVar 8) (eSl (eVar 8) (pS (eC (.int 1))) (pN))) (gTup 2 (gCons (gName 6) (gCons (gName 9) (gNil))))
  (sIf (tNot (tE (eAny (lComp (iSeq (eVar 0)) [10, 11] (gTup 2 (gCons (gName 10) (gCons (gName 11) (gNil)))) (tTrue) (eAnd (e2 oIn (eVar 6) (eVar 10)) (e2 oIn (eVar 9) (eVar 11))))))) (sRet (eC (.bl false)))
  (sSkip))))))
  (sSeq (sIf (tOr (tE (e2 oNe (e1 oLen (eVar 7)) (e1 oLenU (eVar 7)))) (tOr (tE (e2 oNe (eVar 3) (eD (l1 oSortU (eVar 3))))) (tE (e2 oNe (e1 oLen (eVar 3)) (e1 oLen (eVar 4)))))) (sRet (eC (.bl false)))
  (sSkip))
  (sRet (e2 oNin (eVar 2) (e2 oIx (eCall m__law_come (aCons (eVar 0) (aCons (eVar 1) (aCons (eVar 3) (aNil))))) (eC (.int 1))))))))
def m__law_are_bars : F := fnOf 5 12 b__law_are_bars
def b__law_copied : S :=
  sRet (eD (lComp (iSeq (eVar 0)) [1, 2] (gTup 2 (gCons (gName 1) (gCons (gName 2) (gNil)))) (tTrue) (eTup (aCons (eD (l1 oList (eVar 1))) (aCons (eD (l1 oList (eVar 2))) (aNil))))))
def m__law_copied : F := fnOf 1 3 b__law_copied
def b__law_fewest : S :=
  sSeq (sAsg (eC (.int 8)) (gName 3))
  (sSeq (sFor (iRg1 (eC (.int 256))) (gName 4)
  (sSeq (sAsg (eD (lComp (iRg1 (eC (.int 8))) [6] (gName 6) (tE (e2 oEq (e2 oAnd (e2 oShr (eVar 4) (eVar 6)) (eC (.int 1))) (eC (.int 1)))) (eVar 6))) (gName 5))
  (sIf (tAnd (tE (e2 oLt (e1 oLen (eVar 5)) (eVar 3))) (tE (e2 oNin (eVar 2) (e2 oIx (eCall m__law_come (aCons (eVar 0) (aCons (eVar 1) (aCons (eVar 5) (aNil))))) (eC (.int 1)))))) (sAsg (e1 oLen (eVar 5)) (gName 3))
  (sSkip))))
  (sRet (eVar 3)))
def m__law_fewest : F := fnOf 3 7 b__law_fewest
def b__law_right : S :=
  sSeq (sPar 4 5 (eCall m__law_copied (aCons (eVar 0) (aNil))) (eD (l1 oList (eVar 1))))
  (sSeq (sAsg (eCall m_bars (aCons (eVar 4) (aCons (eVar 5) (aCons (eVar 2) (aNil))))) (gName 6))
  (sSeq (sIf (tOr (tNot (tE (e1 (oIsc [6] 7) (eVar 6)))) (tE (e2 oNe (eD (lDisp (aCons (e1 (oIsc [6] 6) (eVar 6)) (aCons (e1 (oIsc [6] 4) (eVar 6)) (aNil))))) (eD (lDisp (aCons (eC (.bl true)) (aCons (eC (.bl false)) (aNil)))))))) (sRet (eC (.bl false)))
  (sSkip))
  (sSeq (sIf (tOr (tE (e2 oNe (eD (lDisp (aCons (eVar 4) (aCons (eVar 5) (aNil))))) (eD (lDisp (aCons (eVar 0) (aCons (eVar 1) (aNil))))))) (tE (e1 (oIsc [6] 5) (eVar 6)))) (sRet (eC (.bl false)))
  (sSkip))
  (sSeq (sIf (tNot (tE (eCall m__law_are_bars (aCons (eVar 0) (aCons (eVar 1) (aCons (eVar 2) (aCons (e1 (oFld 6 0) (eVar 6)) (aCons (e1 (oFld 6 1) (eVar 6)) (aNil))))))))) (sRet (eC (.bl false)))
  (sSkip))
  (sSeq (sAsg (eCall m_many_bars (aCons (eVar 4) (aCons (eVar 5) (aCons (eVar 2) (aNil))))) (gName 7))
  (sSeq (sIf (tOr (tNot (tE (eCall m__law_whole (aCons (eVar 7) (aNil))))) (tOr (tE (e2 oNe (eVar 7) (e1 oLen (e1 (oFld 6 0) (eVar 6))))) (tNot (tE (eCall m__law_says (aCons (eMeth 6 m_Bars_shows (eVar 6) (aCons (eVar 0) (aCons (eVar 1) (aCons (eVar 2) (aNil))))) (aCons (eC (.bl true)) (aNil)))))))) (sRet (eC (.bl false)))
  (sSkip))
  (sSeq (sFor (iSeq (eVar 3)) (gTup 3 (gCons (gName 8) (gCons (gName 9) (gCons (gName 10) (gNil)))))
  (sSeq (sAsg (eCall m__law_are_bars (aCons (eVar 8) (aCons (eVar 9) (aCons (eVar 10) (aCons (e1 (oFld 6 0) (eVar 6)) (aCons (e1 (oFld 6 1) (eVar 6)) (aNil))))))) (gName 11))
  (sIf (tNot (tE (eCall m__law_says (aCons (eMeth 6 m_Bars_shows (eVar 6) (aCons (eVar 8) (aCons (eVar 9) (aCons (eVar 10) (aNil))))) (aCons (eVar 11) (aNil)))))) (sRet (eC (.bl false)))
  (sSkip))))
  (sSeq (sAppK (e1 (oFld 6 0) (eVar 6)) (eC (.int 8)))
  (sRet (e2 oIs (eMeth 6 m_Bars_shows (eVar 6) (aCons (eVar 0) (aCons (eVar 1) (aCons (eVar 2) (aNil))))) (eC (.bl false))))))))))))
def m__law_right : F := fnOf 4 12 b__law_right
def b__law_spoilt_right : S :=
  sSeq (sPar3 0 1 2 (eD (lDisp (aCons (eTup (aCons (eD (lDisp (aCons (eC (.int 0)) (aCons (eC (.int 1)) (aNil))))) (aCons (eD (lDisp (aCons (eC (.int 2)) (aCons (eC (.int 3)) (aNil))))) (aNil)))) (aCons (eTup (aCons (eD (lDisp (aCons (eC (.int 2)) (aCons (eC (.int 3)) (aNil))))) (aCons (eD (lDisp (aNil))) (aNil)))) (aNil))))) (eD (lDisp (aCons (eC (.int 0)) (aCons (eC (.int 1)) (aNil))))) (eK (lDisp (aNil))))
  (sSeq (sAsg (eCall m_bars (aCons (eVar 0) (aCons (eVar 1) (aCons (eC (.int 1)) (aNil))))) (gName 3))
  (sSeq (sRevK (e1 (oFld 6 1) (eVar 3)))
  (sSeq (sIf (tE (e2 oIsn (eMeth 6 m_Bars_shows (eVar 3) (aCons (eVar 0) (aCons (eVar 1) (aCons (eC (.int 1)) (aNil))))) (eC (.bl true)))) (sRet (eC (.bl false)))
  (sSkip))
  (sSeq (sAsg (e2 oIx (e1 (oFld 6 1) (eVar 3)) (eC (.int 0))) (gName 4))
  (sSeq (sAsg (e2 oIx (eVar 4) (eC (.int 0))) (gName 5))
  (sSeq (sFor (iSeq (eTup (aCons (eC (.int 7)) (aCons (eVar 5) (aNil))))) (gName 6)
  (sSeq (sSub (eVar 4) (eC (.int 0)) (eVar 6))
  (sAppK (eVar 2) (eMeth 6 m_Bars_shows (eVar 3) (aCons (eVar 0) (aCons (eVar 1) (aCons (eC (.int 1)) (aNil))))))))
  (sSeq (sAppK (eVar 4) (eC (.int 5)))
  (sSeq (sAppK (eVar 2) (eMeth 6 m_Bars_shows (eVar 3) (aCons (eVar 0) (aCons (eVar 1) (aCons (eC (.int 1)) (aNil))))))
  (sSeq (sPopK (eVar 4))
  (sSeq (sAppK (eVar 2) (eMeth 6 m_Bars_shows (eVar 3) (aCons (eVar 0) (aCons (eVar 1) (aCons (eC (.int 1)) (aNil))))))
  (sSeq (sAsg (ePopK (e1 (oFld 6 1) (eVar 3))) (gName 7))
  (sSeq (sAppK (eVar 2) (eMeth 6 m_Bars_shows (eVar 3) (aCons (eVar 0) (aCons (eVar 1) (aCons (eC (.int 1)) (aNil))))))
  (sSeq (sAppK (e1 (oFld 6 1) (eVar 3)) (eVar 7))
  (sSeq (sAppK (eVar 2) (eMeth 6 m_Bars_shows (eVar 3) (aCons (eVar 0) (aCons (eVar 1) (aCons (eC (.int 1)) (aNil))))))
  (sSeq (sFor (iRg1 (eC (.int 2))) (gName 8)
  (sSeq (sRevK (e1 (oFld 6 0) (eVar 3)))
  (sAppK (eVar 2) (eMeth 6 m_Bars_shows (eVar 3) (aCons (eVar 0) (aCons (eVar 1) (aCons (eC (.int 1)) (aNil))))))))
  (sSeq (sClrK (e1 (oFld 6 0) (eVar 3)))
  (sSeq (sClrK (e2 oIx (e1 (oFld 6 1) (eVar 3)) (eC (.int 0))))
  (sSeq (sAsg (eCall m_bars (aCons (eVar 0) (aCons (eVar 1) (aCons (eC (.int 1)) (aNil))))) (gName 9))
  (sRet (eAnd (e2 oEq (eVar 2) (eD (l2 oRep (eD (lDisp (aCons (eC (.bl false)) (aCons (eC (.bl true)) (aNil))))) (eC (.int 4))))) (eAnd (e2 oIs (eMeth 6 m_Bars_shows (eVar 9) (aCons (eVar 0) (aCons (eVar 1) (aCons (eC (.int 1)) (aNil))))) (eC (.bl true))) (e2 oEq (eVar 1) (eD (lDisp (aCons (eC (.int 0)) (aCons (eC (.int 1)) (aNil)))))))))))))))))))))))))))
def m__law_spoilt_right : F := fnOf 0 10 b__law_spoilt_right
def b__law_changed_right : S :=
  sSeq (sPar3 0 1 2 (eK (lDisp (aCons (eTup (aCons (eK (lDisp (aCons (eC (.int 0)) (aNil)))) (aCons (eK (lDisp (aCons (eC (.int 1)) (aNil)))) (aNil)))) (aCons (eTup (aCons (eK (lDisp (aCons (eC (.int 1)) (aNil)))) (aCons (eK (lDisp (aNil))) (aNil)))) (aNil))))) (eK (lDisp (aCons (eC (.int 0)) (aNil)))) (eK (lDisp (aNil))))
  (sSeq (sPar 3 4 (eCall m_bars (aCons (eVar 0) (aCons (eVar 1) (aCons (eC (.int 1)) (aNil))))) (eD (lDisp (aCons (eC (.int 0)) (aNil)))))
  (sSeq (sFor (iSeq (eTup (aCons (eC (.int 2)) (aCons (eC (.int 1)) (aNil))))) (gName 5)
  (sSeq (sSub (e2 oIx (e2 oIx (eVar 0) (eC (.int 0))) (eC (.int 1))) (eC (.int 0)) (eVar 5))
  (sAsg (eK (l2 oCat (eVar 2) (eD (lDisp (aCons (eCall m_many_bars (aCons (eVar 0) (aCons (eVar 1) (aCons (eC (.int 1)) (aNil))))) (aCons (eMeth 6 m_Bars_shows (eVar 3) (aCons (eVar 0) (aCons (eVar 1) (aCons (eC (.int 1)) (aNil))))) (aNil))))))) (gName 2))))
  (sSeq (sAppK (eVar 2) (eCall m_many_bars (aCons (eD (lDisp (aCons (eTup (aCons (eVar 4) (aCons (eVar 4) (aNil)))) (aNil)))) (aCons (eVar 4) (aCons (eC (.int 0)) (aNil))))))
  (sSeq (sFor (iSeq (eTup (aCons (eC (.int 4)) (aCons (eC (.int 0)) (aNil))))) (gName 5)
  (sSeq (sSub (e2 oIx (e2 oIx (eVar 0) (eC (.int 0))) (eC (.int 0))) (eC (.int 0)) (eVar 5))
  (sAsg (eK (l2 oCat (eVar 2) (eD (lDisp (aCons (eCall m_many_bars (aCons (eVar 0) (aCons (eVar 1) (aCons (eC (.int 1)) (aNil))))) (aCons (eMeth 6 m_Bars_shows (eVar 3) (aCons (eVar 0) (aCons (eVar 1) (aCons (eC (.int 1)) (aNil))))) (aNil))))))) (gName 2))))
  (sSeq (sFor (iSeq (eTup (aCons (eC (.int 3)) (aCons (eC (.int 0)) (aNil))))) (gName 5)
  (sSeq (sSub (eVar 1) (eC (.int 0)) (eVar 5))
  (sAsg (eK (l2 oCat (eVar 2) (eD (lDisp (aCons (eCall m_many_bars (aCons (eVar 0) (aCons (eVar 1) (aCons (eC (.int 1)) (aNil))))) (aCons (eMeth 6 m_Bars_shows (eVar 3) (aCons (eVar 0) (aCons (eVar 1) (aCons (eC (.int 1)) (aNil))))) (aNil))))))) (gName 2))))
  (sRet (eAnd (e2 oEq (eVar 2) (eD (lDisp (aCons (eC (.int 0)) (aCons (eC (.bl false)) (aCons (eC (.int 1)) (aCons (eC (.bl true)) (aCons (eC (.int 1)) (aCons (eC (.int 0)) (aCons (eC (.bl false)) (aCons (eC (.int 1)) (aCons (eC (.bl true)) (aCons (eC (.int 0)) (aCons (eC (.bl false)) (aCons (eC (.int 1)) (aCons (eC (.bl true)) (aNil))))))))))))))))) (e2 oEq (eVar 4) (eD (lDisp (aCons (eC (.int 0)) (aNil))))))))))))
def m__law_changed_right : F := fnOf 0 6 b__law_changed_right
def b__law_many_right_0 : S :=
  sOutL (sAsg (eTup (aCons (eD (lDisp (aCons (eTup (aCons (eD (lDisp (aCons (eC (.int 0)) (aNil)))) (aCons (eD (lDisp (aCons (eC (.int 3)) (aCons (eC (.int 4)) (aNil))))) (aNil)))) (aCons (eTup (aCons (eD (lDisp (aCons (eC (.int 1)) (aNil)))) (aCons (eD (lDisp (aCons (eC (.int 3)) (aNil)))) (aNil)))) (aCons (eTup (aCons (eD (lDisp (aCons (eC (.int 3)) (aNil)))) (aCons (eD (lDisp (aCons (eC (.int 6)) (aNil)))) (aNil)))) (aCons (eTup (aCons (eD (lDisp (aCons (eC (.int 4)) (aNil)))) (aCons (eD (lDisp (aCons (eC (.int 7)) (aNil)))) (aNil)))) (aCons (eTup (aCons (eD (lDisp (aCons (eC (.int 6)) (aCons (eC (.int 7)) (aNil))))) (aCons (eD (lDisp (aNil))) (aNil)))) (aNil)))))))) (aCons (eD (lDisp (aCons (eC (.int 0)) (aCons (eC (.int 1)) (aNil))))) (aNil)))) (gTup 2 (gCons (gName 0) (gCons (gName 1) (gNil)))))
def b__law_many_right_1 : S :=
  sOutL (sAsg (eD (lDisp (aCons (eD (lDisp (aCons (eC (.int 0)) (aCons (eC (.int 4)) (aCons (eC (.int 7)) (aNil)))))) (aCons (eD (lDisp (aCons (eC (.int 1)) (aCons (eC (.int 3)) (aCons (eC (.int 6)) (aNil)))))) (aNil))))) (gName 2))
def b__law_many_right_2 : S :=
  sOutL (sIf (tOr (tE (e2 oNe (eNowL (eCall m_many_bars (aCons (eVar 0) (aCons (eVar 1) (aCons (eC (.int 4)) (aNil)))))) (eC (.int 2)))) (tE (e2 oNe (eNowL (eD (l1 oSortR (e1 (oFld 6 1) (eNowL (eCall m_bars (aCons (eVar 0) (aCons (eVar 1) (aCons (eC (.int 4)) (aNil)))))))))) (eVar 2)))) (sOutL (sRet (eC (.bl false))))
  (sSkip))
def b__law_many_right_3 : S :=
  sOutL (sAsg (eD (lDisp (aCons (eD (lDisp (aCons (eC (.int 0)) (aCons (eC (.int 1)) (aNil))))) (aCons (eD (lDisp (aCons (eC (.int 0)) (aCons (eC (.int 3)) (aNil))))) (aCons (eD (lDisp (aCons (eC (.int 0)) (aCons (eC (.int 6)) (aNil))))) (aCons (eD (lDisp (aCons (eC (.int 3)) (aCons (eC (.int 4)) (aNil))))) (aCons (eD (lDisp (aCons (eC (.int 3)) (aCons (eC (.int 7)) (aNil))))) (aCons (eD (lDisp (aCons (eC (.int 4)) (aCons (eC (.int 6)) (aNil))))) (aCons (eD (lDisp (aCons (eC (.int 6)) (aCons (eC (.int 7)) (aNil))))) (aCons (eD (lDisp (aCons (eC (.int 1)) (aCons (eC (.int 4)) (aNil))))) (aCons (eD (lDisp (aCons (eC (.int 1)) (aCons (eC (.int 7)) (aNil))))) (aCons (eD (lDisp (aCons (eC (.int 0)) (aCons (eC (.int 4)) (aNil))))) (aNil))))))))))))) (gName 3))
def b__law_many_right_4 : S :=
  sOutL (sIf (tE (e2 oNe (eD (lComp (iSeq (eVar 3)) [4] (gName 4) (tTrue) (eNowL (eMeth 6 m_Bars_shows (eNowL (eNew 6 m_Bars___init__ (aCons (eVar 4) (aCons (eVar 2) (aNil))))) (aCons (eVar 0) (aCons (eVar 1) (aCons (eC (.int 4)) (aNil)))))))) (e2 oAdd (eD (l2 oRep (eD (lDisp (aCons (eC (.bl true)) (aNil)))) (eC (.int 7)))) (eD (l2 oRep (eD (lDisp (aCons (eC (.bl false)) (aNil)))) (eC (.int 3))))))) (sOutL (sRet (eC (.bl false))))
  (sSkip))
def b__law_many_right_5 : S :=
  sOutL (sIf (tE (e2 oNe (eNowL (eCall m_many_bars (aCons (eD (lDisp (aCons (eTup (aCons (eD (lDisp (aCons (eC (.int 0)) (aCons (eC (.int 1)) (aCons (eC (.int 2)) (aNil)))))) (aCons (eD (lDisp (aCons (eC (.int 3)) (aCons (eC (.int 4)) (aCons (eC (.int 5)) (aNil)))))) (aNil)))) (aCons (eTup (aCons (eD (lDisp (aCons (eC (.int 3)) (aCons (eC (.int 4)) (aCons (eC (.int 5)) (aNil)))))) (aCons (eD (lDisp (aNil))) (aNil)))) (aNil))))) (aCons (eD (lDisp (aCons (eC (.int 0)) (aCons (eC (.int 1)) (aCons (eC (.int 2)) (aNil)))))) (aCons (eC (.int 1)) (aNil)))))) (eC (.int 3)))) (sOutL (sRet (eC (.bl false))))
  (sSkip))
def b__law_many_right_6 : S :=
  sOutL (sAsg (eNowL (eCall m_bars (aCons (eD (l2 oRep (eD (lDisp (aCons (eTup (aCons (eD (lDisp (aCons (eC (.int 5)) (aCons (eC (.int 6)) (aCons (eC (.int 7)) (aNil)))))) (aCons (eD (lDisp (aCons (eC (.int 0)) (aCons (eC (.int 1)) (aCons (eC (.int 2)) (aNil)))))) (aNil)))) (aNil)))) (eC (.int 6)))) (aCons (eNowL (eD (l1 oRg1 (eC (.int 8))))) (aCons (eC (.int 0)) (aNil)))))) (gName 5))
def b__law_many_right_7 : S :=
  sOutL (sIf (tOr (tE (e2 oNe (e1 (oFld 6 0) (eVar 5)) (eD (lDisp (aCons (eC (.int 5)) (aCons (eC (.int 6)) (aCons (eC (.int 7)) (aNil)))))))) (tE (e2 oNe (eNowL (eD (l1 oSortR (e1 (oFld 6 1) (eVar 5))))) (eD (lDisp (aCons (eD (lDisp (aCons (eC (.int 5)) (aNil)))) (aCons (eD (lDisp (aCons (eC (.int 6)) (aNil)))) (aCons (eD (lDisp (aCons (eC (.int 7)) (aNil)))) (aNil))))))))) (sOutL (sRet (eC (.bl false))))
  (sSkip))
def b__law_many_right_8 : S :=
  sOutL (sAsg (eTup (aCons (eD (lComp (iRg1 (eC (.int 6))) [8] (gName 8) (tTrue) (eTup (aCons (eD (lDisp (aCons (eVar 8) (aNil)))) (aCons (eD (lDisp (aCons (e2 oAdd (eVar 8) (eC (.int 1))) (aNil)))) (aNil)))))) (aCons (eNowL (eD (l1 oRg1 (eC (.int 6))))) (aNil)))) (gTup 2 (gCons (gName 6) (gCons (gName 7) (gNil)))))
def b__law_many_right_9 : S :=
  sOutL (sIf (tOr (tE (e2 oNe (eNowL (eCall m_many_bars (aCons (eVar 6) (aCons (eD (lDisp (aCons (eC (.int 0)) (aNil)))) (aCons (eC (.int 5)) (aNil)))))) (eC (.int 1)))) (tE (e2 oNe (e1 (oFld 6 1) (eNowL (eCall m_bars (aCons (eVar 6) (aCons (eD (lDisp (aCons (eC (.int 0)) (aNil)))) (aCons (eC (.int 5)) (aNil))))))) (eD (lDisp (aCons (eVar 7) (aNil))))))) (sOutL (sRet (eC (.bl false))))
  (sSkip))
def b__law_many_right_10 : S :=
  sOutL (sRet (eAll (lComp (iSeq (eVar 7)) [9] (gName 9) (tTrue) (eNowL (eMeth 6 m_Bars_shows (eNowL (eNew 6 m_Bars___init__ (aCons (eD (lDisp (aCons (eVar 9) (aNil)))) (aCons (eD (lDisp (aCons (eVar 7) (aNil)))) (aNil))))) (aCons (eVar 6) (aCons (eD (lDisp (aCons (eC (.int 0)) (aNil)))) (aCons (eC (.int 5)) (aNil)))))))))
def b__law_many_right : S :=
  sNowL (sSeq (b__law_many_right_0)
  (sSeq (b__law_many_right_1)
  (sSeq (sKeep (b__law_many_right_2))
  (sSeq (b__law_many_right_3)
  (sSeq (sKeep (b__law_many_right_4))
  (sSeq (sKeep (b__law_many_right_5))
  (sSeq (sKeep (sSeq (b__law_many_right_6) (b__law_many_right_7)))
  (sSeq (b__law_many_right_8)
  (sSeq (sKeep (b__law_many_right_9))
  (b__law_many_right_10))))))))))
def m__law_many_right : F := fnOf 0 10 b__law_many_right
def b_law : S :=
  sSeq (sFor (iRg1 (eC (.int 2))) (gName 1)
  (sSeq (sAsg (eTup (aCons (eCall m__law_house (aCons (eVar 0) (aCons (eVar 1) (aNil)))) (aCons (eCall m__law_boxes (aCons (eVar 0) (aCons (eVar 1) (aCons (eC (.int 6)) (aNil))))) (aNil)))) (gTup 2 (gCons (gName 2) (gCons (gName 3) (gNil)))))
  (sSeq (sPar 4 5 (eCall m__law_house (aCons (eVar 0) (aCons (e2 oAdd (eVar 1) (eC (.int 1))) (aNil)))) (eCall m__law_boxes (aCons (eVar 0) (aCons (e2 oAdd (eVar 1) (eC (.int 2))) (aCons (eC (.int 6)) (aNil))))))
  (sSeq (sFor (iRg1 (e1 oLen (eVar 2))) (gName 6)
  (sSeq (sAsg (eD (lDisp (aCons (eTup (aCons (eVar 2) (aCons (eVar 5) (aCons (eVar 6) (aNil))))) (aCons (eTup (aCons (eVar 2) (aCons (eVar 3) (aCons (eC (.int 0)) (aNil))))) (aCons (eTup (aCons (eVar 4) (aCons (eVar 3) (aCons (e2 oSub (e1 oLen (eVar 4)) (eC (.int 1))) (aNil))))) (aNil)))))) (gName 7))
  (sIf (tNot (tE (eCall m__law_right (aCons (eVar 2) (aCons (eVar 3) (aCons (eVar 6) (aCons (eVar 7) (aNil)))))))) (sRet (eC (.bl false)))
  (sSkip))))
  (sSeq (sAsg (eCall m__law_number (aCons (eCall m__law_cell_at (aCons (eVar 0) (aCons (eVar 1) (aNil)))) (aCons (e2 oAdd (eVar 1) (eC (.int 5))) (aCons (e1 oLen (eVar 2)) (aNil))))) (gName 6))
  (sIf (tE (e2 oNe (eCall m_many_bars (aCons (eVar 2) (aCons (eVar 3) (aCons (eVar 6) (aNil))))) (eCall m__law_fewest (aCons (eVar 2) (aCons (eVar 3) (aCons (eVar 6) (aNil))))))) (sRet (eC (.bl false)))
  (sSkip)))))))
  (sSeq (sAsg (eD (lDisp (aCons (eTup (aCons (eD (lDisp (aCons (eC (.int 0)) (aNil)))) (aCons (eD (lDisp (aCons (eC (.int 2)) (aCons (eC (.int 3)) (aNil))))) (aNil)))) (aCons (eTup (aCons (eD (lDisp (aCons (eC (.int 1)) (aNil)))) (aCons (eD (lDisp (aCons (eC (.int 3)) (aCons (eC (.int 4)) (aNil))))) (aNil)))) (aCons (eTup (aCons (eD (lDisp (aCons (eC (.int 2)) (aCons (eC (.int 3)) (aCons (eC (.int 4)) (aNil)))))) (aCons (eD (lDisp (aNil))) (aNil)))) (aCons (eTup (aCons (eD (lDisp (aNil))) (aCons (eD (lDisp (aCons (eC (.int 0)) (aNil)))) (aNil)))) (aNil))))))) (gName 2))
  (sSeq (sIf (tE (e2 oNe (eD (lComp (iRg1 (eC (.int 4))) [6] (gName 6) (tTrue) (eCall m_many_bars (aCons (eVar 2) (aCons (eD (lDisp (aCons (eC (.int 0)) (aCons (eC (.int 1)) (aNil))))) (aCons (eVar 6) (aNil))))))) (eD (lDisp (aCons (eC (.int 1)) (aCons (eC (.int 1)) (aCons (eC (.int 2)) (aCons (eC (.int 0)) (aNil))))))))) (sRet (eC (.bl false)))
  (sSkip))
  (sSeq (sIf (tOr (tNot (tE (eCallN m__law_spoilt_right aNil))) (tOr (tNot (tE (eCallN m__law_changed_right aNil))) (tNot (tE (eCallN m__law_many_right aNil))))) (sRet (eC (.bl false)))
  (sSkip))
  (sRet (eAnd (e2 oEq (eCall m_many_bars (aCons (eD (lDisp (aCons (eTup (aCons (eD (lDisp (aCons (eC (.int 0)) (aCons (eC (.int 1)) (aCons (eC (.int 2)) (aNil)))))) (aCons (eD (lDisp (aNil))) (aNil)))) (aNil)))) (aCons (eD (lDisp (aCons (eC (.int 0)) (aCons (eC (.int 2)) (aCons (eC (.int 5)) (aNil)))))) (aCons (eC (.int 0)) (aNil))))) (eC (.int 2))) (e2 oEq (e1 (oFld 6 0) (eCall m_bars (aCons (eD (lDisp (aCons (eTup (aCons (eD (lDisp (aCons (eC (.int 0)) (aNil)))) (aCons (eD (lDisp (aNil))) (aNil)))) (aNil)))) (aCons (eD (lDisp (aCons (eC (.int 0)) (aNil)))) (aCons (eC (.int 0)) (aNil)))))) (eD (lDisp (aCons (eC (.int 0)) (aNil))))))))))
def m_law : F := fnOf 1 8 b_law
end Mi

set_option Elab.async false
set_option linter.all false
set_option maxRecDepth 100000
set_option maxHeartbeats 4000000
namespace Mi
open PySem PySem.Spec PyProof.Rows L2
def top (i : Nat) : Stmt := PySem.Challenge.pw_codemail_k11_whole_bars.main.body.getD i (.Pass ⟨0, 0, 0, 0⟩)
abbrev s_is_whole : Stmt := top 6
abbrev s_is_between : Stmt := top 7
abbrev s_are_rising : Stmt := top 13
abbrev s_are_boxes : Stmt := top 12
abbrev s_is_account : Stmt := top 14
abbrev s_check_house : Stmt := top 15
abbrev s_check_boxes : Stmt := top 16
abbrev s_check_wanted : Stmt := top 17
abbrev s_come_to : Stmt := top 18
abbrev s_is_way : Stmt := top 23
abbrev s_Bars___init__ : Stmt := inClass (top 24) 0
abbrev s_Bars_shows : Stmt := inClass (top 24) 1
abbrev s_next_boxes : Stmt := top 26
abbrev s_edges_of : Stmt := top 27
abbrev s_met_from : Stmt := top 28
abbrev s_used_edges : Stmt := top 29
abbrev s_led_on : Stmt := top 30
abbrev s_bars : Stmt := top 31
abbrev s_many_bars : Stmt := top 32
abbrev s__law_cell_at : Stmt := top 34
abbrev s__law_draw : Stmt := top 35
abbrev s__law_number : Stmt := top 36
abbrev s__law_whole : Stmt := top 37
abbrev s__law_says : Stmt := top 38
abbrev s__law_boxes : Stmt := top 39
abbrev s__law_house : Stmt := top 40
abbrev s__law_come : Stmt := top 41
abbrev s__law_are_bars : Stmt := top 42
abbrev s__law_copied : Stmt := top 43
abbrev s__law_fewest : Stmt := top 44
abbrev s__law_right : Stmt := top 45
abbrev s__law_spoilt_right : Stmt := top 46
abbrev s__law_changed_right : Stmt := top 47
abbrev s__law_many_right : Stmt := top 48
abbrev s_law : Stmt := top 49
structure Tx (K : PySem.W.Frag) (w : World) (mg : Str → Option Value) (cls : Nat → Addr) : Prop where
  bt : Bt mg
  a_6_0 : At K cls 6 0 "barred"
  a_6_1 : At K cls 6 1 "ways"
  g_MOST_BOXES : ∃ t, mg "MOST_BOXES" = some (.int 8 t)
  g_MOST_AT_ONCE : ∃ t, mg "MOST_AT_ONCE" = some (.int 3 t)
  g_MOST_ACCOUNTS : ∃ t, mg "MOST_ACCOUNTS" = some (.int 6 t)
  ins : InsT K cls [6]
  isc_4 : IsC K mg cls "Way" [6] 4
  isc_5 : IsC K mg cls "Never" [6] 5
  isc_6 : IsC K mg cls "Bars" [6] 6
  isc_7 : IsC K mg cls "Answer" [6] 7
section
variable {P : Program} {w : World} {K : PySem.W.Frag} {mg : Str → Option Value} {base : Heap} {cls : Nat → Addr}
theorem sc_is_whole : FnScope ["thing"] ["thing"] (defScope s_is_whole) := ⟨rfl, rfl, rfl, by decide +kernel, rfl, by decide +kernel, by decide +kernel⟩
theorem ok_is_whole {fA : Addr} {fd : FuncData} (F0 : L2.Fun K "is_whole" "is_whole" s_is_whole fA fd) (T : Tx K w mg cls)  : FnOk P w K mg base CX0 2 fA fd ["thing"] (spM K cls m_is_whole) := 
  have sc := sc_is_whole
  def_ok F0 sc rfl rfl fun cdv A outer s H E hr hK => ⟨_, sss_1 (ss_ret (se_and (se_isi 0 T.bt T.bt.int (by decide +kernel) (se_v 0)) (se_b1 (se_not (se_isi 1 T.bt T.bt.bool (by decide +kernel) (se_v 0))))))⟩
theorem sc_is_between : FnScope ["thing", "least", "most"] ["thing", "least", "most"] (defScope s_is_between) := ⟨rfl, rfl, rfl, by decide +kernel, rfl, by decide +kernel, by decide +kernel⟩
theorem ok_is_between {fA : Addr} {fd : FuncData} (F0 : L2.Fun K "is_between" "is_between" s_is_between fA fd) (T : Tx K w mg cls) (c_is_whole : C8.Cal P w K mg base 2 "is_whole" (spM K cls m_is_whole) []) : FnOk P w K mg base CX0 3 fA fd ["thing", "least", "most"] (spM K cls m_is_between) := 
  have sc := sc_is_between
  def_ok F0 sc rfl rfl fun cdv A outer s H E hr hK => ⟨_, sss_1 (ss_ret (se_and (se_call c_is_whole hr (sa_c (se_v 0) (sa_n))) (se_b1 (se_ch c_le c_le (se_v 1) (se_v 0) (se_v 2)))))⟩
theorem sc_are_rising : FnScope ["line", "one", "other"] ["line"] (defScope s_are_rising) := ⟨rfl, rfl, rfl, by decide +kernel, rfl, by decide +kernel, by decide +kernel⟩
theorem ok_are_rising {fA : Addr} {fd : FuncData} (F0 : L2.Fun K "are_rising" "are_rising" s_are_rising fA fd) (T : Tx K w mg cls)  : FnOk P w K mg base CX0 2 fA fd ["line"] (spM K cls m_are_rising) := 
  have sc := sc_are_rising
  def_ok F0 sc rfl rfl fun cdv A outer s H E hr hK => ⟨_, sss_1 (ss_ret (se_all T.bt (sl_lc [("one", 1), ("other", 2)] sc.nd (si_zip T.bt (se_v 0) (se_sl (se_v 0) (so_s (se_int)) (so_n))) (by first | decide +kernel | rfl) (by decide) (fun _ _ _ _ _ _ => sg_t (sgs_c (sg_n 1 sc.nd) (sgs_c (sg_n 2 sc.nd) (sgs_n)))) (fun _ _ _ _ _ _ => sts_n) (fun _ _ _ _ _ _ => se_c c_lt (se_v 1) (se_v 2)))))⟩
theorem sc_are_boxes : FnScope ["thing", "most", "box"] ["thing", "most"] (defScope s_are_boxes) := ⟨rfl, rfl, rfl, by decide +kernel, rfl, by decide +kernel, by decide +kernel⟩
theorem ok_are_boxes {fA : Addr} {fd : FuncData} (F0 : L2.Fun K "are_boxes" "are_boxes" s_are_boxes fA fd) (T : Tx K w mg cls) (c_is_between : C8.Cal P w K mg base 3 "is_between" (spM K cls m_is_between) []) (c_are_rising : C8.Cal P w K mg base 2 "are_rising" (spM K cls m_are_rising) []) : FnOk P w K mg base CX0 4 fA fd ["thing", "most"] (spM K cls m_are_boxes) := 
  have sc := sc_are_boxes
  def_ok F0 sc rfl rfl fun cdv A outer s H E hr hK => ⟨_, sss_c (ss_if (st_w (sw_or (st_not (st_e (m := true) (se_isi 3 T.bt T.bt.list (by decide +kernel) (se_v 0)))) (sw_or1 (st_c c_gt (se_len T.bt (se_v 0)) (se_v 1))))) (sss_1 (ss_ret (se_bl)))
    (sss_n))
    (sss_1 (ss_ret (se_and (se_all T.bt (sl_lc [("box", 2)] sc.nd (si_seq (se_v 0)) (by first | decide +kernel | rfl) (by decide) (fun _ _ _ _ _ _ => sg_n 2 sc.nd) (fun _ _ _ _ _ _ => sts_n) (fun _ _ _ _ _ _ => se_call c_is_between hr (sa_c (se_v 2) (sa_c (se_int) (sa_c (se_sub (se_gi T.g_MOST_BOXES) (se_int)) (sa_n))))))) (se_b1 (se_call c_are_rising hr (sa_c (se_v 0) (sa_n)))))))⟩
theorem sc_is_account : FnScope ["thing"] ["thing"] (defScope s_is_account) := ⟨rfl, rfl, rfl, by decide +kernel, rfl, by decide +kernel, by decide +kernel⟩
theorem ok_is_account {fA : Addr} {fd : FuncData} (F0 : L2.Fun K "is_account" "is_account" s_is_account fA fd) (T : Tx K w mg cls) (c_are_boxes : C8.Cal P w K mg base 4 "are_boxes" (spM K cls m_are_boxes) []) : FnOk P w K mg base CX0 5 fA fd ["thing"] (spM K cls m_is_account) := 
  have sc := sc_is_account
  def_ok F0 sc rfl rfl fun cdv A outer s H E hr hK => ⟨_, sss_c (ss_if (st_w (sw_or (st_not (st_e (m := true) (se_isi 4 T.bt T.bt.tuple (by decide +kernel) (se_v 0)))) (sw_or1 (st_c (c_ne hr.units) (se_len T.bt (se_v 0)) (se_int))))) (sss_1 (ss_ret (se_bl)))
    (sss_n))
    (sss_1 (ss_ret (se_and (se_call c_are_boxes hr (sa_c (se_ix (se_v 0) (se_int)) (sa_c (se_gi T.g_MOST_AT_ONCE) (sa_n)))) (se_b1 (se_call c_are_boxes hr (sa_c (se_ix (se_v 0) (se_int)) (sa_c (se_gi T.g_MOST_AT_ONCE) (sa_n))))))))⟩
theorem sc_check_house : FnScope ["house", "account"] ["house"] (defScope s_check_house) := ⟨rfl, rfl, rfl, by decide +kernel, rfl, by decide +kernel, by decide +kernel⟩
theorem ok_check_house {fA : Addr} {fd : FuncData} (F0 : L2.Fun K "check_house" "check_house" s_check_house fA fd) (T : Tx K w mg cls) (c_is_account : C8.Cal P w K mg base 5 "is_account" (spM K cls m_is_account) []) : FnOk P w K mg base CX0 6 fA fd ["house"] (spM K cls m_check_house) := 
  have sc := sc_check_house
  def_ok F0 sc rfl rfl fun cdv A outer s H E hr hK => ⟨_, sss_c (ss_if (st_w (sw_or (st_not (st_e (m := true) (se_isi 3 T.bt T.bt.list (by decide +kernel) (se_v 0)))) (sw_or1 (st_not (st_ch c_le c_le (se_int) (se_len T.bt (se_v 0)) (se_gi T.g_MOST_ACCOUNTS)))))) (sss_1 (ss_raise))
    (sss_n))
    (sss_1 (ss_if (st_not (st_e (m := true) (se_all T.bt (sl_lc [("account", 1)] sc.nd (si_seq (se_v 0)) (by first | decide +kernel | rfl) (by decide) (fun _ _ _ _ _ _ => sg_n 1 sc.nd) (fun _ _ _ _ _ _ => sts_n) (fun _ _ _ _ _ _ => se_call c_is_account hr (sa_c (se_v 1) (sa_n))))))) (sss_1 (ss_raise))
    (sss_n)))⟩
theorem sc_check_boxes : FnScope ["boxes"] ["boxes"] (defScope s_check_boxes) := ⟨rfl, rfl, rfl, by decide +kernel, rfl, by decide +kernel, by decide +kernel⟩
theorem ok_check_boxes {fA : Addr} {fd : FuncData} (F0 : L2.Fun K "check_boxes" "check_boxes" s_check_boxes fA fd) (T : Tx K w mg cls) (c_are_boxes : C8.Cal P w K mg base 4 "are_boxes" (spM K cls m_are_boxes) []) : FnOk P w K mg base CX0 5 fA fd ["boxes"] (spM K cls m_check_boxes) := 
  have sc := sc_check_boxes
  def_ok F0 sc rfl rfl fun cdv A outer s H E hr hK => ⟨_, sss_1 (ss_if (st_not (st_e (m := true) (se_call c_are_boxes hr (sa_c (se_v 0) (sa_c (se_gi T.g_MOST_BOXES) (sa_n)))))) (sss_1 (ss_raise))
    (sss_n))⟩
theorem sc_check_wanted : FnScope ["house", "account"] ["house", "account"] (defScope s_check_wanted) := ⟨rfl, rfl, rfl, by decide +kernel, rfl, by decide +kernel, by decide +kernel⟩
theorem ok_check_wanted {fA : Addr} {fd : FuncData} (F0 : L2.Fun K "check_wanted" "check_wanted" s_check_wanted fA fd) (T : Tx K w mg cls) (c_is_between : C8.Cal P w K mg base 3 "is_between" (spM K cls m_is_between) []) : FnOk P w K mg base CX0 4 fA fd ["house", "account"] (spM K cls m_check_wanted) := 
  have sc := sc_check_wanted
  def_ok F0 sc rfl rfl fun cdv A outer s H E hr hK => ⟨_, sss_1 (ss_if (st_not (st_e (m := true) (se_call c_is_between hr (sa_c (se_v 1) (sa_c (se_int) (sa_c (se_sub (se_len T.bt (se_v 0)) (se_int)) (sa_n))))))) (sss_1 (ss_raise))
    (sss_n))⟩
theorem sc_come_to : FnScope ["house", "boxes", "barred", "found", "way", "box", "more", "account", "sent", "opened"] ["house", "boxes", "barred"] (defScope s_come_to) := ⟨rfl, rfl, rfl, by decide +kernel, rfl, by decide +kernel, by decide +kernel⟩
theorem ok_come_to {fA : Addr} {fd : FuncData} (F0 : L2.Fun K "come_to" "come_to" s_come_to fA fd) (T : Tx K w mg cls)  : FnOk P w K mg base CX0 2 fA fd ["house", "boxes", "barred"] (spM K cls m_come_to) := 
  have sc := sc_come_to
  def_ok F0 sc rfl rfl fun cdv A outer s H E hr hK => ⟨_, sss_c (ss_parvo_t 3 4 sc.nd (se_d (sl_lc [("box", 5)] sc.nd (si_seq (se_v 1)) (by first | decide +kernel | rfl) (by decide) (fun _ _ _ _ _ _ => sg_n 5 sc.nd) (fun _ _ _ _ _ _ => sts_c (st_c (c_nin (hu65 hr)) (se_v 5) (se_v 2))) (fun _ _ _ _ _ _ => se_v 5))) (sl_disp (sa_n)))
    (sss_c (ss_set 6 sc.nd (se_bl))
    (sss_c (ss_while 20 (st_e (m := true) (se_v 6))
    (sss_c (ss_set 6 sc.nd (se_bl))
    (sss_1 (ss_for (si_enum T.bt (se_v 0)) (sg_t (sgs_c (sg_n 7 sc.nd) (sgs_c (sg_t (sgs_c (sg_n 8 sc.nd) (sgs_c (sg_n 9 sc.nd) (sgs_n)))) (sgs_n))))
    (sss_1 (ss_if (st_w (sw_and (st_c (c_nin (hu65 hr)) (se_v 7) (se_o 4)) (sw_and1 (st_e (m := true) (se_any T.bt (sl_lc [("box", 5)] sc.nd (si_seq (se_v 8)) (by first | decide +kernel | rfl) (by decide) (fun _ _ _ _ _ _ => sg_n 5 sc.nd) (fun _ _ _ _ _ _ => sts_n) (fun _ _ _ _ _ _ => se_c (c_in (hu65 hr)) (se_v 5) (se_v 3)))))))) (sss_c (ss_app 4 (se_v 7))
    (sss_c (ss_set 3 sc.nd (se_add (se_v 3) (se_d (sl_lc [("box", 5)] sc.nd (si_seq (se_v 9)) (by first | decide +kernel | rfl) (by decide) (fun _ _ _ _ _ _ => sg_n 5 sc.nd) (fun _ _ _ _ _ _ => sts_c (st_w (sw_and (st_c (c_nin (hu65 hr)) (se_v 5) (se_v 3)) (sw_and1 (st_c (c_nin (hu65 hr)) (se_v 5) (se_v 2)))))) (fun _ _ _ _ _ _ => se_v 5)))))
    (sss_1 (ss_set 6 sc.nd (se_bl)))))
    (sss_n)))))))
    (sss_1 (ss_retT (sa_c (se_d (sl_sorted T.bt (se_v 3))) (sa_c (se_o 4) (sa_n)))))))⟩
theorem sc_is_way : FnScope ["house", "boxes", "account", "way", "one", "other", "sent", "opened"] ["house", "boxes", "account", "way"] (defScope s_is_way) := ⟨rfl, rfl, rfl, by decide +kernel, rfl, by decide +kernel, by decide +kernel⟩
theorem ok_is_way {fA : Addr} {fd : FuncData} (F0 : L2.Fun K "is_way" "is_way" s_is_way fA fd) (T : Tx K w mg cls)  : FnOk P w K mg base CX0 2 fA fd ["house", "boxes", "account", "way"] (spM K cls m_is_way) := 
  have sc := sc_is_way
  def_ok F0 sc rfl rfl fun cdv A outer s H E hr hK => ⟨_, sss_c (ss_if (st_w (sw_or (st_c (c_eq hr.units) (se_v 3) (se_d (sl_disp (sa_n)))) (sw_or (st_c (c_nin (hu65 hr)) (se_ix (se_v 3) (se_int)) (se_v 1)) (sw_or1 (st_c (c_nin (hu65 hr)) (se_ix (se_v 3) (se_neg (se_int))) (se_ix (se_ix (se_v 0) (se_v 2)) (se_int))))))) (sss_1 (ss_ret (se_bl)))
    (sss_n))
    (sss_c (ss_for (si_zip T.bt (se_v 3) (se_sl (se_v 3) (so_s (se_int)) (so_n))) (sg_t (sgs_c (sg_n 4 sc.nd) (sgs_c (sg_n 5 sc.nd) (sgs_n))))
    (sss_1 (ss_if (st_not (st_e (m := true) (se_any T.bt (sl_lc [("sent", 6), ("opened", 7)] sc.nd (si_seq (se_v 0)) (by first | decide +kernel | rfl) (by decide) (fun _ _ _ _ _ _ => sg_t (sgs_c (sg_n 6 sc.nd) (sgs_c (sg_n 7 sc.nd) (sgs_n)))) (fun _ _ _ _ _ _ => sts_n) (fun _ _ _ _ _ _ => se_and (se_c (c_in (hu65 hr)) (se_v 4) (se_v 6)) (se_b1 (se_c (c_in (hu65 hr)) (se_v 5) (se_v 7)))))))) (sss_1 (ss_ret (se_bl)))
    (sss_n))))
    (sss_1 (ss_ret (se_bl))))⟩
theorem sc_Bars___init__ : FnScope ["self", "barred", "ways", "way"] ["self", "barred", "ways"] (defScope s_Bars___init__) := ⟨rfl, rfl, rfl, by decide +kernel, rfl, by decide +kernel, by decide +kernel⟩
theorem ok_Bars___init__ {fA : Addr} {fd : FuncData} (F0 : L2.Fun K "__init__" "Bars.__init__" s_Bars___init__ fA fd) (T : Tx K w mg cls)  : FnOk P w K mg base CX0 2 fA fd ["self", "barred", "ways"] (spM K cls m_Bars___init__) := 
  have sc := sc_Bars___init__
  def_ok F0 sc rfl rfl fun cdv A outer s H E hr hK => ⟨_, sss_c (ss_fld T.a_6_0 (se_v 0) (se_k (sl_list T.bt (se_v 1))))
    (sss_1 (ss_fld T.a_6_1 (se_v 0) (se_k (sl_lc [("way", 3)] sc.nd (si_seq (se_v 2)) (by first | decide +kernel | rfl) (by decide) (fun _ _ _ _ _ _ => sg_n 3 sc.nd) (fun _ _ _ _ _ _ => sts_n) (fun _ _ _ _ _ _ => se_k (sl_list T.bt (se_v 3)))))))⟩
theorem sc_Bars_shows : FnScope ["self", "house", "boxes", "account", "met", "way"] ["self", "house", "boxes", "account"] (defScope s_Bars_shows) := ⟨rfl, rfl, rfl, by decide +kernel, rfl, by decide +kernel, by decide +kernel⟩
theorem ok_Bars_shows {fA : Addr} {fd : FuncData} (F0 : L2.Fun K "shows" "Bars.shows" s_Bars_shows fA fd) (T : Tx K w mg cls) (c_is_way : C8.Cal P w K mg base 2 "is_way" (spM K cls m_is_way) []) (c_come_to : C8.Cal P w K mg base 2 "come_to" (spM K cls m_come_to) []) : FnOk P w K mg base CX0 3 fA fd ["self", "house", "boxes", "account"] (spM K cls m_Bars_shows) := 
  have sc := sc_Bars_shows
  def_ok F0 sc rfl rfl fun cdv A outer s H E hr hK => ⟨_, sss_c (ss_set 4 sc.nd (se_d (sl_disp (sa_n))))
    (sss_c (ss_for (si_seq (se_fld T.a_6_1 (se_v 0))) (sg_n 5 sc.nd)
    (sss_c (ss_if (st_not (st_e (m := true) (se_call c_is_way hr (sa_c (se_v 1) (sa_c (se_v 2) (sa_c (se_v 3) (sa_c (se_v 5) (sa_n)))))))) (sss_1 (ss_ret (se_bl)))
    (sss_n))
    (sss_1 (ss_set 4 sc.nd (se_add (se_v 4) (se_v 5))))))
    (sss_c (ss_if (st_c c_lt (se_lenU T.bt (se_v 4)) (se_len T.bt (se_v 4))) (sss_1 (ss_ret (se_bl)))
    (sss_n))
    (sss_c (ss_if (st_w (sw_or (st_c (c_ne hr.units) (se_fld T.a_6_0 (se_v 0)) (se_d (sl_sortU T.bt (se_fld T.a_6_0 (se_v 0))))) (sw_or1 (st_c (c_ne hr.units) (se_len T.bt (se_fld T.a_6_0 (se_v 0))) (se_len T.bt (se_fld T.a_6_1 (se_v 0))))))) (sss_1 (ss_ret (se_bl)))
    (sss_n))
    (sss_1 (ss_ret (se_c (c_nin (hu65 hr)) (se_v 3) (se_ix (se_call c_come_to hr (sa_c (se_v 1) (sa_c (se_v 2) (sa_c (se_fld T.a_6_0 (se_v 0)) (sa_n))))) (se_int))))))))⟩
theorem sc_next_boxes : FnScope ["house", "box", "found", "sent", "opened", "other"] ["house", "box"] (defScope s_next_boxes) := ⟨rfl, rfl, rfl, by decide +kernel, rfl, by decide +kernel, by decide +kernel⟩
theorem ok_next_boxes {fA : Addr} {fd : FuncData} (F0 : L2.Fun K "next_boxes" "next_boxes" s_next_boxes fA fd) (T : Tx K w mg cls)  : FnOk P w K mg base CX0 2 fA fd ["house", "box"] (spM K cls m_next_boxes) := 
  have sc := sc_next_boxes
  def_ok F0 sc rfl rfl fun cdv A outer s H E hr hK => ⟨_, sss_c (ss_own 2 sc.nd (sl_disp (sa_n)))
    (sss_c (ss_for (si_seq (se_v 0)) (sg_t (sgs_c (sg_n 3 sc.nd) (sgs_c (sg_n 4 sc.nd) (sgs_n))))
    (sss_1 (ss_if (st_c (c_in (hu65 hr)) (se_v 1) (se_v 3)) (sss_1 (ss_ext 2 (sl_lc [("other", 5)] sc.nd (si_seq (se_v 4)) (by first | decide +kernel | rfl) (by decide) (fun _ _ _ _ _ _ => sg_n 5 sc.nd) (fun _ _ _ _ _ _ => sts_c (st_w (sw_and (st_c (c_ne hr.units) (se_v 5) (se_v 1)) (sw_and1 (st_c (c_nin (hu65 hr)) (se_v 5) (se_o 2)))))) (fun _ _ _ _ _ _ => se_v 5))))
    (sss_n))))
    (sss_1 (ss_ret (se_o 2))))⟩
theorem sc_edges_of : FnScope ["house", "boxes", "account", "found", "box", "other"] ["house", "boxes", "account"] (defScope s_edges_of) := ⟨rfl, rfl, rfl, by decide +kernel, rfl, by decide +kernel, by decide +kernel⟩
theorem ok_edges_of {fA : Addr} {fd : FuncData} (F0 : L2.Fun K "edges_of" "edges_of" s_edges_of fA fd) (T : Tx K w mg cls) (c_next_boxes : C8.Cal P w K mg base 2 "next_boxes" (spM K cls m_next_boxes) []) : FnOk P w K mg base CX0 3 fA fd ["house", "boxes", "account"] (spM K cls m_edges_of) := 
  have sc := sc_edges_of
  def_ok F0 sc rfl rfl fun cdv A outer s H E hr hK => ⟨_, sss_c (ss_set 3 sc.nd (se_disp1T (Nat.lt_of_succ_lt (hu1 hr)) (se_tup (sa_c (se_str) (sa_c (se_int) (sa_n)))) (se_k (sl_lc [("box", 4)] sc.nd (si_seq (se_v 1)) (by first | decide +kernel | rfl) (by decide) (fun _ _ _ _ _ _ => sg_n 4 sc.nd) (fun _ _ _ _ _ _ => sts_n) (fun _ _ _ _ _ _ => se_tup (sa_c (se_str) (sa_c (se_v 4) (sa_n))))))))
    (sss_c (ss_for (si_rg1 T.bt (se_gi T.g_MOST_BOXES)) (sg_n 4 sc.nd)
    (sss_c (ss_tset (se_v 3) (se_tup (sa_c (se_str) (sa_c (se_v 4) (sa_n)))) (se_k (sl_disp (sa_c (se_tup (sa_c (se_str) (sa_c (se_v 4) (sa_n)))) (sa_n)))) (hu1 hr))
    (sss_c (ss_tset (se_v 3) (se_tup (sa_c (se_str) (sa_c (se_v 4) (sa_n)))) (se_k (sl_lc [("other", 5)] sc.nd (si_seq (se_call c_next_boxes hr (sa_c (se_v 0) (sa_c (se_v 4) (sa_n))))) (by first | decide +kernel | rfl) (by decide) (fun _ _ _ _ _ _ => sg_n 5 sc.nd) (fun _ _ _ _ _ _ => sts_n) (fun _ _ _ _ _ _ => se_tup (sa_c (se_str) (sa_c (se_v 5) (sa_n)))))) (hu1 hr))
    (sss_1 (ss_if (st_c (c_in (hu65 hr)) (se_v 4) (se_ix (se_ix (se_v 0) (se_v 2)) (se_int))) (sss_1 (ss_appK (se_tget (se_v 3) (se_tup (sa_c (se_str) (sa_c (se_v 4) (sa_n)))) (hu1 hr)) (se_tup (sa_c (se_str) (sa_c (se_int) (sa_n))))))
    (sss_n))))))
    (sss_1 (ss_ret (se_v 3))))⟩
theorem sc_met_from : FnScope ["edges", "used", "begin", "known", "line", "here", "some", "there", "other"] ["edges", "used"] (defScope s_met_from) := ⟨rfl, rfl, rfl, by decide +kernel, rfl, by decide +kernel, by decide +kernel⟩
theorem ok_met_from {fA : Addr} {fd : FuncData} (F0 : L2.Fun K "met_from" "met_from" s_met_from fA fd) (T : Tx K w mg cls)  : FnOk P w K mg base CX0 2 fA fd ["edges", "used"] (spM K cls m_met_from) := 
  have sc := sc_met_from
  def_ok F0 sc rfl rfl fun cdv A outer s H E hr hK => ⟨_, sss_c (ss_set 2 sc.nd (se_tup (sa_c (se_str) (sa_c (se_int) (sa_n)))))
    (sss_c (ss_par 3 4 sc.nd (se_disp1T (Nat.lt_of_succ_lt (hu1 hr)) (se_v 2) (se_v 2)) (se_k (sl_disp (sa_c (se_v 2) (sa_n)))))
    (sss_c (ss_while 40 (st_c (c_ne hr.units) (se_v 4) (se_d (sl_disp (sa_n))))
    (sss_c (ss_set 5 sc.nd (se_pop0 (se_v 4) (se_int)))
    (sss_c (ss_lcV 6 [("there", 7)] sc.nd (si_seq (se_tget2 (se_v 0) (se_v 5) (se_d (sl_disp (sa_n))) (hu1 hr))) (by first | decide +kernel | rfl) (by decide) (fun _ _ _ _ _ _ => sg_n 7 sc.nd) (fun _ _ _ _ _ _ => sts_c (st_w (sw_or (st_c (c_nin (hu65 hr)) (se_tup (sa_c (se_v 5) (sa_c (se_v 7) (sa_n)))) (se_v 1)) (sw_or1 (st_c (c_ne hr.units) (se_ix (se_v 5) (se_int)) (se_str)))))) (fun _ _ _ _ _ _ => se_v 7) (sw_true rfl rfl rfl (by decide +kernel)))
    (sss_c (ss_set 6 sc.nd (se_add (se_v 6) (se_d (sl_lc [("there", 7), ("other", 8)] sc.nd (si_seq (se_v 1)) (by first | decide +kernel | rfl) (by decide) (fun _ _ _ _ _ _ => sg_t (sgs_c (sg_n 7 sc.nd) (sgs_c (sg_n 8 sc.nd) (sgs_n)))) (fun _ _ _ _ _ _ => sts_c (st_c (c_eq hr.units) (se_v 8) (se_v 5))) (fun _ _ _ _ _ _ => se_v 7)))))
    (sss_1 (ss_for (si_seq (se_v 6)) (sg_n 7 sc.nd)
    (sss_1 (ss_if (st_tnin (se_v 7) (se_v 3) (hu1 hr)) (sss_c (ss_tset (se_v 3) (se_v 7) (se_v 5) (hu1 hr))
    (sss_1 (ss_appK (se_v 4) (se_v 7))))
    (sss_n)))))))))
    (sss_1 (ss_ret (se_v 3)))))⟩
theorem sc_used_edges : FnScope ["edges", "used", "end", "known", "here", "before", "pair"] ["edges"] (defScope s_used_edges) := ⟨rfl, rfl, rfl, by decide +kernel, rfl, by decide +kernel, by decide +kernel⟩
theorem ok_used_edges {fA : Addr} {fd : FuncData} (F0 : L2.Fun K "used_edges" "used_edges" s_used_edges fA fd) (T : Tx K w mg cls) (c_met_from : C8.Cal P w K mg base 2 "met_from" (spM K cls m_met_from) []) : FnOk P w K mg base CX0 3 fA fd ["edges"] (spM K cls m_used_edges) := 
  have sc := sc_used_edges
  def_ok F0 sc rfl rfl fun cdv A outer s H E hr hK => ⟨_, sss_c (ss_par 1 2 sc.nd (se_d (sl_disp (sa_n))) (se_tup (sa_c (se_str) (sa_c (se_int) (sa_n)))))
    (sss_c (ss_set 3 sc.nd (se_call c_met_from hr (sa_c (se_v 0) (sa_c (se_v 1) (sa_n)))))
    (sss_c (ss_while 12 (st_tin (se_v 2) (se_v 3) (hu1 hr))
    (sss_c (ss_set 4 sc.nd (se_v 2))
    (sss_c (ss_while 40 (st_c (c_ne hr.units) (se_v 4) (se_tup (sa_c (se_str) (sa_c (se_int) (sa_n)))))
    (sss_c (ss_set 5 sc.nd (se_tget (se_v 3) (se_v 4) (hu1 hr)))
    (sss_c (ss_if (st_c (c_in (hu65 hr)) (se_tup (sa_c (se_v 4) (sa_c (se_v 5) (sa_n)))) (se_v 1)) (sss_1 (ss_lcV 1 [("pair", 6)] sc.nd (si_seq (se_v 1)) (by first | decide +kernel | rfl) (by decide) (fun _ _ _ _ _ _ => sg_n 6 sc.nd) (fun _ _ _ _ _ _ => sts_c (st_c (c_ne hr.units) (se_v 6) (se_tup (sa_c (se_v 4) (sa_c (se_v 5) (sa_n)))))) (fun _ _ _ _ _ _ => se_v 6) (sw_true rfl rfl rfl (by decide +kernel))))
    (sss_1 (ss_set 1 sc.nd (se_add (se_v 1) (se_d (sl_disp (sa_c (se_tup (sa_c (se_v 5) (sa_c (se_v 4) (sa_n)))) (sa_n))))))))
    (sss_1 (ss_set 4 sc.nd (se_v 5))))))
    (sss_1 (ss_set 3 sc.nd (se_call c_met_from hr (sa_c (se_v 0) (sa_c (se_v 1) (sa_n)))))))))
    (sss_1 (ss_retT (sa_c (se_v 1) (sa_c (se_v 3) (sa_n)))))))⟩
theorem sc_led_on : FnScope ["used", "box", "found", "here", "after", "one", "other"] ["used", "box"] (defScope s_led_on) := ⟨rfl, rfl, rfl, by decide +kernel, rfl, by decide +kernel, by decide +kernel⟩
theorem ok_led_on {fA : Addr} {fd : FuncData} (F0 : L2.Fun K "led_on" "led_on" s_led_on fA fd) (T : Tx K w mg cls)  : FnOk P w K mg base CX0 2 fA fd ["used", "box"] (spM K cls m_led_on) := 
  have sc := sc_led_on
  def_ok F0 sc rfl rfl fun cdv A outer s H E hr hK => ⟨_, sss_c (ss_asg (se_tup (sa_c (se_d (sl_disp (sa_c (se_v 1) (sa_n)))) (sa_c (se_v 1) (sa_n)))) (sg_t (sgs_c (sg_n 2 sc.nd) (sgs_c (sg_n 3 sc.nd) (sgs_n)))))
    (sss_c (ss_while 12 (st_notN (se_v 3))
    (sss_c (ss_lcV 4 [("one", 5), ("other", 6)] sc.nd (si_seq (se_v 0)) (by first | decide +kernel | rfl) (by decide) (fun _ _ _ _ _ _ => sg_t (sgs_c (sg_n 5 sc.nd) (sgs_c (sg_n 6 sc.nd) (sgs_n)))) (fun _ _ _ _ _ _ => sts_c (st_w (sw_and (st_c (c_eq hr.units) (se_v 5) (se_tup (sa_c (se_str) (sa_c (se_v 3) (sa_n))))) (sw_and1 (st_c (c_eq hr.units) (se_ix (se_v 6) (se_int)) (se_str)))))) (fun _ _ _ _ _ _ => se_ix (se_v 6) (se_int)) (sw_true rfl rfl rfl (by decide +kernel)))
    (sss_c (ss_set 3 sc.nd (se_if (st_c (c_ne hr.units) (se_v 4) (se_d (sl_disp (sa_n)))) (se_ix (se_v 4) (se_int)) (se_non)))
    (sss_1 (ss_set 2 sc.nd (se_add (se_v 2) (se_v 4)))))))
    (sss_1 (ss_ret (se_v 2))))⟩
theorem sc_bars : FnScope ["house", "boxes", "account", "used", "known", "barred", "box", "firsts", "one", "other"] ["house", "boxes", "account"] (defScope s_bars) := ⟨rfl, rfl, rfl, by decide +kernel, rfl, by decide +kernel, by decide +kernel⟩
theorem ok_bars {fA : Addr} {fd : FuncData} (F0 : L2.Fun K "bars" "bars" s_bars fA fd) (T : Tx K w mg cls) (c_check_house : C8.Cal P w K mg base 6 "check_house" (spM K cls m_check_house) []) (c_check_boxes : C8.Cal P w K mg base 5 "check_boxes" (spM K cls m_check_boxes) []) (c_check_wanted : C8.Cal P w K mg base 4 "check_wanted" (spM K cls m_check_wanted) []) (c_used_edges : C8.Cal P w K mg base 3 "used_edges" (spM K cls m_used_edges) []) (c_edges_of : C8.Cal P w K mg base 3 "edges_of" (spM K cls m_edges_of) []) (k_Bars : C8.Mak P w K mg base 2 "Bars" (cls 6) (spM K cls m_Bars___init__) []) (c_led_on : C8.Cal P w K mg base 2 "led_on" (spM K cls m_led_on) []) : FnOk P w K mg base CX0 7 fA fd ["house", "boxes", "account"] (spM K cls m_bars) := 
  have sc := sc_bars
  def_ok F0 sc rfl rfl fun cdv A outer s H E hr hK => ⟨_, sss_c (ss_drop (se_call c_check_house hr (sa_c (se_v 0) (sa_n))))
    (sss_c (ss_drop (se_call c_check_boxes hr (sa_c (se_v 1) (sa_n))))
    (sss_c (ss_drop (se_call c_check_wanted hr (sa_c (se_v 0) (sa_c (se_v 2) (sa_n)))))
    (sss_c (ss_asg (se_call c_used_edges hr (sa_c (se_call c_edges_of hr (sa_c (se_v 0) (sa_c (se_v 1) (sa_c (se_v 2) (sa_n))))) (sa_n))) (sg_t (sgs_c (sg_n 3 sc.nd) (sgs_c (sg_n 4 sc.nd) (sgs_n)))))
    (sss_c (ss_lcV 5 [("box", 6)] sc.nd (si_rg1 T.bt (se_gi T.g_MOST_BOXES)) (by first | decide +kernel | rfl) (by decide) (fun _ _ _ _ _ _ => sg_n 6 sc.nd) (fun _ _ _ _ _ _ => sts_c (st_w (sw_and (st_tin (se_tup (sa_c (se_str) (sa_c (se_v 6) (sa_n)))) (se_v 4) (hu1 hr)) (sw_and1 (st_tnin (se_tup (sa_c (se_str) (sa_c (se_v 6) (sa_n)))) (se_v 4) (hu1 hr)))))) (fun _ _ _ _ _ _ => se_v 6) (sw_true rfl rfl rfl (by decide +kernel)))
    (sss_c (ss_set 7 sc.nd (se_d (sl_sorted T.bt (se_d (sl_lc [("one", 8), ("other", 9)] sc.nd (si_seq (se_v 3)) (by first | decide +kernel | rfl) (by decide) (fun _ _ _ _ _ _ => sg_t (sgs_c (sg_n 8 sc.nd) (sgs_c (sg_n 9 sc.nd) (sgs_n)))) (fun _ _ _ _ _ _ => sts_c (st_c (c_eq hr.units) (se_v 8) (se_tup (sa_c (se_str) (sa_c (se_int) (sa_n)))))) (fun _ _ _ _ _ _ => se_ix (se_v 9) (se_int)))))))
    (sss_1 (ss_ret (se_new k_Bars hr (sa_c (se_v 5) (sa_c (se_d (sl_lc [("box", 6)] sc.nd (si_seq (se_v 7)) (by first | decide +kernel | rfl) (by decide) (fun _ _ _ _ _ _ => sg_n 6 sc.nd) (fun _ _ _ _ _ _ => sts_n) (fun _ _ _ _ _ _ => se_call c_led_on hr (sa_c (se_v 3) (sa_c (se_v 6) (sa_n)))))) (sa_n)))))))))))⟩
theorem sc_many_bars : FnScope ["house", "boxes", "account"] ["house", "boxes", "account"] (defScope s_many_bars) := ⟨rfl, rfl, rfl, by decide +kernel, rfl, by decide +kernel, by decide +kernel⟩
theorem ok_many_bars {fA : Addr} {fd : FuncData} (F0 : L2.Fun K "many_bars" "many_bars" s_many_bars fA fd) (T : Tx K w mg cls) (c_bars : C8.Cal P w K mg base 7 "bars" (spM K cls m_bars) []) : FnOk P w K mg base CX0 8 fA fd ["house", "boxes", "account"] (spM K cls m_many_bars) := 
  have sc := sc_many_bars
  def_ok F0 sc rfl rfl fun cdv A outer s H E hr hK => ⟨_, sss_1 (ss_ret (se_len T.bt (se_fld T.a_6_0 (se_call c_bars hr (sa_c (se_v 0) (sa_c (se_v 1) (sa_c (se_v 2) (sa_n))))))))⟩
theorem sc__law_cell_at : FnScope ["_law_script", "_law_k"] ["_law_script", "_law_k"] (defScope s__law_cell_at) := ⟨rfl, rfl, rfl, by decide +kernel, rfl, by decide +kernel, by decide +kernel⟩
theorem ok__law_cell_at {fA : Addr} {fd : FuncData} (F0 : L2.Fun K "_law_cell_at" "_law_cell_at" s__law_cell_at fA fd) (T : Tx K w mg cls)  : FnOk P w K mg base CX0 2 fA fd ["_law_script", "_law_k"] (spM K cls m__law_cell_at) := 
  have sc := sc__law_cell_at
  def_ok F0 sc rfl rfl fun cdv A outer s H E hr hK => ⟨_, sss_c (ss_if (st_c c_lt (se_v 1) (se_len T.bt (se_v 0))) (sss_1 (ss_ret (se_ix (se_v 0) (se_v 1))))
    (sss_n))
    (sss_1 (ss_ret (se_int)))⟩
theorem sc__law_draw : FnScope ["_law_cell", "_law_k", "_law_most", "_law_primes"] ["_law_cell", "_law_k", "_law_most"] (defScope s__law_draw) := ⟨rfl, rfl, rfl, by decide +kernel, rfl, by decide +kernel, by decide +kernel⟩
theorem ok__law_draw {fA : Addr} {fd : FuncData} (F0 : L2.Fun K "_law_draw" "_law_draw" s__law_draw fA fd) (T : Tx K w mg cls)  : FnOk P w K mg base CX0 2 fA fd ["_law_cell", "_law_k", "_law_most"] (spM K cls m__law_draw) := 
  have sc := sc__law_draw
  def_ok F0 sc rfl rfl fun cdv A outer s H E hr hK => ⟨_, sss_c (ss_set 3 sc.nd (se_tup (sa_c (se_int) (sa_c (se_int) (sa_c (se_int) (sa_c (se_int) (sa_c (se_int) (sa_c (se_int) (sa_c (se_int) (sa_c (se_int) (sa_c (se_int) (sa_c (se_int) (sa_c (se_int) (sa_c (se_int) (sa_c (se_int) (sa_c (se_int) (sa_c (se_int) (sa_c (se_int) (sa_n)))))))))))))))))))
    (sss_1 (ss_ret (se_mod (se_mod (se_add (se_mul (se_v 0) (se_int)) (se_mul (se_v 1) (se_int))) (se_ix (se_v 3) (se_mod (se_v 1) (se_int)))) (se_v 2))))⟩
theorem sc__law_number : FnScope ["_law_cell", "_law_k", "_law_limit", "_law_d"] ["_law_cell", "_law_k", "_law_limit"] (defScope s__law_number) := ⟨rfl, rfl, rfl, by decide +kernel, rfl, by decide +kernel, by decide +kernel⟩
theorem ok__law_number {fA : Addr} {fd : FuncData} (F0 : L2.Fun K "_law_number" "_law_number" s__law_number fA fd) (T : Tx K w mg cls) (c__law_draw : C8.Cal P w K mg base 2 "_law_draw" (spM K cls m__law_draw) []) : FnOk P w K mg base CX0 3 fA fd ["_law_cell", "_law_k", "_law_limit"] (spM K cls m__law_number) := 
  have sc := sc__law_number
  def_ok F0 sc rfl rfl fun cdv A outer s H E hr hK => ⟨_, sss_c (ss_if (st_c c_ge (se_v 0) (se_pow (se_int) (se_int))) (sss_c (ss_set 3 sc.nd (se_ix (se_tup (sa_c (se_int) (sa_c (se_int) (sa_c (se_int) (sa_c (se_int) (sa_c (se_int) (sa_n))))))) (se_mod (se_v 1) (se_int))))
    (sss_1 (ss_ret (se_div (se_mod (se_sub (se_v 0) (se_pow (se_int) (se_int))) (se_mul (se_v 3) (se_v 2))) (se_v 3)))))
    (sss_n))
    (sss_c (ss_if (st_c c_lt (se_v 0) (se_neg (se_pow (se_int) (se_int)))) (sss_1 (ss_set 0 sc.nd (se_mod (se_v 0) (se_int))))
    (sss_n))
    (sss_1 (ss_ret (se_mod (se_call c__law_draw hr (sa_c (se_mul (se_add (se_v 0) (se_mul (se_int) (se_v 1))) (se_add (se_add (se_v 0) (se_mul (se_int) (se_v 1))) (se_int))) (sa_c (se_add (se_mod (se_v 1) (se_int)) (se_int)) (sa_c (se_int) (sa_n))))) (se_v 2)))))⟩
theorem sc__law_whole : FnScope ["_law_found"] ["_law_found"] (defScope s__law_whole) := ⟨rfl, rfl, rfl, by decide +kernel, rfl, by decide +kernel, by decide +kernel⟩
theorem ok__law_whole {fA : Addr} {fd : FuncData} (F0 : L2.Fun K "_law_whole" "_law_whole" s__law_whole fA fd) (T : Tx K w mg cls)  : FnOk P w K mg base CX0 2 fA fd ["_law_found"] (spM K cls m__law_whole) := 
  have sc := sc__law_whole
  def_ok F0 sc rfl rfl fun cdv A outer s H E hr hK => ⟨_, sss_1 (ss_ret (se_and (se_isi 0 T.bt T.bt.int (by decide +kernel) (se_v 0)) (se_b1 (se_not (se_isi 1 T.bt T.bt.bool (by decide +kernel) (se_v 0))))))⟩
theorem sc__law_says : FnScope ["_law_said", "_law_due"] ["_law_said", "_law_due"] (defScope s__law_says) := ⟨rfl, rfl, rfl, by decide +kernel, rfl, by decide +kernel, by decide +kernel⟩
theorem ok__law_says {fA : Addr} {fd : FuncData} (F0 : L2.Fun K "_law_says" "_law_says" s__law_says fA fd) (T : Tx K w mg cls)  : FnOk P w K mg base CX0 2 fA fd ["_law_said", "_law_due"] (spM K cls m__law_says) := 
  have sc := sc__law_says
  def_ok F0 sc rfl rfl fun cdv A outer s H E hr hK => ⟨_, sss_1 (ss_ret (se_and (se_isi 1 T.bt T.bt.bool (by decide +kernel) (se_v 0)) (se_b1 (se_c (c_eq hr.units) (se_v 0) (se_v 1)))))⟩
theorem sc__law_boxes : FnScope ["_law_script", "_law_by", "_law_most", "_law_cell", "_law_found", "_law_at", "_law_box"] ["_law_script", "_law_by", "_law_most"] (defScope s__law_boxes) := ⟨rfl, rfl, rfl, by decide +kernel, rfl, by decide +kernel, by decide +kernel⟩
theorem ok__law_boxes {fA : Addr} {fd : FuncData} (F0 : L2.Fun K "_law_boxes" "_law_boxes" s__law_boxes fA fd) (T : Tx K w mg cls) (c__law_cell_at : C8.Cal P w K mg base 2 "_law_cell_at" (spM K cls m__law_cell_at) []) (c__law_number : C8.Cal P w K mg base 3 "_law_number" (spM K cls m__law_number) []) : FnOk P w K mg base CX0 4 fA fd ["_law_script", "_law_by", "_law_most"] (spM K cls m__law_boxes) := 
  have sc := sc__law_boxes
  def_ok F0 sc rfl rfl fun cdv A outer s H E hr hK => ⟨_, sss_c (ss_par 3 4 sc.nd (se_call c__law_cell_at hr (sa_c (se_v 0) (sa_c (se_v 1) (sa_n)))) (se_d (sl_disp (sa_n))))
    (sss_c (ss_for (si_rg1 T.bt (se_call c__law_number hr (sa_c (se_v 3) (sa_c (se_add (se_v 1) (se_int)) (sa_c (se_add (se_v 2) (se_int)) (sa_n)))))) (sg_n 5 sc.nd)
    (sss_c (ss_set 6 sc.nd (se_call c__law_number hr (sa_c (se_add (se_call c__law_cell_at hr (sa_c (se_v 0) (sa_c (se_add (se_v 1) (se_v 5)) (sa_n)))) (se_mul (se_int) (se_v 5))) (sa_c (se_add (se_v 5) (se_int)) (sa_c (se_int) (sa_n))))))
    (sss_1 (ss_set 4 sc.nd (se_if (st_c (c_in (hu65 hr)) (se_v 6) (se_v 4)) (se_v 4) (se_add (se_v 4) (se_d (sl_disp (sa_c (se_v 6) (sa_n))))))))))
    (sss_1 (ss_ret (se_d (sl_sorted T.bt (se_v 4))))))⟩
theorem sc__law_house : FnScope ["_law_script", "_law_by", "_law_whole_here", "_law_found", "_law_kind", "_law_at", "_law_cell", "_law_sent", "_law_opened", "_law_turn"] ["_law_script", "_law_by"] (defScope s__law_house) := ⟨rfl, rfl, rfl, by decide +kernel, rfl, by decide +kernel, by decide +kernel⟩
theorem ok__law_house {fA : Addr} {fd : FuncData} (F0 : L2.Fun K "_law_house" "_law_house" s__law_house fA fd) (T : Tx K w mg cls) (c__law_cell_at : C8.Cal P w K mg base 2 "_law_cell_at" (spM K cls m__law_cell_at) []) (c__law_number : C8.Cal P w K mg base 3 "_law_number" (spM K cls m__law_number) []) : FnOk P w K mg base CX0 4 fA fd ["_law_script", "_law_by"] (spM K cls m__law_house) := 
  have sc := sc__law_house
  def_ok F0 sc rfl rfl fun cdv A outer s H E hr hK => ⟨_, sss_c (ss_parvo 2 3 sc.nd (se_call c__law_cell_at hr (sa_c (se_v 0) (sa_c (se_v 1) (sa_n)))) (sl_disp (sa_n)))
    (sss_c (ss_set 4 sc.nd (se_call c__law_number hr (sa_c (se_v 2) (sa_c (se_v 1) (sa_c (se_int) (sa_n))))))
    (sss_c (ss_for (si_rg1 T.bt (se_add (se_int) (se_call c__law_number hr (sa_c (se_v 2) (sa_c (se_add (se_v 1) (se_int)) (sa_c (se_int) (sa_n))))))) (sg_n 5 sc.nd)
    (sss_c (ss_set 6 sc.nd (se_add (se_call c__law_cell_at hr (sa_c (se_v 0) (sa_c (se_add (se_v 1) (se_mod (se_v 5) (se_int))) (sa_n)))) (se_mul (se_int) (se_v 5))))
    (sss_c (ss_paroo 7 8 sc.nd (sl_disp (sa_n)) (sl_disp (sa_n)))
    (sss_c (ss_for (si_rg1 T.bt (se_call c__law_number hr (sa_c (se_v 6) (sa_c (se_v 5) (sa_c (se_int) (sa_n)))))) (sg_n 9 sc.nd)
    (sss_1 (ss_app 7 (se_if (st_w (sw_or (st_c c_gt (se_v 4) (se_int)) (sw_or1 (st_c c_gt (se_v 9) (se_int))))) (se_call c__law_number hr (sa_c (se_add (se_v 6) (se_v 9)) (sa_c (se_add (se_add (se_v 5) (se_v 9)) (se_int)) (sa_c (se_int) (sa_n))))) (se_v 5)))))
    (sss_c (ss_for (si_rg1 T.bt (se_call c__law_number hr (sa_c (se_v 6) (sa_c (se_add (se_v 5) (se_int)) (sa_c (se_int) (sa_n)))))) (sg_n 9 sc.nd)
    (sss_1 (ss_app 8 (se_if (st_w (sw_or (st_c c_gt (se_v 4) (se_int)) (sw_or1 (st_c c_gt (se_v 9) (se_int))))) (se_call c__law_number hr (sa_c (se_add (se_v 6) (se_v 9)) (sa_c (se_add (se_add (se_v 5) (se_v 9)) (se_int)) (sa_c (se_int) (sa_n))))) (se_mod (se_add (se_v 5) (se_int)) (se_int))))))
    (sss_1 (ss_app 3 (se_tup (sa_c (se_d (sl_sortU T.bt (se_o 7))) (sa_c (se_d (sl_sortU T.bt (se_o 8))) (sa_n)))))))))))
    (sss_1 (ss_ret (se_o 3)))))⟩
theorem sc__law_come : FnScope ["_law_house_here", "_law_boxes_here", "_law_barred", "_law_found", "_law_size", "_law_box", "_law_sent", "_law_opened", "_law_at"] ["_law_house_here", "_law_boxes_here", "_law_barred"] (defScope s__law_come) := ⟨rfl, rfl, rfl, by decide +kernel, rfl, by decide +kernel, by decide +kernel⟩
theorem ok__law_come {fA : Addr} {fd : FuncData} (F0 : L2.Fun K "_law_come" "_law_come" s__law_come fA fd) (T : Tx K w mg cls)  : FnOk P w K mg base CX0 2 fA fd ["_law_house_here", "_law_boxes_here", "_law_barred"] (spM K cls m__law_come) := 
  have sc := sc__law_come
  def_ok F0 sc rfl rfl fun cdv A outer s H E hr hK => ⟨_, sss_c (ss_asg (se_tup (sa_c (se_d (sl_lc [("_law_box", 5)] sc.nd (si_seq (se_v 1)) (by first | decide +kernel | rfl) (by decide) (fun _ _ _ _ _ _ => sg_n 5 sc.nd) (fun _ _ _ _ _ _ => sts_c (st_c (c_nin (hu65 hr)) (se_v 5) (se_v 2))) (fun _ _ _ _ _ _ => se_v 5))) (sa_c (se_neg (se_int)) (sa_n)))) (sg_t (sgs_c (sg_n 3 sc.nd) (sgs_c (sg_n 4 sc.nd) (sgs_n)))))
    (sss_c (ss_while 40 (st_c (c_ne hr.units) (se_len T.bt (se_v 3)) (se_v 4))
    (sss_c (ss_set 4 sc.nd (se_len T.bt (se_v 3)))
    (sss_1 (ss_for (si_seq (se_v 0)) (sg_t (sgs_c (sg_n 6 sc.nd) (sgs_c (sg_n 7 sc.nd) (sgs_n))))
    (sss_1 (ss_if (st_e (m := true) (se_any T.bt (sl_lc [("_law_box", 5)] sc.nd (si_seq (se_v 6)) (by first | decide +kernel | rfl) (by decide) (fun _ _ _ _ _ _ => sg_n 5 sc.nd) (fun _ _ _ _ _ _ => sts_n) (fun _ _ _ _ _ _ => se_c (c_in (hu65 hr)) (se_v 5) (se_v 3))))) (sss_1 (ss_set 3 sc.nd (se_add (se_v 3) (se_d (sl_lc [("_law_box", 5)] sc.nd (si_seq (se_v 7)) (by first | decide +kernel | rfl) (by decide) (fun _ _ _ _ _ _ => sg_n 5 sc.nd) (fun _ _ _ _ _ _ => sts_c (st_w (sw_and (st_c (c_nin (hu65 hr)) (se_v 5) (se_v 3)) (sw_and1 (st_c (c_nin (hu65 hr)) (se_v 5) (se_v 2)))))) (fun _ _ _ _ _ _ => se_v 5))))))
    (sss_n)))))))
    (sss_1 (ss_retT (sa_c (se_v 3) (sa_c (se_d (sl_lc [("_law_at", 8), ("_law_sent", 6), ("_law_opened", 7)] sc.nd (si_enum T.bt (se_v 0)) (by first | decide +kernel | rfl) (by decide) (fun _ _ _ _ _ _ => sg_t (sgs_c (sg_n 8 sc.nd) (sgs_c (sg_t (sgs_c (sg_n 6 sc.nd) (sgs_c (sg_n 7 sc.nd) (sgs_n)))) (sgs_n)))) (fun _ _ _ _ _ _ => sts_c (st_e (m := true) (se_any T.bt (sl_lc [("_law_box", 5)] sc.nd (si_seq (se_v 6)) (by first | decide +kernel | rfl) (by decide) (fun _ _ _ _ _ _ => sg_n 5 sc.nd) (fun _ _ _ _ _ _ => sts_n) (fun _ _ _ _ _ _ => se_c (c_in (hu65 hr)) (se_v 5) (se_v 3)))))) (fun _ _ _ _ _ _ => se_v 8))) (sa_n))))))⟩
theorem sc__law_are_bars : FnScope ["_law_house_here", "_law_boxes_here", "_law_account", "_law_barred", "_law_ways", "_law_row", "_law_one", "_law_seen", "_law_way", "_law_other", "_law_sent", "_law_opened"] ["_law_house_here", "_law_boxes_here", "_law_account", "_law_barred", "_law_ways"] (defScope s__law_are_bars) := ⟨rfl, rfl, rfl, by decide +kernel, rfl, by decide +kernel, by decide +kernel⟩
theorem ok__law_are_bars {fA : Addr} {fd : FuncData} (F0 : L2.Fun K "_law_are_bars" "_law_are_bars" s__law_are_bars fA fd) (T : Tx K w mg cls) (c__law_come : C8.Cal P w K mg base 2 "_law_come" (spM K cls m__law_come) []) : FnOk P w K mg base CX0 3 fA fd ["_law_house_here", "_law_boxes_here", "_law_account", "_law_barred", "_law_ways"] (spM K cls m__law_are_bars) := 
  have sc := sc__law_are_bars
  def_ok F0 sc rfl rfl fun cdv A outer s H E hr hK => ⟨_, sss_c (ss_for (si_seq (se_add (se_d (sl_disp (sa_c (se_v 3) (sa_n)))) (se_v 4))) (sg_n 5 sc.nd)
    (sss_1 (ss_if (st_e (m := true) (se_any T.bt (sl_lc [("_law_one", 6)] sc.nd (si_seq (se_v 5)) (by first | decide +kernel | rfl) (by decide) (fun _ _ _ _ _ _ => sg_n 6 sc.nd) (fun _ _ _ _ _ _ => sts_n) (fun _ _ _ _ _ _ => se_or (se_isi 1 T.bt T.bt.bool (by decide +kernel) (se_v 6)) (se_b1 (se_not (se_isi 0 T.bt T.bt.int (by decide +kernel) (se_v 6)))))))) (sss_1 (ss_ret (se_bl)))
    (sss_n))))
    (sss_c (ss_set 7 sc.nd (se_d (sl_disp (sa_n))))
    (sss_c (ss_for (si_seq (se_v 4)) (sg_n 8 sc.nd)
    (sss_c (ss_set 7 sc.nd (se_add (se_v 7) (se_v 8)))
    (sss_c (ss_if (st_w (sw_or (st_c (c_eq hr.units) (se_v 8) (se_d (sl_disp (sa_n)))) (sw_or (st_c (c_nin (hu65 hr)) (se_ix (se_v 8) (se_int)) (se_v 1)) (sw_or1 (st_c (c_nin (hu65 hr)) (se_ix (se_v 8) (se_neg (se_int))) (se_ix (se_ix (se_v 0) (se_v 2)) (se_int))))))) (sss_1 (ss_ret (se_bl)))
    (sss_n))
    (sss_1 (ss_for (si_zip T.bt (se_v 8) (se_sl (se_v 8) (so_s (se_int)) (so_n))) (sg_t (sgs_c (sg_n 6 sc.nd) (sgs_c (sg_n 9 sc.nd) (sgs_n))))
    (sss_1 (ss_if (st_not (st_e (m := true) (se_any T.bt (sl_lc [("_law_sent", 10), ("_law_opened", 11)] sc.nd (si_seq (se_v 0)) (by first | decide +kernel | rfl) (by decide) (fun _ _ _ _ _ _ => sg_t (sgs_c (sg_n 10 sc.nd) (sgs_c (sg_n 11 sc.nd) (sgs_n)))) (fun _ _ _ _ _ _ => sts_n) (fun _ _ _ _ _ _ => se_and (se_c (c_in (hu65 hr)) (se_v 6) (se_v 10)) (se_b1 (se_c (c_in (hu65 hr)) (se_v 9) (se_v 11)))))))) (sss_1 (ss_ret (se_bl)))
    (sss_n))))))))
    (sss_c (ss_if (st_w (sw_or (st_c (c_ne hr.units) (se_len T.bt (se_v 7)) (se_lenU T.bt (se_v 7))) (sw_or (st_c (c_ne hr.units) (se_v 3) (se_d (sl_sortU T.bt (se_v 3)))) (sw_or1 (st_c (c_ne hr.units) (se_len T.bt (se_v 3)) (se_len T.bt (se_v 4))))))) (sss_1 (ss_ret (se_bl)))
    (sss_n))
    (sss_1 (ss_ret (se_c (c_nin (hu65 hr)) (se_v 2) (se_ix (se_call c__law_come hr (sa_c (se_v 0) (sa_c (se_v 1) (sa_c (se_v 3) (sa_n))))) (se_int))))))))⟩
theorem sc__law_copied : FnScope ["_law_house_here", "_law_sent", "_law_opened"] ["_law_house_here"] (defScope s__law_copied) := ⟨rfl, rfl, rfl, by decide +kernel, rfl, by decide +kernel, by decide +kernel⟩
theorem ok__law_copied {fA : Addr} {fd : FuncData} (F0 : L2.Fun K "_law_copied" "_law_copied" s__law_copied fA fd) (T : Tx K w mg cls)  : FnOk P w K mg base CX0 2 fA fd ["_law_house_here"] (spM K cls m__law_copied) := 
  have sc := sc__law_copied
  def_ok F0 sc rfl rfl fun cdv A outer s H E hr hK => ⟨_, sss_1 (ss_ret (se_d (sl_lc [("_law_sent", 1), ("_law_opened", 2)] sc.nd (si_seq (se_v 0)) (by first | decide +kernel | rfl) (by decide) (fun _ _ _ _ _ _ => sg_t (sgs_c (sg_n 1 sc.nd) (sgs_c (sg_n 2 sc.nd) (sgs_n)))) (fun _ _ _ _ _ _ => sts_n) (fun _ _ _ _ _ _ => se_tup (sa_c (se_d (sl_list T.bt (se_v 1))) (sa_c (se_d (sl_list T.bt (se_v 2))) (sa_n)))))))⟩
theorem sc__law_fewest : FnScope ["_law_house_here", "_law_boxes_here", "_law_account", "_law_found", "_law_mark", "_law_some", "_law_box"] ["_law_house_here", "_law_boxes_here", "_law_account"] (defScope s__law_fewest) := ⟨rfl, rfl, rfl, by decide +kernel, rfl, by decide +kernel, by decide +kernel⟩
theorem ok__law_fewest {fA : Addr} {fd : FuncData} (F0 : L2.Fun K "_law_fewest" "_law_fewest" s__law_fewest fA fd) (T : Tx K w mg cls) (c__law_come : C8.Cal P w K mg base 2 "_law_come" (spM K cls m__law_come) []) : FnOk P w K mg base CX0 3 fA fd ["_law_house_here", "_law_boxes_here", "_law_account"] (spM K cls m__law_fewest) := 
  have sc := sc__law_fewest
  def_ok F0 sc rfl rfl fun cdv A outer s H E hr hK => ⟨_, sss_c (ss_set 3 sc.nd (se_int))
    (sss_c (ss_for (si_rg1 T.bt (se_int)) (sg_n 4 sc.nd)
    (sss_c (ss_lcV 5 [("_law_box", 6)] sc.nd (si_rg1 T.bt (se_int)) (by first | decide +kernel | rfl) (by decide) (fun _ _ _ _ _ _ => sg_n 6 sc.nd) (fun _ _ _ _ _ _ => sts_c (st_c (c_eq hr.units) (se_band (se_shr (se_v 4) (se_v 6)) (se_int)) (se_int))) (fun _ _ _ _ _ _ => se_v 6) (sw_true rfl rfl rfl (by decide +kernel)))
    (sss_1 (ss_if (st_w (sw_and (st_c c_lt (se_len T.bt (se_v 5)) (se_v 3)) (sw_and1 (st_c (c_nin (hu65 hr)) (se_v 2) (se_ix (se_call c__law_come hr (sa_c (se_v 0) (sa_c (se_v 1) (sa_c (se_v 5) (sa_n))))) (se_int)))))) (sss_1 (ss_set 3 sc.nd (se_len T.bt (se_v 5))))
    (sss_n)))))
    (sss_1 (ss_ret (se_v 3))))⟩
theorem sc__law_right : FnScope ["_law_house_here", "_law_boxes_here", "_law_account", "_law_others", "_law_handed", "_law_mine", "_law_found", "_law_many", "_law_some", "_law_other", "_law_one", "_law_due"] ["_law_house_here", "_law_boxes_here", "_law_account", "_law_others"] (defScope s__law_right) := ⟨rfl, rfl, rfl, by decide +kernel, rfl, by decide +kernel, by decide +kernel⟩
theorem ok__law_right {fA : Addr} {fd : FuncData} (F0 : L2.Fun K "_law_right" "_law_right" s__law_right fA fd) (T : Tx K w mg cls) (c__law_copied : C8.Cal P w K mg base 2 "_law_copied" (spM K cls m__law_copied) []) (c_bars : C8.Cal P w K mg base 7 "bars" (spM K cls m_bars) []) (c__law_are_bars : C8.Cal P w K mg base 3 "_law_are_bars" (spM K cls m__law_are_bars) []) (c_many_bars : C8.Cal P w K mg base 8 "many_bars" (spM K cls m_many_bars) []) (c__law_whole : C8.Cal P w K mg base 2 "_law_whole" (spM K cls m__law_whole) []) (c__law_says : C8.Cal P w K mg base 2 "_law_says" (spM K cls m__law_says) []) (t_Bars_shows : C8.Met P w K mg base 3 (cls 6) "shows" (spM K cls m_Bars_shows) []) : FnOk P w K mg base CX0 9 fA fd ["_law_house_here", "_law_boxes_here", "_law_account", "_law_others"] (spM K cls m__law_right) := 
  have sc := sc__law_right
  def_ok F0 sc rfl rfl fun cdv A outer s H E hr hK => ⟨_, sss_c (ss_par 4 5 sc.nd (se_call c__law_copied hr (sa_c (se_v 0) (sa_n))) (se_d (sl_list T.bt (se_v 1))))
    (sss_c (ss_set 6 sc.nd (se_call c_bars hr (sa_c (se_v 4) (sa_c (se_v 5) (sa_c (se_v 2) (sa_n))))))
    (sss_c (ss_if (st_w (sw_or (st_not (st_e (m := true) (se_isc T.isc_7 T.ins T.bt (se_v 6)))) (sw_or1 (st_c (c_ne hr.units) (se_d (sl_disp (sa_c (se_isc T.isc_6 T.ins T.bt (se_v 6)) (sa_c (se_isc T.isc_4 T.ins T.bt (se_v 6)) (sa_n))))) (se_d (sl_disp (sa_c (se_bl) (sa_c (se_bl) (sa_n))))))))) (sss_1 (ss_ret (se_bl)))
    (sss_n))
    (sss_c (ss_if (st_w (sw_or (st_c (c_ne hr.units) (se_d (sl_disp (sa_c (se_v 4) (sa_c (se_v 5) (sa_n))))) (se_d (sl_disp (sa_c (se_v 0) (sa_c (se_v 1) (sa_n)))))) (sw_or1 (st_e (m := true) (se_isc T.isc_5 T.ins T.bt (se_v 6)))))) (sss_1 (ss_ret (se_bl)))
    (sss_n))
    (sss_c (ss_if (st_not (st_e (m := true) (se_call c__law_are_bars hr (sa_c (se_v 0) (sa_c (se_v 1) (sa_c (se_v 2) (sa_c (se_fld T.a_6_0 (se_v 6)) (sa_c (se_fld T.a_6_1 (se_v 6)) (sa_n))))))))) (sss_1 (ss_ret (se_bl)))
    (sss_n))
    (sss_c (ss_set 7 sc.nd (se_call c_many_bars hr (sa_c (se_v 4) (sa_c (se_v 5) (sa_c (se_v 2) (sa_n))))))
    (sss_c (ss_if (st_w (sw_or (st_not (st_e (m := true) (se_call c__law_whole hr (sa_c (se_v 7) (sa_n))))) (sw_or (st_c (c_ne hr.units) (se_v 7) (se_len T.bt (se_fld T.a_6_0 (se_v 6)))) (sw_or1 (st_not (st_e (m := true) (se_call c__law_says hr (sa_c (se_meth (C := 6) t_Bars_shows hr (se_v 6) (sa_c (se_v 0) (sa_c (se_v 1) (sa_c (se_v 2) (sa_n)))) (by decide)) (sa_c (se_bl) (sa_n)))))))))) (sss_1 (ss_ret (se_bl)))
    (sss_n))
    (sss_c (ss_for (si_seq (se_v 3)) (sg_t (sgs_c (sg_n 8 sc.nd) (sgs_c (sg_n 9 sc.nd) (sgs_c (sg_n 10 sc.nd) (sgs_n)))))
    (sss_c (ss_set 11 sc.nd (se_call c__law_are_bars hr (sa_c (se_v 8) (sa_c (se_v 9) (sa_c (se_v 10) (sa_c (se_fld T.a_6_0 (se_v 6)) (sa_c (se_fld T.a_6_1 (se_v 6)) (sa_n))))))))
    (sss_1 (ss_if (st_not (st_e (m := true) (se_call c__law_says hr (sa_c (se_meth (C := 6) t_Bars_shows hr (se_v 6) (sa_c (se_v 8) (sa_c (se_v 9) (sa_c (se_v 10) (sa_n)))) (by decide)) (sa_c (se_v 11) (sa_n)))))) (sss_1 (ss_ret (se_bl)))
    (sss_n)))))
    (sss_c (ss_appK (se_fld T.a_6_0 (se_v 6)) (se_int))
    (sss_1 (ss_ret (se_c c_is (se_meth (C := 6) t_Bars_shows hr (se_v 6) (sa_c (se_v 0) (sa_c (se_v 1) (sa_c (se_v 2) (sa_n)))) (by decide)) (se_bl))))))))))))⟩
theorem sc__law_spoilt_right : FnScope ["_law_house_here", "_law_boxes_here", "_law_tells", "_law_told", "_law_way", "_law_first", "_law_box", "_law_last", "_law_turn", "_law_again"] [] (defScope s__law_spoilt_right) := ⟨rfl, rfl, rfl, by decide +kernel, rfl, by decide +kernel, by decide +kernel⟩
theorem ok__law_spoilt_right {fA : Addr} {fd : FuncData} (F0 : L2.Fun K "_law_spoilt_right" "_law_spoilt_right" s__law_spoilt_right fA fd) (T : Tx K w mg cls) (c_bars : C8.Cal P w K mg base 7 "bars" (spM K cls m_bars) []) (t_Bars_shows : C8.Met P w K mg base 3 (cls 6) "shows" (spM K cls m_Bars_shows) []) : FnOk P w K mg base CX0 8 fA fd [] (spM K cls m__law_spoilt_right) := 
  have sc := sc__law_spoilt_right
  def_ok F0 sc rfl rfl fun cdv A outer s H E hr hK => ⟨_, sss_c (ss_par3 0 1 2 sc.nd (se_d (sl_disp (sa_c (se_tup (sa_c (se_d (sl_disp (sa_c (se_int) (sa_c (se_int) (sa_n))))) (sa_c (se_d (sl_disp (sa_c (se_int) (sa_c (se_int) (sa_n))))) (sa_n)))) (sa_c (se_tup (sa_c (se_d (sl_disp (sa_c (se_int) (sa_c (se_int) (sa_n))))) (sa_c (se_d (sl_disp (sa_n))) (sa_n)))) (sa_n))))) (se_d (sl_disp (sa_c (se_int) (sa_c (se_int) (sa_n))))) (se_k (sl_disp (sa_n))))
    (sss_c (ss_set 3 sc.nd (se_call c_bars hr (sa_c (se_v 0) (sa_c (se_v 1) (sa_c (se_int) (sa_n))))))
    (sss_c (ss_revK (se_fld T.a_6_1 (se_v 3)))
    (sss_c (ss_if (st_c c_isn (se_meth (C := 6) t_Bars_shows hr (se_v 3) (sa_c (se_v 0) (sa_c (se_v 1) (sa_c (se_int) (sa_n)))) (by decide)) (se_bl)) (sss_1 (ss_ret (se_bl)))
    (sss_n))
    (sss_c (ss_set 4 sc.nd (se_ix (se_fld T.a_6_1 (se_v 3)) (se_int)))
    (sss_c (ss_set 5 sc.nd (se_ix (se_v 4) (se_int)))
    (sss_c (ss_for (si_seq (se_tup (sa_c (se_int) (sa_c (se_v 5) (sa_n))))) (sg_n 6 sc.nd)
    (sss_c (ss_sub (se_v 4) (se_int) (se_v 6))
    (sss_1 (ss_appK (se_v 2) (se_meth (C := 6) t_Bars_shows hr (se_v 3) (sa_c (se_v 0) (sa_c (se_v 1) (sa_c (se_int) (sa_n)))) (by decide))))))
    (sss_c (ss_appK (se_v 4) (se_int))
    (sss_c (ss_appK (se_v 2) (se_meth (C := 6) t_Bars_shows hr (se_v 3) (sa_c (se_v 0) (sa_c (se_v 1) (sa_c (se_int) (sa_n)))) (by decide)))
    (sss_c (ss_popK (se_v 4))
    (sss_c (ss_appK (se_v 2) (se_meth (C := 6) t_Bars_shows hr (se_v 3) (sa_c (se_v 0) (sa_c (se_v 1) (sa_c (se_int) (sa_n)))) (by decide)))
    (sss_c (ss_set 7 sc.nd (se_popV (se_fld T.a_6_1 (se_v 3))))
    (sss_c (ss_appK (se_v 2) (se_meth (C := 6) t_Bars_shows hr (se_v 3) (sa_c (se_v 0) (sa_c (se_v 1) (sa_c (se_int) (sa_n)))) (by decide)))
    (sss_c (ss_appK (se_fld T.a_6_1 (se_v 3)) (se_v 7))
    (sss_c (ss_appK (se_v 2) (se_meth (C := 6) t_Bars_shows hr (se_v 3) (sa_c (se_v 0) (sa_c (se_v 1) (sa_c (se_int) (sa_n)))) (by decide)))
    (sss_c (ss_for (si_rg1 T.bt (se_int)) (sg_n 8 sc.nd)
    (sss_c (ss_revK (se_fld T.a_6_0 (se_v 3)))
    (sss_1 (ss_appK (se_v 2) (se_meth (C := 6) t_Bars_shows hr (se_v 3) (sa_c (se_v 0) (sa_c (se_v 1) (sa_c (se_int) (sa_n)))) (by decide))))))
    (sss_c (ss_clrK (se_fld T.a_6_0 (se_v 3)))
    (sss_c (ss_clrK (se_ix (se_fld T.a_6_1 (se_v 3)) (se_int)))
    (sss_c (ss_set 9 sc.nd (se_call c_bars hr (sa_c (se_v 0) (sa_c (se_v 1) (sa_c (se_int) (sa_n))))))
    (sss_1 (ss_ret (se_and (se_c (c_eq hr.units) (se_v 2) (se_d (sl_rep (se_d (sl_disp (sa_c (se_bl) (sa_c (se_bl) (sa_n))))) (se_int)))) (se_and (se_c c_is (se_meth (C := 6) t_Bars_shows hr (se_v 9) (sa_c (se_v 0) (sa_c (se_v 1) (sa_c (se_int) (sa_n)))) (by decide)) (se_bl)) (se_b1 (se_c (c_eq hr.units) (se_v 1) (se_d (sl_disp (sa_c (se_int) (sa_c (se_int) (sa_n)))))))))))))))))))))))))))))⟩
theorem sc__law_changed_right : FnScope ["_law_house_here", "_law_boxes_here", "_law_found", "_law_elder", "_law_same", "_law_box"] [] (defScope s__law_changed_right) := ⟨rfl, rfl, rfl, by decide +kernel, rfl, by decide +kernel, by decide +kernel⟩
theorem ok__law_changed_right {fA : Addr} {fd : FuncData} (F0 : L2.Fun K "_law_changed_right" "_law_changed_right" s__law_changed_right fA fd) (T : Tx K w mg cls) (c_bars : C8.Cal P w K mg base 7 "bars" (spM K cls m_bars) []) (c_many_bars : C8.Cal P w K mg base 8 "many_bars" (spM K cls m_many_bars) []) (t_Bars_shows : C8.Met P w K mg base 3 (cls 6) "shows" (spM K cls m_Bars_shows) []) : FnOk P w K mg base CX0 9 fA fd [] (spM K cls m__law_changed_right) := 
  have sc := sc__law_changed_right
  def_ok F0 sc rfl rfl fun cdv A outer s H E hr hK => ⟨_, sss_c (ss_par3 0 1 2 sc.nd (se_k (sl_disp (sa_c (se_tup (sa_c (se_k (sl_disp (sa_c (se_int) (sa_n)))) (sa_c (se_k (sl_disp (sa_c (se_int) (sa_n)))) (sa_n)))) (sa_c (se_tup (sa_c (se_k (sl_disp (sa_c (se_int) (sa_n)))) (sa_c (se_k (sl_disp (sa_n))) (sa_n)))) (sa_n))))) (se_k (sl_disp (sa_c (se_int) (sa_n)))) (se_k (sl_disp (sa_n))))
    (sss_c (ss_par 3 4 sc.nd (se_call c_bars hr (sa_c (se_v 0) (sa_c (se_v 1) (sa_c (se_int) (sa_n))))) (se_d (sl_disp (sa_c (se_int) (sa_n)))))
    (sss_c (ss_for (si_seq (se_tup (sa_c (se_int) (sa_c (se_int) (sa_n))))) (sg_n 5 sc.nd)
    (sss_c (ss_sub (se_ix (se_ix (se_v 0) (se_int)) (se_int)) (se_int) (se_v 5))
    (sss_1 (ss_set 2 sc.nd (se_k (sl_cat (se_v 2) (se_d (sl_disp (sa_c (se_call c_many_bars hr (sa_c (se_v 0) (sa_c (se_v 1) (sa_c (se_int) (sa_n))))) (sa_c (se_meth (C := 6) t_Bars_shows hr (se_v 3) (sa_c (se_v 0) (sa_c (se_v 1) (sa_c (se_int) (sa_n)))) (by decide)) (sa_n)))))))))))
    (sss_c (ss_appK (se_v 2) (se_call c_many_bars hr (sa_c (se_d (sl_disp (sa_c (se_tup (sa_c (se_v 4) (sa_c (se_v 4) (sa_n)))) (sa_n)))) (sa_c (se_v 4) (sa_c (se_int) (sa_n))))))
    (sss_c (ss_for (si_seq (se_tup (sa_c (se_int) (sa_c (se_int) (sa_n))))) (sg_n 5 sc.nd)
    (sss_c (ss_sub (se_ix (se_ix (se_v 0) (se_int)) (se_int)) (se_int) (se_v 5))
    (sss_1 (ss_set 2 sc.nd (se_k (sl_cat (se_v 2) (se_d (sl_disp (sa_c (se_call c_many_bars hr (sa_c (se_v 0) (sa_c (se_v 1) (sa_c (se_int) (sa_n))))) (sa_c (se_meth (C := 6) t_Bars_shows hr (se_v 3) (sa_c (se_v 0) (sa_c (se_v 1) (sa_c (se_int) (sa_n)))) (by decide)) (sa_n)))))))))))
    (sss_c (ss_for (si_seq (se_tup (sa_c (se_int) (sa_c (se_int) (sa_n))))) (sg_n 5 sc.nd)
    (sss_c (ss_sub (se_v 1) (se_int) (se_v 5))
    (sss_1 (ss_set 2 sc.nd (se_k (sl_cat (se_v 2) (se_d (sl_disp (sa_c (se_call c_many_bars hr (sa_c (se_v 0) (sa_c (se_v 1) (sa_c (se_int) (sa_n))))) (sa_c (se_meth (C := 6) t_Bars_shows hr (se_v 3) (sa_c (se_v 0) (sa_c (se_v 1) (sa_c (se_int) (sa_n)))) (by decide)) (sa_n)))))))))))
    (sss_1 (ss_ret (se_and (se_c (c_eq hr.units) (se_v 2) (se_d (sl_disp (sa_c (se_int) (sa_c (se_bl) (sa_c (se_int) (sa_c (se_bl) (sa_c (se_int) (sa_c (se_int) (sa_c (se_bl) (sa_c (se_int) (sa_c (se_bl) (sa_c (se_int) (sa_c (se_bl) (sa_c (se_int) (sa_c (se_bl) (sa_n))))))))))))))))) (se_b1 (se_c (c_eq hr.units) (se_v 4) (se_d (sl_disp (sa_c (se_int) (sa_n))))))))))))))⟩
theorem sc__law_many_right : FnScope ["_law_house_here", "_law_boxes_here", "_law_ways", "_law_lots", "_law_some", "_law_told", "_law_row", "_law_way", "_law_at", "_law_box"] [] (defScope s__law_many_right) := ⟨rfl, rfl, rfl, by decide +kernel, rfl, by decide +kernel, by decide +kernel⟩
theorem ok__law_many_right {fA : Addr} {fd : FuncData} (F0 : L2.Fun K "_law_many_right" "_law_many_right" s__law_many_right fA fd) (T : Tx K w mg cls) (c_many_bars : C8.Cal P w K mg base 8 "many_bars" (spM K cls m_many_bars) []) (c_bars : C8.Cal P w K mg base 7 "bars" (spM K cls m_bars) []) (k_Bars : C8.Mak P w K mg base 2 "Bars" (cls 6) (spM K cls m_Bars___init__) []) (t_Bars_shows : C8.Met P w K mg base 3 (cls 6) "shows" (spM K cls m_Bars_shows) []) : FnOk P w K mg base CX0 9 fA fd [] (spM K cls m__law_many_right) := 
  have sc := sc__law_many_right
  def_ok F0 sc rfl rfl fun cdv A outer s H E hr hK => ⟨_, sss_wL (sss_c (ss_oL (ss_asg (se_tup (sa_c (se_d (sl_disp (sa_c (se_tup (sa_c (se_d (sl_disp (sa_c (se_int) (sa_n)))) (sa_c (se_d (sl_disp (sa_c (se_int) (sa_c (se_int) (sa_n))))) (sa_n)))) (sa_c (se_tup (sa_c (se_d (sl_disp (sa_c (se_int) (sa_n)))) (sa_c (se_d (sl_disp (sa_c (se_int) (sa_n)))) (sa_n)))) (sa_c (se_tup (sa_c (se_d (sl_disp (sa_c (se_int) (sa_n)))) (sa_c (se_d (sl_disp (sa_c (se_int) (sa_n)))) (sa_n)))) (sa_c (se_tup (sa_c (se_d (sl_disp (sa_c (se_int) (sa_n)))) (sa_c (se_d (sl_disp (sa_c (se_int) (sa_n)))) (sa_n)))) (sa_c (se_tup (sa_c (se_d (sl_disp (sa_c (se_int) (sa_c (se_int) (sa_n))))) (sa_c (se_d (sl_disp (sa_n))) (sa_n)))) (sa_n)))))))) (sa_c (se_d (sl_disp (sa_c (se_int) (sa_c (se_int) (sa_n))))) (sa_n)))) (sg_t (sgs_c (sg_n 0 sc.nd) (sgs_c (sg_n 1 sc.nd) (sgs_n))))))
    (sss_c (ss_oL (ss_set 2 sc.nd (se_d (sl_disp (sa_c (se_d (sl_disp (sa_c (se_int) (sa_c (se_int) (sa_c (se_int) (sa_n)))))) (sa_c (se_d (sl_disp (sa_c (se_int) (sa_c (se_int) (sa_c (se_int) (sa_n)))))) (sa_n)))))))
    (sss_k1 (ss_oL (ss_if (st_w (sw_or (st_c (c_ne hr.units) (se_wL (se_call c_many_bars hr (sa_c (se_v 0) (sa_c (se_v 1) (sa_c (se_int) (sa_n)))))) (se_int)) (sw_or1 (st_c (c_ne hr.units) (se_wL (se_d (sl_sortR T.bt (hu80 hr) (se_fld T.a_6_1 (se_wL (se_call c_bars hr (sa_c (se_v 0) (sa_c (se_v 1) (sa_c (se_int) (sa_n)))))))))) (se_v 2))))) (sss_1 (ss_oL (ss_ret (se_bl))))
    (sss_n)))
    (sss_c (ss_oL (ss_set 3 sc.nd (se_d (sl_disp (sa_c (se_d (sl_disp (sa_c (se_int) (sa_c (se_int) (sa_n))))) (sa_c (se_d (sl_disp (sa_c (se_int) (sa_c (se_int) (sa_n))))) (sa_c (se_d (sl_disp (sa_c (se_int) (sa_c (se_int) (sa_n))))) (sa_c (se_d (sl_disp (sa_c (se_int) (sa_c (se_int) (sa_n))))) (sa_c (se_d (sl_disp (sa_c (se_int) (sa_c (se_int) (sa_n))))) (sa_c (se_d (sl_disp (sa_c (se_int) (sa_c (se_int) (sa_n))))) (sa_c (se_d (sl_disp (sa_c (se_int) (sa_c (se_int) (sa_n))))) (sa_c (se_d (sl_disp (sa_c (se_int) (sa_c (se_int) (sa_n))))) (sa_c (se_d (sl_disp (sa_c (se_int) (sa_c (se_int) (sa_n))))) (sa_c (se_d (sl_disp (sa_c (se_int) (sa_c (se_int) (sa_n))))) (sa_n)))))))))))))))
    (sss_k1 (ss_oL (ss_if (st_c (c_ne hr.units) (se_d (sl_lc [("_law_some", 4)] sc.nd (si_seq (se_v 3)) (by first | decide +kernel | rfl) (by decide) (fun _ _ _ _ _ _ => sg_n 4 sc.nd) (fun _ _ _ _ _ _ => sts_n) (fun _ _ _ _ _ _ => se_wL (se_meth (C := 6) t_Bars_shows hr (se_wL (se_new k_Bars hr (sa_c (se_v 4) (sa_c (se_v 2) (sa_n))))) (sa_c (se_v 0) (sa_c (se_v 1) (sa_c (se_int) (sa_n)))) (by decide))))) (se_add (se_d (sl_rep (se_d (sl_disp (sa_c (se_bl) (sa_n)))) (se_int))) (se_d (sl_rep (se_d (sl_disp (sa_c (se_bl) (sa_n)))) (se_int))))) (sss_1 (ss_oL (ss_ret (se_bl))))
    (sss_n)))
    (sss_k1 (ss_oL (ss_if (st_c (c_ne hr.units) (se_wL (se_call c_many_bars hr (sa_c (se_d (sl_disp (sa_c (se_tup (sa_c (se_d (sl_disp (sa_c (se_int) (sa_c (se_int) (sa_c (se_int) (sa_n)))))) (sa_c (se_d (sl_disp (sa_c (se_int) (sa_c (se_int) (sa_c (se_int) (sa_n)))))) (sa_n)))) (sa_c (se_tup (sa_c (se_d (sl_disp (sa_c (se_int) (sa_c (se_int) (sa_c (se_int) (sa_n)))))) (sa_c (se_d (sl_disp (sa_n))) (sa_n)))) (sa_n))))) (sa_c (se_d (sl_disp (sa_c (se_int) (sa_c (se_int) (sa_c (se_int) (sa_n)))))) (sa_c (se_int) (sa_n)))))) (se_int)) (sss_1 (ss_oL (ss_ret (se_bl))))
    (sss_n)))
    (sss_k2 (ss_oL (ss_set 5 sc.nd (se_wL (se_call c_bars hr (sa_c (se_d (sl_rep (se_d (sl_disp (sa_c (se_tup (sa_c (se_d (sl_disp (sa_c (se_int) (sa_c (se_int) (sa_c (se_int) (sa_n)))))) (sa_c (se_d (sl_disp (sa_c (se_int) (sa_c (se_int) (sa_c (se_int) (sa_n)))))) (sa_n)))) (sa_n)))) (se_int))) (sa_c (se_wL (se_d (sl_rg1 T.bt (se_int)))) (sa_c (se_int) (sa_n)))))))) (ss_oL (ss_if (st_w (sw_or (st_c (c_ne hr.units) (se_fld T.a_6_0 (se_v 5)) (se_d (sl_disp (sa_c (se_int) (sa_c (se_int) (sa_c (se_int) (sa_n))))))) (sw_or1 (st_c (c_ne hr.units) (se_wL (se_d (sl_sortR T.bt (hu80 hr) (se_fld T.a_6_1 (se_v 5))))) (se_d (sl_disp (sa_c (se_d (sl_disp (sa_c (se_int) (sa_n)))) (sa_c (se_d (sl_disp (sa_c (se_int) (sa_n)))) (sa_c (se_d (sl_disp (sa_c (se_int) (sa_n)))) (sa_n)))))))))) (sss_1 (ss_oL (ss_ret (se_bl))))
    (sss_n)))
    (sss_c (ss_oL (ss_asg (se_tup (sa_c (se_d (sl_lc [("_law_at", 8)] sc.nd (si_rg1 T.bt (se_int)) (by first | decide +kernel | rfl) (by decide) (fun _ _ _ _ _ _ => sg_n 8 sc.nd) (fun _ _ _ _ _ _ => sts_n) (fun _ _ _ _ _ _ => se_tup (sa_c (se_d (sl_disp (sa_c (se_v 8) (sa_n)))) (sa_c (se_d (sl_disp (sa_c (se_add (se_v 8) (se_int)) (sa_n)))) (sa_n)))))) (sa_c (se_wL (se_d (sl_rg1 T.bt (se_int)))) (sa_n)))) (sg_t (sgs_c (sg_n 6 sc.nd) (sgs_c (sg_n 7 sc.nd) (sgs_n))))))
    (sss_k1 (ss_oL (ss_if (st_w (sw_or (st_c (c_ne hr.units) (se_wL (se_call c_many_bars hr (sa_c (se_v 6) (sa_c (se_d (sl_disp (sa_c (se_int) (sa_n)))) (sa_c (se_int) (sa_n)))))) (se_int)) (sw_or1 (st_c (c_ne hr.units) (se_fld T.a_6_1 (se_wL (se_call c_bars hr (sa_c (se_v 6) (sa_c (se_d (sl_disp (sa_c (se_int) (sa_n)))) (sa_c (se_int) (sa_n))))))) (se_d (sl_disp (sa_c (se_v 7) (sa_n)))))))) (sss_1 (ss_oL (ss_ret (se_bl))))
    (sss_n)))
    (sss_1 (ss_oL (ss_ret (se_all T.bt (sl_lc [("_law_box", 9)] sc.nd (si_seq (se_v 7)) (by first | decide +kernel | rfl) (by decide) (fun _ _ _ _ _ _ => sg_n 9 sc.nd) (fun _ _ _ _ _ _ => sts_n) (fun _ _ _ _ _ _ => se_wL (se_meth (C := 6) t_Bars_shows hr (se_wL (se_new k_Bars hr (sa_c (se_d (sl_disp (sa_c (se_v 9) (sa_n)))) (sa_c (se_d (sl_disp (sa_c (se_v 7) (sa_n)))) (sa_n))))) (sa_c (se_v 6) (sa_c (se_d (sl_disp (sa_c (se_int) (sa_n)))) (sa_c (se_int) (sa_n)))) (by decide)))))))))))))))))⟩
theorem sc_law : FnScope ["_law_script", "_law_by", "_law_house_here", "_law_boxes_here", "_law_more", "_law_others", "_law_account", "_law_some"] ["_law_script"] (defScope s_law) := ⟨rfl, rfl, rfl, by decide +kernel, rfl, by decide +kernel, by decide +kernel⟩
theorem ok_law {fA : Addr} {fd : FuncData} (F0 : L2.Fun K "law" "law" s_law fA fd) (T : Tx K w mg cls) (c__law_house : C8.Cal P w K mg base 4 "_law_house" (spM K cls m__law_house) []) (c__law_boxes : C8.Cal P w K mg base 4 "_law_boxes" (spM K cls m__law_boxes) []) (c__law_right : C8.Cal P w K mg base 9 "_law_right" (spM K cls m__law_right) []) (c__law_number : C8.Cal P w K mg base 3 "_law_number" (spM K cls m__law_number) []) (c__law_cell_at : C8.Cal P w K mg base 2 "_law_cell_at" (spM K cls m__law_cell_at) []) (c_many_bars : C8.Cal P w K mg base 8 "many_bars" (spM K cls m_many_bars) []) (c__law_fewest : C8.Cal P w K mg base 3 "_law_fewest" (spM K cls m__law_fewest) []) (c__law_spoilt_right : C8.Cal P w K mg base 8 "_law_spoilt_right" (spM K cls m__law_spoilt_right) []) (c__law_changed_right : C8.Cal P w K mg base 9 "_law_changed_right" (spM K cls m__law_changed_right) []) (c__law_many_right : C8.Cal P w K mg base 9 "_law_many_right" (spM K cls m__law_many_right) []) (c_bars : C8.Cal P w K mg base 7 "bars" (spM K cls m_bars) []) : FnOk P w K mg base CX0 10 fA fd ["_law_script"] (spM K cls m_law) := 
  have sc := sc_law
  def_ok F0 sc rfl rfl fun cdv A outer s H E hr hK => ⟨_, sss_c (ss_for (si_rg1 T.bt (se_int)) (sg_n 1 sc.nd)
    (sss_c (ss_asg (se_tup (sa_c (se_call c__law_house hr (sa_c (se_v 0) (sa_c (se_v 1) (sa_n)))) (sa_c (se_call c__law_boxes hr (sa_c (se_v 0) (sa_c (se_v 1) (sa_c (se_int) (sa_n))))) (sa_n)))) (sg_t (sgs_c (sg_n 2 sc.nd) (sgs_c (sg_n 3 sc.nd) (sgs_n)))))
    (sss_c (ss_par 4 5 sc.nd (se_call c__law_house hr (sa_c (se_v 0) (sa_c (se_add (se_v 1) (se_int)) (sa_n)))) (se_call c__law_boxes hr (sa_c (se_v 0) (sa_c (se_add (se_v 1) (se_int)) (sa_c (se_int) (sa_n))))))
    (sss_c (ss_for (si_rg1 T.bt (se_len T.bt (se_v 2))) (sg_n 6 sc.nd)
    (sss_c (ss_set 7 sc.nd (se_d (sl_disp (sa_c (se_tup (sa_c (se_v 2) (sa_c (se_v 5) (sa_c (se_v 6) (sa_n))))) (sa_c (se_tup (sa_c (se_v 2) (sa_c (se_v 3) (sa_c (se_int) (sa_n))))) (sa_c (se_tup (sa_c (se_v 4) (sa_c (se_v 3) (sa_c (se_sub (se_len T.bt (se_v 4)) (se_int)) (sa_n))))) (sa_n)))))))
    (sss_1 (ss_if (st_not (st_e (m := true) (se_call c__law_right hr (sa_c (se_v 2) (sa_c (se_v 3) (sa_c (se_v 6) (sa_c (se_v 7) (sa_n)))))))) (sss_1 (ss_ret (se_bl)))
    (sss_n)))))
    (sss_c (ss_set 6 sc.nd (se_call c__law_number hr (sa_c (se_call c__law_cell_at hr (sa_c (se_v 0) (sa_c (se_v 1) (sa_n)))) (sa_c (se_add (se_v 1) (se_int)) (sa_c (se_len T.bt (se_v 2)) (sa_n))))))
    (sss_1 (ss_if (st_c (c_ne hr.units) (se_call c_many_bars hr (sa_c (se_v 2) (sa_c (se_v 3) (sa_c (se_v 6) (sa_n))))) (se_call c__law_fewest hr (sa_c (se_v 2) (sa_c (se_v 3) (sa_c (se_v 6) (sa_n)))))) (sss_1 (ss_ret (se_bl)))
    (sss_n))))))))
    (sss_c (ss_set 2 sc.nd (se_d (sl_disp (sa_c (se_tup (sa_c (se_d (sl_disp (sa_c (se_int) (sa_n)))) (sa_c (se_d (sl_disp (sa_c (se_int) (sa_c (se_int) (sa_n))))) (sa_n)))) (sa_c (se_tup (sa_c (se_d (sl_disp (sa_c (se_int) (sa_n)))) (sa_c (se_d (sl_disp (sa_c (se_int) (sa_c (se_int) (sa_n))))) (sa_n)))) (sa_c (se_tup (sa_c (se_d (sl_disp (sa_c (se_int) (sa_c (se_int) (sa_c (se_int) (sa_n)))))) (sa_c (se_d (sl_disp (sa_n))) (sa_n)))) (sa_c (se_tup (sa_c (se_d (sl_disp (sa_n))) (sa_c (se_d (sl_disp (sa_c (se_int) (sa_n)))) (sa_n)))) (sa_n))))))))
    (sss_c (ss_if (st_c (c_ne hr.units) (se_d (sl_lc [("_law_account", 6)] sc.nd (si_rg1 T.bt (se_int)) (by first | decide +kernel | rfl) (by decide) (fun _ _ _ _ _ _ => sg_n 6 sc.nd) (fun _ _ _ _ _ _ => sts_n) (fun _ _ _ _ _ _ => se_call c_many_bars hr (sa_c (se_v 2) (sa_c (se_d (sl_disp (sa_c (se_int) (sa_c (se_int) (sa_n))))) (sa_c (se_v 6) (sa_n))))))) (se_d (sl_disp (sa_c (se_int) (sa_c (se_int) (sa_c (se_int) (sa_c (se_int) (sa_n)))))))) (sss_1 (ss_ret (se_bl)))
    (sss_n))
    (sss_c (ss_if (st_w (sw_or (st_not (st_e (m := true) (se_callN0 c__law_spoilt_right hr))) (sw_or (st_not (st_e (m := true) (se_callN0 c__law_changed_right hr))) (sw_or1 (st_not (st_e (m := true) (se_callN0 c__law_many_right hr))))))) (sss_1 (ss_ret (se_bl)))
    (sss_n))
    (sss_1 (ss_ret (se_and (se_c (c_eq hr.units) (se_call c_many_bars hr (sa_c (se_d (sl_disp (sa_c (se_tup (sa_c (se_d (sl_disp (sa_c (se_int) (sa_c (se_int) (sa_c (se_int) (sa_n)))))) (sa_c (se_d (sl_disp (sa_n))) (sa_n)))) (sa_n)))) (sa_c (se_d (sl_disp (sa_c (se_int) (sa_c (se_int) (sa_c (se_int) (sa_n)))))) (sa_c (se_int) (sa_n))))) (se_int)) (se_b1 (se_c (c_eq hr.units) (se_fld T.a_6_0 (se_call c_bars hr (sa_c (se_d (sl_disp (sa_c (se_tup (sa_c (se_d (sl_disp (sa_c (se_int) (sa_n)))) (sa_c (se_d (sl_disp (sa_n))) (sa_n)))) (sa_n)))) (sa_c (se_d (sl_disp (sa_c (se_int) (sa_n)))) (sa_c (se_int) (sa_n)))))) (se_d (sl_disp (sa_c (se_int) (sa_n))))))))))))⟩
end
end Mi

set_option Elab.async false
set_option linter.all false
set_option maxRecDepth 100000
set_option maxHeartbeats 1000000
/-! Mi, words for the plain law: what a mirror is asked to bring. -/
namespace Mi.Y
open PySem L2

def WO {α : Type} (o : Option α) (Q : α → Prop) : Prop := ∃ z, o = some z ∧ Q z
def WE (e : E) (sl : Sl) (st : Sto) (Q : Val → Sto → Prop) : Prop := WO (e sl st) fun p => Q p.1 p.2
def WT (t : T) (sl : Sl) (st : Sto) (Q : Bool → Sto → Prop) : Prop := WO (t sl st) fun p => Q p.1 p.2
def WL (l : L) (sl : Sl) (st : Sto) (Q : List Val → Sto → Prop) : Prop := WO (l sl st) fun p => Q p.1 p.2
def WP (l : P) (sl : Sl) (st : Sto) (Q : Option Int → Sto → Prop) : Prop := WO (l sl st) fun p => Q p.1 p.2
def WI (l : I) (sl : Sl) (st : Sto) (Q : Src → Sto → Prop) : Prop := WO (l sl st) fun p => Q p.1 p.2
def WG (g : G) (v : Val) (sl : Sl) (st : Sto) (Q : Sl → Prop) : Prop := WO (g v sl st) Q
def WGs (g : Gs) (v : List Val) (sl : Sl) (st : Sto) (Q : Sl → Prop) : Prop := WO (g v sl st) Q
def WF (f : F) (vs : List Val) (st : Sto) (Q : Val → Sto → Prop) : Prop := WO (f vs st) fun p => Q p.1 p.2
def ends (N : Sl → Sto → Prop) (R : Val → Sto → Prop) : Out × Sl × Sto → Prop
  | (.nx, sl, st) => N sl st
  | (.rt v, _, st) => R v st
  | _ => False
def WS (s : S) (sl : Sl) (st : Sto) (N : Sl → Sto → Prop) (R : Val → Sto → Prop) : Prop := WO (s sl st) (ends N R)

section
variable {α β : Type} {sl : Sl} {st : Sto} {Q : Val → Sto → Prop} {QT : Bool → Sto → Prop} {QL : List Val → Sto → Prop} {QP : Option Int → Sto → Prop} {QI : Src → Sto → Prop} {QG : Sl → Prop} {N : Sl → Sto → Prop} {R : Val → Sto → Prop}
  {a b c o : E} {t t' : T} {f f' : L} {p p' : P} {s s' : S} {m : F} {g : G} {gs : Gs} {op op' : Sto → Val → Val → Option Val} {i j k n : Nat} {v : Val}
theorem wo_some {x : α} {Q : α → Prop} (h : Q x) : WO (some x) Q := ⟨x, rfl, h⟩
theorem wo_bind {o : Option α} {h : α → Option β} {Q : β → Prop} (w : WO o fun x => WO (h x) Q) : WO (o.bind h) Q := by
  obtain ⟨x, rfl, z, e, q⟩ := w
  exact ⟨z, e, q⟩
theorem wo_if {c : Prop} [Decidable c] {o : Option α} {Q : α → Prop} (hc : c) (w : WO o Q) : WO (if c then o else none) Q := by rw [if_pos hc]; exact w
theorem wo_mono {o : Option α} {Q Q' : α → Prop} (h : WO o Q) (i : ∀ x, Q x → Q' x) : WO o Q' := h.elim fun x z => ⟨x, z.1, i x z.2⟩
theorem we_mono {e : E} {Q' : Val → Sto → Prop} (h : WE e sl st Q) (i : ∀ v st, Q v st → Q' v st) : WE e sl st Q' := wo_mono h fun _ => i _ _
theorem wl_mono {e : L} {Q' : List Val → Sto → Prop} (h : WL e sl st QL) (i : ∀ v st, QL v st → Q' v st) : WL e sl st Q' := wo_mono h fun _ => i _ _
theorem wf_mono {e : F} {vs : List Val} {Q' : Val → Sto → Prop} (h : WF e vs st Q) (i : ∀ v st, Q v st → Q' v st) : WF e vs st Q' := wo_mono h fun _ => i _ _
theorem ws_mono {N' : Sl → Sto → Prop} {R' : Val → Sto → Prop} (h : WS s sl st N R) (i : ∀ sl st, N sl st → N' sl st) (i' : ∀ v st, R v st → R' v st) : WS s sl st N' R' := wo_mono h fun x => by
  obtain ⟨o, sl, st⟩ := x
  cases o <;> first | exact i _ _ | exact i' _ _ | exact id
theorem we_c (h : Q v st) : WE (eC v) sl st Q := ⟨_, rfl, h⟩
theorem we_v (e : sl[i]? = some (.val v)) (h : Q v st) : WE (eVar i) sl st Q := ⟨(v, st), by unfold eVar; rw [e], h⟩
theorem we_vo {xs : List Val} (e : sl[i]? = some (.own xs)) (h : Q (.lst xs) st) : WE (eVarO i) sl st Q := ⟨(.lst xs, st), by unfold eVarO; rw [e], h⟩
theorem we_1 {op : Sto → Val → Option Val} (h : WE a sl st fun x st => WO (op st x) fun z => Q z st) : WE (e1 op a) sl st Q := wo_bind (wo_mono h fun _ h => wo_bind (wo_mono h fun _ h => wo_some h))
theorem we_2 (h : WE a sl st fun x st => WE b sl st fun y st => WO (op st x y) fun z => Q z st) : WE (e2 op a b) sl st Q := wo_bind (wo_mono h fun _ h => wo_bind (wo_mono h fun _ h => wo_bind (wo_mono h fun _ h => wo_some h)))
theorem wt_e (h : WE a sl st fun v st => ∃ x, v = .bl x ∧ QT x st) : WT (tE a) sl st QT := wo_bind (wo_mono h fun y h => by
  obtain ⟨x, e, h⟩ := h
  rw [e]
  exact wo_some h)
theorem wt_and (h : WT t sl st fun x st => if x then WT t' sl st QT else QT false st) : WT (tAnd t t') sl st QT := wo_bind (wo_mono h fun y h => by
  obtain ⟨x, st⟩ := y
  cases x with
  | true => exact h
  | false => exact wo_some h)
theorem wt_or (h : WT t sl st fun x st => if x then QT true st else WT t' sl st QT) : WT (tOr t t') sl st QT := wo_bind (wo_mono h fun y h => by
  obtain ⟨x, st⟩ := y
  cases x with
  | true => exact wo_some h
  | false => exact h)
theorem wt_not (h : WT t sl st fun x st => QT (!x) st) : WT (tNot t) sl st QT := wo_bind (wo_mono h fun _ h => wo_some h)
theorem we_if (h : WT t sl st fun x st => if x then WE a sl st Q else WE b sl st Q) : WE (eIf t a b) sl st Q := wo_bind (wo_mono h fun y h => by
  obtain ⟨x, st⟩ := y
  cases x <;> exact h)
theorem we_and (h : WE a sl st fun v st => ∃ x, v = .bl x ∧ if x then WE b sl st Q else Q (.bl false) st) : WE (eAnd a b) sl st Q := wo_bind (wo_mono h fun y h => by
  obtain ⟨x, e, h⟩ := h
  rw [e]
  cases x with
  | true => exact h
  | false => exact wo_some h)
theorem we_or (h : WE a sl st fun v st => ∃ x, v = .bl x ∧ if x then Q (.bl true) st else WE b sl st Q) : WE (eOr a b) sl st Q := wo_bind (wo_mono h fun y h => by
  obtain ⟨x, e, h⟩ := h
  rw [e]
  cases x with
  | true => exact wo_some h
  | false => exact h)
theorem we_not (h : WE a sl st fun v st => ∃ x, v = .bl x ∧ Q (.bl (!x)) st) : WE (eNot a) sl st Q := wo_bind (wo_mono h fun y h => by
  obtain ⟨x, e, h⟩ := h
  rw [e]
  exact wo_some h)
theorem we_ch (h : WE a sl st fun x st => WE b sl st fun y st => WO (op st x y) fun z => ∃ q, z = .bl q ∧ if q then WE c sl st fun w st => WO (op' st y w) fun z => ∃ q, z = .bl q ∧ Q (.bl q) st else Q (.bl false) st) : WE (eCh op op' a b c) sl st Q :=
  wo_bind (wo_mono h fun _ h => wo_bind (wo_mono h fun _ h => wo_bind (wo_mono h fun z h => by
    obtain ⟨q, e, h⟩ := h
    rw [e]
    cases q with
    | true => exact wo_bind (wo_mono h fun _ h => wo_bind (wo_mono h fun z h => by
        obtain ⟨q, e, h⟩ := h
        rw [e]
        exact wo_some h))
    | false => exact wo_some h)))
theorem wl_n (h : QL [] st) : WL aNil sl st QL := wo_some h
theorem wl_c (h : WE a sl st fun x st => WL f sl st fun xs st => QL (x :: xs) st) : WL (aCons a f) sl st QL := wo_bind (wo_mono h fun _ h => wo_bind (wo_mono h fun _ h => wo_some h))
theorem we_tup (h : WL f sl st fun xs st => xs.length ≤ 100000 ∧ Q (.tup xs) st) : WE (eTup f) sl st Q := wo_bind (wo_mono h fun _ h => wo_if h.1 (wo_some h.2))
theorem we_d (h : WL f sl st fun xs st => Q (.lst xs) st) : WE (eD f) sl st Q := wo_bind (wo_mono h fun _ h => wo_some h)
theorem we_k (h : WL f sl st fun xs st => Q (.ref st.length) (st ++ [.lst xs])) : WE (eK f) sl st Q := wo_bind (wo_mono h fun _ h => wo_some h)
theorem wl_disp (h : WL f sl st fun xs st => xs.length ≤ 100000 ∧ QL xs st) : WL (lDisp f) sl st QL := wo_bind (wo_mono h fun _ h => wo_if h.1 (wo_some h.2))
theorem wl_1 {op : Sto → Val → Option (List Val)} (h : WE a sl st fun x st => WO (op st x) fun z => QL z st) : WL (l1 op a) sl st QL := wo_bind (wo_mono h fun _ h => wo_bind (wo_mono h fun _ h => wo_some h))
theorem wl_2 {op : Sto → Val → Val → Option (List Val)} (h : WE a sl st fun x st => WE b sl st fun y st => WO (op st x y) fun z => QL z st) : WL (l2 op a b) sl st QL := wo_bind (wo_mono h fun _ h => wo_bind (wo_mono h fun _ h => wo_bind (wo_mono h fun _ h => wo_some h)))
theorem wp_n (h : QP none st) : WP pN sl st QP := wo_some h
theorem wp_s (h : WE a sl st fun v st => ∃ i, v = .int i ∧ QP (some i) st) : WP (pS a) sl st QP := wo_bind (wo_mono h fun y h => by
  obtain ⟨x, e, h⟩ := h
  rw [e]
  exact wo_some h)
theorem wl_sl (h : WE a sl st fun x st => WP p sl st fun lo st => WP p' sl st fun hi st => ∃ xs, x = .lst xs ∧ QL (cut xs lo hi) st) : WL (lSl a p p') sl st QL := wo_bind (wo_mono h fun _ h => wo_bind (wo_mono h fun _ h => wo_bind (wo_mono h fun _ h => by
  obtain ⟨xs, e, h⟩ := h
  rw [e]
  exact wo_some h)))
theorem we_sl (h : WE a sl st fun x st => WP p sl st fun lo st => WP p' sl st fun hi st => ∃ xs, x = .lst xs ∧ Q (.lst (cut xs lo hi)) st) : WE (eSl a p p') sl st Q := wo_bind (wo_mono h fun _ h => wo_bind (wo_mono h fun _ h => wo_bind (wo_mono h fun _ h => by
  obtain ⟨xs, e, h⟩ := h
  rw [e]
  exact wo_some h)))
theorem if_t {A B : Prop} (h : A) : if (true = true) then A else B := h
theorem if_f {A B : Prop} (h : B) : if (false = true) then A else B := h
theorem if_nt {A B : Prop} (h : A) : if ((!false) = true) then A else B := h
theorem if_nf {A B : Prop} (h : B) : if ((!true) = true) then A else B := h
theorem if_dec {P : Prop} [Decidable P] {A B : Prop} (h : P → A) (h' : ¬ P → B) : if (decide P = true) then A else B := by
  by_cases p : P
  · rw [if_pos (decide_eq_true p)]; exact h p
  · rw [if_neg (by rw [decide_eq_false p]; exact Bool.false_ne_true)]; exact h' p
theorem if_ndec {P : Prop} [Decidable P] {A B : Prop} (h : ¬ P → A) (h' : P → B) : if ((!decide P) = true) then A else B := by
  by_cases p : P
  · rw [if_neg (by rw [decide_eq_true p]; exact Bool.false_ne_true)]; exact h' p
  · rw [if_pos (by rw [decide_eq_false p]; rfl)]; exact h p
theorem if_b {b : Bool} {A B : Prop} (h : b = true → A) (h' : b = false → B) : if (b = true) then A else B := by
  cases b
  · exact h' rfl
  · exact h rfl
theorem if_nb {b : Bool} {A B : Prop} (h : b = false → A) (h' : b = true → B) : if ((!b) = true) then A else B := by
  cases b
  · exact h rfl
  · exact h' rfl
/-! calls -/
theorem we_call (h : WL f sl st fun vs st => WF m vs st Q) : WE (eCall m f) sl st Q := wo_bind h
theorem wf_fn {vs : List Val} {b : S} (hl : vs.length = k) (h : WS b (vs.map .val ++ List.replicate (n - k) .no) st (fun _ st => Q .non st) Q) : WF (fnOf k n b) vs st Q := by
  show WO (if vs.length = k then _ else none) _
  refine wo_if hl (wo_bind (wo_mono h fun y h => ?_))
  obtain ⟨o, sl, st⟩ := y
  cases o with
  | nx => exact wo_some h
  | rt v => exact wo_some h
  | bk => exact h.elim
  | ct => exact h.elim
theorem isIns_of {r C : Nat} {as : List Val} (h : st[r]? = some (.ins C as)) : isIns st C (.ref r) = true := by
  show (match st[r]? with | some (.ins D _) => D == C | _ => false) = true
  rw [h]
  exact beq_self_eq_true _
theorem we_meth {C : Nat} (h : WE o sl st fun x st => ∃ r as, x = .ref r ∧ st[r]? = some (.ins C as) ∧ WL f sl st fun vs st => WF m (x :: vs) st Q) : WE (eMeth C m o f) sl st Q := wo_bind (wo_mono h fun y h => by
  obtain ⟨r, as, e, h1, h⟩ := h
  have : isIns y.2 C y.1 = true := by rw [e]; exact isIns_of h1
  rw [if_pos this]
  exact wo_bind h)
theorem we_meth2 {C C' : Nat} {m' : F} (h : WE o sl st fun x st => ∃ r as, x = .ref r ∧ ((st[r]? = some (.ins C as) ∧ WL f sl st fun vs st => WF m (x :: vs) st Q) ∨ (C ≠ C' ∧ st[r]? = some (.ins C' as) ∧ WL f sl st fun vs st => WF m' (x :: vs) st Q))) : WE (eMeth2 C m C' m' o f) sl st Q := wo_bind (wo_mono h fun y h => by
  obtain ⟨r, as, e, h⟩ := h
  rcases h with ⟨h1, h⟩ | ⟨hn, h1, h⟩
  · have : isIns y.2 C y.1 = true := by rw [e]; exact isIns_of h1
    rw [if_pos this]
    exact wo_bind h
  · have t : isIns y.2 C' y.1 = true := by rw [e]; exact isIns_of h1
    have t' : ¬ isIns y.2 C y.1 = true := by
      rw [e]
      show ¬ (match y.2[r]? with | some (.ins D _) => D == C | _ => false) = true
      rw [h1]
      exact fun z => hn (beq_iff_eq.mp z).symm
    rw [if_neg t', if_pos t]
    exact wo_bind h)
theorem we_new {C : Nat} (h : WL f sl st fun vs st => WF m (.ref st.length :: vs) (st ++ [.ins C []]) fun v st' => v = .non ∧ Q (.ref st.length) st') : WE (eNew C m f) sl st Q := wo_bind (wo_mono h fun y h => wo_bind (wo_mono h fun z h => by
  rw [h.1]
  exact wo_some h.2))
theorem wo_fld {C k r : Nat} {vs : List Val} {v : Val} {Q : Val → Prop} (h : st[r]? = some (.ins C vs)) (hv : vs[k]? = some v) (q : Q v) : WO (oFld C k st (.ref r)) Q := ⟨v, by
  show (match st[r]? with | some (.ins D vs) => if D = C then vs[k]? else none | _ => none) = _
  rw [h]
  exact (if_pos rfl).trans hv, q⟩
/-! targets -/
theorem wg_n (hi : i < sl.length) (h : QG (sl.set i (.val v))) : WG (gName i) v sl st QG := by
  show WO (if _ then _ else none) _
  exact wo_if hi (wo_some h)
theorem wg_t {xs : List Val} (hl : xs.length = n) (h : WGs gs xs sl st QG) : WG (gTup n gs) (.tup xs) sl st QG := by
  show WO (if _ then _ else none) _
  exact wo_if hl h
theorem wgs_n (h : QG sl) : WGs gNil [] sl st QG := wo_some h
theorem wgs_c {vs : List Val} (h : WG g v sl st fun sl => WGs gs vs sl st QG) : WGs (gCons g gs) (v :: vs) sl st QG := wo_bind h
/-! statements -/
theorem ws_skip (h : N sl st) : WS sSkip sl st N R := wo_some h
theorem ws_seq (h : WS s sl st (fun sl st => WS s' sl st N R) R) : WS (sSeq s s') sl st N R := wo_bind (wo_mono h fun y h => by
  obtain ⟨o, sl, st⟩ := y
  cases o with
  | nx => exact h
  | rt v => exact wo_some h
  | bk => exact h.elim
  | ct => exact h.elim)
theorem ws_drop (h : WE a sl st fun _ st => N sl st) : WS (sDrop a) sl st N R := wo_bind (wo_mono h fun _ h => wo_some h)
theorem ws_ret (h : WE a sl st R) : WS (sRet a) sl st N R := wo_bind (wo_mono h fun _ h => wo_some h)
theorem ws_asg (h : WE a sl st fun v st => WG g v sl st fun sl => N sl st) : WS (sAsg a g) sl st N R := wo_bind (wo_mono h fun _ h => wo_bind (wo_mono h fun _ h => wo_some h))
theorem ws_own (h : WL f sl st fun xs st => i < sl.length ∧ N (sl.set i (.own xs)) st) : WS (sOwn i f) sl st N R := wo_bind (wo_mono h fun _ h => wo_if h.1 (wo_some h.2))
theorem ws_par (h : WE a sl st fun x st => WE b sl st fun y st => (i < sl.length ∧ j < sl.length) ∧ N ((sl.set i (.val x)).set j (.val y)) st) : WS (sPar i j a b) sl st N R := wo_bind (wo_mono h fun _ h => wo_bind (wo_mono h fun _ h => wo_if h.1 (wo_some h.2)))
theorem ws_parvo (h : WE a sl st fun x st => WL f sl st fun y st => (i < sl.length ∧ j < sl.length) ∧ N ((sl.set i (.val x)).set j (.own y)) st) : WS (sParVO i j a f) sl st N R := wo_bind (wo_mono h fun _ h => wo_bind (wo_mono h fun _ h => wo_if h.1 (wo_some h.2)))
theorem ws_paroo (h : WL f sl st fun x st => WL f' sl st fun y st => (i < sl.length ∧ j < sl.length) ∧ N ((sl.set i (.own x)).set j (.own y)) st) : WS (sParOO i j f f') sl st N R := wo_bind (wo_mono h fun _ h => wo_bind (wo_mono h fun _ h => wo_if h.1 (wo_some h.2)))
theorem ws_if (h : WT t sl st fun x st => if x then WS s sl st N R else WS s' sl st N R) : WS (sIf t s s') sl st N R := wo_bind (wo_mono h fun y h => by
  obtain ⟨x, st⟩ := y
  cases x <;> exact h)
theorem ws_app {xs : List Val} (e : sl[i]? = some (.own xs)) (h : WE a sl st fun v st => xs.length < 100000 ∧ N (sl.set i (.own (xs ++ [v]))) st) : WS (sApp i a) sl st N R := by
  show WO (match sl[i]? with | some (.own xs) => _ | _ => none) _
  rw [e]
  exact wo_bind (wo_mono h fun _ h => wo_if h.1 (wo_some h.2))
theorem ws_ext {xs : List Val} (e : sl[i]? = some (.own xs)) (h : WL f sl st fun v st => xs.length + v.length ≤ 100000 ∧ N (sl.set i (.own (xs ++ v))) st) : WS (sExt i f) sl st N R := by
  show WO (match sl[i]? with | some (.own xs) => _ | _ => none) _
  rw [e]
  exact wo_bind (wo_mono h fun _ h => wo_if h.1 (wo_some h.2))
theorem ws_appK (h : WE o sl st fun x st => ∃ r ys, x = .ref r ∧ st[r]? = some (.lst ys) ∧ WE a sl st fun v st => ∃ xs, st[r]? = some (.lst xs) ∧ xs.length < 100000 ∧ N sl (st.set r (.lst (xs ++ [v])))) : WS (sAppK o a) sl st N R := wo_bind (wo_mono h fun y h => by
  obtain ⟨r, ys, e, h1, h⟩ := h
  rw [e]
  show WO (match y.2[r]? with | some (.lst _) => _ | _ => none) _
  rw [h1]
  refine wo_bind (wo_mono h fun z h => ?_)
  obtain ⟨xs, h2, h3, h⟩ := h
  show WO (match z.2[r]? with | some (.lst _) => _ | _ => none) _
  rw [h2]
  exact wo_if h3 (wo_some h))
theorem ws_fld {C : Nat} (h : WE a sl st fun v st => WE o sl st fun x st => ∃ r vs, x = .ref r ∧ st[r]? = some (.ins C vs) ∧ WO (putA vs k v) fun vs => N sl (st.set r (.ins C vs))) : WS (sFld C k o a) sl st N R := wo_bind (wo_mono h fun _ h => wo_bind (wo_mono h fun y h => by
  obtain ⟨r, vs, e, h1, h⟩ := h
  rw [e]
  show WO (match y.2[r]? with | some (.ins D vs) => _ | _ => none) _
  rw [h1]
  exact wo_if rfl (wo_bind (wo_mono h fun _ h => wo_some h))))
theorem ws_fld_mid {C : Nat} (h : WE a sl st fun v st1 => WE o sl st1 fun x st2 => ∃ (st0 : Sto) (vs : List Val) (rest : List Cell), x = .ref st0.length ∧ st2 = st0 ++ .ins C vs :: rest ∧ k = vs.length ∧ N sl (st0 ++ .ins C (vs ++ [v]) :: rest)) : WS (sFld C k o a) sl st N R :=
  ws_fld (wo_mono h fun p h => wo_mono h fun q h => by
    obtain ⟨st0, vs, rest, e, e2, hk, h⟩ := h
    refine ⟨_, vs, e, ?_, vs ++ [p.1], ?_, ?_⟩
    · rw [e2, List.getElem?_append_right (Nat.le_refl _), Nat.sub_self]; rfl
    · unfold putA
      rw [if_neg (by omega), if_pos hk]
    · show N sl (List.set q.2 st0.length (.ins C (vs ++ [p.1])))
      rw [e2, List.set_append_right _ _ (Nat.le_refl _), Nat.sub_self]
      exact h)
/-! walks -/
/-- what a source gives, whatever the store -/
def SrcIs (src : Src) (xs : List Val) : Prop := (∀ st i, src.item st i = some xs[i]?) ∧ ∀ st, xs.length ≤ src.len st
/-- .. in this store -/
def SrcAt (st : Sto) (src : Src) (xs : List Val) : Prop := (∀ i, src.item st i = some xs[i]?) ∧ xs.length ≤ src.len st
theorem SrcIs.at {src : Src} {xs : List Val} (h : SrcIs src xs) : SrcAt st src xs := ⟨h.1 st, h.2 st⟩
theorem view_ref {r : Nat} {xs : List Val} (h : st[r]? = some (.lst xs)) : viewQ st (.ref r) = some xs := by
  show (match st[r]? with | some (.lst xs) => some xs | _ => none) = _
  rw [h]
theorem view_refL {r : Nat} {xs : List Val} (h : st[r]? = some (.lst xs)) : viewL st (.ref r) = some xs := by
  show (match st[r]? with | some (.lst xs) => some xs | _ => none) = _
  rw [h]
theorem src_seqR {r : Nat} {xs : List Val} (h : st[r]? = some (.lst xs)) : SrcAt st (.seq (.ref r)) xs := ⟨fun i => by
  show (viewL st (.ref r)).bind _ = _
  rw [view_refL h] <;> rfl, by
  show _ ≤ ((viewL st (.ref r)).getD []).length
  rw [view_refL h]
  exact Nat.le_refl _⟩
theorem src_enumR {r : Nat} {xs : List Val} (h : st[r]? = some (.lst xs)) : SrcAt st (.enum (.ref r)) (xs.zipIdx.map fun p => .tup [.int (p.2 : Nat), p.1]) := ⟨fun i => by
  show (viewQ st (.ref r)).bind _ = _
  rw [view_ref h, List.getElem?_map, List.getElem?_zipIdx, Option.map_map, Nat.zero_add] <;> rfl, by
  show _ ≤ ((viewQ st (.ref r)).getD []).length
  rw [view_ref h, List.length_map, List.length_zipIdx]
  exact Nat.le_refl _⟩
theorem src_lst (xs : List Val) : SrcIs (.seq (.lst xs)) xs := ⟨fun _ _ => rfl, fun _ => Nat.le_refl _⟩
theorem src_tup (xs : List Val) : SrcIs (.seq (.tup xs)) xs := ⟨fun _ _ => rfl, fun _ => Nat.le_refl _⟩
theorem src_rng (lo : Int) (n : Nat) : SrcIs (.rng lo n) ((List.range n).map fun i => .int (lo + (i : Nat))) := ⟨fun _ i => by
  show some _ = some _
  congr 1
  rw [List.getElem?_map]
  by_cases h : i < n
  · rw [if_pos h, List.getElem?_range h] <;> rfl
  · rw [if_neg h, List.getElem?_eq_none (by rw [List.length_range]; omega)] <;> rfl, fun _ => by rw [List.length_map, List.length_range]; exact Nat.le_refl _⟩
theorem src_enum (xs : List Val) : SrcIs (.enum (.lst xs)) (xs.zipIdx.map fun p => .tup [.int (p.2 : Nat), p.1]) := ⟨fun _ i => by
  show some _ = some _
  congr 1
  rw [List.getElem?_map, List.getElem?_zipIdx, Option.map_map, Nat.zero_add] <;> rfl, fun _ => by rw [List.length_map, List.length_zipIdx]; exact Nat.le_refl _⟩
theorem wi_seq (h : WE a sl st fun v st => ∃ xs, v = .lst xs ∧ QI (.seq (.lst xs)) st) : WI (iSeq a) sl st QI := wo_bind (wo_mono h fun y h => by
  obtain ⟨xs, e, h⟩ := h
  obtain ⟨y, st⟩ := y
  cases e
  exact wo_some h)
theorem wi_seqT (h : WE a sl st fun v st => ∃ xs, v = .tup xs ∧ QI (.seq (.tup xs)) st) : WI (iSeq a) sl st QI := wo_bind (wo_mono h fun y h => by
  obtain ⟨xs, e, h⟩ := h
  obtain ⟨y, st⟩ := y
  cases e
  exact wo_some h)
theorem wi_seqR (h : WE a sl st fun v st => ∃ r xs, v = .ref r ∧ st[r]? = some (.lst xs) ∧ QI (.seq (.ref r)) st) : WI (iSeq a) sl st QI := wo_bind (wo_mono h fun y h => by
  obtain ⟨r, xs, e, h1, h⟩ := h
  obtain ⟨y, st⟩ := y
  cases e
  show WO ((viewL st (.ref r)).bind _) _
  rw [view_refL h1]
  exact wo_some h)
theorem wi_enumR (h : WE a sl st fun v st => ∃ r xs, v = .ref r ∧ st[r]? = some (.lst xs) ∧ QI (.enum (.ref r)) st) : WI (iEnum a) sl st QI := wo_bind (wo_mono h fun y h => by
  obtain ⟨r, xs, e, h1, h⟩ := h
  obtain ⟨y, st⟩ := y
  cases e
  show WO ((viewQ st (.ref r)).bind _) _
  rw [view_ref h1]
  exact wo_some h)
theorem wi_rg1 (h : WE a sl st fun v st => ∃ n, v = .int n ∧ (-1000000 ≤ n ∧ n ≤ 1000000) ∧ QI (.rng 0 n.toNat) st) : WI (iRg1 a) sl st QI := wo_bind (wo_mono h fun y h => by
  obtain ⟨n, e, h1, h⟩ := h
  obtain ⟨y, st⟩ := y
  cases e
  exact wo_if h1 (wo_some h))
theorem wi_rg2 (h : WE a sl st fun v st => WE b sl st fun w st => ∃ i j, v = .int i ∧ w = .int j ∧ (-1000000 ≤ i ∧ i ≤ 1000000 ∧ -1000000 ≤ j ∧ j ≤ 1000000) ∧ QI (.rng i (j - i).toNat) st) : WI (iRg2 a b) sl st QI := wo_bind (wo_mono h fun y h => wo_bind (wo_mono h fun z h => by
  obtain ⟨i, j, e, e', h1, h⟩ := h
  obtain ⟨y, st⟩ := y
  obtain ⟨z, st'⟩ := z
  cases e
  cases e'
  exact wo_if h1 (wo_some h)))
theorem wi_enum (h : WE a sl st fun v st => ∃ xs, v = .lst xs ∧ QI (.enum (.lst xs)) st) : WI (iEnum a) sl st QI := wo_bind (wo_mono h fun y h => by
  obtain ⟨xs, e, h⟩ := h
  obtain ⟨y, st⟩ := y
  cases e
  exact wo_some h)
theorem forLoop_ok {src : Src} {xs : List Val} (hs : SrcIs src xs) (Iv : Nat → Sl → Sto → Prop) (step : ∀ i x, xs[i]? = some x → ∀ sl st, Iv i sl st → WG g x sl st fun sl1 => WS s sl1 st (fun sl st => Iv (i + 1) sl st) R) (done : ∀ sl st, Iv xs.length sl st → N sl st) :
    ∀ (n i : Nat) (sl : Sl) (st : Sto), i ≤ xs.length → xs.length ≤ n + i → Iv i sl st → WO (forLoop src g s n i sl st) (ends N R)
  | n, i, sl, st, hi, hn, h => by
    unfold forLoop
    rw [hs.1 st i]
    by_cases hlt : i < xs.length
    · rw [List.getElem?_eq_getElem hlt]
      cases n with
      | zero => omega
      | succ n =>
        refine wo_bind (wo_mono (step i _ (List.getElem?_eq_getElem hlt) sl st h) fun sl1 h1 => wo_bind (wo_mono h1 fun y h2 => ?_))
        obtain ⟨o, sl2, st2⟩ := y
        cases o with
        | nx => exact forLoop_ok hs Iv step done n (i + 1) sl2 st2 hlt (by omega) h2
        | rt v => exact wo_some h2
        | bk => exact h2.elim
        | ct => exact h2.elim
    · rw [List.getElem?_eq_none (by omega)]
      have : i = xs.length := by omega
      subst this
      exact wo_some (done sl st h)
theorem ws_for {w : I} (Iv : Nat → Sl → Sto → Prop) (h : WI w sl st fun src st => ∃ xs, SrcIs src xs ∧ Iv 0 sl st ∧ (∀ i x, xs[i]? = some x → ∀ sl st, Iv i sl st → WG g x sl st fun sl1 => WS s sl1 st (fun sl st => Iv (i + 1) sl st) R) ∧ ∀ sl st, Iv xs.length sl st → N sl st) : WS (sFor w g s) sl st N R := wo_bind (wo_mono h fun y h => by
  obtain ⟨xs, hs, h0, h1, h2⟩ := h
  exact forLoop_ok hs Iv h1 h2 _ 0 sl y.2 (Nat.zero_le _) (by have := hs.2 y.2; omega) h0)
theorem whLoop_ok (Iv : Nat → Sl → Sto → Prop) (step : ∀ k sl st, Iv k sl st → WT t sl st fun x st => if x then WS s sl st (fun sl st => ∃ k', k' < k ∧ Iv k' sl st) R else N sl st) :
    ∀ (n k : Nat) (sl : Sl) (st : Sto), k < n → Iv k sl st → WO (whLoop t s n sl st) (ends N R)
  | 0, k, sl, st, hk, h => by omega
  | n + 1, k, sl, st, hk, h => by
    refine wo_bind (wo_mono (step k sl st h) fun y h1 => ?_)
    obtain ⟨x, st1⟩ := y
    cases x with
    | false => exact wo_some h1
    | true =>
      refine wo_bind (wo_mono h1 fun z h2 => ?_)
      obtain ⟨o, sl2, st2⟩ := z
      cases o with
      | nx =>
        obtain ⟨k', hk', h2⟩ := h2
        exact whLoop_ok Iv step n k' sl2 st2 (by omega) h2
      | rt v => exact wo_some h2
      | bk => exact h2.elim
      | ct => exact h2.elim
theorem ws_while {n : Nat} (Iv : Nat → Sl → Sto → Prop) (k : Nat) (hk : k < n) (h0 : Iv k sl st) (step : ∀ k sl st, Iv k sl st → WT t sl st fun x st => if x then WS s sl st (fun sl st => ∃ k', k' < k ∧ Iv k' sl st) R else N sl st) : WS (sWhile n t s) sl st N R := whLoop_ok Iv step n k sl st hk h0
/-! comprehensions that leave the store -/
theorem lcLoop_ok {A : Type} {as : List A} {enc : A → Val} {src : Src} (hs : SrcAt st src (as.map enc)) {vs : List Nat} (pp : A → Bool) (ff : A → Val)
    (step : ∀ x, x ∈ as → WG g (enc x) (wipe sl vs) st fun sl1 => WT t sl1 st fun y st' => y = pp x ∧ st' = st ∧ (pp x = true → WE a sl1 st fun v st' => v = ff x ∧ st' = st)) :
    ∀ (n i : Nat) (acc : List Val), i ≤ as.length → as.length ≤ n + i → acc.length ≤ i → as.length ≤ 100000 → lcLoop src vs g t a sl n i acc st = some (acc ++ ((as.drop i).filter pp).map ff, st)
  | n, i, acc, hi, hn, ha, hx => by
    unfold lcLoop
    rw [hs.1 i, List.getElem?_map]
    by_cases hlt : i < as.length
    · rw [List.getElem?_eq_getElem hlt]
      cases n with
      | zero => omega
      | succ n =>
        have ih := fun acc' h => lcLoop_ok hs pp ff step n (i + 1) acc' hlt (by omega) h hx
        obtain ⟨sl1, e1, ⟨y, st'⟩, e2, e3, e4, e5⟩ := step as[i] (List.getElem_mem hlt)
        have e2 : t sl1 st = some (pp as[i], st) := e2.trans (congrArg some (Prod.ext e3 e4))
        have hd : as.drop i = as[i] :: as.drop (i + 1) := by rw [List.getElem_cons_drop]
        simp only [Option.map_some, e1, e2, Option.bind_some]
        rw [hd]
        by_cases hp : pp as[i] = true
        · obtain ⟨⟨v, st'⟩, e6, e7, e8⟩ := e5 hp
          cases e7
          cases e8
          rw [if_pos hp, e6, List.filter_cons_of_pos hp]
          simp only [Option.bind_some]
          rw [if_pos (by omega), ih _ (by simp; omega)]
          simp
        · rw [if_neg hp, List.filter_cons_of_neg hp]
          exact ih acc (by omega)
    · rw [List.getElem?_eq_none (by omega), List.drop_eq_nil_of_le (by omega)]
      simp
/-- over a list that stands for another -/
theorem wl_lcA {w : I} {vs : List Nat} {A : Type} (as : List A) (enc : A → Val) (pp : A → Bool) (ff : A → Val) (hn : noOwn sl vs = true)
    (h : WI w sl st fun src st => SrcAt st src (as.map enc) ∧ as.length ≤ 100000 ∧ (∀ x, x ∈ as → WG g (enc x) (wipe sl vs) st fun sl1 => WT t sl1 st fun y st' => y = pp x ∧ st' = st ∧ (pp x = true → WE a sl1 st fun v st' => v = ff x ∧ st' = st)) ∧ QL ((as.filter pp).map ff) st) :
    WL (lComp w vs g t a) sl st QL := by
  show WO (if _ then _ else none) _
  refine wo_if hn (wo_bind (wo_mono h fun y h => ?_))
  obtain ⟨hs, hx, h1, h2⟩ := h
  refine ⟨_, lcLoop_ok hs pp ff h1 (y.1.len y.2) 0 [] (Nat.zero_le _) (by have := hs.2; rw [List.length_map] at this; omega) (Nat.le_refl _) hx, ?_⟩
  simpa using h2
/-- over a list that stands for another -/
theorem wl_lc {w : I} {vs : List Nat} {A : Type} (as : List A) (enc : A → Val) (pp : A → Bool) (ff : A → Val) (hn : noOwn sl vs = true)
    (h : WI w sl st fun src st => SrcIs src (as.map enc) ∧ as.length ≤ 100000 ∧ (∀ x, x ∈ as → WG g (enc x) (wipe sl vs) st fun sl1 => WT t sl1 st fun y st' => y = pp x ∧ st' = st ∧ (pp x = true → WE a sl1 st fun v st' => v = ff x ∧ st' = st)) ∧ QL ((as.filter pp).map ff) st) :
    WL (lComp w vs g t a) sl st QL := wl_lcA as enc pp ff hn (wo_mono h fun y h => ⟨h.1.at, h.2⟩)
theorem lcLoopS_ok {A : Type} {as : List A} {enc : A → Val} {src : Src} (hs : SrcIs src (as.map enc)) {vs : List Nat} (pp : A → Bool) (ff : A → Val)
    (step : ∀ x, x ∈ as → ∀ st, WG g (enc x) (wipe sl vs) st fun sl1 => WT t sl1 st fun y st' => y = pp x ∧ (pp x = true → WE a sl1 st' fun v _ => v = ff x)) :
    ∀ (n i : Nat) (acc : List Val) (st : Sto), i ≤ as.length → as.length ≤ n + i → acc.length ≤ i → as.length ≤ 100000 → ∃ st', lcLoop src vs g t a sl n i acc st = some (acc ++ ((as.drop i).filter pp).map ff, st')
  | n, i, acc, st, hi, hn, ha, hx => by
    unfold lcLoop
    rw [hs.1 st i, List.getElem?_map]
    by_cases hlt : i < as.length
    · rw [List.getElem?_eq_getElem hlt]
      cases n with
      | zero => omega
      | succ n =>
        have ih := fun acc' st h => lcLoopS_ok hs pp ff step n (i + 1) acc' st hlt (by omega) h hx
        obtain ⟨sl1, e1, ⟨y, st'⟩, e2, e3, e5⟩ := step as[i] (List.getElem_mem hlt) st
        have e2 : t sl1 st = some (pp as[i], st') := e2.trans (congrArg some (Prod.ext e3 rfl))
        have hd : as.drop i = as[i] :: as.drop (i + 1) := by rw [List.getElem_cons_drop]
        simp only [Option.map_some, e1, e2, Option.bind_some]
        rw [hd]
        by_cases hp : pp as[i] = true
        · obtain ⟨⟨v, st2⟩, e6, e7⟩ := e5 hp
          have e6 : a sl1 st' = some (ff as[i], st2) := e6.trans (congrArg some (Prod.ext e7 rfl))
          rw [if_pos hp, e6, List.filter_cons_of_pos hp]
          simp only [Option.bind_some]
          obtain ⟨st3, e8⟩ := ih (acc ++ [ff as[i]]) st2 (by simp; omega)
          rw [if_pos (by omega), e8]
          exact ⟨st3, by simp⟩
        · rw [if_neg hp, List.filter_cons_of_neg hp]
          exact ih acc st' (by omega)
    · rw [List.getElem?_eq_none (by omega), List.drop_eq_nil_of_le (by omega)]
      exact ⟨st, by simp⟩
/-- .. where the store may grow -/
theorem wl_lcS {w : I} {vs : List Nat} {A : Type} (as : List A) (enc : A → Val) (pp : A → Bool) (ff : A → Val) (hn : noOwn sl vs = true)
    (h : WI w sl st fun src st => SrcIs src (as.map enc) ∧ as.length ≤ 100000 ∧ (∀ x, x ∈ as → ∀ st, WG g (enc x) (wipe sl vs) st fun sl1 => WT t sl1 st fun y st' => y = pp x ∧ (pp x = true → WE a sl1 st' fun v _ => v = ff x)) ∧ ∀ st, QL ((as.filter pp).map ff) st) :
    WL (lComp w vs g t a) sl st QL := by
  show WO (if _ then _ else none) _
  refine wo_if hn (wo_bind (wo_mono h fun y h => ?_))
  obtain ⟨hs, hx, h1, h2⟩ := h
  obtain ⟨st', e⟩ := lcLoopS_ok hs pp ff h1 (y.1.len y.2) 0 [] y.2 (Nat.zero_le _) (by have := hs.2 y.2; rw [List.length_map] at this; omega) (Nat.le_refl _) hx
  refine ⟨_, e, ?_⟩
  simpa using h2 st'
theorem wl_lc0 {w : I} {vs : List Nat} (hn : noOwn sl vs = true) (h : WI w sl st fun src st => WO (lcLoop src vs g t a sl (src.len st) 0 [] st) fun p => QL p.1 p.2) : WL (lComp w vs g t a) sl st QL := by
  show WO (if _ then _ else none) _
  exact wo_if hn (wo_bind h)
theorem allBl_map {A : Type} (f : A → Bool) : ∀ as : List A, allBl (as.map fun x => .bl (f x)) = some (as.map f)
  | [] => rfl
  | x :: r => by
    show (allBl (r.map _)).bind _ = _
    rw [allBl_map f r] <;> rfl
/-- any([c for x in ..]), all(..) -/
theorem we_any {w : I} {vs : List Nat} {A : Type} (as : List A) (enc : A → Val) (ff : A → Bool) (hn : noOwn sl vs = true)
    (h : WI w sl st fun src st => SrcIs src (as.map enc) ∧ as.length ≤ 100000 ∧ (∀ x, x ∈ as → WG g (enc x) (wipe sl vs) st fun sl1 => WE a sl1 st fun v st' => v = .bl (ff x) ∧ st' = st) ∧ Q (.bl (as.any ff)) st) :
    WE (eAny (lComp w vs g tTrue a)) sl st Q := wo_bind (wo_mono (wl_lc (QL := fun xs st => xs = (as.filter fun _ => true).map (fun x => .bl (ff x)) ∧ Q (.bl (as.any ff)) st) as enc (fun _ => true) (fun x => .bl (ff x)) hn (wo_mono h fun y h => ⟨h.1, h.2.1, fun x hx => wo_mono (h.2.2.1 x hx) fun sl1 h => wo_some ⟨rfl, rfl, fun _ => h⟩, rfl, h.2.2.2⟩)) fun y h => by
    rw [h.1, List.filter_eq_self.mpr fun _ _ => rfl, allBl_map]
    exact wo_some (by simpa using h.2))
theorem we_all {w : I} {vs : List Nat} {A : Type} (as : List A) (enc : A → Val) (ff : A → Bool) (hn : noOwn sl vs = true)
    (h : WI w sl st fun src st => SrcIs src (as.map enc) ∧ as.length ≤ 100000 ∧ (∀ x, x ∈ as → WG g (enc x) (wipe sl vs) st fun sl1 => WE a sl1 st fun v st' => v = .bl (ff x) ∧ st' = st) ∧ Q (.bl (as.all ff)) st) :
    WE (eAll (lComp w vs g tTrue a)) sl st Q := wo_bind (wo_mono (wl_lc (QL := fun xs st => xs = (as.filter fun _ => true).map (fun x => .bl (ff x)) ∧ Q (.bl (as.all ff)) st) as enc (fun _ => true) (fun x => .bl (ff x)) hn (wo_mono h fun y h => ⟨h.1, h.2.1, fun x hx => wo_mono (h.2.2.1 x hx) fun sl1 h => wo_some ⟨rfl, rfl, fun _ => h⟩, rfl, h.2.2.2⟩)) fun y h => by
    rw [h.1, List.filter_eq_self.mpr fun _ _ => rfl, allBl_map]
    exact wo_some (by simpa using h.2))
theorem wt_yes (h : QT true st) : WT tTrue sl st QT := wo_some h
end
end Mi.Y

set_option Elab.async false
set_option linter.all false
set_option maxRecDepth 100000
set_option maxHeartbeats 1000000
/-! Mi, what the operations bring; lists of numbers. -/
namespace Mi.Y
open PySem L2

/-- a list of numbers; an account; a house -/
abbrev vI (ns : List Int) : Val := .lst (ns.map .int)
abbrev Acc := List Int × List Int
abbrev vA (p : Acc) : Val := .tup [vI p.1, vI p.2]
abbrev vH (h : List Acc) : Val := .lst (h.map vA)

section
variable {sl : Sl} {st : Sto} {Q : Val → Prop} {QL : List Val → Prop} {i j : Int} {x y : Val} {xs ys : List Val} {ns ms : List Int}
theorem wo_add (h : Q (.int (i + j))) : WO (oAdd st (.int i) (.int j)) Q := wo_some h
theorem wo_sub (h : Q (.int (i - j))) : WO (oSub st (.int i) (.int j)) Q := wo_some h
theorem wo_mod (hj : 0 < j) (h : Q (.int (i % j))) : WO (oMod st (.int i) (.int j)) Q := by
  show WO (if _ then _ else none) _
  exact wo_if (by simpa using hj) (wo_some h)
theorem wo_div (hj : 0 < j) (hk : j < 1073741824) (h : Q (.int (i / j))) : WO (oDiv st (.int i) (.int j)) Q := by
  show WO (if _ then _ else none) _
  exact wo_if (by simpa using ⟨hj, hk⟩) (wo_some h)
theorem wo_mul (hi : i.natAbs < big) (hj : j.natAbs < big) (h : Q (.int (i * j))) : WO (oMul st (.int i) (.int j)) Q := by
  show WO (if _ then _ else none) _
  exact wo_if (by rw [Bool.and_eq_true]; exact ⟨decide_eq_true hi, decide_eq_true hj⟩) (wo_some h)
theorem wo_pow (hj : 0 ≤ j) (hk : j ≤ 1000) (hi : i.natAbs < 2 ^ 64) (h : Q (.int (i ^ j.toNat))) : WO (oPow st (.int i) (.int j)) Q := by
  show WO (if _ then _ else none) _
  refine wo_if ?_ (wo_some h)
  rw [Bool.and_eq_true, Bool.and_eq_true]
  exact ⟨⟨decide_eq_true hj, decide_eq_true hk⟩, decide_eq_true hi⟩
theorem wo_lt (h : Q (.bl (decide (i < j)))) : WO (oLt st (.int i) (.int j)) Q := wo_some (by rw [ltB_eq i j]; exact h)
theorem wo_le (h : Q (.bl (decide (i ≤ j)))) : WO (oLe st (.int i) (.int j)) Q := wo_some (by rw [leB_eq i j]; exact h)
theorem wo_gt (h : Q (.bl (decide (j < i)))) : WO (oGt st (.int i) (.int j)) Q := wo_some (by show Q (.bl (ltB j i)); rw [ltB_eq]; exact h)
theorem wo_ge (h : Q (.bl (decide (j ≤ i)))) : WO (oGe st (.int i) (.int j)) Q := wo_some (by show Q (.bl (leB j i)); rw [leB_eq]; exact h)
theorem wo_neg (h : Q (.int (-i))) : WO (oNeg st (.int i)) Q := wo_some h
theorem wo_len (h : Q (.int (xs.length : Nat))) : WO (oLen st (.lst xs)) Q := wo_some h
theorem wo_lenI (h : Q (.int (ns.length : Nat))) : WO (oLen st (vI ns)) Q := by
  refine wo_len (xs := ns.map .int) ?_
  rw [List.length_map]
  exact h
theorem wo_lenH {hs : List Acc} (h : Q (.int (hs.length : Nat))) : WO (oLen st (vH hs)) Q := by
  refine wo_len (xs := hs.map vA) ?_
  rw [List.length_map]
  exact h
theorem wo_is {a b : Bool} (h : Q (.bl (a == b))) : WO (oIs st (.bl a) (.bl b)) Q := wo_some h
theorem wo_isn {a b : Bool} (h : Q (.bl (!(a == b)))) : WO (oIsn st (.bl a) (.bl b)) Q := wo_some h
theorem wo_addI (hl : ns.length + ms.length ≤ 100000) (h : Q (vI (ns ++ ms))) : WO (oAdd st (vI ns) (vI ms)) Q := by
  show WO (if _ then _ else none) _
  refine wo_if (by simpa using hl) (wo_some ?_)
  rw [← List.map_append]
  exact h
theorem wo_addL (hl : xs.length + ys.length ≤ 100000) (h : Q (.lst (xs ++ ys))) : WO (oAdd st (.lst xs) (.lst ys)) Q := by
  show WO (if _ then _ else none) _
  exact wo_if hl (wo_some h)
theorem wo_addI_of {zs : List Val} (e : zs = ns.map .int) (hl : ns.length + ms.length ≤ 100000) (h : Q (vI (ns ++ ms))) : WO (oAdd st (.lst zs) (vI ms)) Q := by
  subst e; exact wo_addI hl h
/-- a place by its number -/
theorem atI_nat {α : Type} {l : List α} {k : Nat} {a : α} (h : l[k]? = some a) : atI l (k : Nat) = some a := by
  have hk : k < l.length := (List.getElem?_eq_some_iff.mp h).1
  unfold atI ixN
  rw [if_pos (by omega), if_pos (by omega)]
  simpa using h
theorem atI_int {α : Type} {l : List α} {i : Int} {a : α} (h0 : 0 ≤ i) (h : l[i.toNat]? = some a) : atI l i = some a := by
  have := atI_nat h
  rwa [Int.toNat_of_nonneg h0] at this
theorem wo_ix {v : Val} (h0 : atI xs i = some v) (h : Q v) : WO (oIx st (.lst xs) (.int i)) Q := ⟨v, h0, h⟩
theorem wo_ixT {v : Val} (h0 : atI xs i = some v) (h : Q v) : WO (oIx st (.tup xs) (.int i)) Q := ⟨v, h0, h⟩
theorem wo_ixI (h0 : 0 ≤ i) {n : Int} (hn : ns[i.toNat]? = some n) (h : Q (.int n)) : WO (oIx st (vI ns) (.int i)) Q := wo_ix (atI_int h0 (by rw [List.getElem?_map, hn] <;> rfl)) h
theorem wo_ixH {hs : List Acc} (h0 : 0 ≤ i) {n : Acc} (hn : hs[i.toNat]? = some n) (h : Q (vA n)) : WO (oIx st (vH hs) (.int i)) Q := wo_ix (atI_int h0 (by rw [List.getElem?_map, hn] <;> rfl)) h
theorem wo_ixA0 {p : Acc} (h : Q (vI p.1)) : WO (oIx st (vA p) (.int 0)) Q := wo_ixT rfl h
theorem wo_ixA1 {p : Acc} (h : Q (vI p.2)) : WO (oIx st (vA p) (.int 1)) Q := wo_ixT rfl h
theorem wo_ixTI (ds : List Int) (h0 : 0 ≤ i) (h1 : i < (ds.length : Nat)) (h : ∀ d ∈ ds, Q (.int d)) : WO (oIx st (.tup (ds.map .int)) (.int i)) Q := by
  have : i.toNat < ds.length := by omega
  exact wo_ixT (atI_int h0 (by rw [List.getElem?_map, List.getElem?_eq_getElem this] <;> rfl)) (h _ (List.getElem_mem this))
theorem wo_lenR {r : Nat} (e : st[r]? = some (.lst xs)) (h : Q (.int (xs.length : Nat))) : WO (oLen st (.ref r)) Q := ⟨_, by unfold oLen; rw [view_refL e] <;> rfl, h⟩
theorem wo_ixR {r : Nat} {v : Val} (e : st[r]? = some (.lst xs)) (h0 : atI xs i = some v) (h : Q v) : WO (oIx st (.ref r) (.int i)) Q := ⟨v, by
  show (viewL st (.ref r)).bind _ = _
  rw [view_refL e]
  exact h0, h⟩
/-! in, == of numbers -/
theorem fin_int (i : Int) (ns : List Int) : fin (.int i) (ns.map .int) = decide (i ∈ ns) := by
  induction ns with
  | nil => rfl
  | cons n r ih =>
    show ((n == i) || fin (.int i) (r.map .int)) = _
    rw [ih, Bool.eq_iff_iff, Bool.or_eq_true, beq_iff_eq, decide_eq_true_eq, decide_eq_true_eq, List.mem_cons]
    exact or_congr_left eq_comm
theorem flats (ns : List Int) : (ns.map Val.int).all flat = true := by rw [List.all_map]; exact List.all_eq_true.mpr fun _ _ => rfl
theorem vin_int : vin st (.int i) (vI ns) = some (decide (i ∈ ns)) := by
  show (if _ then _ else _) = _
  rw [if_pos (by rw [flats]; rfl), fin_int]
theorem wo_in (h : Q (.bl (decide (i ∈ ns)))) : WO (oIn st (.int i) (vI ns)) Q := ⟨_, by unfold oIn; rw [vin_int] <;> rfl, h⟩
theorem wo_nin (h : Q (.bl (!decide (i ∈ ns)))) : WO (oNin st (.int i) (vI ns)) Q := ⟨_, by unfold oNin; rw [vin_int] <;> rfl, h⟩
theorem pd_ints {n : Nat} : ∀ ns : List Int, (ns.map Val.int).mapM (pd st (n + 1)) = some (ns.map PyData.int)
  | [] => rfl
  | m :: r => by
    rw [List.map_cons, List.mapM_cons, pd_ints r] <;> rfl
theorem eqvAll_ints : ∀ ns ms : List Int, PyData.eqvAll (ns.map PyData.int) (ms.map PyData.int) = decide (ns = ms)
  | [], [] => by rw [List.map_nil, PyData.eqvAll] <;> rfl
  | [], m :: r => by rw [List.map_nil, List.map_cons, PyData.eqvAll] <;> rfl
  | m :: r, [] => by rw [List.map_nil, List.map_cons, PyData.eqvAll] <;> rfl
  | n :: r, m :: r' => by
    rw [List.map_cons, List.map_cons, PyData.eqvAll, eqvAll_ints r r', PyData.eqv, Bool.eq_iff_iff]
    simp
theorem veq_ints : veq st (vI ns) (vI ms) = some (decide (ns = ms)) := by
  unfold veq
  have h : ∀ ns, pd st deep (vI ns) = some (.list (ns.map PyData.int)) := fun ns => by
    show ((ns.map Val.int).mapM (pd st 19)).map _ = _
    rw [pd_ints] <;> rfl
  rw [h, h]
  show some (PyData.eqv (.list _) (.list _)) = _
  rw [PyData.eqv, eqvAll_ints]
theorem wo_eqI (h : Q (.bl (decide (ns = ms)))) : WO (oEq st (vI ns) (vI ms)) Q := ⟨_, by unfold oEq; rw [veq_ints] <;> rfl, h⟩
theorem wo_neI (h : Q (.bl (!decide (ns = ms)))) : WO (oNe st (vI ns) (vI ms)) Q := ⟨_, by unfold oNe; rw [veq_ints] <;> rfl, h⟩
theorem veq_int : veq st (.int i) (.int j) = some (decide (i = j)) := by
  show some (PyData.eqv (.int i) (.int j)) = _
  rw [PyData.eqv] <;> rfl
theorem wo_eq (h : Q (.bl (decide (i = j)))) : WO (oEq st (.int i) (.int j)) Q := ⟨_, by unfold oEq; rw [veq_int] <;> rfl, h⟩
theorem wo_ne (h : Q (.bl (!decide (i = j)))) : WO (oNe st (.int i) (.int j)) Q := ⟨_, by unfold oNe; rw [veq_int] <;> rfl, h⟩
theorem veq_bl {a b : Bool} : veq st (.bl a) (.bl b) = some (a == b) := by
  show some (PyData.eqv (.bool a) (.bool b)) = _
  rw [PyData.eqv] <;> rfl
theorem wo_eqB {a b : Bool} (h : Q (.bl (a == b))) : WO (oEq st (.bl a) (.bl b)) Q := ⟨_, by unfold oEq; rw [veq_bl] <;> rfl, h⟩
theorem wo_neB {a b : Bool} (h : Q (.bl (!(a == b)))) : WO (oNe st (.bl a) (.bl b)) Q := ⟨_, by unfold oNe; rw [veq_bl] <;> rfl, h⟩
theorem pd_bls {n : Nat} : ∀ ns : List Bool, (ns.map Val.bl).mapM (pd st (n + 1)) = some (ns.map PyData.bool)
  | [] => rfl
  | m :: r => by
    rw [List.map_cons, List.mapM_cons, pd_bls r] <;> rfl
theorem eqvAll_bls : ∀ ns ms : List Bool, PyData.eqvAll (ns.map PyData.bool) (ms.map PyData.bool) = decide (ns = ms)
  | [], [] => by rw [List.map_nil, PyData.eqvAll] <;> rfl
  | [], m :: r => by rw [List.map_nil, List.map_cons, PyData.eqvAll] <;> rfl
  | m :: r, [] => by rw [List.map_nil, List.map_cons, PyData.eqvAll] <;> rfl
  | n :: r, m :: r' => by
    rw [List.map_cons, List.map_cons, PyData.eqvAll, eqvAll_bls r r', PyData.eqv, Bool.eq_iff_iff]
    simp
theorem veq_bls {bs cs : List Bool} : veq st (.lst (bs.map .bl)) (.lst (cs.map .bl)) = some (decide (bs = cs)) := by
  unfold veq
  have h : ∀ ns : List Bool, pd st deep (.lst (ns.map .bl)) = some (.list (ns.map PyData.bool)) := fun ns => by
    show ((ns.map Val.bl).mapM (pd st 19)).map _ = _
    rw [pd_bls] <;> rfl
  rw [h, h]
  show some (PyData.eqv (.list _) (.list _)) = _
  rw [PyData.eqv, eqvAll_bls]
theorem wo_neBs_of {ys zs : List Val} {bs cs : List Bool} (e : ys = bs.map .bl) (e' : zs = cs.map .bl) (h : Q (.bl (!decide (bs = cs)))) : WO (oNe st (.lst ys) (.lst zs)) Q := by
  subst e; subst e'
  exact ⟨_, by unfold oNe; rw [veq_bls] <;> rfl, h⟩
theorem wo_rep {k : Nat} (hl : xs.length * k ≤ 100000) (hk : k ≤ 1000000) (h : QL (List.replicate k xs).flatten) : WO (oRep st (.lst xs) (.int (k : Nat))) QL := by
  show WO (if _ then _ else none) _
  exact wo_if ⟨by omega, by omega, by simpa using hl⟩ (wo_some (by simpa using h))
/-! new lists -/
theorem allInt_ints : ∀ ns : List Int, allInt (ns.map .int) = some ns
  | [] => rfl
  | n :: r => by
    show (allInt (r.map .int)).bind _ = _
    rw [allInt_ints r] <;> rfl
theorem wo_list (h : QL (ns.map .int)) : WO (oList st (vI ns)) QL := wo_some h
theorem wo_rev (h : QL (ns.reverse.map .int)) : WO (oRev st (vI ns)) QL := wo_some (by rw [← List.map_reverse]; exact h)
theorem wo_sort (h : QL ((sortI ns).map .int)) : WO (oSort st (vI ns)) QL := ⟨_, by show (allInt (ns.map .int)).bind _ = _; rw [allInt_ints] <;> rfl, h⟩
theorem wo_sortU (hl : ns.length < 64) (h : QL ((sortU ns).map .int)) : WO (oSortU st (vI ns)) QL := ⟨_, by
  show (allInt (ns.map .int)).bind _ = _
  rw [allInt_ints]
  exact if_pos hl, h⟩
theorem wo_rg1 (hi : -1000000 ≤ i ∧ i ≤ 100000) (h : QL (((List.range i.toNat).map fun n => ((n : Nat) : Int)).map .int)) : WO (oRg1 st (.int i)) QL := by
  show WO (if _ then _ else none) _
  refine wo_if hi (wo_some ?_)
  rw [List.map_map] at h
  exact h
theorem cut_map {α β : Type} (f : α → β) (l : List α) (a b : Option Int) : cut (l.map f) a b = (cut l a b).map f := by
  unfold cut
  rw [List.length_map, List.map_take, List.map_drop]
theorem cut_length {α : Type} (l : List α) (a b : Option Int) : (cut l a b).length ≤ l.length := by
  unfold cut
  rw [List.length_take, List.length_drop]
  omega
theorem rng_at {lo : Int} {n k : Nat} {x : Val} (h : ((List.range n).map fun i => Val.int (lo + (i : Nat)))[k]? = some x) : x = .int (lo + (k : Nat)) ∧ k < n := by
  rw [List.getElem?_map] at h
  by_cases hk : k < n
  · rw [List.getElem?_range hk] at h
    cases h
    exact ⟨rfl, hk⟩
  · rw [List.getElem?_eq_none (by rw [List.length_range]; omega)] at h
    cases h
theorem rng_len {lo : Int} {n : Nat} : ((List.range n).map fun i => Val.int (lo + (i : Nat))).length = n := by rw [List.length_map, List.length_range]
theorem map_at {A : Type} {f : A → Val} {l : List A} {k : Nat} {x : Val} (h : (l.map f)[k]? = some x) : ∃ a, x = f a ∧ l[k]? = some a ∧ a ∈ l := by
  rw [List.getElem?_map] at h
  cases e : l[k]? with
  | none => rw [e] at h; cases h
  | some a => rw [e] at h; cases h; exact ⟨a, rfl, rfl, List.mem_of_getElem? e⟩
/-! sorting -/
theorem insI_perm (i : Int) : ∀ l, (insI i l).Perm (i :: l)
  | [] => .refl _
  | j :: r => by
    unfold insI
    split
    · exact .refl _
    · exact ((insI_perm i r).cons j).trans (.swap i j r)
theorem sortI_perm : ∀ l, (sortI l).Perm l
  | [] => .refl _
  | i :: r => (insI_perm i _).trans ((sortI_perm r).cons i)
theorem mem_insU {i k : Int} : ∀ {l : List Int}, k ∈ insU i l ↔ k = i ∨ k ∈ l
  | [] => by unfold insU; simp
  | j :: r => by
    unfold insU
    split
    · simp
    · split
      · rename_i h
        subst h
        simp
      · rw [List.mem_cons, mem_insU, List.mem_cons]
        constructor <;> rintro (h | h | h) <;> simp [h]
theorem mem_sortU {k : Int} : ∀ {l : List Int}, k ∈ sortU l ↔ k ∈ l
  | [] => .rfl
  | i :: r => by unfold sortU; rw [mem_insU, mem_sortU, List.mem_cons]
theorem insU_lt (i : Int) : ∀ {l : List Int}, l.Pairwise (· < ·) → (insU i l).Pairwise (· < ·)
  | [], _ => by unfold insU; exact List.pairwise_singleton _ _
  | j :: r, h => by
    unfold insU
    rw [List.pairwise_cons] at h
    split
    · rename_i hl
      refine List.pairwise_cons.mpr ⟨fun k hk => ?_, List.pairwise_cons.mpr h⟩
      rcases List.mem_cons.mp hk with z | z
      · rw [z]; exact hl
      · exact Int.lt_trans hl (h.1 k z)
    · split
      · exact List.pairwise_cons.mpr h
      · refine List.pairwise_cons.mpr ⟨fun k hk => ?_, insU_lt i h.2⟩
        rcases mem_insU.mp hk with z | z
        · rw [z]; omega
        · exact h.1 k z
theorem sortU_lt : ∀ l : List Int, (sortU l).Pairwise (· < ·)
  | [] => .nil
  | i :: r => insU_lt i (sortU_lt r)
theorem sortU_nodup (l : List Int) : (sortU l).Nodup := (sortU_lt l).imp fun h => Int.ne_of_lt h
theorem insU_len (i : Int) : ∀ l, (insU i l).length ≤ l.length + 1
  | [] => by unfold insU; simp
  | j :: r => by
    have := insU_len i r
    unfold insU
    split
    · simp
    · split <;> simp <;> omega
theorem sortU_len : ∀ l : List Int, (sortU l).length ≤ l.length
  | [] => Nat.le_refl _
  | i :: r => by
    have := sortU_len r
    have := insU_len i (sortU r)
    unfold sortU
    simp
    omega
/-- numbers in a range, none twice: so many at most -/
theorem few : ∀ {n : Nat} {l : List Int}, l.Nodup → (∀ x ∈ l, 0 ≤ x ∧ x < (n : Nat)) → l.length ≤ n
  | 0, [], _, _ => Nat.le_refl _
  | 0, x :: r, _, h => by have := h x (List.mem_cons_self ..); omega
  | n + 1, l, hn, h => by
    have h1 : (l.erase (n : Nat)).length ≤ n := few (hn.erase _) fun x hx => by
      have h2 := (hn.mem_erase_iff).mp hx
      have := h x h2.2
      have := h2.1
      omega
    have h3 := List.length_erase (a := ((n : Nat) : Int)) (l := l)
    rw [h3] at h1
    split at h1 <;> omega
/-- numbers below eight, each once -/
def Good (bs : List Int) : Prop := bs.Nodup ∧ ∀ x ∈ bs, 0 ≤ x ∧ x < 8
theorem Good.few {bs : List Int} (h : Good bs) : bs.length ≤ 8 := Y.few (n := 8) h.1 h.2
theorem Good.nil : Good [] := ⟨.nil, fun x h => by cases h⟩
theorem Good.sort {bs : List Int} (h : Good bs) : Good (sortI bs) := ⟨(sortI_perm bs).nodup_iff.mpr h.1, fun x hx => h.2 x ((sortI_perm bs).mem_iff.mp hx)⟩
theorem Good.sortU {bs : List Int} (h : ∀ x ∈ bs, 0 ≤ x ∧ x < 8) : Good (sortU bs) := ⟨sortU_nodup bs, fun x hx => h x (mem_sortU.mp hx)⟩
theorem Good.snoc {bs : List Int} (h : Good bs) {r : Int} (hn : r ∉ bs) (h0 : 0 ≤ r) (h8 : r < 8) : Good (bs ++ [r]) := ⟨List.nodup_append.mpr ⟨h.1, List.pairwise_singleton _ _, fun a ha b hb e => by
  rw [List.mem_singleton] at hb
  exact hn (hb ▸ e ▸ ha)⟩, fun x hx => by
  rcases List.mem_append.mp hx with z | z
  · exact h.2 x z
  · rw [List.mem_singleton] at z
    rw [z]; exact ⟨h0, h8⟩⟩
theorem decide_congr_eq {p q : Prop} [Decidable p] [Decidable q] (h : p = q) : decide p = decide q := decide_eq_decide.mpr (iff_of_eq h)
theorem atI_neg1 {α : Type} {l : List α} {a : α} (h0 : 0 < l.length) (h : l[l.length - 1]? = some a) : atI l (-1) = some a := by
  unfold atI ixN
  rw [if_neg (by omega), if_pos (by omega)]
  show l[_]? = _
  rw [← h]
  congr 1
  omega
theorem cut_last (l : List Int) : cut (l.map Val.int) (some (-1)) none = (l.drop (l.length - 1)).map .int := by
  rw [cut_map]
  congr 1
  have e : HT.sIx l.length 0 (some (-1)) = l.length - 1 := by
    show (if (-1 : Int) < 0 then ((-1 : Int) + (l.length : Int)).toNat else min (-1 : Int).toNat l.length) = _
    rw [if_pos (by decide)]
    omega
  unfold cut
  rw [e]
  exact List.take_of_length_le (by rw [List.length_drop, HT.sIx_none]; omega)
theorem last_one {l : List Int} {a : Int} : decide (l.drop (l.length - 1) = [a]) = decide (l.getLast? = some a) := by
  refine decide_eq_decide.mpr ?_
  cases h : l.length with
  | zero => rw [List.length_eq_zero_iff.mp h]; simp
  | succ n =>
    have hn : n < l.length := by omega
    rw [List.getLast?_eq_getElem?, h, Nat.add_sub_cancel, List.getElem?_eq_getElem hn, List.drop_eq_getElem_cons hn, List.drop_eq_nil_of_le (by omega)]
    simp
theorem wo_eqI_of {ys : List Val} (e : ys = ns.map .int) (h : Q (.bl (decide (ns = ms)))) : WO (oEq st (.lst ys) (vI ms)) Q := by
  subst e; exact wo_eqI h
end
end Mi.Y

set_option Elab.async false
set_option linter.all false
set_option maxRecDepth 100000
set_option maxHeartbeats 1000000
/-! Mi: a door as it stands in the store. -/
namespace Mi.Y
open PySem L2

/-- a code: whose, when it was asked, whether it is open still -/
structure Code where
  own : Int
  born : Int
  op : Bool
def vC (c : Code) : List Val := [.int c.own, .int c.born, .bl c.op]
/-- what a door holds -/
structure DS where
  many : Int
  kind : Str
  life : Int
  tries : Int
  gone : Int
  codes : List Code
  wrong : List Int
  boxes : List (List Int)
  lines : List Val
/-- where its parts stand -/
structure DA where
  d : Nat
  s : Nat
  c : Nat
  w : Nat
  b : Nat
  l : Nat
  cr : List Nat
  br : List Nat
def DA.foot (A : DA) : List Nat := [A.d, A.s, A.c, A.w, A.b, A.l] ++ (A.cr ++ A.br)
/-- places that hold these -/
def Holds (st : Sto) : List Nat → List (List Val) → Prop
  | [], [] => True
  | r :: rs, x :: xs => st[r]? = some (.lst x) ∧ Holds st rs xs
  | _, _ => False
def insS (A : DA) (D : DS) : Cell := .ins 0 [.int D.many, .str D.kind, .int D.life, .int D.tries, .int D.gone, .ref A.c, .ref A.w, .ref A.b]
structure DoorAt (st : Sto) (A : DA) (D : DS) : Prop where
  d : st[A.d]? = some (.ins 1 [.ref A.s, .ref A.l])
  s : st[A.s]? = some (insS A D)
  c : st[A.c]? = some (.lst (A.cr.map .ref))
  w : st[A.w]? = some (.lst (D.wrong.map .int))
  b : st[A.b]? = some (.lst (A.br.map .ref))
  l : st[A.l]? = some (.lst D.lines)
  cs : Holds st A.cr (D.codes.map vC)
  bs : Holds st A.br (D.boxes.map fun x => x.map .int)
  nd : A.foot.Nodup
section
variable {st st' : Sto} {A : DA} {D : DS}
theorem Holds.len : ∀ {rs : List Nat} {xs : List (List Val)}, Holds st rs xs → rs.length = xs.length
  | [], [], _ => rfl
  | r :: rs, x :: xs, h => by simp [Holds.len h.2]
  | [], _ :: _, h => h.elim
  | _ :: _, [], h => h.elim
theorem Holds.at : ∀ {rs : List Nat} {xs : List (List Val)} {i r : Nat} {x : List Val}, Holds st rs xs → rs[i]? = some r → xs[i]? = some x → st[r]? = some (.lst x)
  | [], [], _, _, _, _, h, _ => by cases h
  | r :: rs, x :: xs, 0, _, _, h, h1, h2 => by cases h1; cases h2; exact h.1
  | r :: rs, x :: xs, i + 1, _, _, h, h1, h2 => Holds.at h.2 h1 h2
  | [], _ :: _, _, _, _, h, _, _ => h.elim
  | _ :: _, [], _, _, _, h, _, _ => h.elim
theorem Holds.same : ∀ {rs : List Nat} {xs : List (List Val)}, Holds st rs xs → (∀ r ∈ rs, st'[r]? = st[r]?) → Holds st' rs xs
  | [], [], h, _ => h
  | r :: rs, x :: xs, h, e => ⟨(e r (List.mem_cons_self ..)).trans h.1, Holds.same h.2 fun q hq => e q (List.mem_cons_of_mem _ hq)⟩
  | [], _ :: _, h, _ => h.elim
  | _ :: _, [], h, _ => h.elim
theorem Holds.lt : ∀ {rs : List Nat} {xs : List (List Val)}, Holds st rs xs → ∀ r ∈ rs, r < st.length
  | [], [], _, _, hr => by cases hr
  | r :: rs, x :: xs, h, q, hq => by
    rcases List.mem_cons.mp hq with e | e
    · rw [e]; exact (List.getElem?_eq_some_iff.mp h.1).1
    · exact Holds.lt h.2 q e
  | [], _ :: _, h, _, _ => h.elim
  | _ :: _, [], h, _, _ => h.elim
theorem Holds.snoc {r : Nat} {x : List Val} (hx : st[r]? = some (.lst x)) : ∀ {rs : List Nat} {xs : List (List Val)}, Holds st rs xs → Holds st (rs ++ [r]) (xs ++ [x])
  | [], [], _ => ⟨hx, trivial⟩
  | _ :: _, _ :: _, h => ⟨h.1, Holds.snoc hx h.2⟩
  | [], _ :: _, h => h.elim
  | _ :: _, [], h => h.elim
/-- the door reads its own places alone -/
theorem DoorAt.same (h : DoorAt st A D) (e : ∀ r ∈ A.foot, st'[r]? = st[r]?) : DoorAt st' A D where
  d := (e _ (by simp [DA.foot])).trans h.d
  s := (e _ (by simp [DA.foot])).trans h.s
  c := (e _ (by simp [DA.foot])).trans h.c
  w := (e _ (by simp [DA.foot])).trans h.w
  b := (e _ (by simp [DA.foot])).trans h.b
  l := (e _ (by simp [DA.foot])).trans h.l
  cs := h.cs.same fun r hr => e r (by simp [DA.foot, hr])
  bs := h.bs.same fun r hr => e r (by simp [DA.foot, hr])
  nd := h.nd
theorem lt_of_some {r : Nat} {c : Cell} (h : st[r]? = some c) : r < st.length := (List.getElem?_eq_some_iff.mp h).1
theorem DoorAt.lt (h : DoorAt st A D) : ∀ r ∈ A.foot, r < st.length := by
  intro r hr
  simp only [DA.foot, List.cons_append, List.nil_append, List.mem_cons, List.mem_append] at hr
  rcases hr with e | e | e | e | e | e | e | e
  · rw [e]; exact lt_of_some h.d
  · rw [e]; exact lt_of_some h.s
  · rw [e]; exact lt_of_some h.c
  · rw [e]; exact lt_of_some h.w
  · rw [e]; exact lt_of_some h.b
  · rw [e]; exact lt_of_some h.l
  · exact h.cs.lt r e
  · exact h.bs.lt r e
theorem DoorAt.push (h : DoorAt st A D) (c : Cell) : DoorAt (st ++ [c]) A D := h.same fun r hr => by rw [List.getElem?_append_left (h.lt r hr)]
theorem set_ne {r q : Nat} {c : Cell} (h : r ≠ q) : (st.set q c)[r]? = st[r]? := List.getElem?_set_ne (Ne.symm h)
theorem set_at {r : Nat} {c : Cell} (h : r < st.length) : (st.set r c)[r]? = some c := List.getElem?_set_self h
theorem DoorAt.else (h : DoorAt st A D) {q : Nat} {c : Cell} (hq : q ∉ A.foot) : DoorAt (st.set q c) A D := h.same fun r hr => set_ne fun e => hq (e ▸ hr)
/-- what Nodup says of the parts -/
theorem DoorAt.ne (h : DoorAt st A D) : (A.d ≠ A.s ∧ A.d ≠ A.c ∧ A.d ≠ A.w ∧ A.d ≠ A.b ∧ A.d ≠ A.l) ∧ (A.s ≠ A.c ∧ A.s ≠ A.w ∧ A.s ≠ A.b ∧ A.s ≠ A.l) ∧ (A.c ≠ A.w ∧ A.c ≠ A.b ∧ A.c ≠ A.l) ∧ (A.w ≠ A.b ∧ A.w ≠ A.l) ∧ A.b ≠ A.l := by
  have := h.nd
  simp only [DA.foot, List.cons_append, List.nil_append, List.nodup_cons, List.mem_cons, not_or] at this
  obtain ⟨⟨a1, a2, a3, a4, a5, _⟩, ⟨b1, b2, b3, b4, _⟩, ⟨c1, c2, c3, _⟩, ⟨d1, d2, _⟩, ⟨e1, _⟩, _⟩ := this
  exact ⟨⟨a1, a2, a3, a4, a5⟩, ⟨b1, b2, b3, b4⟩, ⟨c1, c2, c3⟩, ⟨d1, d2⟩, e1⟩
theorem DoorAt.nc (h : DoorAt st A D) : ∀ r ∈ A.cr, r ≠ A.d ∧ r ≠ A.s ∧ r ≠ A.c ∧ r ≠ A.w ∧ r ≠ A.b ∧ r ≠ A.l := by
  intro r hr
  have := h.nd
  simp only [DA.foot, List.cons_append, List.nil_append, List.nodup_cons, List.mem_cons, List.mem_append, not_or] at this
  obtain ⟨⟨_, _, _, _, _, a, _⟩, ⟨_, _, _, _, b, _⟩, ⟨_, _, _, c, _⟩, ⟨_, _, d, _⟩, ⟨_, e, _⟩, ⟨f, _⟩, _⟩ := this
  exact ⟨fun z => a (z ▸ hr), fun z => b (z ▸ hr), fun z => c (z ▸ hr), fun z => d (z ▸ hr), fun z => e (z ▸ hr), fun z => f (z ▸ hr)⟩
theorem DoorAt.nb (h : DoorAt st A D) : ∀ r ∈ A.br, r ≠ A.d ∧ r ≠ A.s ∧ r ≠ A.c ∧ r ≠ A.w ∧ r ≠ A.b ∧ r ≠ A.l := by
  intro r hr
  have := h.nd
  simp only [DA.foot, List.cons_append, List.nil_append, List.nodup_cons, List.mem_cons, List.mem_append, not_or] at this
  obtain ⟨⟨_, _, _, _, _, _, a⟩, ⟨_, _, _, _, _, b⟩, ⟨_, _, _, _, c⟩, ⟨_, _, _, d⟩, ⟨_, _, e⟩, ⟨_, f⟩, _⟩ := this
  exact ⟨fun z => a (z ▸ hr), fun z => b (z ▸ hr), fun z => c (z ▸ hr), fun z => d (z ▸ hr), fun z => e (z ▸ hr), fun z => f (z ▸ hr)⟩
/-! one part is written -/
theorem DoorAt.setS (h : DoorAt st A D) (g : Int) : DoorAt (st.set A.s (insS A { D with gone := g })) A { D with gone := g } := by
  obtain ⟨⟨a1, a2, a3, a4, a5⟩, ⟨b1, b2, b3, b4⟩, _⟩ := h.ne
  exact ⟨by rw [set_ne a1]; exact h.d, set_at (lt_of_some h.s), by rw [set_ne b1.symm]; exact h.c, by rw [set_ne b2.symm]; exact h.w, by rw [set_ne b3.symm]; exact h.b, by rw [set_ne b4.symm]; exact h.l,
    h.cs.same fun r hr => set_ne (h.nc r hr).2.1, h.bs.same fun r hr => set_ne (h.nb r hr).2.1, h.nd⟩
theorem DoorAt.setW (h : DoorAt st A D) (g : List Int) : DoorAt (st.set A.w (.lst (g.map .int))) A { D with wrong := g } := by
  obtain ⟨⟨a1, a2, a3, a4, a5⟩, ⟨b1, b2, b3, b4⟩, ⟨c1, c2, c3⟩, ⟨d1, d2⟩, e1⟩ := h.ne
  exact ⟨by rw [set_ne a3]; exact h.d, by rw [set_ne b2]; exact h.s, by rw [set_ne c1]; exact h.c, set_at (lt_of_some h.w), by rw [set_ne d1.symm]; exact h.b, by rw [set_ne d2.symm]; exact h.l,
    h.cs.same fun r hr => set_ne (h.nc r hr).2.2.2.1, h.bs.same fun r hr => set_ne (h.nb r hr).2.2.2.1, h.nd⟩
theorem DoorAt.setL (h : DoorAt st A D) (g : List Val) : DoorAt (st.set A.l (.lst g)) A { D with lines := g } := by
  obtain ⟨⟨a1, a2, a3, a4, a5⟩, ⟨b1, b2, b3, b4⟩, ⟨c1, c2, c3⟩, ⟨d1, d2⟩, e1⟩ := h.ne
  exact ⟨by rw [set_ne a5]; exact h.d, by rw [set_ne b4]; exact h.s, by rw [set_ne c3]; exact h.c, by rw [set_ne d2]; exact h.w, by rw [set_ne e1]; exact h.b, set_at (lt_of_some h.l),
    h.cs.same fun r hr => set_ne (h.nc r hr).2.2.2.2.2, h.bs.same fun r hr => set_ne (h.nb r hr).2.2.2.2.2, h.nd⟩
/-- a new code, at the end of the store -/
theorem DoorAt.addC (h : DoorAt st A D) (q : Code) : DoorAt (List.set (α := Cell) (st ++ [Cell.lst (vC q)]) A.c (.lst (A.cr.map Val.ref ++ [Val.ref st.length]))) { A with cr := A.cr ++ [st.length] } { D with codes := D.codes ++ [q] } := by
  obtain ⟨⟨a1, a2, a3, a4, a5⟩, ⟨b1, b2, b3, b4⟩, ⟨c1, c2, c3⟩, ⟨d1, d2⟩, e1⟩ := h.ne
  have p := h.push (.lst (vC q))
  have hl : st.length ∉ A.foot := fun z => Nat.lt_irrefl _ (h.lt _ z)
  have hc := lt_of_some h.c
  refine ⟨by rw [set_ne a2]; exact p.d, by rw [set_ne b1]; exact p.s, by rw [set_at (by simp; omega)]; simp, by rw [set_ne c1.symm]; exact p.w, by rw [set_ne c2.symm]; exact p.b, by rw [set_ne c3.symm]; exact p.l, ?_, p.bs.same fun r hr => set_ne (h.nb r hr).2.2.1, ?_⟩
  · show Holds _ (A.cr ++ [st.length]) ((D.codes ++ [q]).map vC)
    rw [List.map_append]
    exact (p.cs.same fun r hr => set_ne (h.nc r hr).2.2.1).snoc (by rw [set_ne (by omega), List.getElem?_append_right (Nat.le_refl _), Nat.sub_self]; rfl)
  · have e : ({ A with cr := A.cr ++ [st.length] } : DA).foot = [A.d, A.s, A.c, A.w, A.b, A.l] ++ ((A.cr ++ [st.length]) ++ A.br) := rfl
    have pe : ([A.d, A.s, A.c, A.w, A.b, A.l] ++ ((A.cr ++ [st.length]) ++ A.br)).Perm (st.length :: A.foot) := by
      unfold DA.foot
      have h1 : ((A.cr ++ [st.length]) ++ A.br).Perm (st.length :: (A.cr ++ A.br)) := by
        rw [List.append_assoc]
        exact List.perm_middle
      exact (h1.append_left _).trans List.perm_middle
    rw [e]
    exact pe.nodup_iff.mpr (List.nodup_cons.mpr ⟨hl, h.nd⟩)
end
end Mi.Y

set_option Elab.async false
set_option linter.all false
set_option maxRecDepth 100000
set_option maxHeartbeats 1000000
/-! Mi: words for stores at a place; how a door goes on; what a door tells, plainly. -/
namespace Mi.Y
open PySem L2
section
variable {sl : Sl} {st : Sto} {N : Sl → Sto → Prop} {R : Val → Sto → Prop} {QG : Sl → Prop} {o i a : E} {gs : Gs} {C k n : Nat}
theorem ws_sub (h : WE a sl st fun v st => WE o sl st fun x st => WE i sl st fun y st => ∃ r xs k j, x = .ref r ∧ y = .int k ∧ st[r]? = some (.lst xs) ∧ ixN xs.length k = some j ∧ N sl (st.set r (.lst (xs.set j v)))) : WS (sSub o i a) sl st N R :=
  wo_bind (wo_mono h fun _ h => wo_bind (wo_mono h fun x h => wo_bind (wo_mono h fun y h => by
    obtain ⟨r, xs, k, j, e1, e2, e3, e4, h⟩ := h
    obtain ⟨x, st1⟩ := x
    obtain ⟨y, st2⟩ := y
    cases e1; cases e2
    show WO (match st2[r]? with | some (.lst xs) => _ | _ => none) _
    rw [e3]
    show WO (match ixN xs.length k with | some j => _ | none => none) _
    rw [e4]
    exact wo_some h)))
theorem ws_subA (h : WE o sl st fun x st => WE i sl st fun y st => ∃ r xs k n, x = .ref r ∧ y = .int k ∧ st[r]? = some (.lst xs) ∧ atI xs k = some (.int n) ∧ WE a sl st fun v st => ∃ m ys j, v = .int m ∧ st[r]? = some (.lst ys) ∧ ixN ys.length k = some j ∧ N sl (st.set r (.lst (ys.set j (.int (n + m)))))) : WS (sSubA o i a) sl st N R :=
  wo_bind (wo_mono h fun x h => wo_bind (wo_mono h fun y h => by
    obtain ⟨r, xs, k, n, e1, e2, e3, e4, h⟩ := h
    obtain ⟨x, st1⟩ := x
    obtain ⟨y, st2⟩ := y
    cases e1; cases e2
    show WO (match st2[r]? with | some (.lst xs) => _ | _ => none) _
    rw [e3]
    show WO (match atI xs k with | some (.int x) => _ | _ => none) _
    rw [e4]
    refine wo_bind (wo_mono h fun z h => ?_)
    obtain ⟨m, ys, j, e5, e6, e7, h⟩ := h
    obtain ⟨z, st3⟩ := z
    cases e5
    show WO (match st3[r]? with | some (.lst ys) => _ | _ => none) _
    rw [e6]
    show WO (match ixN ys.length k with | some j => _ | none => none) _
    rw [e7]
    exact wo_some h))
theorem ws_fldA (h : WE o sl st fun x st => ∃ r vs n, x = .ref r ∧ st[r]? = some (.ins C vs) ∧ vs[k]? = some (.int n) ∧ WE a sl st fun v st => ∃ m ws, v = .int m ∧ st[r]? = some (.ins C ws) ∧ k < ws.length ∧ N sl (st.set r (.ins C (ws.set k (.int (n + m)))))) : WS (sFldA C k o a) sl st N R :=
  wo_bind (wo_mono h fun x h => by
    obtain ⟨r, vs, n, e1, e2, e3, h⟩ := h
    obtain ⟨x, st1⟩ := x
    cases e1
    show WO (match st1[r]? with | some (.ins D vs) => _ | _ => none) _
    rw [e2]
    show WO (if C = C then match vs[k]? with | some (.int x) => _ | _ => none else none) _
    rw [if_pos rfl, e3]
    refine wo_bind (wo_mono h fun z h => ?_)
    obtain ⟨m, ws, e4, e5, e6, h⟩ := h
    obtain ⟨z, st2⟩ := z
    cases e4
    show WO (match st2[r]? with | some (.ins D' ws) => _ | _ => none) _
    rw [e5]
    exact wo_if ⟨rfl, e6⟩ (wo_some h))
theorem wg_unl {xs : List Val} {r : Nat} (e : st[r]? = some (.lst xs)) (hl : xs.length = n) (h : WGs gs xs sl st QG) : WG (gUnl n gs) (.ref r) sl st QG := by
  show WO (match st[r]? with | some (.lst xs) => _ | _ => none) _
  rw [e]
  exact wo_if hl h
theorem wg_unlV {xs : List Val} (hl : xs.length = n) (h : WGs gs xs sl st QG) : WG (gUnl n gs) (.lst xs) sl st QG := by
  show WO (if _ then _ else none) _
  exact wo_if hl h
theorem forLoop_okR {src : Src} {g : G} {s : S} {xs : List Val} (Iv : Nat → Sl → Sto → Prop) (hs : ∀ i sl st, Iv i sl st → ∀ j, src.item st j = some xs[j]?) (step : ∀ i x, xs[i]? = some x → ∀ sl st, Iv i sl st → WG g x sl st fun sl1 => WS s sl1 st (fun sl st => Iv (i + 1) sl st) R) (done : ∀ sl st, Iv xs.length sl st → N sl st) :
    ∀ (n i : Nat) (sl : Sl) (st : Sto), i ≤ xs.length → xs.length ≤ n + i → Iv i sl st → WO (forLoop src g s n i sl st) (ends N R)
  | n, i, sl, st, hi, hn, h => by
    unfold forLoop
    rw [hs i sl st h i]
    by_cases hlt : i < xs.length
    · rw [List.getElem?_eq_getElem hlt]
      cases n with
      | zero => omega
      | succ n =>
        refine wo_bind (wo_mono (step i _ (List.getElem?_eq_getElem hlt) sl st h) fun sl1 h1 => wo_bind (wo_mono h1 fun y h2 => ?_))
        obtain ⟨o, sl2, st2⟩ := y
        cases o with
        | nx => exact forLoop_okR Iv hs step done n (i + 1) sl2 st2 hlt (by omega) h2
        | rt v => exact wo_some h2
        | bk => exact h2.elim
        | ct => exact h2.elim
    · rw [List.getElem?_eq_none (by omega)]
      have : i = xs.length := by omega
      subst this
      exact wo_some (done sl st h)
/-- a walk over a list of the store that stays -/
theorem ws_forR {w : I} {g : G} {s : S} (Iv : Nat → Sl → Sto → Prop) (h : WI w sl st fun src st => ∃ xs : List Val, xs.length ≤ src.len st ∧ (∀ i sl st, Iv i sl st → ∀ j, src.item st j = some xs[j]?) ∧ Iv 0 sl st ∧ (∀ i x, xs[i]? = some x → ∀ sl st, Iv i sl st → WG g x sl st fun sl1 => WS s sl1 st (fun sl st => Iv (i + 1) sl st) R) ∧ ∀ sl st, Iv xs.length sl st → N sl st) : WS (sFor w g s) sl st N R := wo_bind (wo_mono h fun y h => by
  obtain ⟨xs, hl, hs, h0, h1, h2⟩ := h
  exact forLoop_okR Iv hs h1 h2 _ 0 sl y.2 (Nat.zero_le _) (by omega) h0)
theorem ws_cut {s : S} (N' : Sl → Sto → Prop) (h : WS s sl st N' R) (i : ∀ sl st, N' sl st → N sl st) : WS s sl st N R := ws_mono h i fun _ _ h => h
theorem wo_rep3 {v : Val} {QL : List Val → Prop} (h : QL [v, v, v]) : WO (oRep st (.lst [v]) (.int 3)) QL := ⟨_, rfl, h⟩
theorem wo_ne_same {xs ys : List Val} {ns : List Int} {Q : Val → Prop} (e : xs = ns.map .int) (e' : ys = ns.map .int) (h : Q (.bl false)) : WO (oNe st (.lst xs) (.lst ys)) Q := by
  subst e; subst e'
  refine wo_neI ?_
  rw [decide_eq_true rfl]
  exact h
end
theorem veq_str {st : Sto} {a b : Str} (ha : PyData.canLay0 (.str a) = true) (hb : PyData.canLay0 (.str b) = true) : veq st (.str a) (.str b) = some (a == b) := by
  show (if PyData.canLay0 (.str a) = true then some (PyData.str a) else none).bind (fun x => (if PyData.canLay0 (.str b) = true then some (PyData.str b) else none).bind fun y => some (PyData.eqv x y)) = _
  rw [if_pos ha, if_pos hb]
  show some (PyData.eqv (.str a) (.str b)) = _
  rw [PyData.eqv] <;> rfl
theorem wo_eqS {st : Sto} {a b : Str} {Q : Val → Prop} (h : Q (.bl (a == b))) (ha : PyData.canLay0 (.str a) = true := by decide +kernel) (hb : PyData.canLay0 (.str b) = true := by decide +kernel) : WO (oEq st (.str a) (.str b)) Q := ⟨_, by unfold oEq; rw [veq_str ha hb] <;> rfl, h⟩
theorem wo_neS {st : Sto} {a b : Str} {Q : Val → Prop} (h : Q (.bl (!(a == b)))) (ha : PyData.canLay0 (.str a) = true := by decide +kernel) (hb : PyData.canLay0 (.str b) = true := by decide +kernel) : WO (oNe st (.str a) (.str b)) Q := ⟨_, by unfold oNe; rw [veq_str ha hb] <;> rfl, h⟩
/-- from one state of the store to a later one, where a door's places alone were written -/
structure Step (st : Sto) (A : DA) (st' : Sto) (A' : DA) : Prop where
  len : st.length ≤ st'.length
  fr : ∀ r, r < st.length → r ∉ A.foot → st'[r]? = st[r]?
  ft : ∀ r ∈ A'.foot, r ∈ A.foot ∨ st.length ≤ r
  id : A'.d = A.d
  is : A'.s = A.s
section
variable {st st' st2 : Sto} {A A' A2 B : DA} {D E : DS}
theorem Step.refl : Step st A st A := ⟨Nat.le_refl _, fun _ _ _ => rfl, fun _ h => .inl h, rfl, rfl⟩
theorem Step.trans (h : Step st A st' A') (h' : Step st' A' st2 A2) : Step st A st2 A2 :=
  ⟨Nat.le_trans h.len h'.len, fun r hr hn => (h'.fr r (Nat.lt_of_lt_of_le hr h.len) fun z => (h.ft r z).elim hn fun z => by omega).trans (h.fr r hr hn),
   fun r hr => (h'.ft r hr).elim (fun z => h.ft r z) fun z => .inr (Nat.le_trans h.len z), h'.id.trans h.id, h'.is.trans h.is⟩
theorem Step.set {r : Nat} {c : Cell} (hr : r ∈ A.foot) : Step st A (st.set r c) A := ⟨by rw [List.length_set]; exact Nat.le_refl _, fun q _ hq => List.getElem?_set_ne fun e => hq (by rw [← e]; exact hr), fun _ h => .inl h, rfl, rfl⟩
theorem Step.push (cs : List Cell) : Step st A (st ++ cs) A := ⟨by simp, fun q hq _ => List.getElem?_append_left hq, fun _ h => .inl h, rfl, rfl⟩
/-- two doors that share no place -/
def Dj (A B : DA) : Prop := ∀ r ∈ A.foot, r ∉ B.foot
theorem Dj.symm (h : Dj A B) : Dj B A := fun r hr hb => h r hb hr
theorem Dj.step (h : Dj A B) (hB : DoorAt st B E) (hs : Step st A st' A') : Dj A' B := fun r hr hb => (hs.ft r hr).elim (fun z => h r z hb) fun z => by have := hB.lt r hb; omega
theorem DoorAt.step (hB : DoorAt st B E) (hd : Dj A B) (hs : Step st A st' A') : DoorAt st' B E := hB.same fun r hr => hs.fr r (hB.lt r hr) fun z => hd r z hr
theorem Step.at {r : Nat} {c : Cell} (hs : Step st A st' A') (h : st[r]? = some c) (hn : r ∉ A.foot) : st'[r]? = some c := (hs.fr r (lt_of_some h) hn).trans h
end
/-! what a door tells -/
def DS.mine (D : DS) (a : Int) : List (Code × Nat) := D.codes.zipIdx.filter fun q => decide (q.1.own = a)
def DS.newest (D : DS) (a : Int) : Int := match (D.mine a).getLast? with
  | some q => (q.2 : Nat)
  | none => -1
def DS.ok (D : DS) (a : Int) (q : Code × Nat) : Bool := decide (q.1.own = a) && (q.1.op && (decide (D.gone - q.1.born < D.life) && (decide (D.kind = "any") || decide (D.newest a = (q.2 : Nat)))))
/-- whether a number leads into an account -/
def DS.isGood (D : DS) (a n : Int) : Bool := decide (0 ≤ n) && match D.codes[n.toNat]? with
  | some c => D.ok a (c, n.toNat)
  | none => false
def nums (l : List (Code × Nat)) : List Int := l.map fun q => ((q.2 : Nat) : Int)
def DS.goods (D : DS) (a : Int) : List Int := nums (D.codes.zipIdx.filter fun q => D.ok a q)
end Mi.Y

set_option Elab.async false
set_option linter.all false
set_option maxRecDepth 100000
set_option maxHeartbeats 1000000
/-! Mi: the lines of a tale; how a door goes on by them. -/
namespace Mi.Y
open PySem L2
structure SetOk (many life tries : Int) (kind : Str) : Prop where
  m1 : 1 ≤ many
  m4 : many ≤ 4
  l1 : 1 ≤ life
  l5 : life ≤ 5
  t1 : 1 ≤ tries
  t4 : tries ≤ 4
  k : kind = "newest" ∨ kind = "any"
inductive Ln where
  | ask (a n : Int) | bring (l : Int) | inn (a n : Int) | wrong (a n : Int) | tick
def vLn : Ln → Val
  | .ask a n => .tup [.str "ask", .int a, .int n]
  | .bring l => .tup [.str "bring", .int l]
  | .inn a n => .tup [.str "in", .int a, .int n]
  | .wrong a n => .tup [.str "wrong", .int a, .int n]
  | .tick => .tup [.str "tick"]
/-- the numbers of a line in bounds -/
def Ln.small : Ln → Prop
  | .ask a n => (-10 ≤ a ∧ a ≤ 100000) ∧ (-10 ≤ n ∧ n ≤ 100000)
  | .bring l => -10 ≤ l ∧ l ≤ 100000
  | .inn a n => (-10 ≤ a ∧ a ≤ 100000) ∧ (-10 ≤ n ∧ n ≤ 100000)
  | .wrong a n => (-10 ≤ a ∧ a ≤ 100000) ∧ (-10 ≤ n ∧ n ≤ 100000)
  | .tick => True
def Code.shut (c : Code) : Code := { c with op := false }
/-- all codes of an account are void -/
def voidC (a : Int) (cs : List Code) : List Code := cs.map fun c => if c.own = a then c.shut else c
def DS.miss (D : DS) (a : Int) : DS :=
  if D.wrong.getD a.toNat 0 + 1 = D.tries then { D with codes := voidC a D.codes, wrong := D.wrong.set a.toNat 0 } else { D with wrong := D.wrong.set a.toNat (D.wrong.getD a.toNat 0 + 1) }
def shutAt (cs : List Code) (i : Nat) : List Code := match cs[i]? with
  | some c => cs.set i c.shut
  | none => cs
def addAt (bs : List (List Int)) (i : Nat) (l : Int) : List (List Int) := match bs[i]? with
  | some b => bs.set i (b ++ [l])
  | none => bs
def DS.use (D : DS) (a n : Int) : DS := { D with codes := shutAt D.codes n.toNat, wrong := D.wrong.set a.toNat 0 }
def DS.ownOf (D : DS) (l : Int) : Int := ((D.codes[l.toNat]?).map Code.own).getD 0
def DS.next (D : DS) : Ln → DS
  | .ask a _ => { D with codes := D.codes ++ [⟨a, D.gone, true⟩], wrong := D.wrong.set a.toNat 0 }
  | .bring l => { D with boxes := addAt D.boxes (D.ownOf l).toNat l }
  | .inn a n => D.use a n
  | .wrong a _ => D.miss a
  | .tick => { D with gone := D.gone + 1 }
/-- .. the line is told, too -/
def DS.step (D : DS) (l : Ln) : DS := { D.next l with lines := D.lines ++ [vLn l] }
/-- whether a line can come -/
def DS.fits (D : DS) : Ln → Bool
  | .ask a n => decide (0 ≤ a ∧ a < D.many ∧ (D.codes.length : Int) = n)
  | .bring l => decide (0 ≤ l ∧ l < (D.codes.length : Nat))
  | .inn a n => decide (0 ≤ a ∧ a < D.many) && D.isGood a n
  | .wrong a n => decide (0 ≤ a ∧ a < D.many) && !D.isGood a n
  | .tick => true
/-- a door behind so many lines -/
structure DInv (D : DS) (n : Nat) : Prop where
  set : SetOk D.many D.life D.tries D.kind
  w : (D.wrong.length : Int) = D.many
  b : (D.boxes.length : Int) = D.many
  c : D.codes.length ≤ n
  l : D.lines.length ≤ n
  x : ∀ x ∈ D.boxes, x.length ≤ n
  o : ∀ c ∈ D.codes, 0 ≤ c.own ∧ c.own < D.many
  k : ∀ k ∈ D.wrong, 0 ≤ k ∧ k < D.tries
section
variable {st st' : Sto} {A : DA} {D : DS}
theorem Holds.set {x : List Val} {r : Nat} : ∀ {rs : List Nat} {xs : List (List Val)} {i : Nat}, Holds st rs xs → rs.Nodup → rs[i]? = some r → Holds (st.set r (.lst x)) rs (xs.set i x)
  | [], [], _, _, _, h => by cases h
  | [], _ :: _, _, h, _, _ => h.elim
  | _ :: _, [], _, h, _, _ => h.elim
  | r0 :: rs, y :: ys, 0, h, hn, hr => by
    cases hr
    rw [List.nodup_cons] at hn
    exact ⟨set_at (lt_of_some h.1), h.2.same fun q hq => set_ne fun e => hn.1 (by rw [← e]; exact hq)⟩
  | r0 :: rs, y :: ys, i + 1, h, hn, hr => by
    rw [List.nodup_cons] at hn
    have hm : r ∈ rs := List.mem_of_getElem? hr
    exact ⟨(set_ne fun e => hn.1 (by rw [e]; exact hm)).trans h.1, Holds.set h.2 hn.2 hr⟩
theorem DoorAt.nd2 (h : DoorAt st A D) : A.cr.Nodup ∧ A.br.Nodup ∧ ∀ x ∈ A.cr, x ∉ A.br := by
  have := h.nd
  simp only [DA.foot, List.cons_append, List.nil_append, List.nodup_cons, List.nodup_append] at this
  obtain ⟨_, _, _, _, _, _, h1, h2, h3⟩ := this
  exact ⟨h1, h2, fun x hx hy => h3 x hx x hy rfl⟩
theorem DoorAt.setCode (h : DoorAt st A D) {i r : Nat} (hr : A.cr[i]? = some r) (q : Code) : DoorAt (st.set r (.lst (vC q))) A { D with codes := D.codes.set i q } := by
  have hm : r ∈ A.cr := List.mem_of_getElem? hr
  obtain ⟨n1, n2, n3, n4, n5, n6⟩ := h.nc r hm
  obtain ⟨m1, m2, m3⟩ := h.nd2
  refine ⟨by rw [set_ne n1.symm]; exact h.d, by rw [set_ne n2.symm]; exact h.s, by rw [set_ne n3.symm]; exact h.c, by rw [set_ne n4.symm]; exact h.w, by rw [set_ne n5.symm]; exact h.b, by rw [set_ne n6.symm]; exact h.l, ?_, h.bs.same fun q hq => set_ne fun e => m3 r hm (by rw [← e]; exact hq), h.nd⟩
  show Holds _ A.cr ((D.codes.set i q).map vC)
  rw [List.map_set]
  exact h.cs.set m1 hr
theorem DoorAt.setBox (h : DoorAt st A D) {i r : Nat} (hr : A.br[i]? = some r) (q : List Int) : DoorAt (st.set r (.lst (q.map .int))) A { D with boxes := D.boxes.set i q } := by
  have hm : r ∈ A.br := List.mem_of_getElem? hr
  obtain ⟨n1, n2, n3, n4, n5, n6⟩ := h.nb r hm
  obtain ⟨m1, m2, m3⟩ := h.nd2
  refine ⟨by rw [set_ne n1.symm]; exact h.d, by rw [set_ne n2.symm]; exact h.s, by rw [set_ne n3.symm]; exact h.c, by rw [set_ne n4.symm]; exact h.w, by rw [set_ne n5.symm]; exact h.b, by rw [set_ne n6.symm]; exact h.l, h.cs.same fun q hq => set_ne fun e => m3 q hq (by rw [e]; exact hm), ?_, h.nd⟩
  show Holds _ A.br ((D.boxes.set i q).map fun x => x.map .int)
  rw [List.map_set]
  exact h.bs.set m2 hr
theorem DoorAt.codeAt (h : DoorAt st A D) {i : Nat} {c : Code} (hc : D.codes[i]? = some c) : ∃ r, A.cr[i]? = some r ∧ r ∈ A.foot ∧ st[r]? = some (.lst (vC c)) := by
  have hl := h.cs.len
  rw [List.length_map] at hl
  have hi := (List.getElem?_eq_some_iff.mp hc).1
  have e := List.getElem?_eq_getElem (l := A.cr) (show i < A.cr.length by omega)
  exact ⟨_, e, by simp [DA.foot], h.cs.at e (by rw [List.getElem?_map, hc] <;> rfl)⟩
theorem DoorAt.boxAt (h : DoorAt st A D) {i : Nat} {c : List Int} (hc : D.boxes[i]? = some c) : ∃ r, A.br[i]? = some r ∧ r ∈ A.foot ∧ st[r]? = some (.lst (c.map .int)) := by
  have hl := h.bs.len
  rw [List.length_map] at hl
  have hi := (List.getElem?_eq_some_iff.mp hc).1
  have e := List.getElem?_eq_getElem (l := A.br) (show i < A.br.length by omega)
  exact ⟨_, e, by simp [DA.foot], h.bs.at e (by rw [List.getElem?_map, hc] <;> rfl)⟩
end
/-! a tale gone through -/
def DS.run (D : DS) (ls : List Ln) : DS := ls.foldl DS.step D
def DS.goes (D : DS) : List Ln → Prop
  | [] => True
  | l :: r => D.fits l = true ∧ (D.step l).goes r
theorem run_snoc {D : DS} {ls : List Ln} {l : Ln} : D.run (ls ++ [l]) = (D.run ls).step l := by unfold DS.run; rw [List.foldl_append]; rfl
theorem goes_snoc : ∀ {ls : List Ln} {D : DS} {l : Ln}, D.goes ls → (D.run ls).fits l = true → D.goes (ls ++ [l])
  | [], D, l, _, h => ⟨h, trivial⟩
  | k :: ls, D, l, g, h => ⟨g.1, goes_snoc g.2 h⟩
theorem step_set {D : DS} {l : Ln} : (D.step l).many = D.many ∧ (D.step l).kind = D.kind ∧ (D.step l).life = D.life ∧ (D.step l).tries = D.tries ∧ (D.step l).wrong.length = D.wrong.length ∧ (D.step l).boxes.length = D.boxes.length := by
  have hm : ∀ a, (D.miss a).many = D.many ∧ (D.miss a).kind = D.kind ∧ (D.miss a).life = D.life ∧ (D.miss a).tries = D.tries ∧ (D.miss a).wrong.length = D.wrong.length ∧ (D.miss a).boxes.length = D.boxes.length := fun a => by
    unfold DS.miss
    split
    · exact ⟨rfl, rfl, rfl, rfl, List.length_set, rfl⟩
    · exact ⟨rfl, rfl, rfl, rfl, List.length_set, rfl⟩
  cases l with
  | ask a n => exact ⟨rfl, rfl, rfl, rfl, List.length_set, rfl⟩
  | bring l =>
    refine ⟨rfl, rfl, rfl, rfl, rfl, ?_⟩
    show (addAt D.boxes _ _).length = _
    unfold addAt
    split
    · exact List.length_set
    · rfl
  | inn a n => exact ⟨rfl, rfl, rfl, rfl, List.length_set, rfl⟩
  | wrong a n => exact hm a
  | tick => exact ⟨rfl, rfl, rfl, rfl, rfl, rfl⟩
theorem run_set : ∀ {ls : List Ln} {D : DS}, (D.run ls).many = D.many ∧ (D.run ls).kind = D.kind ∧ (D.run ls).life = D.life ∧ (D.run ls).tries = D.tries ∧ (D.run ls).wrong.length = D.wrong.length ∧ (D.run ls).boxes.length = D.boxes.length
  | [], D => ⟨rfl, rfl, rfl, rfl, rfl, rfl⟩
  | l :: ls, D => by
    obtain ⟨a1, a2, a3, a4, a5, a6⟩ := step_set (D := D) (l := l)
    obtain ⟨b1, b2, b3, b4, b5, b6⟩ := run_set (ls := ls) (D := D.step l)
    exact ⟨b1.trans a1, b2.trans a2, b3.trans a3, b4.trans a4, b5.trans a5, b6.trans a6⟩
theorem shutAt_own {cs : List Code} {i : Nat} {P : Int → Prop} (h : ∀ c ∈ cs, P c.own) : ∀ c ∈ shutAt cs i, P c.own := by
  intro c hc
  unfold shutAt at hc
  split at hc
  · rename_i c0 e
    rcases List.mem_or_eq_of_mem_set hc with z | z
    · exact h c z
    · rw [z]; exact h c0 (List.mem_of_getElem? e)
  · exact h c hc
theorem voidC_own {cs : List Code} {a : Int} {P : Int → Prop} (h : ∀ c ∈ cs, P c.own) : ∀ c ∈ voidC a cs, P c.own := by
  intro c hc
  obtain ⟨c0, h0, e⟩ := List.mem_map.mp hc
  have := h c0 h0
  split at e
  · rw [← e]; exact this
  · rw [← e]; exact this
theorem shutAt_len {cs : List Code} {i : Nat} : (shutAt cs i).length = cs.length := by
  unfold shutAt
  split
  · exact List.length_set
  · rfl
theorem set_all {l : List Int} {i : Nat} {x : Int} {P : Int → Prop} (h : ∀ k ∈ l, P k) (hx : P x) : ∀ k ∈ l.set i x, P k := fun k hk => (List.mem_or_eq_of_mem_set hk).elim (h k) fun e => e ▸ hx
theorem getD_all {l : List Int} {i : Nat} {P : Int → Prop} (h : ∀ k ∈ l, P k) (hx : P 0) : P (l.getD i 0) := by
  rw [List.getD_eq_getElem?_getD]
  cases e : l[i]? with
  | none => exact hx
  | some y => exact h y (List.mem_of_getElem? e)
theorem DInv.step {D : DS} {n : Nat} {l : Ln} (h : DInv D n) (hf : D.fits l = true) : DInv (D.step l) (n + 1) := by
  obtain ⟨s1, s2, s3, s4, s5, s6⟩ := step_set (D := D) (l := l)
  have hl : (D.step l).lines.length ≤ n + 1 := by
    show (D.lines ++ [vLn l]).length ≤ _
    have := h.l
    simp; omega
  have ht := h.set.t1
  have hz : (0 : Int) ≤ 0 ∧ (0 : Int) < D.tries := by omega
  have hx : ∀ x ∈ D.boxes, x.length ≤ n + 1 := fun x hx => by have := h.x x hx; omega
  have hc : D.codes.length ≤ n + 1 := by have := h.c; omega
  refine ⟨by rw [s1, s2, s3, s4]; exact h.set, by rw [s5, s1]; exact h.w, by rw [s6, s1]; exact h.b, ?_, hl, ?_, ?_, ?_⟩
  · cases l with
    | ask a k => show (D.codes ++ [_]).length ≤ _; have := h.c; simp; omega
    | bring k => exact hc
    | inn a k => show (shutAt D.codes _).length ≤ _; rw [shutAt_len]; exact hc
    | wrong a k =>
      show (D.miss a).codes.length ≤ _
      unfold DS.miss
      split
      · show (voidC a D.codes).length ≤ _
        unfold voidC
        rw [List.length_map]; exact hc
      · exact hc
    | tick => exact hc
  · cases l with
    | ask a k => exact hx
    | bring k =>
      intro x hx'
      have hx' : x ∈ addAt D.boxes (D.ownOf k).toNat k := hx'
      unfold addAt at hx'
      split at hx'
      · rename_i b e
        rcases List.mem_or_eq_of_mem_set hx' with z | z
        · exact hx x z
        · rw [z, List.length_append]
          have := h.x b (List.mem_of_getElem? e)
          simp; omega
      · exact hx x hx'
    | inn a k => exact hx
    | wrong a k =>
      intro x hx'
      have hx' : x ∈ (D.miss a).boxes := hx'
      unfold DS.miss at hx'
      split at hx' <;> exact hx x hx'
    | tick => exact hx
  · rw [s1]
    cases l with
    | ask a k =>
      intro c hc'
      rcases List.mem_append.mp hc' with z | z
      · exact h.o c z
      · rw [List.mem_singleton] at z
        rw [z]
        have := of_decide_eq_true hf
        exact ⟨this.1, this.2.1⟩
    | bring k => exact h.o
    | inn a k => exact shutAt_own (P := fun k => 0 ≤ k ∧ k < D.many) h.o
    | wrong a k =>
      intro c hc'
      have hc' : c ∈ (D.miss a).codes := hc'
      unfold DS.miss at hc'
      split at hc'
      · exact voidC_own (P := fun k => 0 ≤ k ∧ k < D.many) h.o c hc'
      · exact h.o c hc'
    | tick => exact h.o
  · rw [s4]
    cases l with
    | ask a k => exact set_all (P := fun k => 0 ≤ k ∧ k < D.tries) h.k hz
    | bring k => exact h.k
    | inn a k => exact set_all (P := fun k => 0 ≤ k ∧ k < D.tries) h.k hz
    | wrong a k =>
      intro x hx'
      have hx' : x ∈ (D.miss a).wrong := hx'
      have hg := getD_all (P := fun k => 0 ≤ k ∧ k < D.tries) (i := a.toNat) h.k hz
      unfold DS.miss at hx'
      split at hx'
      · exact set_all (P := fun k => 0 ≤ k ∧ k < D.tries) h.k hz x hx'
      · rename_i hne
        exact set_all (P := fun k => 0 ≤ k ∧ k < D.tries) h.k (by omega) x hx'
    | tick => exact h.k
theorem DInv.run : ∀ {ls : List Ln} {D : DS} {n : Nat}, DInv D n → D.goes ls → DInv (D.run ls) (n + ls.length)
  | [], D, n, h, _ => h
  | l :: ls, D, n, h, g => by
    have := DInv.run (h.step g.1) g.2
    rw [List.length_cons, show n + (ls.length + 1) = n + 1 + ls.length by omega]
    exact this
theorem goes_at : ∀ {ls : List Ln} {D : DS} {i : Nat} {l : Ln}, D.goes ls → ls[i]? = some l → (D.run (ls.take i)).fits l = true
  | k :: ls, D, 0, l, g, h => by cases h; exact g.1
  | k :: ls, D, i + 1, l, g, h => goes_at (D := D.step k) g.2 h
  | [], _, _, _, _, h => by cases h
theorem goes_take : ∀ {ls : List Ln} {D : DS} {i : Nat}, D.goes ls → D.goes (ls.take i)
  | _, _, 0, _ => trivial
  | [], _, _ + 1, _ => trivial
  | k :: ls, D, i + 1, g => ⟨g.1, goes_take g.2⟩
def isAsk : Ln → Bool
  | .ask _ _ => true
  | _ => false
theorem step_codes_len {D : DS} {l : Ln} : (D.step l).codes.length = D.codes.length + (if isAsk l then 1 else 0) := by
  cases l with
  | ask a n => show (D.codes ++ [_]).length = _; simp [isAsk]
  | bring l => rfl
  | inn a n => show (shutAt D.codes _).length = _; rw [shutAt_len]; rfl
  | wrong a n =>
    show (D.miss a).codes.length = _
    unfold DS.miss
    split
    · show (voidC a D.codes).length = _
      unfold voidC
      rw [List.length_map]; rfl
    · rfl
  | tick => rfl
theorem run_codes_len : ∀ {ls : List Ln} {D : DS}, (D.run ls).codes.length = D.codes.length + (ls.filter isAsk).length
  | [], D => rfl
  | l :: ls, D => by
    show ((D.step l).run ls).codes.length = _
    rw [run_codes_len, step_codes_len, List.filter_cons]
    split <;> simp <;> omega
/-- places below n stay -/
def Keep (n : Nat) (st st' : Sto) : Prop := (∀ r, r < n → st'[r]? = st[r]?) ∧ st.length ≤ st'.length
section
variable {n m : Nat} {st st' st2 : Sto}
theorem Keep.refl : Keep n st st := ⟨fun _ _ => rfl, Nat.le_refl _⟩
theorem Keep.trans (h : Keep n st st') (h' : Keep n st' st2) : Keep n st st2 := ⟨fun r hr => (h'.1 r hr).trans (h.1 r hr), Nat.le_trans h.2 h'.2⟩
theorem Keep.less (h : Keep n st st') (hm : m ≤ n) : Keep m st st' := ⟨fun r hr => h.1 r (Nat.lt_of_lt_of_le hr hm), h.2⟩
theorem Keep.set {r : Nat} {c : Cell} (hr : n ≤ r) : Keep n st (st.set r c) := ⟨fun q hq => List.getElem?_set_ne (by omega), by rw [List.length_set]; exact Nat.le_refl _⟩
theorem Keep.push (cs : List Cell) (hn : n ≤ st.length) : Keep n st (st ++ cs) := ⟨fun q hq => List.getElem?_append_left (by omega), by simp⟩
theorem Keep.at {r : Nat} {c : Cell} (h : Keep n st st') (hr : r < n) (e : st[r]? = some c) : st'[r]? = some c := (h.1 r hr).trans e
theorem Keep.door {A : DA} {D : DS} (h : Keep n st st') (d : DoorAt st A D) (hn : ∀ r ∈ A.foot, r < n) : DoorAt st' A D := d.same fun r hr => h.1 r (hn r hr)
/-- a tale as a value, or at a place below n -/
def TaleV (n : Nat) (st : Sto) (v : Val) (ls : List Ln) : Prop := v = .lst (ls.map vLn) ∨ ∃ r, v = .ref r ∧ r < n ∧ st[r]? = some (.lst (ls.map vLn))
theorem TaleV.keep {v : Val} {ls : List Ln} (h : TaleV n st v ls) (k : Keep n st st') : TaleV n st' v ls := h.imp id fun ⟨r, e, hr, h⟩ => ⟨r, e, hr, k.at hr h⟩
theorem TaleV.src {v : Val} {ls : List Ln} (h : TaleV n st v ls) : SrcAt st (.seq v) (ls.map vLn) := by
  rcases h with e | ⟨r, e, _, h⟩
  · subst e; exact (src_lst _).at
  · subst e; exact src_seqR h
theorem TaleV.enum {v : Val} {ls : List Ln} (h : TaleV n st v ls) : SrcAt st (.enum v) ((ls.map vLn).zipIdx.map fun p => .tup [.int (p.2 : Nat), p.1]) := by
  rcases h with e | ⟨r, e, _, h⟩
  · subst e; exact (src_enum _).at
  · subst e; exact src_enumR h
theorem TaleV.view {v : Val} {ls : List Ln} (h : TaleV n st v ls) : viewL st v = some (ls.map vLn) ∧ viewQ st v = some (ls.map vLn) := by
  rcases h with e | ⟨r, e, _, h⟩
  · subst e; exact ⟨rfl, rfl⟩
  · subst e; exact ⟨view_refL h, view_ref h⟩
theorem wi_seqV {a : E} {sl : Sl} {QI : Src → Sto → Prop} {xs : List Val} (h : WE a sl st fun v st => viewL st v = some xs ∧ QI (.seq v) st) : WI (iSeq a) sl st QI := wo_bind (wo_mono h fun y h => by
  show WO ((viewL y.2 y.1).bind _) _
  rw [h.1]
  exact wo_some h.2)
theorem wi_enumV {a : E} {sl : Sl} {QI : Src → Sto → Prop} {xs : List Val} (h : WE a sl st fun v st => viewQ st v = some xs ∧ QI (.enum v) st) : WI (iEnum a) sl st QI := wo_bind (wo_mono h fun y h => by
  show WO ((viewQ y.2 y.1).bind _) _
  rw [h.1]
  exact wo_some h.2)
end
/-! the number that leads in -/
theorem mem_goods {D : DS} {a n : Int} : n ∈ D.goods a ↔ D.isGood a n = true := by
  unfold DS.goods nums
  rw [List.mem_map]
  constructor
  · rintro ⟨q, hq, e⟩
    obtain ⟨h1, h2⟩ := List.mem_filter.mp hq
    obtain ⟨i, hi, e2⟩ := List.mem_iff_getElem.mp h1
    rw [List.length_zipIdx] at hi
    rw [List.getElem_zipIdx, Nat.zero_add] at e2
    subst e2
    subst e
    unfold DS.isGood
    rw [decide_eq_true (by omega), Bool.true_and, Int.toNat_natCast, List.getElem?_eq_getElem hi]
    exact h2
  · intro h
    unfold DS.isGood at h
    rw [Bool.and_eq_true] at h
    have h0 := of_decide_eq_true h.1
    have h2 := h.2
    by_cases hi : n.toNat < D.codes.length
    · rw [List.getElem?_eq_getElem hi] at h2
      refine ⟨(D.codes[n.toNat], n.toNat), List.mem_filter.mpr ⟨List.mem_iff_getElem.mpr ⟨n.toNat, by rw [List.length_zipIdx]; exact hi, by rw [List.getElem_zipIdx]; simp⟩, h2⟩, by simp; omega⟩
    · rw [List.getElem?_eq_none (by omega)] at h2
      cases h2
end Mi.Y

set_option Elab.async false
set_option linter.all false
set_option maxRecDepth 100000
set_option maxHeartbeats 1000000
/-! Mi: plain lemmas of k01, k05: tales as data, what is shown, what deeds tell. -/
namespace Mi.Y
open PySem L2
/-! data -/
def dLn : Ln → PyData
  | .ask a n => .tuple [.str "ask", .int a, .int n]
  | .bring l => .tuple [.str "bring", .int l]
  | .inn a n => .tuple [.str "in", .int a, .int n]
  | .wrong a n => .tuple [.str "wrong", .int a, .int n]
  | .tick => .tuple [.str "tick"]
section
variable {st st' : Sto} {n : Nat}
theorem p_s {i : Str} (h : PyData.canLay0 (.str i) = true) : pd st n (.str i) = some (.str i) := by cases n <;> exact if_pos h
theorem p_i {i : Int} : pd st n (.int i) = some (.int i) := by cases n <;> rfl
theorem p_b {i : Bool} : pd st n (.bl i) = some (.bool i) := by cases n <;> rfl
theorem p_all {A : Type} {f : A → Val} {g : A → PyData} : ∀ {xs : List A}, (∀ x ∈ xs, pd st n (f x) = some (g x)) → (xs.map f).mapM (pd st n) = some (xs.map g)
  | [], _ => rfl
  | x :: r, h => by
    rw [List.map_cons, List.mapM_cons, h x (List.mem_cons_self ..), p_all fun y hy => h y (List.mem_cons_of_mem _ hy)]
    rfl
theorem p_lst {xs : List Val} {ds : List PyData} (h : xs.mapM (pd st n) = some ds) : pd st (n + 1) (.lst xs) = some (.list ds) := by
  show (xs.mapM (pd st n)).map _ = _
  rw [h]; rfl
theorem p_tup {xs : List Val} {ds : List PyData} (h : xs.mapM (pd st n) = some ds) : pd st (n + 1) (.tup xs) = some (.tuple ds) := by
  show (xs.mapM (pd st n)).map _ = _
  rw [h]; rfl
theorem p_ref {r : Nat} {xs : List Val} {ds : List PyData} (e : st[r]? = some (.lst xs)) (h : xs.mapM (pd st n) = some ds) : pd st (n + 1) (.ref r) = some (.list ds) := by
  show (match st[r]? with | some (.lst xs) => (xs.mapM (pd st n)).map PyData.list | _ => none) = _
  rw [e]
  show (xs.mapM (pd st n)).map _ = _
  rw [h]; rfl
theorem p_c {x : Val} {xs : List Val} {d : PyData} {ds : List PyData} (h : pd st n x = some d) (r : xs.mapM (pd st n) = some ds) : (x :: xs).mapM (pd st n) = some (d :: ds) := by
  rw [List.mapM_cons, h, r]; rfl
theorem p_n : ([] : List Val).mapM (pd st n) = some [] := rfl
theorem p_Ln (l : Ln) : pd st (n + 1) (vLn l) = some (dLn l) := by
  cases l with
  | ask a k => exact p_tup (p_c (p_s (by decide +kernel)) (p_c p_i (p_c p_i p_n)))
  | bring k => exact p_tup (p_c (p_s (by decide +kernel)) (p_c p_i p_n))
  | inn a k => exact p_tup (p_c (p_s (by decide +kernel)) (p_c p_i (p_c p_i p_n)))
  | wrong a k => exact p_tup (p_c (p_s (by decide +kernel)) (p_c p_i (p_c p_i p_n)))
  | tick => exact p_tup (p_c (p_s (by decide +kernel)) p_n)
def dI (ns : List Int) : PyData := .list (ns.map .int)
def dT (ls : List Ln) : PyData := .list (ls.map dLn)
theorem p_I {ns : List Int} : pd st (n + 1) (vI ns) = some (dI ns) := p_lst (p_all fun _ _ => p_i)
theorem p_RI {r : Nat} {ns : List Int} (e : st[r]? = some (.lst (ns.map .int))) : pd st (n + 1) (.ref r) = some (dI ns) := p_ref e (p_all fun _ _ => p_i)
theorem p_RT {r : Nat} {ls : List Ln} (e : st[r]? = some (.lst (ls.map vLn))) : pd st (n + 1 + 1) (.ref r) = some (dT ls) := p_ref e (p_all fun l _ => p_Ln l)
theorem p_T {ls : List Ln} : pd st (n + 1 + 1) (.lst (ls.map vLn)) = some (dT ls) := p_lst (p_all fun l _ => p_Ln l)
theorem p_TV {m : Nat} {v : Val} {ls : List Ln} (tv : TaleV m st v ls) : pd st (n + 1 + 1) v = some (dT ls) := by
  rcases tv with e | ⟨r, e, _, h⟩
  · subst e; exact p_T
  · subst e; exact p_RT h
end
def isTk : Ln → Bool
  | .tick => true
  | _ => false
theorem eqv_tk (l : Ln) : PyData.eqv (dLn l) (.tuple [.str "tick"]) = isTk l := by
  cases l with
  | ask a n => show PyData.eqv (.tuple [_, _, _]) _ = _; rw [PyData.eqv, PyData.eqvAll, PyData.eqvAll, Bool.and_false]; rfl
  | bring n => show PyData.eqv (.tuple [_, _]) _ = _; rw [PyData.eqv, PyData.eqvAll, PyData.eqvAll, Bool.and_false]; rfl
  | inn a n => show PyData.eqv (.tuple [_, _, _]) _ = _; rw [PyData.eqv, PyData.eqvAll, PyData.eqvAll, Bool.and_false]; rfl
  | wrong a n => show PyData.eqv (.tuple [_, _, _]) _ = _; rw [PyData.eqv, PyData.eqvAll, PyData.eqvAll, Bool.and_false]; rfl
  | tick => show PyData.eqv (.tuple [_]) _ = _; rw [PyData.eqv, PyData.eqvAll, PyData.eqvAll, PyData.eqv, beq_self_eq_true]; rfl
theorem wo_eqtk {st : Sto} {l : Ln} {Q : Val → Prop} (h : Q (.bl (isTk l))) : WO (oEq st (vLn l) (.tup [.str "tick"])) Q := by
  refine ⟨.bl (isTk l), ?_, h⟩
  unfold oEq veq
  rw [show deep = 19 + 1 from rfl, p_Ln, p_tup (p_c (p_s (by decide +kernel)) p_n)]
  show (some (PyData.eqv _ _)).map Val.bl = _
  rw [eqv_tk]; rfl
/-! what is shown -/
def Sh (d : PyData) (b : Nat) : Prop := d.showable = true ∧ d.shown.length ≤ b
def ShA (ds : List PyData) (b : Nat) : Prop := PyData.showableAll ds = true ∧ (∀ t ∈ PyData.shownAll ds, t.length ≤ b) ∧ (PyData.shownAll ds).length = ds.length
theorem sha_n {b : Nat} : ShA [] b := by
  refine ⟨by rw [PyData.showableAll], ?_, by rw [PyData.shownAll]; rfl⟩
  rw [PyData.shownAll]
  intro t h
  cases h
theorem sha_c {d : PyData} {ds : List PyData} {b : Nat} (h : Sh d b) (r : ShA ds b) : ShA (d :: ds) b := by
  refine ⟨by rw [PyData.showableAll, h.1, r.1]; rfl, fun t ht => ?_, by rw [PyData.shownAll, List.length_cons, List.length_cons, r.2.2]⟩
  rw [PyData.shownAll] at ht
  rcases List.mem_cons.mp ht with e | e
  · rw [e]; exact h.2
  · exact r.2.1 t e
theorem sha_all {A : Type} {g : A → PyData} {b : Nat} : ∀ {xs : List A}, (∀ x ∈ xs, Sh (g x) b) → ShA (xs.map g) b
  | [], _ => sha_n
  | x :: r, h => sha_c (h x (List.mem_cons_self ..)) (sha_all fun y hy => h y (List.mem_cons_of_mem _ hy))
theorem textFrom_le {b : Nat} : ∀ (ts : List Str) (k : Nat) (acc : Str), (∀ t ∈ ts, t.length ≤ b) → (textFrom k acc ts).length ≤ acc.length + (b + 2) * ts.length
  | [], k, acc, _ => Nat.le_add_right _ _
  | t :: r, k, acc, h => by
    have ih := textFrom_le r (k + 1) (acc ++ (if k > 0 then ", " else "" : String) ++ t) fun u hu => h u (List.mem_cons_of_mem _ hu)
    have e : (acc ++ (if k > 0 then ", " else "" : String) ++ t).length = acc.length + (if k > 0 then 2 else 0) + t.length := by
      rw [strLen_append, strLen_append]
      split <;> rfl
    have ht := h t (List.mem_cons_self ..)
    have h2 : (if k > 0 then 2 else 0 : Nat) ≤ 2 := by split <;> omega
    show (textFrom (k + 1) _ r).length ≤ _
    rw [e] at ih
    rw [List.length_cons, Nat.mul_add, Nat.mul_one]
    omega
theorem sh_list {ds : List PyData} {b : Nat} (h : ShA ds b) : Sh (.list ds) ((b + 2) * ds.length + 2) := by
  refine ⟨by rw [PyData.showable]; exact h.1, ?_⟩
  rw [PyData.shown]
  unfold listText
  rw [strLen_append]
  have := textFrom_le (PyData.shownAll ds) 0 "[" h.2.1
  rw [h.2.2] at this
  have e1 : ("[" : Str).length = 1 := rfl
  have e2 : ("]" : Str).length = 1 := rfl
  omega
theorem piled_le {b : Nat} : ∀ (ts : List Str), (∀ t ∈ ts, t.length ≤ b) → piled ts ≤ (b + 2) * ts.length
  | [], _ => Nat.zero_le _
  | t :: r, h => by
    have ih := piled_le r fun u hu => h u (List.mem_cons_of_mem _ hu)
    have ht := h t (List.mem_cons_self ..)
    have e : piled (t :: r) = t.length + 2 + piled r := by unfold piled; simp
    rw [e, List.length_cons, Nat.mul_add, Nat.mul_one]
    omega
theorem sh_tup {ds : List PyData} {b : Nat} (h : ShA ds b) : Sh (.tuple ds) ((b + 2) * ds.length + 3) := by
  refine ⟨by rw [PyData.showable]; exact h.1, ?_⟩
  rw [PyData.shown]
  unfold tupleText
  rw [strLen_append, strLen_append]
  have e3 : (Str.join ", " (PyData.shownAll ds)).length ≤ (b + 2) * ds.length := by
    by_cases hn : PyData.shownAll ds = []
    · rw [hn]; exact Nat.zero_le _
    · have h1 := join_length_add _ hn
      have h2 := piled_le _ h.2.1
      rw [h.2.2] at h2
      omega
  have e1 : ("(" : Str).length = 1 := rfl
  have e2 : ((if (PyData.shownAll ds).length == 1 then ",)" else ")" : String) : Str).length ≤ 2 := by
    split <;> decide
  omega
theorem sh_i {i : Int} (h : -10 ≤ i ∧ i ≤ 100000) : Sh (.int i) 2000 := by
  have hl : i.natAbs.log2 < 1920 := by
    have h1 : i.natAbs ≤ 100000 := by omega
    by_cases hz : i.natAbs = 0
    · rw [hz]; decide
    · rw [Nat.log2_lt hz]
      exact Nat.lt_of_le_of_lt h1 (by decide +kernel)
  refine ⟨by rw [PyData.showable]; exact decide_eq_true hl, ?_⟩
  rw [PyData.shown]
  exact Nat.le_trans (PyProof.Rows.int_text_len_1921 hl) (by decide)
theorem sh_b {i : Bool} : Sh (.bool i) 2000 := by cases i <;> exact ⟨by rw [PyData.showable], by rw [PyData.shown]; decide⟩
theorem sh_s {x : Str} (h : (reprText x).length ≤ 2000) : Sh (.str x) 2000 := ⟨by rw [PyData.showable], by rw [PyData.shown]; exact h⟩
theorem Sh.le {d : PyData} {b c : Nat} (h : Sh d b) (hc : b ≤ c) : Sh d c := ⟨h.1, Nat.le_trans h.2 hc⟩
theorem sh_Ln {l : Ln} (h : l.small) : Sh (dLn l) 7000 := by
  cases l with
  | ask a n => exact (sh_tup (sha_c (sh_s (by decide +kernel)) (sha_c (sh_i h.1) (sha_c (sh_i h.2) sha_n)))).le (by simp)
  | bring n => exact (sh_tup (sha_c (sh_s (by decide +kernel)) (sha_c (sh_i h) sha_n))).le (by simp)
  | inn a n => exact (sh_tup (sha_c (sh_s (by decide +kernel)) (sha_c (sh_i h.1) (sha_c (sh_i h.2) sha_n)))).le (by simp)
  | wrong a n => exact (sh_tup (sha_c (sh_s (by decide +kernel)) (sha_c (sh_i h.1) (sha_c (sh_i h.2) sha_n)))).le (by simp)
  | tick => exact (sh_tup (sha_c (sh_s (by decide +kernel)) sha_n)).le (by decide)
theorem sh_T {ls : List Ln} (h : ∀ l ∈ ls, l.small) (hn : ls.length ≤ 100) : Sh (dT ls) 800000 := by
  have h1 := sh_list (sha_all (g := dLn) (b := 7000) fun l hl => sh_Ln (h l hl))
  rw [List.length_map] at h1
  exact h1.le (by have := Nat.mul_le_mul_left (7000 + 2) hn; omega)
theorem sh_I {ns : List Int} (h : ∀ i ∈ ns, -10 ≤ i ∧ i ≤ 100000) (hn : ns.length ≤ 100) : Sh (dI ns) 300000 := by
  have h1 := sh_list (sha_all (g := PyData.int) (b := 2000) fun l hl => sh_i (h l hl))
  rw [List.length_map] at h1
  exact h1.le (by have := Nat.mul_le_mul_left (2000 + 2) hn; omega)
theorem wo_str {st : Sto} {v : Val} {d : PyData} {b : Nat} {Q : Val → Prop} (e : pd st deep v = some d) (s : Sh d b) (hb : b ≤ 16000000) (h : Q (.str d.shown)) (hl : listy v = true := by rfl) : WO (oStr st v) Q := by
  refine ⟨_, ?_, h⟩
  unfold oStr
  rw [if_pos hl, e]
  show (if d.showable = true ∧ d.shown.length ≤ sizeLine then some (Val.str d.shown) else none) = _
  rw [if_pos ⟨s.1, Nat.le_trans s.2 (Nat.le_trans hb (by decide +kernel))⟩]
theorem wo_neS0 {st : Sto} {a : Str} {Q : Val → Prop} (h : Q (.bl false)) : WO (oNeS st (.str a) (.str a)) Q := ⟨_, by show some (Val.bl (!decide (a = a))) = _; rw [decide_eq_true rfl] <;> rfl, h⟩
theorem we_callN {m : F} {f : L} {sl : Sl} {st : Sto} {Q : Val → Sto → Prop} (h : WL f sl st fun vs st => (vs.mapM (pd [] deep)).isSome = true ∧ ∃ v st2, m vs [] = some (v, st2) ∧ flat v = true ∧ Q v st) : WE (eCallN m f) sl st Q := wo_bind (wo_mono h fun y h => by
  obtain ⟨h1, v, st2, e, h2, h⟩ := h
  rw [if_pos h1, e]
  show WO (if flat v = true then some (v, y.2) else none) _
  rw [if_pos h2]
  exact wo_some h)
/-! what deeds tell -/
def DS.tells (D : DS) : Ln → Val
  | .ask _ n => .int n
  | .bring l => .int (((D.boxes.getD (D.ownOf l).toNat []).length + 1 : Nat) : Int)
  | .inn _ _ => .bl true
  | .wrong _ _ => .bl false
  | .tick => .int (D.gone + 1)
/-- whose code a line asks for -/
def askOwn : Ln → Int
  | .ask a _ => a
  | _ => 0
def owners (ls : List Ln) : List Int := (ls.filter isAsk).map askOwn
def isBr (O : List Int) (a : Int) : Ln → Bool
  | .bring l => decide (O.getD l.toNat 0 = a)
  | _ => false
def brL : Ln → Int
  | .bring l => l
  | _ => 0
def boxOf (O : List Int) (a : Int) (ls : List Ln) : List Int := (ls.filter (isBr O a)).map brL
theorem voidC_owns {a : Int} {cs : List Code} : (voidC a cs).map Code.own = cs.map Code.own := by
  unfold voidC
  rw [List.map_map]
  refine List.map_congr_left fun c _ => ?_
  show (if c.own = a then c.shut else c).own = c.own
  split <;> rfl
theorem shutAt_owns {cs : List Code} {i : Nat} : (shutAt cs i).map Code.own = cs.map Code.own := by
  unfold shutAt
  split
  · rename_i c e
    rw [List.map_set]
    refine List.ext_getElem? fun j => ?_
    rw [List.getElem?_set]
    split
    · rename_i hj
      subst hj
      split
      · rw [List.getElem?_map, e]; rfl
      · rename_i h1
        rw [List.getElem?_eq_none (by omega)]
    · rfl
  · rfl
theorem step_owns {D : DS} {l : Ln} : (D.step l).codes.map Code.own = D.codes.map Code.own ++ owners [l] := by
  cases l with
  | ask a n => show (D.codes ++ [_]).map Code.own = _; rw [List.map_append]; rfl
  | bring l => show D.codes.map Code.own = _ ++ []; rw [List.append_nil]
  | inn a n => show (shutAt D.codes _).map Code.own = _ ++ []; rw [shutAt_owns, List.append_nil]
  | wrong a n =>
    show (D.miss a).codes.map Code.own = _ ++ []
    rw [List.append_nil]
    unfold DS.miss
    split
    · exact voidC_owns
    · rfl
  | tick => show D.codes.map Code.own = _ ++ []; rw [List.append_nil]
theorem owners_cons {l : Ln} {ls : List Ln} : owners (l :: ls) = owners [l] ++ owners ls := by
  unfold owners
  rw [← List.map_append, ← List.filter_append]
  rfl
theorem run_owns : ∀ {ls : List Ln} {D : DS}, (D.run ls).codes.map Code.own = D.codes.map Code.own ++ owners ls
  | [], D => by show _ = _ ++ []; rw [List.append_nil]; rfl
  | l :: ls, D => by
    show ((D.step l).run ls).codes.map Code.own = _
    rw [run_owns, step_owns, owners_cons (ls := ls), List.append_assoc]
theorem addAt_getD {bs : List (List Int)} {i j : Nat} {l : Int} (hi : i < bs.length) : (addAt bs i l).getD j [] = if j = i then bs.getD j [] ++ [l] else bs.getD j [] := by
  unfold addAt
  rw [List.getElem?_eq_getElem hi]
  simp only [List.getD_eq_getElem?_getD]
  by_cases e : j = i
  · subst e
    rw [if_pos rfl, List.getElem?_set_self hi, List.getElem?_eq_getElem hi]; rfl
  · rw [if_neg e, List.getElem?_set_ne (by omega)]
theorem ownOf_get {D : DS} {l : Int} : D.ownOf l = (D.codes.map Code.own).getD l.toNat 0 := by
  unfold DS.ownOf
  rw [List.getD_eq_getElem?_getD, List.getElem?_map]
theorem miss_boxes {D : DS} {a : Int} : (D.miss a).boxes = D.boxes := by unfold DS.miss; split <;> rfl
theorem miss_gone {D : DS} {a : Int} : (D.miss a).gone = D.gone := by unfold DS.miss; split <;> rfl
theorem step_box {D : DS} {l : Ln} {n : Nat} {O : List Int} {a : Int} (h : DInv D n) (hf : D.fits l = true) (hO : D.codes.map Code.own <+: O) (a0 : 0 ≤ a) : (D.step l).boxes.getD a.toNat [] = D.boxes.getD a.toNat [] ++ boxOf O a [l] := by
  cases l with
  | ask b n => show D.boxes.getD _ _ = _ ++ []; rw [List.append_nil]
  | inn b n => show D.boxes.getD _ _ = _ ++ []; rw [List.append_nil]
  | wrong b n => show (D.miss b).boxes.getD _ _ = _ ++ []; rw [List.append_nil, miss_boxes]
  | tick => show D.boxes.getD _ _ = _ ++ []; rw [List.append_nil]
  | bring k =>
    have hk := of_decide_eq_true hf
    have hlt : k.toNat < D.codes.length := by omega
    have hO' : O.getD k.toNat 0 = D.ownOf k := by
      obtain ⟨t, rfl⟩ := hO
      rw [ownOf_get, List.getD_eq_getElem?_getD, List.getD_eq_getElem?_getD, List.getElem?_append_left (by rw [List.length_map]; exact hlt)]
    have ho : D.ownOf k = D.codes[k.toNat].own := by unfold DS.ownOf; rw [List.getElem?_eq_getElem hlt] <;> rfl
    have hoo := h.o _ (List.getElem_mem hlt)
    rw [← ho] at hoo
    have hb := h.b
    show (addAt D.boxes (D.ownOf k).toNat k).getD _ _ = _
    rw [addAt_getD (by omega)]
    by_cases e : D.ownOf k = a
    · have : boxOf O a [.bring k] = [k] := by
        unfold boxOf
        rw [List.filter_cons_of_pos (by show decide _ = true; rw [hO']; exact decide_eq_true e)]; rfl
      rw [this, e, if_pos rfl]
    · have : boxOf O a [.bring k] = [] := by
        unfold boxOf
        rw [List.filter_cons_of_neg (by show ¬ decide _ = true; rw [hO']; exact fun z => e (of_decide_eq_true z))]; rfl
      rw [this, List.append_nil, if_neg (by omega)]
theorem boxOf_cons {O : List Int} {a : Int} {l : Ln} {ls : List Ln} : boxOf O a (l :: ls) = boxOf O a [l] ++ boxOf O a ls := by
  unfold boxOf
  rw [← List.map_append, ← List.filter_append]
  rfl
theorem run_box : ∀ {ls : List Ln} {D : DS} {n : Nat} {O : List Int} {a : Int}, DInv D n → D.goes ls → (D.codes.map Code.own ++ owners ls) <+: O → 0 ≤ a → (D.run ls).boxes.getD a.toNat [] = D.boxes.getD a.toNat [] ++ boxOf O a ls
  | [], D, _, O, a, _, _, _, _ => by show _ = _ ++ []; rw [List.append_nil]; rfl
  | l :: ls, D, n, O, a, h, g, hO, a0 => by
    show ((D.step l).run ls).boxes.getD _ _ = _
    rw [run_box (h.step g.1) g.2 (by rw [step_owns, List.append_assoc, ← owners_cons]; exact hO) a0, step_box h g.1 ((List.prefix_append _ _).trans hO) a0, boxOf_cons (ls := ls), List.append_assoc]
theorem run_lines : ∀ {ls : List Ln} {D : DS}, (D.run ls).lines = D.lines ++ ls.map vLn
  | [], D => by show _ = _ ++ []; rw [List.append_nil]; rfl
  | l :: ls, D => by
    show ((D.step l).run ls).lines = _
    rw [run_lines, List.map_cons]
    show (D.lines ++ [vLn l]) ++ _ = _
    rw [List.append_assoc]; rfl
theorem step_gone {D : DS} {l : Ln} : (D.step l).gone = D.gone + (([l].filter isTk).length : Nat) := by
  cases l with
  | ask a n => show D.gone = _ + 0; rw [Int.add_zero]
  | bring l => show D.gone = _ + 0; rw [Int.add_zero]
  | inn a n => show D.gone = _ + 0; rw [Int.add_zero]
  | wrong a n => show (D.miss a).gone = _ + 0; rw [Int.add_zero, miss_gone]
  | tick => rfl
theorem run_gone : ∀ {ls : List Ln} {D : DS}, (D.run ls).gone = D.gone + ((ls.filter isTk).length : Nat)
  | [], D => by show D.gone = _ + 0; rw [Int.add_zero]
  | l :: ls, D => by
    show ((D.step l).run ls).gone = _
    rw [run_gone, step_gone, Int.add_assoc, ← Int.natCast_add, ← List.length_append, ← List.filter_append]
    rfl
/-- the door's boxes hold small numbers -/
theorem boxOf_small {O : List Int} {a : Int} {ls : List Ln} (h : ∀ l ∈ ls, l.small) : ∀ i ∈ boxOf O a ls, -10 ≤ i ∧ i ≤ 100000 := by
  intro i hi
  obtain ⟨l, hl, e⟩ := List.mem_map.mp hi
  obtain ⟨hl, hb⟩ := List.mem_filter.mp hl
  have := h l hl
  cases l with
  | bring k => rw [← e]; exact this
  | ask a n => cases hb
  | inn a n => cases hb
  | wrong a n => cases hb
  | tick => cases hb
theorem boxOf_len {O : List Int} {a : Int} {ls : List Ln} : (boxOf O a ls).length ≤ ls.length := by
  unfold boxOf
  rw [List.length_map]
  exact List.length_filter_le _ _
end Mi.Y

set_option Elab.async false
set_option linter.all false
set_option maxRecDepth 100000
set_option maxHeartbeats 1000000
/-! Mi: plain lemmas of k09: ways through a house, what is come to. -/
namespace Mi.Y
open PySem L2
/-! accounts one behind another -/
def isW (h : List Acc) : List Int → List Int → Bool
  | _, [] => true
  | f, a :: r => if 0 ≤ a ∧ a < (h.length : Nat) then match h[a.toNat]? with
    | some p => p.1.any (fun b => decide (b ∈ f)) && isW h (f ++ p.2) r
    | none => false
  else false
def isWay (h : List Acc) (boxes : List Int) (a : Int) (acs : List Int) : Bool := isW h boxes acs && decide (acs.getLast? = some a)
structure Few (h : List Acc) : Prop where
  s : ∀ p ∈ h, p.1.length ≤ 20
  o : ∀ p ∈ h, p.2.length ≤ 20
theorem isW_no {h : List Acc} {f r : List Int} {a : Int} (hn : ¬ (0 ≤ a ∧ a < (h.length : Nat))) : isW h f (a :: r) = false := by rw [isW, if_neg hn]
theorem isW_go {h : List Acc} {f r : List Int} {a : Int} {p : Acc} (hn : 0 ≤ a ∧ a < (h.length : Nat)) (hp : h[a.toNat]? = some p) : isW h f (a :: r) = (p.1.any (fun b => decide (b ∈ f)) && isW h (f ++ p.2) r) := by rw [isW, if_pos hn, hp]
theorem drop_at {α : Type} {l : List α} {i : Nat} {a : α} (h : l[i]? = some a) : l.drop i = a :: l.drop (i + 1) := by
  obtain ⟨hi, e⟩ := List.getElem?_eq_some_iff.mp h
  rw [List.drop_eq_getElem_cons hi, e]
def cl (so : List Int) (p : Acc) : Bool := !(p.1.any (fun b => decide (b ∈ so)) && !(p.2.all fun b => decide (b ∈ so)))
def isC (h : List Acc) (boxes : List Int) (p0 : Acc) (so : List Int) : Bool := h.all (cl so) && (boxes.all (fun b => decide (b ∈ so)) && !(p0.1.any fun b => decide (b ∈ so)))
theorem isC_no {h : List Acc} {boxes so : List Int} {p0 p : Acc} (hm : p ∈ h) (hc : cl so p = false) : isC h boxes p0 so = false := by
  have : h.all (cl so) = false := by
    rw [Bool.eq_false_iff]
    intro z
    rw [List.all_eq_true.mp z p hm] at hc
    cases hc
  unfold isC
  rw [this]; rfl
theorem any_not {l so : List Int} : l.any (fun b => !decide (b ∈ so)) = !l.all fun b => decide (b ∈ so) := by
  rw [Bool.eq_iff_iff]
  simp
/-! what is come to -/
def news (f bar op : List Int) : List Int := op.filter fun b => !decide (b ∈ f) && !decide (b ∈ bar)
theorem Good.news {f bar op : List Int} (hf : Good f) (ho : Good op) : Good (f ++ news f bar op) := by
  refine ⟨List.nodup_append.mpr ⟨hf.1, ho.1.filter _, fun a ha b hb e => ?_⟩, fun x hx => ?_⟩
  · subst e
    have := (List.mem_filter.mp hb).2
    rw [Bool.and_eq_true] at this
    simp [ha] at this
  · rcases List.mem_append.mp hx with z | z
    · exact hf.2 x z
    · exact ho.2 x (List.mem_filter.mp z).1
theorem mem_news {f op : List Int} {x : Int} : x ∈ f ++ news f [] op ↔ x ∈ f ∨ x ∈ op := by
  unfold news
  rw [List.mem_append, List.mem_filter]
  constructor
  · rintro (h | h)
    · exact .inl h
    · exact .inr h.1
  · rintro (h | h)
    · exact .inl h
    · by_cases e : x ∈ f
      · exact .inl e
      · exact .inr ⟨h, by simp [e]⟩
def led (f : List Int) (p : Acc) : Bool := p.1.any fun b => decide (b ∈ f)
theorem led_iff {f : List Int} {p : Acc} : led f p = true ↔ ∃ b ∈ p.1, b ∈ f := by
  unfold led
  rw [List.any_eq_true]
  constructor
  · rintro ⟨b, h1, h2⟩; exact ⟨b, h1, of_decide_eq_true h2⟩
  · rintro ⟨b, h1, h2⟩; exact ⟨b, h1, decide_eq_true h2⟩
theorem led_congr {f g : List Int} {p : Acc} (h : ∀ x, x ∈ f ↔ x ∈ g) : led f p = led g p := by
  rw [Bool.eq_iff_iff, led_iff, led_iff]
  exact ⟨fun ⟨b, h1, h2⟩ => ⟨b, h1, (h b).mp h2⟩, fun ⟨b, h1, h2⟩ => ⟨b, h1, (h b).mpr h2⟩⟩
/-- it holds the read boxes, and is never left -/
def Shut (h : List Acc) (boxes S : List Int) : Prop := (∀ b ∈ boxes, b ∈ S) ∧ ∀ p ∈ h, led S p = true → ∀ b ∈ p.2, b ∈ S
/-- the least of these -/
def Least (h : List Acc) (boxes f : List Int) : Prop := Shut h boxes f ∧ ∀ S, Shut h boxes S → ∀ b ∈ f, b ∈ S
theorem Least.mem {h : List Acc} {boxes f g : List Int} (a : Least h boxes f) (b : Least h boxes g) (x : Int) : x ∈ f ↔ x ∈ g := ⟨a.2 g b.1 x, b.2 f a.1 x⟩
def accs (h : List Acc) (f : List Int) : List Int := (h.zipIdx.filter fun q => led f q.1).map fun q => ((q.2 : Nat) : Int)
theorem accs_congr {h : List Acc} {f g : List Int} (e : ∀ x, x ∈ f ↔ x ∈ g) : accs h f = accs h g := by
  unfold accs
  congr 1
  exact List.filter_congr fun q _ => led_congr e
theorem mem_accs {h : List Acc} {f : List Int} {a : Int} : a ∈ accs h f ↔ ∃ (i : Nat) (p : Acc), a = (i : Nat) ∧ h[i]? = some p ∧ led f p = true := by
  unfold accs
  rw [List.mem_map]
  constructor
  · rintro ⟨q, hq, e⟩
    obtain ⟨h1, h2⟩ := List.mem_filter.mp hq
    obtain ⟨i, hi, e2⟩ := List.mem_iff_getElem.mp h1
    rw [List.length_zipIdx] at hi
    rw [List.getElem_zipIdx, Nat.zero_add] at e2
    refine ⟨i, h[i], ?_, List.getElem?_eq_getElem hi, ?_⟩
    · rw [← e, ← e2]
    · rw [← e2] at h2; exact h2
  · rintro ⟨i, p, e, h1, h2⟩
    obtain ⟨hi, e3⟩ := List.getElem?_eq_some_iff.mp h1
    exact ⟨(p, i), List.mem_filter.mpr ⟨List.mem_iff_getElem.mpr ⟨i, by rw [List.length_zipIdx]; exact hi, by rw [List.getElem_zipIdx, Nat.zero_add, e3]⟩, h2⟩, e.symm⟩
theorem accs_rising {h : List Acc} {f : List Int} : (accs h f).Pairwise (· < ·) := by
  have h1 : (h.zipIdx.map fun q => ((q.2 : Nat) : Int)).Pairwise (· < ·) := by
    have e : (h.zipIdx.map fun q => ((q.2 : Nat) : Int)) = (List.range h.length).map fun i => ((i : Nat) : Int) := by
      refine List.ext_getElem? fun i => ?_
      rw [List.getElem?_map, List.getElem?_map, List.getElem?_zipIdx]
      by_cases hi : i < h.length
      · rw [List.getElem?_eq_getElem hi, List.getElem?_range hi]
        simp
      · rw [List.getElem?_eq_none (by omega), List.getElem?_eq_none (by rw [List.length_range]; omega)]
        rfl
    rw [e, List.pairwise_map]
    exact (List.pairwise_lt_range (n := h.length)).imp fun h => by omega
  unfold accs
  exact List.Pairwise.sublist ((List.filter_sublist (p := fun q : Acc × Nat => led f q.1)).map _) h1
theorem accs_len {h : List Acc} {f : List Int} : (accs h f).length ≤ h.length := by
  unfold accs
  rw [List.length_map]
  have := List.length_filter_le (fun q : Acc × Nat => led f q.1) h.zipIdx
  rwa [List.length_zipIdx] at this
theorem accs_in {h : List Acc} {f : List Int} {a : Int} (ha : a ∈ accs h f) : 0 ≤ a ∧ a < (h.length : Nat) := by
  obtain ⟨i, p, e, h1, _⟩ := mem_accs.mp ha
  have := (List.getElem?_eq_some_iff.mp h1).1
  omega
/-- two rising lists of the same numbers -/
theorem rising_eq : ∀ {l m : List Int}, l.Pairwise (· < ·) → m.Pairwise (· < ·) → (∀ x, x ∈ l ↔ x ∈ m) → l = m
  | [], [], _, _, _ => rfl
  | [], b :: m, _, _, h => by have := (h b).mpr (List.mem_cons_self ..); cases this
  | a :: l, [], _, _, h => by have := (h a).mp (List.mem_cons_self ..); cases this
  | a :: l, b :: m, h1, h2, h => by
    rw [List.pairwise_cons] at h1 h2
    have hab : a = b := by
      rcases List.mem_cons.mp ((h a).mp (List.mem_cons_self ..)) with e | e
      · exact e
      · rcases List.mem_cons.mp ((h b).mpr (List.mem_cons_self ..)) with e' | e'
        · exact e'.symm
        · have := h1.1 b e'
          have := h2.1 a e
          omega
    subst hab
    refine congrArg (a :: ·) (rising_eq h1.2 h2.2 fun x => ?_)
    constructor
    · intro hx
      rcases List.mem_cons.mp ((h x).mp (List.mem_cons_of_mem _ hx)) with e | e
      · have := h1.1 x hx; omega
      · exact e
    · intro hx
      rcases List.mem_cons.mp ((h x).mpr (List.mem_cons_of_mem _ hx)) with e | e
      · have := h2.1 x hx; omega
      · exact e
theorem insI_le (i : Int) : ∀ {l : List Int}, l.Pairwise (· ≤ ·) → (insI i l).Pairwise (· ≤ ·)
  | [], _ => by unfold insI; exact List.pairwise_singleton _ _
  | j :: r, h => by
    unfold insI
    rw [List.pairwise_cons] at h
    split
    · rename_i hl
      refine List.pairwise_cons.mpr ⟨fun k hk => ?_, List.pairwise_cons.mpr h⟩
      rcases List.mem_cons.mp hk with z | z
      · rw [z]; exact hl
      · exact Int.le_trans hl (h.1 k z)
    · refine List.pairwise_cons.mpr ⟨fun k hk => ?_, insI_le i h.2⟩
      rcases List.mem_cons.mp ((insI_perm i r).mem_iff.mp hk) with z | z
      · rw [z]; omega
      · exact h.1 k z
theorem sortI_le : ∀ l : List Int, (sortI l).Pairwise (· ≤ ·)
  | [] => .nil
  | i :: r => insI_le i (sortI_le r)
theorem sortI_lt {l : List Int} (h : l.Nodup) : (sortI l).Pairwise (· < ·) := by
  have h1 := sortI_le l
  have h2 : (sortI l).Nodup := (sortI_perm l).nodup_iff.mpr h
  exact (h1.and h2).imp fun ⟨a, b⟩ => by omega
/-! the program's search -/
structure Met (h : List Acc) (boxes f way : List Int) : Prop where
  good : Good f
  nd : way.Nodup
  inh : ∀ a ∈ way, 0 ≤ a ∧ a < (h.length : Nat)
  w : isW h boxes way = true
  f1 : ∀ x, x ∈ f ↔ x ∈ boxes ∨ ∃ a ∈ way, ∃ p, h[a.toNat]? = some p ∧ x ∈ p.2
  ld : ∀ a ∈ way, ∃ p, h[a.toNat]? = some p ∧ led f p = true
  min : ∀ S, Shut h boxes S → ∀ b ∈ f, b ∈ S
theorem isW_app {h : List Acc} : ∀ {l m f : List Int}, isW h f (l ++ m) = true → isW h f l = true
  | [], _, _, _ => by rw [isW]
  | a :: l, m, f, e => by
    rw [List.cons_append] at e
    by_cases hn : 0 ≤ a ∧ a < (h.length : Nat)
    · have hlt : a.toNat < h.length := by omega
      have hp := List.getElem?_eq_getElem hlt
      rw [isW_go hn hp, Bool.and_eq_true] at e ⊢
      exact ⟨e.1, isW_app e.2⟩
    · rw [isW_no hn] at e; cases e
theorem isW_snoc {h : List Acc} {a : Int} {p : Acc} (hn : 0 ≤ a ∧ a < (h.length : Nat)) (hp : h[a.toNat]? = some p) : ∀ {l f : List Int}, isW h f l = true → (∃ b ∈ p.1, b ∈ f ∨ ∃ c ∈ l, ∃ q, h[c.toNat]? = some q ∧ b ∈ q.2) → isW h f (l ++ [a]) = true
  | [], f, _, ⟨b, hb, hx⟩ => by
    rw [List.nil_append, isW_go hn hp, Bool.and_eq_true]
    refine ⟨?_, by rw [isW]⟩
    rcases hx with hx | ⟨c, hc, _⟩
    · exact List.any_eq_true.mpr ⟨b, hb, decide_eq_true hx⟩
    · cases hc
  | c :: l, f, e, ⟨b, hb, hx⟩ => by
    by_cases hc : 0 ≤ c ∧ c < (h.length : Nat)
    · have hlt : c.toNat < h.length := by omega
      have hq := List.getElem?_eq_getElem hlt
      rw [isW_go hc hq, Bool.and_eq_true] at e
      rw [List.cons_append, isW_go hc hq, Bool.and_eq_true]
      refine ⟨e.1, isW_snoc hn hp e.2 ⟨b, hb, ?_⟩⟩
      rcases hx with hx | ⟨d, hd, q, hq2, hbq⟩
      · exact .inl (List.mem_append_left _ hx)
      · rcases List.mem_cons.mp hd with z | z
        · subst z
          rw [hq] at hq2
          cases hq2
          exact .inl (List.mem_append_right _ hbq)
        · exact .inr ⟨d, z, q, hq2, hbq⟩
    · rw [isW_no hc] at e; cases e
theorem Met.first {h : List Acc} {boxes : List Int} (hb : Good boxes) : Met h boxes boxes [] where
  good := hb
  nd := .nil
  inh := fun a ha => by cases ha
  w := by rw [isW]
  f1 := fun x => ⟨fun h => .inl h, fun z => z.elim id fun ⟨a, ha, _⟩ => by cases ha⟩
  ld := fun a ha => by cases ha
  min := fun S hS b hb => hS.1 b hb
theorem Met.more {h : List Acc} {boxes f way : List Int} (m : Met h boxes f way) {i : Nat} {p : Acc} (hp : h[i]? = some p) (ho : Good p.2) (hl : led f p = true) (hn : ((i : Nat) : Int) ∉ way) : Met h boxes (f ++ news f [] p.2) (way ++ [((i : Nat) : Int)]) where
  good := m.good.news ho
  nd := List.nodup_append.mpr ⟨m.nd, List.pairwise_singleton _ _, fun a ha b hb e => hn (by rw [List.mem_singleton.mp hb] at e; rw [← e]; exact ha)⟩
  inh := fun a ha => by
    rcases List.mem_append.mp ha with z | z
    · exact m.inh a z
    · rw [List.mem_singleton.mp z]
      have := (List.getElem?_eq_some_iff.mp hp).1
      omega
  w := by
    refine isW_snoc (p := p) ?_ (by rw [Int.toNat_natCast]; exact hp) m.w ?_
    · have := (List.getElem?_eq_some_iff.mp hp).1
      omega
    · obtain ⟨b, h1, h2⟩ := led_iff.mp hl
      exact ⟨b, h1, (m.f1 b).mp h2⟩
  f1 := fun x => by
    rw [mem_news, m.f1 x]
    constructor
    · rintro ((h1 | ⟨a, h1, h2⟩) | h1)
      · exact .inl h1
      · exact .inr ⟨a, List.mem_append_left _ h1, h2⟩
      · exact .inr ⟨_, List.mem_append_right _ (List.mem_singleton.mpr rfl), p, by rw [Int.toNat_natCast]; exact hp, h1⟩
    · rintro (h1 | ⟨a, h1, q, h2, h3⟩)
      · exact .inl (.inl h1)
      · rcases List.mem_append.mp h1 with z | z
        · exact .inl (.inr ⟨a, z, q, h2, h3⟩)
        · rw [List.mem_singleton.mp z, Int.toNat_natCast, hp] at h2
          cases h2
          exact .inr h3
  ld := fun a ha => by
    have up : ∀ q : Acc, led f q = true → led (f ++ news f [] p.2) q = true := fun q hq => by
      obtain ⟨b, h1, h2⟩ := led_iff.mp hq
      exact led_iff.mpr ⟨b, h1, List.mem_append_left _ h2⟩
    rcases List.mem_append.mp ha with z | z
    · obtain ⟨q, h1, h2⟩ := m.ld a z
      exact ⟨q, h1, up q h2⟩
    · rw [List.mem_singleton.mp z, Int.toNat_natCast]
      exact ⟨p, hp, up p hl⟩
  min := fun S hS b hb => by
    rcases mem_news.mp hb with z | z
    · exact m.min S hS b z
    · refine hS.2 p (List.mem_of_getElem? hp) ?_ b z
      obtain ⟨c, h1, h2⟩ := led_iff.mp hl
      exact led_iff.mpr ⟨c, h1, m.min S hS c h2⟩
/-- nothing more is come to -/
def Done (h : List Acc) (f way : List Int) (n : Nat) : Prop := ∀ (i : Nat) (p : Acc), i < n → h[i]? = some p → ((i : Nat) : Int) ∈ way ∨ led f p = false
theorem Met.least {h : List Acc} {boxes f way : List Int} (m : Met h boxes f way) (d : Done h f way h.length) : Least h boxes f := by
  refine ⟨⟨fun b hb => (m.f1 b).mpr (.inl hb), fun p hp hl b hb => ?_⟩, m.min⟩
  obtain ⟨i, hi, e⟩ := List.mem_iff_getElem.mp hp
  have hp' : h[i]? = some p := by rw [List.getElem?_eq_getElem hi, e]
  rcases d i p hi hp' with z | z
  · exact (m.f1 b).mpr (.inr ⟨_, z, p, by rw [Int.toNat_natCast]; exact hp', hb⟩)
  · rw [hl] at z; cases z
theorem Met.accs {h : List Acc} {boxes f way : List Int} (m : Met h boxes f way) (d : Done h f way h.length) (a : Int) : a ∈ way ↔ a ∈ accs h f := by
  rw [mem_accs]
  constructor
  · intro ha
    obtain ⟨p, h1, h2⟩ := m.ld a ha
    have := m.inh a ha
    exact ⟨a.toNat, p, by omega, h1, h2⟩
  · rintro ⟨i, p, e, h1, h2⟩
    have hi := (List.getElem?_eq_some_iff.mp h1).1
    rcases d i p hi h1 with z | z
    · rw [e]; exact z
    · rw [h2] at z; cases z
theorem isWay_take {h : List Acc} {boxes f way : List Int} (m : Met h boxes f way) {a : Int} {k : Nat} (hk : way[k]? = some a) : isWay h boxes a (way.take (k + 1)) = true := by
  have hlt := (List.getElem?_eq_some_iff.mp hk).1
  unfold isWay
  rw [Bool.and_eq_true]
  refine ⟨isW_app (m := way.drop (k + 1)) (by rw [List.take_append_drop]; exact m.w), decide_eq_true ?_⟩
  rw [List.take_add_one, hk, List.getLast?_append]
  rfl
theorem isWay_spoilt {h : List Acc} {boxes acs : List Int} {a : Int} : isWay h boxes a (acs ++ [-1]) = false := by
  unfold isWay
  have : ∀ (l f : List Int), isW h f (l ++ [-1]) = false := fun l => by
    induction l with
    | nil => intro f; exact isW_no (by omega)
    | cons b l ih =>
      intro f
      rw [List.cons_append]
      by_cases hn : 0 ≤ b ∧ b < (h.length : Nat)
      · have hlt : b.toNat < h.length := by omega
        rw [isW_go hn (List.getElem?_eq_getElem hlt), ih, Bool.and_false]
      · exact isW_no hn
  rw [this]; rfl
theorem isC_least {h : List Acc} {boxes f g : List Int} {p0 : Acc} (l : Least h boxes f) (e : ∀ x, x ∈ g ↔ x ∈ f) (h0 : led f p0 = false) : isC h boxes p0 g = true := by
  unfold isC
  rw [Bool.and_eq_true, Bool.and_eq_true]
  refine ⟨List.all_eq_true.mpr fun p hp => ?_, List.all_eq_true.mpr fun b hb => decide_eq_true ((e b).mpr (l.1.1 b hb)), ?_⟩
  · unfold cl
    cases hl : led f p with
    | false =>
      have : p.1.any (fun b => decide (b ∈ g)) = false := (led_congr (p := p) e).trans hl
      rw [this]; rfl
    | true =>
      have : p.2.all (fun b => decide (b ∈ g)) = true := List.all_eq_true.mpr fun b hb => decide_eq_true ((e b).mpr (l.1.2 p hp hl b hb))
      rw [this]
      simp
  · have : p0.1.any (fun b => decide (b ∈ g)) = false := (led_congr (p := p0) e).trans h0
    rw [this]; rfl
end Mi.Y

set_option Elab.async false
set_option linter.all false
set_option maxRecDepth 100000
set_option maxHeartbeats 1000000
/-! Mi: flows in a graph whose boxes are passed once; plain lemmas for bars(). -/
namespace Mi.Y
inductive Nd where
  | bg | inn (b : Int) | out (b : Int) | en
deriving DecidableEq
abbrev Pr := Nd × Nd
def Nd.isIn : Nd → Bool
  | .inn _ => true
  | _ => false
/-- a graph of boxes: its edges by their beginnings -/
structure Gr (adj : Nd → List Nd) : Prop where
  i : ∀ b, ∀ y ∈ adj (.inn b), y = .out b
  o : ∀ x b, .out b ∈ adj x → x = .inn b
  b : ∀ x, .bg ∉ adj x
  e : ∀ x, .en ∈ adj x → ∃ b, x = .out b
  n : adj .en = []
def outs (u : List Pr) (v : Nd) : Nat := u.countP fun p => decide (p.1 = v)
def ins (u : List Pr) (v : Nd) : Nat := u.countP fun p => decide (p.2 = v)
def bal (u : List Pr) (v : Nd) : Int := (outs u v : Int) - ins u v
/-- edges of the graph; each box at most once -/
structure Semi (adj : Nd → List Nd) (u : List Pr) : Prop where
  e : ∀ p ∈ u, p.2 ∈ adj p.1
  c : ∀ b, u.count (.inn b, .out b) ≤ 1
structure Flow (adj : Nd → List Nd) (u : List Pr) : Prop extends Semi adj u where
  k : ∀ v, v ≠ .bg → v ≠ .en → bal u v = 0
section
variable {adj : Nd → List Nd} {u : List Pr}
theorem count_le_outs (u : List Pr) (p : Pr) : u.count p ≤ outs u p.1 := by
  unfold outs List.count
  exact List.countP_mono_left fun q _ h => by
    have : q = p := beq_iff_eq.mp h
    rw [this]; exact decide_eq_true rfl
theorem count_le_ins (u : List Pr) (p : Pr) : u.count p ≤ ins u p.2 := by
  unfold ins List.count
  exact List.countP_mono_left fun q _ h => by
    have : q = p := beq_iff_eq.mp h
    rw [this]; exact decide_eq_true rfl
theorem outs_inn (g : Gr adj) (s : Semi adj u) (b : Int) : outs u (.inn b) = u.count (.inn b, .out b) := by
  unfold outs List.count
  refine List.countP_congr fun p hp => ?_
  rw [decide_eq_true_eq, beq_iff_eq]
  constructor
  · intro h
    have he := s.e p hp
    rw [h] at he
    exact Prod.ext h (g.i b _ he)
  · intro h; rw [h]
theorem ins_out (g : Gr adj) (s : Semi adj u) (b : Int) : ins u (.out b) = u.count (.inn b, .out b) := by
  unfold ins List.count
  refine List.countP_congr fun p hp => ?_
  rw [decide_eq_true_eq, beq_iff_eq]
  constructor
  · intro h
    have he := s.e p hp
    rw [h] at he
    exact Prod.ext (g.o _ b he) h
  · intro h; rw [h]
theorem Flow.out1 (g : Gr adj) (f : Flow adj u) (b : Int) : outs u (.inn b) ≤ 1 ∧ ins u (.inn b) ≤ 1 ∧ outs u (.out b) ≤ 1 ∧ ins u (.out b) ≤ 1 := by
  have h1 := outs_inn g f.toSemi b
  have h2 := ins_out g f.toSemi b
  have h3 := f.c b
  have k1 := f.k (.inn b) (by simp) (by simp)
  have k2 := f.k (.out b) (by simp) (by simp)
  unfold bal at k1 k2
  omega
theorem Flow.once (g : Gr adj) (f : Flow adj u) (p : Pr) : u.count p ≤ 1 := by
  by_cases hp : p ∈ u
  · have he := f.e p hp
    obtain ⟨x, y⟩ := p
    have he : y ∈ adj x := he
    have h1 := count_le_outs u (x, y)
    have h2 := count_le_ins u (x, y)
    cases y with
    | bg => exact absurd he (g.b x)
    | inn b => exact Nat.le_trans h2 (f.out1 g b).2.1
    | out b => exact Nat.le_trans h2 (f.out1 g b).2.2.2
    | en =>
      obtain ⟨b, rfl⟩ := g.e x he
      exact Nat.le_trans h1 (f.out1 g b).2.2.1
  · rw [List.count_eq_zero_of_not_mem hp]
    exact Nat.zero_le _
/-! one edge more, or one less back -/
def aug (u : List Pr) (p x : Nd) : List Pr := if (x, p) ∈ u then u.filter (fun q => !decide (q = (x, p))) else u ++ [(p, x)]
theorem countP_split (u : List Pr) (P : Pr → Bool) (q : Pr) : u.countP P = (u.filter fun r => !decide (r = q)).countP P + (if P q = true then u.count q else 0) := by
  induction u with
  | nil => simp
  | cons r u ih =>
    rw [List.countP_cons, ih]
    by_cases e : r = q
    · subst e
      rw [List.filter_cons_of_neg (by simp), List.count_cons_self]
      by_cases hp : P r = true <;> simp [hp] <;> omega
    · rw [List.filter_cons_of_pos (by simp [e]), List.countP_cons, List.count_cons_of_ne (fun z => e z)]
      omega
theorem bal_aug {p x : Nd} (h1 : u.count (x, p) ≤ 1) (hne : p ≠ x) (v : Nd) : bal (aug u p x) v = bal u v + (if v = p then 1 else 0) - (if v = x then 1 else 0) := by
  unfold aug
  by_cases hm : (x, p) ∈ u
  · rw [if_pos hm]
    have hc : u.count (x, p) = 1 := by
      have := List.count_pos_iff.mpr hm
      omega
    have e1 := countP_split u (fun r => decide (r.1 = v)) (x, p)
    have e2 := countP_split u (fun r => decide (r.2 = v)) (x, p)
    rw [hc] at e1 e2
    unfold bal outs ins
    by_cases hv : v = p
    · subst hv
      rw [if_neg (by simp; exact fun z => hne z.symm)] at e1
      rw [if_pos (by simp)] at e2
      rw [if_pos rfl, if_neg hne]
      omega
    · by_cases hx : v = x
      · subst hx
        rw [if_pos (by simp)] at e1
        rw [if_neg (by simp; exact hne)] at e2
        rw [if_neg (fun z => hne z.symm), if_pos rfl]
        omega
      · rw [if_neg (by simp; exact fun z => hx z.symm)] at e1
        rw [if_neg (by simp; exact fun z => hv z.symm)] at e2
        rw [if_neg hv, if_neg hx]
        omega
  · rw [if_neg hm]
    unfold bal outs ins
    rw [List.countP_append, List.countP_append, List.countP_singleton, List.countP_singleton]
    by_cases hv : v = p
    · subst hv
      rw [if_pos (by simp), if_neg (by simp; exact fun z => hne z.symm), if_pos rfl, if_neg hne]
      omega
    · by_cases hx : v = x
      · subst hx
        rw [if_neg (by simp; exact hne), if_pos (by simp), if_neg hv, if_pos rfl]
        omega
      · rw [if_neg (by simp; exact fun z => hv z.symm), if_neg (by simp; exact fun z => hx z.symm), if_neg hv, if_neg hx]
        omega
theorem mem_aug {p x : Nd} {q : Pr} (h1 : q ≠ (x, p)) (h2 : q ≠ (p, x)) : q ∈ aug u p x ↔ q ∈ u := by
  unfold aug
  split
  · rw [List.mem_filter]
    simp [h1]
  · rw [List.mem_append, List.mem_singleton]
    simp [h2]
theorem count_aug {p x : Nd} {q : Pr} (h1 : q ≠ (x, p)) (h2 : q ≠ (p, x)) : (aug u p x).count q = u.count q := by
  unfold aug
  split
  · have := countP_split u (fun r => r == q) (x, p)
    unfold List.count at this ⊢
    rw [if_neg (by simp; exact fun z => h1 z.symm)] at this
    omega
  · rw [List.count_append, List.count_singleton, if_neg (by simp; exact fun z => h2 z.symm)]
    omega
/-! .. along a way back -/
def augC (u : List Pr) : List Nd → List Pr
  | x :: p :: r => augC (aug u p x) (p :: r)
  | _ => u
/-- a way from the end back: each step an edge that can be gone, or a used one gone back -/
def Back (adj : Nd → List Nd) (u : List Pr) : List Nd → Prop
  | x :: p :: r => ((x, p) ∈ u ∨ (x ∈ adj p ∧ (p.isIn = true → (p, x) ∉ u))) ∧ u.count (x, p) ≤ 1 ∧ Back adj u (p :: r)
  | _ => True
theorem Back.congr {u u' : List Pr} : ∀ {l : List Nd}, (∀ q : Pr, q.1 ∈ l → q.2 ∈ l → (q ∈ u' ↔ q ∈ u) ∧ u'.count q = u.count q) → Back adj u l → Back adj u' l
  | [], _, _ => trivial
  | [_], _, _ => trivial
  | x :: p :: r, h, b => by
    obtain ⟨b1, b2, b3⟩ := b
    have hx := h (x, p) (List.mem_cons_self ..) (List.mem_cons_of_mem _ (List.mem_cons_self ..))
    have hp := h (p, x) (List.mem_cons_of_mem _ (List.mem_cons_self ..)) (List.mem_cons_self ..)
    refine ⟨?_, by rw [hx.2]; exact b2, Back.congr (fun q h1 h2 => h q (List.mem_cons_of_mem _ h1) (List.mem_cons_of_mem _ h2)) b3⟩
    rcases b1 with b1 | ⟨b1, b4⟩
    · exact .inl (hx.1.mpr b1)
    · exact .inr ⟨b1, fun z y => b4 z (hp.1.mp y)⟩
theorem Semi.aug {p x : Nd} (s : Semi adj u) (h : (x, p) ∈ u ∨ (x ∈ adj p ∧ (p.isIn = true → (p, x) ∉ u))) : Semi adj (aug u p x) := by
  unfold Y.aug
  by_cases hm : (x, p) ∈ u
  · rw [if_pos hm]
    refine ⟨fun q hq => s.e q (List.mem_filter.mp hq).1, fun b => Nat.le_trans ?_ (s.c b)⟩
    exact List.Sublist.count_le _ (List.filter_sublist ..)
  · rw [if_neg hm]
    rcases h with h | ⟨h, h'⟩
    · exact absurd h hm
    refine ⟨fun q hq => ?_, fun b => ?_⟩
    · rcases List.mem_append.mp hq with z | z
      · exact s.e q z
      · rw [List.mem_singleton.mp z]; exact h
    · rw [List.count_append, List.count_singleton]
      by_cases e : (p, x) = ((.inn b : Nd), (.out b : Nd))
      · cases e
        rw [List.count_eq_zero_of_not_mem (h' rfl)]
        split <;> omega
      · rw [if_neg (by simpa using e)]
        exact s.c b
theorem augC_ok : ∀ {l : List Nd} {u : List Pr} {x : Nd}, Semi adj u → Back adj u (x :: l) → (x :: l).Nodup → Semi adj (augC u (x :: l)) ∧ ∀ v, bal (augC u (x :: l)) v = bal u v + (if v = (x :: l).getLast (List.cons_ne_nil _ _) then 1 else 0) - (if v = x then 1 else 0)
  | [], u, x, s, _, _ => ⟨s, fun v => by show bal u v = bal u v + (if v = x then 1 else 0) - _; omega⟩
  | p :: r, u, x, s, b, n => by
    obtain ⟨b1, b2, b3⟩ := b
    have hn := List.nodup_cons.mp n
    have hne : p ≠ x := fun z => hn.1 (by rw [← z]; exact List.mem_cons_self ..)
    have un : ∀ q : Pr, q.1 ∈ p :: r → q.2 ∈ p :: r → (q ∈ aug u p x ↔ q ∈ u) ∧ (aug u p x).count q = u.count q := fun q h1 h2 => by
      have e1 : q ≠ (x, p) := fun z => hn.1 (by rw [z] at h1; exact h1)
      have e2 : q ≠ (p, x) := fun z => hn.1 (by rw [z] at h2; exact h2)
      exact ⟨mem_aug e1 e2, count_aug e1 e2⟩
    obtain ⟨i1, i2⟩ := augC_ok (s.aug b1) (Back.congr un b3) hn.2
    refine ⟨i1, fun v => ?_⟩
    show bal (augC (aug u p x) (p :: r)) v = _
    rw [i2 v, bal_aug b2 hne v, List.getLast_cons (List.cons_ne_nil _ _)]
    omega
/-- a way from the end back to the beginning: one more way in -/
theorem Flow.more (g : Gr adj) (f : Flow adj u) {l : List Nd} (hb : Back adj u (.en :: l)) (hn : (Nd.en :: l).Nodup) (hl : (Nd.en :: l).getLast (List.cons_ne_nil _ _) = .bg) : Flow adj (augC u (.en :: l)) ∧ bal (augC u (.en :: l)) .bg = bal u .bg + 1 := by
  obtain ⟨s, hbal⟩ := augC_ok f.toSemi hb hn
  rw [hl] at hbal
  refine ⟨{ s with k := fun v h1 h2 => ?_ }, ?_⟩
  · rw [hbal v, if_neg h1, if_neg h2, f.k v h1 h2]; rfl
  · rw [hbal .bg, if_pos rfl, if_neg (by simp)]; omega
end
end Mi.Y

set_option Elab.async false
set_option linter.all false
set_option maxRecDepth 100000
set_option maxHeartbeats 1000000
/-! Mi: flows: what is come to, the boxes between, the ways apart. -/
namespace Mi.Y
/-- one can go on from x to y: along an edge (not a box that is passed already), or a used one back -/
def Res (adj : Nd → List Nd) (u : List Pr) (x y : Nd) : Prop := (y ∈ adj x ∧ ((x, y) ∉ u ∨ x.isIn = false)) ∨ (y, x) ∈ u
structure Known (adj : Nd → List Nd) (u : List Pr) (K : List Nd) : Prop where
  nd : K.Nodup
  b : .bg ∈ K
  c : ∀ x ∈ K, ∀ y, Res adj u x y → y ∈ K
section
variable {adj : Nd → List Nd} {u : List Pr} {K : List Nd}
theorem sum_ite {K : List Nd} (hn : K.Nodup) (x : Nd) : (K.map fun v => if x = v then (1 : Int) else 0).sum = if x ∈ K then 1 else 0 := by
  induction K with
  | nil => simp
  | cons k K ih =>
    rw [List.map_cons, List.sum_cons, ih (List.nodup_cons.mp hn).2]
    by_cases e : x = k
    · subst e
      rw [if_pos rfl, if_neg (List.nodup_cons.mp hn).1, if_pos (List.mem_cons_self ..)]; rfl
    · rw [if_neg e]
      by_cases h : x ∈ K
      · rw [if_pos h, if_pos (List.mem_cons_of_mem _ h)]; rfl
      · rw [if_neg h, if_neg (fun z => (List.mem_cons.mp z).elim e h)]; rfl
theorem sum_add {K : List Nd} (f g : Nd → Int) : (K.map fun v => f v + g v).sum = (K.map f).sum + (K.map g).sum := by
  induction K with
  | nil => simp
  | cons k K ih => rw [List.map_cons, List.map_cons, List.map_cons, List.sum_cons, List.sum_cons, List.sum_cons, ih]; omega
theorem sum_outs (hn : K.Nodup) : ∀ u : List Pr, (K.map fun v => (outs u v : Int)).sum = (u.countP fun p => decide (p.1 ∈ K) : Nat)
  | [] => by
    have : (K.map fun v => (outs [] v : Int)) = K.map fun _ => 0 := List.map_congr_left fun v _ => rfl
    rw [this]
    induction K with
    | nil => rfl
    | cons k K ih => rw [List.map_cons, List.sum_cons, ih (List.nodup_cons.mp hn).2 (List.map_congr_left fun v _ => rfl)]; rfl
  | p :: u => by
    have e : (K.map fun v => (outs (p :: u) v : Int)) = K.map fun v => (outs u v : Int) + (if p.1 = v then 1 else 0) := List.map_congr_left fun v _ => by
      unfold outs
      rw [List.countP_cons]
      by_cases h : p.1 = v <;> simp [h]
    rw [e, sum_add, sum_outs hn u, sum_ite hn, List.countP_cons]
    by_cases h : p.1 ∈ K <;> simp [h]
theorem sum_ins (hn : K.Nodup) : ∀ u : List Pr, (K.map fun v => (ins u v : Int)).sum = (u.countP fun p => decide (p.2 ∈ K) : Nat)
  | [] => by
    have : (K.map fun v => (ins [] v : Int)) = K.map fun _ => 0 := List.map_congr_left fun v _ => rfl
    rw [this]
    induction K with
    | nil => rfl
    | cons k K ih => rw [List.map_cons, List.sum_cons, ih (List.nodup_cons.mp hn).2 (List.map_congr_left fun v _ => rfl)]; rfl
  | p :: u => by
    have e : (K.map fun v => (ins (p :: u) v : Int)) = K.map fun v => (ins u v : Int) + (if p.2 = v then 1 else 0) := List.map_congr_left fun v _ => by
      unfold ins
      rw [List.countP_cons]
      by_cases h : p.2 = v <;> simp [h]
    rw [e, sum_add, sum_ins hn u, sum_ite hn, List.countP_cons]
    by_cases h : p.2 ∈ K <;> simp [h]
theorem sum_one {K : List Nd} {f : Nd → Int} (hn : K.Nodup) (hb : .bg ∈ K) (h : ∀ v ∈ K, v ≠ .bg → f v = 0) : (K.map f).sum = f .bg := by
  have e : K.map f = K.map fun v => if Nd.bg = v then f .bg else 0 := List.map_congr_left fun v hv => by
    by_cases z : Nd.bg = v
    · rw [if_pos z, ← z]
    · rw [if_neg z, h v hv (fun y => z y.symm)]
  rw [e]
  clear e
  induction K with
  | nil => cases hb
  | cons k K ih =>
    rw [List.map_cons, List.sum_cons]
    rcases List.mem_cons.mp hb with z | z
    · rw [if_pos z]
      have : (K.map fun v => if Nd.bg = v then f .bg else 0) = K.map fun _ => 0 := List.map_congr_left fun v hv => if_neg fun y => (List.nodup_cons.mp hn).1 (by rw [← z, y]; exact hv)
      rw [this]
      have hz : ∀ L : List Nd, (L.map fun _ => (0 : Int)).sum = 0 := fun L => by
        induction L with
        | nil => rfl
        | cons a L ih => rw [List.map_cons, List.sum_cons, ih]; rfl
      rw [hz]; omega
    · rw [if_neg (fun y => (List.nodup_cons.mp hn).1 (by rw [← y]; exact z)), ih (List.nodup_cons.mp hn).2 z fun v hv => h v (List.mem_cons_of_mem _ hv)]
      omega
theorem countP_two {P Q : Pr → Bool} : ∀ {u : List Pr}, (∀ p ∈ u, Q p = true → P p = true) → u.countP P = (u.countP fun p => P p && !Q p) + u.countP Q
  | [], _ => rfl
  | p :: r, h => by
    have ih := countP_two fun q hq => h q (List.mem_cons_of_mem _ hq)
    have hp := h p (List.mem_cons_self ..)
    rw [List.countP_cons, List.countP_cons, List.countP_cons, ih]
    cases e1 : P p <;> cases e2 : Q p
    · simp
    · rw [hp e2] at e1; cases e1
    · simp; omega
    · simp; omega
/-- as many ways in as used edges that leave what is known -/
theorem Flow.cut (f : Flow adj u) (k : Known adj u K) (he : .en ∉ K) : bal u .bg = (u.countP fun p => decide (p.1 ∈ K) && !decide (p.2 ∈ K) : Nat) := by
  have h1 : (K.map (bal u)).sum = bal u .bg := sum_one k.nd k.b fun v hv hb => f.k v hb fun z => he (by rw [← z]; exact hv)
  have h2 : (K.map (bal u)).sum = (u.countP fun p => decide (p.1 ∈ K) : Nat) - (u.countP fun p => decide (p.2 ∈ K) : Nat) := by
    rw [← sum_outs k.nd u, ← sum_ins k.nd u]
    have : K.map (bal u) = K.map fun v => (outs u v : Int) + (-(ins u v : Int)) := List.map_congr_left fun v _ => rfl
    rw [this, sum_add]
    have e : (K.map fun v => -(ins u v : Int)).sum = -(K.map fun v => (ins u v : Int)).sum := by
      generalize K = L
      induction L with
      | nil => rfl
      | cons a L ih => rw [List.map_cons, List.map_cons, List.sum_cons, List.sum_cons, ih]; omega
    rw [e]; omega
  have h3 : (u.countP fun p => decide (p.1 ∈ K)) = (u.countP fun p => decide (p.1 ∈ K) && !decide (p.2 ∈ K)) + u.countP fun p => decide (p.2 ∈ K) := by
    exact countP_two fun p hp h => decide_eq_true (k.c p.2 (of_decide_eq_true h) p.1 (.inr hp))
  rw [← h1, h2, h3]
  omega
end
end Mi.Y

set_option Elab.async false
set_option linter.all false
set_option maxRecDepth 100000
set_option maxHeartbeats 1000000
/-! Mi: flows: the ways apart; the boxes between are as many. -/
namespace Mi.Y
section
variable {adj : Nd → List Nd} {u : List Pr} {K : List Nd}
theorem two_le {P : Pr → Bool} {p q : Pr} (hp : p ∈ u) (hq : q ∈ u) (hne : p ≠ q) (h1 : P p = true) (h2 : P q = true) : 2 ≤ u.countP P := by
  have e := countP_split u P p
  rw [if_pos h1] at e
  have c1 : 0 < u.count p := List.count_pos_iff.mpr hp
  have c2 : 0 < (u.filter fun r => !decide (r = p)).countP P := List.countP_pos_iff.mpr ⟨q, List.mem_filter.mpr ⟨hq, by simp [Ne.symm hne]⟩, h2⟩
  omega
theorem Flow.in1 (g : Gr adj) (f : Flow adj u) {x y : Nd} {c : Int} (h1 : (x, .inn c) ∈ u) (h2 : (y, .inn c) ∈ u) : x = y := by
  by_cases e : x = y
  · exact e
  · have := two_le (P := fun p => decide (p.2 = .inn c)) h1 h2 (fun z => e (Prod.mk.inj z).1) (decide_eq_true rfl) (decide_eq_true rfl)
    have h3 := (f.out1 g c).2.1
    unfold ins at h3
    omega
theorem Flow.on1 (g : Gr adj) (f : Flow adj u) {x y : Nd} {b : Int} (h1 : (.out b, x) ∈ u) (h2 : (.out b, y) ∈ u) : x = y := by
  by_cases e : x = y
  · exact e
  · have := two_le (P := fun p => decide (p.1 = .out b)) h1 h2 (fun z => e (Prod.mk.inj z).2) (decide_eq_true rfl) (decide_eq_true rfl)
    have h3 := (f.out1 g b).2.2.1
    unfold outs at h3
    omega
/-- what comes into a box goes through it, and on -/
theorem Flow.through (g : Gr adj) (f : Flow adj u) {x : Nd} {b : Int} (h : (x, .inn b) ∈ u) : (.inn b, .out b) ∈ u ∧ ∃ y, (.out b, y) ∈ u := by
  have i1 : 0 < ins u (.inn b) := List.countP_pos_iff.mpr ⟨_, h, decide_eq_true rfl⟩
  have k1 := f.k (.inn b) (by simp) (by simp)
  have k2 := f.k (.out b) (by simp) (by simp)
  have h1 := outs_inn g f.toSemi b
  have h2 := ins_out g f.toSemi b
  unfold bal at k1 k2
  refine ⟨List.count_pos_iff.mp (by omega), ?_⟩
  obtain ⟨p, hp, e⟩ := List.countP_pos_iff.mp (show 0 < outs u (.out b) by omega)
  obtain ⟨p1, p2⟩ := p
  have e : p1 = .out b := of_decide_eq_true e
  subst e
  exact ⟨p2, hp⟩
/-- .. to the end, or to another box -/
theorem Flow.on (g : Gr adj) (f : Flow adj u) (hs : ∀ x b y, y ∈ adj x → x = .out b → y = .en ∨ ∃ c, y = .inn c) {x : Nd} {b : Int} (h : (x, .inn b) ∈ u) : (.out b, .en) ∈ u ∨ ∃ c, (.out b, .inn c) ∈ u := by
  obtain ⟨_, y, hy⟩ := f.through g h
  rcases hs _ b y (f.e _ hy) rfl with e | ⟨c, e⟩
  · subst e; exact .inl hy
  · subst e; exact .inr ⟨c, hy⟩
/-- boxes one behind another along used edges -/
def Line (u : List Pr) : List Int → Prop
  | b :: c :: r => (Nd.out b, Nd.inn c) ∈ u ∧ Line u (c :: r)
  | _ => True
theorem Line.snoc {u : List Pr} {b c : Int} (h : (Nd.out b, Nd.inn c) ∈ u) : ∀ {l : List Int}, Line u (l ++ [b]) → Line u (l ++ [b] ++ [c])
  | [], _ => ⟨h, trivial⟩
  | [a], l => ⟨l.1, h, trivial⟩
  | a :: d :: r, l => ⟨l.1, Line.snoc h (l := d :: r) l.2⟩
theorem Line.step {u : List Pr} : ∀ {l : List Int} {i : Nat} {b c : Int}, Line u l → l[i]? = some b → l[i + 1]? = some c → (Nd.out b, Nd.inn c) ∈ u
  | b' :: c' :: r, 0, b, c, l, h1, h2 => by cases h1; cases h2; exact l.1
  | b' :: c' :: r, i + 1, b, c, l, h1, h2 => Line.step l.2 h1 h2
  | [], _, _, _, _, h1, _ => by cases h1
  | [a], 0, _, _, _, _, h2 => by cases h2
  | [a], i + 1, _, _, _, h1, _ => by cases h1
/-- two lines from first boxes that meet are at the same step, with the same first box -/
theorem Flow.meet (g : Gr adj) (f : Flow adj u) {s t : Int} {l m : List Int} (hl : Line u (s :: l)) (hm : Line u (t :: m)) (hs : (.bg, .inn s) ∈ u) (ht : (.bg, .inn t) ∈ u) : ∀ (i j : Nat) (b : Int), (s :: l)[i]? = some b → (t :: m)[j]? = some b → i = j ∧ s = t
  | 0, 0, b, h1, h2 => by cases h1; cases h2; exact ⟨rfl, rfl⟩
  | 0, j + 1, b, h1, h2 => by
    cases h1
    have hj : j < (t :: m).length := by have := (List.getElem?_eq_some_iff.mp h2).1; omega
    have := Line.step hm (List.getElem?_eq_getElem hj) h2
    cases f.in1 g hs this
  | i + 1, 0, b, h1, h2 => by
    cases h2
    have hi : i < (s :: l).length := by have := (List.getElem?_eq_some_iff.mp h1).1; omega
    have := Line.step hl (List.getElem?_eq_getElem hi) h1
    cases f.in1 g ht this
  | i + 1, j + 1, b, h1, h2 => by
    have hi : i < (s :: l).length := by have := (List.getElem?_eq_some_iff.mp h1).1; omega
    have hj : j < (t :: m).length := by have := (List.getElem?_eq_some_iff.mp h2).1; omega
    have e1 := Line.step hl (List.getElem?_eq_getElem hi) h1
    have e2 := Line.step hm (List.getElem?_eq_getElem hj) h2
    have e := f.in1 g e1 e2
    injection e with e
    have := Flow.meet g f hl hm hs ht i j _ (List.getElem?_eq_getElem hi) (by rw [e]; exact List.getElem?_eq_getElem hj)
    exact ⟨by omega, this.2⟩
theorem Flow.line_nodup (g : Gr adj) (f : Flow adj u) {s : Int} {l : List Int} (hl : Line u (s :: l)) (hs : (.bg, .inn s) ∈ u) : (s :: l).Nodup := by
  show List.Pairwise (· ≠ ·) _
  rw [List.pairwise_iff_getElem]
  intro i j hi hj hij e
  have := (f.meet g hl hl hs hs i j _ (List.getElem?_eq_getElem hi) (by rw [e]; exact List.getElem?_eq_getElem hj)).1
  omega
/-! the boxes between -/
def between (K : List Nd) : List Int := ((List.range 8).map fun j => ((j : Nat) : Int)).filter fun b => decide (.inn b ∈ K) && !decide (.out b ∈ K)
theorem between_nodup : (between K).Nodup := by
  unfold between
  exact List.Pairwise.filter _ (show List.Pairwise (· ≠ ·) ((List.range 8).map fun j => ((j : Nat) : Int)) by decide)
theorem Flow.between (g : Gr adj) (f : Flow adj u) (k : Known adj u K) (he : .en ∉ K) (hb : ∀ b, 0 ≤ b → b < 8 → .out b ∈ adj (.inn b)) (hr : ∀ x b, .inn b ∈ adj x → 0 ≤ b ∧ b < 8) : bal u .bg = ((Y.between K).length : Nat) := by
  rw [f.cut k he, List.countP_eq_length_filter]
  congr 1
  have hn : (u.filter fun p => decide (p.1 ∈ K) && !decide (p.2 ∈ K)).Nodup := by
    rw [List.nodup_iff_count]
    intro p
    exact Nat.le_trans (List.Sublist.count_le _ (List.filter_sublist ..)) (f.once g p)
  have hm : ((Y.between K).map fun b => ((Nd.inn b, Nd.out b) : Pr)).Nodup := by
    unfold List.Nodup
    rw [List.pairwise_map]
    exact (between_nodup (K := K)).imp fun h z => h (by injection z with z1 _; injection z1)
  have hp : (u.filter fun p => decide (p.1 ∈ K) && !decide (p.2 ∈ K)).Perm ((Y.between K).map fun b => ((Nd.inn b, Nd.out b) : Pr)) := by
    rw [List.perm_ext_iff_of_nodup hn hm]
    intro p
    rw [List.mem_filter, List.mem_map]
    constructor
    · rintro ⟨h1, h2⟩
      rw [Bool.and_eq_true] at h2
      have k1 : p.1 ∈ K := of_decide_eq_true h2.1
      have k2 : p.2 ∉ K := by have := h2.2; simpa using this
      obtain ⟨x, y⟩ := p
      have hy : y ∈ adj x := f.e _ h1
      cases hx : x.isIn with
      | false => exact absurd (k.c x k1 y (.inl ⟨hy, .inr hx⟩)) k2
      | true =>
        cases x with
        | inn b =>
          have e := g.i b y hy
          subst e
          have hb8 : 0 ≤ b ∧ b < 8 := by
            -- known boxes are come to along edges of the graph
            have i1 : 0 < outs u (.inn b) := List.countP_pos_iff.mpr ⟨_, h1, decide_eq_true rfl⟩
            have k1' := f.k (.inn b) (by simp) (by simp)
            unfold bal at k1'
            obtain ⟨q, hq, e⟩ := List.countP_pos_iff.mp (show 0 < ins u (.inn b) by omega)
            have e : q.2 = .inn b := of_decide_eq_true e
            have := f.e q hq
            rw [e] at this
            exact hr _ b this
          refine ⟨b, List.mem_filter.mpr ⟨List.mem_map.mpr ⟨b.toNat, List.mem_range.mpr (by omega), by omega⟩, ?_⟩, rfl⟩
          rw [Bool.and_eq_true]
          exact ⟨decide_eq_true k1, by simp [k2]⟩
        | bg => cases hx
        | out b => cases hx
        | en => cases hx
    · rintro ⟨b, hbm, e⟩
      subst e
      obtain ⟨h1, h2⟩ := List.mem_filter.mp hbm
      obtain ⟨j, hj, ej⟩ := List.mem_map.mp h1
      have hj := List.mem_range.mp hj
      rw [Bool.and_eq_true] at h2
      have k1 : Nd.inn b ∈ K := of_decide_eq_true h2.1
      have k2 : Nd.out b ∉ K := by have := h2.2; simpa using this
      refine ⟨?_, by rw [Bool.and_eq_true]; exact ⟨decide_eq_true k1, by simp [k2]⟩⟩
      by_cases hu : ((Nd.inn b, Nd.out b) : Pr) ∈ u
      · exact hu
      · exact absurd (k.c _ k1 _ (.inl ⟨hb b (by omega) (by omega), .inl hu⟩)) k2
  rw [hp.length_eq, List.length_map]
/-- the first boxes of the ways -/
def firsts (u : List Pr) : List Int := (u.filter fun p => decide (p.1 = .bg)).map fun p => match p.2 with
  | .inn b => b
  | _ => 0
theorem firsts_len (g : Gr adj) (f : Flow adj u) : bal u .bg = ((firsts u).length : Nat) := by
  unfold firsts bal
  rw [List.length_map, ← List.countP_eq_length_filter]
  have : ins u .bg = 0 := List.countP_eq_zero.mpr fun p hp h => by
    have := f.e p hp
    have h : p.2 = .bg := of_decide_eq_true h
    rw [h] at this
    exact g.b _ this
  rw [this]
  unfold outs
  omega
end
end Mi.Y

set_option Elab.async false
set_option linter.all false
set_option maxRecDepth 100000
set_option maxHeartbeats 1000000
/-! Mi: the graph of a house. -/
namespace Mi.Y
def nextB : List Acc → Int → List Int → List Int
  | [], _, f => f
  | p :: r, b, f => nextB r b (if b ∈ p.1 then f ++ p.2.filter (fun c => !decide (c = b) && !decide (c ∈ f)) else f)
theorem mem_nextB {b c : Int} : ∀ {h : List Acc} {f : List Int}, c ∈ nextB h b f ↔ c ∈ f ∨ (c ≠ b ∧ ∃ p ∈ h, b ∈ p.1 ∧ c ∈ p.2)
  | [], f => by unfold nextB; simp
  | p :: r, f => by
    unfold nextB
    rw [mem_nextB]
    by_cases hb : b ∈ p.1
    · rw [if_pos hb, List.mem_append, List.mem_filter]
      constructor
      · rintro ((h | ⟨h1, h2⟩) | ⟨h1, q, h2, h3⟩)
        · exact .inl h
        · rw [Bool.and_eq_true] at h2
          exact .inr ⟨by simpa using h2.1, p, List.mem_cons_self .., hb, h1⟩
        · exact .inr ⟨h1, q, List.mem_cons_of_mem _ h2, h3⟩
      · rintro (h | ⟨h1, q, h2, h3, h4⟩)
        · exact .inl (.inl h)
        · by_cases hf : c ∈ f
          · exact .inl (.inl hf)
          · rcases List.mem_cons.mp h2 with e | e
            · subst e
              exact .inl (.inr ⟨h4, by simp [h1, hf]⟩)
            · exact .inr ⟨h1, q, e, h3, h4⟩
    · rw [if_neg hb]
      constructor
      · rintro (h | ⟨h1, q, h2, h3⟩)
        · exact .inl h
        · exact .inr ⟨h1, q, List.mem_cons_of_mem _ h2, h3⟩
      · rintro (h | ⟨h1, q, h2, h3, h4⟩)
        · exact .inl h
        · rcases List.mem_cons.mp h2 with e | e
          · subst e; exact absurd h3 hb
          · exact .inr ⟨h1, q, e, h3, h4⟩
theorem nextB_good {b : Int} : ∀ {h : List Acc} {f : List Int}, (∀ p ∈ h, Good p.2) → Good f → Good (nextB h b f)
  | [], _, _, hf => hf
  | p :: r, f, hh, hf => by
    unfold nextB
    refine nextB_good (fun q hq => hh q (List.mem_cons_of_mem _ hq)) ?_
    split
    · have hp := hh p (List.mem_cons_self ..)
      refine ⟨List.nodup_append.mpr ⟨hf.1, hp.1.filter _, fun x hx y hy e => ?_⟩, fun x hx => ?_⟩
      · subst e
        have := (List.mem_filter.mp hy).2
        rw [Bool.and_eq_true] at this
        simp [hx] at this
      · rcases List.mem_append.mp hx with z | z
        · exact hf.2 x z
        · exact hp.2 x (List.mem_filter.mp z).1
    · exact hf
def gAdj (h : List Acc) (boxes : List Int) (p0 : Acc) : Nd → List Nd
  | .bg => boxes.map .inn
  | .inn b => [.out b]
  | .out b => (nextB h b []).map .inn ++ (if b ∈ p0.1 then [.en] else [])
  | .en => []
/-- the boxes of a node are boxes -/
def Nd.ok : Nd → Prop
  | .inn b => 0 ≤ b ∧ b < 8
  | .out b => 0 ≤ b ∧ b < 8
  | _ => True
section
variable {h : List Acc} {boxes : List Int} {p0 : Acc}
theorem gAdj_gr : Gr (gAdj h boxes p0) where
  i := fun b y hy => List.mem_singleton.mp hy
  o := fun x b hb => by
    cases x with
    | bg => obtain ⟨c, _, e⟩ := List.mem_map.mp hb; cases e
    | inn c =>
      have := List.mem_singleton.mp hb
      injection this with e
      rw [e]
    | out c =>
      rcases List.mem_append.mp hb with z | z
      · obtain ⟨c, _, e⟩ := List.mem_map.mp z; cases e
      · split at z
        · cases List.mem_singleton.mp z
        · cases z
    | en => cases hb
  b := fun x hb => by
    cases x with
    | bg => obtain ⟨c, _, e⟩ := List.mem_map.mp hb; cases e
    | inn c => cases List.mem_singleton.mp hb
    | out c =>
      rcases List.mem_append.mp hb with z | z
      · obtain ⟨c, _, e⟩ := List.mem_map.mp z; cases e
      · split at z
        · cases List.mem_singleton.mp z
        · cases z
    | en => cases hb
  e := fun x hb => by
    cases x with
    | bg => obtain ⟨c, _, e⟩ := List.mem_map.mp hb; cases e
    | inn c => cases List.mem_singleton.mp hb
    | out c => exact ⟨c, rfl⟩
    | en => cases hb
  n := rfl
theorem gAdj_ok (hb : Good boxes) (ho : ∀ p ∈ h, Good p.2) {x y : Nd} (hx : x.ok) (hy : y ∈ gAdj h boxes p0 x) : y.ok := by
  cases x with
  | bg => obtain ⟨c, hc, e⟩ := List.mem_map.mp hy; subst e; exact hb.2 c hc
  | inn c => rw [List.mem_singleton.mp hy]; exact hx
  | out c =>
    rcases List.mem_append.mp hy with z | z
    · obtain ⟨c, hc, e⟩ := List.mem_map.mp z
      subst e
      exact (nextB_good ho .nil).2 c hc
    · split at z
      · rw [List.mem_singleton.mp z]; exact trivial
      · cases z
  | en => cases hy
theorem gAdj_inn (hb : Good boxes) (ho : ∀ p ∈ h, Good p.2) {x : Nd} {b : Int} (hy : .inn b ∈ gAdj h boxes p0 x) : 0 ≤ b ∧ b < 8 := by
  cases x with
  | bg => obtain ⟨c, hc, e⟩ := List.mem_map.mp hy; injection e with e; subst e; exact hb.2 c hc
  | inn c => cases List.mem_singleton.mp hy
  | out c =>
    rcases List.mem_append.mp hy with z | z
    · obtain ⟨c, hc, e⟩ := List.mem_map.mp z
      injection e with e
      subst e
      exact (nextB_good ho .nil).2 c hc
    · split at z
      · cases List.mem_singleton.mp z
      · cases z
  | en => cases hy
/-- nodes told apart: eighteen at the most -/
def Nd.code : Nd → Int
  | .bg => 0
  | .en => 1
  | .inn b => 2 + b
  | .out b => 10 + b
theorem Nd.few {l : List Nd} (hn : l.Nodup) (ho : ∀ x ∈ l, x.ok) : l.length ≤ 18 := by
  have : (l.map Nd.code).length ≤ 18 := Y.few (n := 18) (by
    unfold List.Nodup
    rw [List.pairwise_map]
    refine List.Pairwise.imp_of_mem ?_ hn
    intro x y hx hy hne e
    have h1 := ho x hx
    have h2 := ho y hy
    cases x <;> cases y <;> simp only [Nd.code, Nd.ok] at e h1 h2 <;> first | exact hne rfl | omega | (exact hne (by congr 1; omega))) fun c hc => by
    obtain ⟨x, hx, e⟩ := List.mem_map.mp hc
    have h1 := ho x hx
    cases x <;> simp only [Nd.code, Nd.ok] at e h1 <;> omega
  rwa [List.length_map] at this
end
/-! what is met, with where each is from -/
structure MetK (adj : Nd → List Nd) (u : List Pr) (K : List Pr) : Prop where
  nd : (K.map (·.1)).Nodup
  h : K[0]? = some (.bg, .bg)
  ok : ∀ x ∈ K.map (·.1), x.ok
  p : ∀ (i : Nat) (x p : Nd), 0 < i → K[i]? = some (x, p) → ∃ (j : Nat) (q : Nd), j < i ∧ K[j]? = some (p, q) ∧ Res adj u p x
  c : ∀ x ∈ K.map (·.1), ∀ y, Res adj u x y → y ∈ K.map (·.1)
theorem MetK.known {adj : Nd → List Nd} {u K : List Pr} (m : MetK adj u K) : Known adj u (K.map (·.1)) := ⟨m.nd, List.mem_map.mpr ⟨_, List.mem_of_getElem? m.h, rfl⟩, m.c⟩
/-- the way back from a place -/
theorem MetK.back {adj : Nd → List Nd} {u K : List Pr} (g : Gr adj) (f : Flow adj u) (m : MetK adj u K) : ∀ (n i : Nat) (x p : Nd), i ≤ n → K[i]? = some (x, p) → ∃ l : List Nd, Back adj u (x :: l) ∧ (x :: l).Nodup ∧ (x :: l).getLast (List.cons_ne_nil _ _) = .bg ∧ (∀ y ∈ l, ∃ (j : Nat) (q : Nd), j < i ∧ K[j]? = some (y, q)) ∧ (∀ (j : Nat) (y z : Nd), (x :: l)[j]? = some y → (x :: l)[j + 1]? = some z → (y, z) ∈ K)
  | n, 0, x, p, _, h => by
    rw [m.h] at h
    cases h
    refine ⟨[], trivial, List.pairwise_singleton _ _, rfl, ?_, ?_⟩
    · intro y hy
      cases hy
    · intro j y z _ h2
      simp at h2
  | 0, i + 1, _, _, hn, _ => by omega
  | n + 1, i + 1, x, p, hn, h => by
    obtain ⟨j, q, hj, hq, hr⟩ := m.p (i + 1) x p (by omega) h
    obtain ⟨l, l1, l2, l3, l4, l5⟩ := MetK.back g f m n j p q (by omega) hq
    have inj : ∀ (a b : Nat) (y r s : Nd), K[a]? = some (y, r) → K[b]? = some (y, s) → a = b := fun a b y r s ha hb => by
      have h1 : (K.map (·.1))[a]? = some y := by rw [List.getElem?_map, ha]; rfl
      have h2 : (K.map (·.1))[b]? = some y := by rw [List.getElem?_map, hb]; rfl
      have la := (List.getElem?_eq_some_iff.mp h1).1
      exact (List.getElem?_inj la m.nd).mp (h1.trans h2.symm)
    have below : ∀ y ∈ p :: l, ∃ (j' : Nat) (q : Nd), j' < i + 1 ∧ K[j']? = some (y, q) := fun y hy => by
      rcases List.mem_cons.mp hy with e | e
      · subst e; exact ⟨j, q, hj, hq⟩
      · obtain ⟨j', q', h1, h2⟩ := l4 y e
        exact ⟨j', q', by omega, h2⟩
    refine ⟨p :: l, ⟨?_, f.once g (x, p), l1⟩, List.nodup_cons.mpr ⟨fun hx => ?_, l2⟩, by rw [List.getLast_cons (List.cons_ne_nil _ _)]; exact l3, below, ?_⟩
    · rcases hr with ⟨h1, h2⟩ | h1
      · exact .inr ⟨h1, fun z => h2.elim id fun y => by rw [z] at y; cases y⟩
      · exact .inl h1
    · obtain ⟨j', q', h1, h2⟩ := below x hx
      have := inj _ _ _ _ _ h2 h
      omega
    · intro j' y z h1 h2
      cases j' with
      | zero =>
        cases h1; cases h2
        exact List.mem_of_getElem? h
      | succ j' => exact l5 j' y z h1 h2
theorem augC_snoc {u : List Pr} {x p : Nd} : ∀ {l : List Nd}, augC u (l ++ [x, p]) = aug (augC u (l ++ [x])) p x
  | [] => rfl
  | [a] => rfl
  | a :: b :: r => by
    show augC (aug u b a) (b :: r ++ [x, p]) = aug (augC (aug u b a) (b :: r ++ [x])) p x
    exact augC_snoc (l := b :: r)
end Mi.Y

set_option Elab.async false
set_option linter.all false
set_option maxRecDepth 100000
set_option maxHeartbeats 1000000
/-! Mi: flows: ways along used edges; boxes that bar, ways that share none. -/
namespace Mi.Y
section
variable {adj : Nd → List Nd} {u : List Pr}
theorem Flow.nil : Flow adj [] where
  e := fun p hp => by cases hp
  c := fun b => Nat.zero_le _
  k := fun v _ _ => rfl
theorem mem_augC {q : Pr} : ∀ {l : List Nd} {u : List Pr}, q ∈ augC u l → q ∈ u ∨ (q.1 ∈ l ∧ q.2 ∈ l)
  | [], _, h => .inl h
  | [_], _, h => .inl h
  | x :: p :: r, u, h => by
    have h : q ∈ augC (aug u p x) (p :: r) := h
    rcases mem_augC h with h | h
    · by_cases e : q ∈ u
      · exact .inl e
      · unfold aug at h
        split at h
        · exact .inl (List.mem_filter.mp h).1
        · rcases List.mem_append.mp h with z | z
          · exact .inl z
          · rw [List.mem_singleton.mp z]
            exact .inr ⟨List.mem_cons_of_mem _ (List.mem_cons_self ..), List.mem_cons_self ..⟩
    · exact .inr ⟨List.mem_cons_of_mem _ h.1, List.mem_cons_of_mem _ h.2⟩
theorem aug_len {p x : Nd} : (aug u p x).length ≤ u.length + 1 := by
  unfold aug
  split
  · exact Nat.le_succ_of_le (List.length_filter_le _ _)
  · rw [List.length_append]; exact Nat.le_refl _
theorem augC_len : ∀ {l : List Nd} {u : List Pr}, (augC u l).length ≤ u.length + l.length
  | [], u => Nat.le_refl _
  | [_], u => Nat.le_add_right _ _
  | x :: p :: r, u => by
    show (augC (aug u p x) (p :: r)).length ≤ _
    have h1 := augC_len (l := p :: r) (u := aug u p x)
    have h2 := aug_len (u := u) (p := p) (x := x)
    rw [List.length_cons] at h1 ⊢
    rw [List.length_cons]
    omega
theorem Gr.bgi (g : Gr adj) {y : Nd} (h : y ∈ adj .bg) : ∃ b, y = .inn b := by
  cases y with
  | bg => exact absurd h (g.b _)
  | inn b => exact ⟨b, rfl⟩
  | out b => cases g.o _ _ h
  | en => obtain ⟨b, e⟩ := g.e _ h; cases e
theorem Gr.oute (g : Gr adj) {y : Nd} {b : Int} (h : y ∈ adj (.out b)) : (∃ c, y = .inn c) ∨ y = .en := by
  cases y with
  | bg => exact absurd h (g.b _)
  | inn b => exact .inl ⟨b, rfl⟩
  | out b => cases g.o _ _ h
  | en => exact .inr rfl
def nB : Nd → Int
  | .inn b => b
  | .out b => b
  | _ => 0
theorem Flow.nodup (g : Gr adj) (f : Flow adj u) : u.Nodup := by
  rw [List.nodup_iff_count]
  exact f.once g
theorem firsts_eq (g : Gr adj) (f : Flow adj u) : firsts u = (u.filter fun p => decide (p.1 = .bg)).map fun p => nB p.2 := by
  unfold firsts
  refine List.map_congr_left fun p hp => ?_
  obtain ⟨h1, h2⟩ := List.mem_filter.mp hp
  have h3 := f.e p h1
  rw [of_decide_eq_true h2] at h3
  obtain ⟨b, e⟩ := g.bgi h3
  rw [e]; rfl
theorem mem_firsts (g : Gr adj) (f : Flow adj u) {b : Int} : b ∈ firsts u ↔ (.bg, .inn b) ∈ u := by
  rw [firsts_eq g f, List.mem_map]
  constructor
  · rintro ⟨p, hp, e⟩
    obtain ⟨h1, h2⟩ := List.mem_filter.mp hp
    have h2 := of_decide_eq_true h2
    have h3 := f.e p h1
    rw [h2] at h3
    obtain ⟨c, e2⟩ := g.bgi h3
    rw [e2] at e
    rw [← show p = (.bg, .inn b) from Prod.ext h2 (by rw [e2, ← e]; rfl)]
    exact h1
  · intro h
    exact ⟨_, List.mem_filter.mpr ⟨h, decide_eq_true rfl⟩, rfl⟩
theorem firsts_good (g : Gr adj) (f : Flow adj u) (hr : ∀ x b, .inn b ∈ adj x → 0 ≤ b ∧ b < 8) : Good (firsts u) := by
  refine ⟨?_, fun b hb => hr _ _ (f.e _ ((mem_firsts g f).mp hb))⟩
  rw [firsts_eq g f]
  show List.Pairwise (· ≠ ·) _
  rw [List.pairwise_map]
  refine List.Pairwise.imp_of_mem ?_ ((f.nodup g).filter _)
  intro p q hp hq hne e
  obtain ⟨h1, h2⟩ := List.mem_filter.mp hp
  obtain ⟨k1, k2⟩ := List.mem_filter.mp hq
  have h2 := of_decide_eq_true h2
  have k2 := of_decide_eq_true k2
  have h3 := f.e p h1
  have k3 := f.e q k1
  rw [h2] at h3
  rw [k2] at k3
  obtain ⟨b, e1⟩ := g.bgi h3
  obtain ⟨c, e2⟩ := g.bgi k3
  rw [e1, e2] at e
  have e : b = c := e
  exact hne (Prod.ext (h2.trans k2.symm) (by rw [e1, e2, e]))
theorem flow_le8 (g : Gr adj) (f : Flow adj u) (hr : ∀ x b, .inn b ∈ adj x → 0 ≤ b ∧ b < 8) : bal u .bg ≤ 8 := by
  have h1 := firsts_len g f
  have h2 := (firsts_good g f hr).few
  omega
/-! what follows a box -/
def aft (u : List Pr) (b : Int) : List Int := (u.filter fun p => decide (p.1 = .out b) && p.2.isIn).map fun p => nB p.2
theorem aft_cases (g : Gr adj) (f : Flow adj u) (b : Int) : (aft u b = [] ∧ ∀ c, (.out b, .inn c) ∉ u) ∨ ∃ c, aft u b = [c] ∧ (.out b, .inn c) ∈ u := by
  have hn : (u.filter fun p => decide (p.1 = .out b) && p.2.isIn).Nodup := (f.nodup g).filter _
  have hm : ∀ p ∈ (u.filter fun p => decide (p.1 = .out b) && p.2.isIn), p ∈ u ∧ ∃ c, p = (.out b, .inn c) := fun p hp => by
    obtain ⟨h1, h2⟩ := List.mem_filter.mp hp
    rw [Bool.and_eq_true] at h2
    obtain ⟨h2, h3⟩ := h2
    obtain ⟨p1, p2⟩ := p
    have h2 : p1 = .out b := of_decide_eq_true h2
    subst h2
    cases p2 with
    | inn c => exact ⟨h1, c, rfl⟩
    | bg => cases h3
    | out c => cases h3
    | en => cases h3
  unfold aft
  rcases e : (u.filter fun p => decide (p.1 = .out b) && p.2.isIn) with _ | ⟨p, r⟩
  · refine .inl ⟨by rw [e]; rfl, fun c hc => ?_⟩
    have : (Nd.out b, Nd.inn c) ∈ (u.filter fun p => decide (p.1 = .out b) && p.2.isIn) := List.mem_filter.mpr ⟨hc, by rw [Bool.and_eq_true]; exact ⟨decide_eq_true rfl, rfl⟩⟩
    rw [e] at this
    cases this
  · rw [e] at hn hm
    obtain ⟨h1, c, e1⟩ := hm p (List.mem_cons_self ..)
    subst e1
    refine .inr ⟨c, ?_, h1⟩
    cases r with
    | nil => rw [e]; rfl
    | cons q r =>
      obtain ⟨k1, d, e2⟩ := hm q (List.mem_cons_of_mem _ (List.mem_cons_self ..))
      subst e2
      have := f.on1 g h1 k1
      refine absurd ?_ (List.nodup_cons.mp hn).1
      rw [this]
      exact List.mem_cons_self ..
/-- a way along used edges -/
def wayN (u : List Pr) : Nat → Int → List Int
  | 0, b => [b]
  | n + 1, b => match aft u b with
    | [] => [b]
    | c :: _ => b :: wayN u n c
theorem wayN_end {b : Int} (h : aft u b = []) (n : Nat) : wayN u n b = [b] := by
  cases n with
  | zero => rfl
  | succ n => unfold wayN; rw [h]
theorem wayN_go {b c : Int} (h : aft u b = [c]) (n : Nat) : wayN u (n + 1) b = b :: wayN u n c := by
  show (match aft u b with | [] => [b] | c :: _ => b :: wayN u n c) = _
  rw [h]
def wayOn (u : List Pr) (s : Int) : List Int := wayN u 8 s
theorem Line.in_ (g : Gr adj) (f : Flow adj u) {s : Int} (hs : (.bg, .inn s) ∈ u) : ∀ {l : List Int} {y : Nd}, (y, .inn s) ∈ u → Line u (s :: l) → ∀ b ∈ s :: l, ∃ x, (x, .inn b) ∈ u
  | l, y, hy, hl, b, hb => by
    rcases List.mem_iff_getElem?.mp hb with ⟨i, hi⟩
    cases i with
    | zero => cases hi; exact ⟨_, hs⟩
    | succ i =>
      have hlt : i + 1 < (s :: l).length := (List.getElem?_eq_some_iff.mp hi).1
      exact ⟨_, Line.step hl (List.getElem?_eq_getElem (show i < (s :: l).length by omega)) hi⟩
theorem line_good (g : Gr adj) (f : Flow adj u) (hr : ∀ x b, .inn b ∈ adj x → 0 ≤ b ∧ b < 8) {s : Int} {l : List Int} (hs : (.bg, .inn s) ∈ u) (hl : Line u (s :: l)) : Good (s :: l) := ⟨f.line_nodup g hl hs, fun b hb => by
  obtain ⟨x, hx⟩ := Line.in_ g f hs hs hl b hb
  exact hr _ _ (f.e _ hx)⟩
theorem way_spec (g : Gr adj) (f : Flow adj u) (hr : ∀ x b, .inn b ∈ adj x → 0 ≤ b ∧ b < 8) {s : Int} (hs : (.bg, .inn s) ∈ u) : ∀ (n : Nat) (pre : List Int) (b : Int), Line u (pre ++ [b]) → (∃ l, pre ++ [b] = s :: l) → n + pre.length = 8 → Line u (pre ++ wayN u n b) ∧ (∃ l, pre ++ wayN u n b = s :: l) ∧ ∃ c, (pre ++ wayN u n b).getLast? = some c ∧ aft u c = []
  | 0, pre, b, h1, ⟨l, h2⟩, h3 => by
    rw [h2] at h1
    have := (line_good g f hr hs h1).few
    rw [← h2, List.length_append] at this
    have e : ([b] : List Int).length = 1 := rfl
    omega
  | n + 1, pre, b, h1, h2, h3 => by
    rcases aft_cases g f b with ⟨e, _⟩ | ⟨c, e, hc⟩
    · rw [wayN_end e]
      exact ⟨h1, h2, b, by rw [List.getLast?_append]; rfl, e⟩
    · rw [wayN_go e]
      have ih := way_spec g f hr hs n (pre ++ [b]) c (Line.snoc hc h1) (by
        obtain ⟨l, h2⟩ := h2
        exact ⟨l ++ [c], by rw [h2]; rfl⟩) (by rw [List.length_append]; have e : ([b] : List Int).length = 1 := rfl; omega)
      rw [List.append_assoc] at ih
      exact ih
theorem wayOn_spec (g : Gr adj) (f : Flow adj u) (hr : ∀ x b, .inn b ∈ adj x → 0 ≤ b ∧ b < 8) {s : Int} (hs : (.bg, .inn s) ∈ u) : ∃ l c, wayOn u s = s :: l ∧ Line u (s :: l) ∧ (s :: l).getLast? = some c ∧ .en ∈ adj (.out c) := by
  obtain ⟨h1, ⟨l, h2⟩, c, h3, h4⟩ := way_spec g f hr hs 8 [] s trivial ⟨[], rfl⟩ rfl
  have h2 : wayN u 8 s = s :: l := h2
  have h1 : Line u (wayN u 8 s) := h1
  have h3 : (wayN u 8 s).getLast? = some c := h3
  rw [h2] at h1 h3
  refine ⟨l, c, h2, h1, h3, ?_⟩
  obtain ⟨x, hx⟩ := Line.in_ g f hs hs h1 c (List.mem_of_getLast? h3)
  obtain ⟨_, y, hy⟩ := f.through g hx
  have hy2 := f.e _ hy
  rcases g.oute hy2 with ⟨d, e⟩ | e
  · subst e
    rcases aft_cases g f c with ⟨_, z⟩ | ⟨d', e, _⟩
    · exact absurd hy (z d)
    · rw [e] at h4; cases h4
  · subst e; exact hy2
end
/-! ways that share none, boxes that bar -/
def Linked (h : List Acc) : List Int → Prop
  | b :: c :: r => (∃ p ∈ h, b ∈ p.1 ∧ c ∈ p.2) ∧ Linked h (c :: r)
  | _ => True
/-- from a read box to one of the account's -/
structure WayB (h : List Acc) (boxes : List Int) (p0 : Acc) (w : List Int) : Prop where
  a : ∃ b, w.head? = some b ∧ b ∈ boxes
  z : ∃ b, w.getLast? = some b ∧ b ∈ p0.1
  l : Linked h w
def Bar (h : List Acc) (boxes : List Int) (p0 : Acc) (B : List Int) : Prop := ∃ S : List Int, (∀ b ∈ boxes, b ∉ B → b ∈ S) ∧ (∀ p ∈ h, led S p = true → ∀ c ∈ p.2, c ∉ B → c ∈ S) ∧ led S p0 = false
structure BarsK (h : List Acc) (boxes : List Int) (p0 : Acc) (B : List Int) (W : List (List Int)) : Prop where
  r : B.Pairwise (· < ·)
  g : Good B
  n : W.length = B.length
  w : ∀ w ∈ W, WayB h boxes p0 w
  f : ∀ w ∈ W, Good w
  a : W.flatten.Nodup
  b : Bar h boxes p0 B
theorem linked_of_line {h : List Acc} {boxes : List Int} {p0 : Acc} {u : List Pr} (f : Flow (gAdj h boxes p0) u) : ∀ {w : List Int}, Line u w → Linked h w
  | [], _ => trivial
  | [_], _ => trivial
  | b :: c :: r, hl => by
    refine ⟨?_, linked_of_line f hl.2⟩
    have := f.e _ hl.1
    rcases List.mem_append.mp this with z | z
    · obtain ⟨d, hd, e⟩ := List.mem_map.mp z
      injection e with e
      subst e
      rcases mem_nextB.mp hd with y | ⟨_, p, hp, h1, h2⟩
      · cases y
      · exact ⟨p, hp, h1, h2⟩
    · split at z
      · cases List.mem_singleton.mp z
      · cases z
theorem Bar.hits {h : List Acc} {boxes : List Int} {p0 : Acc} {B : List Int} (hb : Bar h boxes p0 B) {w : List Int} (hw : WayB h boxes p0 w) : ∃ b ∈ w, b ∈ B := by
  by_cases hn : ∃ b ∈ w, b ∈ B
  · exact hn
  obtain ⟨S, h1, h2, h3⟩ := hb
  obtain ⟨⟨b, e, hb⟩, ⟨c, e2, hc⟩, hl⟩ := hw
  exfalso
  have key : ∀ {w : List Int}, (∀ b ∈ w, b ∉ B) → Linked h w → (∀ b, w.head? = some b → b ∈ S) → ∀ c, w.getLast? = some c → c ∈ S := fun {w} => by
    induction w with
    | nil => intro _ _ _ c e; cases e
    | cons b r ih =>
      intro k1 k2 k3 c e
      cases r with
      | nil => cases e; exact k3 _ rfl
      | cons d r =>
        obtain ⟨⟨p, hp, q1, q2⟩, k2⟩ := k2
        refine ih (fun b hb => k1 b (List.mem_cons_of_mem _ hb)) k2 (fun x hx => ?_) c (by rw [List.getLast?_cons_cons] at e; exact e)
        cases hx
        exact h2 p hp (led_iff.mpr ⟨b, q1, k3 b rfl⟩) d q2 (k1 d (List.mem_cons_of_mem _ (List.mem_cons_self ..)))
  have hno : ∀ b ∈ w, b ∉ B := fun b hb z => hn ⟨b, hb, z⟩
  have := key hno hl (fun x hx => by
    rw [e] at hx
    cases hx
    exact h1 _ hb (hno _ (List.mem_of_head? e))) c e2
  rw [Bool.eq_false_iff] at h3
  exact h3 (led_iff.mpr ⟨c, hc, this⟩)
theorem len_sub : ∀ {l m : List Int}, l.Nodup → (∀ x ∈ l, x ∈ m) → l.length ≤ m.length
  | [], m, _, _ => Nat.zero_le _
  | a :: l, m, hn, hs => by
    have hn := List.nodup_cons.mp hn
    have ha := hs a (List.mem_cons_self ..)
    have := len_sub (m := m.erase a) hn.2 fun x hx => (List.mem_erase_of_ne (fun e => hn.1 (by rw [← e]; exact hx))).mpr (hs x (List.mem_cons_of_mem _ hx))
    rw [List.length_erase_of_mem ha] at this
    have := List.length_pos_of_mem ha
    rw [List.length_cons]
    omega
/-- no more ways that share none than boxes that bar -/
theorem Bar.many {h : List Acc} {boxes : List Int} {p0 : Acc} {B : List Int} (hb : Bar h boxes p0 B) {W : List (List Int)} (hw : ∀ w ∈ W, WayB h boxes p0 w) (ha : W.flatten.Nodup) : W.length ≤ B.length := by
  have h1 : ∀ W : List (List Int), (∀ w ∈ W, WayB h boxes p0 w) → W.length ≤ (W.flatten.filter fun b => decide (b ∈ B)).length := fun W => by
    induction W with
    | nil => intro _; exact Nat.zero_le _
    | cons w W ih =>
      intro k
      have k1 := ih fun v hv => k v (List.mem_cons_of_mem _ hv)
      obtain ⟨b, b1, b2⟩ := hb.hits (k w (List.mem_cons_self ..))
      have k2 : 0 < (w.filter fun b => decide (b ∈ B)).length := List.length_pos_of_mem (List.mem_filter.mpr ⟨b1, decide_eq_true b2⟩)
      rw [List.flatten_cons, List.filter_append, List.length_append, List.length_cons]
      omega
  exact Nat.le_trans (h1 W hw) (len_sub (ha.filter _) fun x hx => of_decide_eq_true (List.mem_filter.mp hx).2)
theorem BarsK.same {h : List Acc} {boxes : List Int} {p0 : Acc} {B B' : List Int} {W W' : List (List Int)} (k : BarsK h boxes p0 B W) (k' : BarsK h boxes p0 B' W') : B.length = B'.length := by
  have h1 := k.b.many k'.w k'.a
  have h2 := k'.b.many k.w k.a
  have := k.n
  have := k'.n
  omega
/-- what is told when no way is more -/
theorem BarsK.of {h : List Acc} {boxes : List Int} {p0 : Acc} {u K : List Pr} (hh : ∀ p ∈ h, Good p.2) (hb : Good boxes) (h0 : ∀ b ∈ p0.1, 0 ≤ b ∧ b < 8) (f : Flow (gAdj h boxes p0) u) (m : MetK (gAdj h boxes p0) u K) (he : .en ∉ K.map (·.1)) : BarsK h boxes p0 (between (K.map (·.1))) ((sortI (firsts u)).map (wayOn u)) := by
  have g : Gr (gAdj h boxes p0) := gAdj_gr
  have hr : ∀ x b, .inn b ∈ gAdj h boxes p0 x → 0 ≤ b ∧ b < 8 := fun x b hx => gAdj_inn hb hh hx
  have k := m.known
  have hfl := f.between g k he (fun b _ _ => List.mem_singleton.mpr rfl) hr
  have hfi := firsts_len g f
  have hws : ∀ w ∈ (sortI (firsts u)).map (wayOn u), ∃ s l c, w = s :: l ∧ (.bg, .inn s) ∈ u ∧ Line u (s :: l) ∧ (s :: l).getLast? = some c ∧ .en ∈ gAdj h boxes p0 (.out c) := fun w hw => by
    obtain ⟨s, hs, e⟩ := List.mem_map.mp hw
    have hs := (mem_firsts g f).mp ((sortI_perm _).mem_iff.mp hs)
    obtain ⟨l, c, e2, h1, h2, h3⟩ := wayOn_spec g f hr hs
    exact ⟨s, l, c, by rw [← e, e2], hs, h1, h2, h3⟩
  have hK : ∀ b, b ∈ between (K.map (·.1)) ↔ (0 ≤ b ∧ b < 8) ∧ .inn b ∈ K.map (·.1) ∧ .out b ∉ K.map (·.1) := fun b => by
    unfold between
    rw [List.mem_filter, Bool.and_eq_true, decide_eq_true_eq, Bool.not_eq_true', decide_eq_false_iff_not, List.mem_map]
    constructor
    · rintro ⟨⟨j, hj, e⟩, h⟩
      have := List.mem_range.mp hj
      exact ⟨by omega, h⟩
    · rintro ⟨h1, h⟩
      exact ⟨⟨b.toNat, List.mem_range.mpr (by omega), by omega⟩, h⟩
  refine ⟨?_, ⟨between_nodup, fun b hb => ((hK b).mp hb).1⟩, ?_, ?_, ?_, ?_, ?_⟩
  · unfold between
    refine List.Pairwise.filter _ ?_
    rw [List.pairwise_map]
    exact (List.pairwise_lt_range (n := 8)).imp fun h => by omega
  · rw [List.length_map, (sortI_perm _).length_eq]
    omega
  · intro w hw
    obtain ⟨s, l, c, e, h1, h2, h3, h4⟩ := hws w hw
    subst e
    refine ⟨⟨s, rfl, ?_⟩, ⟨c, h3, ?_⟩, linked_of_line f h2⟩
    · obtain ⟨d, hd, e⟩ := List.mem_map.mp (f.e _ h1)
      injection e with e
      rw [← e]; exact hd
    · rcases List.mem_append.mp h4 with z | z
      · obtain ⟨d, hd, e⟩ := List.mem_map.mp z; cases e
      · split at z
        · assumption
        · cases z
  · intro w hw
    obtain ⟨s, l, c, e, h1, h2, h3, h4⟩ := hws w hw
    subst e
    exact line_good g f hr h1 h2
  · show List.Pairwise (· ≠ ·) _
    rw [List.pairwise_flatten]
    refine ⟨fun w hw => ?_, ?_⟩
    · obtain ⟨s, l, c, e, h1, h2, h3, h4⟩ := hws w hw
      subst e
      exact f.line_nodup g h2 h1
    · rw [List.pairwise_map]
      refine List.Pairwise.imp_of_mem ?_ ((firsts_good g f hr).sort.1)
      intro s t hs ht hne x hx y hy e
      subst e
      have hs := (mem_firsts g f).mp ((sortI_perm _).mem_iff.mp hs)
      have ht := (mem_firsts g f).mp ((sortI_perm _).mem_iff.mp ht)
      obtain ⟨l, c, e2, h1, h2, h3⟩ := wayOn_spec g f hr hs
      obtain ⟨l', c', e2', h1', h2', h3'⟩ := wayOn_spec g f hr ht
      rw [e2] at hx
      rw [e2'] at hy
      obtain ⟨i, hi⟩ := List.mem_iff_getElem?.mp hx
      obtain ⟨j, hj⟩ := List.mem_iff_getElem?.mp hy
      exact hne (f.meet g h1 h1' hs ht i j x hi hj).2
  · have hS : ∀ b, b ∈ ((List.range 8).map fun j => ((j : Nat) : Int)).filter (fun b => decide (.out b ∈ K.map (·.1))) ↔ (0 ≤ b ∧ b < 8) ∧ .out b ∈ K.map (·.1) := fun b => by
      rw [List.mem_filter, decide_eq_true_eq, List.mem_map]
      constructor
      · rintro ⟨⟨j, hj, e⟩, h⟩
        have := List.mem_range.mp hj
        exact ⟨by omega, h⟩
      · rintro ⟨h1, h⟩
        exact ⟨⟨b.toNat, List.mem_range.mpr (by omega), by omega⟩, h⟩
    have hgo : ∀ x b, x ∈ K.map (·.1) → .inn b ∈ gAdj h boxes p0 x → x.isIn = false → b ∉ between (K.map (·.1)) → b ∈ ((List.range 8).map fun j => ((j : Nat) : Int)).filter (fun b => decide (.out b ∈ K.map (·.1))) := fun x b hx hb hi hn => by
      have h1 := k.c x hx _ (.inl ⟨hb, .inr hi⟩)
      have h2 := hr x b hb
      rw [hS]
      refine ⟨h2, ?_⟩
      by_cases h3 : .out b ∈ K.map (·.1)
      · exact h3
      · exact absurd ((hK b).mpr ⟨h2, h1, h3⟩) hn
    refine ⟨((List.range 8).map fun j => ((j : Nat) : Int)).filter (fun b => decide (.out b ∈ K.map (·.1))), fun b hb hn => ?_, fun p hp hl c hc hn => ?_, ?_⟩
    · exact hgo .bg b k.b (List.mem_map.mpr ⟨b, hb, rfl⟩) rfl hn
    · obtain ⟨b, b1, b2⟩ := led_iff.mp hl
      by_cases e : c = b
      · rw [e]; exact b2
      · exact hgo (.out b) c ((hS b).mp b2).2 (List.mem_append_left _ (List.mem_map.mpr ⟨c, mem_nextB.mpr (.inr ⟨e, p, hp, b1, hc⟩), rfl⟩)) rfl hn
    · rw [Bool.eq_false_iff]
      intro z
      obtain ⟨b, b1, b2⟩ := led_iff.mp z
      refine he (k.c (.out b) ((hS b).mp b2).2 .en (.inl ⟨List.mem_append_right _ ?_, .inr rfl⟩))
      rw [if_pos b1]
      exact List.mem_singleton.mpr rfl
end Mi.Y

set_option Elab.async false
set_option linter.all false
set_option maxRecDepth 100000
set_option maxHeartbeats 1000000
/-! Mi: plain lemmas of k13: one box more, opened less, barred, renamed. -/
namespace Mi.Y
theorem Shut.less {h : List Acc} {boxes boxes' S : List Int} (s : Shut h boxes' S) (hb : ∀ b ∈ boxes, b ∈ boxes') : Shut h boxes S := ⟨fun b hm => s.1 b (hb b hm), s.2⟩
theorem accs_mono {h h' : List Acc} {F F' : List Int} (hF : ∀ b ∈ F, b ∈ F') (hh : ∀ (i : Nat) (p : Acc), h[i]? = some p → ∃ p', h'[i]? = some p' ∧ ∀ b ∈ p.1, b ∈ p'.1) {a : Int} (ha : a ∈ accs h F) : a ∈ accs h' F' := by
  obtain ⟨i, p, e, h1, h2⟩ := mem_accs.mp ha
  obtain ⟨p', k1, k2⟩ := hh i p h1
  obtain ⟨b, b1, b2⟩ := led_iff.mp h2
  exact mem_accs.mpr ⟨i, p', e, k1, led_iff.mpr ⟨b, k2 b b1, hF b b2⟩⟩
theorem accs_more {h : List Acc} {boxes boxes' F F' : List Int} (l : Least h boxes F) (l' : Least h boxes' F') (hb : ∀ b ∈ boxes, b ∈ boxes') {a : Int} (ha : a ∈ accs h F) : a ∈ accs h F' :=
  accs_mono (l.2 F' (l'.1.less hb)) (fun i p hp => ⟨p, hp, fun b hb => hb⟩) ha
theorem WayB.more {h : List Acc} {boxes boxes' : List Int} {p0 : Acc} {w : List Int} (hb : ∀ b ∈ boxes, b ∈ boxes') (k : WayB h boxes p0 w) : WayB h boxes' p0 w :=
  ⟨by obtain ⟨b, h1, h2⟩ := k.a; exact ⟨b, h1, hb b h2⟩, k.z, k.l⟩
/-- one box more that is read: as many, or one more -/
theorem bars_more {h : List Acc} {boxes boxes' : List Int} {b : Int} {p0 : Acc} {B B' : List Int} {W W' : List (List Int)} (k : BarsK h boxes p0 B W) (k' : BarsK h boxes' p0 B' W') (hb : ∀ x, x ∈ boxes' ↔ x ∈ boxes ∨ x = b) : B'.length = B.length ∨ B'.length = B.length + 1 := by
  have h1 := k'.b.many (fun w hw => (k.w w hw).more (boxes' := boxes') fun x hx => (hb x).mpr (.inl hx)) k.a
  have h2 : Bar h boxes' p0 (B ++ [b]) := by
    obtain ⟨S, s1, s2, s3⟩ := k.b
    refine ⟨S, fun x hx hn => ?_, fun p hp hl c hc hn => s2 p hp hl c hc fun z => hn (List.mem_append_left _ z), s3⟩
    rcases (hb x).mp hx with e | e
    · exact s1 x e fun z => hn (List.mem_append_left _ z)
    · exact absurd (List.mem_append_right _ (List.mem_singleton.mpr e)) hn
  have h3 := h2.many k'.w k'.a
  have n1 := k.n
  have n2 := k'.n
  rw [List.length_append] at h3
  have e : ([b] : List Int).length = 1 := rfl
  omega
/-! opened less -/
def lessH (h : List Acc) : List Acc := h.map fun p => (p.1, p.2.drop 1)
theorem accs_less {h : List Acc} {boxes F F' : List Int} (l : Least h boxes F) (l' : Least (lessH h) boxes F') {a : Int} (ha : a ∈ accs (lessH h) F') : a ∈ accs h F := by
  refine accs_mono (l'.2 F ⟨l.1.1, fun p hp hl b hb => ?_⟩) (fun i p hp => ?_) ha
  · obtain ⟨q, hq, e⟩ := List.mem_map.mp hp
    subst e
    exact l.1.2 q hq hl b (List.mem_of_mem_drop hb)
  · unfold lessH at hp
    rw [List.getElem?_map] at hp
    obtain ⟨q, hq, e⟩ := Option.map_eq_some_iff.mp hp
    subst e
    exact ⟨q, hq, fun b hb => hb⟩
/-! barred by being taken out of all lists -/
def outL (B l : List Int) : List Int := l.filter fun b => !decide (b ∈ B)
def outH (B : List Int) (h : List Acc) : List Acc := h.map fun p => (outL B p.1, outL B p.2)
theorem mem_outL {B l : List Int} {b : Int} : b ∈ outL B l ↔ b ∈ l ∧ b ∉ B := by
  unfold outL
  rw [List.mem_filter]
  simp
theorem outH_at {B : List Int} {h : List Acc} {i : Nat} {p : Acc} (hp : h[i]? = some p) : (outH B h)[i]? = some (outL B p.1, outL B p.2) := by
  unfold outH
  rw [List.getElem?_map, hp]; rfl
theorem barred_never {h : List Acc} {boxes : List Int} {p0 : Acc} {B F : List Int} {a : Int} (hb : Bar h boxes p0 B) (h0 : 0 ≤ a) (hp : h[a.toNat]? = some p0) (l : Least (outH B h) (outL B boxes) F) : a ∉ accs (outH B h) F := by
  intro ha
  obtain ⟨S, s1, s2, s3⟩ := hb
  have hs : Shut (outH B h) (outL B boxes) S := ⟨fun b hb => s1 b (mem_outL.mp hb).1 (mem_outL.mp hb).2, fun p hp hl b hb => by
    obtain ⟨q, hq, e⟩ := List.mem_map.mp hp
    subst e
    obtain ⟨c, c1, c2⟩ := led_iff.mp hl
    exact s2 q hq (led_iff.mpr ⟨c, (mem_outL.mp c1).1, c2⟩) b (mem_outL.mp hb).1 (mem_outL.mp hb).2⟩
  obtain ⟨i, p, e, h1, h2⟩ := mem_accs.mp ha
  have ei : a.toNat = i := by omega
  rw [ei] at hp
  rw [outH_at hp] at h1
  cases h1
  obtain ⟨b, b1, b2⟩ := led_iff.mp h2
  rw [Bool.eq_false_iff] at s3
  exact s3 (led_iff.mpr ⟨b, (mem_outL.mp b1).1, l.2 S hs b b2⟩)
/-- what is come to where some are taken out holds none of these -/
theorem least_out {h : List Acc} {boxes B F : List Int} (l : Least (outH B h) (outL B boxes) F) : ∀ b ∈ F, b ∉ B := fun b hb => by
  have hs : Shut (outH B h) (outL B boxes) (F.filter fun b => !decide (b ∈ B)) := ⟨fun b hb => mem_outL.mpr ⟨l.1.1 b hb, (mem_outL.mp hb).2⟩, fun p hp hl b hb => by
    obtain ⟨q, hq, e⟩ := List.mem_map.mp hp
    subst e
    obtain ⟨c, c1, c2⟩ := led_iff.mp hl
    exact mem_outL.mpr ⟨l.1.2 _ hp (led_iff.mpr ⟨c, c1, (mem_outL.mp c2).1⟩) b hb, (mem_outL.mp hb).2⟩⟩
  exact (mem_outL.mp (l.2 _ hs b hb)).2
theorem fewer_way {h : List Acc} {boxes : List Int} {p0 : Acc} {B B' F : List Int} {W : List (List Int)} {a : Int} (k : BarsK h boxes p0 B W) (hl : B'.length < B.length) (h0 : 0 ≤ a) (hp : h[a.toNat]? = some p0) (l : Least (outH B' h) (outL B' boxes) F) : a ∈ accs (outH B' h) F := by
  have ho := least_out l
  have key : led F p0 = true := by
    cases e : led F p0 with
    | true => rfl
    | false =>
      exfalso
      have : Bar h boxes p0 B' := ⟨F, fun b hb hn => l.1.1 b (mem_outL.mpr ⟨hb, hn⟩), fun p hp hl c hc hn => by
        obtain ⟨b, b1, b2⟩ := led_iff.mp hl
        exact l.1.2 (outL B' p.1, outL B' p.2) (List.mem_map.mpr ⟨p, hp, rfl⟩) (led_iff.mpr ⟨b, mem_outL.mpr ⟨b1, ho b b2⟩, b2⟩) c (mem_outL.mpr ⟨hc, hn⟩), e⟩
      have := this.many k.w k.a
      have := k.n
      omega
  obtain ⟨b, b1, b2⟩ := led_iff.mp key
  exact mem_accs.mpr ⟨a.toNat, _, by omega, outH_at hp, led_iff.mpr ⟨b, mem_outL.mpr ⟨b1, ho b b2⟩, b2⟩⟩
/-! other names -/
def ren (b : Int) : Int := (3 * b + 2) % 8
theorem ren_in (b : Int) : 0 ≤ ren b ∧ ren b < 8 := by unfold ren; omega
theorem ren_inj {b c : Int} (h1 : 0 ≤ b ∧ b < 8) (h2 : 0 ≤ c ∧ c < 8) (e : ren b = ren c) : b = c := by unfold ren at e; omega
def renL (l : List Int) : List Int := sortI (l.map ren)
def renH (h : List Acc) : List Acc := h.map fun p => (renL p.1, renL p.2)
theorem mem_renL {l : List Int} {x : Int} : x ∈ renL l ↔ ∃ b ∈ l, ren b = x := by
  unfold renL
  rw [(sortI_perm _).mem_iff, List.mem_map]
theorem ren_nodup {l : List Int} (hn : l.Nodup) (hr : ∀ b ∈ l, 0 ≤ b ∧ b < 8) : (l.map ren).Nodup := by
  show List.Pairwise (· ≠ ·) _
  rw [List.pairwise_map]
  exact List.Pairwise.imp_of_mem (fun hb hc hne e => hne (ren_inj (hr _ hb) (hr _ hc) e)) hn
theorem renL_good {l : List Int} (g : Good l) : Good (renL l) := by
  refine Good.sort ⟨ren_nodup g.1 g.2, fun x hx => ?_⟩
  obtain ⟨b, _, e⟩ := List.mem_map.mp hx
  rw [← e]; exact ren_in b
theorem renL_rising {l : List Int} (g : Good l) : (renL l).Pairwise (· < ·) := sortI_lt (ren_nodup g.1 g.2)
theorem renL_len {l : List Int} : (renL l).length = l.length := by
  unfold renL
  rw [(sortI_perm _).length_eq, List.length_map]
theorem linked_ren {h : List Acc} : ∀ {w : List Int}, Linked h w → Linked (renH h) (w.map ren)
  | [], _ => trivial
  | [_], _ => trivial
  | b :: c :: r, ⟨⟨p, hp, h1, h2⟩, hl⟩ => ⟨⟨_, List.mem_map.mpr ⟨p, hp, rfl⟩, mem_renL.mpr ⟨b, h1, rfl⟩, mem_renL.mpr ⟨c, h2, rfl⟩⟩, linked_ren (w := c :: r) hl⟩
theorem way_ren {h : List Acc} {boxes : List Int} {p0 : Acc} {w : List Int} (k : WayB h boxes p0 w) : WayB (renH h) (renL boxes) (renL p0.1, renL p0.2) (w.map ren) := by
  obtain ⟨⟨b, e, hb⟩, ⟨c, e2, hc⟩, hl⟩ := k
  refine ⟨⟨ren b, by rw [List.head?_map, e]; rfl, mem_renL.mpr ⟨b, hb, rfl⟩⟩, ⟨ren c, by rw [List.getLast?_map, e2]; rfl, mem_renL.mpr ⟨c, hc, rfl⟩⟩, linked_ren hl⟩
theorem bar_ren {h : List Acc} {boxes : List Int} {p0 : Acc} {B : List Int} (hh : ∀ p ∈ h, Good p.1 ∧ Good p.2) (hg : Good boxes) (h0 : Good p0.1) (k : Bar h boxes p0 B) : Bar (renH h) (renL boxes) (renL p0.1, renL p0.2) (B.map ren) := by
  obtain ⟨S, s1, s2, s3⟩ := k
  have hS : ∀ x, x ∈ ((S.filter fun b => decide (0 ≤ b ∧ b < 8)).map ren) ↔ ∃ b, b ∈ S ∧ (0 ≤ b ∧ b < 8) ∧ ren b = x := fun x => by
    rw [List.mem_map]
    constructor
    · rintro ⟨b, hb, e⟩
      obtain ⟨h1, h2⟩ := List.mem_filter.mp hb
      exact ⟨b, h1, of_decide_eq_true h2, e⟩
    · rintro ⟨b, h1, h2, e⟩
      exact ⟨b, List.mem_filter.mpr ⟨h1, decide_eq_true h2⟩, e⟩
  refine ⟨(S.filter fun b => decide (0 ≤ b ∧ b < 8)).map ren, fun x hx hn => ?_, fun q hq hl x hx hn => ?_, ?_⟩
  · obtain ⟨b, hb, e⟩ := mem_renL.mp hx
    subst e
    exact (hS _).mpr ⟨b, s1 b hb fun z => hn (List.mem_map.mpr ⟨b, z, rfl⟩), hg.2 b hb, rfl⟩
  · obtain ⟨p, hp, e⟩ := List.mem_map.mp hq
    subst e
    obtain ⟨c, hc, e⟩ := mem_renL.mp hx
    subst e
    obtain ⟨y, y1, y2⟩ := led_iff.mp hl
    obtain ⟨b, hb, e⟩ := mem_renL.mp y1
    obtain ⟨d, d1, d2, e2⟩ := (hS y).mp y2
    have hd : d = b := ren_inj d2 ((hh p hp).1.2 b hb) (e2.trans e.symm)
    subst hd
    exact (hS _).mpr ⟨c, s2 p hp (led_iff.mpr ⟨d, hb, d1⟩) c hc fun z => hn (List.mem_map.mpr ⟨c, z, rfl⟩), (hh p hp).2.2 c hc, rfl⟩
  · rw [Bool.eq_false_iff] at s3 ⊢
    intro z
    obtain ⟨y, y1, y2⟩ := led_iff.mp z
    obtain ⟨b, hb, e⟩ := mem_renL.mp y1
    obtain ⟨d, d1, d2, e2⟩ := (hS y).mp y2
    have hd : d = b := ren_inj d2 (h0.2 b hb) (e2.trans e.symm)
    subst hd
    exact s3 (led_iff.mpr ⟨d, hb, d1⟩)
theorem bars_ren {h : List Acc} {boxes : List Int} {p0 : Acc} {B B' : List Int} {W W' : List (List Int)} (hh : ∀ p ∈ h, Good p.1 ∧ Good p.2) (hg : Good boxes) (h0 : Good p0.1) (k : BarsK h boxes p0 B W) (k' : BarsK (renH h) (renL boxes) (renL p0.1, renL p0.2) B' W') : B'.length = B.length := by
  have h1 := (bar_ren hh hg h0 k.b).many k'.w k'.a
  have h2 := k'.b.many (W := W.map (List.map ren)) (fun v hv => by
    obtain ⟨w, hw, e⟩ := List.mem_map.mp hv
    subst e
    exact way_ren (k.w w hw)) (by
    rw [← List.map_flatten]
    refine ren_nodup k.a fun b hb => ?_
    obtain ⟨w, hw, hbw⟩ := List.mem_flatten.mp hb
    exact (k.f w hw).2 b hbw)
  rw [List.length_map] at h1 h2
  have n1 := k.n
  have n2 := k'.n
  omega
end Mi.Y

set_option Elab.async false
set_option linter.all false
set_option maxRecDepth 100000
set_option maxHeartbeats 1000000
/-! Mi: plain lemmas of told bars: what is come to where boxes are barred, whether boxes bar and as many ways share none. -/
namespace Mi.Y
section
variable {h : List Acc} {boxes bar f g B F : List Int} {p0 : Acc} {W : List (List Int)} {a : Int}
def ShutB (h : List Acc) (boxes bar S : List Int) : Prop := (∀ b ∈ boxes, b ∉ bar → b ∈ S) ∧ ∀ p ∈ h, led S p = true → ∀ b ∈ p.2, b ∉ bar → b ∈ S
def LeastB (h : List Acc) (boxes bar f : List Int) : Prop := ShutB h boxes bar f ∧ ∀ S, ShutB h boxes bar S → ∀ b ∈ f, b ∈ S
theorem LeastB.mem (a : LeastB h boxes bar f) (b : LeastB h boxes bar g) (x : Int) : x ∈ f ↔ x ∈ g := ⟨a.2 g b.1 x, b.2 f a.1 x⟩
theorem shutB_nil {S : List Int} : ShutB h boxes [] S ↔ Shut h boxes S :=
  ⟨fun s => ⟨fun b hb => s.1 b hb List.not_mem_nil, fun p hp hl b hb => s.2 p hp hl b hb List.not_mem_nil⟩, fun s => ⟨fun b hb _ => s.1 b hb, fun p hp hl b hb _ => s.2 p hp hl b hb⟩⟩
theorem leastB_nil : LeastB h boxes [] f ↔ Least h boxes f :=
  ⟨fun l => ⟨shutB_nil.mp l.1, fun S s => l.2 S (shutB_nil.mpr s)⟩, fun l => ⟨shutB_nil.mpr l.1, fun S s => l.2 S (shutB_nil.mp s)⟩⟩
theorem LeastB.isBar (l : LeastB h boxes B F) : Bar h boxes p0 B ↔ led F p0 = false := by
  constructor
  · rintro ⟨S, s1, s2, s3⟩
    rw [Bool.eq_false_iff]
    intro z
    obtain ⟨b, h1, h2⟩ := led_iff.mp z
    have : led S p0 = true := led_iff.mpr ⟨b, h1, l.2 S ⟨s1, s2⟩ b h2⟩
    rw [s3] at this; cases this
  · exact fun z => ⟨F, l.1.1, l.1.2, z⟩
theorem mem_accs_at {f : List Int} (h0 : 0 ≤ a) (hp : h[a.toNat]? = some p0) : a ∈ accs h f ↔ led f p0 = true := by
  rw [mem_accs]
  constructor
  · rintro ⟨i, p, e, h1, h2⟩
    have : a.toNat = i := by omega
    rw [this, h1] at hp
    cases hp
    exact h2
  · exact fun z => ⟨a.toNat, p0, by omega, hp, z⟩
theorem LeastB.acc (l : LeastB h boxes B F) (h0 : 0 ≤ a) (hp : h[a.toNat]? = some p0) : Bar h boxes p0 B ↔ a ∉ accs h F := by
  rw [l.isBar, mem_accs_at h0 hp, Bool.not_eq_true]
theorem LeastB.accs_eq (l : LeastB h boxes B f) (l' : LeastB h boxes B g) : accs h f = accs h g := accs_congr (l.mem l')
theorem mem_newsB {op : List Int} {x : Int} : x ∈ f ++ news f bar op ↔ x ∈ f ∨ (x ∈ op ∧ x ∉ bar) := by
  unfold news
  rw [List.mem_append, List.mem_filter]
  constructor
  · rintro (h | h)
    · exact .inl h
    · have := h.2
      rw [Bool.and_eq_true] at this
      exact .inr ⟨h.1, by simpa using this.2⟩
  · rintro (h | h)
    · exact .inl h
    · by_cases e : x ∈ f
      · exact .inl e
      · exact .inr ⟨h.1, by simp [e, h.2]⟩
open Classical in
theorem LeastB.exists (hb : Good boxes) (ho : ∀ p ∈ h, Good p.2) : ∃ F, LeastB h boxes bar F := by
  refine ⟨((List.range 8).map fun j => ((j : Nat) : Int)).filter fun b => decide (∀ S, ShutB h boxes bar S → b ∈ S), ⟨fun b hm hn => ?_, fun p hp hl b hm hn => ?_⟩, fun S hS b hm => ?_⟩
  · have := hb.2 b hm
    exact List.mem_filter.mpr ⟨List.mem_map.mpr ⟨b.toNat, List.mem_range.mpr (by omega), by omega⟩, decide_eq_true fun S hS => hS.1 b hm hn⟩
  · have := (ho p hp).2 b hm
    refine List.mem_filter.mpr ⟨List.mem_map.mpr ⟨b.toNat, List.mem_range.mpr (by omega), by omega⟩, decide_eq_true fun S hS => hS.2 p hp ?_ b hm hn⟩
    obtain ⟨c, h1, h2⟩ := led_iff.mp hl
    exact led_iff.mpr ⟨c, h1, of_decide_eq_true (List.mem_filter.mp h2).2 S hS⟩
  · exact of_decide_eq_true (List.mem_filter.mp hm).2 S hS
/-! the program's search with boxes that are barred -/
structure MetB (h : List Acc) (boxes bar f way : List Int) : Prop where
  good : Good f
  nd : way.Nodup
  inh : ∀ a ∈ way, 0 ≤ a ∧ a < (h.length : Nat)
  b0 : ∀ x ∈ boxes, x ∉ bar → x ∈ f
  f1 : ∀ a ∈ way, ∃ p, h[a.toNat]? = some p ∧ led f p = true ∧ ∀ b ∈ p.2, b ∉ bar → b ∈ f
  min : ∀ S, ShutB h boxes bar S → ∀ b ∈ f, b ∈ S
theorem MetB.first (hb : Good boxes) : MetB h boxes bar (boxes.filter fun b => !decide (b ∈ bar)) [] where
  good := ⟨hb.1.filter _, fun x hx => hb.2 x (List.mem_filter.mp hx).1⟩
  nd := .nil
  inh := fun a ha => by cases ha
  b0 := fun x hx hn => List.mem_filter.mpr ⟨hx, by simp [hn]⟩
  f1 := fun a ha => by cases ha
  min := fun S hS b hb => by
    obtain ⟨h1, h2⟩ := List.mem_filter.mp hb
    exact hS.1 b h1 (by simpa using h2)
theorem MetB.more {way : List Int} (m : MetB h boxes bar f way) {i : Nat} {p : Acc} (hp : h[i]? = some p) (ho : Good p.2) (hl : led f p = true) (hn : ((i : Nat) : Int) ∉ way) : MetB h boxes bar (f ++ news f bar p.2) (way ++ [((i : Nat) : Int)]) where
  good := m.good.news ho
  nd := List.nodup_append.mpr ⟨m.nd, List.pairwise_singleton _ _, fun a ha b hb e => hn (by rw [List.mem_singleton.mp hb] at e; rw [← e]; exact ha)⟩
  inh := fun a ha => by
    rcases List.mem_append.mp ha with z | z
    · exact m.inh a z
    · rw [List.mem_singleton.mp z]
      have := (List.getElem?_eq_some_iff.mp hp).1
      omega
  b0 := fun x hx hn => mem_newsB.mpr (.inl (m.b0 x hx hn))
  f1 := fun a ha => by
    have up : ∀ q : Acc, led f q = true → led (f ++ news f bar p.2) q = true := fun q hq => by
      obtain ⟨b, h1, h2⟩ := led_iff.mp hq
      exact led_iff.mpr ⟨b, h1, List.mem_append_left _ h2⟩
    rcases List.mem_append.mp ha with z | z
    · obtain ⟨q, h1, h2, h3⟩ := m.f1 a z
      exact ⟨q, h1, up q h2, fun b hb hn => mem_newsB.mpr (.inl (h3 b hb hn))⟩
    · rw [List.mem_singleton.mp z, Int.toNat_natCast]
      exact ⟨p, hp, up p hl, fun b hb hn => mem_newsB.mpr (.inr ⟨hb, hn⟩)⟩
  min := fun S hS b hb => by
    rcases mem_newsB.mp hb with z | ⟨z, zn⟩
    · exact m.min S hS b z
    · refine hS.2 p (List.mem_of_getElem? hp) ?_ b z zn
      obtain ⟨c, h1, h2⟩ := led_iff.mp hl
      exact led_iff.mpr ⟨c, h1, m.min S hS c h2⟩
theorem MetB.least {way : List Int} (m : MetB h boxes bar f way) (d : Done h f way h.length) : LeastB h boxes bar f := by
  refine ⟨⟨m.b0, fun p hp hl b hb hn => ?_⟩, m.min⟩
  obtain ⟨i, hi, e⟩ := List.mem_iff_getElem.mp hp
  have hp' : h[i]? = some p := by rw [List.getElem?_eq_getElem hi, e]
  rcases d i p hi hp' with z | z
  · obtain ⟨q, h1, _, h3⟩ := m.f1 _ z
    rw [Int.toNat_natCast, hp'] at h1
    cases h1
    exact h3 b hb hn
  · rw [hl] at z; cases z
theorem MetB.accs {way : List Int} (m : MetB h boxes bar f way) (d : Done h f way h.length) (a : Int) : a ∈ way ↔ a ∈ accs h f := by
  rw [mem_accs]
  constructor
  · intro ha
    obtain ⟨p, h1, h2, _⟩ := m.f1 a ha
    have := m.inh a ha
    exact ⟨a.toNat, p, by omega, h1, h2⟩
  · rintro ⟨i, p, e, h1, h2⟩
    have hi := (List.getElem?_eq_some_iff.mp h1).1
    rcases d i p hi h1 with z | z
    · rw [e]; exact z
    · rw [h2] at z; cases z
/-! whether boxes bar and as many ways share none -/
def linkB (h : List Acc) (w : List Int) : Bool := (w.zip (w.drop 1)).all fun q => h.any fun p => decide (q.1 ∈ p.1) && decide (q.2 ∈ p.2)
def isB (h : List Acc) (boxes : List Int) (p0 : Acc) (w : List Int) : Bool := !decide (w = []) && (decide (w.head?.getD 0 ∈ boxes) && (decide (w.getLast?.getD 0 ∈ p0.1) && linkB h w))
def areB (h : List Acc) (boxes : List Int) (p0 : Acc) (B : List Int) (W : List (List Int)) (F : List Int) : Bool :=
  W.all (isB h boxes p0) && (decide W.flatten.Nodup && (decide (B.Pairwise (· < ·)) && (decide (B.length = W.length) && !led F p0)))
theorem areB_congr (l : LeastB h boxes B f) (l' : LeastB h boxes B g) : areB h boxes p0 B W f = areB h boxes p0 B W g := by
  unfold areB
  rw [led_congr (l.mem l')]
theorem linkB_of : ∀ {w : List Int}, Linked h w → linkB h w = true
  | [], _ => rfl
  | [b], _ => rfl
  | b :: c :: r, k => by
    have ih := linkB_of (w := c :: r) k.2
    unfold linkB at ih ⊢
    obtain ⟨p, hp, h1, h2⟩ := k.1
    show ((b, c) :: (c :: r).zip ((c :: r).drop 1)).all _ = true
    rw [List.all_cons, ih, Bool.and_true]
    exact List.any_eq_true.mpr ⟨p, hp, by simp [h1, h2]⟩
theorem isB_of {w : List Int} (k : WayB h boxes p0 w) : isB h boxes p0 w = true := by
  obtain ⟨b, h1, h2⟩ := k.a
  obtain ⟨c, h3, h4⟩ := k.z
  unfold isB
  have hne : w ≠ [] := fun z => by rw [z] at h1; cases h1
  rw [h1, h3, linkB_of k.l, decide_eq_false hne]
  show (true && (decide (b ∈ boxes) && (decide (c ∈ p0.1) && true))) = true
  rw [decide_eq_true h2, decide_eq_true h4]; rfl
theorem BarsK.areB (k : BarsK h boxes p0 B W) (l : LeastB h boxes B F) : areB h boxes p0 B W F = true := by
  unfold Y.areB
  rw [List.all_eq_true.mpr fun w hw => isB_of (k.w w hw), decide_eq_true k.a, decide_eq_true k.r, decide_eq_true k.n.symm, l.isBar.mp k.b]; rfl
/-- fewer do not bar -/
theorem BarsK.fewer {B' F' : List Int} (k : BarsK h boxes p0 B W) (hl : B'.length < B.length) (l : LeastB h boxes B' F') (h0 : 0 ≤ a) (hp : h[a.toNat]? = some p0) : a ∈ accs h F' := by
  by_cases z : a ∈ accs h F'
  · exact z
  · have := ((l.acc h0 hp).mpr z).many k.w k.a
    have := k.n
    omega
theorem BarsK.nil (k : BarsK h boxes p0 B W) (l : Least h boxes F) (h0 : 0 ≤ a) (hp : h[a.toNat]? = some p0) : B = [] ↔ a ∉ accs h F := by
  constructor
  · intro z
    have kb := k.b
    rw [z] at kb
    exact ((leastB_nil.mpr l).acc h0 hp).mp kb
  · intro z
    have := (((leastB_nil.mpr l).acc h0 hp).mpr z).many k.w k.a
    have := k.n
    exact List.length_eq_zero_iff.mp (by rw [List.length_nil] at *; omega)
/-! sorted(set(..)) -/
theorem sortU_of_rising {l : List Int} (r : l.Pairwise (· < ·)) : sortU l = l := rising_eq (sortU_lt l) r fun x => mem_sortU
theorem rising_iff {l : List Int} : l = sortU l ↔ l.Pairwise (· < ·) := ⟨fun e => by rw [e]; exact sortU_lt l, fun r => (sortU_of_rising r).symm⟩
theorem nodup_of_len : ∀ {l : List Int}, (sortU l).length = l.length → l.Nodup
  | [], _ => .nil
  | i :: r, e => by
    have h1 := insU_len i (sortU r)
    have h2 := sortU_len r
    have e : (insU i (sortU r)).length = r.length + 1 := e
    have hr := nodup_of_len (l := r) (by omega)
    refine List.nodup_cons.mpr ⟨fun hi => ?_, hr⟩
    have h3 : (insU i (sortU r)).length ≤ (sortU r).length := len_sub (sortU_nodup (i :: r)) fun x hx => by
      rcases mem_insU.mp hx with z | z
      · rw [z]; exact mem_sortU.mpr hi
      · exact z
    omega
theorem nodup_len {l : List Int} : (sortU l).length = l.length ↔ l.Nodup := ⟨nodup_of_len, fun n => by
  have h1 := len_sub n (m := sortU l) fun x hx => mem_sortU.mpr hx
  have h2 := sortU_len l
  omega⟩
end
end Mi.Y

set_option Elab.async false
set_option linter.all false
set_option maxRecDepth 100000
set_option maxHeartbeats 4000000
namespace Mi.Y
open PySem L2
local macro_rules
  | `(tactic| infer_instance) => `(tactic| first
    | with_reducible first
      | refine we_c ?_
      | refine we_v (by with_unfolding_all rfl) ?_
      | refine we_2 ?_
      | refine we_1 ?_
      | refine ws_seq ?_
      | refine if_t ?_
      | refine if_f ?_
      | refine if_nt ?_
      | refine if_nf ?_
      | refine ws_asg ?_
      | (refine wg_n (by with_unfolding_all exact Nat.le_of_ble_eq_true rfl) ?_; dsimp only [List.set])
      | refine ws_if ?_
      | refine ws_ret ?_
      | refine ws_skip ?_
      | refine wt_e ?_
      | refine wt_and ?_
      | refine wt_or ?_
      | refine wt_not ?_
      | refine we_call ?_
      | refine wl_c ?_
      | refine wl_n ?_
      | refine wo_lt ?_
      | refine wo_le ?_
      | refine wo_gt ?_
      | refine wo_ge ?_
      | refine wo_add ?_
      | refine wo_sub ?_
      | refine wo_neg ?_
      | refine we_tup ?_
      | refine we_d ?_
      | refine we_k ?_
      | refine wl_disp ?_
      | refine wl_1 ?_
      | refine wl_2 ?_
      | refine we_and ?_
      | refine we_or ?_
      | refine we_not ?_
      | refine we_if ?_
      | refine we_ch ?_
      | refine wp_n ?_
      | refine wp_s ?_
      | refine wl_sl ?_
      | refine we_new ?_
      | refine we_vo (by with_unfolding_all rfl) ?_
      | refine ws_own ?_
      | refine ws_par ?_
      | refine ws_parvo ?_
      | refine ws_paroo ?_
      | refine ws_drop ?_
      | refine ws_app (by with_unfolding_all rfl) ?_
      | refine ws_ext (by with_unfolding_all rfl) ?_
      | refine ws_fld ?_
      | refine wi_rg1 ?_
      | refine wi_enum ?_
      | refine wi_seq ?_
      | refine wt_yes ?_
      | refine wgs_c ?_
      | refine wgs_n ?_
      | refine wo_list ?_
      | refine wo_lenI ?_
      | refine wo_lenH ?_
      | refine wo_in ?_
      | refine wo_nin ?_
      | refine wo_is ?_
      | refine wo_isn ?_
      | refine wo_eqI ?_
      | refine wo_neI ?_
      | refine wo_eq ?_
      | refine wo_ne ?_
      | refine wo_ixA0 ?_
      | refine wo_ixA1 ?_
      | refine wo_rev ?_
      | refine wo_sort ?_
      | refine wo_len ?_
      | refine And.intro (by simp only [List.length_cons, List.length_nil]; omega) ?_
      | (refine And.intro (And.intro (by simp only [List.length_cons, List.length_nil]; omega) (by simp only [List.length_cons, List.length_nil]; omega)) ?_; dsimp only [List.set])
    | with_reducible refine Exists.intro _ (And.intro (by with_unfolding_all rfl) ?_)
    | (show WG (gTup _ _) (.tup _) _ _ _; refine wg_t (by with_unfolding_all rfl) ?_))
/-- a place of the script, 0 behind it -/
theorem w_cell_at {ns : List Int} {k : Int} {st : Sto} {Q : Val → Sto → Prop} (h0 : 0 ≤ k) (h : ∀ c, Q (.int c) st) : WF m__law_cell_at [vI ns, .int k] st Q := by
  refine wf_fn rfl ?_
  unfold b__law_cell_at
  dsimp only [List.map, List.replicate, List.append, HAppend.hAppend, Append.append, Nat.reduceSub]
  repeat infer_instance
  by_cases hk : k < (ns.length : Nat)
  · rw [if_pos (decide_eq_true hk)]
    repeat infer_instance
    have : k.toNat < ns.length := by omega
    exact wo_ixI h0 (List.getElem?_eq_getElem this) (h _)
  · rw [if_neg (by rw [decide_eq_false hk]; decide)]
    repeat infer_instance
    exact h _
theorem w_draw {c k most : Int} {st : Sto} {Q : Val → Sto → Prop} (h0 : 0 ≤ k) (hk : k < 2 ^ 64) (hc : c.natAbs < big) (hm : 0 < most) (h : ∀ r, 0 ≤ r → r < most → Q (.int r) st) : WF m__law_draw [.int c, .int k, .int most] st Q := by
  refine wf_fn rfl ?_
  unfold b__law_draw
  dsimp only [List.map, List.replicate, List.append, HAppend.hAppend, Append.append, Nat.reduceSub]
  repeat infer_instance
  repeat infer_instance
  refine wo_mul hc (by decide +kernel) ?_
  repeat infer_instance
  refine wo_mul (Nat.lt_of_lt_of_le (m := 2 ^ 64) (by omega) (by decide +kernel)) (by decide +kernel) ?_
  repeat infer_instance
  refine wo_mod (by decide) ?_
  refine wo_ixTI [1000003, 1000033, 1000037, 1000039, 1000081, 1000099, 1000117, 1000121, 1000133, 1000151, 1000159, 1000171, 1000183, 1000187, 1000193, 1000199] (Int.emod_nonneg _ (by decide)) (by have := Int.emod_lt_of_pos k (show (0 : Int) < 16 by decide); exact this) fun d hd => ?_
  have hd' : 0 < d := (show ∀ d ∈ ([1000003, 1000033, 1000037, 1000039, 1000081, 1000099, 1000117, 1000121, 1000133, 1000151, 1000159, 1000171, 1000183, 1000187, 1000193, 1000199] : List Int), 0 < d by decide) d hd
  refine wo_mod hd' ?_
  repeat infer_instance
  exact wo_mod hm (h _ (Int.emod_nonneg _ (by omega)) (Int.emod_lt_of_pos _ hm))
theorem natAbs_lt_of {a : Int} {n : Nat} (h1 : -(n : Int) < a) (h2 : a < n) : a.natAbs < n := by omega
/-- a number that a cell gives -/
theorem w_number {c k l : Int} {st : Sto} {Q : Val → Sto → Prop} (h0 : 0 ≤ k) (hk : k < 1000) (hl : 0 < l) (hl2 : l < 1000) (h : ∀ r, 0 ≤ r → r < l → Q (.int r) st) : WF m__law_number [.int c, .int k, .int l] st Q := by
  refine wf_fn rfl ?_
  unfold b__law_number
  dsimp only [List.map, List.replicate, List.append, HAppend.hAppend, Append.append, Nat.reduceSub]
  repeat infer_instance
  refine wo_pow (by decide) (by decide) (by decide) ?_
  repeat infer_instance
  by_cases h1 : (10 : Int) ^ (18 : Int).toNat ≤ c
  · rw [if_pos (decide_eq_true h1)]
    repeat infer_instance
    repeat infer_instance
    refine wo_mod (by decide) ?_
    refine wo_ixTI [1, 7, 49, 343, 2401] (Int.emod_nonneg _ (by decide)) (by have := Int.emod_lt_of_pos k (show (0 : Int) < 5 by decide); exact this) fun d hd => ?_
    have hd' : 0 < d ∧ d ≤ 2401 := (show ∀ d ∈ ([1, 7, 49, 343, 2401] : List Int), 0 < d ∧ d ≤ 2401 by decide) d hd
    repeat infer_instance
    refine wo_pow (by decide) (by decide) (by decide) ?_
    repeat infer_instance
    refine wo_mul (Nat.lt_of_lt_of_le (m := 2 ^ 64) (by omega) (by decide +kernel)) (Nat.lt_of_lt_of_le (m := 2 ^ 64) (by omega) (by decide +kernel)) ?_
    have hp : 0 < d * l := Int.mul_pos hd'.1 hl
    refine wo_mod hp ?_
    repeat infer_instance
    refine wo_div hd'.1 (by omega) ?_
    refine h _ (Int.ediv_nonneg (Int.emod_nonneg _ (by omega)) (by omega)) (Int.ediv_lt_of_lt_mul hd'.1 ?_)
    rw [Int.mul_comm l d]
    exact Int.emod_lt_of_pos _ hp
  · rw [if_neg (by rw [decide_eq_false h1]; decide)]
    repeat infer_instance
    refine wo_pow (by decide) (by decide) (by decide) ?_
    repeat infer_instance
    have e18 : (10 : Int) ^ (18 : Int).toNat = 1000000000000000000 := by decide
    rw [e18] at h1
    have key : ∀ c' : Int, -1000000000000000000 ≤ c' → c' < 1000811284336359577647248616306026718125307353262274591 → WS (sRet (e2 oMod (eCall m__law_draw (aCons (e2 oMul (e2 oAdd (eVar 0) (e2 oMul (eC (.int 977)) (eVar 1))) (e2 oAdd (e2 oAdd (eVar 0) (e2 oMul (eC (.int 31)) (eVar 1))) (eC (.int 5)))) (aCons (e2 oAdd (e2 oMod (eVar 1) (eC (.int 9))) (eC (.int 1))) (aCons (eC (.int 999983)) aNil)))) (eVar 2))) [.val (.int c'), .val (.int k), .val (.int l), .no] st (fun _ st => Q .non st) Q := fun c' hc1 hc2 => by
      repeat infer_instance
      refine wo_mul (by decide +kernel) (Nat.lt_of_lt_of_le (m := 2 ^ 64) (by omega) (by decide +kernel)) ?_
      repeat infer_instance
      refine wo_mul (by decide +kernel) (Nat.lt_of_lt_of_le (m := 2 ^ 64) (by omega) (by decide +kernel)) ?_
      repeat infer_instance
      have b1 : (c' + 977 * k).natAbs < 2 ^ 190 := by
        have : (2 : Nat) ^ 190 = 1569275433846670190958947355801916604025588861116008628224 := by decide
        rw [this]; omega
      have b2 : (c' + 31 * k + 5).natAbs < 2 ^ 190 := by
        have : (2 : Nat) ^ 190 = 1569275433846670190958947355801916604025588861116008628224 := by decide
        rw [this]; omega
      refine wo_mul (Nat.lt_of_lt_of_le b1 (by decide +kernel)) (Nat.lt_of_lt_of_le b2 (by decide +kernel)) ?_
      repeat infer_instance
      refine wo_mod (by decide) ?_
      repeat infer_instance
      have hm := Int.emod_nonneg k (show (9 : Int) ≠ 0 by decide)
      have hm2 := Int.emod_lt_of_pos k (show (0 : Int) < 9 by decide)
      refine w_draw (by omega) (by omega) ?_ (by decide) fun r hr1 hr2 => ?_
      · rw [Int.natAbs_mul]
        refine Nat.lt_of_lt_of_le (Nat.mul_lt_mul'' b1 b2) ?_
        decide +kernel
      · repeat infer_instance
        exact wo_mod hl (h _ (Int.emod_nonneg _ (by omega)) (Int.emod_lt_of_pos _ hl))
    by_cases h2 : c < -(10 : Int) ^ (18 : Int).toNat
    · rw [if_pos (decide_eq_true h2)]
      repeat infer_instance
      refine wo_mod (by decide) ?_
      infer_instance
      refine key _ ?_ ?_
      · have := Int.emod_nonneg c (show (1000811284336359577647248616306026718125307353262274591 : Int) ≠ 0 by decide)
        omega
      · exact Int.emod_lt_of_pos c (by decide)
    · rw [if_neg (by rw [decide_eq_false h2]; decide)]
      infer_instance
      rw [e18] at h2
      exact key c (by omega) (by omega)
theorem w_boxes {ns : List Int} {b m : Int} {st : Sto} {Q : Val → Sto → Prop} (h0 : 0 ≤ b) (hb : b ≤ 10) (hm0 : 0 ≤ m) (hm : m ≤ 10) (h : ∀ bs, Good bs → bs.Pairwise (· < ·) → (bs.length : Nat) ≤ m → Q (vI bs) st) : WF m__law_boxes [vI ns, .int b, .int m] st Q := by
  refine wf_fn rfl ?_
  unfold b__law_boxes
  dsimp only [List.map, List.replicate, List.append, HAppend.hAppend, Append.append, Nat.reduceSub]
  repeat infer_instance
  refine w_cell_at h0 fun c => ?_
  repeat infer_instance
  refine ws_for (fun i sl st' => ∃ bs x5 x6, sl = [.val (vI ns), .val (.int b), .val (.int m), .val (.int c), .val (vI bs), x5, x6] ∧ st' = st ∧ Good bs ∧ bs.length ≤ i ∧ i ≤ m.toNat) ?_
  repeat infer_instance
  refine w_number (by omega) (by omega) (by omega) (by omega) fun r hr1 hr2 => ?_
  repeat infer_instance
  refine ⟨by omega, _, src_rng 0 _, ⟨[], .no, .no, rfl, rfl, .nil, Nat.le_refl _, Nat.zero_le _⟩, ?_, ?_⟩
  · rintro i x hx sl st' ⟨bs, x5, x6, e, e', hg, hl, hi⟩
    subst e; subst e'
    obtain ⟨e, hi'⟩ := rng_at hx
    subst e
    repeat infer_instance
    refine w_cell_at (by omega) fun c2 => ?_
    repeat infer_instance
    refine wo_mul (by decide +kernel) (Nat.lt_of_lt_of_le (m := 2 ^ 64) (by omega) (by decide +kernel)) ?_
    repeat infer_instance
    refine w_number (by omega) (by omega) (by omega) (by omega) fun r2 hs1 hs2 => ?_
    repeat infer_instance
    have := hg.few
    split
    · repeat infer_instance
      exact ⟨bs, _, _, rfl, rfl, hg, by omega, by omega⟩
    · rename_i hn
      repeat infer_instance
      refine wo_addI (ms := [r2]) (by simp; omega) ?_
      repeat infer_instance
      exact ⟨bs ++ [r2], _, _, rfl, rfl, hg.snoc (by simpa using hn) hs1 hs2, by simp; omega, by omega⟩
  · rintro sl st' ⟨bs, x5, x6, e, e', hg, hl, hi⟩
    subst e; subst e'
    repeat infer_instance
    refine h _ hg.sort (sortI_lt hg.1) ?_
    have h1 := (sortI_perm bs).length_eq
    rw [rng_len] at hi hl
    omega
structure HouseOk (h : List Acc) : Prop where
  pos : 0 < h.length
  six : h.length ≤ 6
  s : ∀ p ∈ h, Good p.1
  o : ∀ p ∈ h, Good p.2
  r : ∀ p ∈ h, (p.1.Pairwise (· < ·) ∧ p.1.length ≤ 3) ∧ p.2.Pairwise (· < ·) ∧ p.2.length ≤ 3
theorem w_house {ns : List Int} {b : Int} {st : Sto} {Q : Val → Sto → Prop} (h0 : 0 ≤ b) (hb : b ≤ 10) (h : ∀ hs, HouseOk hs → Q (vH hs) st) : WF m__law_house [vI ns, .int b] st Q := by
  refine wf_fn rfl ?_
  unfold b__law_house
  dsimp only [List.map, List.replicate, List.append, HAppend.hAppend, Append.append, Nat.reduceSub]
  repeat infer_instance
  refine w_cell_at h0 fun c => ?_
  repeat infer_instance
  refine w_number (by omega) (by omega) (by omega) (by omega) fun kind hk1 hk2 => ?_
  repeat infer_instance
  refine ws_for (fun i sl st' => ∃ (hs : List Acc) (x5 x6 x7 x8 x9 : Slot), sl = [.val (vI ns), .val (.int b), .val (.int c), .own (hs.map vA), .val (.int kind), x5, x6, x7, x8, x9] ∧ st = st' ∧ hs.length = i ∧ i ≤ 6 ∧ ∀ p ∈ hs, (Good p.1 ∧ Good p.2) ∧ (p.1.Pairwise (· < ·) ∧ p.1.length ≤ 3) ∧ p.2.Pairwise (· < ·) ∧ p.2.length ≤ 3) ?_
  repeat infer_instance
  refine w_number (by omega) (by omega) (by omega) (by omega) fun r hr1 hr2 => ?_
  repeat infer_instance
  refine ⟨by omega, _, src_rng 0 _, ⟨[], .no, .no, .no, .no, .no, rfl, rfl, rfl, Nat.zero_le _, fun p hp => by cases hp⟩, ?_, ?_⟩
  · rintro i x hx sl st' ⟨hs, x5, x6, x7, x8, x9, e, e', hl, hi, hg⟩
    subst e; subst e'
    obtain ⟨e, hi'⟩ := rng_at hx
    subst e
    repeat infer_instance
    refine wo_mod (by decide) ?_
    repeat infer_instance
    have hm1 := Int.emod_nonneg (0 + (i : Int)) (show (7 : Int) ≠ 0 by decide)
    refine w_cell_at (by omega) fun c2 => ?_
    repeat infer_instance
    refine wo_mul (by decide +kernel) (Nat.lt_of_lt_of_le (m := 2 ^ 64) (by omega) (by decide +kernel)) ?_
    repeat infer_instance
    refine ws_for (fun j sl st' => ∃ (ms : List Int) (y9 : Slot), sl = [.val (vI ns), .val (.int b), .val (.int c), .own (hs.map vA), .val (.int kind), .val (.int (0 + (i : Nat))), .val (.int (c2 + 13 * (0 + (i : Nat)))), .own (ms.map .int), .own [], y9] ∧ st = st' ∧ ms.length = j ∧ j ≤ 3 ∧ ∀ x ∈ ms, 0 ≤ x ∧ x < 8) ?_
    repeat infer_instance
    refine w_number (by omega) (by omega) (by omega) (by omega) fun r3 hs1 hs2 => ?_
    repeat infer_instance
    refine ⟨by omega, _, src_rng 0 _, ⟨[], _, rfl, rfl, rfl, Nat.zero_le _, fun p hp => by cases hp⟩, ?_, ?_⟩
    · rintro j y hy sl st' ⟨ms, y9, e, e', hml, hj, hmg⟩
      subst e; subst e'
      obtain ⟨e, hj'⟩ := rng_at hy
      subst e
      have fin : ∀ q : Int, 0 ≤ q → q < 8 → (ms.map Val.int).length < 100000 ∧ ∃ (ms_1 : List Int) (y9 : Slot), [Slot.val (vI ns), .val (.int b), .val (.int c), .own (hs.map vA), .val (.int kind), .val (.int (0 + (i : Nat))), .val (.int (c2 + 13 * (0 + (i : Nat)))), .own (ms.map Val.int ++ [.int q]), .own [], .val (.int (0 + (j : Nat)))] = [Slot.val (vI ns), .val (.int b), .val (.int c), .own (hs.map vA), .val (.int kind), .val (.int (0 + (i : Nat))), .val (.int (c2 + 13 * (0 + (i : Nat)))), .own (ms_1.map .int), .own [], y9] ∧ st = st ∧ ms_1.length = j + 1 ∧ j + 1 ≤ 3 ∧ ∀ x ∈ ms_1, 0 ≤ x ∧ x < 8 := fun q hq1 hq2 => ⟨by rw [List.length_map]; omega, ms ++ [q], _, by rw [List.map_append]; rfl, rfl, by simp; omega, by omega, fun x hx => by
        rcases List.mem_append.mp hx with z | z
        · exact hmg x z
        · rw [List.mem_singleton] at z; omega⟩
      repeat infer_instance
      split
      · repeat infer_instance
        exact w_number (by omega) (by omega) (by omega) (by omega) fun q hq1 hq2 => fin q hq1 hq2
      · repeat infer_instance
        split
        · repeat infer_instance
          exact w_number (by omega) (by omega) (by omega) (by omega) fun q hq1 hq2 => fin q hq1 hq2
        · repeat infer_instance
          exact fin _ (by omega) (by omega)
    · rintro sl st' ⟨ms, y9, e, e', hml, hj, hmg⟩
      subst e; subst e'
      rw [rng_len] at hml hj
      refine ws_seq ?_
      refine ws_for (fun j sl st2 => ∃ (ms2 : List Int) (y9 : Slot), sl = [Slot.val (vI ns), .val (.int b), .val (.int c), .own (hs.map vA), .val (.int kind), .val (.int (0 + (i : Nat))), .val (.int (c2 + 13 * (0 + (i : Nat)))), .own (ms.map .int), .own (ms2.map .int), y9] ∧ st = st2 ∧ ms2.length = j ∧ j ≤ 3 ∧ ∀ x ∈ ms2, 0 ≤ x ∧ x < 8) ?_
      repeat infer_instance
      refine w_number (by omega) (by omega) (by omega) (by omega) fun r4 ht1 ht2 => ?_
      repeat infer_instance
      refine ⟨by omega, _, src_rng 0 _, ⟨[], _, rfl, rfl, rfl, Nat.zero_le _, fun p hp => by cases hp⟩, ?_, ?_⟩
      · rintro j y hy sl st2 ⟨ms2, y9, e, e', hml2, hj2, hmg2⟩
        subst e; subst e'
        obtain ⟨e, hj'⟩ := rng_at hy
        subst e
        have fin : ∀ q : Int, 0 ≤ q → q < 8 → (ms2.map Val.int).length < 100000 ∧ ∃ (ms_1 : List Int) (y9 : Slot), [Slot.val (vI ns), .val (.int b), .val (.int c), .own (hs.map vA), .val (.int kind), .val (.int (0 + (i : Nat))), .val (.int (c2 + 13 * (0 + (i : Nat)))), .own (ms.map .int), .own (ms2.map Val.int ++ [.int q]), .val (.int (0 + (j : Nat)))] = [Slot.val (vI ns), .val (.int b), .val (.int c), .own (hs.map vA), .val (.int kind), .val (.int (0 + (i : Nat))), .val (.int (c2 + 13 * (0 + (i : Nat)))), .own (ms.map .int), .own (ms_1.map .int), y9] ∧ st = st ∧ ms_1.length = j + 1 ∧ j + 1 ≤ 3 ∧ ∀ x ∈ ms_1, 0 ≤ x ∧ x < 8 := fun q hq1 hq2 => ⟨by rw [List.length_map]; omega, ms2 ++ [q], _, by rw [List.map_append]; rfl, rfl, by simp; omega, by omega, fun x hx => by
          rcases List.mem_append.mp hx with z | z
          · exact hmg2 x z
          · rw [List.mem_singleton] at z; omega⟩
        repeat infer_instance
        split
        · repeat infer_instance
          exact w_number (by omega) (by omega) (by omega) (by omega) fun q hq1 hq2 => fin q hq1 hq2
        · repeat infer_instance
          split
          · repeat infer_instance
            exact w_number (by omega) (by omega) (by omega) (by omega) fun q hq1 hq2 => fin q hq1 hq2
          · repeat infer_instance
            refine wo_mod (by decide) ?_
            exact fin _ (Int.emod_nonneg _ (by decide)) (Int.emod_lt_of_pos _ (by decide))
      · rintro sl st2 ⟨ms2, y9, e, e', hml2, hj2, hmg2⟩
        subst e; subst e'
        rw [rng_len] at hml2 hj2
        repeat infer_instance
        refine wo_sortU (by omega) ?_
        repeat infer_instance
        refine wo_sortU (by omega) ?_
        repeat infer_instance
        refine ⟨by rw [List.length_map]; omega, hs ++ [(sortU ms, sortU ms2)], _, _, _, _, _, by rw [List.map_append]; rfl, rfl, by simp; omega, by omega, fun p hp => ?_⟩
        rcases List.mem_append.mp hp with z | z
        · exact hg p z
        · rw [List.mem_singleton] at z
          rw [z]
          have l1 := sortU_len ms
          have l2 := sortU_len ms2
          exact ⟨⟨Good.sortU hmg, Good.sortU hmg2⟩, ⟨sortU_lt ms, by show (sortU ms).length ≤ 3; omega⟩, sortU_lt ms2, by show (sortU ms2).length ≤ 3; omega⟩
  · rintro sl st' ⟨hs, x5, x6, x7, x8, x9, e, e', hl, hi, hg⟩
    subst e; subst e'
    repeat infer_instance
    rw [rng_len] at hl hi
    exact h hs ⟨by omega, by omega, fun p hp => (hg p hp).1.1, fun p hp => (hg p hp).1.2, fun p hp => (hg p hp).2⟩
theorem push_at {st : Sto} {c : Cell} : (st ++ [c])[st.length]? = some c := by rw [List.getElem?_append_right (Nat.le_refl _), Nat.sub_self]; rfl
theorem push_set {st : Sto} {c d : Cell} : (st ++ [c]).set st.length d = st ++ [d] := by rw [List.set_append_right _ _ (Nat.le_refl _), Nat.sub_self]; rfl
/-! nodes and edges as values -/
def vNd : Nd → Val
  | .bg => .tup [.str "begin", .int 0]
  | .inn b => .tup [.str "in", .int b]
  | .out b => .tup [.str "out", .int b]
  | .en => .tup [.str "end", .int 0]
def kNd : Nd → List L2.Key
  | .bg => [.inr "begin", .inl 0]
  | .inn b => [.inr "in", .inl b]
  | .out b => [.inr "out", .inl b]
  | .en => [.inr "end", .inl 0]
def dNd : Nd → PyData
  | .bg => .tuple [.str "begin", .int 0]
  | .inn b => .tuple [.str "in", .int b]
  | .out b => .tuple [.str "out", .int b]
  | .en => .tuple [.str "end", .int 0]
theorem tkey_Nd (x : Nd) : tkey (vNd x) = some (kNd x) := by cases x <;> rfl
theorem kNd_inj {x y : Nd} : kNd x = kNd y ↔ x = y := by
  constructor
  · intro h
    cases x <;> cases y <;> first | rfl | (injection h with h1 h2; injection h1 with h1; exact absurd h1 (by decide +kernel)) | (injection h with h1 h2; injection h2 with h2 _; injection h2 with h2; rw [h2])
  · intro h; rw [h]
theorem p_Nd {st : Sto} {n : Nat} (x : Nd) : pd st (n + 1) (vNd x) = some (dNd x) := by
  cases x <;> exact p_tup (p_c (p_s (by decide +kernel)) (p_c p_i p_n))
theorem eqv_si {a b : Str} {i j : Int} : PyData.eqv (.tuple [.str a, .int i]) (.tuple [.str b, .int j]) = (a == b && i == j) := by
  rw [PyData.eqv, PyData.eqvAll, PyData.eqv, PyData.eqvAll, PyData.eqv, PyData.eqvAll, Bool.and_true]
theorem eqv_Nd {x y : Nd} : PyData.eqv (dNd x) (dNd y) = decide (x = y) := by
  cases x <;> cases y <;> refine eqv_si.trans ?_ <;> first
    | (rw [beq_self_eq_true, Bool.true_and, Bool.eq_iff_iff, beq_iff_eq, decide_eq_true_eq]; simp)
    | (rw [show (_ == _) = false by decide +kernel, Bool.false_and]; exact (decide_eq_false (fun z => by cases z)).symm)
def vPr (p : Pr) : Val := .tup [vNd p.1, vNd p.2]
def dPr (p : Pr) : PyData := .tuple [dNd p.1, dNd p.2]
theorem p_Pr {st : Sto} {n : Nat} (p : Pr) : pd st (n + 1 + 1) (vPr p) = some (dPr p) := p_tup (p_c (p_Nd _) (p_c (p_Nd _) p_n))
theorem eqv_Pr {p q : Pr} : PyData.eqv (dPr p) (dPr q) = decide (p = q) := by
  unfold dPr
  rw [PyData.eqv, PyData.eqvAll, eqv_Nd, PyData.eqvAll, eqv_Nd, PyData.eqvAll, Bool.and_true, Bool.eq_iff_iff, Bool.and_eq_true, decide_eq_true_eq, decide_eq_true_eq, decide_eq_true_eq]
  exact (Prod.ext_iff).symm
theorem wo_eqNd {st : Sto} {x y : Nd} {Q : Val → Prop} (h : Q (.bl (decide (x = y)))) : WO (oEq st (vNd x) (vNd y)) Q := by
  refine ⟨_, ?_, h⟩
  unfold oEq veq
  rw [show deep = 19 + 1 from rfl, p_Nd, p_Nd]
  show (some (PyData.eqv _ _)).map Val.bl = _
  rw [eqv_Nd]; rfl
theorem wo_neNd {st : Sto} {x y : Nd} {Q : Val → Prop} (h : Q (.bl (!decide (x = y)))) : WO (oNe st (vNd x) (vNd y)) Q := by
  refine ⟨_, ?_, h⟩
  unfold oNe veq
  rw [show deep = 19 + 1 from rfl, p_Nd, p_Nd]
  show (some (PyData.eqv _ _)).map (fun b => Val.bl (!b)) = _
  rw [eqv_Nd]; rfl
theorem wo_nePr {st : Sto} {p q : Pr} {Q : Val → Prop} (h : Q (.bl (!decide (p = q)))) : WO (oNe st (vPr p) (vPr q)) Q := by
  refine ⟨_, ?_, h⟩
  unfold oNe veq
  rw [show deep = 18 + 1 + 1 from rfl, p_Pr, p_Pr]
  show (some (PyData.eqv _ _)).map (fun b => Val.bl (!b)) = _
  rw [eqv_Pr]; rfl
theorem vin_Pr {st : Sto} {p : Pr} {u : List Pr} : vin st (vPr p) (.lst (u.map vPr)) = some (decide (p ∈ u)) := by
  show (if (flat (vPr p) && (u.map vPr).all flat) = true then some (fin (vPr p) (u.map vPr)) else if isLst (.lst (u.map vPr)) = true then (pd st deep (vPr p)).bind fun d => ((u.map vPr).mapM (pd st deep)).bind fun ds => some (ds.any fun z => PyData.eqv z d) else none) = _
  rw [if_neg (by show ¬ (false && _) = true; rw [Bool.false_and]; decide), if_pos (show isLst (.lst (u.map vPr)) = true from rfl), show deep = 18 + 1 + 1 from rfl, p_Pr, p_all fun q _ => p_Pr q]
  show some ((u.map dPr).any fun z => PyData.eqv z (dPr p)) = _
  congr 1
  rw [List.any_map, Bool.eq_iff_iff, List.any_eq_true, decide_eq_true_eq]
  constructor
  · rintro ⟨q, hq, e⟩
    have e : PyData.eqv (dPr q) (dPr p) = true := e
    rw [eqv_Pr] at e
    rw [← of_decide_eq_true e]; exact hq
  · intro hp
    refine ⟨p, hp, ?_⟩
    show PyData.eqv (dPr p) (dPr p) = true
    rw [eqv_Pr]; exact decide_eq_true rfl
theorem wo_inPr {st : Sto} {p : Pr} {u : List Pr} {Q : Val → Prop} (h : Q (.bl (decide (p ∈ u)))) : WO (oIn st (vPr p) (.lst (u.map vPr))) Q := ⟨_, by show ((vin st (vPr p) (.lst (u.map vPr))).map Val.bl) = _; rw [vin_Pr]; rfl, h⟩
theorem wo_ninPr {st : Sto} {p : Pr} {u : List Pr} {Q : Val → Prop} (h : Q (.bl (!decide (p ∈ u)))) : WO (oNin st (vPr p) (.lst (u.map vPr))) Q := ⟨_, by show ((vin st (vPr p) (.lst (u.map vPr))).map fun b => Val.bl (!b)) = _; rw [vin_Pr]; rfl, h⟩
/-! dicts whose keys are nodes -/
def kvN (K : List (Nd × Val)) : List (List L2.Key × Val) := K.map fun p => (kNd p.1, p.2)
theorem valT_N (K : List (Nd × Val)) (x : Nd) : valT (kvN K) (kNd x) = (K.find? fun p => decide (p.1 = x)).map (·.2) := by
  have e : ((fun kv : List L2.Key × Val => decide (kv.1 = kNd x)) ∘ fun p : Nd × Val => (kNd p.1, p.2)) = fun p => decide (p.1 = x) := by
    funext p
    exact decide_eq_decide.mpr kNd_inj
  unfold valT kvN
  rw [List.find?_map, e, Option.map_map]
  rfl
theorem putT_new {K : List (Nd × Val)} {x : Nd} {v : Val} (h : x ∉ K.map (·.1)) : putT (kvN K) (kNd x) v = kvN (K ++ [(x, v)]) := by
  unfold putT
  rw [if_neg]
  · unfold kvN; rw [List.map_append]; rfl
  · intro z
    obtain ⟨p, hp, e⟩ := List.any_eq_true.mp z
    obtain ⟨q, hq, e2⟩ := List.mem_map.mp hp
    have e := of_decide_eq_true e
    rw [← e2] at e
    exact h (List.mem_map.mpr ⟨q, hq, kNd_inj.mp e⟩)
theorem wo_tget {st : Sto} {n : Nat} {K : List (Nd × Val)} {x : Nd} {v : Val} {Q : Val → Prop} (e : st[n]? = some (.dt (kvN K))) (hv : (K.find? fun p => decide (p.1 = x)).map (·.2) = some v) (h : Q v) : WO (oTGet st (.ref n) (vNd x)) Q := ⟨v, by
  show (match st[n]? with | some (.dt kvs) => some kvs | _ => none).bind _ = _
  rw [e]
  show (tkey (vNd x)).bind _ = _
  rw [tkey_Nd]
  show valT _ _ = _
  rw [valT_N, hv], h⟩
theorem find_in {K : List (Nd × Val)} {x : Nd} : (K.find? fun p => decide (p.1 = x)).isSome = decide (x ∈ K.map (·.1)) := by
  rw [Bool.eq_iff_iff, List.find?_isSome, decide_eq_true_eq, List.mem_map]
  exact ⟨fun ⟨p, h1, h2⟩ => ⟨p, h1, of_decide_eq_true h2⟩, fun ⟨p, h1, h2⟩ => ⟨p, h1, decide_eq_true h2⟩⟩
theorem wo_tin {st : Sto} {n : Nat} {K : List (Nd × Val)} {x : Nd} {Q : Val → Prop} (e : st[n]? = some (.dt (kvN K))) (h : Q (.bl (decide (x ∈ K.map (·.1))))) : WO (oTIn st (vNd x) (.ref n)) Q := ⟨_, by
  show (match st[n]? with | some (.dt kvs) => some kvs | _ => none).bind _ = _
  rw [e]
  show (tkey (vNd x)).bind _ = _
  rw [tkey_Nd]
  show some (Val.bl (valT _ _).isSome) = some (Val.bl (decide (x ∈ K.map (·.1))))
  rw [valT_N, Option.isSome_map, find_in], h⟩
theorem wo_tnin {st : Sto} {n : Nat} {K : List (Nd × Val)} {x : Nd} {Q : Val → Prop} (e : st[n]? = some (.dt (kvN K))) (h : Q (.bl (!decide (x ∈ K.map (·.1))))) : WO (oTNin st (vNd x) (.ref n)) Q := ⟨_, by
  show (match st[n]? with | some (.dt kvs) => some kvs | _ => none).bind _ = _
  rw [e]
  show (tkey (vNd x)).bind _ = _
  rw [tkey_Nd]
  show some (Val.bl (!(valT _ _).isSome)) = some (Val.bl (!decide (x ∈ K.map (·.1))))
  rw [valT_N, Option.isSome_map, find_in], h⟩
theorem ws_tset {sl : Sl} {st : Sto} {N : Sl → Sto → Prop} {R : Val → Sto → Prop} {o i e : E} (h : WE e sl st fun v st => WE o sl st fun x st => WE i sl st fun y st => ∃ n K z, x = .ref n ∧ y = vNd z ∧ st[n]? = some (.dt (kvN K)) ∧ z ∉ K.map (·.1) ∧ K.length < 1000 ∧ N sl (st.set n (.dt (kvN (K ++ [(z, v)]))))) : WS (sTSet o i e) sl st N R := wo_bind (wo_mono h fun p h => wo_bind (wo_mono h fun q h => wo_bind (wo_mono h fun r h => by
  obtain ⟨n, K, z, e1, e2, h1, h2, h3, h⟩ := h
  rw [e1]
  show WO (match r.2[n]? with | some (.dt kvs) => _ | _ => none) _
  rw [h1, e2]
  show WO ((tkey (vNd z)).bind _) _
  rw [tkey_Nd]
  show WO (if (kvN K).length < 1000 then some (Out.nx, sl, r.2.set n (.dt (putT (kvN K) (kNd z) p.1))) else none) _
  rw [putT_new h2]
  exact wo_if (by unfold kvN; rw [List.length_map]; exact h3) (wo_some h))))
theorem we_disp1T {sl : Sl} {st : Sto} {i e : E} {Q : Val → Sto → Prop} (h : WE i sl (st ++ [.dt []]) fun x st' => WE e sl st' fun v st'' => ∃ z, x = vNd z ∧ st''[st.length]? = some (.dt []) ∧ Q (.ref st.length) (st''.set st.length (.dt (kvN [(z, v)])))) : WE (eDisp1T i e) sl st Q := wo_bind (wo_mono h fun p h => wo_bind (wo_mono h fun q h => by
  obtain ⟨z, e1, h1, h⟩ := h
  show WO (match q.2[st.length]? with | some (.dt []) => _ | _ => none) _
  rw [h1, e1]
  show WO ((tkey (vNd z)).bind _) _
  rw [tkey_Nd]
  exact wo_some h))
theorem we_tget2 {sl : Sl} {st : Sto} {o i e : E} {Q : Val → Sto → Prop} (h : WE o sl st fun x st => ∃ n K0, x = .ref n ∧ st[n]? = some (.dt (kvN K0)) ∧ WE i sl st fun y st => WE e sl st fun z st => ∃ K k, y = vNd k ∧ st[n]? = some (.dt (kvN K)) ∧ Q (((K.find? fun p => decide (p.1 = k)).map (·.2)).getD z) st) : WE (eTGet2 o i e) sl st Q := wo_bind (wo_mono h fun p h => by
  obtain ⟨n, K0, e1, h0, h⟩ := h
  have hd : dtAt p.2 p.1 = some (kvN K0) := by
    rw [e1]
    show (match p.2[n]? with | some (.dt kvs) => some kvs | _ => none) = _
    rw [h0]
  rw [hd]
  refine wo_bind (wo_some ?_)
  refine wo_bind (wo_mono h fun q h => wo_bind (wo_mono h fun r h => ?_))
  obtain ⟨K, k, e2, h1, h⟩ := h
  have hd2 : dtAt r.2 p.1 = some (kvN K) := by
    rw [e1]
    show (match r.2[n]? with | some (.dt kvs) => some kvs | _ => none) = _
    rw [h1]
  rw [hd2, e2]
  refine wo_bind (wo_some ?_)
  rw [tkey_Nd]
  refine wo_bind (wo_some (wo_some ?_))
  rw [valT_N]
  exact h)
theorem we_pop0 {sl : Sl} {st : Sto} {o i : E} {Q : Val → Sto → Prop} (h : WE o sl st fun x st => ∃ n ys, x = .ref n ∧ st[n]? = some (.lst ys) ∧ WE i sl st fun y st => ∃ v xs, y = .int 0 ∧ st[n]? = some (.lst (v :: xs)) ∧ Q v (st.set n (.lst xs))) : WE (ePop0 o i) sl st Q := wo_bind (wo_mono h fun p h => by
  obtain ⟨n, ys, e1, h1, h⟩ := h
  rw [e1]
  show WO (match p.2[n]? with | some (.lst _) => _ | _ => none) _
  rw [h1]
  refine wo_bind (wo_mono h fun q h => ?_)
  obtain ⟨v, xs, e2, h2, h⟩ := h
  rw [e2]
  show WO (match q.2[n]? with | some (.lst (x :: xs)) => _ | _ => none) _
  rw [h2]
  exact wo_some h)
/-! the edges of a house's graph -/
theorem nextB_cons {p : Acc} {r : List Acc} {b : Int} {f : List Int} : nextB (p :: r) b f = nextB r b (if b ∈ p.1 then f ++ p.2.filter (fun c => !decide (c = b) && !decide (c ∈ f)) else f) := rfl
theorem w_next_boxes {h : List Acc} {b : Int} {st : Sto} {Q : Val → Sto → Prop} (hh : HouseOk h) (hQ : Q (vI (nextB h b [])) st) : WF m_next_boxes [vH h, .int b] st Q := by
  refine wf_fn rfl ?_
  unfold b_next_boxes
  dsimp only [List.map, List.replicate, List.append, HAppend.hAppend, Append.append, Nat.reduceSub]
  repeat infer_instance
  refine ws_for (fun i sl st' => ∃ f x3 x4, sl = [.val (vH h), .val (.int b), .own (f.map .int), x3, x4, .no] ∧ st = st' ∧ nextB h b [] = nextB (h.drop i) b f ∧ Good f) ?_
  repeat infer_instance
  refine ⟨_, src_lst _, ⟨[], _, _, rfl, rfl, rfl, .nil⟩, ?_, ?_⟩
  · rintro i x hx sl st' ⟨f, x3, x4, e, e', he, hg⟩
    subst e; subst e'
    obtain ⟨p, e, h1, hm⟩ := map_at hx
    subst e
    have p2 := (hh.o p hm).few
    have hgf := hg.few
    rw [drop_at h1, nextB_cons] at he
    have hgo : Good (if b ∈ p.1 then f ++ p.2.filter (fun c => !decide (c = b) && !decide (c ∈ f)) else f) := nextB_good (h := [p]) (b := b) (f := f) (fun q hq => by rw [List.mem_singleton.mp hq]; exact hh.o p hm) hg
    repeat infer_instance
    refine if_dec (fun h2 => ?_) (fun h2 => ?_)
    · rw [if_pos h2] at he hgo
      repeat infer_instance
      refine wl_lc p.2 .int (fun c => !decide (c = b) && !decide (c ∈ f)) .int rfl ?_
      repeat infer_instance
      refine ⟨src_lst _, by omega, fun c hc => ?_, ?_⟩
      · dsimp only [wipe, List.set]
        repeat infer_instance
        refine if_ndec (fun h5 => ?_) (fun h5 => ?_)
        · repeat infer_instance
          exact ⟨by rw [decide_eq_false h5]; rfl, rfl, fun _ => we_v rfl ⟨rfl, rfl⟩⟩
        · exact ⟨by rw [decide_eq_true h5]; rfl, rfl, fun _ => we_v rfl ⟨rfl, rfl⟩⟩
      · have hl := List.length_filter_le (fun c => !decide (c = b) && !decide (c ∈ f)) p.2
        refine ⟨by rw [List.length_map, List.length_map]; omega, ?_⟩
        exact ⟨_, _, _, by rw [← List.map_append]; rfl, rfl, he, hgo⟩
    · rw [if_neg h2] at he
      repeat infer_instance
      exact ⟨_, _, _, rfl, rfl, he, hg⟩
  · rintro sl st' ⟨f, x3, x4, e, e', he, hg⟩
    subst e; subst e'
    rw [List.length_map, List.drop_length] at he
    have he : nextB h b [] = f := he
    rw [he] at hQ
    repeat infer_instance
    exact hQ
theorem find_mem {K : List (Nd × Val)} {x : Nd} {v : Val} (hn : (K.map (·.1)).Nodup) (hm : (x, v) ∈ K) : (K.find? fun p => decide (p.1 = x)).map (·.2) = some v := by
  induction K with
  | nil => cases hm
  | cons p r ih =>
    rw [List.map_cons] at hn
    have hn := List.nodup_cons.mp hn
    rcases List.mem_cons.mp hm with e | e
    · subst e
      rw [List.find?_cons_of_pos (by simp)]; rfl
    · rw [List.find?_cons_of_neg (by simp; exact fun z => hn.1 (by rw [z]; exact List.mem_map.mpr ⟨_, e, rfl⟩))]
      exact ih hn.2 e
/-- edges by their beginnings: each at a place of its own, from n0 on -/
structure EdK (st : Sto) (n0 ed : Nat) (adj : Nd → List Nd) (K : List (Nd × Val)) : Prop where
  d : st[ed]? = some (.dt (kvN K))
  n : n0 ≤ ed
  nd : (K.map (·.1)).Nodup
  v : ∀ p ∈ K, ∃ q, p.2 = .ref q ∧ n0 ≤ q ∧ q ≠ ed ∧ st[q]? = some (.lst ((adj p.1).map vNd))
theorem EdK.add {st : Sto} {n0 e : Nat} {adj : Nd → List Nd} {K : List (Nd × Val)} {x : Nd} (k : EdK st n0 e adj K) (hn : n0 ≤ st.length) (hx : x ∉ K.map (·.1)) {st' : Sto} (hst : st' = (st ++ [Cell.lst ((adj x).map vNd)]).set e (.dt (kvN (K ++ [(x, .ref st.length)])))) : EdK st' n0 e adj (K ++ [(x, .ref st.length)]) := by
  subst hst
  have hl := lt_of_some k.d
  refine ⟨by rw [List.getElem?_set_self (by rw [List.length_append]; omega)], k.n, ?_, fun p hp => ?_⟩
  · rw [List.map_append]
    exact List.nodup_append.mpr ⟨k.nd, List.pairwise_singleton _ _, fun a ha b hb z => hx (by have z : a = x := z.trans (List.mem_singleton.mp hb); rw [z] at ha; exact ha)⟩
  · rcases List.mem_append.mp hp with z | z
    · obtain ⟨q, e1, e2, e3, e4⟩ := k.v p z
      exact ⟨q, e1, e2, e3, by rw [List.getElem?_set_ne (Ne.symm e3), List.getElem?_append_left (lt_of_some e4)]; exact e4⟩
    · rw [List.mem_singleton.mp z]
      exact ⟨st.length, rfl, hn, by omega, by rw [List.getElem?_set_ne (by omega), List.getElem?_append_right (Nat.le_refl _), Nat.sub_self]; rfl⟩
/-- what edges_of gives -/
structure EdgesAt (st : Sto) (n0 ed : Nat) (adj : Nd → List Nd) : Prop where
  ex : ∃ K, EdK st n0 ed adj K ∧ (∀ x : Nd, x.ok → x ≠ .en → x ∈ K.map (·.1)) ∧ .en ∉ K.map (·.1)
theorem w_edges_of {h : List Acc} {boxes : List Int} {a : Int} {p0 : Acc} {st : Sto} {Q : Val → Sto → Prop} (hh : HouseOk h) (hb : Good boxes) (h0 : 0 ≤ a) (hp0 : h[a.toNat]? = some p0)
    (hQ : ∀ st', Keep st.length st st' → EdgesAt st' st.length st.length (gAdj h boxes p0) → Q (.ref st.length) st') : WF m_edges_of [vH h, vI boxes, .int a] st Q := by
  refine wf_fn rfl ?_
  unfold b_edges_of
  dsimp only [List.map, List.replicate, List.append, HAppend.hAppend, Append.append, Nat.reduceSub]
  have hbf := hb.few
  have hf0 := (hh.s p0 (List.mem_of_getElem? hp0)).few
  refine ws_seq (ws_asg (we_disp1T ?_))
  repeat infer_instance
  refine wl_lc boxes .int (fun _ => true) (fun b => vNd (.inn b)) rfl ?_
  repeat infer_instance
  refine ⟨src_lst _, by omega, fun b hb => ?_, ?_⟩
  · dsimp only [wipe, List.set]
    repeat infer_instance
    exact ⟨rfl, rfl, fun _ => by repeat (first | exact ⟨rfl, rfl⟩ | infer_instance)⟩
  rw [List.filter_eq_self.mpr fun _ _ => rfl]
  have e1 : boxes.map (fun b => vNd (.inn b)) = (gAdj h boxes p0 .bg).map vNd := by show _ = (boxes.map Nd.inn).map vNd; rw [List.map_map]; rfl
  rw [e1]
  have k1 : EdK (((st ++ [Cell.dt []]) ++ [Cell.lst ((gAdj h boxes p0 .bg).map vNd)]).set st.length (.dt (kvN [(.bg, .ref (st ++ [Cell.dt []]).length)]))) st.length st.length (gAdj h boxes p0) [(.bg, .ref (st ++ [Cell.dt []]).length)] :=
    EdK.add (K := []) (st := st ++ [Cell.dt []]) (x := .bg) ⟨by rw [List.getElem?_append_right (Nat.le_refl _), Nat.sub_self]; rfl, Nat.le_refl _, List.nodup_nil, fun p hp => by cases hp⟩ (by rw [List.length_append]; omega) (by simp) rfl
  have kp1 : Keep st.length st (((st ++ [Cell.dt []]) ++ [Cell.lst ((gAdj h boxes p0 .bg).map vNd)]).set st.length (.dt (kvN [(.bg, .ref (st ++ [Cell.dt []]).length)]))) := ((Keep.push _ (Nat.le_refl _)).trans (.push _ (by rw [List.length_append]; omega))).trans (.set (Nat.le_refl _))
  refine ⟨.bg, rfl, by rw [List.getElem?_append_left (by rw [List.length_append]; show st.length < st.length + 1; omega), List.getElem?_append_right (Nat.le_refl _), Nat.sub_self]; rfl, ?_⟩
  generalize (((st ++ [Cell.dt []]) ++ [Cell.lst ((gAdj h boxes p0 .bg).map vNd)]).set st.length (.dt (kvN [(.bg, .ref (st ++ [Cell.dt []]).length)]))) = st1 at k1 kp1 ⊢
  repeat infer_instance
  refine ws_for (fun i sl st' => ∃ K x4, sl = [.val (vH h), .val (vI boxes), .val (.int a), .val (.ref st.length), x4, .no] ∧ Keep st.length st st' ∧ EdK st' st.length st.length (gAdj h boxes p0) K ∧ (∀ x : Nd, x ∈ K.map (·.1) ↔ x = .bg ∨ ∃ j : Nat, j < i ∧ (x = .inn (j : Nat) ∨ x = .out (j : Nat))) ∧ K.length = 1 + 2 * i) ?_
  repeat infer_instance
  refine ⟨by decide, _, src_rng 0 _, ⟨_, _, rfl, kp1, k1, fun x => ?_, rfl⟩, ?_, ?_⟩
  · constructor
    · intro hx
      exact .inl (List.mem_singleton.mp hx)
    · rintro (e | ⟨j, hj, _⟩)
      · rw [e]; exact List.mem_singleton.mpr rfl
      · omega
  · rintro i x hx sl st2 ⟨K, x4, e, kp, ek, hk, hl⟩
    subst e
    obtain ⟨e, hi⟩ := rng_at hx
    have hi : i < 8 := hi
    subst e
    have eb : (0 : Int) + (i : Nat) = ((i : Nat) : Int) := Int.zero_add _
    rw [eb]
    have hn2 := kp.2
    have hni : Nd.inn ((i : Nat) : Int) ∉ K.map (·.1) := fun z => by
      rcases (hk _).mp z with e | ⟨j, hj, e | e⟩
      · cases e
      · injection e with e; omega
      · cases e
    have ek2 := ek.add hn2 hni rfl
    repeat infer_instance
    refine ws_tset ?_
    repeat infer_instance
    refine ⟨st.length, K, .inn ((i : Nat) : Int), rfl, rfl, by rw [List.getElem?_append_left (lt_of_some ek.d)]; exact ek.d, hni, by omega, ?_⟩
    have kp2 : Keep st.length st (List.set (α := Cell) (st2 ++ [Cell.lst ((gAdj h boxes p0 (.inn ((i : Nat) : Int))).map vNd)]) st.length (.dt (kvN (K ++ [(.inn ((i : Nat) : Int), .ref st2.length)])))) := (kp.trans (.push _ hn2)).trans (.set (Nat.le_refl _))
    show WS _ _ (List.set (α := Cell) (st2 ++ [Cell.lst ((gAdj h boxes p0 (.inn ((i : Nat) : Int))).map vNd)]) st.length (.dt (kvN (K ++ [(.inn ((i : Nat) : Int), .ref st2.length)])))) _ _
    generalize (List.set (α := Cell) (st2 ++ [Cell.lst ((gAdj h boxes p0 (.inn ((i : Nat) : Int))).map vNd)]) st.length (.dt (kvN (K ++ [(.inn ((i : Nat) : Int), .ref st2.length)])))) = st3 at ek2 kp2 ⊢
    have hk2 : ∀ x : Nd, x ∈ (K ++ [(Nd.inn ((i : Nat) : Int), Val.ref st2.length)]).map (·.1) ↔ (x = .bg ∨ ∃ j : Nat, j < i ∧ (x = .inn (j : Nat) ∨ x = .out (j : Nat))) ∨ x = .inn ((i : Nat) : Int) := fun x => by
      rw [List.map_append, List.mem_append, hk x]
      exact or_congr_right List.mem_singleton
    have hl2 : (K ++ [(Nd.inn ((i : Nat) : Int), Val.ref st2.length)]).length = 2 + 2 * i := by rw [List.length_append, hl]; show 1 + 2 * i + 1 = _; omega
    generalize (K ++ [(Nd.inn ((i : Nat) : Int), Val.ref st2.length)]) = K2 at ek2 hk2 hl2 ⊢
    have hn3 := kp2.2
    have hno : Nd.out ((i : Nat) : Int) ∉ K2.map (·.1) := fun z => by
      rcases (hk2 _).mp z with (e | ⟨j, hj, e | e⟩) | e
      · cases e
      · cases e
      · injection e with e; omega
      · cases e
    refine ws_seq (ws_tset ?_)
    refine we_k (wl_lc (nextB h ((i : Nat) : Int) []) .int (fun _ => true) (fun b => vNd (.inn b)) rfl ?_)
    have hng := nextB_good (h := h) (b := ((i : Nat) : Int)) (f := []) hh.o .nil
    have hnf := hng.few
    repeat infer_instance
    refine w_next_boxes hh ?_
    repeat infer_instance
    refine ⟨src_lst _, by omega, fun b hb => ?_, ?_⟩
    · dsimp only [wipe, List.set]
      repeat infer_instance
      exact ⟨rfl, rfl, fun _ => by repeat (first | exact ⟨rfl, rfl⟩ | infer_instance)⟩
    rw [List.filter_eq_self.mpr fun _ _ => rfl]
    repeat infer_instance
    have hel : st.length < st3.length := lt_of_some ek2.d
    refine ⟨st.length, K2, .out ((i : Nat) : Int), rfl, rfl, by rw [List.getElem?_append_left hel]; exact ek2.d, hno, by omega, ?_⟩
    have hk3 : ∀ x : Nd, x ∈ (K2 ++ [(Nd.out ((i : Nat) : Int), Val.ref st3.length)]).map (·.1) ↔ x = .bg ∨ ∃ j : Nat, j < i + 1 ∧ (x = .inn (j : Nat) ∨ x = .out (j : Nat)) := fun x => by
      rw [List.map_append, List.mem_append, hk2 x]
      constructor
      · rintro (((e | ⟨j, hj, e⟩) | e) | e)
        · exact .inl e
        · exact .inr ⟨j, by omega, e⟩
        · exact .inr ⟨i, by omega, .inl e⟩
        · exact .inr ⟨i, by omega, .inr (List.mem_singleton.mp e)⟩
      · rintro (e | ⟨j, hj, e⟩)
        · exact .inl (.inl (.inl e))
        · by_cases hji : j < i
          · exact .inl (.inl (.inr ⟨j, hji, e⟩))
          · have : j = i := by omega
            subst this
            rcases e with e | e
            · exact .inl (.inr e)
            · exact .inr (List.mem_singleton.mpr e)
    have nd3 : ((K2 ++ [(Nd.out ((i : Nat) : Int), Val.ref st3.length)]).map (·.1)).Nodup := by
      rw [List.map_append]
      exact List.nodup_append.mpr ⟨ek2.nd, List.pairwise_singleton _ _, fun a ha b hb z => hno (by have z : a = _ := z.trans (List.mem_singleton.mp hb); rw [z] at ha; exact ha)⟩
    have hl3 : (K2 ++ [(Nd.out ((i : Nat) : Int), Val.ref st3.length)]).length = 1 + 2 * (i + 1) := by rw [List.length_append, hl2]; show 2 + 2 * i + 1 = _; omega
    have q3 : (List.set (α := Cell) (st3 ++ [Cell.lst ((nextB h ((i : Nat) : Int) []).map fun b => vNd (.inn b))]) st.length (.dt (kvN (K2 ++ [(Nd.out ((i : Nat) : Int), Val.ref st3.length)]))))[st3.length]? = some (.lst ((nextB h ((i : Nat) : Int) []).map fun b => vNd (.inn b))) := by
      rw [List.getElem?_set_ne (by omega), List.getElem?_append_right (Nat.le_refl _), Nat.sub_self]; rfl
    have d3 : (List.set (α := Cell) (st3 ++ [Cell.lst ((nextB h ((i : Nat) : Int) []).map fun b => vNd (.inn b))]) st.length (.dt (kvN (K2 ++ [(Nd.out ((i : Nat) : Int), Val.ref st3.length)]))))[st.length]? = some (.dt (kvN (K2 ++ [(Nd.out ((i : Nat) : Int), Val.ref st3.length)]))) := List.getElem?_set_self (by rw [List.length_append]; omega)
    have kp3 : Keep st.length st (List.set (α := Cell) (st3 ++ [Cell.lst ((nextB h ((i : Nat) : Int) []).map fun b => vNd (.inn b))]) st.length (.dt (kvN (K2 ++ [(Nd.out ((i : Nat) : Int), Val.ref st3.length)])))) := (kp2.trans (.push _ hn3)).trans (.set (Nat.le_refl _))
    repeat infer_instance
    refine wo_ixH h0 hp0 ?_
    repeat infer_instance
    refine if_dec (fun h2 => ?_) (fun h2 => ?_)
    · repeat infer_instance
      refine ws_appK ?_
      repeat infer_instance
      refine wo_tget (x := .out ((i : Nat) : Int)) d3 (find_mem nd3 (List.mem_append_right _ (List.mem_singleton.mpr rfl))) ?_
      refine ⟨_, _, rfl, q3, ?_⟩
      repeat infer_instance
      refine ⟨_, q3, by rw [List.length_map]; omega, ?_⟩
      refine ⟨_, _, rfl, kp3.trans (.set (by omega)), ek2.add hn3 hno ?_, hk3, hl3⟩
      rw [List.set_comm _ _ (by omega), List.set_append_right _ _ (Nat.le_refl _), Nat.sub_self]
      show List.set (α := Cell) (st3 ++ [Cell.lst _]) _ _ = List.set (α := Cell) (st3 ++ [Cell.lst ((((nextB h ((i : Nat) : Int) []).map Nd.inn) ++ (if ((i : Nat) : Int) ∈ p0.1 then [Nd.en] else [])).map vNd)]) _ _
      rw [if_pos h2, List.map_append, List.map_map]
      rfl
    · repeat infer_instance
      refine ⟨_, _, rfl, kp3, ek2.add hn3 hno ?_, hk3, hl3⟩
      show _ = List.set (α := Cell) (st3 ++ [Cell.lst ((((nextB h ((i : Nat) : Int) []).map Nd.inn) ++ (if ((i : Nat) : Int) ∈ p0.1 then [Nd.en] else [])).map vNd)]) _ _
      rw [if_neg h2, List.append_nil, List.map_map]
      rfl
  · rintro sl st2 ⟨K, x4, e, kp, ek, hk, hl⟩
    subst e
    rw [rng_len] at hk
    repeat infer_instance
    refine hQ _ kp ⟨K, ek, fun x hx he => ?_, fun z => ?_⟩
    · refine (hk x).mpr ?_
      cases x with
      | bg => exact .inl rfl
      | inn b =>
        have hx : 0 ≤ b ∧ b < 8 := hx
        exact .inr ⟨b.toNat, by show b.toNat < 8; omega, .inl (by congr 1; omega)⟩
      | out b =>
        have hx : 0 ≤ b ∧ b < 8 := hx
        exact .inr ⟨b.toNat, by show b.toNat < 8; omega, .inr (by congr 1; omega)⟩
      | en => exact absurd rfl he
    · rcases (hk _).mp z with e | ⟨j, _, e | e⟩ <;> cases e
/-! what is met from the beginning -/
def svF : Option Val → Slot
  | none => .no
  | some v => .val v
theorem wo_neRN {st : Sto} {q : Nat} {L : List Nd} {Q : Val → Prop} (e : st[q]? = some (.lst (L.map vNd))) (h : Q (.bl (!decide (L = [])))) : WO (oNe st (.ref q) (.lst [])) Q := by
  refine ⟨_, ?_, h⟩
  have h1 : pd st deep (.ref q) = some (.list (L.map dNd)) := p_ref (n := 19) e (p_all fun x _ => p_Nd (n := 18) x)
  have h2 : pd st deep (.lst []) = some (.list []) := p_lst (n := 19) p_n
  unfold oNe veq
  rw [h1, h2]
  show (some (PyData.eqv (.list _) (.list []))).map (fun b => Val.bl (!b)) = _
  rw [PyData.eqv]
  cases L with
  | nil => rw [List.map_nil, PyData.eqvAll]; rfl
  | cons x r => rw [List.map_cons, PyData.eqvAll]; rfl
theorem wo_inName {st : Sto} {x : Nd} {Q : Val → Prop} (h : Q (.bl (!x.isIn))) : WO (oIx st (vNd x) (.int 0)) fun z => WO (oNe st z (.str "in")) Q := by
  cases x with
  | bg => exact wo_ixT rfl (wo_neS (by rw [show ((Str.ofString "begin" == Str.ofString "in") = false) by decide +kernel]; exact h))
  | inn b => exact wo_ixT rfl (wo_neS (by rw [beq_self_eq_true]; exact h))
  | out b => exact wo_ixT rfl (wo_neS (by rw [show ((Str.ofString "out" == Str.ofString "in") = false) by decide +kernel]; exact h))
  | en => exact wo_ixT rfl (wo_neS (by rw [show ((Str.ofString "end" == Str.ofString "in") = false) by decide +kernel]; exact h))
def kvP (K : List Pr) : List (Nd × Val) := K.map fun p => (p.1, vNd p.2)
theorem kvP_keys {K : List Pr} : (kvP K).map (·.1) = K.map (·.1) := by unfold kvP; rw [List.map_map]; rfl
/-- so far: D gone through, L waiting -/
structure MetS (adj : Nd → List Nd) (u K : List Pr) (D L : List Nd) : Prop where
  k : K.map (·.1) = D ++ L
  nd : (K.map (·.1)).Nodup
  h : K[0]? = some (.bg, .bg)
  ok : ∀ x ∈ K.map (·.1), x.ok
  p : ∀ (i : Nat) (x p : Nd), 0 < i → K[i]? = some (x, p) → ∃ (j : Nat) (q : Nd), j < i ∧ K[j]? = some (p, q) ∧ Res adj u p x
  c : ∀ x ∈ D, ∀ y, Res adj u x y → y ∈ K.map (·.1)
theorem MetS.add {adj : Nd → List Nd} {u K : List Pr} {D L : List Nd} {x y : Nd} (m : MetS adj u K D L) (hx : x ∈ K.map (·.1)) (hy : y ∉ K.map (·.1)) (hr : Res adj u x y) (ho : y.ok) : MetS adj u (K ++ [(y, x)]) D (L ++ [y]) where
  k := by rw [List.map_append, m.k, List.append_assoc]; rfl
  nd := by
    rw [List.map_append]
    exact List.nodup_append.mpr ⟨m.nd, List.pairwise_singleton _ _, fun a ha b hb z => hy (by have z : a = y := z.trans (List.mem_singleton.mp hb); rw [z] at ha; exact ha)⟩
  h := by rw [List.getElem?_append_left (List.getElem?_eq_some_iff.mp m.h).1]; exact m.h
  ok := fun z hz => by
    rw [List.map_append] at hz
    rcases List.mem_append.mp hz with e | e
    · exact m.ok z e
    · rw [List.mem_singleton.mp e]; exact ho
  p := fun i z q hi hz => by
    by_cases hlt : i < K.length
    · rw [List.getElem?_append_left hlt] at hz
      obtain ⟨j, r, h1, h2, h3⟩ := m.p i z q hi hz
      exact ⟨j, r, h1, by rw [List.getElem?_append_left (by omega)]; exact h2, h3⟩
    · have hi2 : i = K.length := by
        have := (List.getElem?_eq_some_iff.mp hz).1
        rw [List.length_append] at this
        have : ([(y, x)] : List Pr).length = 1 := rfl
        omega
      subst hi2
      rw [List.getElem?_append_right (Nat.le_refl _), Nat.sub_self] at hz
      cases hz
      obtain ⟨j, hj, e⟩ := List.mem_iff_getElem.mp hx
      rw [List.length_map] at hj
      rw [List.getElem_map] at e
      refine ⟨j, K[j].2, hj, ?_, hr⟩
      rw [List.getElem?_append_left hj, List.getElem?_eq_getElem hj, ← e]
  c := fun z hz w hw => by
    rw [List.map_append]
    exact List.mem_append_left _ (m.c z hz w hw)
theorem w_met_from {adj : Nd → List Nd} {u : List Pr} {st : Sto} {n0 e : Nat} {Q : Val → Sto → Prop} (ea : EdgesAt st n0 e adj) (hen : adj .en = []) (hao : ∀ x : Nd, x.ok → ∀ y ∈ adj x, y.ok) (hal : ∀ x, (adj x).length ≤ 100) (hu : ∀ p ∈ u, p.1.ok) (hul : u.length ≤ 1000)
    (hQ : ∀ st' K, Keep st.length st st' → MetK adj u K → st'[st.length]? = some (.dt (kvN (kvP K))) → Q (.ref st.length) st') : WF m_met_from [.ref e, .lst (u.map vPr)] st Q := by
  refine wf_fn rfl ?_
  unfold b_met_from
  dsimp only [List.map, List.replicate, List.append, HAppend.hAppend, Append.append, Nat.reduceSub]
  obtain ⟨K0, ek, hek, hek2⟩ := ea.ex
  refine ws_seq ?_
  infer_instance
  repeat infer_instance
  refine we_disp1T ?_
  repeat infer_instance
  refine ⟨.bg, rfl, by rw [List.getElem?_append_right (Nat.le_refl _), Nat.sub_self]; rfl, ?_⟩
  repeat infer_instance
  have e0 : (List.set (α := Cell) (st ++ [Cell.dt []]) st.length (.dt (kvN [(.bg, vNd .bg)]))) = st ++ [Cell.dt (kvN (kvP [(.bg, .bg)]))] := by
    rw [List.set_append_right _ _ (Nat.le_refl _), Nat.sub_self]; rfl
  dsimp only [List.set]
  rw [show (List.set (α := Cell) (st ++ [Cell.dt []]) st.length (.dt (kvN [(Nd.bg, Val.tup [.str "begin", .int 0])]))) = st ++ [Cell.dt (kvN (kvP [(.bg, .bg)]))] from e0]
  have e1 : (st ++ [Cell.dt (kvN (kvP [(.bg, .bg)]))]).length = st.length + 1 := by rw [List.length_append]; rfl
  rw [e1]
  have hd0 : ((st ++ [Cell.dt (kvN (kvP [(.bg, .bg)]))]) ++ [Cell.lst [Val.tup [.str "begin", .int 0]]])[st.length]? = some (.dt (kvN (kvP [(.bg, .bg)]))) := by
    rw [List.getElem?_append_left (by rw [e1]; omega), List.getElem?_append_right (Nat.le_refl _), Nat.sub_self]; rfl
  have hl0 : ((st ++ [Cell.dt (kvN (kvP [(.bg, .bg)]))]) ++ [Cell.lst [Val.tup [.str "begin", .int 0]]])[st.length + 1]? = some (.lst (([.bg] : List Nd).map vNd)) := by
    rw [← e1, List.getElem?_append_right (Nat.le_refl _), Nat.sub_self]; rfl
  have kp0 : Keep st.length st ((st ++ [Cell.dt (kvN (kvP [(.bg, .bg)]))]) ++ [Cell.lst [Val.tup [.str "begin", .int 0]]]) := (Keep.push _ (Nat.le_refl _)).trans (.push _ (by rw [e1]; omega))
  generalize ((st ++ [Cell.dt (kvN (kvP [(.bg, .bg)]))]) ++ [Cell.lst [Val.tup [.str "begin", .int 0]]]) = st1 at hd0 hl0 kp0 ⊢
  refine ws_while (fun k sl st' => ∃ K D L x5 x6 o7, sl = [.val (.ref e), .val (.lst (u.map vPr)), .val (vNd .bg), .val (.ref st.length), .val (.ref (st.length + 1)), x5, x6, svF o7, .no] ∧ Keep st.length st st' ∧ MetS adj u K D L ∧ st'[st.length]? = some (.dt (kvN (kvP K))) ∧ st'[st.length + 1]? = some (.lst (L.map vNd)) ∧ D.length + k = 19) 19 (by decide) ?_ ?_
  · refine ⟨[(.bg, .bg)], [], [.bg], _, _, none, rfl, kp0, ⟨rfl, List.pairwise_singleton _ _, rfl, fun x hx => by rw [List.mem_singleton.mp hx]; exact trivial, fun i x p hi hx => ?_, fun x hx => by cases hx⟩, hd0, hl0, rfl⟩
    cases i with
    | zero => omega
    | succ i => cases hx
  · rintro k sl st2 ⟨K, D, L, x5, x6, o7, e', kp, ms, hd, hl, hk⟩
    subst e'
    have hlen : (K.map (·.1)).length ≤ 18 := Nd.few ms.nd ms.ok
    repeat infer_instance
    refine wo_neRN hl ?_
    repeat infer_instance
    refine if_ndec (fun hL => ?_) (fun hL => ?_)
    · obtain ⟨x, L1, e'⟩ : ∃ x L1, L = x :: L1 := by
        cases L with
        | nil => exact absurd rfl hL
        | cons x r => exact ⟨x, r, rfl⟩
      subst e'
      have hxk : x ∈ K.map (·.1) := by rw [ms.k]; exact List.mem_append_right _ (List.mem_cons_self ..)
      have hxo := ms.ok x hxk
      have ms1 : MetS adj u K D (x :: L1) := ms
      repeat infer_instance
      refine we_pop0 ?_
      repeat infer_instance
      refine ⟨_, _, rfl, hl, ?_⟩
      repeat infer_instance
      refine ⟨vNd x, L1.map vNd, rfl, hl, ?_⟩
      have hd3 : (st2.set (st.length + 1) (.lst (L1.map vNd)))[st.length]? = some (.dt (kvN (kvP K))) := by rw [List.getElem?_set_ne (by omega)]; exact hd
      have hl3 : (st2.set (st.length + 1) (.lst (L1.map vNd)))[st.length + 1]? = some (.lst (L1.map vNd)) := List.getElem?_set_self (lt_of_some hl)
      have kp3 : Keep st.length st (st2.set (st.length + 1) (.lst (L1.map vNd))) := kp.trans (.set (by omega))
      generalize (st2.set (st.length + 1) (.lst (L1.map vNd))) = st3 at hd3 hl3 kp3 ⊢
      obtain ⟨v, hv1, hv2, hv3⟩ : ∃ v, ((K0.find? fun p => decide (p.1 = x)).map (·.2)).getD (.lst []) = v ∧ viewL st3 v = some ((adj x).map vNd) ∧ SrcAt st3 (.seq v) ((adj x).map vNd) := by
        by_cases he : x = .en
        · subst he
          refine ⟨.lst [], ?_, by rw [hen]; rfl, by rw [hen]; exact (src_lst _).at⟩
          have : (K0.find? fun p => decide (p.1 = Nd.en)) = none := by
            rw [← Option.not_isSome_iff_eq_none, find_in]
            simpa using hek2
          rw [this]; rfl
        · obtain ⟨p, hp, e'⟩ := List.mem_map.mp (hek x hxo he)
          obtain ⟨q, e2, _, _, e3⟩ := ek.v p hp
          obtain ⟨p1, p2⟩ := p
          have e' : p1 = x := e'
          have e2 : p2 = .ref q := e2
          subst e'; subst e2
          have e3 := kp3.at (lt_of_some e3) e3
          exact ⟨.ref q, by rw [find_mem ek.nd hp]; rfl, view_refL e3, src_seqR e3⟩
      repeat infer_instance
      refine wl_lcA (adj x) vNd (fun y => !decide ((x, y) ∈ u) || !x.isIn) vNd (by cases o7 <;> rfl) ?_
      refine wi_seqV (xs := (adj x).map vNd) (we_tget2 ?_)
      repeat infer_instance
      refine ⟨e, K0, rfl, kp3.at (lt_of_some ek.d) ek.d, ?_⟩
      repeat infer_instance
      refine ⟨K0, x, rfl, kp3.at (lt_of_some ek.d) ek.d, ?_⟩
      rw [hv1]
      refine ⟨hv2, hv3, by have := hal x; omega, fun y hy => ?_, ?_⟩
      · dsimp only [wipe, List.set]
        repeat infer_instance
        refine wo_ninPr (p := (x, y)) ?_
        repeat infer_instance
        refine if_ndec (fun h5 => ?_) (fun h5 => ?_)
        · exact ⟨by rw [decide_eq_false h5]; rfl, rfl, fun _ => we_v rfl ⟨rfl, rfl⟩⟩
        · repeat infer_instance
          refine wo_mono (wo_inName (st := st3) (x := x) (Q := fun z => z = .bl (!x.isIn)) rfl) fun z hz => ?_
          repeat infer_instance
          refine wo_mono hz fun w hw => ?_
          exact ⟨_, hw, by rw [decide_eq_true h5]; rfl, rfl, fun _ => we_v rfl ⟨rfl, rfl⟩⟩
      repeat infer_instance
      refine wl_lc u vPr (fun p => decide (p.2 = x)) (fun p => vNd p.1) (by cases o7 <;> rfl) ?_
      repeat infer_instance
      refine ⟨src_lst _, by omega, fun p hp => ?_, ?_⟩
      · dsimp only [wipe, List.set]
        unfold vPr
        repeat infer_instance
        refine wo_eqNd ?_
        exact ⟨_, rfl, rfl, rfl, fun _ => we_v rfl ⟨rfl, rfl⟩⟩
      obtain ⟨M, hM⟩ : ∃ M : List Nd, M = ((adj x).filter fun y => !decide ((x, y) ∈ u) || !x.isIn) ++ (u.filter fun p => decide (p.2 = x)).map (·.1) := ⟨_, rfl⟩
      have hMl : M.length ≤ 1100 := by
        have h1 := List.length_filter_le (fun y => !decide ((x, y) ∈ u) || !x.isIn) (adj x)
        have h2 := List.length_filter_le (fun p : Pr => decide (p.2 = x)) u
        have h3 := hal x
        rw [hM, List.length_append, List.length_map]
        omega
      have hMr : ∀ y, y ∈ M ↔ Res adj u x y := fun y => by
        rw [hM, List.mem_append, List.mem_filter, List.mem_map]
        unfold Res
        constructor
        · rintro (⟨h1, h2⟩ | ⟨p, h1, h2⟩)
          · rw [Bool.or_eq_true] at h2
            exact .inl ⟨h1, h2.imp (fun z => by simpa using z) fun z => by simpa using z⟩
          · obtain ⟨h3, h4⟩ := List.mem_filter.mp h1
            have h4 := of_decide_eq_true h4
            rw [← h2, ← h4]
            exact .inr h3
        · rintro (⟨h1, h2⟩ | h1)
          · refine .inl ⟨h1, ?_⟩
            rw [Bool.or_eq_true]
            exact h2.imp (fun z => by simpa using z) fun z => by simpa using z
          · exact .inr ⟨(y, x), List.mem_filter.mpr ⟨h1, decide_eq_true rfl⟩, rfl⟩
      have eM : ((adj x).filter fun y => !decide ((x, y) ∈ u) || !x.isIn).map vNd ++ (u.filter fun p => decide (p.2 = x)).map (fun p => vNd p.1) = M.map vNd := by
        rw [hM, List.map_append, List.map_map]; rfl
      have eMl : (((adj x).filter fun y => !decide ((x, y) ∈ u) || !x.isIn).map vNd).length + ((u.filter fun p => decide (p.2 = x)).map (fun p => vNd p.1)).length ≤ 100000 := by
        rw [← List.length_append, eM, List.length_map]; omega
      repeat infer_instance
      refine wo_addL eMl ?_
      rw [eM]
      have hMo : ∀ y ∈ M, y.ok := fun y hy => by
        rcases (hMr y).mp hy with ⟨h1, _⟩ | h1
        · exact hao x hxo y h1
        · exact hu _ h1
      repeat infer_instance
      refine ws_for (fun i sl st' => ∃ K' L' o7, sl = [.val (.ref e), .val (.lst (u.map vPr)), .val (vNd .bg), .val (.ref st.length), .val (.ref (st.length + 1)), .val (vNd x), .val (.lst (M.map vNd)), svF o7, .no] ∧ Keep st.length st st' ∧ MetS adj u K' D (x :: L') ∧ st'[st.length]? = some (.dt (kvN (kvP K'))) ∧ st'[st.length + 1]? = some (.lst (L'.map vNd)) ∧ ∀ y ∈ M.take i, y ∈ K'.map (·.1)) ?_
      repeat infer_instance
      refine ⟨_, src_lst _, ⟨K, L1, o7, rfl, kp3, ms1, hd3, hl3, fun y hy => by cases hy⟩, ?_, ?_⟩
      · rintro i y hy sl st4 ⟨K', L', o7, e', kp4, ms4, hd4, hl4, hc4⟩
        subst e'
        obtain ⟨y, e', h3, hm⟩ := map_at hy
        subst e'
        have et : M.take (i + 1) = M.take i ++ [y] := by rw [List.take_add_one, h3]; rfl
        have hlen4 : (K'.map (·.1)).length ≤ 18 := Nd.few ms4.nd ms4.ok
        have hll : L'.length ≤ 18 := by
          rw [ms4.k, List.length_append, List.length_cons] at hlen4
          omega
        rw [List.length_map] at hlen4
        repeat infer_instance
        refine wo_tnin hd4 ?_
        rw [kvP_keys]
        repeat infer_instance
        refine if_ndec (fun h5 => ?_) (fun h5 => ?_)
        · have hxk4 : x ∈ K'.map (·.1) := by rw [ms4.k]; exact List.mem_append_right _ (List.mem_cons_self ..)
          have ms5 := ms4.add hxk4 h5 ((hMr y).mp hm) (hMo y hm)
          refine ws_seq (ws_tset ?_)
          repeat infer_instance
          refine ⟨st.length, kvP K', y, rfl, rfl, hd4, by rw [kvP_keys]; exact h5, by unfold kvP; rw [List.length_map]; omega, ?_⟩
          have hd5 : (st4.set st.length (.dt (kvN (kvP K' ++ [(y, vNd x)]))))[st.length]? = some (.dt (kvN (kvP (K' ++ [(y, x)])))) := by
            rw [List.getElem?_set_self (lt_of_some hd4)]
            unfold kvP
            rw [List.map_append]; rfl
          have hl5 : (st4.set st.length (.dt (kvN (kvP K' ++ [(y, vNd x)]))))[st.length + 1]? = some (.lst (L'.map vNd)) := by rw [List.getElem?_set_ne (by omega)]; exact hl4
          have kp5 : Keep st.length st (st4.set st.length (.dt (kvN (kvP K' ++ [(y, vNd x)])))) := kp4.trans (.set (Nat.le_refl _))
          generalize (st4.set st.length (.dt (kvN (kvP K' ++ [(y, vNd x)])))) = st5 at hd5 hl5 kp5 ⊢
          refine ws_appK ?_
          repeat infer_instance
          refine ⟨_, _, rfl, hl5, ?_⟩
          repeat infer_instance
          refine ⟨_, hl5, by rw [List.length_map]; omega, ?_⟩
          refine ⟨K' ++ [(y, x)], L' ++ [y], some (vNd y), rfl, kp5.trans (.set (by omega)), ms5, by rw [List.getElem?_set_ne (by omega)]; exact hd5, by rw [List.getElem?_set_self (lt_of_some hl5), List.map_append]; rfl, fun z hz => ?_⟩
          rw [List.map_append]
          rw [et] at hz
          rcases List.mem_append.mp hz with w | w
          · exact List.mem_append_left _ (hc4 z w)
          · rw [List.mem_singleton.mp w]
            exact List.mem_append_right _ (List.mem_singleton.mpr rfl)
        · repeat infer_instance
          refine ⟨K', L', some (vNd y), rfl, kp4, ms4, hd4, hl4, fun z hz => ?_⟩
          rw [et] at hz
          rcases List.mem_append.mp hz with w | w
          · exact hc4 z w
          · rw [List.mem_singleton.mp w]; exact h5
      · rintro sl st4 ⟨K', L', o7, e', kp4, ms4, hd4, hl4, hc4⟩
        subst e'
        rw [List.length_map, List.take_length] at hc4
        refine ⟨k - 1, ?_, K', D ++ [x], L', _, _, o7, rfl, kp4, ⟨by rw [ms4.k, List.append_assoc]; rfl, ms4.nd, ms4.h, ms4.ok, ms4.p, fun z hz w hw => ?_⟩, hd4, hl4, ?_⟩
        · rw [ms.k, List.length_append, List.length_cons] at hlen
          omega
        · rcases List.mem_append.mp hz with y | y
          · exact ms4.c z y w hw
          · rw [List.mem_singleton.mp y] at hw
            exact hc4 w ((hMr w).mpr hw)
        · rw [ms.k, List.length_append, List.length_cons] at hlen
          rw [List.length_append]
          show D.length + 1 + (k - 1) = 19
          omega
    · subst hL
      repeat infer_instance
      refine hQ st2 K kp ⟨ms.nd, ms.h, ms.ok, ms.p, fun x hx y hy => ms.c x ?_ y hy⟩ hd
      have := ms.k
      rw [List.append_nil] at this
      rw [← this]; exact hx
theorem EdgesAt.keep {st st' : Sto} {n0 e : Nat} {adj : Nd → List Nd} (a : EdgesAt st n0 e adj) (k : Keep st.length st st') : EdgesAt st' n0 e adj := by
  obtain ⟨K, ek, h1, h2⟩ := a.ex
  refine ⟨K, ⟨k.at (lt_of_some ek.d) ek.d, ek.n, ek.nd, fun p hp => ?_⟩, h1, h2⟩
  obtain ⟨q, e1, e2, e3, e4⟩ := ek.v p hp
  exact ⟨q, e1, e2, e3, k.at (lt_of_some e4) e4⟩
structure GrOk (adj : Nd → List Nd) : Prop where
  g : Gr adj
  ao : ∀ x : Nd, x.ok → ∀ y ∈ adj x, y.ok
  al : ∀ x, (adj x).length ≤ 100
  r : ∀ x b, .inn b ∈ adj x → 0 ≤ b ∧ b < 8
theorem w_used_edges {adj : Nd → List Nd} {st : Sto} {n0 e : Nat} {Q : Val → Sto → Prop} (ea : EdgesAt st n0 e adj) (go : GrOk adj)
    (hQ : ∀ st' n u K, Keep st.length st st' → Flow adj u → MetK adj u K → .en ∉ K.map (·.1) → u.length ≤ 300 → st'[n]? = some (.dt (kvN (kvP K))) → Q (.tup [.lst (u.map vPr), .ref n]) st') : WF m_used_edges [.ref e] st Q := by
  refine wf_fn rfl ?_
  unfold b_used_edges
  dsimp only [List.map, List.replicate, List.append, HAppend.hAppend, Append.append, Nat.reduceSub]
  repeat infer_instance
  dsimp only [List.set]
  repeat infer_instance
  refine w_met_from (u := []) ea go.g.n go.ao go.al (fun p hp => by cases hp) (Nat.zero_le _) fun st1 K kp mk hd => ?_
  repeat infer_instance
  refine ws_while (fun k sl st' => ∃ u K n x4 x5, sl = [.val (.ref e), .val (.lst (u.map vPr)), .val (vNd .en), .val (.ref n), x4, x5, .no] ∧ Keep st.length st st' ∧ Flow adj u ∧ MetK adj u K ∧ st'[n]? = some (.dt (kvN (kvP K))) ∧ (∀ p ∈ u, p.1.ok) ∧ bal u .bg + (k : Nat) = 11 ∧ u.length + 20 * k ≤ 220) 11 (by decide) ?_ ?_
  · exact ⟨[], K, _, _, _, rfl, kp, Flow.nil, mk, hd, (fun p hp => by cases hp), by decide, by decide⟩
  · rintro k sl st2 ⟨u, K, n, x4, x5, e', kp, f, mk, hd, huo, hbal, hul⟩
    subst e'
    have hb8 := flow_le8 go.g f go.r
    repeat infer_instance
    refine wo_tin hd ?_
    rw [kvP_keys]
    repeat infer_instance
    refine if_dec (fun he => ?_) (fun he => ?_)
    · obtain ⟨⟨e1, p⟩, hm, e'⟩ := List.mem_map.mp he
      have e' : e1 = Nd.en := e'
      subst e'
      obtain ⟨i0, hi0⟩ := List.mem_iff_getElem?.mp hm
      obtain ⟨l, b1, b2, b3, b4, b5⟩ := mk.back go.g f i0 i0 .en p (Nat.le_refl _) hi0
      have hco : ∀ y ∈ Nd.en :: l, y.ok := fun y hy => by
        rcases List.mem_cons.mp hy with z | z
        · rw [z]; exact trivial
        · obtain ⟨j, q, _, hq⟩ := b4 y z
          exact mk.ok y (List.mem_map.mpr ⟨_, List.mem_of_getElem? hq, rfl⟩)
      have hcl := Nd.few b2 hco
      obtain ⟨f2, bal2⟩ := f.more go.g b1 b2 b3
      obtain ⟨c, hc⟩ : ∃ c, c = Nd.en :: l := ⟨_, rfl⟩
      have hc0 : c[0]? = some .en := by rw [hc]; rfl
      have hcne : c ≠ [] := by rw [hc]; exact List.cons_ne_nil _ _
      have hlast : c.getLast hcne = .bg := by subst hc; exact b3
      rw [← hc] at hco hcl f2 bal2 b2 b5
      have hbg : ∀ i, c[i]? = some .bg → i + 1 = c.length := fun i hi => by
        have h1 : c[c.length - 1]? = some .bg := by
          rw [← hlast, List.getLast_eq_getElem]
          exact List.getElem?_eq_getElem (by have := List.length_pos_iff.mpr hcne; omega)
        have := (List.getElem?_inj (List.getElem?_eq_some_iff.mp hi).1 b2).mp (hi.trans h1.symm)
        have := List.length_pos_iff.mpr hcne
        omega
      repeat infer_instance
      refine ws_while (fun m sl st' => st' = st2 ∧ ∃ i x x5, sl = [.val (.ref e), .val (.lst ((augC u (c.take (i + 1))).map vPr)), .val (vNd .en), .val (.ref n), .val (vNd x), x5, .no] ∧ c[i]? = some x ∧ i + m = 39) 39 (by decide) ?_ ?_
      · refine ⟨rfl, 0, .en, x5, ?_, hc0, rfl⟩
        rw [hc]; rfl
      · rintro m sl st3 ⟨e', i, x, x5, e2, hx, him⟩
        subst e'; subst e2
        have hil := (List.getElem?_eq_some_iff.mp hx).1
        repeat infer_instance
        refine wo_neNd (y := .bg) ?_
        repeat infer_instance
        refine if_ndec (fun h5 => ?_) (fun h5 => ?_)
        · have hil2 : i + 1 < c.length := by
            by_cases h6 : i + 1 < c.length
            · exact h6
            · exfalso
              apply h5
              have : i = c.length - 1 := by omega
              subst this
              rw [List.getElem?_eq_getElem hil, ← List.getLast_eq_getElem hcne, hlast] at hx
              exact (Option.some.inj hx).symm
          have hp := List.getElem?_eq_getElem hil2
          obtain ⟨q, hq⟩ : ∃ q, c[i + 1] = q := ⟨_, rfl⟩
          rw [hq] at hp
          have hxp := b5 i x q hx hp
          have et : augC u (c.take (i + 1 + 1)) = aug (augC u (c.take (i + 1))) q x := by
            have t1 : c.take (i + 1) = c.take i ++ [x] := by rw [List.take_add_one, hx]; rfl
            have t2 : c.take (i + 1 + 1) = c.take i ++ [x, q] := by rw [List.take_add_one, hp, t1, List.append_assoc]; rfl
            rw [t2, t1]
            exact augC_snoc
          have hal : (augC u (c.take (i + 1))).length ≤ 300 := by
            have := augC_len (l := c.take (i + 1)) (u := u)
            rw [List.length_take] at this
            omega
          generalize augC u (c.take (i + 1)) = w at et hal ⊢
          repeat infer_instance
          refine wo_tget (K := kvP K) (x := x) hd (find_mem (by rw [kvP_keys]; exact mk.nd) (List.mem_map.mpr ⟨(x, q), hxp, rfl⟩)) ?_
          repeat infer_instance
          refine wo_inPr (p := (x, q)) ?_
          repeat infer_instance
          refine if_dec (fun h6 => ?_) (fun h6 => ?_)
          · repeat infer_instance
            refine wl_lc w vPr (fun r => !decide (r = (x, q))) vPr rfl ?_
            repeat infer_instance
            refine ⟨src_lst _, by omega, fun r hr => ?_, ?_⟩
            · dsimp only [wipe, List.set]
              repeat infer_instance
              refine wo_nePr (q := (x, q)) ?_
              exact ⟨_, rfl, rfl, rfl, fun _ => we_v rfl ⟨rfl, rfl⟩⟩
            · repeat infer_instance
              refine ⟨m - 1, by omega, rfl, i + 1, q, .val (vNd q), ?_, hp, by omega⟩
              rw [et]
              unfold aug
              rw [if_pos h6]
          · repeat infer_instance
            refine wo_addL (by rw [List.length_map]; show w.length + 1 ≤ _; omega) ?_
            repeat infer_instance
            refine ⟨m - 1, by omega, rfl, i + 1, q, .val (vNd q), ?_, hp, by omega⟩
            rw [et]
            unfold aug
            rw [if_neg h6, List.map_append]; rfl
        · subst h5
          have hi := hbg i hx
          have ec : c.take (i + 1) = c := by rw [hi, List.take_length]
          rw [ec]
          have huo2 : ∀ p ∈ augC u c, p.1.ok := fun p hp => by
            rcases mem_augC hp with z | z
            · exact huo p z
            · exact hco _ z.1
          have hal := augC_len (l := c) (u := u)
          repeat infer_instance
          refine w_met_from (ea.keep kp) go.g.n go.ao go.al huo2 (by omega) fun st4 K4 kp4 mk4 hd4 => ?_
          repeat infer_instance
          refine ⟨k - 1, by omega, augC u c, K4, _, _, _, rfl, kp.trans (kp4.less kp.2), f2, mk4, hd4, huo2, by omega, by omega⟩
    · repeat infer_instance
      exact hQ st2 n u K kp f mk he (by omega) hd
/-! a way along used edges -/
theorem wo_isIn {st : Sto} {x : Nd} {Q : Val → Prop} (h : Q (.bl x.isIn)) : WO (oIx st (vNd x) (.int 0)) fun z => WO (oEq st z (.str "in")) Q := by
  cases x with
  | bg => exact wo_ixT rfl (wo_eqS (by rw [show ((Str.ofString "begin" == Str.ofString "in") = false) by decide +kernel]; exact h))
  | inn b => exact wo_ixT rfl (wo_eqS (by rw [beq_self_eq_true]; exact h))
  | out b => exact wo_ixT rfl (wo_eqS (by rw [show ((Str.ofString "out" == Str.ofString "in") = false) by decide +kernel]; exact h))
  | en => exact wo_ixT rfl (wo_eqS (by rw [show ((Str.ofString "end" == Str.ofString "in") = false) by decide +kernel]; exact h))
theorem wo_nB {st : Sto} {x : Nd} {Q : Val → Prop} (h : Q (.int (nB x))) : WO (oIx st (vNd x) (.int 1)) Q := by
  cases x <;> exact wo_ixT rfl h
theorem w_led_on {adj : Nd → List Nd} {u : List Pr} {s : Int} {st : Sto} {Q : Val → Sto → Prop} (go : GrOk adj) (f : Flow adj u) (hul : u.length ≤ 300) (hs : (.bg, .inn s) ∈ u) (hQ : Q (vI (wayOn u s)) st) : WF m_led_on [.lst (u.map vPr), .int s] st Q := by
  refine wf_fn rfl ?_
  unfold b_led_on
  dsimp only [List.map, List.replicate, List.append, HAppend.hAppend, Append.append, Nat.reduceSub]
  repeat infer_instance
  refine ws_while (fun k sl st' => st = st' ∧ ∃ x4, (∃ pre b n, sl = [.val (.lst (u.map vPr)), .val (.int s), .val (vI (pre ++ [b])), .val (.int b), x4, .no, .no] ∧ Line u (pre ++ [b]) ∧ (∃ l, pre ++ [b] = s :: l) ∧ wayOn u s = pre ++ wayN u n b ∧ n + pre.length = 8 ∧ pre.length + k = 11) ∨ sl = [.val (.lst (u.map vPr)), .val (.int s), .val (vI (wayOn u s)), .val .non, x4, .no, .no]) 11 (by decide) ?_ ?_
  · exact ⟨rfl, .no, .inl ⟨[], s, 8, rfl, trivial, ⟨[], rfl⟩, rfl, rfl, rfl⟩⟩
  · rintro k sl st' ⟨e', x4, ⟨pre, b, n, e', hl, hsl, hw, hn, hk⟩ | e'⟩
    · rename_i e0
      subst e0; subst e'
      have hgo : Good (pre ++ [b]) := by
        obtain ⟨l, e'⟩ := hsl
        rw [e'] at hl ⊢
        exact line_good go.g f go.r hs hl
      have hg8 := hgo.few
      rw [List.length_append] at hg8
      have e1 : ([b] : List Int).length = 1 := rfl
      repeat infer_instance
      refine ⟨.bl true, rfl, ?_⟩
      repeat infer_instance
      refine wl_lc u vPr (fun p => decide (p.1 = .out b) && p.2.isIn) (fun p => .int (nB p.2)) rfl ?_
      repeat infer_instance
      refine ⟨src_lst _, by omega, fun p hp => ?_, ?_⟩
      · dsimp only [wipe, List.set]
        unfold vPr
        repeat infer_instance
        refine wo_eqNd (y := .out b) ?_
        repeat infer_instance
        refine if_dec (fun h5 => ?_) (fun h5 => ?_)
        · repeat infer_instance
          refine wo_mono (wo_isIn (st := st) (x := p.2) (Q := fun z => z = .bl p.2.isIn) rfl) fun z hz => ?_
          repeat infer_instance
          refine wo_mono hz fun w hw => ?_
          refine ⟨_, hw, by rw [decide_eq_true h5]; rfl, rfl, fun _ => ?_⟩
          repeat infer_instance
          exact wo_nB ⟨rfl, rfl⟩
        · exact ⟨by rw [decide_eq_false h5]; rfl, rfl, fun z => by rw [decide_eq_false h5] at z; cases z⟩
      · have ea : (u.filter fun p => decide (p.1 = .out b) && p.2.isIn).map (fun p => Val.int (nB p.2)) = (aft u b).map .int := by
          unfold aft
          rw [List.map_map]; rfl
        rw [ea]
        repeat infer_instance
        refine wo_neI (ms := []) ?_
        repeat infer_instance
        rcases aft_cases go.g f b with ⟨e2, _⟩ | ⟨c, e2, hc⟩
        · rw [e2]
          refine if_ndec (fun h5 => absurd rfl h5) (fun h5 => ?_)
          repeat infer_instance
          refine wo_addI (ms := []) (by rw [List.length_append]; show _ + _ + 0 ≤ _; omega) ?_
          repeat infer_instance
          refine ⟨k - 1, by omega, rfl, .val (vI []), .inr ?_⟩
          rw [List.append_nil, hw, wayN_end e2]
        · rw [e2]
          refine if_ndec (fun h5 => ?_) (fun h5 => by cases h5)
          repeat infer_instance
          refine wo_ix rfl ?_
          repeat infer_instance
          refine wo_addI (ms := [c]) (by rw [List.length_append]; show _ + _ + 1 ≤ _; omega) ?_
          repeat infer_instance
          obtain ⟨n, e3⟩ : ∃ n', n = n' + 1 := ⟨n - 1, by
            have h3 : Good (pre ++ [b] ++ [c]) := by
              obtain ⟨l, e'⟩ := hsl
              have h4 := Line.snoc hc hl
              rw [e'] at h4 ⊢
              exact line_good go.g f go.r hs h4
            have := h3.few
            rw [List.length_append, List.length_append] at this
            have e4 : ([c] : List Int).length = 1 := rfl
            omega⟩
          subst e3
          refine ⟨k - 1, by omega, rfl, .val (vI [c]), .inl ⟨pre ++ [b], c, n, rfl, Line.snoc hc hl, ?_, ?_, ?_, ?_⟩⟩
          · obtain ⟨l, e'⟩ := hsl
            exact ⟨l ++ [c], by rw [e']; rfl⟩
          · rw [hw, wayN_go e2, List.append_assoc]; rfl
          · rw [List.length_append]; omega
          · rw [List.length_append]; omega
    · rename_i e0
      subst e0; subst e'
      repeat infer_instance
      refine ⟨.bl false, rfl, ?_⟩
      repeat infer_instance
      exact hQ
theorem w_is_whole {i : Int} {st : Sto} {Q : Val → Sto → Prop} (hQ : Q (.bl true) st) : WF m_is_whole [.int i] st Q := by
  refine wf_fn rfl ?_
  unfold b_is_whole
  dsimp only [List.map, List.replicate, List.append, HAppend.hAppend, Append.append, Nat.reduceSub]
  repeat infer_instance
  refine wo_some ?_
  repeat infer_instance
  rw [if_pos (show isiT 0 0 = true from rfl)]
  repeat infer_instance
  refine wo_some ?_
  repeat infer_instance
  exact hQ
theorem w_is_between {i lo hi : Int} {st : Sto} {Q : Val → Sto → Prop} (h1 : lo ≤ i) (h2 : i ≤ hi) (hQ : Q (.bl true) st) : WF m_is_between [.int i, .int lo, .int hi] st Q := by
  refine wf_fn rfl ?_
  unfold b_is_between
  dsimp only [List.map, List.replicate, List.append, HAppend.hAppend, Append.append, Nat.reduceSub]
  repeat infer_instance
  refine w_is_whole ?_
  repeat infer_instance
  rw [decide_eq_true h1]
  repeat infer_instance
  rw [decide_eq_true h2]
  exact hQ
def vP (p : Int × Int) : Val := .tup [.int p.1, .int p.2]
def dP (p : Int × Int) : PyData := .tuple [.int p.1, .int p.2]
theorem src_zipI (as bs : List Int) : SrcIs (.zip (vI as) (vI bs)) ((as.zip bs).map vP) := ⟨fun _ i => by
  show some (match (as.map Val.int)[i]?, (bs.map Val.int)[i]? with | some x, some y => some (Val.tup [x, y]) | _, _ => none) = some _
  congr 1
  rw [List.getElem?_map, List.getElem?_map, List.getElem?_map, List.zip_eq_zipWith, List.getElem?_zipWith]
  cases as[i]? <;> cases bs[i]? <;> rfl, fun _ => by
  rw [List.length_map, List.length_zip]
  show min as.length bs.length ≤ (as.map Val.int).length
  rw [List.length_map]
  omega⟩
theorem wi_zip {a b : E} {sl : Sl} {st : Sto} {as bs : List Int} {QI : Src → Sto → Prop} (h : WE a sl st fun v st => WE b sl st fun w st => v = vI as ∧ w = vI bs ∧ QI (.zip (vI as) (vI bs)) st) : WI (iZip a b) sl st QI := wo_bind (wo_mono h fun x h => wo_bind (wo_mono h fun y h => by
  obtain ⟨e1, e2, h⟩ := h
  rw [e1, e2]
  exact wo_some h))
/-- rising -/
def Rising (as : List Int) : Prop := as.Pairwise (· < ·)
theorem rising_zip : ∀ {as : List Int}, Rising as → ∀ p ∈ as.zip (as.drop 1), p.1 < p.2
  | [], _, p, hp => by cases hp
  | [a], _, p, hp => by cases hp
  | a :: b :: r, h, p, hp => by
    rcases List.mem_cons.mp hp with e | e
    · rw [e]; exact (List.pairwise_cons.mp h).1 b (List.mem_cons_self ..)
    · exact rising_zip (List.pairwise_cons.mp h).2 p e
theorem cut_drop1 (l : List Int) : cut (l.map Val.int) (some 1) none = (l.drop 1).map .int := by
  rw [cut_map]
  congr 1
  unfold cut
  rw [HT.sIx_none, show (some (1 : Int)) = some ((1 : Nat) : Int) from rfl, HT.sIx_nat]
  cases l with
  | nil => rfl
  | cons a r =>
    rw [Nat.min_eq_left (by simp)]
    exact List.take_of_length_le (by rw [List.length_drop]; exact Nat.le_refl _)
theorem wo_lenT {st : Sto} {xs : List Val} {k : Nat} {Q : Val → Prop} (hk : xs.length = k) (h : Q (.int (k : Nat))) : WO (oLen st (.tup xs)) Q := ⟨_, rfl, by rw [hk]; exact h⟩
theorem we_allA {w : I} {g : G} {a : E} {sl : Sl} {st : Sto} {Q : Val → Sto → Prop} {vs : List Nat} {A : Type} (as : List A) (enc : A → Val) (ff : A → Bool) (hn : noOwn sl vs = true)
    (h : WI w sl st fun src st => SrcAt st src (as.map enc) ∧ as.length ≤ 100000 ∧ (∀ x, x ∈ as → WG g (enc x) (wipe sl vs) st fun sl1 => WE a sl1 st fun v st' => v = .bl (ff x) ∧ st' = st) ∧ Q (.bl (as.all ff)) st) :
    WE (eAll (lComp w vs g tTrue a)) sl st Q := wo_bind (wo_mono (wl_lcA (QL := fun xs st => xs = (as.filter fun _ => true).map (fun x => .bl (ff x)) ∧ Q (.bl (as.all ff)) st) as enc (fun _ => true) (fun x => .bl (ff x)) hn (wo_mono h fun y h => ⟨h.1, h.2.1, fun x hx => wo_mono (h.2.2.1 x hx) fun sl1 h => wo_some ⟨rfl, rfl, fun _ => h⟩, rfl, h.2.2.2⟩)) fun y h => by
    rw [h.1, List.filter_eq_self.mpr fun _ _ => rfl, allBl_map]
    exact wo_some (by simpa using h.2))
theorem wo_isiR {st : Sto} {r : Nat} {xs : List Val} {Q : Val → Prop} (e : st[r]? = some (.lst xs)) (h : Q (.bl true)) : WO (oIsi 3 st (.ref r)) Q := by
  refine ⟨.bl true, ?_, h⟩
  show (match st[r]? with
    | some (.lst _) => some 3
    | some (.dk _) => some 6
    | some (.dt _) => some 6
    | _ => none).bind _ = _
  rw [e]; rfl

theorem wo_isc {st : Sto} {js : List Nat} {k r j : Nat} {vs : List Val} {Q : Val → Prop} (e : st[r]? = some (.ins j vs)) (hj : j ∈ js) (h : Q (.bl (subC j k))) : WO (oIsc js k st (.ref r)) Q := by
  refine ⟨_, ?_, h⟩
  show (match st[r]? with | some (.ins j _) => if j ∈ js then some (Val.bl (subC j k)) else none | _ => none) = _
  rw [e]
  exact if_pos hj
theorem we_index {o e : E} {sl : Sl} {st : Sto} {ns : List Int} {i : Int} {k : Nat} {Q : Val → Sto → Prop} (h : WE o sl st fun x st => x = vI ns ∧ WE e sl st fun y st => y = .int i ∧ placeOf i ns = some k ∧ Q (.int (k : Nat)) st) : WE (eIndex o e) sl st Q := wo_bind (wo_mono h fun p h => by
  obtain ⟨e1, h⟩ := h
  rw [e1]
  refine wo_bind (wo_some (wo_bind (wo_mono h fun q h => ?_)))
  obtain ⟨e2, e3, h⟩ := h
  rw [e2]
  refine wo_bind (wo_some ?_)
  rw [allInt_ints]
  refine wo_bind (wo_some ?_)
  show WO ((placeOf i ns).bind _) _
  rw [e3]
  exact wo_bind (wo_some (wo_some h)))
theorem placeOf_mem {i : Int} : ∀ {ns : List Int}, i ∈ ns → ∃ k, placeOf i ns = some k
  | [], h => by cases h
  | j :: r, h => by
    unfold placeOf
    by_cases e : j = i
    · rw [if_pos e]; exact ⟨_, rfl⟩
    · rw [if_neg e]
      rcases List.mem_cons.mp h with z | z
      · exact absurd z.symm e
      · obtain ⟨k, hk⟩ := placeOf_mem z
        rw [hk]; exact ⟨_, rfl⟩
theorem enum_at {h : List Acc} {i : Nat} {x : Val} (hx : ((h.map vA).zipIdx.map fun p => Val.tup [.int (p.2 : Nat), p.1])[i]? = some x) : ∃ p, h[i]? = some p ∧ x = .tup [.int (i : Nat), vA p] := by
  rw [List.getElem?_map, List.getElem?_zipIdx, Option.map_map, List.getElem?_map, Option.map_map] at hx
  obtain ⟨p, hp, e⟩ := Option.map_eq_some_iff.mp hx
  refine ⟨p, hp, ?_⟩
  rw [← e]
  show Val.tup [.int ((0 + i : Nat) : Int), vA p] = _
  rw [Nat.zero_add]
/-! what is asked of houses and boxes -/
theorem w_are_rising {as : List Int} {st : Sto} {Q : Val → Sto → Prop} (hr : as.Pairwise (· < ·)) (hl : as.length ≤ 100) (hQ : Q (.bl true) st) : WF m_are_rising [vI as] st Q := by
  refine wf_fn rfl ?_
  unfold b_are_rising
  dsimp only [List.map, List.replicate, List.append, HAppend.hAppend, Append.append, Nat.reduceSub]
  repeat infer_instance
  refine we_all (as.zip (as.drop 1)) vP (fun p => decide (p.1 < p.2)) rfl ?_
  refine wi_zip (as := as) (bs := as.drop 1) ?_
  repeat infer_instance
  refine we_sl ?_
  repeat infer_instance
  refine ⟨rfl, ?_, src_zipI _ _, by rw [List.length_zip]; omega, fun p hp => ?_, ?_⟩
  · rw [show cut (as.map Val.int) (some 1) none = (as.drop 1).map .int from cut_drop1 as]
  · dsimp only [wipe, List.set]
    unfold vP
    repeat infer_instance
    exact ⟨rfl, rfl⟩
  rw [List.all_eq_true.mpr fun p hp => decide_eq_true (rising_zip hr p hp)]
  exact hQ
theorem w_are_boxes {as : List Int} {m : Int} {st : Sto} {Q : Val → Sto → Prop} (hg : Good as) (hr : as.Pairwise (· < ·)) (hl : (as.length : Nat) ≤ m) (hQ : Q (.bl true) st) : WF m_are_boxes [vI as, .int m] st Q := by
  refine wf_fn rfl ?_
  unfold b_are_boxes
  dsimp only [List.map, List.replicate, List.append, HAppend.hAppend, Append.append, Nat.reduceSub]
  have hf := hg.few
  repeat infer_instance
  refine wo_some ?_
  repeat infer_instance
  rw [if_neg (by decide : ¬ (!isiT 3 3) = true)]
  repeat infer_instance
  rw [decide_eq_false (by omega)]
  repeat infer_instance
  refine we_all as .int (fun _ => true) rfl ?_
  repeat infer_instance
  refine ⟨src_lst _, by omega, fun a ha => ?_, ?_⟩
  · dsimp only [wipe, List.set]
    repeat infer_instance
    refine w_is_between (hg.2 a ha).1 (by have := (hg.2 a ha).2; omega) ?_
    exact ⟨rfl, rfl⟩
  rw [List.all_eq_true.mpr fun _ _ => rfl]
  repeat infer_instance
  exact w_are_rising hr (by omega) hQ
theorem w_is_account {h : List Acc} {p : Acc} {st : Sto} {Q : Val → Sto → Prop} (hh : HouseOk h) (hp : p ∈ h) (hQ : Q (.bl true) st) : WF m_is_account [vA p] st Q := by
  refine wf_fn rfl ?_
  unfold b_is_account
  dsimp only [List.map, List.replicate, List.append, HAppend.hAppend, Append.append, Nat.reduceSub]
  obtain ⟨⟨r1, l1⟩, r2, l2⟩ := hh.r p hp
  repeat infer_instance
  refine wo_some ?_
  repeat infer_instance
  rw [if_neg (by decide : ¬ (!isiT 4 4) = true)]
  repeat infer_instance
  refine wo_lenT (k := 2) rfl ?_
  repeat infer_instance
  rw [show (decide (((2 : Nat) : Int) = 2)) = true from rfl]
  repeat infer_instance
  refine w_are_boxes (hh.s p hp) r1 (by omega) ?_
  repeat infer_instance
  refine w_are_boxes (hh.o p hp) r2 (by omega) ?_
  exact hQ
theorem w_check_house {h : List Acc} {st : Sto} {Q : Val → Sto → Prop} (hh : HouseOk h) (hQ : Q .non st) : WF m_check_house [vH h] st Q := by
  refine wf_fn rfl ?_
  unfold b_check_house
  dsimp only [List.map, List.replicate, List.append, HAppend.hAppend, Append.append, Nat.reduceSub]
  have h1 := hh.pos
  have h6 := hh.six
  repeat infer_instance
  refine wo_some ?_
  repeat infer_instance
  rw [if_neg (by decide : ¬ (!isiT 3 3) = true)]
  repeat infer_instance
  rw [decide_eq_true (by omega)]
  repeat infer_instance
  rw [decide_eq_true (by omega)]
  repeat infer_instance
  refine we_all h vA (fun _ => true) rfl ?_
  repeat infer_instance
  refine ⟨src_lst _, by omega, fun p hp => ?_, ?_⟩
  · dsimp only [wipe, List.set]
    repeat infer_instance
    refine w_is_account hh hp ?_
    exact ⟨rfl, rfl⟩
  rw [List.all_eq_true.mpr fun _ _ => rfl]
  repeat infer_instance
  exact hQ
theorem w_check_boxes {as : List Int} {st : Sto} {Q : Val → Sto → Prop} (hg : Good as) (hr : as.Pairwise (· < ·)) (hQ : Q .non st) : WF m_check_boxes [vI as] st Q := by
  refine wf_fn rfl ?_
  unfold b_check_boxes
  dsimp only [List.map, List.replicate, List.append, HAppend.hAppend, Append.append, Nat.reduceSub]
  repeat infer_instance
  refine w_are_boxes hg hr (by have := hg.few; omega) ?_
  repeat infer_instance
  exact hQ
theorem w_check_wanted {h : List Acc} {a : Int} {st : Sto} {Q : Val → Sto → Prop} (h0 : 0 ≤ a) (h1 : a < (h.length : Nat)) (hQ : Q .non st) : WF m_check_wanted [vH h, .int a] st Q := by
  refine wf_fn rfl ?_
  unfold b_check_wanted
  dsimp only [List.map, List.replicate, List.append, HAppend.hAppend, Append.append, Nat.reduceSub]
  repeat infer_instance
  refine w_is_between h0 (by omega) ?_
  repeat infer_instance
  exact hQ
/-! the program's search -/
theorem w_come_to {h : List Acc} {boxes : List Int} {st : Sto} {Q : Val → Sto → Prop} (hh : HouseOk h) (hb : Good boxes) (hQ : ∀ f way, Met h boxes f way → Done h f way h.length → Q (.tup [vI (sortI f), vI way]) st) : WF m_come_to [vH h, vI boxes, vI []] st Q := by
  refine wf_fn rfl ?_
  unfold b_come_to
  dsimp only [List.map, List.replicate, List.append, HAppend.hAppend, Append.append, Nat.reduceSub]
  have h6 := hh.six
  have hbf := hb.few
  refine ws_seq (ws_parvo ?_)
  refine we_d (wl_lc boxes .int (fun b => !decide (b ∈ ([] : List Int))) .int rfl ?_)
  repeat infer_instance
  refine ⟨src_lst _, by omega, fun b hb => ?_, ?_⟩
  · dsimp only [wipe, List.set]
    repeat infer_instance
    exact ⟨rfl, rfl, fun _ => we_v rfl ⟨rfl, rfl⟩⟩
  rw [List.filter_eq_self.mpr fun b _ => by simp]
  repeat infer_instance
  refine ws_while (fun k sl st' => ∃ (f way : List Int) (more : Bool) (x7 x8 x9 : Slot), sl = [.val (vH h), .val (vI boxes), .val (vI []), .val (vI f), .own (way.map .int), .no, .val (.bl more), x7, x8, x9] ∧ st = st' ∧ Met h boxes f way ∧ (more = false → Done h f way h.length) ∧ h.length + (if more then 1 else 0) ≤ way.length + k) 7 (by decide) ?_ ?_
  · exact ⟨boxes, [], true, _, _, _, rfl, rfl, .first hb, fun z => (by cases z), by rw [if_pos rfl]; show h.length + 1 ≤ 0 + 7; omega⟩
  · rintro k sl st' ⟨f, way, more, x7, x8, x9, e, e', mt, dn, hk⟩
    subst e; subst e'
    cases more with
    | false =>
      repeat infer_instance
      exact hQ f way mt (dn rfl)
    | true =>
      have hk : h.length + 1 ≤ way.length + k := hk
      have hwl : way.length ≤ h.length := few (n := h.length) mt.nd mt.inh
      repeat infer_instance
      refine ws_for (fun i sl st' => ∃ (f' way' : List Int) (more' : Bool) (x7 x8 x9 : Slot), sl = [.val (vH h), .val (vI boxes), .val (vI []), .val (vI f'), .own (way'.map .int), .no, .val (.bl more'), x7, x8, x9] ∧ st = st' ∧ Met h boxes f' way' ∧ way.length + (if more' then 1 else 0) ≤ way'.length ∧ (more' = false → f' = f ∧ way' = way ∧ Done h f way i)) ?_
      repeat infer_instance
      refine ⟨_, src_enum _, ⟨f, way, false, _, _, _, rfl, rfl, mt, Nat.le_refl _, fun _ => ⟨rfl, rfl, fun i p hi => by omega⟩⟩, ?_, ?_⟩
      · rintro i x hx sl st' ⟨f', way', more', y7, y8, y9, e, e', mt', hw, same⟩
        subst e; subst e'
        obtain ⟨p, hp, e⟩ := enum_at hx
        subst e
        have hpm := List.mem_of_getElem? hp
        have p1 := (hh.s p hpm).few
        have p2 := (hh.o p hpm).few
        have hgf := mt'.good.few
        have hwl' : way'.length ≤ h.length := few (n := h.length) mt'.nd mt'.inh
        repeat infer_instance
        have stay : (((i : Nat) : Int) ∈ way' ∨ led f' p = false) → ∃ (f'' way'' : List Int) (more'' : Bool) (x7 x8 x9 : Slot), [Slot.val (vH h), .val (vI boxes), .val (vI []), .val (vI f'), .own (way'.map .int), .no, .val (.bl more'), .val (.int (i : Nat)), .val (vI p.1), .val (vI p.2)] = [.val (vH h), .val (vI boxes), .val (vI []), .val (vI f''), .own (way''.map .int), .no, .val (.bl more''), x7, x8, x9] ∧ st = st ∧ Met h boxes f'' way'' ∧ way.length + (if more'' then 1 else 0) ≤ way''.length ∧ (more'' = false → f'' = f ∧ way'' = way ∧ Done h f way (i + 1)) := fun hor =>
          ⟨f', way', more', _, _, _, rfl, rfl, mt', hw, fun z => by
            obtain ⟨e1, e2, d⟩ := same z
            refine ⟨e1, e2, fun j q hj hq => ?_⟩
            by_cases e : j = i
            · subst e
              rw [hp] at hq
              cases hq
              rw [← e1, ← e2]; exact hor
            · exact d j q (by omega) hq⟩
        refine if_ndec (fun h1 => ?_) (fun h1 => ?_)
        · repeat infer_instance
          refine we_any p.1 .int (fun b => decide (b ∈ f')) rfl ?_
          repeat infer_instance
          refine ⟨src_lst _, by omega, fun b hb => ?_, ?_⟩
          · dsimp only [wipe, List.set]
            repeat infer_instance
            exact ⟨rfl, rfl⟩
          repeat infer_instance
          refine if_b (fun h2 => ?_) (fun h2 => ?_)
          · repeat infer_instance
            refine ⟨by rw [List.length_map]; omega, ?_⟩
            repeat infer_instance
            refine wl_lc p.2 .int (fun b => !decide (b ∈ f') && !decide (b ∈ ([] : List Int))) .int rfl ?_
            repeat infer_instance
            refine ⟨src_lst _, by omega, fun b hb => ?_, ?_⟩
            · dsimp only [wipe, List.set]
              repeat infer_instance
              refine if_ndec (fun h5 => ?_) (fun h5 => ?_)
              · repeat infer_instance
                exact ⟨by rw [decide_eq_false h5]; rfl, rfl, fun _ => we_v rfl ⟨rfl, rfl⟩⟩
              · exact ⟨by rw [decide_eq_true h5]; rfl, rfl, fun _ => we_v rfl ⟨rfl, rfl⟩⟩
            have mt2 := mt'.more hp (hh.o p hpm) h2 h1
            have hgl := mt2.good.few
            rw [List.length_append] at hgl
            repeat infer_instance
            refine wo_addI (ms := news f' [] p.2) (by omega) ?_
            repeat infer_instance
            refine ⟨f' ++ news f' [] p.2, way' ++ [((i : Nat) : Int)], true, _, _, _, by rw [List.map_append]; rfl, rfl, mt2, ?_, fun z => by cases z⟩
            rw [if_pos rfl, List.length_append]
            have : way.length ≤ way'.length := by omega
            show way.length + 1 ≤ way'.length + 1
            omega
          · repeat infer_instance
            exact stay (.inr h2)
        · repeat infer_instance
          exact stay (.inl h1)
      · rintro sl st' ⟨f', way', more', y7, y8, y9, e, e', mt', hw, same⟩
        subst e; subst e'
        rw [List.length_map, List.length_zipIdx, List.length_map] at same
        refine ⟨k - 1, by omega, f', way', more', _, _, _, rfl, rfl, mt', fun z => ?_, ?_⟩
        · obtain ⟨e1, e2, d⟩ := same z
          rw [e1, e2]; exact d
        · cases more' with
          | true =>
            have hw : way.length + 1 ≤ way'.length := hw
            rw [if_pos rfl]
            omega
          | false =>
            have hw : way.length + 0 ≤ way'.length := hw
            show h.length + 0 ≤ way'.length + (k - 1)
            omega
/-! lists of numbers as data or at a place -/
def IsI (st : Sto) (v : Val) (ns : List Int) : Prop := v = vI ns ∨ ∃ r, v = .ref r ∧ st[r]? = some (.lst (ns.map .int))
section
variable {st : Sto} {v w : Val} {ns ms : List Int}
theorem IsI.val : IsI st (vI ns) ns := .inl rfl
theorem IsI.vQ (h : IsI st v ns) : viewQ st v = some (ns.map .int) := by
  rcases h with e | ⟨r, e, h⟩
  · subst e; rfl
  · subst e; exact view_ref h
theorem IsI.vL (h : IsI st v ns) : viewL st v = some (ns.map .int) := by
  rcases h with e | ⟨r, e, h⟩
  · subst e; rfl
  · subst e; exact view_refL h
theorem IsI.vin {i : Int} (h : IsI st v ns) : vin st (.int i) v = some (decide (i ∈ ns)) := by
  unfold Mi.vin
  rw [h.vL]
  show (if (true && (ns.map Val.int).all flat) = true then some (fin (.int i) (ns.map .int)) else _) = _
  rw [if_pos (by rw [flats]; rfl), fin_int]
theorem wo_inX {i : Int} {Q : Val → Prop} (e : IsI st v ns) (h : Q (.bl (decide (i ∈ ns)))) : WO (oIn st (.int i) v) Q := ⟨_, by unfold oIn; rw [e.vin] <;> rfl, h⟩
theorem wo_ninX {i : Int} {Q : Val → Prop} (e : IsI st v ns) (h : Q (.bl (!decide (i ∈ ns)))) : WO (oNin st (.int i) v) Q := ⟨_, by unfold oNin; rw [e.vin] <;> rfl, h⟩
theorem IsI.pd {n : Nat} (h : IsI st v ns) : pd st (n + 2) v = some (.list (ns.map .int)) := by
  rcases h with e | ⟨r, e, h⟩
  · subst e
    show ((ns.map Val.int).mapM (Mi.pd st (n + 1))).map _ = _
    rw [pd_ints]; rfl
  · subst e
    show (match st[r]? with | some (.lst xs) => (xs.mapM (Mi.pd st (n + 1))).map PyData.list | _ => none) = _
    rw [h]
    show ((ns.map Val.int).mapM (Mi.pd st (n + 1))).map _ = _
    rw [pd_ints]; rfl
theorem IsI.veq (h : IsI st v ns) (k : IsI st w ms) : veq st v w = some (decide (ns = ms)) := by
  unfold Mi.veq
  rw [show deep = 18 + 2 from rfl, h.pd, k.pd]
  show some (PyData.eqv (.list _) (.list _)) = _
  rw [PyData.eqv, eqvAll_ints]
theorem wo_eqX {Q : Val → Prop} (h : IsI st v ns) (k : IsI st w ms) (q : Q (.bl (decide (ns = ms)))) : WO (oEq st v w) Q := ⟨_, by unfold oEq; rw [h.veq k] <;> rfl, q⟩
theorem wo_neX {Q : Val → Prop} (h : IsI st v ns) (k : IsI st w ms) (q : Q (.bl (!decide (ns = ms)))) : WO (oNe st v w) Q := ⟨_, by unfold oNe; rw [h.veq k] <;> rfl, q⟩
theorem wo_lenX {Q : Val → Prop} {xs : List Val} (h : viewL st v = some xs) (q : Q (.int (xs.length : Nat))) : WO (oLen st v) Q := ⟨_, by unfold oLen; rw [h] <;> rfl, q⟩
theorem IsI.ix {i : Int} (h : IsI st v ns) : oIx st v (.int i) = atI (ns.map .int) i := by
  show (viewL st v).bind _ = _
  rw [h.vL]; rfl
theorem wo_addX {Q : Val → Prop} (h : IsI st v ms) (hl : ns.length + ms.length ≤ 100000) (q : Q (vI (ns ++ ms))) : WO (oAdd st (vI ns) v) Q := by
  rcases h with e | ⟨r, e, h⟩
  · subst e; exact wo_addI hl q
  · subst e
    refine ⟨vI (ns ++ ms), ?_, q⟩
    show (viewQ st (vI ns)).bind (fun xs => (viewQ st (.ref r)).bind fun ys => if xs.length + ys.length ≤ 100000 then some (Val.lst (xs ++ ys)) else none) = _
    rw [view_ref h]
    show (if (ns.map Val.int).length + (ms.map Val.int).length ≤ 100000 then _ else _) = _
    rw [List.length_map, List.length_map, if_pos hl, ← List.map_append]
theorem wo_sortUX {QL : List Val → Prop} (h : IsI st v ns) (hl : ns.length < 64) (q : QL ((sortU ns).map .int)) : WO (oSortU st v) QL := ⟨_, by
  show (viewQ st v).bind _ = _
  rw [h.vQ]
  show (allInt (ns.map .int)).bind _ = _
  rw [allInt_ints]
  exact if_pos hl, q⟩
theorem wo_lenUX {Q : Val → Prop} (h : IsI st v ns) (hl : ns.length < 64) (q : Q (.int ((sortU ns).length : Nat))) : WO (oLenU st v) Q := ⟨_, by
  show (viewQ st v).bind _ = _
  rw [h.vQ]
  show (allInt (ns.map .int)).bind _ = _
  rw [allInt_ints]
  exact if_pos hl, q⟩
theorem src_seqX {xs : List Val} (h : viewL st v = some xs) : SrcAt st (.seq v) xs := ⟨fun i => by
  show (viewL st v).bind _ = _
  rw [h] <;> rfl, by
  show _ ≤ ((viewL st v).getD []).length
  rw [h]
  exact Nat.le_refl _⟩
theorem wi_seqX {a : E} {sl : Sl} {QI : Src → Sto → Prop} (h : WE a sl st fun v st => ∃ xs, viewL st v = some xs ∧ QI (.seq v) st) : WI (iSeq a) sl st QI := wo_bind (wo_mono h fun y h => by
  obtain ⟨xs, e, h⟩ := h
  rw [e]
  exact wo_some h)
theorem src_zipX (h : IsI st v ns) (k : IsI st w ms) : SrcAt st (.zip v w) ((ns.zip ms).map vP) := ⟨fun i => by
  show (viewQ st v).bind (fun xs => (viewQ st w).bind fun ys => _) = _
  rw [h.vQ, k.vQ]
  exact (src_zipI ns ms).1 st i, by
  show _ ≤ ((viewQ st v).getD []).length
  rw [h.vQ, List.length_map, List.length_zip]
  show _ ≤ (ns.map Val.int).length
  rw [List.length_map]
  omega⟩
theorem wi_zipX {a b : E} {sl : Sl} {QI : Src → Sto → Prop} (h : WE a sl st fun v st => WE b sl st fun w st => ∃ ns ms, IsI st v ns ∧ IsI st w ms ∧ QI (.zip v w) st) : WI (iZip a b) sl st QI := wo_bind (wo_mono h fun x h => wo_bind (wo_mono h fun y h => by
  obtain ⟨ns, ms, e1, e2, h⟩ := h
  rw [e1.vQ, e2.vQ]
  exact wo_some h))
theorem we_slI {a : E} {p p' : P} {sl : Sl} {Q : Val → Sto → Prop} (h : WE a sl st fun x st => WP p sl st fun lo st => WP p' sl st fun hi st => ∃ ns : List Int, IsI st x ns ∧ Q (vI (cut ns lo hi)) st) : WE (eSl a p p') sl st Q := wo_bind (wo_mono h fun x h => wo_bind (wo_mono h fun _ h => wo_bind (wo_mono h fun r h => by
  obtain ⟨xs, h1, h⟩ := h
  have e : ∀ lo hi, Val.lst (cut (xs.map Val.int) lo hi) = vI (cut xs lo hi) := fun lo hi => congrArg Val.lst (cut_map Val.int xs lo hi)
  rcases h1 with z | ⟨n, z, k⟩
  · rw [z]
    refine wo_some ?_
    show Q (Val.lst (cut (xs.map Val.int) _ _)) _
    rw [e]; exact h
  · rw [z]
    show WO ((viewQ r.2 (.ref n)).bind _) _
    rw [view_ref k]
    refine wo_some ?_
    show Q (Val.lst (cut (xs.map Val.int) _ _)) _
    rw [e]; exact h)))
end
/-- lists of these -/
structure IsW (st : Sto) (v : Val) (ws : List Val) (W : List (List Int)) : Prop where
  v : viewL st v = some ws
  n : ws.length = W.length
  e : ∀ (i : Nat) (x : Val), ws[i]? = some x → ∃ w, W[i]? = some w ∧ IsI st x w
theorem IsW.val {st : Sto} {W : List (List Int)} : IsW st (.lst (W.map vI)) (W.map vI) W := ⟨rfl, by rw [List.length_map], fun i x hx => by
  obtain ⟨w, e, h, _⟩ := map_at hx
  exact ⟨w, h, by rw [e]; exact .val⟩⟩
theorem flat_take {W : List (List Int)} {i : Nat} {w : List Int} (h : W[i]? = some w) : (W.take (i + 1)).flatten = (W.take i).flatten ++ w := by
  rw [List.take_add_one, h, List.flatten_append]
  show _ ++ [w].flatten = _
  rw [List.flatten_cons, List.flatten_nil, List.append_nil]
theorem flat_len {W : List (List Int)} {i : Nat} {w : List Int} (h : W[i]? = some w) : (W.take i).flatten.length + w.length ≤ W.flatten.length := by
  have e := flat_take h
  have h2 : W.flatten.length = (W.take (i + 1)).flatten.length + (W.drop (i + 1)).flatten.length := by
    rw [← List.length_append, ← List.flatten_append, List.take_append_drop]
  rw [e, List.length_append] at h2
  omega
theorem take_all {α : Type} {l : List α} {i : Nat} {a : α} {p : α → Bool} (h : l[i]? = some a) (h1 : (l.take i).all p = true) (h2 : p a = true) : (l.take (i + 1)).all p = true := by
  rw [List.take_add_one, h, List.all_append, h1]
  show (true && [a].all p) = true
  rw [List.all_cons, h2]; rfl
theorem all_no {α : Type} {l : List α} {a : α} {p : α → Bool} (h : a ∈ l) (h2 : p a = false) : l.all p = false := by
  rw [Bool.eq_false_iff]
  intro z
  rw [List.all_eq_true.mp z a h] at h2
  cases h2
theorem areB_no {h : List Acc} {boxes B F : List Int} {p0 : Acc} {W : List (List Int)} {w : List Int} (hw : w ∈ W) (hn : isB h boxes p0 w = false) : areB h boxes p0 B W F = false := by
  unfold areB
  rw [all_no hw hn]; rfl
/-- the law's own search, with boxes that are barred -/
def NO : Slot → Prop
  | .own _ => False
  | _ => True
theorem w_comeB {h : List Acc} {boxes bar F : List Int} {bv : Val} {st : Sto} {Q : Val → Sto → Prop} (hh : HouseOk h) (hb : Good boxes) (hbar : IsI st bv bar) (lF : LeastB h boxes bar F) (hQ : ∀ F', Q (.tup [vI F', vI (accs h F)]) st) : WF m__law_come [vH h, vI boxes, bv] st Q := by
  refine wf_fn rfl ?_
  unfold b__law_come
  dsimp only [List.map, List.replicate, List.append, HAppend.hAppend, Append.append, Nat.reduceSub]
  have hs := hh.six
  have := hb.few
  repeat infer_instance
  refine wl_lc boxes .int (fun b => !decide (b ∈ bar)) .int rfl ?_
  repeat infer_instance
  refine ⟨src_lst _, by omega, fun b hb => ?_, ?_⟩
  · dsimp only [wipe, List.set]
    repeat infer_instance
    refine wo_ninX hbar ?_
    repeat infer_instance
    exact ⟨rfl, rfl, fun _ => we_v rfl ⟨rfl, rfl⟩⟩
  · repeat infer_instance
    have hg0 : Good (boxes.filter fun b => !decide (b ∈ bar)) := ⟨hb.1.filter _, fun x hx => hb.2 x (List.mem_filter.mp hx).1⟩
    have hb0 : ∀ b ∈ boxes, b ∉ bar → b ∈ (boxes.filter fun b => !decide (b ∈ bar)) := fun b hb hn => List.mem_filter.mpr ⟨hb, by simp [hn]⟩
    have hm0 : ∀ S, ShutB h boxes bar S → ∀ b ∈ (boxes.filter fun b => !decide (b ∈ bar)), b ∈ S := fun S hS b hb => by
      obtain ⟨h1, h2⟩ := List.mem_filter.mp hb
      exact hS.1 b h1 (by simpa using h2)
    generalize (boxes.filter fun b => !decide (b ∈ bar)) = f0 at hg0 hb0 hm0
    refine ws_while (fun k sl st' => ∃ (f : List Int) (size : Int) (x6 x7 : Slot), sl = [.val (vH h), .val (vI boxes), .val bv, .val (vI f), .val (.int size), .no, x6, x7, .no] ∧ st = st' ∧ NO x6 ∧ NO x7 ∧ Good f ∧ (∀ b ∈ boxes, b ∉ bar → b ∈ f) ∧ (∀ S, ShutB h boxes bar S → ∀ b ∈ f, b ∈ S) ∧ (size = (f.length : Nat) → ∀ p ∈ h, led f p = true → ∀ b ∈ p.2, b ∉ bar → b ∈ f) ∧ size ≤ (f.length : Nat) ∧ (f.length : Int) + k ≥ 8 + (if size = (f.length : Nat) then 0 else 1)) 9 (by decide) ?_ ?_
    · refine ⟨f0, _, _, _, rfl, rfl, trivial, trivial, hg0, hb0, hm0, fun z => ?_, by omega, ?_⟩
      · exact absurd z (by omega)
      · rw [if_neg (by omega)]
        omega
    · rintro k sl st' ⟨f, size, x6, x7, e, e', n6, n7, hg, hbf, hmin, hsh, hsz, hk⟩
      subst e; subst e'
      have hfew := hg.few
      repeat infer_instance
      refine if_ndec (fun h1 => ?_) (fun h1 => ?_)
      · rw [if_neg (fun z => h1 z.symm)] at hk
        repeat infer_instance
        refine ws_for (fun i sl st' => ∃ (g t : List Int) (x6 x7 : Slot), sl = [.val (vH h), .val (vI boxes), .val bv, .val (vI g), .val (.int (f.length : Nat)), .no, x6, x7, .no] ∧ st = st' ∧ NO x6 ∧ NO x7 ∧ Good g ∧ g = f ++ t ∧ (∀ S, ShutB h boxes bar S → ∀ b ∈ g, b ∈ S) ∧ (t = [] → ∀ p ∈ h.take i, led f p = true → ∀ b ∈ p.2, b ∉ bar → b ∈ f)) ?_
        repeat infer_instance
        refine ⟨_, src_lst _, ⟨f, [], _, _, rfl, rfl, n6, n7, hg, (List.append_nil f).symm, hmin, fun _ p hp => by cases hp⟩, ?_, ?_⟩
        · rintro i x hx sl st' ⟨g, t, y6, y7, e, e', m6, m7, hgg, hgt, hgm, hgs⟩
          subst e; subst e'
          obtain ⟨p, e, h3, hm⟩ := map_at hx
          subst e
          have p1 := (hh.s p hm).few
          have p2 := (hh.o p hm).few
          have hgf := hgg.few
          have et : h.take (i + 1) = h.take i ++ [p] := by rw [List.take_add_one, h3]; rfl
          repeat infer_instance
          refine we_any p.1 .int (fun b => decide (b ∈ g)) rfl ?_
          repeat infer_instance
          refine ⟨src_lst _, by omega, fun b hb => ?_, ?_⟩
          · dsimp only [wipe, List.set]
            repeat infer_instance
            exact ⟨rfl, rfl⟩
          · repeat infer_instance
            refine if_b (fun h4 => ?_) (fun h4 => ?_)
            · repeat infer_instance
              refine wl_lc p.2 .int (fun b => !decide (b ∈ g) && !decide (b ∈ bar)) .int rfl ?_
              repeat infer_instance
              refine ⟨src_lst _, by omega, fun b hb => ?_, ?_⟩
              · dsimp only [wipe, List.set]
                repeat infer_instance
                refine if_ndec (fun h5 => ?_) (fun h5 => ?_)
                · repeat infer_instance
                  refine wo_ninX hbar ?_
                  repeat infer_instance
                  exact ⟨by rw [decide_eq_false h5]; rfl, rfl, fun _ => we_v rfl ⟨rfl, rfl⟩⟩
                · exact ⟨by rw [decide_eq_true h5]; rfl, rfl, fun _ => we_v rfl ⟨rfl, rfl⟩⟩
              · repeat infer_instance
                have hn := hgg.news (bar := bar) (hh.o p hm)
                have hl := hn.few
                rw [List.length_append] at hl
                refine wo_addI (ms := news g bar p.2) (by omega) ?_
                repeat infer_instance
                refine ⟨g ++ news g bar p.2, t ++ news g bar p.2, _, _, rfl, rfl, trivial, trivial, hn, by rw [hgt, List.append_assoc], fun S hS b hb => ?_, fun z q hq hl b hb hbn => ?_⟩
                · rcases mem_newsB.mp hb with z | ⟨z, zn⟩
                  · exact hgm S hS b z
                  · refine hS.2 p hm ?_ b z zn
                    obtain ⟨c, c1, c2⟩ := led_iff.mp h4
                    exact led_iff.mpr ⟨c, c1, hgm S hS c c2⟩
                · obtain ⟨z1, z2⟩ := List.append_eq_nil_iff.mp z
                  rw [et] at hq
                  rcases List.mem_append.mp hq with y | y
                  · exact hgs z1 q y hl b hb hbn
                  · rw [List.mem_singleton.mp y] at hb
                    have : b ∈ g ++ news g bar p.2 := mem_newsB.mpr (.inr ⟨hb, hbn⟩)
                    rw [z2, List.append_nil, hgt, z1, List.append_nil] at this
                    exact this
            · repeat infer_instance
              refine ⟨g, t, _, _, rfl, rfl, trivial, trivial, hgg, hgt, hgm, fun z q hq hl b hb => ?_⟩
              rw [et] at hq
              rcases List.mem_append.mp hq with y | y
              · exact hgs z q y hl b hb
              · rw [List.mem_singleton.mp y] at hl
                rw [z, List.append_nil] at hgt
                rw [← hgt] at hl
                have h4 : led g p = false := h4
                rw [h4] at hl
                cases hl
        · rintro sl st' ⟨g, t, y6, y7, e, e', m6, m7, hgg, hgt, hgm, hgs⟩
          subst e; subst e'
          have hgf := hgg.few
          have hgl : g.length = f.length + t.length := by rw [hgt, List.length_append]
          rw [List.length_map, List.take_length] at hgs
          have hbg : ∀ b ∈ boxes, b ∉ bar → b ∈ g := fun b hb hn => by rw [hgt]; exact List.mem_append_left _ (hbf b hb hn)
          have hsg : (f.length : Int) = (g.length : Nat) → ∀ p ∈ h, led g p = true → ∀ b ∈ p.2, b ∉ bar → b ∈ g := fun z => by
            have ht : t = [] := List.length_eq_zero_iff.mp (by omega)
            have := hgs ht
            rw [ht, List.append_nil] at hgt
            rw [hgt]; exact this
          by_cases hc : f.length = g.length
          · refine ⟨k - 1, by omega, g, _, _, _, rfl, rfl, m6, m7, hgg, hbg, hgm, hsg, by omega, ?_⟩
            rw [if_pos (by omega)]
            omega
          · refine ⟨k - 1, by omega, g, _, _, _, rfl, rfl, m6, m7, hgg, hbg, hgm, hsg, by omega, ?_⟩
            rw [if_neg (by omega)]
            omega
      · repeat infer_instance
        refine wl_lc h.zipIdx (fun q => .tup [.int (q.2 : Nat), vA q.1]) (fun q => q.1.1.any fun b => decide (b ∈ f)) (fun q => .int (q.2 : Nat)) (by cases x6 <;> cases x7 <;> first | rfl | exact n6.elim | exact n7.elim) ?_
        repeat infer_instance
        refine ⟨?_, by rw [List.length_zipIdx]; omega, fun q hq => ?_, ?_⟩
        · have := src_enum (h.map vA)
          rw [List.zipIdx_map, List.map_map] at this
          exact this
        · dsimp only [wipe, List.set]
          have hm : q.1 ∈ h := by
            obtain ⟨i, hi, e⟩ := List.mem_iff_getElem.mp hq
            rw [List.getElem_zipIdx] at e
            rw [← e]
            exact List.getElem_mem _
          have p1 := (hh.s q.1 hm).few
          repeat infer_instance
          refine we_any q.1.1 .int (fun b => decide (b ∈ f)) rfl ?_
          repeat infer_instance
          refine ⟨src_lst _, by omega, fun b hb => ?_, ?_⟩
          · dsimp only [wipe, List.set]
            repeat infer_instance
            exact ⟨rfl, rfl⟩
          · repeat infer_instance
            exact ⟨rfl, rfl, fun _ => we_v rfl ⟨rfl, rfl⟩⟩
        · repeat infer_instance
          have l1 : LeastB h boxes bar f := ⟨⟨hbf, hsh h1.symm⟩, hmin⟩
          have := hQ f
          rw [lF.accs_eq l1] at this
          unfold accs led at this
          simp only [vI, List.map_map] at this
          exact this
theorem lcLoopI {A : Type} {as : List A} {enc : A → Val} {src : Src} (hs : SrcIs src (as.map enc)) {vs : List Nat} {g : G} {t : T} {a : E} {sl : Sl} (Iv : List Val → Nat → Sto → Prop)
    (step : ∀ i x, as[i]? = some x → ∀ acc st, Iv acc i st → WG g (enc x) (wipe sl vs) st fun sl1 => WT t sl1 st fun y st' => y = true ∧ WE a sl1 st' fun v st'' => Iv (acc ++ [v]) (i + 1) st'') :
    ∀ (n i : Nat) (acc : List Val) (st : Sto), i ≤ as.length → as.length ≤ n + i → acc.length ≤ i → as.length ≤ 100000 → Iv acc i st → ∃ acc' st', lcLoop src vs g t a sl n i acc st = some (acc', st') ∧ Iv acc' as.length st'
  | n, i, acc, st, hi, hn, ha, hx, h => by
    unfold lcLoop
    rw [hs.1 st i, List.getElem?_map]
    by_cases hlt : i < as.length
    · rw [List.getElem?_eq_getElem hlt]
      cases n with
      | zero => omega
      | succ n =>
        obtain ⟨sl1, e1, ⟨y, st'⟩, e2, e3, e5⟩ := step i _ (List.getElem?_eq_getElem hlt) acc st h
        have e2 : t sl1 st = some (true, st') := e2.trans (congrArg some (Prod.ext e3 rfl))
        simp only [Option.map_some, e1, e2, Option.bind_some]
        obtain ⟨⟨v, st2⟩, e6, e7⟩ := e5
        have e6 : a sl1 st' = some (v, st2) := e6
        rw [if_pos trivial, e6]
        simp only [Option.bind_some]
        rw [if_pos (by omega)]
        exact lcLoopI hs Iv step n (i + 1) (acc ++ [v]) st2 hlt (by omega) (by simp; omega) hx e7
    · rw [List.getElem?_eq_none (by omega)]
      have : i = as.length := by omega
      subst this
      exact ⟨acc, st, rfl, h⟩
theorem wl_lcI {A : Type} {w : I} {vs : List Nat} {g : G} {t : T} {a : E} {sl : Sl} {st : Sto} {QL : List Val → Sto → Prop} (as : List A) (enc : A → Val) (Iv : List Val → Nat → Sto → Prop) (hn : noOwn sl vs = true)
    (h : WI w sl st fun src st => SrcIs src (as.map enc) ∧ as.length ≤ 100000 ∧ Iv [] 0 st ∧ (∀ i x, as[i]? = some x → ∀ acc st, Iv acc i st → WG g (enc x) (wipe sl vs) st fun sl1 => WT t sl1 st fun y st' => y = true ∧ WE a sl1 st' fun v st'' => Iv (acc ++ [v]) (i + 1) st'') ∧ ∀ acc st, Iv acc as.length st → QL acc st) : WL (lComp w vs g t a) sl st QL := by
  refine wl_lc0 hn (wo_mono h fun y h => ?_)
  obtain ⟨hs, hx, h0, h1, h2⟩ := h
  obtain ⟨acc', st', e, hI⟩ := lcLoopI hs Iv h1 (y.1.len y.2) 0 [] y.2 (Nat.zero_le _) (by have := hs.2 y.2; rw [List.length_map] at this; omega) (Nat.le_refl _) hx h0
  exact ⟨_, e, h2 _ _ hI⟩
/-! bars() -/
theorem grOk {h : List Acc} {boxes : List Int} {p0 : Acc} (hh : HouseOk h) (hb : Good boxes) : GrOk (gAdj h boxes p0) where
  g := gAdj_gr
  ao := fun x hx y hy => gAdj_ok hb hh.o hx hy
  al := fun x => by
    have h1 := hb.few
    cases x with
    | bg => show (boxes.map Nd.inn).length ≤ 100; rw [List.length_map]; omega
    | inn b => exact (by decide : 1 ≤ 100)
    | out b =>
      have h2 := (nextB_good (h := h) (b := b) (f := []) hh.o .nil).few
      show ((nextB h b []).map Nd.inn ++ (if b ∈ p0.1 then [Nd.en] else [])).length ≤ 100
      rw [List.length_append, List.length_map]
      split
      · show _ + 1 ≤ _; omega
      · show _ + 0 ≤ _; omega
    | en => exact (by decide : 0 ≤ 100)
  r := fun x b hx => gAdj_inn hb hh.o hx
/-- told bars at a place: their boxes at b, their ways at w -/
structure BAt (st : Sto) (r b w : Nat) (ws : List Val) (B : List Int) (W : List (List Int)) : Prop where
  hr : st[r]? = some (.ins 6 [.ref b, .ref w])
  hb : st[b]? = some (.lst (B.map .int))
  hw : st[w]? = some (.lst ws)
  hn : ws.length = W.length
  he : ∀ (i : Nat) (x : Val), ws[i]? = some x → ∃ y q, W[i]? = some y ∧ x = .ref q ∧ st[q]? = some (.lst (y.map .int)) ∧ q ≠ b
  rb : r ≠ b
  wb : w ≠ b
theorem BAt.keep {st st' : Sto} {r b w : Nat} {ws : List Val} {B : List Int} {W : List (List Int)} (h : BAt st r b w ws B W) (k : Keep st.length st st') : BAt st' r b w ws B W :=
  ⟨k.at (lt_of_some h.hr) h.hr, k.at (lt_of_some h.hb) h.hb, k.at (lt_of_some h.hw) h.hw, h.hn, fun i x hx => by
    obtain ⟨y, q, h1, h2, h3, h4⟩ := h.he i x hx
    exact ⟨y, q, h1, h2, k.at (lt_of_some h3) h3, h4⟩, h.rb, h.wb⟩
theorem BAt.isI {st : Sto} {r b w : Nat} {ws : List Val} {B : List Int} {W : List (List Int)} (h : BAt st r b w ws B W) : IsI st (.ref b) B := .inr ⟨b, rfl, h.hb⟩
theorem BAt.isW {st : Sto} {r b w : Nat} {ws : List Val} {B : List Int} {W : List (List Int)} (h : BAt st r b w ws B W) : IsW st (.ref w) ws W := ⟨view_refL h.hw, h.hn, fun i x hx => by
  obtain ⟨y, q, h1, h2, h3, _⟩ := h.he i x hx
  exact ⟨y, h1, .inr ⟨q, h2, h3⟩⟩⟩
theorem BAt.set {st : Sto} {r b w : Nat} {ws : List Val} {B B' : List Int} {W : List (List Int)} (h : BAt st r b w ws B W) : BAt (st.set b (.lst (B'.map .int))) r b w ws B' W :=
  ⟨by rw [List.getElem?_set_ne h.rb.symm]; exact h.hr, List.getElem?_set_self (lt_of_some h.hb), by rw [List.getElem?_set_ne h.wb.symm]; exact h.hw, h.hn, fun i x hx => by
    obtain ⟨y, q, h1, h2, h3, h4⟩ := h.he i x hx
    exact ⟨y, q, h1, h2, by rw [List.getElem?_set_ne h4.symm]; exact h3, h4⟩, h.rb, h.wb⟩
theorem w_Bars_init11 {B : List Int} {W : List (List Int)} {st : Sto} {Q : Val → Sto → Prop} (hW : W.length ≤ 1000) (hQ : ∀ st' b w ws, Keep st.length st st' → BAt st' st.length b w ws B W → Q .non st') : WF m_Bars___init__ [.ref st.length, vI B, .lst (W.map vI)] (st ++ [.ins 6 []]) Q := by
  refine wf_fn rfl ?_
  unfold b_Bars___init__
  dsimp only [List.map, List.replicate, Nat.reduceSub]
  rw [show ([Slot.val (.ref st.length), Slot.val (vI B), Slot.val (.lst (W.map vI))] ++ [Slot.no]) = [Slot.val (.ref st.length), Slot.val (vI B), Slot.val (.lst (W.map vI)), Slot.no] from rfl]
  repeat infer_instance
  refine ⟨_, [], rfl, ?_, _, rfl, ?_⟩
  · rw [List.getElem?_append_left (by simp)]
    exact push_at
  refine id ?_
  have e1 : (List.set (α := Cell) ((st ++ [Cell.ins 6 []]) ++ [Cell.lst (B.map .int)]) st.length (Cell.ins 6 ([] ++ [Val.ref (st ++ [Cell.ins 6 []]).length]))) = (st ++ [Cell.ins 6 [Val.ref (st.length + 1)]]) ++ [Cell.lst (B.map .int)] := by
    rw [List.set_append_left _ _ (by simp), push_set]
    simp
  show WS _ _ (List.set (α := Cell) ((st ++ [Cell.ins 6 []]) ++ [Cell.lst (B.map .int)]) st.length (Cell.ins 6 ([] ++ [Val.ref (st ++ [Cell.ins 6 []]).length]))) _ _
  rw [e1]
  have r1 : ((st ++ [Cell.ins 6 [Val.ref (st.length + 1)]]) ++ [Cell.lst (B.map .int)])[st.length]? = some (.ins 6 [.ref (st.length + 1)]) := by
    rw [List.getElem?_append_left (by simp)]
    exact push_at
  have b1 : ((st ++ [Cell.ins 6 [Val.ref (st.length + 1)]]) ++ [Cell.lst (B.map .int)])[st.length + 1]? = some (.lst (B.map .int)) := by
    rw [List.getElem?_append_right (by simp)]
    simp
  have k1 : Keep st.length st ((st ++ [Cell.ins 6 [Val.ref (st.length + 1)]]) ++ [Cell.lst (B.map .int)]) := (Keep.push _ (Nat.le_refl _)).trans (.push _ (by simp))
  have l1 : st.length + 1 < ((st ++ [Cell.ins 6 [Val.ref (st.length + 1)]]) ++ [Cell.lst (B.map .int)]).length := by simp
  generalize ((st ++ [Cell.ins 6 [Val.ref (st.length + 1)]]) ++ [Cell.lst (B.map .int)]) = st1 at r1 b1 k1 l1 ⊢
  refine ws_fld ?_
  refine we_k ?_
  refine wl_lcI W vI (fun acc i st' => Keep st1.length st1 st' ∧ acc.length = i ∧ ∀ (j : Nat) (x : Val), acc[j]? = some x → ∃ y q, W[j]? = some y ∧ x = .ref q ∧ st'[q]? = some (.lst (y.map .int)) ∧ st1.length ≤ q) rfl ?_
  repeat infer_instance
  refine ⟨src_lst _, by omega, ⟨.refl, rfl, fun j x hx => (by cases hx)⟩, ?_, ?_⟩
  · rintro i y hy acc st2 ⟨k2, hal, hacc⟩
    dsimp only [wipe, List.set]
    repeat infer_instance
    refine ⟨rfl, ?_⟩
    repeat infer_instance
    have old : ∀ {r : Nat} {c : Cell}, st2[r]? = some c → (st2 ++ [Cell.lst (y.map .int)])[r]? = some c := fun {r c} z => by rw [List.getElem?_append_left (List.getElem?_eq_some_iff.mp z).1]; exact z
    refine ⟨k2.trans (.push _ k2.2), by rw [List.length_append, hal]; rfl, fun j x hx => ?_⟩
    by_cases hj : j < acc.length
    · rw [List.getElem?_append_left hj] at hx
      obtain ⟨y', q, e1, e2, e3, e4⟩ := hacc j x hx
      exact ⟨y', q, e1, e2, old e3, e4⟩
    · rw [List.getElem?_append_right (by omega)] at hx
      have hj0 : j - acc.length = 0 := by
        cases hz : j - acc.length with
        | zero => rfl
        | succ n => rw [hz] at hx; cases hx
      rw [hj0] at hx
      cases hx
      have : j = i := by omega
      subst this
      exact ⟨y, st2.length, hy, rfl, push_at, k2.2⟩
  · rintro acc st2 ⟨k2, hal, hacc⟩
    have r2 := k2.at (by omega) r1
    have b2 := k2.at l1 b1
    have l2 := k2.2
    repeat infer_instance
    refine ⟨_, [.ref (st.length + 1)], rfl, ?_, _, rfl, ?_⟩
    · rw [List.getElem?_append_left (by omega)]
      exact r2
    have ks : Keep st.length st (List.set (α := Cell) (st2 ++ [Cell.lst acc]) st.length (Cell.ins 6 ([Val.ref (st.length + 1)] ++ [Val.ref st2.length]))) := ((k1.trans (k2.less k1.2)).trans (.push _ (by omega))).trans (.set (Nat.le_refl _))
    refine hQ _ (st.length + 1) st2.length acc ks ⟨?_, ?_, ?_, hal, fun i x hx => ?_, by omega, by omega⟩
    · exact List.getElem?_set_self (by rw [List.length_append]; omega)
    · rw [List.getElem?_set_ne (by omega), List.getElem?_append_left (by omega)]
      exact b2
    · rw [List.getElem?_set_ne (by omega)]
      exact push_at
    · obtain ⟨y, q, e1, e2, e3, e4⟩ := hacc i x hx
      exact ⟨y, q, e1, e2, by rw [List.getElem?_set_ne (by omega), List.getElem?_append_left (lt_of_some e3)]; exact e3, by omega⟩
theorem w_bars {h : List Acc} {boxes : List Int} {a : Int} {p0 : Acc} {st : Sto} {Q : Val → Sto → Prop} (hh : HouseOk h) (hb : Good boxes) (hbr : boxes.Pairwise (· < ·)) (h0 : 0 ≤ a) (hp0 : h[a.toNat]? = some p0)
    (hQ : ∀ st' r b w ws B W, Keep st.length st st' → st.length ≤ r → BAt st' r b w ws B W → BarsK h boxes p0 B W → Q (.ref r) st') : WF m_bars [vH h, vI boxes, .int a] st Q := by
  refine wf_fn rfl ?_
  unfold b_bars
  dsimp only [List.map, List.replicate, List.append, HAppend.hAppend, Append.append, Nat.reduceSub]
  have h1 : a < (h.length : Nat) := by
    have := (List.getElem?_eq_some_iff.mp hp0).1
    omega
  have hpm := List.mem_of_getElem? hp0
  repeat infer_instance
  refine w_check_house hh ?_
  repeat infer_instance
  refine w_check_boxes hb hbr ?_
  repeat infer_instance
  refine w_check_wanted h0 h1 ?_
  repeat infer_instance
  refine w_edges_of hh hb h0 hp0 fun st1 kp1 ea => ?_
  repeat infer_instance
  refine w_used_edges ea (grOk hh hb) fun st2 n u K kp2 f mk hen hul hd => ?_
  have bk := BarsK.of hh.o hb (hh.s p0 hpm).2 f mk hen
  have kp : Keep st.length st st2 := kp1.trans (kp2.less kp1.2)
  have go := grOk (p0 := p0) hh hb
  repeat infer_instance
  refine wl_lc ((List.range 8).map fun j => ((j : Nat) : Int)) .int (fun b => decide (.inn b ∈ K.map (·.1)) && !decide (.out b ∈ K.map (·.1))) .int rfl ?_
  repeat infer_instance
  refine ⟨by decide, ?_, by decide, fun b hb => ?_, ?_⟩
  · have := src_rng 0 8
    rw [List.map_map]
    have e : (Val.int ∘ fun j : Nat => ((j : Nat) : Int)) = fun i : Nat => Val.int (0 + (i : Nat)) := by
      funext i
      show Val.int (i : Nat) = _
      rw [Int.zero_add]
    rw [e]
    exact this
  · dsimp only [wipe, List.set]
    repeat infer_instance
    refine wo_tin (K := kvP K) (x := .inn b) hd ?_
    rw [kvP_keys]
    repeat infer_instance
    refine if_dec (fun h5 => ?_) (fun h5 => ?_)
    · repeat infer_instance
      refine wo_tnin (K := kvP K) (x := .out b) hd ?_
      rw [kvP_keys]
      exact ⟨_, rfl, by rw [decide_eq_true h5]; rfl, rfl, fun _ => we_v rfl ⟨rfl, rfl⟩⟩
    · exact ⟨by rw [decide_eq_false h5]; rfl, rfl, fun z => by rw [decide_eq_false h5] at z; cases z⟩
  obtain ⟨B, hB⟩ : ∃ B, B = between (K.map (·.1)) := ⟨_, rfl⟩
  have eB : ((((List.range 8).map fun j => ((j : Nat) : Int)).filter fun b => decide (.inn b ∈ K.map (·.1)) && !decide (.out b ∈ K.map (·.1))).map Val.int) = B.map .int := by rw [hB]; rfl
  rw [eB]
  repeat infer_instance
  refine wl_lc u vPr (fun p => decide (p.1 = .bg)) (fun p => .int (nB p.2)) rfl ?_
  repeat infer_instance
  refine ⟨src_lst _, by omega, fun p hp => ?_, ?_⟩
  · dsimp only [wipe, List.set]
    unfold vPr
    repeat infer_instance
    refine wo_eqNd (y := .bg) ?_
    refine ⟨_, rfl, rfl, rfl, fun _ => ?_⟩
    repeat infer_instance
    exact wo_nB ⟨rfl, rfl⟩
  have eF : (u.filter fun p => decide (p.1 = .bg)).map (fun p => Val.int (nB p.2)) = (firsts u).map .int := by
    rw [firsts_eq go.g f, List.map_map]; rfl
  rw [eF]
  rw [← hB] at bk
  have hBl := bk.g.few
  have hWl := bk.n
  rw [List.length_map] at hWl
  repeat infer_instance
  refine wl_lc (sortI (firsts u)) .int (fun _ => true) (fun s => vI (wayOn u s)) rfl ?_
  repeat infer_instance
  refine ⟨src_lst _, by omega, fun s hs => ?_, ?_⟩
  · dsimp only [wipe, List.set]
    repeat infer_instance
    refine ⟨rfl, rfl, fun _ => ?_⟩
    repeat infer_instance
    refine w_led_on go f hul ((mem_firsts go.g f).mp ((sortI_perm _).mem_iff.mp hs)) ?_
    exact ⟨rfl, rfl⟩
  rw [List.filter_eq_self.mpr fun _ _ => rfl]
  have eW : (sortI (firsts u)).map (fun s => vI (wayOn u s)) = ((sortI (firsts u)).map (wayOn u)).map vI := by rw [List.map_map]; rfl
  rw [eW]
  repeat infer_instance
  refine w_Bars_init11 (by rw [List.length_map]; omega) fun st3 b w ws k3 ba => ⟨rfl, ?_⟩
  exact hQ _ _ b w ws B _ (kp.trans (k3.less kp.2)) kp.2 ba bk
theorem w_many_bars {h : List Acc} {boxes : List Int} {a : Int} {p0 : Acc} {st : Sto} {Q : Val → Sto → Prop} (hh : HouseOk h) (hb : Good boxes) (hbr : boxes.Pairwise (· < ·)) (h0 : 0 ≤ a) (hp0 : h[a.toNat]? = some p0)
    (hQ : ∀ st' B W, Keep st.length st st' → BarsK h boxes p0 B W → Q (.int (B.length : Nat)) st') : WF m_many_bars [vH h, vI boxes, .int a] st Q := by
  refine wf_fn rfl ?_
  unfold b_many_bars
  dsimp only [List.map, List.replicate, List.append, HAppend.hAppend, Append.append, Nat.reduceSub]
  repeat infer_instance
  refine w_bars hh hb hbr h0 hp0 fun st' r b w ws B W kp hr ba bk => ?_
  repeat infer_instance
  refine wo_fld ba.hr rfl ?_
  refine wo_lenX ba.isI.vL ?_
  rw [List.length_map]
  repeat infer_instance
  exact hQ st' B W kp bk
/-! whether boxes bar and as many ways share none: the law's own word -/
theorem atI_first {w : List Int} {b : Int} {r : List Int} (e : w = b :: r) : atI (w.map Val.int) 0 = some (.int b) := atI_nat (k := 0) (by rw [e]; rfl)
theorem atI_last {w : List Int} {c : Int} (e : w.getLast? = some c) : atI (w.map Val.int) (-1) = some (.int c) := by
  have hw : w ≠ [] := fun z => by rw [z] at e; cases e
  have hl : 0 < w.length := List.length_pos_iff.mpr hw
  refine atI_neg1 (by rw [List.length_map]; exact hl) ?_
  rw [List.length_map, List.getElem?_map, ← List.getLast?_eq_getElem?, e]; rfl
theorem last_of {w : List Int} (hw : w ≠ []) : ∃ c, w.getLast? = some c := ⟨w.getLast hw, List.getLast?_eq_some_getLast hw⟩
theorem isB_eq {h : List Acc} {boxes : List Int} {p0 : Acc} {w r : List Int} {b c : Int} (e : w = b :: r) (e2 : w.getLast? = some c) : isB h boxes p0 w = (decide (b ∈ boxes) && (decide (c ∈ p0.1) && linkB h w)) := by
  unfold isB
  rw [e2, decide_eq_false (by rw [e]; exact List.cons_ne_nil _ _), e]; rfl
theorem wo_addXX {st : Sto} {bv wv : Val} {ws : List Val} {W : List (List Int)} {Q : Val → Prop} (hW : IsW st wv ws W) (hv : (∃ xs, wv = .lst xs) ∨ ∃ r, wv = .ref r) (hl : ws.length ≤ 1000) (h : Q (.lst (bv :: ws))) : WO (oAdd st (.lst [bv]) wv) Q := by
  have hq : viewQ st wv = some ws := by
    rcases hv with ⟨xs, e⟩ | ⟨r, e⟩
    · have := hW.v
      rw [e] at this ⊢
      exact this
    · have := hW.v
      rw [e] at this ⊢
      exact this
  refine ⟨.lst (bv :: ws), ?_, h⟩
  rcases hv with ⟨xs, e⟩ | ⟨r, e⟩
  · subst e
    show (viewQ st (.lst [bv])).bind (fun xs' => (viewQ st (.lst xs)).bind fun ys => if xs'.length + ys.length ≤ 100000 then some (Val.lst (xs' ++ ys)) else none) = _
    rw [hq]
    exact if_pos (by show 1 + ws.length ≤ _; omega)
  · subst e
    show (viewQ st (.lst [bv])).bind (fun xs' => (viewQ st (.ref r)).bind fun ys => if xs'.length + ys.length ≤ 100000 then some (Val.lst (xs' ++ ys)) else none) = _
    rw [hq]
    exact if_pos (by show 1 + ws.length ≤ _; omega)
theorem we_anyA {w : I} {g : G} {a : E} {sl : Sl} {st : Sto} {Q : Val → Sto → Prop} {vs : List Nat} {A : Type} (as : List A) (enc : A → Val) (ff : A → Bool) (hn : noOwn sl vs = true)
    (h : WI w sl st fun src st => SrcAt st src (as.map enc) ∧ as.length ≤ 100000 ∧ (∀ x, x ∈ as → WG g (enc x) (wipe sl vs) st fun sl1 => WE a sl1 st fun v st' => v = .bl (ff x) ∧ st' = st) ∧ Q (.bl (as.any ff)) st) :
    WE (eAny (lComp w vs g tTrue a)) sl st Q := wo_bind (wo_mono (wl_lcA (QL := fun xs st => xs = (as.filter fun _ => true).map (fun x => .bl (ff x)) ∧ Q (.bl (as.any ff)) st) as enc (fun _ => true) (fun x => .bl (ff x)) hn (wo_mono h fun y h => ⟨h.1, h.2.1, fun x hx => wo_mono (h.2.2.1 x hx) fun sl1 h => wo_some ⟨rfl, rfl, fun _ => h⟩, rfl, h.2.2.2⟩)) fun y h => by
    rw [h.1, List.filter_eq_self.mpr fun _ _ => rfl, allBl_map]
    exact wo_some (by simpa using h.2))
theorem w_are_bars {h : List Acc} {boxes B F : List Int} {W : List (List Int)} {a : Int} {p0 : Acc} {bv wv : Val} {ws : List Val} {st : Sto} {Q : Val → Sto → Prop} (hh : HouseOk h) (hb : Good boxes) (h0 : 0 ≤ a) (hp0 : h[a.toNat]? = some p0) (hB : IsI st bv B) (hW : IsW st wv ws W) (hv : (∃ xs, wv = .lst xs) ∨ ∃ r, wv = .ref r) (lw : W.length < 64) (lB : B.length < 64) (lf : W.flatten.length < 64) (l : LeastB h boxes B F) (hQ : Q (.bl (areB h boxes p0 B W F)) st) : WF m__law_are_bars [vH h, vI boxes, .int a, bv, wv] st Q := by
  refine wf_fn rfl ?_
  unfold b__law_are_bars
  dsimp only [List.map, List.replicate, List.append, HAppend.hAppend, Append.append, Nat.reduceSub]
  have h6 := hh.six
  have hbf := hb.few
  refine ws_seq ?_
  refine ws_for (fun i sl st' => ∃ x5, sl = [.val (vH h), .val (vI boxes), .val (.int a), .val bv, .val wv, x5, .no, .no, .no, .no, .no, .no] ∧ st = st') ?_
  repeat infer_instance
  refine wo_addXX hW hv (by rw [hW.n]; omega) ?_
  repeat infer_instance
  refine ⟨_, src_lst _, ⟨_, rfl, rfl⟩, ?_, ?_⟩
  · rintro i x hx sl st' ⟨x5, e, e'⟩
    subst e; subst e'
    obtain ⟨ns, ix, il⟩ : ∃ ns, IsI st x ns ∧ ns.length < 64 := by
      cases i with
      | zero => cases hx; exact ⟨B, hB, lB⟩
      | succ i =>
        obtain ⟨w, hw, iw⟩ := hW.e i x hx
        have := flat_len hw
        exact ⟨w, iw, by omega⟩
    repeat infer_instance
    refine we_anyA ns .int (fun _ => false) rfl ?_
    refine wi_seqX ?_
    repeat infer_instance
    refine ⟨_, ix.vL, src_seqX ix.vL, by omega, fun y hy => ?_, ?_⟩
    · dsimp only [wipe, List.set]
      repeat infer_instance
      refine wo_some ?_
      repeat infer_instance
      rw [if_neg (show ¬ isiT 0 1 = true by decide)]
      repeat infer_instance
      refine wo_some ?_
      exact ⟨_, rfl, rfl, rfl⟩
    rw [show (ns.any fun _ => false) = false from List.any_eq_false.mpr fun _ _ => Bool.false_ne_true]
    repeat infer_instance
    rfl
  rintro sl st' ⟨x5, e, e'⟩
  subst e; subst e'
  repeat infer_instance
  refine ws_forR (fun i sl st' => ∃ x6 x7 x8, sl = [.val (vH h), .val (vI boxes), .val (.int a), .val bv, .val wv, x5, x7, .val (vI (W.take i).flatten), x6, x8, .no, .no] ∧ st = st' ∧ (W.take i).all (isB h boxes p0) = true) ?_
  refine wi_seqX ?_
  repeat infer_instance
  refine ⟨ws, hW.v, ws, (src_seqX hW.v).2, ?_, ⟨_, _, _, rfl, rfl, rfl⟩, ?_, ?_⟩
  · rintro i sl st' ⟨x6, x7, x8, e, e', _⟩
    subst e'
    exact (src_seqX hW.v).1
  · rintro i x hx sl st' ⟨x6, x7, x8, e, e', al⟩
    subst e; subst e'
    obtain ⟨w, hw, ix⟩ := hW.e i x hx
    have hwm := List.mem_of_getElem? hw
    have fl := flat_len hw
    have no : isB h boxes p0 w = false → Q (.bl false) st := fun z => by rw [← areB_no (B := B) (F := F) hwm z]; exact hQ
    repeat infer_instance
    refine wo_addX ix (by omega) ?_
    rw [← flat_take hw]
    repeat infer_instance
    refine wo_eqX (ms := []) ix (.inl rfl) ?_
    repeat infer_instance
    refine if_dec (fun he => ?_) (fun he => ?_)
    · repeat infer_instance
      exact no (by rw [he]; rfl)
    · obtain ⟨c, hc⟩ := last_of he
      obtain ⟨b, r, hbr⟩ := List.exists_cons_of_ne_nil he
      have eb := isB_eq (h := h) (boxes := boxes) (p0 := p0) hbr hc
      rw [eb] at no
      repeat infer_instance
      refine ⟨.int b, by rw [ix.ix]; exact atI_first hbr, ?_⟩
      repeat infer_instance
      refine if_ndec (fun h1 => ?_) (fun h1 => ?_)
      · repeat infer_instance
        exact no (by rw [decide_eq_false h1]; rfl)
      · repeat infer_instance
        refine ⟨.int c, by rw [ix.ix]; exact atI_last hc, ?_⟩
        repeat infer_instance
        refine wo_ixH h0 hp0 ?_
        repeat infer_instance
        refine if_ndec (fun h2 => ?_) (fun h2 => ?_)
        · repeat infer_instance
          exact no (by rw [decide_eq_false h2, Bool.false_and, Bool.and_false])
        · rw [decide_eq_true h1, decide_eq_true h2] at no eb
          have no : linkB h w = false → Q (.bl false) st := fun z => no (by rw [z]; rfl)
          repeat infer_instance
          refine ws_forR (fun j sl st' => ∃ x7 x8, sl = [.val (vH h), .val (vI boxes), .val (.int a), .val bv, .val wv, x5, x7, .val (vI (W.take (i + 1)).flatten), .val x, x8, .no, .no] ∧ st = st' ∧ ((w.zip (w.drop 1)).take j).all (fun q => h.any fun p => decide (q.1 ∈ p.1) && decide (q.2 ∈ p.2)) = true) ?_
          refine wi_zipX ?_
          repeat infer_instance
          refine we_slI ?_
          repeat infer_instance
          have ecut : cut w (some 1) none = w.drop 1 := by
            have := cut_drop1 w
            rw [cut_map] at this
            exact (List.map_inj_right (f := Val.int) (by intro a b e; cases e; rfl)).mp this
          refine ⟨w, ix, w, w.drop 1, ix, ?_, ?_⟩
          · rw [ecut]; exact .val
          rw [ecut]
          have sz := src_zipX (st := st) (w := vI (w.drop 1)) (ms := w.drop 1) ix .val
          refine ⟨(w.zip (w.drop 1)).map vP, sz.2, ?_, ⟨_, _, rfl, rfl, rfl⟩, ?_, ?_⟩
          · rintro j sl st' ⟨x7, x8, e, e', _⟩
            subst e'
            exact sz.1
          · rintro j y hy sl st' ⟨x7, x8, e, e', al2⟩
            subst e; subst e'
            obtain ⟨q, e, h3, hm⟩ := map_at hy
            subst e
            unfold vP
            repeat infer_instance
            refine we_any h vA (fun p => decide (q.1 ∈ p.1) && decide (q.2 ∈ p.2)) rfl ?_
            repeat infer_instance
            refine ⟨src_lst _, by omega, fun p hp => ?_, ?_⟩
            · dsimp only [wipe, List.set]
              repeat infer_instance
              refine if_dec (fun h5 => ?_) (fun h5 => ?_)
              · repeat infer_instance
                exact ⟨by rw [decide_eq_true h5]; rfl, rfl⟩
              · exact ⟨by rw [decide_eq_false h5]; rfl, rfl⟩
            repeat infer_instance
            refine if_nb (fun h4 => ?_) (fun h4 => ?_)
            · repeat infer_instance
              exact no (by unfold linkB; exact all_no hm h4)
            · repeat infer_instance
              exact ⟨_, _, rfl, rfl, take_all h3 al2 h4⟩
          · rintro sl st' ⟨x7, x8, e, e', al2⟩
            subst e; subst e'
            rw [List.length_map, List.take_length] at al2
            refine ⟨_, _, _, rfl, rfl, take_all hw al ?_⟩
            rw [eb]
            show (true && (true && linkB h w)) = true
            unfold linkB
            rw [al2]; rfl
  · rintro sl st' ⟨x6, x7, x8, e, e', al⟩
    subst e; subst e'
    rw [hW.n, List.take_length] at al ⊢
    have ea : areB h boxes p0 B W F = (decide W.flatten.Nodup && (decide (B.Pairwise (· < ·)) && (decide (B.length = W.length) && !led F p0))) := by
      unfold areB
      rw [al, Bool.true_and]
    rw [ea] at hQ
    have hsl := sortU_len W.flatten
    repeat infer_instance
    refine wo_lenUX .val lf ?_
    repeat infer_instance
    refine if_ndec (fun h1 => ?_) (fun h1 => ?_)
    · repeat infer_instance
      rw [decide_eq_false fun z => h1 (by have := nodup_len.mpr z; omega)] at hQ
      exact hQ
    · rw [decide_eq_true (nodup_len.mp (by omega))] at hQ
      repeat infer_instance
      refine wo_sortUX hB lB ?_
      refine wo_neX hB (ms := sortU B) (.inl rfl) ?_
      repeat infer_instance
      refine if_ndec (fun h2 => ?_) (fun h2 => ?_)
      · repeat infer_instance
        rw [decide_eq_false fun z => h2 (rising_iff.mpr z)] at hQ
        exact hQ
      · rw [decide_eq_true (rising_iff.mp h2)] at hQ
        repeat infer_instance
        refine wo_lenX hB.vL ?_
        repeat infer_instance
        refine wo_lenX hW.v ?_
        rw [List.length_map, hW.n]
        repeat infer_instance
        refine if_ndec (fun h3 => ?_) (fun h3 => ?_)
        · repeat infer_instance
          rw [decide_eq_false fun z => h3 (by omega)] at hQ
          exact hQ
        · rw [decide_eq_true (show B.length = W.length by omega)] at hQ
          repeat infer_instance
          refine w_comeB hh hb hB l fun F' => ?_
          repeat infer_instance
          refine wo_ixT rfl ?_
          repeat infer_instance
          have : (!decide (a ∈ accs h F)) = (true && (true && (true && !led F p0))) := by
            rw [show decide (a ∈ accs h F) = led F p0 from by
              rw [Bool.eq_iff_iff, decide_eq_true_iff, mem_accs_at h0 hp0]]; rfl
          rw [this]
          exact hQ
/-! the program's search, with boxes that are barred -/
theorem w_come_toB {h : List Acc} {boxes bar F : List Int} {bv : Val} {st : Sto} {Q : Val → Sto → Prop} (hh : HouseOk h) (hb : Good boxes) (hbar : IsI st bv bar) (lF : LeastB h boxes bar F) (hQ : ∀ f way : List Int, (∀ x, x ∈ way ↔ x ∈ accs h F) → Q (.tup [vI (sortI f), vI way]) st) : WF m_come_to [vH h, vI boxes, bv] st Q := by
  refine wf_fn rfl ?_
  unfold b_come_to
  dsimp only [List.map, List.replicate, List.append, HAppend.hAppend, Append.append, Nat.reduceSub]
  have h6 := hh.six
  have hbf := hb.few
  refine ws_seq (ws_parvo ?_)
  refine we_d (wl_lc boxes .int (fun b => !decide (b ∈ bar)) .int rfl ?_)
  repeat infer_instance
  refine ⟨src_lst _, by omega, fun b hb => ?_, ?_⟩
  · dsimp only [wipe, List.set]
    repeat infer_instance
    refine wo_ninX hbar ?_
    repeat infer_instance
    exact ⟨rfl, rfl, fun _ => we_v rfl ⟨rfl, rfl⟩⟩
  repeat infer_instance
  refine ws_while (fun k sl st' => ∃ (f way : List Int) (more : Bool) (x7 x8 x9 : Slot), sl = [.val (vH h), .val (vI boxes), .val bv, .val (vI f), .own (way.map .int), .no, .val (.bl more), x7, x8, x9] ∧ st = st' ∧ MetB h boxes bar f way ∧ (more = false → Done h f way h.length) ∧ h.length + (if more then 1 else 0) ≤ way.length + k) 7 (by decide) ?_ ?_
  · exact ⟨_, [], true, _, _, _, rfl, rfl, .first hb, fun z => (by cases z), by rw [if_pos rfl]; show h.length + 1 ≤ 0 + 7; omega⟩
  · rintro k sl st' ⟨f, way, more, x7, x8, x9, e, e', mt, dn, hk⟩
    subst e; subst e'
    cases more with
    | false =>
      repeat infer_instance
      have l1 := mt.least (dn rfl)
      exact hQ f way fun x => by rw [mt.accs (dn rfl) x, lF.accs_eq l1]
    | true =>
      have hk : h.length + 1 ≤ way.length + k := hk
      have hwl : way.length ≤ h.length := few (n := h.length) mt.nd mt.inh
      repeat infer_instance
      refine ws_for (fun i sl st' => ∃ (f' way' : List Int) (more' : Bool) (x7 x8 x9 : Slot), sl = [.val (vH h), .val (vI boxes), .val bv, .val (vI f'), .own (way'.map .int), .no, .val (.bl more'), x7, x8, x9] ∧ st = st' ∧ MetB h boxes bar f' way' ∧ way.length + (if more' then 1 else 0) ≤ way'.length ∧ (more' = false → f' = f ∧ way' = way ∧ Done h f way i)) ?_
      repeat infer_instance
      refine ⟨_, src_enum _, ⟨f, way, false, _, _, _, rfl, rfl, mt, Nat.le_refl _, fun _ => ⟨rfl, rfl, fun i p hi => by omega⟩⟩, ?_, ?_⟩
      · rintro i x hx sl st' ⟨f', way', more', y7, y8, y9, e, e', mt', hw, same⟩
        subst e; subst e'
        obtain ⟨p, hp, e⟩ := enum_at hx
        subst e
        have hpm := List.mem_of_getElem? hp
        have p1 := (hh.s p hpm).few
        have p2 := (hh.o p hpm).few
        have hgf := mt'.good.few
        have hwl' : way'.length ≤ h.length := few (n := h.length) mt'.nd mt'.inh
        repeat infer_instance
        have stay : (((i : Nat) : Int) ∈ way' ∨ led f' p = false) → ∃ (f'' way'' : List Int) (more'' : Bool) (x7 x8 x9 : Slot), [Slot.val (vH h), .val (vI boxes), .val bv, .val (vI f'), .own (way'.map .int), .no, .val (.bl more'), .val (.int (i : Nat)), .val (vI p.1), .val (vI p.2)] = [.val (vH h), .val (vI boxes), .val bv, .val (vI f''), .own (way''.map .int), .no, .val (.bl more''), x7, x8, x9] ∧ st = st ∧ MetB h boxes bar f'' way'' ∧ way.length + (if more'' then 1 else 0) ≤ way''.length ∧ (more'' = false → f'' = f ∧ way'' = way ∧ Done h f way (i + 1)) := fun hor =>
          ⟨f', way', more', _, _, _, rfl, rfl, mt', hw, fun z => by
            obtain ⟨e1, e2, d⟩ := same z
            refine ⟨e1, e2, fun j q hj hq => ?_⟩
            by_cases e : j = i
            · subst e
              rw [hp] at hq
              cases hq
              rw [← e1, ← e2]; exact hor
            · exact d j q (by omega) hq⟩
        refine if_ndec (fun h1 => ?_) (fun h1 => ?_)
        · repeat infer_instance
          refine we_any p.1 .int (fun b => decide (b ∈ f')) rfl ?_
          repeat infer_instance
          refine ⟨src_lst _, by omega, fun b hb => ?_, ?_⟩
          · dsimp only [wipe, List.set]
            repeat infer_instance
            exact ⟨rfl, rfl⟩
          repeat infer_instance
          refine if_b (fun h2 => ?_) (fun h2 => ?_)
          · repeat infer_instance
            refine ⟨by rw [List.length_map]; omega, ?_⟩
            repeat infer_instance
            refine wl_lc p.2 .int (fun b => !decide (b ∈ f') && !decide (b ∈ bar)) .int rfl ?_
            repeat infer_instance
            refine ⟨src_lst _, by omega, fun b hb => ?_, ?_⟩
            · dsimp only [wipe, List.set]
              repeat infer_instance
              refine if_ndec (fun h5 => ?_) (fun h5 => ?_)
              · repeat infer_instance
                refine wo_ninX hbar ?_
                repeat infer_instance
                exact ⟨by rw [decide_eq_false h5]; rfl, rfl, fun _ => we_v rfl ⟨rfl, rfl⟩⟩
              · exact ⟨by rw [decide_eq_true h5]; rfl, rfl, fun _ => we_v rfl ⟨rfl, rfl⟩⟩
            have mt2 := mt'.more hp (hh.o p hpm) h2 h1
            have hgl := mt2.good.few
            rw [List.length_append] at hgl
            repeat infer_instance
            refine wo_addI (ms := news f' bar p.2) (by omega) ?_
            repeat infer_instance
            refine ⟨f' ++ news f' bar p.2, way' ++ [((i : Nat) : Int)], true, _, _, _, by rw [List.map_append]; rfl, rfl, mt2, ?_, fun z => by cases z⟩
            rw [if_pos rfl, List.length_append]
            have : way.length ≤ way'.length := by omega
            show way.length + 1 ≤ way'.length + 1
            omega
          · repeat infer_instance
            exact stay (.inr h2)
        · repeat infer_instance
          exact stay (.inl h1)
      · rintro sl st' ⟨f', way', more', y7, y8, y9, e, e', mt', hw, same⟩
        subst e; subst e'
        rw [List.length_map, List.length_zipIdx, List.length_map] at same
        refine ⟨k - 1, by omega, f', way', more', _, _, _, rfl, rfl, mt', fun z => ?_, ?_⟩
        · obtain ⟨e1, e2, d⟩ := same z
          rw [e1, e2]; exact d
        · cases more' with
          | true =>
            have hw : way.length + 1 ≤ way'.length := hw
            rw [if_pos rfl]
            omega
          | false =>
            have hw : way.length + 0 ≤ way'.length := hw
            show h.length + 0 ≤ way'.length + (k - 1)
            omega
/-! whether told bars show what they tell: the program's words -/
theorem IsI.push {st : Sto} {v : Val} {ns : List Int} {cs : List Cell} (h : IsI st v ns) : IsI (st ++ cs) v ns := h.imp id fun ⟨r, e, z⟩ => ⟨r, e, by rw [List.getElem?_append_left (List.getElem?_eq_some_iff.mp z).1]; exact z⟩
theorem w_is_way {h : List Acc} {boxes w : List Int} {a : Int} {p0 : Acc} {v : Val} {st : Sto} {Q : Val → Sto → Prop} (hh : HouseOk h) (hb : Good boxes) (h0 : 0 ≤ a) (hp0 : h[a.toNat]? = some p0) (ix : IsI st v w) (hQ : Q (.bl (isB h boxes p0 w)) st) : WF m_is_way [vH h, vI boxes, .int a, v] st Q := by
  refine wf_fn rfl ?_
  unfold b_is_way
  dsimp only [List.map, List.replicate, List.append, HAppend.hAppend, Append.append, Nat.reduceSub]
  have h6 := hh.six
  have no : isB h boxes p0 w = false → Q (.bl false) st := fun z => by rw [← z]; exact hQ
  repeat infer_instance
  refine wo_eqX (ms := []) ix (.inl rfl) ?_
  repeat infer_instance
  refine if_dec (fun he => ?_) (fun he => ?_)
  · repeat infer_instance
    exact no (by rw [he]; rfl)
  · obtain ⟨c, hc⟩ := last_of he
    obtain ⟨b, r, hbr⟩ := List.exists_cons_of_ne_nil he
    have eb := isB_eq (h := h) (boxes := boxes) (p0 := p0) hbr hc
    rw [eb] at no
    repeat infer_instance
    refine ⟨.int b, by rw [ix.ix]; exact atI_first hbr, ?_⟩
    repeat infer_instance
    refine if_ndec (fun h1 => ?_) (fun h1 => ?_)
    · repeat infer_instance
      exact no (by rw [decide_eq_false h1]; rfl)
    · repeat infer_instance
      refine ⟨.int c, by rw [ix.ix]; exact atI_last hc, ?_⟩
      repeat infer_instance
      refine wo_ixH h0 hp0 ?_
      repeat infer_instance
      refine if_ndec (fun h2 => ?_) (fun h2 => ?_)
      · repeat infer_instance
        exact no (by rw [decide_eq_false h2, Bool.false_and, Bool.and_false])
      · rw [decide_eq_true h1, decide_eq_true h2] at no eb
        have no : linkB h w = false → Q (.bl false) st := fun z => no (by rw [z]; rfl)
        repeat infer_instance
        refine ws_forR (fun j sl st' => ∃ x4 x5, sl = [.val (vH h), .val (vI boxes), .val (.int a), .val v, x4, x5, .no, .no] ∧ st = st' ∧ ((w.zip (w.drop 1)).take j).all (fun q => h.any fun p => decide (q.1 ∈ p.1) && decide (q.2 ∈ p.2)) = true) ?_
        refine wi_zipX ?_
        repeat infer_instance
        refine we_slI ?_
        repeat infer_instance
        have ecut : cut w (some 1) none = w.drop 1 := by
          have := cut_drop1 w
          rw [cut_map] at this
          exact (List.map_inj_right (f := Val.int) (by intro a b e; cases e; rfl)).mp this
        refine ⟨w, ix, w, w.drop 1, ix, ?_, ?_⟩
        · rw [ecut]; exact .val
        rw [ecut]
        have sz := src_zipX (st := st) (w := vI (w.drop 1)) (ms := w.drop 1) ix .val
        refine ⟨(w.zip (w.drop 1)).map vP, sz.2, ?_, ⟨_, _, rfl, rfl, rfl⟩, ?_, ?_⟩
        · rintro j sl st' ⟨x4, x5, e, e', _⟩
          subst e'
          exact sz.1
        · rintro j y hy sl st' ⟨x4, x5, e, e', al2⟩
          subst e; subst e'
          obtain ⟨q, e, h3, hm⟩ := map_at hy
          subst e
          unfold vP
          repeat infer_instance
          refine we_any h vA (fun p => decide (q.1 ∈ p.1) && decide (q.2 ∈ p.2)) rfl ?_
          repeat infer_instance
          refine ⟨src_lst _, by omega, fun p hp => ?_, ?_⟩
          · dsimp only [wipe, List.set]
            repeat infer_instance
            refine if_dec (fun h5 => ?_) (fun h5 => ?_)
            · repeat infer_instance
              exact ⟨by rw [decide_eq_true h5]; rfl, rfl⟩
            · exact ⟨by rw [decide_eq_false h5]; rfl, rfl⟩
          repeat infer_instance
          refine if_nb (fun h4 => ?_) (fun h4 => ?_)
          · repeat infer_instance
            exact no (by unfold linkB; exact all_no hm h4)
          · repeat infer_instance
            exact ⟨_, _, rfl, rfl, take_all h3 al2 h4⟩
        · rintro sl st' ⟨x4, x5, e, e', al2⟩
          subst e; subst e'
          rw [List.length_map, List.take_length] at al2
          have el : linkB h w = true := al2
          rw [eb, el] at hQ
          repeat infer_instance
          exact hQ
theorem w_Bars_shows {h : List Acc} {boxes B F : List Int} {W : List (List Int)} {a : Int} {p0 : Acc} {r : Nat} {bv wv : Val} {ws : List Val} {st : Sto} {Q : Val → Sto → Prop} (hr : st[r]? = some (.ins 6 [bv, wv])) (hh : HouseOk h) (hb : Good boxes) (h0 : 0 ≤ a) (hp0 : h[a.toNat]? = some p0) (hB : IsI st bv B) (hW : IsW st wv ws W) (lB : B.length < 64) (lf : W.flatten.length < 64) (l : LeastB h boxes B F) (hQ : Q (.bl (areB h boxes p0 B W F)) st) : WF m_Bars_shows [.ref r, vH h, vI boxes, .int a] st Q := by
  refine wf_fn rfl ?_
  unfold b_Bars_shows
  dsimp only [List.map, List.replicate, List.append, HAppend.hAppend, Append.append, Nat.reduceSub]
  have h6 := hh.six
  have hbf := hb.few
  repeat infer_instance
  refine ws_forR (fun i sl st' => ∃ x5, sl = [.val (.ref r), .val (vH h), .val (vI boxes), .val (.int a), .val (vI (W.take i).flatten), x5] ∧ st = st' ∧ (W.take i).all (isB h boxes p0) = true) ?_
  refine wi_seqX ?_
  repeat infer_instance
  refine wo_fld hr rfl ?_
  refine ⟨ws, hW.v, ws, (src_seqX hW.v).2, ?_, ⟨_, rfl, rfl, rfl⟩, ?_, ?_⟩
  · rintro i sl st' ⟨x5, e, e', _⟩
    subst e'
    exact (src_seqX hW.v).1
  · rintro i x hx sl st' ⟨x5, e, e', al⟩
    subst e; subst e'
    obtain ⟨w, hw, ix⟩ := hW.e i x hx
    have hwm := List.mem_of_getElem? hw
    have fl := flat_len hw
    repeat infer_instance
    refine w_is_way hh hb h0 hp0 ix ?_
    cases hi : isB h boxes p0 w with
    | false =>
      repeat infer_instance
      rw [← areB_no (B := B) (F := F) hwm hi]; exact hQ
    | true =>
      repeat infer_instance
      refine wo_addX ix (by omega) ?_
      rw [← flat_take hw]
      repeat infer_instance
      exact ⟨rfl, take_all hw al hi⟩
  · rintro sl st' ⟨x5, e, e', al⟩
    subst e; subst e'
    rw [hW.n, List.take_length] at al ⊢
    have ea : areB h boxes p0 B W F = (decide W.flatten.Nodup && (decide (B.Pairwise (· < ·)) && (decide (B.length = W.length) && !led F p0))) := by
      unfold areB
      rw [al, Bool.true_and]
    rw [ea] at hQ
    have hsl := sortU_len W.flatten
    repeat infer_instance
    refine wo_lenUX .val lf ?_
    repeat infer_instance
    refine if_dec (fun h1 => ?_) (fun h1 => ?_)
    · repeat infer_instance
      rw [decide_eq_false fun z => absurd (nodup_len.mpr z) (by omega)] at hQ
      exact hQ
    · rw [decide_eq_true (nodup_len.mp (by omega))] at hQ
      repeat infer_instance
      refine wo_fld hr rfl ?_
      repeat infer_instance
      refine wo_fld hr rfl ?_
      refine wo_sortUX hB lB ?_
      refine wo_neX hB (ms := sortU B) (.inl rfl) ?_
      repeat infer_instance
      refine if_ndec (fun h2 => ?_) (fun h2 => ?_)
      · repeat infer_instance
        rw [decide_eq_false fun z => h2 (rising_iff.mpr z)] at hQ
        exact hQ
      · rw [decide_eq_true (rising_iff.mp h2)] at hQ
        repeat infer_instance
        refine wo_fld hr rfl ?_
        refine wo_lenX hB.vL ?_
        repeat infer_instance
        refine wo_fld hr rfl ?_
        refine wo_lenX hW.v ?_
        rw [List.length_map, hW.n]
        repeat infer_instance
        refine if_ndec (fun h3 => ?_) (fun h3 => ?_)
        · repeat infer_instance
          rw [decide_eq_false fun z => h3 (by omega)] at hQ
          exact hQ
        · rw [decide_eq_true (show B.length = W.length by omega)] at hQ
          repeat infer_instance
          refine wo_fld hr rfl ?_
          repeat infer_instance
          refine w_come_toB hh hb hB l fun f way hw => ?_
          repeat infer_instance
          refine wo_ixT rfl ?_
          repeat infer_instance
          have : (!decide (a ∈ way)) = (true && (true && (true && !led F p0))) := by
            rw [show decide (a ∈ way) = led F p0 from by
              rw [Bool.eq_iff_iff, decide_eq_true_iff, hw, mem_accs_at h0 hp0]]; rfl
          rw [this]
          exact hQ
theorem w_says {a b : Bool} {st : Sto} {Q : Val → Sto → Prop} (hQ : Q (.bl (a == b)) st) : WF m__law_says [.bl a, .bl b] st Q := by
  refine wf_fn rfl ?_
  unfold b__law_says
  dsimp only [List.map, List.replicate, List.append, HAppend.hAppend, Append.append, Nat.reduceSub]
  repeat infer_instance
  refine wo_some ?_
  repeat infer_instance
  rw [if_pos (show isiT 1 1 = true from rfl)]
  repeat infer_instance
  refine wo_eqB ?_
  repeat infer_instance
  exact hQ
def yes : Option (Val × Sto) → Bool
  | some (.bl true, _) => true
  | _ => false
theorem yes_of {o : Option (Val × Sto)} (h : yes o = true) : ∃ z, o = some (.bl true, z) := by
  cases o with
  | none => cases h
  | some p =>
    obtain ⟨v, z⟩ := p
    cases v with
    | bl b => cases b with
      | true => exact ⟨z, rfl⟩
      | false => cases h
    | non => cases h
    | int i => cases h
    | str i => cases h
    | ref i => cases h
    | lst i => cases h
    | tup i => cases h
    | fn i => cases h
/-! == of what is alike -/
def PD (st : Sto) (n : Nat) (v : Val) : Prop := ∃ d, pd st n v = some d ∧ PyData.eqv d d = true
theorem pd_i {st : Sto} {n : Nat} {i : Int} : PD st n (.int i) := ⟨.int i, by cases n <;> rfl, by rw [PyData.eqv]; exact beq_self_eq_true _⟩
theorem pd_b {st : Sto} {n : Nat} {i : Bool} : PD st n (.bl i) := ⟨.bool i, by cases n <;> rfl, by rw [PyData.eqv]; exact beq_self_eq_true _⟩
theorem pd_s {st : Sto} {n : Nat} {i : Str} (h : PyData.canLay0 (.str i) = true) : PD st n (.str i) := ⟨.str i, by cases n <;> exact if_pos h, by rw [PyData.eqv]; exact beq_self_eq_true _⟩
theorem pd_all {st : Sto} {n : Nat} : ∀ {xs : List Val}, (∀ x ∈ xs, PD st n x) → ∃ ds, xs.mapM (pd st n) = some ds ∧ PyData.eqvAll ds ds = true
  | [], _ => ⟨[], rfl, by rw [PyData.eqvAll]⟩
  | x :: r, h => by
    obtain ⟨d, e1, e2⟩ := h x (List.mem_cons_self ..)
    obtain ⟨ds, e3, e4⟩ := pd_all fun y hy => h y (List.mem_cons_of_mem _ hy)
    exact ⟨d :: ds, by rw [List.mapM_cons, e1, e3] <;> rfl, by rw [PyData.eqvAll, e2, e4]; rfl⟩
theorem pd_l {st : Sto} {n : Nat} {xs : List Val} (h : ∀ x ∈ xs, PD st n x) : PD st (n + 1) (.lst xs) := by
  obtain ⟨ds, e1, e2⟩ := pd_all h
  exact ⟨.list ds, by show (xs.mapM (pd st n)).map _ = _; rw [e1]; rfl, by rw [PyData.eqv]; exact e2⟩
theorem pd_t {st : Sto} {n : Nat} {xs : List Val} (h : ∀ x ∈ xs, PD st n x) : PD st (n + 1) (.tup xs) := by
  obtain ⟨ds, e1, e2⟩ := pd_all h
  exact ⟨.tuple ds, by show (xs.mapM (pd st n)).map _ = _; rw [e1]; rfl, by rw [PyData.eqv]; exact e2⟩
theorem pd_I {st : Sto} {n : Nat} {ns : List Int} : PD st (n + 1) (vI ns) := pd_l fun x hx => by
  obtain ⟨i, _, e⟩ := List.mem_map.mp hx
  rw [← e]
  exact pd_i
theorem veq_refl {st : Sto} {v : Val} (h : PD st deep v) : veq st v v = some true := by
  obtain ⟨d, e1, e2⟩ := h
  unfold veq
  rw [e1]
  show some (PyData.eqv d d) = _
  rw [e2]
theorem wo_ne_refl {st : Sto} {v w : Val} {Q : Val → Prop} (e : v = w) (h : PD st deep v) (q : Q (.bl false)) : WO (oNe st v w) Q := by
  subst e
  exact ⟨_, by unfold oNe; rw [veq_refl h] <;> rfl, q⟩
theorem wo_eq_refl {st : Sto} {v w : Val} {Q : Val → Prop} (e : v = w) (h : PD st deep v) (q : Q (.bl true)) : WO (oEq st v w) Q := by
  subst e
  exact ⟨_, by unfold oEq; rw [veq_refl h] <;> rfl, q⟩
theorem pdl_n {st : Sto} {n : Nat} : ∀ x ∈ ([] : List Val), PD st n x := fun x h => by cases h
theorem pdl_c {st : Sto} {n : Nat} {x : Val} {xs : List Val} (h : PD st n x) (r : ∀ y ∈ xs, PD st n y) : ∀ y ∈ x :: xs, PD st n y := fun y hy => by
  rcases List.mem_cons.mp hy with e | e
  · rw [e]; exact h
  · exact r y e
theorem w_copied {h : List Acc} {st : Sto} {Q : Val → Sto → Prop} (hh : HouseOk h) (hQ : Q (vH h) st) : WF m__law_copied [vH h] st Q := by
  refine wf_fn rfl ?_
  unfold b__law_copied
  dsimp only [List.map, List.replicate, List.append, HAppend.hAppend, Append.append, Nat.reduceSub]
  have := hh.six
  repeat infer_instance
  refine wl_lc h vA (fun _ => true) vA rfl ?_
  repeat infer_instance
  refine ⟨src_lst _, by omega, fun p hp => ?_, ?_⟩
  · dsimp only [wipe, List.set]
    repeat infer_instance
    exact ⟨rfl, rfl, fun _ => by repeat (first | exact ⟨rfl, rfl⟩ | infer_instance)⟩
  · rw [List.filter_eq_self.mpr fun _ _ => rfl]
    exact hQ
theorem w_law_whole {i : Int} {st : Sto} {Q : Val → Sto → Prop} (hQ : Q (.bl true) st) : WF m__law_whole [.int i] st Q := by
  refine wf_fn rfl ?_
  unfold b__law_whole
  dsimp only [List.map, List.replicate, List.append, HAppend.hAppend, Append.append, Nat.reduceSub]
  repeat infer_instance
  refine wo_some ?_
  repeat infer_instance
  rw [if_pos (show isiT 0 0 = true from rfl)]
  repeat infer_instance
  refine wo_some ?_
  repeat infer_instance
  exact hQ
theorem pd_H {st : Sto} {n : Nat} {h : List Acc} : PD st (n + 1 + 1 + 1) (vH h) := pd_l fun x hx => by
  obtain ⟨p, _, e⟩ := List.mem_map.mp hx
  rw [← e]
  exact pd_t (pdl_c pd_I (pdl_c pd_I pdl_n))
theorem ret_of {o : Option (Out × Sl × Sto)} (h : (match o with | some (.rt (.bl b), _) => b | _ => false) = true) : ∃ sl st, o = some (.rt (.bl true), sl, st) := by
  cases o with
  | none => cases h
  | some p =>
    obtain ⟨q, sl, st⟩ := p
    cases q with
    | rt v =>
      cases v with
      | bl b => cases b with
        | true => exact ⟨sl, st, rfl⟩
        | false => cases h
      | _ => cases h
    | _ => cases h
/-! the last houses, statement by statement -/
def manyH : Val := .lst [.tup [.lst [.int 0], .lst [.int 3, .int 4]], .tup [.lst [.int 1], .lst [.int 3]], .tup [.lst [.int 3], .lst [.int 6]], .tup [.lst [.int 4], .lst [.int 7]], .tup [.lst [.int 6, .int 7], .lst []]]
def manyB : Val := .lst [.int 0, .int 1]
def manyW : Val := .lst [.lst [.int 0, .int 4, .int 7], .lst [.int 1, .int 3, .int 6]]
def manyL : Val := .lst [.lst [.int 0, .int 1], .lst [.int 0, .int 3], .lst [.int 0, .int 6], .lst [.int 3, .int 4], .lst [.int 3, .int 7], .lst [.int 4, .int 6], .lst [.int 6, .int 7], .lst [.int 1, .int 4], .lst [.int 1, .int 7], .lst [.int 0, .int 4]]
def manyR : Val := .lst [.tup [.lst [.int 0], .lst [.int 1]], .tup [.lst [.int 1], .lst [.int 2]], .tup [.lst [.int 2], .lst [.int 3]], .tup [.lst [.int 3], .lst [.int 4]], .tup [.lst [.int 4], .lst [.int 5]], .tup [.lst [.int 5], .lst [.int 6]]]
def manyY : Val := .lst [.int 0, .int 1, .int 2, .int 3, .int 4, .int 5]
theorem many_0 : b__law_many_right_0 [.no, .no, .no, .no, .no, .no, .no, .no, .no, .no] [] = some (.nx, [.val manyH, .val manyB, .no, .no, .no, .no, .no, .no, .no, .no], []) := by kernel_rfl
theorem many_1 : b__law_many_right_1 [.val manyH, .val manyB, .no, .no, .no, .no, .no, .no, .no, .no] [] = some (.nx, [.val manyH, .val manyB, .val manyW, .no, .no, .no, .no, .no, .no, .no], []) := by kernel_rfl
theorem many_2 : sKeep b__law_many_right_2 [.val manyH, .val manyB, .val manyW, .no, .no, .no, .no, .no, .no, .no] [] = some (.nx, [.val manyH, .val manyB, .val manyW, .no, .no, .no, .no, .no, .no, .no], []) := by kernel_rfl
theorem many_3 : b__law_many_right_3 [.val manyH, .val manyB, .val manyW, .no, .no, .no, .no, .no, .no, .no] [] = some (.nx, [.val manyH, .val manyB, .val manyW, .val manyL, .no, .no, .no, .no, .no, .no], []) := by kernel_rfl
theorem many_4 : sKeep b__law_many_right_4 [.val manyH, .val manyB, .val manyW, .val manyL, .no, .no, .no, .no, .no, .no] [] = some (.nx, [.val manyH, .val manyB, .val manyW, .val manyL, .no, .no, .no, .no, .no, .no], []) := by kernel_rfl
theorem many_5 : sKeep b__law_many_right_5 [.val manyH, .val manyB, .val manyW, .val manyL, .no, .no, .no, .no, .no, .no] [] = some (.nx, [.val manyH, .val manyB, .val manyW, .val manyL, .no, .no, .no, .no, .no, .no], []) := by kernel_rfl
theorem many_6 : sKeep (sSeq b__law_many_right_6 b__law_many_right_7) [.val manyH, .val manyB, .val manyW, .val manyL, .no, .no, .no, .no, .no, .no] [] = some (.nx, [.val manyH, .val manyB, .val manyW, .val manyL, .no, .no, .no, .no, .no, .no], []) := by kernel_rfl
theorem many_8 : b__law_many_right_8 [.val manyH, .val manyB, .val manyW, .val manyL, .no, .no, .no, .no, .no, .no] [] = some (.nx, [.val manyH, .val manyB, .val manyW, .val manyL, .no, .no, .val manyR, .val manyY, .no, .no], []) := by kernel_rfl
theorem many_9 : sKeep b__law_many_right_9 [.val manyH, .val manyB, .val manyW, .val manyL, .no, .no, .val manyR, .val manyY, .no, .no] [] = some (.nx, [.val manyH, .val manyB, .val manyW, .val manyL, .no, .no, .val manyR, .val manyY, .no, .no], []) := by kernel_rfl
theorem many_10 : ∃ sl st, b__law_many_right_10 [.val manyH, .val manyB, .val manyW, .val manyL, .no, .no, .val manyR, .val manyY, .no, .no] [] = some (.rt (.bl true), sl, st) := ret_of (by kernel_rfl)
theorem many_true : ∃ z, m__law_many_right [] [] = some (.bl true, z) := by
  obtain ⟨sl, st, e⟩ := many_10
  have e1 : b__law_many_right [.no, .no, .no, .no, .no, .no, .no, .no, .no, .no] [] = some (.rt (.bl true), sl, st) := by
    unfold b__law_many_right
    rw [sNowL_eq, seq_nx many_0, seq_nx many_1, seq_nx many_2, seq_nx many_3, seq_nx many_4, seq_nx many_5, seq_nx many_6, seq_nx many_8, seq_nx many_9]
    exact e
  refine ⟨st, ?_⟩
  show (b__law_many_right [.no, .no, .no, .no, .no, .no, .no, .no, .no, .no] []).bind _ = _
  rw [e1]
  rfl
/-! the law of bars -/
theorem spoilt_true : ∃ z, m__law_spoilt_right [] [] = some (.bl true, z) := yes_of (by kernel_rfl)
theorem changed_true : ∃ z, m__law_changed_right [] [] = some (.bl true, z) := yes_of (by kernel_rfl)
structure Oth where
  h : List Acc
  b : List Int
  a : Int
  p : Acc
def vO (o : Oth) : Val := .tup [vH o.h, vI o.b, .int o.a]
structure OthOk (o : Oth) : Prop where
  h : HouseOk o.h
  b : Good o.b
  a : 0 ≤ o.a
  p : o.h[o.a.toNat]? = some o.p
theorem W_len {h : List Acc} {boxes : List Int} {p0 : Acc} {B : List Int} {W : List (List Int)} (k : BarsK h boxes p0 B W) : W.flatten.length < 64 := by
  have h1 : ∀ x ∈ W.flatten, 0 ≤ x ∧ x < ((8 : Nat) : Int) := fun x hx => by
    obtain ⟨w, hw, hxw⟩ := List.mem_flatten.mp hx
    exact (k.f w hw).2 x hxw
  have := few k.a h1
  omega
theorem areB_len {h : List Acc} {boxes B F : List Int} {p0 : Acc} {W : List (List Int)} (hn : B.length ≠ W.length) : areB h boxes p0 B W F = false := by
  unfold areB
  rw [decide_eq_false hn, Bool.false_and, Bool.and_false, Bool.and_false, Bool.and_false]
theorem wo_isc2 {st : Sto} {js : List Nat} {k r j : Nat} {vs : List Val} {b : Bool} {Q : Val → Prop} (e : st[r]? = some (.ins j vs)) (hj : j ∈ js) (eb : subC j k = b) (h : Q (.bl b)) : WO (oIsc js k st (.ref r)) Q := by
  refine ⟨_, ?_, h⟩
  show (match st[r]? with | some (.ins j _) => if j ∈ js then some (Val.bl (subC j k)) else none | _ => none) = _
  rw [e, ← eb]
  exact if_pos hj
theorem w_right {h : List Acc} {boxes : List Int} {a : Int} {p0 : Acc} {os : List Oth} {st : Sto} {Q : Val → Sto → Prop} (hh : HouseOk h) (hb : Good boxes) (hbr : boxes.Pairwise (· < ·)) (h0 : 0 ≤ a) (hp0 : h[a.toNat]? = some p0) (ho : ∀ o ∈ os, OthOk o)
    (hQ : ∀ st', Q (.bl true) st') : WF m__law_right [vH h, vI boxes, .int a, .lst (os.map vO)] st Q := by
  refine wf_fn rfl ?_
  unfold b__law_right
  dsimp only [List.map, List.replicate, List.append, HAppend.hAppend, Append.append, Nat.reduceSub]
  have hbf := hb.few
  repeat infer_instance
  refine w_copied hh ?_
  repeat infer_instance
  refine w_bars hh hb hbr h0 hp0 fun st1 r b w ws B W k1 hr ba bk => ?_
  have hBl := bk.g.few
  have hWn := bk.n
  have hWl := W_len bk
  obtain ⟨FB, lB⟩ := LeastB.exists (h := h) (boxes := boxes) (bar := B) hb hh.o
  repeat infer_instance
  refine wo_isc2 (b := true) ba.hr (by decide) rfl ?_
  repeat infer_instance
  refine wo_isc2 (b := true) ba.hr (by decide) rfl ?_
  repeat infer_instance
  refine wo_isc2 (b := false) ba.hr (by decide) rfl ?_
  repeat infer_instance
  refine wo_neBs_of (bs := [true, false]) (cs := [true, false]) rfl rfl ?_
  rw [decide_eq_true rfl]
  repeat infer_instance
  refine wo_ne_refl rfl (pd_l (n := 19) (pdl_c (pd_H (n := 16)) (pdl_c (pd_I (n := 18)) pdl_n))) ?_
  repeat infer_instance
  refine wo_isc2 (b := false) ba.hr (by decide) rfl ?_
  repeat infer_instance
  refine wo_fld ba.hr rfl ?_
  repeat infer_instance
  refine wo_fld ba.hr rfl ?_
  repeat infer_instance
  refine w_are_bars hh hb h0 hp0 ba.isI ba.isW (.inr ⟨_, rfl⟩) (by omega) (by omega) hWl lB ?_
  rw [bk.areB lB]
  repeat infer_instance
  refine w_many_bars hh hb hbr h0 hp0 fun st2 B2 W2 k2 bk2 => ?_
  have hsame := bk.same bk2
  have ba2 := ba.keep k2
  repeat infer_instance
  refine w_law_whole ?_
  repeat infer_instance
  refine wo_fld ba2.hr rfl ?_
  refine wo_lenX ba2.isI.vL ?_
  rw [List.length_map]
  repeat infer_instance
  rw [decide_eq_true (show ((B2.length : Nat) : Int) = (B.length : Nat) by omega)]
  repeat infer_instance
  refine we_meth ?_
  repeat infer_instance
  refine ⟨_, _, rfl, ba2.hr, ?_⟩
  repeat infer_instance
  refine w_Bars_shows ba2.hr hh hb h0 hp0 ba2.isI ba2.isW (by omega) hWl lB ?_
  rw [bk.areB lB]
  repeat infer_instance
  refine w_says ?_
  rw [beq_self_eq_true]
  repeat infer_instance
  refine ws_for (fun i sl st' => ∃ x8 x9 x10 x11, sl = [.val (vH h), .val (vI boxes), .val (.int a), .val (.lst (os.map vO)), .val (vH h), .val (vI boxes), .val (.ref r), .val (.int (B2.length : Nat)), x8, x9, x10, x11] ∧ st2 = st') ?_
  repeat infer_instance
  refine ⟨_, src_lst _, ⟨_, _, _, _, rfl, rfl⟩, ?_, ?_⟩
  · rintro i x hx sl st' ⟨x8, x9, x10, x11, e, e'⟩
    subst e; subst e'
    obtain ⟨o, e, h3, hm⟩ := map_at hx
    subst e
    have ok := ho o hm
    obtain ⟨FO, lO⟩ := LeastB.exists (h := o.h) (boxes := o.b) (bar := B) ok.b ok.h.o
    unfold vO
    repeat infer_instance
    refine wo_fld ba2.hr rfl ?_
    repeat infer_instance
    refine wo_fld ba2.hr rfl ?_
    repeat infer_instance
    refine w_are_bars ok.h ok.b ok.a ok.p ba2.isI ba2.isW (.inr ⟨_, rfl⟩) (by omega) (by omega) hWl lO ?_
    repeat infer_instance
    refine we_meth ?_
    repeat infer_instance
    refine ⟨_, _, rfl, ba2.hr, ?_⟩
    repeat infer_instance
    refine w_Bars_shows ba2.hr ok.h ok.b ok.a ok.p ba2.isI ba2.isW (by omega) hWl lO ?_
    repeat infer_instance
    refine w_says ?_
    rw [beq_self_eq_true]
    repeat infer_instance
    exact ⟨_, _, _, _, rfl, rfl⟩
  rintro sl st' ⟨x8, x9, x10, x11, e, e'⟩
  subst e; subst e'
  repeat infer_instance
  refine ws_appK ?_
  repeat infer_instance
  refine wo_fld ba2.hr rfl ?_
  refine ⟨_, _, rfl, ba2.hb, ?_⟩
  repeat infer_instance
  refine ⟨_, ba2.hb, by rw [List.length_map]; omega, ?_⟩
  have ba3 := ba2.set (B' := B ++ [8])
  have e8 : (B ++ [(8 : Int)]).map Val.int = B.map Val.int ++ [Val.int 8] := by rw [List.map_append]; rfl
  rw [e8] at ba3
  generalize (st2.set b (.lst (B.map Val.int ++ [Val.int 8]))) = st3 at ba3 ⊢
  obtain ⟨F3, l3⟩ := LeastB.exists (h := h) (boxes := boxes) (bar := B ++ [8]) hb hh.o
  repeat infer_instance
  refine we_meth ?_
  repeat infer_instance
  refine ⟨_, _, rfl, ba3.hr, ?_⟩
  repeat infer_instance
  have hl9 : (B ++ [8]).length = B.length + 1 := by rw [List.length_append]; rfl
  refine w_Bars_shows ba3.hr hh hb h0 hp0 ba3.isI ba3.isW (by omega) hWl l3 ?_
  rw [areB_len (by omega)]
  repeat infer_instance
  exact hQ _
/-! the fewest, by all of them -/
def subOf (m : Nat) : List Int := ((List.range 8).map fun j => ((j : Nat) : Int)).filter fun b => decide (Builtin.bitAnd (((m : Nat) : Int) / 2 ^ b.toNat) 1 = 1)
def bitN (c : Bool) (n : Nat) : Nat := if c then n else 0
theorem sub_all : ∀ c0 c1 c2 c3 c4 c5 c6 c7 : Bool, subOf (bitN c0 1 + bitN c1 2 + bitN c2 4 + bitN c3 8 + bitN c4 16 + bitN c5 32 + bitN c6 64 + bitN c7 128) = ((if c0 then [(0 : Int)] else []) ++ (if c1 then [1] else []) ++ (if c2 then [2] else []) ++ (if c3 then [3] else []) ++ (if c4 then [4] else []) ++ (if c5 then [5] else []) ++ (if c6 then [6] else []) ++ (if c7 then [7] else [])) := by decide +kernel
theorem bit_lt (c : Bool) (n : Nat) : bitN c n ≤ n := by
  unfold bitN
  split <;> omega
theorem sub_of {B : List Int} (hr : B.Pairwise (· < ·)) (hg : Good B) : ∃ m, m < 256 ∧ subOf m = B := by
  refine ⟨bitN (decide ((0 : Int) ∈ B)) 1 + bitN (decide ((1 : Int) ∈ B)) 2 + bitN (decide ((2 : Int) ∈ B)) 4 + bitN (decide ((3 : Int) ∈ B)) 8 + bitN (decide ((4 : Int) ∈ B)) 16 + bitN (decide ((5 : Int) ∈ B)) 32 + bitN (decide ((6 : Int) ∈ B)) 64 + bitN (decide ((7 : Int) ∈ B)) 128, ?_, ?_⟩
  · have h0 := bit_lt (decide ((0 : Int) ∈ B)) 1
    have h1 := bit_lt (decide ((1 : Int) ∈ B)) 2
    have h2 := bit_lt (decide ((2 : Int) ∈ B)) 4
    have h3 := bit_lt (decide ((3 : Int) ∈ B)) 8
    have h4 := bit_lt (decide ((4 : Int) ∈ B)) 16
    have h5 := bit_lt (decide ((5 : Int) ∈ B)) 32
    have h6 := bit_lt (decide ((6 : Int) ∈ B)) 64
    have h7 := bit_lt (decide ((7 : Int) ∈ B)) 128
    omega
  · rw [sub_all]
    have e : ∀ (c : Bool) (n x : Int), x ∈ (if c then [n] else []) ↔ c = true ∧ x = n := fun c n x => by cases c <;> simp
    have ee : ∀ (n x : Int), x ∈ (if decide (n ∈ B) = true then [n] else []) ↔ n ∈ B ∧ x = n := fun n x => by
      rw [e (decide (n ∈ B)) n x, decide_eq_true_iff]
    refine rising_eq ?_ hr fun x => ?_
    · have all : ∀ c0 c1 c2 c3 c4 c5 c6 c7 : Bool, ((if c0 then [(0 : Int)] else []) ++ (if c1 then [1] else []) ++ (if c2 then [2] else []) ++ (if c3 then [3] else []) ++ (if c4 then [4] else []) ++ (if c5 then [5] else []) ++ (if c6 then [6] else []) ++ (if c7 then [7] else [])).Pairwise (· < ·) := by decide +kernel
      exact all _ _ _ _ _ _ _ _
    · simp only [List.mem_append, ee]
      constructor
      · rintro (((((((⟨h, rfl⟩ | ⟨h, rfl⟩) | ⟨h, rfl⟩) | ⟨h, rfl⟩) | ⟨h, rfl⟩) | ⟨h, rfl⟩) | ⟨h, rfl⟩) | ⟨h, rfl⟩) <;> exact h
      · intro hx
        have hb := hg.2 x hx
        have : x = 0 ∨ x = 1 ∨ x = 2 ∨ x = 3 ∨ x = 4 ∨ x = 5 ∨ x = 6 ∨ x = 7 := by omega
        rcases this with h | h | h | h | h | h | h | h <;> subst h
        · exact .inl (.inl (.inl (.inl (.inl (.inl (.inl ⟨hx, rfl⟩))))))
        · exact .inl (.inl (.inl (.inl (.inl (.inl (.inr ⟨hx, rfl⟩))))))
        · exact .inl (.inl (.inl (.inl (.inl (.inr ⟨hx, rfl⟩)))))
        · exact .inl (.inl (.inl (.inl (.inr ⟨hx, rfl⟩))))
        · exact .inl (.inl (.inl (.inr ⟨hx, rfl⟩)))
        · exact .inl (.inl (.inr ⟨hx, rfl⟩))
        · exact .inl (.inr ⟨hx, rfl⟩)
        · exact .inr ⟨hx, rfl⟩
theorem wo_shr {st : Sto} {i j : Int} {Q : Val → Prop} (h0 : 0 ≤ j) (h : Q (.int (i / 2 ^ j.toNat))) : WO (oShr st (.int i) (.int j)) Q := by
  refine ⟨_, ?_, h⟩
  show (if decide (0 ≤ j) = true then some (Val.int (i / 2 ^ j.toNat)) else none) = _
  exact if_pos (decide_eq_true h0)
theorem wo_and {st : Sto} {i j : Int} {Q : Val → Prop} (h : Q (.int (Builtin.bitAnd i j))) : WO (oAnd st (.int i) (.int j)) Q := wo_some h
theorem range8_src : SrcIs (.rng 0 8) ((((List.range 8).map fun j => ((j : Nat) : Int))).map Val.int) := by
  have := src_rng 0 8
  rw [List.map_map]
  have e : (Val.int ∘ fun j : Nat => ((j : Nat) : Int)) = fun i : Nat => Val.int (0 + (i : Nat)) := by
    funext i
    show Val.int (i : Nat) = _
    rw [Int.zero_add]
  rw [e]
  exact this
theorem w_fewest {h : List Acc} {boxes : List Int} {a : Int} {p0 : Acc} {B : List Int} {W : List (List Int)} {st : Sto} {Q : Val → Sto → Prop} (hh : HouseOk h) (hb : Good boxes) (h0 : 0 ≤ a) (hp0 : h[a.toNat]? = some p0) (bk : BarsK h boxes p0 B W) (hQ : Q (.int (B.length : Nat)) st) : WF m__law_fewest [vH h, vI boxes, .int a] st Q := by
  refine wf_fn rfl ?_
  unfold b__law_fewest
  dsimp only [List.map, List.replicate, List.append, HAppend.hAppend, Append.append, Nat.reduceSub]
  have hB8 := bk.g.few
  obtain ⟨mB, hmB, eB⟩ := sub_of bk.r bk.g
  repeat infer_instance
  refine ws_for (fun i sl st' => ∃ (n : Nat) (x4 x5 : Slot), sl = [.val (vH h), .val (vI boxes), .val (.int a), .val (.int (n : Nat)), x4, x5, .no] ∧ st = st' ∧ B.length ≤ n ∧ (mB < i → n ≤ B.length)) ?_
  repeat infer_instance
  refine ⟨by decide, _, src_rng 0 _, ⟨8, _, _, rfl, rfl, hB8, fun z => absurd z (Nat.not_lt_zero _)⟩, ?_, ?_⟩
  · rintro i x hx sl st' ⟨n, x4, x5, e, e', h1, h2⟩
    subst e; subst e'
    obtain ⟨e, hi⟩ := rng_at hx
    subst e
    repeat infer_instance
    refine wl_lc ((List.range 8).map fun j => ((j : Nat) : Int)) .int (fun b => decide (Builtin.bitAnd (((i : Nat) : Int) / 2 ^ b.toNat) 1 = 1)) .int rfl ?_
    repeat infer_instance
    refine ⟨by decide, range8_src, by decide, fun b hb => ?_, ?_⟩
    · obtain ⟨j, hj, ej⟩ := List.mem_map.mp hb
      dsimp only [wipe, List.set]
      repeat infer_instance
      refine wo_shr (by omega) ?_
      repeat infer_instance
      refine wo_and ?_
      repeat infer_instance
      refine ⟨by rw [Int.zero_add], rfl, fun _ => we_v rfl ⟨rfl, rfl⟩⟩
    have eS : ((List.range 8).map fun j => ((j : Nat) : Int)).filter (fun b => decide (Builtin.bitAnd (((i : Nat) : Int) / 2 ^ b.toNat) 1 = 1)) = subOf i := rfl
    rw [eS]
    have hS : i = mB → subOf i = B := fun z => by rw [z]; exact eB
    have hnext : mB < i + 1 → mB < i ∨ i = mB := fun z => by omega
    generalize subOf i = S at hS
    obtain ⟨FS, lS⟩ := LeastB.exists (h := h) (boxes := boxes) (bar := S) hb hh.o
    have hbar := lS.acc (p0 := p0) h0 hp0
    repeat infer_instance
    refine if_dec (fun h3 => ?_) (fun h3 => ?_)
    · repeat infer_instance
      refine w_comeB hh hb .val lS fun F' => ?_
      repeat infer_instance
      refine wo_ixT rfl ?_
      repeat infer_instance
      refine if_ndec (fun h4 => ?_) (fun h4 => ?_)
      · have hk := (hbar.mpr h4).many bk.w bk.a
        have hn := bk.n
        repeat infer_instance
        exact ⟨S.length, _, _, rfl, rfl, by omega, fun z => (hnext z).elim (fun y => by have := h2 y; omega) fun y => by rw [hS y]; exact Nat.le_refl _⟩
      · repeat infer_instance
        exact ⟨n, _, _, rfl, rfl, h1, fun z => (hnext z).elim h2 fun y => by
          have e1 := hS y
          subst e1
          exact absurd h4 (hbar.mp bk.b)⟩
    · repeat infer_instance
      exact ⟨n, _, _, rfl, rfl, h1, fun z => (hnext z).elim h2 fun y => by
        have e1 := hS y
        subst e1
        omega⟩
  · rintro sl st' ⟨n, x4, x5, e, e', h1, h2⟩
    subst e; subst e'
    rw [rng_len] at h2
    have h2 := h2 hmB
    have : n = B.length := by omega
    subst this
    repeat infer_instance
    exact hQ
/-! houses by hand -/
theorem linked_of : ∀ {h : List Acc} {w : List Int}, linkB h w = true → Linked h w
  | h, [], _ => trivial
  | h, [b], _ => trivial
  | h, b :: c :: r, k => by
    have k : ((b, c) :: (c :: r).zip ((c :: r).drop 1)).all (fun q => h.any fun p => decide (q.1 ∈ p.1) && decide (q.2 ∈ p.2)) = true := k
    rw [List.all_cons, Bool.and_eq_true] at k
    obtain ⟨p, hp, h1⟩ := List.any_eq_true.mp k.1
    rw [Bool.and_eq_true] at h1
    exact ⟨⟨p, hp, of_decide_eq_true h1.1, of_decide_eq_true h1.2⟩, linked_of (w := c :: r) k.2⟩
theorem wayB_of {h : List Acc} {boxes : List Int} {p0 : Acc} {w : List Int} (k : isB h boxes p0 w = true) : WayB h boxes p0 w := by
  unfold isB at k
  rw [Bool.and_eq_true, Bool.and_eq_true, Bool.and_eq_true] at k
  obtain ⟨k1, k2, k3, k4⟩ := k
  have hw : w ≠ [] := by simpa using k1
  obtain ⟨c, hc⟩ := last_of hw
  obtain ⟨b, r, hb⟩ := List.exists_cons_of_ne_nil hw
  refine ⟨⟨b, by rw [hb]; rfl, ?_⟩, ⟨c, hc, ?_⟩, linked_of k4⟩
  · have := of_decide_eq_true k2
    rw [hb] at this; exact this
  · have := of_decide_eq_true k3
    rw [hc] at this; exact this
theorem mkBars {h : List Acc} {boxes : List Int} {p0 : Acc} {B : List Int} {W : List (List Int)} (S : List Int) (r : B.Pairwise (· < ·)) (g : ∀ x ∈ B, 0 ≤ x ∧ x < 8) (n : W.length = B.length) (w : W.all (isB h boxes p0) = true) (f : ∀ w ∈ W, w.Nodup ∧ ∀ x ∈ w, 0 ≤ x ∧ x < 8) (a : W.flatten.Nodup)
    (s1 : ∀ b ∈ boxes, b ∉ B → b ∈ S) (s2 : ∀ p ∈ h, led S p = true → ∀ c ∈ p.2, c ∉ B → c ∈ S) (s3 : led S p0 = false) : BarsK h boxes p0 B W :=
  ⟨r, ⟨r.imp fun h => Int.ne_of_lt h, g⟩, n, fun x hx => wayB_of (List.all_eq_true.mp w x hx), fun x hx => ⟨(f x hx).1, (f x hx).2⟩, a, S, s1, s2, s3⟩
def HA : List Acc := [([0], [2, 3]), ([1], [3, 4]), ([2, 3, 4], []), ([], [0])]
theorem HA_ok : HouseOk HA where
  pos := by decide
  six := by decide
  s := by show ∀ p ∈ HA, p.1.Nodup ∧ ∀ x ∈ p.1, 0 ≤ x ∧ x < 8; decide
  o := by show ∀ p ∈ HA, p.2.Nodup ∧ ∀ x ∈ p.2, 0 ≤ x ∧ x < 8; decide
  r := by decide
theorem HA_0 : BarsK HA [0, 1] ([0], [2, 3]) [0] [[0]] := mkBars [1, 3, 4] (by decide) (by decide) (by decide) (by decide +kernel) (by decide) (by decide) (by decide) (by decide) (by decide)
theorem HA_1 : BarsK HA [0, 1] ([1], [3, 4]) [1] [[1]] := mkBars [0, 2, 3] (by decide) (by decide) (by decide) (by decide +kernel) (by decide) (by decide) (by decide) (by decide) (by decide)
theorem HA_2 : BarsK HA [0, 1] ([2, 3, 4], []) [0, 1] [[0, 2], [1, 3]] := mkBars [] (by decide) (by decide) (by decide) (by decide +kernel) (by decide) (by decide) (by decide) (by decide) (by decide)
theorem HA_3 : BarsK HA [0, 1] ([], [0]) [] [] := mkBars [0, 1, 2, 3, 4] (by decide) (by decide) (by decide) (by decide +kernel) (by decide) (by decide) (by decide) (by decide) (by decide)
theorem HA_cnt {p0 : Acc} {B : List Int} {W : List (List Int)} (i : Nat) (hi : i < 4) (hp : HA[i]? = some p0) (k : BarsK HA [0, 1] p0 B W) : ((B.length : Nat) : Int) = [1, 1, 2, 0].getD i 0 := by
  match i, hi with
  | 0, _ => cases hp; rw [k.same HA_0]; rfl
  | 1, _ => cases hp; rw [k.same HA_1]; rfl
  | 2, _ => cases hp; rw [k.same HA_2]; rfl
  | 3, _ => cases hp; rw [k.same HA_3]; rfl
theorem good01 : Good [0, 1] := ⟨by decide, by decide⟩
theorem HB_ok : HouseOk [([0, 1, 2], [])] where
  pos := by decide
  six := by decide
  s := by show ∀ p ∈ [(([0, 1, 2], []) : Acc)], p.1.Nodup ∧ ∀ x ∈ p.1, 0 ≤ x ∧ x < 8; decide
  o := by show ∀ p ∈ [(([0, 1, 2], []) : Acc)], p.2.Nodup ∧ ∀ x ∈ p.2, 0 ≤ x ∧ x < 8; decide
  r := by decide
theorem HB_b : BarsK [([0, 1, 2], [])] [0, 2, 5] ([0, 1, 2], []) [0, 2] [[0], [2]] := mkBars [5] (by decide) (by decide) (by decide) (by decide +kernel) (by decide) (by decide) (by decide) (by decide) (by decide)
theorem mb1 {st : Sto} {Q : Val → Sto → Prop} (hQ : ∀ st', Q (.int 2) st') : WF m_many_bars [.lst [.tup [.lst [.int 0, .int 1, .int 2], .lst []]], .lst [.int 0, .int 2, .int 5], .int 0] st Q :=
  w_many_bars (h := [([0, 1, 2], [])]) (boxes := [0, 2, 5]) (a := 0) (p0 := ([0, 1, 2], [])) HB_ok ⟨by decide, by decide⟩ (by decide) (by decide) rfl fun st' B W _ bk => by
    have := bk.same HB_b
    rw [show ((B.length : Nat) : Int) = 2 by rw [this]; rfl]
    exact hQ st'
theorem HC_ok : HouseOk [([0], [])] where
  pos := by decide
  six := by decide
  s := by show ∀ p ∈ [(([0], []) : Acc)], p.1.Nodup ∧ ∀ x ∈ p.1, 0 ≤ x ∧ x < 8; decide
  o := by show ∀ p ∈ [(([0], []) : Acc)], p.2.Nodup ∧ ∀ x ∈ p.2, 0 ≤ x ∧ x < 8; decide
  r := by decide
theorem HC_b : BarsK [([0], [])] [0] ([0], []) [0] [[0]] := mkBars [] (by decide) (by decide) (by decide) (by decide +kernel) (by decide) (by decide) (by decide) (by decide) (by decide)
theorem mb2 {st : Sto} {Q : Val → Sto → Prop} (hQ : ∀ st' r b w ws W, BAt st' r b w ws [0] W → Q (.ref r) st') : WF m_bars [.lst [.tup [.lst [.int 0], .lst []]], .lst [.int 0], .int 0] st Q :=
  w_bars (h := [([0], [])]) (boxes := [0]) (a := 0) (p0 := ([0], [])) HC_ok ⟨by decide, by decide⟩ (by decide) (by decide) rfl fun st' r b w ws B W _ _ ba bk => by
    have hl := bk.same HC_b
    obtain ⟨x, h1, h2⟩ := bk.b.hits (HC_b.w [0] (by decide))
    have hx : x = 0 := by simpa using h1
    subst hx
    have e : B = [0] := by
      match B, hl, h2 with
      | [y], _, h2 => rw [List.mem_singleton.mp h2]
    subst e
    exact hQ st' r b w ws W ba
def LawHolds' : Prop := ∀ (ns : List Int) (st : Sto), WF m_law [vI ns] st fun v _ => v = .bl true
theorem law_wf : LawHolds' := by
  intro ns st
  refine wf_fn rfl ?_
  unfold b_law
  dsimp only [List.map, List.replicate, List.append, HAppend.hAppend, Append.append, Nat.reduceSub]
  refine ws_seq ?_
  refine ws_for (fun i sl _ => ∃ x1 x2 x3 x4 x5 o6 x7, sl = [.val (vI ns), x1, x2, x3, x4, x5, svF o6, x7]) ?_
  repeat infer_instance
  refine ⟨by decide, _, src_rng 0 _, ⟨_, _, _, _, _, none, _, rfl⟩, ?_, ?_⟩
  · rintro i x hx sl st ⟨x1, x2, x3, x4, x5, o6, x7, e⟩
    subst e
    obtain ⟨e, hi⟩ := rng_at hx
    have hi : i < 2 := hi
    subst e
    repeat infer_instance
    refine w_house (by omega) (by omega) fun h hh => ?_
    repeat infer_instance
    refine w_boxes (by omega) (by omega) (by omega) (by omega) fun boxes hb hbr hbl => ?_
    have h6 := hh.six
    have hp := hh.pos
    have hb8 := hb.few
    repeat infer_instance
    refine w_house (by omega) (by omega) fun more hm => ?_
    repeat infer_instance
    refine w_boxes (by omega) (by omega) (by omega) (by omega) fun other ho hor hol => ?_
    have hm1 := hm.pos
    infer_instance
    infer_instance
    refine ws_for (fun j sl _ => ∃ o6 x7, sl = [.val (vI ns), .val (.int (0 + (i : Nat))), .val (vH h), .val (vI boxes), .val (vH more), .val (vI other), svF o6, x7]) ?_
    repeat infer_instance
    refine ⟨by omega, _, src_rng 0 _, ⟨o6, _, rfl⟩, ?_, ?_⟩
    · rintro j y hy sl st3 ⟨o6, x7, e⟩
      subst e
      obtain ⟨e, hj⟩ := rng_at hy
      subst e
      have ha0 : (0 : Int) ≤ 0 + (j : Nat) := by omega
      have hat : ((0 : Int) + (j : Nat)).toNat < h.length := by omega
      generalize (0 : Int) + (j : Nat) = a at ha0 hat
      have hz : (0 : Int).toNat < h.length := hp
      have hml : (((more.length : Nat) : Int) - 1).toNat < more.length := by omega
      repeat infer_instance
      refine w_right (os := [⟨h, other, a, h[a.toNat]⟩, ⟨h, boxes, 0, h[(0 : Int).toNat]⟩, ⟨more, boxes, ((more.length : Nat) : Int) - 1, more[(((more.length : Nat) : Int) - 1).toNat]⟩]) hh hb hbr ha0 (List.getElem?_eq_getElem hat) (fun o ho' => ?_) fun st4 => ?_
      · simp only [List.mem_cons, List.not_mem_nil, or_false] at ho'
        rcases ho' with e | e | e <;> subst e
        · exact ⟨hh, ho, ha0, List.getElem?_eq_getElem hat⟩
        · exact ⟨hh, hb, Int.le_refl _, List.getElem?_eq_getElem hz⟩
        · exact ⟨hm, hb, by show (0 : Int) ≤ ((more.length : Nat) : Int) - 1; omega, List.getElem?_eq_getElem hml⟩
      · repeat infer_instance
        exact ⟨some (.int a), _, rfl⟩
    · rintro sl st3 ⟨o6, x7, e⟩
      subst e
      repeat infer_instance
      refine w_cell_at (by omega) fun c => ?_
      repeat infer_instance
      refine w_number (by omega) (by omega) (by omega) (by omega) fun a ha0 ha1 => ?_
      have hat : a.toNat < h.length := by omega
      have hp0 := List.getElem?_eq_getElem hat
      generalize h[a.toNat] = p0 at hp0
      repeat infer_instance
      refine w_many_bars hh hb hbr ha0 hp0 fun st4 B W _ bk => ?_
      repeat infer_instance
      refine w_fewest hh hb ha0 hp0 bk ?_
      repeat infer_instance
      rw [decide_eq_true rfl]
      repeat infer_instance
      exact ⟨_, _, _, _, _, some (.int a), _, rfl⟩
  · rintro sl st ⟨x1, x2, x3, x4, x5, o6, x7, e⟩
    subst e
    refine ws_seq (ws_cut (fun sl' st' => sl' = [.val (vI ns), x1, .val (vH HA), x3, x4, x5, svF o6, x7] ∧ st' = st) ?_ ?_)
    · repeat infer_instance
      exact ⟨rfl, rfl⟩
    rintro sl' st' ⟨e1, e2⟩
    subst e1; subst e2
    obtain ⟨ha, eha⟩ : ∃ ha, ha = HA := ⟨_, rfl⟩
    have ok : HouseOk ha := by rw [eha]; exact HA_ok
    have cnt : ∀ {p0 : Acc} {B : List Int} {W : List (List Int)} (i : Nat) (hi : i < 4) (hp : ha[i]? = some p0) (k : BarsK ha [0, 1] p0 B W), ((B.length : Nat) : Int) = [1, 1, 2, 0].getD i 0 := by rw [eha]; exact HA_cnt
    have len : ha.length = 4 := by rw [eha]; rfl
    rw [← eha]
    repeat infer_instance
    refine wl_lcS ((List.range 4).map fun j => ((j : Nat) : Int)) .int (fun _ => true) (fun a => .int ([1, 1, 2, 0].getD a.toNat 0)) (by cases o6 <;> rfl) ?_
    repeat infer_instance
    refine ⟨by decide, ?_, by decide, fun a ham st1 => ?_, fun st1 => ?_⟩
    · have := src_rng 0 4
      rw [List.map_map]
      have e : (Val.int ∘ fun j : Nat => ((j : Nat) : Int)) = fun i : Nat => Val.int (0 + (i : Nat)) := by
        funext i
        show Val.int (i : Nat) = _
        rw [Int.zero_add]
      rw [e]
      exact this
    · obtain ⟨j, hj, e⟩ := List.mem_map.mp ham
      have hj := List.mem_range.mp hj
      have hat : a.toNat < ha.length := by omega
      dsimp only [wipe, List.set]
      repeat infer_instance
      refine ⟨rfl, fun _ => ?_⟩
      repeat infer_instance
      refine w_many_bars (h := ha) (boxes := [0, 1]) ok good01 (by decide) (by omega) (List.getElem?_eq_getElem hat) fun st2 B W _ bk => ?_
      rw [cnt a.toNat (by omega) (List.getElem?_eq_getElem hat) bk]
    · rw [List.filter_eq_self.mpr fun _ _ => rfl]
      repeat infer_instance
      refine wo_ne_refl (v := .lst (([1, 1, 2, 0] : List Int).map .int)) rfl pd_I ?_
      repeat (first | with_reducible refine we_callN ?_ | infer_instance)
      obtain ⟨z1, hz1⟩ := spoilt_true
      refine ⟨rfl, _, _, hz1, rfl, ?_⟩
      repeat (first | with_reducible refine we_callN ?_ | infer_instance)
      obtain ⟨z2, hz2⟩ := changed_true
      refine ⟨rfl, _, _, hz2, rfl, ?_⟩
      repeat (first | with_reducible refine we_callN ?_ | infer_instance)
      obtain ⟨z3, hz3⟩ := many_true
      refine ⟨rfl, _, _, hz3, rfl, ?_⟩
      repeat (first | with_reducible refine mb1 ?_ | infer_instance)
      intro st2
      repeat (first | with_reducible refine mb2 ?_ | infer_instance)
      rw [decide_eq_true rfl]
      repeat (first | with_reducible refine mb2 ?_ | infer_instance)
      intro st3 r b w ws W ba
      refine wo_fld ba.hr rfl ?_
      repeat infer_instance
      refine wo_eqX (ms := [0]) ba.isI (.inl rfl) ?_
      rw [decide_eq_true rfl]
end Mi.Y
namespace Mi
def LawHolds : Prop := ∀ ns : List Int, ns.length ≤ 63 → ∃ st' : Sto, m_law [.lst (ns.map .int)] [] = some (.bl true, st')
theorem law_holds : LawHolds := fun ns _ => by
  obtain ⟨⟨v, st'⟩, e, q⟩ := Y.law_wf ns []
  cases q
  exact ⟨st', e⟩
end Mi
namespace Mi.Y
end Mi.Y

set_option Elab.async false
set_option linter.all false
set_option maxRecDepth 100000
set_option maxHeartbeats 4000000
namespace Mi
open PySem PySem.Spec PyProof.Rows L2
theorem all_mk {l : PySem.W.OpenLaw} {w : World} {K : PySem.W.Frag} {h : Heap} {mg : Str → Option Value} {fa f0 f1 f2 f3 f4 f5 f6 f7 f8 f9 f10 f11 f12 f13 f14 f15 f16 f17 f18 f19 f20 f21 f22 f23 f24 f25 f26 f27 f28 f29 f30 f31 f32 f33 f34 C_Way C_Never C_Bars C_Answer : Addr} (X : K.In h) (G : h.Ns mainGlobals mg) (hfa : mg "law" = some (.ref fa)) {od0 an0 od1 an1 od2 an2 od3 an3 od4 an4 od5 an5 od6 an6 od7 an7 od8 an8 od9 an9 od10 an10 od11 an11 od12 an12 od13 an13 od14 an14 od15 an15 od16 an16 od17 an17 od18 an18 od19 an19 od20 an20 od21 an21 od22 an22 od23 an23 od24 an24 od25 an25 od26 an26 od27 an27 od28 an28 od29 an29 od30 an30 od31 an31 od32 an32 od33 an33 od34 an34 : Option Addr} {sl0 sl1 sl2 sl3 sl4 sl5 sl6 sl7 sl8 sl9 sl10 sl11 sl12 sl13 sl14 sl15 sl16 sl17 sl18 sl19 sl20 sl21 sl22 sl23 sl24 sl25 sl26 sl27 sl28 sl29 sl30 sl31 sl32 sl33 sl34 : Array (Option Value)} {oc0 kV0 dc0 pm0 cd0 ct0 oc1 kV1 dc1 pm1 cd1 ct1 oc2 kV2 dc2 pm2 cd2 ct2 oc3 kV3 dc3 pm3 cd3 ct3 oc4 kV4 dc4 pm4 cd4 ct4 oc5 kV5 dc5 pm5 cd5 ct5 oc6 kV6 dc6 pm6 cd6 ct6 oc7 kV7 dc7 pm7 cd7 ct7 oc8 kV8 dc8 pm8 cd8 ct8 oc9 kV9 dc9 pm9 cd9 ct9 oc10 kV10 dc10 pm10 cd10 ct10 oc11 kV11 dc11 pm11 cd11 ct11 oc12 kV12 dc12 pm12 cd12 ct12 oc13 kV13 dc13 pm13 cd13 ct13 oc14 kV14 dc14 pm14 cd14 ct14 oc15 kV15 dc15 pm15 cd15 ct15 oc16 kV16 dc16 pm16 cd16 ct16 oc17 kV17 dc17 pm17 cd17 ct17 oc18 kV18 dc18 pm18 cd18 ct18 oc19 kV19 dc19 pm19 cd19 ct19 oc20 kV20 dc20 pm20 cd20 ct20 oc21 kV21 dc21 pm21 cd21 ct21 oc22 kV22 dc22 pm22 cd22 ct22 oc23 kV23 dc23 pm23 cd23 ct23 oc24 kV24 dc24 pm24 cd24 ct24 oc25 kV25 dc25 pm25 cd25 ct25 oc26 kV26 dc26 pm26 cd26 ct26 oc27 kV27 dc27 pm27 cd27 ct27 oc28 kV28 dc28 pm28 cd28 ct28 oc29 kV29 dc29 pm29 cd29 ct29 oc30 kV30 dc30 pm30 cd30 ct30 oc31 kV31 dc31 pm31 cd31 ct31 oc32 kV32 dc32 pm32 cd32 ct32 oc33 kV33 dc33 pm33 cd33 ct33 oc34 kV34 dc34 pm34 cd34 ct34 : Value}
    (aC_Way : PySem.W.nsIn K mainGlobals "Way" = some (some (.ref C_Way)))
    (aC_Never : PySem.W.nsIn K mainGlobals "Never" = some (some (.ref C_Never)))
    (aC_Bars : PySem.W.nsIn K mainGlobals "Bars" = some (some (.ref C_Bars)))
    (aC_Answer : PySem.W.nsIn K mainGlobals "Answer" = some (some (.ref C_Answer)))
    (a0 : PySem.W.nsIn K mainGlobals "is_whole" = some (some (.ref f0)))
    (l0 : K.lookup f0 = some ⟨oc0, od0, .func (PySem.W.fnOf "is_whole" "is_whole" (defArgs s_is_whole) (defBody s_is_whole) (defScope s_is_whole) .none kV0 dc0 pm0 an0 cd0 ct0), sl0⟩)
    (c0 : PySem.W.codeIn K cd0 "is_whole" = true)
    (k0 : PySem.W.keepIn K (.ref f0) = true)
    (a1 : PySem.W.nsIn K mainGlobals "is_between" = some (some (.ref f1)))
    (l1 : K.lookup f1 = some ⟨oc1, od1, .func (PySem.W.fnOf "is_between" "is_between" (defArgs s_is_between) (defBody s_is_between) (defScope s_is_between) .none kV1 dc1 pm1 an1 cd1 ct1), sl1⟩)
    (c1 : PySem.W.codeIn K cd1 "is_between" = true)
    (k1 : PySem.W.keepIn K (.ref f1) = true)
    (a2 : PySem.W.nsIn K mainGlobals "are_rising" = some (some (.ref f2)))
    (l2 : K.lookup f2 = some ⟨oc2, od2, .func (PySem.W.fnOf "are_rising" "are_rising" (defArgs s_are_rising) (defBody s_are_rising) (defScope s_are_rising) .none kV2 dc2 pm2 an2 cd2 ct2), sl2⟩)
    (c2 : PySem.W.codeIn K cd2 "are_rising" = true)
    (k2 : PySem.W.keepIn K (.ref f2) = true)
    (a3 : PySem.W.nsIn K mainGlobals "are_boxes" = some (some (.ref f3)))
    (l3 : K.lookup f3 = some ⟨oc3, od3, .func (PySem.W.fnOf "are_boxes" "are_boxes" (defArgs s_are_boxes) (defBody s_are_boxes) (defScope s_are_boxes) .none kV3 dc3 pm3 an3 cd3 ct3), sl3⟩)
    (c3 : PySem.W.codeIn K cd3 "are_boxes" = true)
    (k3 : PySem.W.keepIn K (.ref f3) = true)
    (a4 : PySem.W.nsIn K mainGlobals "is_account" = some (some (.ref f4)))
    (l4 : K.lookup f4 = some ⟨oc4, od4, .func (PySem.W.fnOf "is_account" "is_account" (defArgs s_is_account) (defBody s_is_account) (defScope s_is_account) .none kV4 dc4 pm4 an4 cd4 ct4), sl4⟩)
    (c4 : PySem.W.codeIn K cd4 "is_account" = true)
    (k4 : PySem.W.keepIn K (.ref f4) = true)
    (a5 : PySem.W.nsIn K mainGlobals "check_house" = some (some (.ref f5)))
    (l5 : K.lookup f5 = some ⟨oc5, od5, .func (PySem.W.fnOf "check_house" "check_house" (defArgs s_check_house) (defBody s_check_house) (defScope s_check_house) .none kV5 dc5 pm5 an5 cd5 ct5), sl5⟩)
    (c5 : PySem.W.codeIn K cd5 "check_house" = true)
    (k5 : PySem.W.keepIn K (.ref f5) = true)
    (a6 : PySem.W.nsIn K mainGlobals "check_boxes" = some (some (.ref f6)))
    (l6 : K.lookup f6 = some ⟨oc6, od6, .func (PySem.W.fnOf "check_boxes" "check_boxes" (defArgs s_check_boxes) (defBody s_check_boxes) (defScope s_check_boxes) .none kV6 dc6 pm6 an6 cd6 ct6), sl6⟩)
    (c6 : PySem.W.codeIn K cd6 "check_boxes" = true)
    (k6 : PySem.W.keepIn K (.ref f6) = true)
    (a7 : PySem.W.nsIn K mainGlobals "check_wanted" = some (some (.ref f7)))
    (l7 : K.lookup f7 = some ⟨oc7, od7, .func (PySem.W.fnOf "check_wanted" "check_wanted" (defArgs s_check_wanted) (defBody s_check_wanted) (defScope s_check_wanted) .none kV7 dc7 pm7 an7 cd7 ct7), sl7⟩)
    (c7 : PySem.W.codeIn K cd7 "check_wanted" = true)
    (k7 : PySem.W.keepIn K (.ref f7) = true)
    (a8 : PySem.W.nsIn K mainGlobals "come_to" = some (some (.ref f8)))
    (l8 : K.lookup f8 = some ⟨oc8, od8, .func (PySem.W.fnOf "come_to" "come_to" (defArgs s_come_to) (defBody s_come_to) (defScope s_come_to) .none kV8 dc8 pm8 an8 cd8 ct8), sl8⟩)
    (c8 : PySem.W.codeIn K cd8 "come_to" = true)
    (k8 : PySem.W.keepIn K (.ref f8) = true)
    (a9 : PySem.W.nsIn K mainGlobals "is_way" = some (some (.ref f9)))
    (l9 : K.lookup f9 = some ⟨oc9, od9, .func (PySem.W.fnOf "is_way" "is_way" (defArgs s_is_way) (defBody s_is_way) (defScope s_is_way) .none kV9 dc9 pm9 an9 cd9 ct9), sl9⟩)
    (c9 : PySem.W.codeIn K cd9 "is_way" = true)
    (k9 : PySem.W.keepIn K (.ref f9) = true)
    (a10 : PySem.W.findIn K (.ref C_Bars) "__init__" = some (some (.ref f10)))
    (i10 : PySem.W.isFn K (.ref f10) = true)
    (l10 : K.lookup f10 = some ⟨oc10, od10, .func (PySem.W.fnOf "__init__" "Bars.__init__" (defArgs s_Bars___init__) (defBody s_Bars___init__) (defScope s_Bars___init__) .none kV10 dc10 pm10 an10 cd10 ct10), sl10⟩)
    (c10 : PySem.W.codeIn K cd10 "Bars.__init__" = true)
    (k10 : PySem.W.keepIn K (.ref f10) = true)
    (a11 : PySem.W.findIn K (.ref C_Bars) "shows" = some (some (.ref f11)))
    (i11 : PySem.W.isFn K (.ref f11) = true)
    (l11 : K.lookup f11 = some ⟨oc11, od11, .func (PySem.W.fnOf "shows" "Bars.shows" (defArgs s_Bars_shows) (defBody s_Bars_shows) (defScope s_Bars_shows) .none kV11 dc11 pm11 an11 cd11 ct11), sl11⟩)
    (c11 : PySem.W.codeIn K cd11 "Bars.shows" = true)
    (k11 : PySem.W.keepIn K (.ref f11) = true)
    (a12 : PySem.W.nsIn K mainGlobals "next_boxes" = some (some (.ref f12)))
    (l12 : K.lookup f12 = some ⟨oc12, od12, .func (PySem.W.fnOf "next_boxes" "next_boxes" (defArgs s_next_boxes) (defBody s_next_boxes) (defScope s_next_boxes) .none kV12 dc12 pm12 an12 cd12 ct12), sl12⟩)
    (c12 : PySem.W.codeIn K cd12 "next_boxes" = true)
    (k12 : PySem.W.keepIn K (.ref f12) = true)
    (a13 : PySem.W.nsIn K mainGlobals "edges_of" = some (some (.ref f13)))
    (l13 : K.lookup f13 = some ⟨oc13, od13, .func (PySem.W.fnOf "edges_of" "edges_of" (defArgs s_edges_of) (defBody s_edges_of) (defScope s_edges_of) .none kV13 dc13 pm13 an13 cd13 ct13), sl13⟩)
    (c13 : PySem.W.codeIn K cd13 "edges_of" = true)
    (k13 : PySem.W.keepIn K (.ref f13) = true)
    (a14 : PySem.W.nsIn K mainGlobals "met_from" = some (some (.ref f14)))
    (l14 : K.lookup f14 = some ⟨oc14, od14, .func (PySem.W.fnOf "met_from" "met_from" (defArgs s_met_from) (defBody s_met_from) (defScope s_met_from) .none kV14 dc14 pm14 an14 cd14 ct14), sl14⟩)
    (c14 : PySem.W.codeIn K cd14 "met_from" = true)
    (k14 : PySem.W.keepIn K (.ref f14) = true)
    (a15 : PySem.W.nsIn K mainGlobals "used_edges" = some (some (.ref f15)))
    (l15 : K.lookup f15 = some ⟨oc15, od15, .func (PySem.W.fnOf "used_edges" "used_edges" (defArgs s_used_edges) (defBody s_used_edges) (defScope s_used_edges) .none kV15 dc15 pm15 an15 cd15 ct15), sl15⟩)
    (c15 : PySem.W.codeIn K cd15 "used_edges" = true)
    (k15 : PySem.W.keepIn K (.ref f15) = true)
    (a16 : PySem.W.nsIn K mainGlobals "led_on" = some (some (.ref f16)))
    (l16 : K.lookup f16 = some ⟨oc16, od16, .func (PySem.W.fnOf "led_on" "led_on" (defArgs s_led_on) (defBody s_led_on) (defScope s_led_on) .none kV16 dc16 pm16 an16 cd16 ct16), sl16⟩)
    (c16 : PySem.W.codeIn K cd16 "led_on" = true)
    (k16 : PySem.W.keepIn K (.ref f16) = true)
    (a17 : PySem.W.nsIn K mainGlobals "bars" = some (some (.ref f17)))
    (l17 : K.lookup f17 = some ⟨oc17, od17, .func (PySem.W.fnOf "bars" "bars" (defArgs s_bars) (defBody s_bars) (defScope s_bars) .none kV17 dc17 pm17 an17 cd17 ct17), sl17⟩)
    (c17 : PySem.W.codeIn K cd17 "bars" = true)
    (k17 : PySem.W.keepIn K (.ref f17) = true)
    (a18 : PySem.W.nsIn K mainGlobals "many_bars" = some (some (.ref f18)))
    (l18 : K.lookup f18 = some ⟨oc18, od18, .func (PySem.W.fnOf "many_bars" "many_bars" (defArgs s_many_bars) (defBody s_many_bars) (defScope s_many_bars) .none kV18 dc18 pm18 an18 cd18 ct18), sl18⟩)
    (c18 : PySem.W.codeIn K cd18 "many_bars" = true)
    (k18 : PySem.W.keepIn K (.ref f18) = true)
    (a19 : PySem.W.nsIn K mainGlobals "_law_cell_at" = some (some (.ref f19)))
    (l19 : K.lookup f19 = some ⟨oc19, od19, .func (PySem.W.fnOf "_law_cell_at" "_law_cell_at" (defArgs s__law_cell_at) (defBody s__law_cell_at) (defScope s__law_cell_at) .none kV19 dc19 pm19 an19 cd19 ct19), sl19⟩)
    (c19 : PySem.W.codeIn K cd19 "_law_cell_at" = true)
    (k19 : PySem.W.keepIn K (.ref f19) = true)
    (a20 : PySem.W.nsIn K mainGlobals "_law_draw" = some (some (.ref f20)))
    (l20 : K.lookup f20 = some ⟨oc20, od20, .func (PySem.W.fnOf "_law_draw" "_law_draw" (defArgs s__law_draw) (defBody s__law_draw) (defScope s__law_draw) .none kV20 dc20 pm20 an20 cd20 ct20), sl20⟩)
    (c20 : PySem.W.codeIn K cd20 "_law_draw" = true)
    (k20 : PySem.W.keepIn K (.ref f20) = true)
    (a21 : PySem.W.nsIn K mainGlobals "_law_number" = some (some (.ref f21)))
    (l21 : K.lookup f21 = some ⟨oc21, od21, .func (PySem.W.fnOf "_law_number" "_law_number" (defArgs s__law_number) (defBody s__law_number) (defScope s__law_number) .none kV21 dc21 pm21 an21 cd21 ct21), sl21⟩)
    (c21 : PySem.W.codeIn K cd21 "_law_number" = true)
    (k21 : PySem.W.keepIn K (.ref f21) = true)
    (a22 : PySem.W.nsIn K mainGlobals "_law_whole" = some (some (.ref f22)))
    (l22 : K.lookup f22 = some ⟨oc22, od22, .func (PySem.W.fnOf "_law_whole" "_law_whole" (defArgs s__law_whole) (defBody s__law_whole) (defScope s__law_whole) .none kV22 dc22 pm22 an22 cd22 ct22), sl22⟩)
    (c22 : PySem.W.codeIn K cd22 "_law_whole" = true)
    (k22 : PySem.W.keepIn K (.ref f22) = true)
    (a23 : PySem.W.nsIn K mainGlobals "_law_says" = some (some (.ref f23)))
    (l23 : K.lookup f23 = some ⟨oc23, od23, .func (PySem.W.fnOf "_law_says" "_law_says" (defArgs s__law_says) (defBody s__law_says) (defScope s__law_says) .none kV23 dc23 pm23 an23 cd23 ct23), sl23⟩)
    (c23 : PySem.W.codeIn K cd23 "_law_says" = true)
    (k23 : PySem.W.keepIn K (.ref f23) = true)
    (a24 : PySem.W.nsIn K mainGlobals "_law_boxes" = some (some (.ref f24)))
    (l24 : K.lookup f24 = some ⟨oc24, od24, .func (PySem.W.fnOf "_law_boxes" "_law_boxes" (defArgs s__law_boxes) (defBody s__law_boxes) (defScope s__law_boxes) .none kV24 dc24 pm24 an24 cd24 ct24), sl24⟩)
    (c24 : PySem.W.codeIn K cd24 "_law_boxes" = true)
    (k24 : PySem.W.keepIn K (.ref f24) = true)
    (a25 : PySem.W.nsIn K mainGlobals "_law_house" = some (some (.ref f25)))
    (l25 : K.lookup f25 = some ⟨oc25, od25, .func (PySem.W.fnOf "_law_house" "_law_house" (defArgs s__law_house) (defBody s__law_house) (defScope s__law_house) .none kV25 dc25 pm25 an25 cd25 ct25), sl25⟩)
    (c25 : PySem.W.codeIn K cd25 "_law_house" = true)
    (k25 : PySem.W.keepIn K (.ref f25) = true)
    (a26 : PySem.W.nsIn K mainGlobals "_law_come" = some (some (.ref f26)))
    (l26 : K.lookup f26 = some ⟨oc26, od26, .func (PySem.W.fnOf "_law_come" "_law_come" (defArgs s__law_come) (defBody s__law_come) (defScope s__law_come) .none kV26 dc26 pm26 an26 cd26 ct26), sl26⟩)
    (c26 : PySem.W.codeIn K cd26 "_law_come" = true)
    (k26 : PySem.W.keepIn K (.ref f26) = true)
    (a27 : PySem.W.nsIn K mainGlobals "_law_are_bars" = some (some (.ref f27)))
    (l27 : K.lookup f27 = some ⟨oc27, od27, .func (PySem.W.fnOf "_law_are_bars" "_law_are_bars" (defArgs s__law_are_bars) (defBody s__law_are_bars) (defScope s__law_are_bars) .none kV27 dc27 pm27 an27 cd27 ct27), sl27⟩)
    (c27 : PySem.W.codeIn K cd27 "_law_are_bars" = true)
    (k27 : PySem.W.keepIn K (.ref f27) = true)
    (a28 : PySem.W.nsIn K mainGlobals "_law_copied" = some (some (.ref f28)))
    (l28 : K.lookup f28 = some ⟨oc28, od28, .func (PySem.W.fnOf "_law_copied" "_law_copied" (defArgs s__law_copied) (defBody s__law_copied) (defScope s__law_copied) .none kV28 dc28 pm28 an28 cd28 ct28), sl28⟩)
    (c28 : PySem.W.codeIn K cd28 "_law_copied" = true)
    (k28 : PySem.W.keepIn K (.ref f28) = true)
    (a29 : PySem.W.nsIn K mainGlobals "_law_fewest" = some (some (.ref f29)))
    (l29 : K.lookup f29 = some ⟨oc29, od29, .func (PySem.W.fnOf "_law_fewest" "_law_fewest" (defArgs s__law_fewest) (defBody s__law_fewest) (defScope s__law_fewest) .none kV29 dc29 pm29 an29 cd29 ct29), sl29⟩)
    (c29 : PySem.W.codeIn K cd29 "_law_fewest" = true)
    (k29 : PySem.W.keepIn K (.ref f29) = true)
    (a30 : PySem.W.nsIn K mainGlobals "_law_right" = some (some (.ref f30)))
    (l30 : K.lookup f30 = some ⟨oc30, od30, .func (PySem.W.fnOf "_law_right" "_law_right" (defArgs s__law_right) (defBody s__law_right) (defScope s__law_right) .none kV30 dc30 pm30 an30 cd30 ct30), sl30⟩)
    (c30 : PySem.W.codeIn K cd30 "_law_right" = true)
    (k30 : PySem.W.keepIn K (.ref f30) = true)
    (a31 : PySem.W.nsIn K mainGlobals "_law_spoilt_right" = some (some (.ref f31)))
    (l31 : K.lookup f31 = some ⟨oc31, od31, .func (PySem.W.fnOf "_law_spoilt_right" "_law_spoilt_right" (defArgs s__law_spoilt_right) (defBody s__law_spoilt_right) (defScope s__law_spoilt_right) .none kV31 dc31 pm31 an31 cd31 ct31), sl31⟩)
    (c31 : PySem.W.codeIn K cd31 "_law_spoilt_right" = true)
    (k31 : PySem.W.keepIn K (.ref f31) = true)
    (a32 : PySem.W.nsIn K mainGlobals "_law_changed_right" = some (some (.ref f32)))
    (l32 : K.lookup f32 = some ⟨oc32, od32, .func (PySem.W.fnOf "_law_changed_right" "_law_changed_right" (defArgs s__law_changed_right) (defBody s__law_changed_right) (defScope s__law_changed_right) .none kV32 dc32 pm32 an32 cd32 ct32), sl32⟩)
    (c32 : PySem.W.codeIn K cd32 "_law_changed_right" = true)
    (k32 : PySem.W.keepIn K (.ref f32) = true)
    (a33 : PySem.W.nsIn K mainGlobals "_law_many_right" = some (some (.ref f33)))
    (l33 : K.lookup f33 = some ⟨oc33, od33, .func (PySem.W.fnOf "_law_many_right" "_law_many_right" (defArgs s__law_many_right) (defBody s__law_many_right) (defScope s__law_many_right) .none kV33 dc33 pm33 an33 cd33 ct33), sl33⟩)
    (c33 : PySem.W.codeIn K cd33 "_law_many_right" = true)
    (k33 : PySem.W.keepIn K (.ref f33) = true)
    (a34 : PySem.W.nsIn K mainGlobals "law" = some (some (.ref f34)))
    (l34 : K.lookup f34 = some ⟨oc34, od34, .func (PySem.W.fnOf "law" "law" (defArgs s_law) (defBody s_law) (defScope s_law) .none kV34 dc34 pm34 an34 cd34 ct34), sl34⟩)
    (c34 : PySem.W.codeIn K cd34 "law" = true)
    (k34 : PySem.W.keepIn K (.ref f34) = true)
    (pg_Way : PySem.W.plainGet K C_Way Str.empty = true)
    (hd_Way : PySem.W.hasDictIn K C_Way = true)
    (po_Way : PySem.W.plainOver K C_Way = true)
    (sa_Way : PySem.W.findIn K (.ref C_Way) "__setattr__" = some (some (.builtin "object.__setattr__")))
    (mk_Way : PySem.W.makesIn K C_Way = true)
    (kc_Way : PySem.W.keepIn K (.ref C_Way) = true)
    (pg_Never : PySem.W.plainGet K C_Never Str.empty = true)
    (hd_Never : PySem.W.hasDictIn K C_Never = true)
    (po_Never : PySem.W.plainOver K C_Never = true)
    (sa_Never : PySem.W.findIn K (.ref C_Never) "__setattr__" = some (some (.builtin "object.__setattr__")))
    (mk_Never : PySem.W.makesIn K C_Never = true)
    (kc_Never : PySem.W.keepIn K (.ref C_Never) = true)
    (pg_Bars : PySem.W.plainGet K C_Bars Str.empty = true)
    (hd_Bars : PySem.W.hasDictIn K C_Bars = true)
    (po_Bars : PySem.W.plainOver K C_Bars = true)
    (sa_Bars : PySem.W.findIn K (.ref C_Bars) "__setattr__" = some (some (.builtin "object.__setattr__")))
    (mk_Bars : PySem.W.makesIn K C_Bars = true)
    (kc_Bars : PySem.W.keepIn K (.ref C_Bars) = true)
    (pg_Answer : PySem.W.plainGet K C_Answer Str.empty = true)
    (hd_Answer : PySem.W.hasDictIn K C_Answer = true)
    (po_Answer : PySem.W.plainOver K C_Answer = true)
    (sa_Answer : PySem.W.findIn K (.ref C_Answer) "__setattr__" = some (some (.builtin "object.__setattr__")))
    (mk_Answer : PySem.W.makesIn K C_Answer = true)
    (kc_Answer : PySem.W.keepIn K (.ref C_Answer) = true)
    (n_6_0 : PySem.W.findIn K (.ref C_Bars) "barred" = some none)
    (n_6_1 : PySem.W.findIn K (.ref C_Bars) "ways" = some none)
    (z_len : PySem.W.nsIn K mainGlobals "len" = some none)
    (z_list : PySem.W.nsIn K mainGlobals "list" = some none)
    (z_sorted : PySem.W.nsIn K mainGlobals "sorted" = some none)
    (z_set : PySem.W.nsIn K mainGlobals "set" = some none)
    (z_any : PySem.W.nsIn K mainGlobals "any" = some none)
    (z_all : PySem.W.nsIn K mainGlobals "all" = some none)
    (z_range : PySem.W.nsIn K mainGlobals "range" = some none)
    (z_enumerate : PySem.W.nsIn K mainGlobals "enumerate" = some none)
    (z_zip : PySem.W.nsIn K mainGlobals "zip" = some none)
    (z_isinstance : PySem.W.nsIn K mainGlobals "isinstance" = some none)
    (z_abs : PySem.W.nsIn K mainGlobals "abs" = some none)
    (z_int : PySem.W.nsIn K mainGlobals "int" = some none)
    (z_bool : PySem.W.nsIn K mainGlobals "bool" = some none)
    (z_str : PySem.W.nsIn K mainGlobals "str" = some none)
    (z_tuple : PySem.W.nsIn K mainGlobals "tuple" = some none)
    (g_MOST_BOXES : ∃ t, PySem.W.nsIn K mainGlobals "MOST_BOXES" = some (some (.int 8 t)))
    (g_MOST_AT_ONCE : ∃ t, PySem.W.nsIn K mainGlobals "MOST_AT_ONCE" = some (some (.int 3 t)))
    (g_MOST_ACCOUNTS : ∃ t, PySem.W.nsIn K mainGlobals "MOST_ACCOUNTS" = some (some (.int 6 t)))
    (ihn : PySem.W.specialIn K (.builtin "object.__class__") "__get__" = some (some (.builtin "getset_descriptor.__get__")))
    (itk : PySem.W.takesIn K (.builtin "object.__class__") = some true)
    (ihc_6 : PySem.W.findIn K (.ref C_Bars) "__class__" = some (some (.builtin "object.__class__")))
    (imr_6 : PySem.W.mroIn K C_Bars (.type "object") = some true)
    (ik_6_4 : PySem.W.subIn K (.ref C_Bars) (.ref C_Way) = some false)
    (low_6_4 : (C_Bars == C_Way) = false)
    (ik_6_5 : PySem.W.subIn K (.ref C_Bars) (.ref C_Never) = some false)
    (low_6_5 : (C_Bars == C_Never) = false)
    (ik_6_7 : PySem.W.subIn K (.ref C_Bars) (.ref C_Answer) = some true)
    (low_6_7 : (C_Bars == C_Answer) = false)
    (g_c4 : ∃ x, PySem.W.clsIn K C_Way = some x)
    (ity_4 : PySem.W.typeIn K (.ref C_Way) = some (.type "type"))
    (g_c5 : ∃ x, PySem.W.clsIn K C_Never = some x)
    (ity_5 : PySem.W.typeIn K (.ref C_Never) = some (.type "type"))
    (g_c6 : ∃ x, PySem.W.clsIn K C_Bars = some x)
    (ity_6 : PySem.W.typeIn K (.ref C_Bars) = some (.type "type"))
    (g_c7 : ∃ x, PySem.W.clsIn K C_Answer = some x)
    (ity_7 : PySem.W.typeIn K (.ref C_Answer) = some (.type "type"))
    : ∃ fd : FuncData, (∀ (s : Shared) (v : Value), BindsTo s fd ⟨[v], []⟩ [("_law_script", v)]) ∧ ∀ base : Heap, K.In base → base.Ns mainGlobals mg → ∃ cls, FnOk l.prog w K mg base CX0 10 fa fd ["_law_script"] (spM K cls m_law) := by
  have e := hfa.symm.trans (PySem.W.mg_of X G a34)
  cases e
  obtain ⟨cls, hcls⟩ : ∃ cls : Nat → Addr, cls = (fun n => if n = 4 then C_Way else if n = 5 then C_Never else if n = 6 then C_Bars else if n = 7 then C_Answer else 0) := ⟨_, rfl⟩
  have e_Way : cls 4 = C_Way := by rw [hcls] <;> rfl
  have e_Never : cls 5 = C_Never := by rw [hcls] <;> rfl
  have e_Bars : cls 6 = C_Bars := by rw [hcls] <;> rfl
  have e_Answer : cls 7 = C_Answer := by rw [hcls] <;> rfl
  have L_Way : Cls K (cls 4) := by rw [e_Way]; exact ⟨pg_Way, hd_Way, po_Way, sa_Way⟩
  have L_Never : Cls K (cls 5) := by rw [e_Never]; exact ⟨pg_Never, hd_Never, po_Never, sa_Never⟩
  have L_Bars : Cls K (cls 6) := by rw [e_Bars]; exact ⟨pg_Bars, hd_Bars, po_Bars, sa_Bars⟩
  have L_Answer : Cls K (cls 7) := by rw [e_Answer]; exact ⟨pg_Answer, hd_Answer, po_Answer, sa_Answer⟩
  have TIj : ∀ j ∈ ([6] : List Nat), Cls K (cls j) ∧ PySem.W.findIn K (.ref (cls j)) "__class__" = some (some (.builtin "object.__class__")) ∧ PySem.W.mroIn K (cls j) (.type "object") = some true := by
    intro j hj
    simp only [List.mem_cons, List.not_mem_nil, or_false] at hj
    have e : j = 6 := hj
    · subst e
      exact ⟨L_Bars, by rw [e_Bars]; exact ihc_6, by rw [e_Bars]; exact imr_6⟩
  have TI : InsT K cls [6] := ⟨TIj, ihn, itk⟩
  have TCj_Way : ∀ j ∈ ([6] : List Nat), PySem.W.kitOne K (.ref (cls j)) (.ref (cls 4)) = some (subC j 4) := by
    intro j hj
    simp only [List.mem_cons, List.not_mem_nil, or_false] at hj
    have e : j = 6 := hj
    · subst e
      rw [e_Bars, e_Way]; exact kit_own low_6_4 g_c4 ity_4 ik_6_4
  have TC_Way : IsC K mg cls "Way" [6] 4 := ⟨by rw [e_Way]; exact PySem.W.mg_of X G aC_Way, TCj_Way⟩
  have TCj_Never : ∀ j ∈ ([6] : List Nat), PySem.W.kitOne K (.ref (cls j)) (.ref (cls 5)) = some (subC j 5) := by
    intro j hj
    simp only [List.mem_cons, List.not_mem_nil, or_false] at hj
    have e : j = 6 := hj
    · subst e
      rw [e_Bars, e_Never]; exact kit_own low_6_5 g_c5 ity_5 ik_6_5
  have TC_Never : IsC K mg cls "Never" [6] 5 := ⟨by rw [e_Never]; exact PySem.W.mg_of X G aC_Never, TCj_Never⟩
  have TCj_Bars : ∀ j ∈ ([6] : List Nat), PySem.W.kitOne K (.ref (cls j)) (.ref (cls 6)) = some (subC j 6) := by
    intro j hj
    simp only [List.mem_cons, List.not_mem_nil, or_false] at hj
    have e : j = 6 := hj
    · subst e
      exact kit_self
  have TC_Bars : IsC K mg cls "Bars" [6] 6 := ⟨by rw [e_Bars]; exact PySem.W.mg_of X G aC_Bars, TCj_Bars⟩
  have TCj_Answer : ∀ j ∈ ([6] : List Nat), PySem.W.kitOne K (.ref (cls j)) (.ref (cls 7)) = some (subC j 7) := by
    intro j hj
    simp only [List.mem_cons, List.not_mem_nil, or_false] at hj
    have e : j = 6 := hj
    · subst e
      rw [e_Bars, e_Answer]; exact kit_own low_6_7 g_c7 ity_7 ik_6_7
  have TC_Answer : IsC K mg cls "Answer" [6] 7 := ⟨by rw [e_Answer]; exact PySem.W.mg_of X G aC_Answer, TCj_Answer⟩
  have T : Tx K w mg cls := ⟨⟨PySem.W.mg_none_of X G z_len, PySem.W.mg_none_of X G z_list, PySem.W.mg_none_of X G z_sorted, PySem.W.mg_none_of X G z_set, PySem.W.mg_none_of X G z_any, PySem.W.mg_none_of X G z_all, PySem.W.mg_none_of X G z_range, PySem.W.mg_none_of X G z_enumerate, PySem.W.mg_none_of X G z_zip, PySem.W.mg_none_of X G z_isinstance, PySem.W.mg_none_of X G z_abs, PySem.W.mg_none_of X G z_int, PySem.W.mg_none_of X G z_bool, PySem.W.mg_none_of X G z_str, PySem.W.mg_none_of X G z_tuple⟩, ⟨L_Bars, by show PySem.W.findIn K (.ref (cls 6)) _ = _; rw [e_Bars]; exact n_6_0, by decide +kernel, rfl⟩, ⟨L_Bars, by show PySem.W.findIn K (.ref (cls 6)) _ = _; rw [e_Bars]; exact n_6_1, by decide +kernel, rfl⟩, g_MOST_BOXES.imp fun t ht => PySem.W.mg_of X G ht, g_MOST_AT_ONCE.imp fun t ht => PySem.W.mg_of X G ht, g_MOST_ACCOUNTS.imp fun t ht => PySem.W.mg_of X G ht, TI, TC_Way, TC_Never, TC_Bars, TC_Answer⟩
  refine ⟨PySem.W.fnOf "law" "law" (defArgs s_law) (defBody s_law) (defScope s_law) .none kV34 dc34 pm34 an34 cd34 ct34, fun s v => .of_eq rfl, fun base _ _ => ⟨cls, ?_⟩⟩
  have F0 := fun_mk (st := s_is_whole) l0 c0 k0
  have F1 := fun_mk (st := s_is_between) l1 c1 k1
  have F2 := fun_mk (st := s_are_rising) l2 c2 k2
  have F3 := fun_mk (st := s_are_boxes) l3 c3 k3
  have F4 := fun_mk (st := s_is_account) l4 c4 k4
  have F5 := fun_mk (st := s_check_house) l5 c5 k5
  have F6 := fun_mk (st := s_check_boxes) l6 c6 k6
  have F7 := fun_mk (st := s_check_wanted) l7 c7 k7
  have F8 := fun_mk (st := s_come_to) l8 c8 k8
  have F9 := fun_mk (st := s_is_way) l9 c9 k9
  have F10 := fun_mk (st := s_Bars___init__) l10 c10 k10
  have F11 := fun_mk (st := s_Bars_shows) l11 c11 k11
  have F12 := fun_mk (st := s_next_boxes) l12 c12 k12
  have F13 := fun_mk (st := s_edges_of) l13 c13 k13
  have F14 := fun_mk (st := s_met_from) l14 c14 k14
  have F15 := fun_mk (st := s_used_edges) l15 c15 k15
  have F16 := fun_mk (st := s_led_on) l16 c16 k16
  have F17 := fun_mk (st := s_bars) l17 c17 k17
  have F18 := fun_mk (st := s_many_bars) l18 c18 k18
  have F19 := fun_mk (st := s__law_cell_at) l19 c19 k19
  have F20 := fun_mk (st := s__law_draw) l20 c20 k20
  have F21 := fun_mk (st := s__law_number) l21 c21 k21
  have F22 := fun_mk (st := s__law_whole) l22 c22 k22
  have F23 := fun_mk (st := s__law_says) l23 c23 k23
  have F24 := fun_mk (st := s__law_boxes) l24 c24 k24
  have F25 := fun_mk (st := s__law_house) l25 c25 k25
  have F26 := fun_mk (st := s__law_come) l26 c26 k26
  have F27 := fun_mk (st := s__law_are_bars) l27 c27 k27
  have F28 := fun_mk (st := s__law_copied) l28 c28 k28
  have F29 := fun_mk (st := s__law_fewest) l29 c29 k29
  have F30 := fun_mk (st := s__law_right) l30 c30 k30
  have F31 := fun_mk (st := s__law_spoilt_right) l31 c31 k31
  have F32 := fun_mk (st := s__law_changed_right) l32 c32 k32
  have F33 := fun_mk (st := s__law_many_right) l33 c33 k33
  have O0 : FnOk l.prog w K mg base CX0 2 f0 _ ["thing"] (spM K cls m_is_whole) := ok_is_whole F0 T 
  have c_is_whole : C8.Cal l.prog w K mg base 2 "is_whole" (spM K cls m_is_whole) [] := ⟨f0, _, _, [], O0, PySem.W.mg_of X G a0, k0, (F0.binds (ps := ["thing"]) fun _ _ _ _ _ _ us hl => match us, hl with | [_], _ => rfl), .nil⟩
  have O1 : FnOk l.prog w K mg base CX0 3 f1 _ ["thing", "least", "most"] (spM K cls m_is_between) := ok_is_between F1 T c_is_whole
  have c_is_between : C8.Cal l.prog w K mg base 3 "is_between" (spM K cls m_is_between) [] := ⟨f1, _, _, [], O1, PySem.W.mg_of X G a1, k1, (F1.binds (ps := ["thing", "least", "most"]) fun _ _ _ _ _ _ us hl => match us, hl with | [_, _, _], _ => rfl), .nil⟩
  have O2 : FnOk l.prog w K mg base CX0 2 f2 _ ["line"] (spM K cls m_are_rising) := ok_are_rising F2 T 
  have c_are_rising : C8.Cal l.prog w K mg base 2 "are_rising" (spM K cls m_are_rising) [] := ⟨f2, _, _, [], O2, PySem.W.mg_of X G a2, k2, (F2.binds (ps := ["line"]) fun _ _ _ _ _ _ us hl => match us, hl with | [_], _ => rfl), .nil⟩
  have O3 : FnOk l.prog w K mg base CX0 4 f3 _ ["thing", "most"] (spM K cls m_are_boxes) := ok_are_boxes F3 T c_is_between c_are_rising
  have c_are_boxes : C8.Cal l.prog w K mg base 4 "are_boxes" (spM K cls m_are_boxes) [] := ⟨f3, _, _, [], O3, PySem.W.mg_of X G a3, k3, (F3.binds (ps := ["thing", "most"]) fun _ _ _ _ _ _ us hl => match us, hl with | [_, _], _ => rfl), .nil⟩
  have O4 : FnOk l.prog w K mg base CX0 5 f4 _ ["thing"] (spM K cls m_is_account) := ok_is_account F4 T c_are_boxes
  have c_is_account : C8.Cal l.prog w K mg base 5 "is_account" (spM K cls m_is_account) [] := ⟨f4, _, _, [], O4, PySem.W.mg_of X G a4, k4, (F4.binds (ps := ["thing"]) fun _ _ _ _ _ _ us hl => match us, hl with | [_], _ => rfl), .nil⟩
  have O5 : FnOk l.prog w K mg base CX0 6 f5 _ ["house"] (spM K cls m_check_house) := ok_check_house F5 T c_is_account
  have c_check_house : C8.Cal l.prog w K mg base 6 "check_house" (spM K cls m_check_house) [] := ⟨f5, _, _, [], O5, PySem.W.mg_of X G a5, k5, (F5.binds (ps := ["house"]) fun _ _ _ _ _ _ us hl => match us, hl with | [_], _ => rfl), .nil⟩
  have O6 : FnOk l.prog w K mg base CX0 5 f6 _ ["boxes"] (spM K cls m_check_boxes) := ok_check_boxes F6 T c_are_boxes
  have c_check_boxes : C8.Cal l.prog w K mg base 5 "check_boxes" (spM K cls m_check_boxes) [] := ⟨f6, _, _, [], O6, PySem.W.mg_of X G a6, k6, (F6.binds (ps := ["boxes"]) fun _ _ _ _ _ _ us hl => match us, hl with | [_], _ => rfl), .nil⟩
  have O7 : FnOk l.prog w K mg base CX0 4 f7 _ ["house", "account"] (spM K cls m_check_wanted) := ok_check_wanted F7 T c_is_between
  have c_check_wanted : C8.Cal l.prog w K mg base 4 "check_wanted" (spM K cls m_check_wanted) [] := ⟨f7, _, _, [], O7, PySem.W.mg_of X G a7, k7, (F7.binds (ps := ["house", "account"]) fun _ _ _ _ _ _ us hl => match us, hl with | [_, _], _ => rfl), .nil⟩
  have O8 : FnOk l.prog w K mg base CX0 2 f8 _ ["house", "boxes", "barred"] (spM K cls m_come_to) := ok_come_to F8 T 
  have c_come_to : C8.Cal l.prog w K mg base 2 "come_to" (spM K cls m_come_to) [] := ⟨f8, _, _, [], O8, PySem.W.mg_of X G a8, k8, (F8.binds (ps := ["house", "boxes", "barred"]) fun _ _ _ _ _ _ us hl => match us, hl with | [_, _, _], _ => rfl), .nil⟩
  have O9 : FnOk l.prog w K mg base CX0 2 f9 _ ["house", "boxes", "account", "way"] (spM K cls m_is_way) := ok_is_way F9 T 
  have c_is_way : C8.Cal l.prog w K mg base 2 "is_way" (spM K cls m_is_way) [] := ⟨f9, _, _, [], O9, PySem.W.mg_of X G a9, k9, (F9.binds (ps := ["house", "boxes", "account", "way"]) fun _ _ _ _ _ _ us hl => match us, hl with | [_, _, _, _], _ => rfl), .nil⟩
  have O10 : FnOk l.prog w K mg base CX0 2 f10 _ ["self", "barred", "ways"] (spM K cls m_Bars___init__) := ok_Bars___init__ F10 T 
  have k_Bars : C8.Mak l.prog w K mg base 2 "Bars" (cls 6) (spM K cls m_Bars___init__) [] := by rw [e_Bars]; exact ⟨f10, _, _, [], ⟨mk_Bars, a10, i10, kc_Bars⟩, O10, PySem.W.mg_of X G aC_Bars, (F10.binds (ps := ["self", "barred", "ways"]) fun _ _ _ _ _ _ us hl => match us, hl with | [_, _, _], _ => rfl), .nil⟩
  have O11 : FnOk l.prog w K mg base CX0 3 f11 _ ["self", "house", "boxes", "account"] (spM K cls m_Bars_shows) := ok_Bars_shows F11 T c_is_way c_come_to
  have t_Bars_shows : C8.Met l.prog w K mg base 3 (cls 6) "shows" (spM K cls m_Bars_shows) [] := ⟨f11, _, _, [], L_Bars, by rw [e_Bars]; exact ⟨a11, i11, k11⟩, O11, (F11.binds (ps := ["self", "house", "boxes", "account"]) fun _ _ _ _ _ _ us hl => match us, hl with | [_, _, _, _], _ => rfl), .nil⟩
  have O12 : FnOk l.prog w K mg base CX0 2 f12 _ ["house", "box"] (spM K cls m_next_boxes) := ok_next_boxes F12 T 
  have c_next_boxes : C8.Cal l.prog w K mg base 2 "next_boxes" (spM K cls m_next_boxes) [] := ⟨f12, _, _, [], O12, PySem.W.mg_of X G a12, k12, (F12.binds (ps := ["house", "box"]) fun _ _ _ _ _ _ us hl => match us, hl with | [_, _], _ => rfl), .nil⟩
  have O13 : FnOk l.prog w K mg base CX0 3 f13 _ ["house", "boxes", "account"] (spM K cls m_edges_of) := ok_edges_of F13 T c_next_boxes
  have c_edges_of : C8.Cal l.prog w K mg base 3 "edges_of" (spM K cls m_edges_of) [] := ⟨f13, _, _, [], O13, PySem.W.mg_of X G a13, k13, (F13.binds (ps := ["house", "boxes", "account"]) fun _ _ _ _ _ _ us hl => match us, hl with | [_, _, _], _ => rfl), .nil⟩
  have O14 : FnOk l.prog w K mg base CX0 2 f14 _ ["edges", "used"] (spM K cls m_met_from) := ok_met_from F14 T 
  have c_met_from : C8.Cal l.prog w K mg base 2 "met_from" (spM K cls m_met_from) [] := ⟨f14, _, _, [], O14, PySem.W.mg_of X G a14, k14, (F14.binds (ps := ["edges", "used"]) fun _ _ _ _ _ _ us hl => match us, hl with | [_, _], _ => rfl), .nil⟩
  have O15 : FnOk l.prog w K mg base CX0 3 f15 _ ["edges"] (spM K cls m_used_edges) := ok_used_edges F15 T c_met_from
  have c_used_edges : C8.Cal l.prog w K mg base 3 "used_edges" (spM K cls m_used_edges) [] := ⟨f15, _, _, [], O15, PySem.W.mg_of X G a15, k15, (F15.binds (ps := ["edges"]) fun _ _ _ _ _ _ us hl => match us, hl with | [_], _ => rfl), .nil⟩
  have O16 : FnOk l.prog w K mg base CX0 2 f16 _ ["used", "box"] (spM K cls m_led_on) := ok_led_on F16 T 
  have c_led_on : C8.Cal l.prog w K mg base 2 "led_on" (spM K cls m_led_on) [] := ⟨f16, _, _, [], O16, PySem.W.mg_of X G a16, k16, (F16.binds (ps := ["used", "box"]) fun _ _ _ _ _ _ us hl => match us, hl with | [_, _], _ => rfl), .nil⟩
  have O17 : FnOk l.prog w K mg base CX0 7 f17 _ ["house", "boxes", "account"] (spM K cls m_bars) := ok_bars F17 T c_check_house c_check_boxes c_check_wanted c_used_edges c_edges_of k_Bars c_led_on
  have c_bars : C8.Cal l.prog w K mg base 7 "bars" (spM K cls m_bars) [] := ⟨f17, _, _, [], O17, PySem.W.mg_of X G a17, k17, (F17.binds (ps := ["house", "boxes", "account"]) fun _ _ _ _ _ _ us hl => match us, hl with | [_, _, _], _ => rfl), .nil⟩
  have O18 : FnOk l.prog w K mg base CX0 8 f18 _ ["house", "boxes", "account"] (spM K cls m_many_bars) := ok_many_bars F18 T c_bars
  have c_many_bars : C8.Cal l.prog w K mg base 8 "many_bars" (spM K cls m_many_bars) [] := ⟨f18, _, _, [], O18, PySem.W.mg_of X G a18, k18, (F18.binds (ps := ["house", "boxes", "account"]) fun _ _ _ _ _ _ us hl => match us, hl with | [_, _, _], _ => rfl), .nil⟩
  have O19 : FnOk l.prog w K mg base CX0 2 f19 _ ["_law_script", "_law_k"] (spM K cls m__law_cell_at) := ok__law_cell_at F19 T 
  have c__law_cell_at : C8.Cal l.prog w K mg base 2 "_law_cell_at" (spM K cls m__law_cell_at) [] := ⟨f19, _, _, [], O19, PySem.W.mg_of X G a19, k19, (F19.binds (ps := ["_law_script", "_law_k"]) fun _ _ _ _ _ _ us hl => match us, hl with | [_, _], _ => rfl), .nil⟩
  have O20 : FnOk l.prog w K mg base CX0 2 f20 _ ["_law_cell", "_law_k", "_law_most"] (spM K cls m__law_draw) := ok__law_draw F20 T 
  have c__law_draw : C8.Cal l.prog w K mg base 2 "_law_draw" (spM K cls m__law_draw) [] := ⟨f20, _, _, [], O20, PySem.W.mg_of X G a20, k20, (F20.binds (ps := ["_law_cell", "_law_k", "_law_most"]) fun _ _ _ _ _ _ us hl => match us, hl with | [_, _, _], _ => rfl), .nil⟩
  have O21 : FnOk l.prog w K mg base CX0 3 f21 _ ["_law_cell", "_law_k", "_law_limit"] (spM K cls m__law_number) := ok__law_number F21 T c__law_draw
  have c__law_number : C8.Cal l.prog w K mg base 3 "_law_number" (spM K cls m__law_number) [] := ⟨f21, _, _, [], O21, PySem.W.mg_of X G a21, k21, (F21.binds (ps := ["_law_cell", "_law_k", "_law_limit"]) fun _ _ _ _ _ _ us hl => match us, hl with | [_, _, _], _ => rfl), .nil⟩
  have O22 : FnOk l.prog w K mg base CX0 2 f22 _ ["_law_found"] (spM K cls m__law_whole) := ok__law_whole F22 T 
  have c__law_whole : C8.Cal l.prog w K mg base 2 "_law_whole" (spM K cls m__law_whole) [] := ⟨f22, _, _, [], O22, PySem.W.mg_of X G a22, k22, (F22.binds (ps := ["_law_found"]) fun _ _ _ _ _ _ us hl => match us, hl with | [_], _ => rfl), .nil⟩
  have O23 : FnOk l.prog w K mg base CX0 2 f23 _ ["_law_said", "_law_due"] (spM K cls m__law_says) := ok__law_says F23 T 
  have c__law_says : C8.Cal l.prog w K mg base 2 "_law_says" (spM K cls m__law_says) [] := ⟨f23, _, _, [], O23, PySem.W.mg_of X G a23, k23, (F23.binds (ps := ["_law_said", "_law_due"]) fun _ _ _ _ _ _ us hl => match us, hl with | [_, _], _ => rfl), .nil⟩
  have O24 : FnOk l.prog w K mg base CX0 4 f24 _ ["_law_script", "_law_by", "_law_most"] (spM K cls m__law_boxes) := ok__law_boxes F24 T c__law_cell_at c__law_number
  have c__law_boxes : C8.Cal l.prog w K mg base 4 "_law_boxes" (spM K cls m__law_boxes) [] := ⟨f24, _, _, [], O24, PySem.W.mg_of X G a24, k24, (F24.binds (ps := ["_law_script", "_law_by", "_law_most"]) fun _ _ _ _ _ _ us hl => match us, hl with | [_, _, _], _ => rfl), .nil⟩
  have O25 : FnOk l.prog w K mg base CX0 4 f25 _ ["_law_script", "_law_by"] (spM K cls m__law_house) := ok__law_house F25 T c__law_cell_at c__law_number
  have c__law_house : C8.Cal l.prog w K mg base 4 "_law_house" (spM K cls m__law_house) [] := ⟨f25, _, _, [], O25, PySem.W.mg_of X G a25, k25, (F25.binds (ps := ["_law_script", "_law_by"]) fun _ _ _ _ _ _ us hl => match us, hl with | [_, _], _ => rfl), .nil⟩
  have O26 : FnOk l.prog w K mg base CX0 2 f26 _ ["_law_house_here", "_law_boxes_here", "_law_barred"] (spM K cls m__law_come) := ok__law_come F26 T 
  have c__law_come : C8.Cal l.prog w K mg base 2 "_law_come" (spM K cls m__law_come) [] := ⟨f26, _, _, [], O26, PySem.W.mg_of X G a26, k26, (F26.binds (ps := ["_law_house_here", "_law_boxes_here", "_law_barred"]) fun _ _ _ _ _ _ us hl => match us, hl with | [_, _, _], _ => rfl), .nil⟩
  have O27 : FnOk l.prog w K mg base CX0 3 f27 _ ["_law_house_here", "_law_boxes_here", "_law_account", "_law_barred", "_law_ways"] (spM K cls m__law_are_bars) := ok__law_are_bars F27 T c__law_come
  have c__law_are_bars : C8.Cal l.prog w K mg base 3 "_law_are_bars" (spM K cls m__law_are_bars) [] := ⟨f27, _, _, [], O27, PySem.W.mg_of X G a27, k27, (F27.binds (ps := ["_law_house_here", "_law_boxes_here", "_law_account", "_law_barred", "_law_ways"]) fun _ _ _ _ _ _ us hl => match us, hl with | [_, _, _, _, _], _ => rfl), .nil⟩
  have O28 : FnOk l.prog w K mg base CX0 2 f28 _ ["_law_house_here"] (spM K cls m__law_copied) := ok__law_copied F28 T 
  have c__law_copied : C8.Cal l.prog w K mg base 2 "_law_copied" (spM K cls m__law_copied) [] := ⟨f28, _, _, [], O28, PySem.W.mg_of X G a28, k28, (F28.binds (ps := ["_law_house_here"]) fun _ _ _ _ _ _ us hl => match us, hl with | [_], _ => rfl), .nil⟩
  have O29 : FnOk l.prog w K mg base CX0 3 f29 _ ["_law_house_here", "_law_boxes_here", "_law_account"] (spM K cls m__law_fewest) := ok__law_fewest F29 T c__law_come
  have c__law_fewest : C8.Cal l.prog w K mg base 3 "_law_fewest" (spM K cls m__law_fewest) [] := ⟨f29, _, _, [], O29, PySem.W.mg_of X G a29, k29, (F29.binds (ps := ["_law_house_here", "_law_boxes_here", "_law_account"]) fun _ _ _ _ _ _ us hl => match us, hl with | [_, _, _], _ => rfl), .nil⟩
  have O30 : FnOk l.prog w K mg base CX0 9 f30 _ ["_law_house_here", "_law_boxes_here", "_law_account", "_law_others"] (spM K cls m__law_right) := ok__law_right F30 T c__law_copied c_bars c__law_are_bars c_many_bars c__law_whole c__law_says t_Bars_shows
  have c__law_right : C8.Cal l.prog w K mg base 9 "_law_right" (spM K cls m__law_right) [] := ⟨f30, _, _, [], O30, PySem.W.mg_of X G a30, k30, (F30.binds (ps := ["_law_house_here", "_law_boxes_here", "_law_account", "_law_others"]) fun _ _ _ _ _ _ us hl => match us, hl with | [_, _, _, _], _ => rfl), .nil⟩
  have O31 : FnOk l.prog w K mg base CX0 8 f31 _ [] (spM K cls m__law_spoilt_right) := ok__law_spoilt_right F31 T c_bars t_Bars_shows
  have c__law_spoilt_right : C8.Cal l.prog w K mg base 8 "_law_spoilt_right" (spM K cls m__law_spoilt_right) [] := ⟨f31, _, _, [], O31, PySem.W.mg_of X G a31, k31, (F31.binds (ps := []) fun _ _ _ _ _ _ us hl => match us, hl with | [], _ => rfl), .nil⟩
  have O32 : FnOk l.prog w K mg base CX0 9 f32 _ [] (spM K cls m__law_changed_right) := ok__law_changed_right F32 T c_bars c_many_bars t_Bars_shows
  have c__law_changed_right : C8.Cal l.prog w K mg base 9 "_law_changed_right" (spM K cls m__law_changed_right) [] := ⟨f32, _, _, [], O32, PySem.W.mg_of X G a32, k32, (F32.binds (ps := []) fun _ _ _ _ _ _ us hl => match us, hl with | [], _ => rfl), .nil⟩
  have O33 : FnOk l.prog w K mg base CX0 9 f33 _ [] (spM K cls m__law_many_right) := ok__law_many_right F33 T c_many_bars c_bars k_Bars t_Bars_shows
  have c__law_many_right : C8.Cal l.prog w K mg base 9 "_law_many_right" (spM K cls m__law_many_right) [] := ⟨f33, _, _, [], O33, PySem.W.mg_of X G a33, k33, (F33.binds (ps := []) fun _ _ _ _ _ _ us hl => match us, hl with | [], _ => rfl), .nil⟩
  exact ok_law (fun_mk (st := s_law) l34 c34 k34) T c__law_house c__law_boxes c__law_right c__law_number c__law_cell_at c_many_bars c__law_fewest c__law_spoilt_right c__law_changed_right c__law_many_right c_bars

/-- the law's promise from its mirror -/
def spLaw (K : PySem.W.Frag) : Sp := fun vs H Q _ => ∃ (a : Addr) (ns : List Int), vs = [.ref a] ∧ ScrAt K H a ns ∧ ns.length ≤ 63 ∧ ∀ H', Q (.bl true) H'
theorem law_sp {K : PySem.W.Frag} {cls : Nat → Addr} (hl : LawHolds) (vs : List V) (H : Hp) (Q : VK) (E : XK) (h : spLaw K vs H Q E) : spM K cls m_law vs H Q E := by
  obtain ⟨a, ns, rfl, hs, hlen, q⟩ := h
  obtain ⟨st', e⟩ := hl ns hlen
  refine ⟨[], fun _ => False, [.lst (ns.map .int)], [], .bl true, st', ⟨List.nodup_nil, rfl, fun n c a h => by simp at h, fun b hb => ?_, fun b hb => by simp at hb⟩, .cons (.lst ?_ (RepL.ints ns)) .nil, e, fun u ρ' H' _ _ r => ?_⟩
  · rcases hb with hb | hb
    · simp at hb
    · exact hb.elim
  · rcases hs with hs | hs
    · exact .inl ⟨fun z => z.elim (fun z => by simp at z) id, hs⟩
    · exact .inr hs
  · cases r
    exact q H'
theorem walk (hl : LawHolds) {l : PySem.W.OpenLaw} {q : Program} {loose : List Str} {XP : (Str → Option Value) → Heap → Prop} {YP : World → Heap → Prop} {d : DefRec} {K : Params → PySem.W.Frag} (hn : l.most = some 63) (hdf : d.params.defaults = [])
    (hY : ∀ (w : World) (h : Heap), YP w h → (K w.params).In h)
    (F : ∀ (w : World) (mg : Str → Option Value) (fa : Addr) (h : Heap), (K w.params).In h → h.Ns mainGlobals mg → mg d.name = some (.ref fa) →
      ∃ fd : FuncData, (∀ (s : Shared) (u : Value), BindsTo s fd ⟨[u], []⟩ [("_law_script", u)]) ∧ ∀ base : Heap, (K w.params).In base → base.Ns mainGlobals mg → ∃ cls, FnOk l.prog w (K w.params) mg base CX0 10 fa fd ["_law_script"] (spM (K w.params) cls m_law)) :
    PySem.W.WalkO q loose XP YP l.row.toRowW d [] (fun f vs => PySem.call f vs) := by
  refine L2.walk_of (n := 63) (k := 10) (x := "_law_script") (CX := fun _ => CX0) (sp := fun w => spLaw (K w.params)) hn (by decide) hdf ⟨rfl, by decide, by decide⟩ hY (fun w mg fa h h1 h2 h3 => ?_) (fun w H a ns hl _ hS => ⟨a, ns, rfl, scr_of hS, hl, fun _ => rfl⟩) fun _ _ _ _ _ z => z
  obtain ⟨fd, b, f⟩ := F w mg fa h h1 h2 h3
  exact ⟨fd, b, fun base i1 i2 => by
    obtain ⟨cls, o⟩ := f base i1 i2
    exact o.imp (law_sp hl)⟩
end Mi
open PySem PySem.W PyProof.Rows in
set_option maxRecDepth 100000 in
set_option maxHeartbeats 0 in
theorem PySem.Challenge.cw_codemail_k11_whole_bars_holds : PySem.Challenge.rw_codemail_k11_whole_bars.Holds := by
  w_on; o_law; k_head; (case hw => w_witness2)
  k_fill
  refine Mi.walk Mi.law_holds (l := PySem.Challenge.rw_codemail_k11_whole_bars) rfl rfl (fun w h Y => PySem.W.kIn_of Y) ?F
  case F =>
    intro w mg fa h KX G hmg
    refine' Mi.all_mk KX G hmg ?aC_Way ?aC_Never ?aC_Bars ?aC_Answer ?a0 ?l0 ?c0 ?k0 ?a1 ?l1 ?c1 ?k1 ?a2 ?l2 ?c2 ?k2 ?a3 ?l3 ?c3 ?k3 ?a4 ?l4 ?c4 ?k4 ?a5 ?l5 ?c5 ?k5 ?a6 ?l6 ?c6 ?k6 ?a7 ?l7 ?c7 ?k7 ?a8 ?l8 ?c8 ?k8 ?a9 ?l9 ?c9 ?k9 ?a10 ?i10 ?l10 ?c10 ?k10 ?a11 ?i11 ?l11 ?c11 ?k11 ?a12 ?l12 ?c12 ?k12 ?a13 ?l13 ?c13 ?k13 ?a14 ?l14 ?c14 ?k14 ?a15 ?l15 ?c15 ?k15 ?a16 ?l16 ?c16 ?k16 ?a17 ?l17 ?c17 ?k17 ?a18 ?l18 ?c18 ?k18 ?a19 ?l19 ?c19 ?k19 ?a20 ?l20 ?c20 ?k20 ?a21 ?l21 ?c21 ?k21 ?a22 ?l22 ?c22 ?k22 ?a23 ?l23 ?c23 ?k23 ?a24 ?l24 ?c24 ?k24 ?a25 ?l25 ?c25 ?k25 ?a26 ?l26 ?c26 ?k26 ?a27 ?l27 ?c27 ?k27 ?a28 ?l28 ?c28 ?k28 ?a29 ?l29 ?c29 ?k29 ?a30 ?l30 ?c30 ?k30 ?a31 ?l31 ?c31 ?k31 ?a32 ?l32 ?c32 ?k32 ?a33 ?l33 ?c33 ?k33 ?a34 ?l34 ?c34 ?k34 ?pg_Way ?hd_Way ?po_Way ?sa_Way ?mk_Way ?kc_Way ?pg_Never ?hd_Never ?po_Never ?sa_Never ?mk_Never ?kc_Never ?pg_Bars ?hd_Bars ?po_Bars ?sa_Bars ?mk_Bars ?kc_Bars ?pg_Answer ?hd_Answer ?po_Answer ?sa_Answer ?mk_Answer ?kc_Answer ?n_6_0 ?n_6_1 ?z_len ?z_list ?z_sorted ?z_set ?z_any ?z_all ?z_range ?z_enumerate ?z_zip ?z_isinstance ?z_abs ?z_int ?z_bool ?z_str ?z_tuple ?g_MOST_BOXES ?g_MOST_AT_ONCE ?g_MOST_ACCOUNTS ?ihn ?itk ?ihc_6 ?imr_6 ?ik_6_4 ?low_6_4 ?ik_6_5 ?low_6_5 ?ik_6_7 ?low_6_7 ?g_c4 ?ity_4 ?g_c5 ?ity_5 ?g_c6 ?ity_6 ?g_c7 ?ity_7
    (case aC_Way => k_is)
    (case aC_Never => k_is)
    (case aC_Bars => k_is)
    (case aC_Answer => k_is)
    (case a0 => k_is)
    (case l0 => k_is)
    (case c0 => k_is)
    (case k0 => k_is)
    (case a1 => k_is)
    (case l1 => k_is)
    (case c1 => k_is)
    (case k1 => k_is)
    (case a2 => k_is)
    (case l2 => k_is)
    (case c2 => k_is)
    (case k2 => k_is)
    (case a3 => k_is)
    (case l3 => k_is)
    (case c3 => k_is)
    (case k3 => k_is)
    (case a4 => k_is)
    (case l4 => k_is)
    (case c4 => k_is)
    (case k4 => k_is)
    (case a5 => k_is)
    (case l5 => k_is)
    (case c5 => k_is)
    (case k5 => k_is)
    (case a6 => k_is)
    (case l6 => k_is)
    (case c6 => k_is)
    (case k6 => k_is)
    (case a7 => k_is)
    (case l7 => k_is)
    (case c7 => k_is)
    (case k7 => k_is)
    (case a8 => k_is)
    (case l8 => k_is)
    (case c8 => k_is)
    (case k8 => k_is)
    (case a9 => k_is)
    (case l9 => k_is)
    (case c9 => k_is)
    (case k9 => k_is)
    (case a10 => k_is)
    (case i10 => k_is)
    (case l10 => k_is)
    (case c10 => k_is)
    (case k10 => k_is)
    (case a11 => k_is)
    (case i11 => k_is)
    (case l11 => k_is)
    (case c11 => k_is)
    (case k11 => k_is)
    (case a12 => k_is)
    (case l12 => k_is)
    (case c12 => k_is)
    (case k12 => k_is)
    (case a13 => k_is)
    (case l13 => k_is)
    (case c13 => k_is)
    (case k13 => k_is)
    (case a14 => k_is)
    (case l14 => k_is)
    (case c14 => k_is)
    (case k14 => k_is)
    (case a15 => k_is)
    (case l15 => k_is)
    (case c15 => k_is)
    (case k15 => k_is)
    (case a16 => k_is)
    (case l16 => k_is)
    (case c16 => k_is)
    (case k16 => k_is)
    (case a17 => k_is)
    (case l17 => k_is)
    (case c17 => k_is)
    (case k17 => k_is)
    (case a18 => k_is)
    (case l18 => k_is)
    (case c18 => k_is)
    (case k18 => k_is)
    (case a19 => k_is)
    (case l19 => k_is)
    (case c19 => k_is)
    (case k19 => k_is)
    (case a20 => k_is)
    (case l20 => k_is)
    (case c20 => k_is)
    (case k20 => k_is)
    (case a21 => k_is)
    (case l21 => k_is)
    (case c21 => k_is)
    (case k21 => k_is)
    (case a22 => k_is)
    (case l22 => k_is)
    (case c22 => k_is)
    (case k22 => k_is)
    (case a23 => k_is)
    (case l23 => k_is)
    (case c23 => k_is)
    (case k23 => k_is)
    (case a24 => k_is)
    (case l24 => k_is)
    (case c24 => k_is)
    (case k24 => k_is)
    (case a25 => k_is)
    (case l25 => k_is)
    (case c25 => k_is)
    (case k25 => k_is)
    (case a26 => k_is)
    (case l26 => k_is)
    (case c26 => k_is)
    (case k26 => k_is)
    (case a27 => k_is)
    (case l27 => k_is)
    (case c27 => k_is)
    (case k27 => k_is)
    (case a28 => k_is)
    (case l28 => k_is)
    (case c28 => k_is)
    (case k28 => k_is)
    (case a29 => k_is)
    (case l29 => k_is)
    (case c29 => k_is)
    (case k29 => k_is)
    (case a30 => k_is)
    (case l30 => k_is)
    (case c30 => k_is)
    (case k30 => k_is)
    (case a31 => k_is)
    (case l31 => k_is)
    (case c31 => k_is)
    (case k31 => k_is)
    (case a32 => k_is)
    (case l32 => k_is)
    (case c32 => k_is)
    (case k32 => k_is)
    (case a33 => k_is)
    (case l33 => k_is)
    (case c33 => k_is)
    (case k33 => k_is)
    (case a34 => k_is)
    (case l34 => k_is)
    (case c34 => k_is)
    (case k34 => k_is)
    (case pg_Way => k_is)
    (case hd_Way => k_is)
    (case po_Way => k_is)
    (case sa_Way => k_is)
    (case mk_Way => k_is)
    (case kc_Way => k_is)
    (case pg_Never => k_is)
    (case hd_Never => k_is)
    (case po_Never => k_is)
    (case sa_Never => k_is)
    (case mk_Never => k_is)
    (case kc_Never => k_is)
    (case pg_Bars => k_is)
    (case hd_Bars => k_is)
    (case po_Bars => k_is)
    (case sa_Bars => k_is)
    (case mk_Bars => k_is)
    (case kc_Bars => k_is)
    (case pg_Answer => k_is)
    (case hd_Answer => k_is)
    (case po_Answer => k_is)
    (case sa_Answer => k_is)
    (case mk_Answer => k_is)
    (case kc_Answer => k_is)
    (case n_6_0 => k_is)
    (case n_6_1 => k_is)
    (case z_len => k_is)
    (case z_list => k_is)
    (case z_sorted => k_is)
    (case z_set => k_is)
    (case z_any => k_is)
    (case z_all => k_is)
    (case z_range => k_is)
    (case z_enumerate => k_is)
    (case z_zip => k_is)
    (case z_isinstance => k_is)
    (case z_abs => k_is)
    (case z_int => k_is)
    (case z_bool => k_is)
    (case z_str => k_is)
    (case z_tuple => k_is)
    (case g_MOST_BOXES => exact ⟨_, by k_is⟩)
    (case g_MOST_AT_ONCE => exact ⟨_, by k_is⟩)
    (case g_MOST_ACCOUNTS => exact ⟨_, by k_is⟩)
    (case ihn => k_is)
    (case itk => k_is)
    (case ihc_6 => k_is)
    (case imr_6 => k_is)
    (case ik_6_4 => k_is)
    (case low_6_4 => first | rfl | decide | k_is)
    (case ik_6_5 => k_is)
    (case low_6_5 => first | rfl | decide | k_is)
    (case ik_6_7 => k_is)
    (case low_6_7 => first | rfl | decide | k_is)
    (case g_c4 => exact ⟨_, by k_is⟩)
    (case ity_4 => k_is)
    (case g_c5 => exact ⟨_, by k_is⟩)
    (case ity_5 => k_is)
    (case g_c6 => exact ⟨_, by k_is⟩)
    (case ity_6 => k_is)
    (case g_c7 => exact ⟨_, by k_is⟩)
    (case ity_7 => k_is)
