import PyProof.Rows.All
import Wide.All
import OpenK.AllK
import Wide.FinOn
import HandS.ForMost
import HandS.Deep
import HandS.Wide
import HandS.TupAny
import HandS.Style
import HandS.SortInts
import HandS.IsInst
import HandS.Codes
import HandS.Conv
import HandS.Iter
import HandS.Lambda
import HandS.SetFor
import HandS.Strs
import HandS.NoneIn
import HandS.More
import PyProof.ReprRoads
import KE.KDictDisplayH
import HandS.HotCalls
import PyProof.ExcBaseAll.ValueError
import HandS.Nested
import HandS.ExcIs
import HandS.EndTab
import PySem.Challenge.RW_codemail_k17_whole_anew
set_option Elab.async false
set_option linter.all false
set_option maxRecDepth 100000
/-! Mi, first part: what a def does, as a plain function (the mirror's words). -/
namespace Mi
open PySem

inductive Val where
  | non | bl (b : Bool) | int (i : Int) | str (s : Str) | ref (n : Nat)
  | lst (xs : List Val) | tup (xs : List Val)
  /-- a lambda of the kind i, with what it captured -/
  | fn (i : Nat) (cs : List Val)

/-- what stands at a place of the store -/
inductive Cell where
  | lst (xs : List Val)
  | ins (C : Nat) (vs : List Val)
  | dk (kvs : List (L2.Key × Val))
  | dt (kvs : List (List L2.Key × Val))
  /-- the k-th table of code objects -/
  | tb (k : Nat)

abbrev Sto := List Cell
inductive Slot where
  | no | val (v : Val) | own (xs : List Val)
abbrev Sl := List Slot

abbrev E := Sl → Sto → Option (Val × Sto)
abbrev T := Sl → Sto → Option (Bool × Sto)
abbrev L := Sl → Sto → Option (List Val × Sto)
inductive Out where
  | nx | rt (v : Val) | bk | ct
abbrev S := Sl → Sto → Option (Out × Sl × Sto)
abbrev G := Val → Sl → Sto → Option Sl
abbrev F := List Val → Sto → Option (Val × Sto)

/-! ### values -/
def viewL (st : Sto) : Val → Option (List Val)
  | .lst xs => some xs
  | .tup xs => some xs
  | .ref n => match st[n]? with
    | some (.lst xs) => some xs
    | _ => none
  | _ => none
/-- .. lists alone -/
def viewQ (st : Sto) : Val → Option (List Val)
  | .lst xs => some xs
  | .ref n => match st[n]? with
    | some (.lst xs) => some xs
    | _ => none
  | _ => none
/-- a value as data -/
def pd (st : Sto) : Nat → Val → Option PyData
  | _, .non => some .none
  | _, .bl b => some (.bool b)
  | _, .int i => some (.int i)
  | _, .str s => if PyData.canLay0 (.str s) then some (.str s) else none
  | 0, _ => none
  | _, .fn _ _ => none
  | n + 1, .lst xs => (xs.mapM (pd st n)).map .list
  | n + 1, .tup xs => (xs.mapM (pd st n)).map .tuple
  | n + 1, .ref r => match st[r]? with
    | some (.lst xs) => (xs.mapM (pd st n)).map .list
    | _ => none
def deep : Nat := 20
def veq (st : Sto) (x y : Val) : Option Bool := (pd st deep x).bind fun a => (pd st deep y).bind fun b => some (PyData.eqv a b)
def flat : Val → Bool
  | .non => true
  | .bl _ => true
  | .int _ => true
  | .str _ => true
  | _ => false
/-- == of flat values -/
def feq : Val → Val → Bool
  | .non, .non => true
  | .bl a, .bl b => a == b
  | .bl a, .int b => (if a then 1 else 0) == b
  | .int a, .bl b => a == (if b then 1 else 0)
  | .int a, .int b => a == b
  | .str a, .str b => a == b
  | _, _ => false
def fin (x : Val) (xs : List Val) : Bool := xs.any fun y => feq y x
def isLst : Val → Bool
  | .tup _ => false
  | _ => true
def vin (st : Sto) (x y : Val) : Option Bool := (viewL st y).bind fun xs =>
  if flat x && xs.all flat then some (fin x xs) else
  if isLst y then (pd st deep x).bind fun d => (xs.mapM (pd st deep)).bind fun ds => some (ds.any fun z => PyData.eqv z d) else none

/-! ### expressions -/
def eC (v : Val) : E := fun _ st => some (v, st)
def eVar (i : Nat) : E := fun sl st => match sl[i]? with
  | some (.val v) => some (v, st)
  | _ => none
/-- an owned list is read, too -/
def eVarO (i : Nat) : E := fun sl st => match sl[i]? with
  | some (.val v) => some (v, st)
  | some (.own xs) => some (.lst xs, st)
  | _ => none
def e1 (op : Sto → Val → Option Val) (a : E) : E := fun sl st => (a sl st).bind fun p => (op p.2 p.1).bind fun z => some (z, p.2)
def e2 (op : Sto → Val → Val → Option Val) (a b : E) : E := fun sl st => (a sl st).bind fun p => (b sl p.2).bind fun q => (op q.2 p.1 q.1).bind fun z => some (z, q.2)
def oI (f : Int → Int → Int) : Sto → Val → Val → Option Val
  | _, .int i, .int j => some (.int (f i j))
  | _, _, _ => none
def oIc (c : Int → Int → Bool) (f : Int → Int → Int) : Sto → Val → Val → Option Val
  | _, .int i, .int j => if c i j then some (.int (f i j)) else none
  | _, _, _ => none
def oB (f : Int → Int → Bool) : Sto → Val → Val → Option Val
  | _, .int i, .int j => some (.bl (f i j))
  | _, _, _ => none
def big : Nat := 2 ^ 400
/-- + : numbers, lists, tuples -/
def oAdd : Sto → Val → Val → Option Val
  | _, .int i, .int j => some (.int (i + j))
  | _, .tup xs, .tup ys => if xs.length + ys.length ≤ 100000 then some (.tup (xs ++ ys)) else none
  | st, x, y => (viewQ st x).bind fun xs => (viewQ st y).bind fun ys => if xs.length + ys.length ≤ 100000 then some (.lst (xs ++ ys)) else none
def oSub := oI fun i j => i - j
def oMulI := oIc (fun i j => decide (i.natAbs < big) && decide (j.natAbs < big)) fun i j => i * j
/-- * : numbers, a list and a number -/
def oMul : Sto → Val → Val → Option Val
  | st, .int i, .int j => oMulI st (.int i) (.int j)
  | st, x, .int k => (viewQ st x).bind fun xs => if -1000000 ≤ k ∧ k ≤ 1000000 ∧ xs.length * k.toNat ≤ 100000 then some (.lst (List.replicate k.toNat xs).flatten) else none
  | _, _, _ => none
def oMod := oIc (fun _ j => decide (0 < j)) fun i j => i % j
def oDiv := oIc (fun _ j => decide (0 < j) && decide (j < 1073741824)) fun i j => i / j
def oPow := oIc (fun i j => decide (0 ≤ j) && decide (j ≤ 1000) && decide (i.natAbs < 2 ^ 64)) fun i j => i ^ j.toNat
def oShl := oIc (fun i j => decide (0 ≤ j) && decide (j ≤ 1000) && decide (i.natAbs < 2 ^ 64)) fun i j => i * 2 ^ j.toNat
def oShr := oIc (fun _ j => decide (0 ≤ j)) fun i j => i / 2 ^ j.toNat
def oAnd := oI fun i j => Builtin.bitAnd i j
/-- ≤, < of numbers, by their build (for the kernel's sake) -/
def leB : Int → Int → Bool
  | .ofNat a, .ofNat b => Nat.ble a b
  | .negSucc _, .ofNat _ => true
  | .ofNat _, .negSucc _ => false
  | .negSucc a, .negSucc b => Nat.ble b a
theorem leB_eq (i j : Int) : leB i j = decide (i ≤ j) := by
  rw [Bool.eq_iff_iff, decide_eq_true_iff]
  cases i with
  | ofNat a => cases j with
    | ofNat b =>
      show Nat.ble a b = true ↔ (a : Int) ≤ (b : Int)
      rw [Nat.ble_eq]
      omega
    | negSucc b =>
      have h : Int.negSucc b = -((b : Int) + 1) := Int.negSucc_eq b
      rw [h]
      constructor
      · intro z; cases z
      · intro z; have z : (a : Int) ≤ -((b : Int) + 1) := z; omega
  | negSucc a => cases j with
    | ofNat b =>
      have h : Int.negSucc a = -((a : Int) + 1) := Int.negSucc_eq a
      rw [h]
      constructor
      · intro _; show -((a : Int) + 1) ≤ (b : Int); omega
      · intro _; rfl
    | negSucc b =>
      rw [Int.negSucc_eq a, Int.negSucc_eq b]
      show Nat.ble b a = true ↔ _
      rw [Nat.ble_eq]
      omega
def ltB (i j : Int) : Bool := !leB j i
theorem ltB_eq (i j : Int) : ltB i j = decide (i < j) := by
  unfold ltB
  rw [leB_eq, ← decide_not]
  exact decide_eq_decide.mpr (by omega)
def oLt := oB ltB
def oLe := oB leB
def oGt := oB fun i j => ltB j i
def oGe := oB fun i j => leB j i
def oEq : Sto → Val → Val → Option Val := fun st x y => (veq st x y).map .bl
def oNe : Sto → Val → Val → Option Val := fun st x y => (veq st x y).map fun b => .bl (!b)
def oIn : Sto → Val → Val → Option Val := fun st x y => (vin st x y).map .bl
def oNin : Sto → Val → Val → Option Val := fun st x y => (vin st x y).map fun b => .bl (!b)
/-- is, is not, with True, False -/
def oIs : Sto → Val → Val → Option Val
  | _, .bl a, .bl b => some (.bl (a == b))
  | _, _, _ => none
def oIsn : Sto → Val → Val → Option Val
  | _, .bl a, .bl b => some (.bl (!(a == b)))
  | _, _, _ => none
/-- x[i] -/
def oIx : Sto → Val → Val → Option Val
  | st, x, .int i => (viewL st x).bind fun xs => L2.atI xs i
  | _, _, _ => none
def oNeg : Sto → Val → Option Val
  | _, .int i => some (.int (-i))
  | _, _ => none
def oAbs : Sto → Val → Option Val
  | _, .int i => some (.int (if i < 0 then -i else i))
  | _, _ => none
def oInt : Sto → Val → Option Val
  | _, .bl b => some (.int (if b then 1 else 0))
  | _, .int i => some (.int i)
  | _, _ => none
def oLen : Sto → Val → Option Val := fun st x => (viewL st x).bind fun xs => some (.int (xs.length : Nat))

/-! ### tests -/
def tE (e : E) : T := fun sl st => (e sl st).bind fun p => match p.1 with
  | .bl b => some (b, p.2)
  | _ => none
def tAnd (a b : T) : T := fun sl st => (a sl st).bind fun p => if p.1 then b sl p.2 else some (false, p.2)
def tOr (a b : T) : T := fun sl st => (a sl st).bind fun p => if p.1 then some (true, p.2) else b sl p.2
def tNot (a : T) : T := fun sl st => (a sl st).bind fun p => some (!p.1, p.2)
def eIf (t : T) (a b : E) : E := fun sl st => (t sl st).bind fun p => if p.1 then a sl p.2 else b sl p.2
/-- and, or, not of truths as values -/
def eAnd (a b : E) : E := fun sl st => (a sl st).bind fun p => match p.1 with
  | .bl true => b sl p.2
  | .bl false => some (.bl false, p.2)
  | _ => none
def eOr (a b : E) : E := fun sl st => (a sl st).bind fun p => match p.1 with
  | .bl true => some (.bl true, p.2)
  | .bl false => b sl p.2
  | _ => none
def eNot (a : E) : E := fun sl st => (a sl st).bind fun p => match p.1 with
  | .bl b => some (.bl (!b), p.2)
  | _ => none
/-- a < b < c -/
def eCh (op op' : Sto → Val → Val → Option Val) (a b c : E) : E := fun sl st => (a sl st).bind fun p => (b sl p.2).bind fun q => (op q.2 p.1 q.1).bind fun z => match z with
  | .bl true => (c sl q.2).bind fun r => (op' r.2 q.1 r.1).bind fun z' => match z' with
    | .bl b => some (.bl b, r.2)
    | _ => none
  | .bl false => some (.bl false, q.2)
  | _ => none

/-! ### lists of expressions, displays -/
def aNil : L := fun _ st => some ([], st)
def aCons (a : E) (r : L) : L := fun sl st => (a sl st).bind fun p => (r sl p.2).bind fun q => some (p.1 :: q.1, q.2)
def eTup (a : L) : E := fun sl st => (a sl st).bind fun p => if p.1.length ≤ 100000 then some (.tup p.1, p.2) else none
/-- a new list as data, as a place of the store -/
def eD (l : L) : E := fun sl st => (l sl st).bind fun p => some (.lst p.1, p.2)
def eK (l : L) : E := fun sl st => (l sl st).bind fun p => some (.ref p.2.length, p.2 ++ [.lst p.1])
def lDisp (a : L) : L := fun sl st => (a sl st).bind fun p => if p.1.length ≤ 100000 then some p else none
/-- a new list by an operation -/
def l1 (op : Sto → Val → Option (List Val)) (a : E) : L := fun sl st => (a sl st).bind fun p => (op p.2 p.1).bind fun z => some (z, p.2)
def l2 (op : Sto → Val → Val → Option (List Val)) (a b : E) : L := fun sl st => (a sl st).bind fun p => (b sl p.2).bind fun q => (op q.2 p.1 q.1).bind fun z => some (z, q.2)
def oCat : Sto → Val → Val → Option (List Val) := fun st x y => (viewQ st x).bind fun xs => (viewQ st y).bind fun ys => if xs.length + ys.length ≤ 100000 then some (xs ++ ys) else none
def oRep : Sto → Val → Val → Option (List Val)
  | st, x, .int k => (viewQ st x).bind fun xs => if -1000000 ≤ k ∧ k ≤ 1000000 ∧ xs.length * k.toNat ≤ 100000 then some (List.replicate k.toNat xs).flatten else none
  | _, _, _ => none
def oList : Sto → Val → Option (List Val) := fun st x => viewL st x
def allInt : List Val → Option (List Int)
  | [] => some []
  | .int i :: r => (allInt r).bind fun l => some (i :: l)
  | _ => none
/-- in rising order -/
def insI (i : Int) : List Int → List Int
  | [] => [i]
  | j :: r => if i ≤ j then i :: j :: r else j :: insI i r
def sortI : List Int → List Int
  | [] => []
  | i :: r => insI i (sortI r)
def oSort : Sto → Val → Option (List Val) := fun st x => (viewQ st x).bind fun xs => (allInt xs).bind fun ns => some ((sortI ns).map .int)
/-- sorted(set(x)): each once, rising -/
def insU (i : Int) : List Int → List Int
  | [] => [i]
  | j :: r => if i < j then i :: j :: r else if i = j then j :: r else j :: insU i r
def sortU : List Int → List Int
  | [] => []
  | i :: r => insU i (sortU r)
def oSortU : Sto → Val → Option (List Val) := fun st x => (viewQ st x).bind fun xs => (allInt xs).bind fun ns => if ns.length < 64 then some ((sortU ns).map .int) else none
/-- len(set(x)) -/
def oLenU : Sto → Val → Option Val := fun st x => (viewQ st x).bind fun xs => (allInt xs).bind fun ns => if ns.length < 64 then some (.int ((sortU ns).length : Nat)) else none
/-- list(range(n)), list(range(a, b)) -/
def oRg1 : Sto → Val → Option (List Val)
  | _, .int n => if -1000000 ≤ n ∧ n ≤ 100000 then some ((List.range n.toNat).map fun i => .int (i : Nat)) else none
  | _, _ => none
def oRg2 : Sto → Val → Val → Option (List Val)
  | _, .int a, .int b => if -1000000 ≤ a ∧ a ≤ 1000000 ∧ -1000000 ≤ b ∧ b ≤ 100000 ∧ b - a ≤ 100000 then some ((List.range (b - a).toNat).map fun i => .int (a + (i : Nat))) else none
  | _, _, _ => none
def oRev : Sto → Val → Option (List Val) := fun st x => (viewQ st x).bind fun xs => some xs.reverse
/-- x[a:b], ends that may lack -/
abbrev P := Sl → Sto → Option (Option Int × Sto)
def pN : P := fun _ st => some (none, st)
def pS (e : E) : P := fun sl st => (e sl st).bind fun p => match p.1 with
  | .int i => some (some i, p.2)
  | _ => none
def cut {α : Type} (xs : List α) (lo hi : Option Int) : List α := (xs.drop (HT.sIx xs.length 0 lo)).take (HT.sIx xs.length xs.length hi - HT.sIx xs.length 0 lo)
def lSl (a : E) (lo hi : P) : L := fun sl st => (a sl st).bind fun p => (lo sl p.2).bind fun q => (hi sl q.2).bind fun r => (viewQ r.2 p.1).bind fun xs => some (cut xs q.1 r.1, r.2)
/-- .. of a list or a tuple -/
def eSl (a : E) (lo hi : P) : E := fun sl st => (a sl st).bind fun p => (lo sl p.2).bind fun q => (hi sl q.2).bind fun r => match p.1 with
  | .tup xs => some (.tup (cut xs q.1 r.1), r.2)
  | x => (viewQ r.2 x).bind fun xs => some (.lst (cut xs q.1 r.1), r.2)

/-! ### what is walked -/
inductive Src where
  | seq (v : Val) | rng (lo : Int) (n : Nat) | enum (v : Val) | zip (v w : Val)
abbrev I := Sl → Sto → Option (Src × Sto)
/-- the item at a turn: none where it can't be told, some none behind the last -/
def Src.item (st : Sto) : Src → Nat → Option (Option Val)
  | .seq v, i => (viewL st v).bind fun xs => some xs[i]?
  | .rng lo n, i => some (if i < n then some (.int (lo + (i : Nat))) else none)
  | .enum v, i => (viewQ st v).bind fun xs => some (xs[i]?.map fun x => .tup [.int (i : Nat), x])
  | .zip v w, i => (viewQ st v).bind fun xs => (viewQ st w).bind fun ys => some (match xs[i]?, ys[i]? with
    | some x, some y => some (.tup [x, y])
    | _, _ => none)
def Src.len (st : Sto) : Src → Nat
  | .seq v => ((viewL st v).getD []).length
  | .rng _ n => n
  | .enum v => ((viewQ st v).getD []).length
  | .zip v _ => ((viewQ st v).getD []).length
def iSeq (e : E) : I := fun sl st => (e sl st).bind fun p => (viewL p.2 p.1).bind fun _ => some (.seq p.1, p.2)
def iRg1 (e : E) : I := fun sl st => (e sl st).bind fun p => match p.1 with
  | .int n => if -1000000 ≤ n ∧ n ≤ 1000000 then some (.rng 0 n.toNat, p.2) else none
  | _ => none
def iRg2 (a b : E) : I := fun sl st => (a sl st).bind fun p => (b sl p.2).bind fun q => match p.1, q.1 with
  | .int i, .int j => if -1000000 ≤ i ∧ i ≤ 1000000 ∧ -1000000 ≤ j ∧ j ≤ 1000000 then some (.rng i (j - i).toNat, q.2) else none
  | _, _ => none
/-- range(a, b, c), c above 0 -/
def iEnum (e : E) : I := fun sl st => (e sl st).bind fun p => (viewQ p.2 p.1).bind fun _ => some (.enum p.1, p.2)
def iZip (a b : E) : I := fun sl st => (a sl st).bind fun p => (b sl p.2).bind fun q => (viewQ q.2 p.1).bind fun _ => (viewQ q.2 q.1).bind fun _ => some (.zip p.1 q.1, q.2)

/-! ### targets -/
def gName (i : Nat) : G := fun v sl _ => if i < sl.length then some (sl.set i (.val v)) else none
abbrev Gs := List Val → Sl → Sto → Option Sl
def gNil : Gs := fun vs sl _ => match vs with
  | [] => some sl
  | _ => none
def gCons (g : G) (r : Gs) : Gs := fun vs sl st => match vs with
  | v :: vs => (g v sl st).bind fun sl => r vs sl st
  | _ => none
def gTup (n : Nat) (r : Gs) : G := fun v sl st => match v with
  | .tup xs => if xs.length = n then r xs sl st else none
  | _ => none
/-- .. a list is taken apart, too -/
def gSeq (n : Nat) (r : Gs) : G := fun v sl st => (viewL st v).bind fun xs => if xs.length = n then r xs sl st else none

/-! ### comprehensions -/
def wipe (sl : Sl) : List Nat → Sl
  | [] => sl
  | i :: r => (wipe sl r).set i .no
/-- no slot of these is a list of its own -/
def noOwn (sl : Sl) : List Nat → Bool
  | [] => true
  | i :: r => (match sl[i]? with
    | some (.own _) => false
    | _ => true) && noOwn sl r
def lcLoop (src : Src) (vs : List Nat) (g : G) (t : T) (e : E) (sl : Sl) : Nat → Nat → List Val → Sto → Option (List Val × Sto)
  | n, i, acc, st => match src.item st i with
    | some (some x) => match n with
      | 0 => none
      | n + 1 => (g x (wipe sl vs) st).bind fun sl1 => (t sl1 st).bind fun p =>
        if p.1 then (e sl1 p.2).bind fun q => if acc.length < 100000 then lcLoop src vs g t e sl n (i + 1) (acc ++ [q.1]) q.2 else none
        else lcLoop src vs g t e sl n (i + 1) acc p.2
    | some none => some (acc, st)
    | none => none
def lComp (s : I) (vs : List Nat) (g : G) (t : T) (e : E) : L := fun sl st => if noOwn sl vs then (s sl st).bind fun p => lcLoop p.1 vs g t e sl (p.1.len p.2) 0 [] p.2 else none
def tTrue : T := fun _ st => some (true, st)
def allBl : List Val → Option (List Bool)
  | [] => some []
  | .bl b :: r => (allBl r).bind fun l => some (b :: l)
  | _ => none
def eAny (l : L) : E := fun sl st => (l sl st).bind fun p => (allBl p.1).bind fun bs => some (.bl (bs.any id), p.2)
def eAll (l : L) : E := fun sl st => (l sl st).bind fun p => (allBl p.1).bind fun bs => some (.bl (bs.all id), p.2)

/-! ### objects, calls -/
/-- the attributes of each class, in the order in which they are first set -/
def nms : Nat → List Str
  | 0 => ["many", "kind", "life", "tries", "gone", "codes", "wrong", "boxes"]
  | 1 => ["state", "lines"]
  | 3 => ["line"]
  | 4 => ["accounts"]
  | 5 => ["boxes"]
  | 6 => ["barred", "ways"]
  | _ => []
def oFld (C k : Nat) : Sto → Val → Option Val
  | st, .ref n => match st[n]? with
    | some (.ins D vs) => if D = C then vs[k]? else none
    | _ => none
  | _, _ => none
/-- an attribute is set: a new one at the end, or one that is there -/
def putA (vs : List Val) (k : Nat) (v : Val) : Option (List Val) := if k < vs.length then some (vs.set k v) else if k = vs.length then some (vs ++ [v]) else none
def eCall (m : F) (a : L) : E := fun sl st => (a sl st).bind fun p => m p.1 p.2
/-- o.m(..): by the class of o -/
def isIns (st : Sto) (C : Nat) : Val → Bool
  | .ref n => match st[n]? with
    | some (.ins D _) => D == C
    | _ => false
  | _ => false
def eMeth (C : Nat) (m : F) (o : E) (a : L) : E := fun sl st => (o sl st).bind fun p => if isIns p.2 C p.1 then (a sl p.2).bind fun q => m (p.1 :: q.1) q.2 else none
def eMeth2 (C : Nat) (m : F) (C' : Nat) (m' : F) (o : E) (a : L) : E := fun sl st => (o sl st).bind fun p =>
  if isIns p.2 C p.1 then (a sl p.2).bind fun q => m (p.1 :: q.1) q.2
  else if isIns p.2 C' p.1 then (a sl p.2).bind fun q => m' (p.1 :: q.1) q.2 else none
def eNew (C : Nat) (m : F) (a : L) : E := fun sl st => (a sl st).bind fun p => (m (.ref p.2.length :: p.1) (p.2 ++ [.ins C []])).bind fun q => match q.1 with
  | .non => some (.ref p.2.length, q.2)
  | _ => none

/-! ### statements -/
def sSkip : S := fun sl st => some (.nx, sl, st)
def sSeq (a b : S) : S := fun sl st => (a sl st).bind fun p => match p.1 with
  | .nx => b p.2.1 p.2.2
  | _ => some p
def sDrop (e : E) : S := fun sl st => (e sl st).bind fun p => some (.nx, sl, p.2)
def sRet (e : E) : S := fun sl st => (e sl st).bind fun p => some (.rt p.1, sl, p.2)
def sAsg (e : E) (g : G) : S := fun sl st => (e sl st).bind fun p => (g p.1 sl p.2).bind fun sl => some (.nx, sl, p.2)
/-- a new list, the slot's own -/
def sOwn (i : Nat) (l : L) : S := fun sl st => (l sl st).bind fun p => if i < sl.length then some (.nx, sl.set i (.own p.1), p.2) else none
def sPar (i j : Nat) (a b : E) : S := fun sl st => (a sl st).bind fun p => (b sl p.2).bind fun q => if i < sl.length ∧ j < sl.length then some (.nx, (sl.set i (.val p.1)).set j (.val q.1), q.2) else none
/-- a, b = [..], [..]: each the slot's own, or kept as a value -/
def sParOO (i j : Nat) (a b : L) : S := fun sl st => (a sl st).bind fun p => (b sl p.2).bind fun q => if i < sl.length ∧ j < sl.length then some (.nx, (sl.set i (.own p.1)).set j (.own q.1), q.2) else none
def sParVO (i j : Nat) (a : E) (b : L) : S := fun sl st => (a sl st).bind fun p => (b sl p.2).bind fun q => if i < sl.length ∧ j < sl.length then some (.nx, (sl.set i (.val p.1)).set j (.own q.1), q.2) else none
def sIf (t : T) (a b : S) : S := fun sl st => (t sl st).bind fun p => if p.1 then a sl p.2 else b sl p.2
def forLoop (src : Src) (g : G) (b : S) : Nat → Nat → Sl → Sto → Option (Out × Sl × Sto)
  | n, i, sl, st => match src.item st i with
    | some (some x) => match n with
      | 0 => none
      | n + 1 => (g x sl st).bind fun sl1 => (b sl1 st).bind fun p => match p.1 with
        | .nx => forLoop src g b n (i + 1) p.2.1 p.2.2
        | .ct => forLoop src g b n (i + 1) p.2.1 p.2.2
        | .bk => some (.nx, p.2)
        | .rt v => some (.rt v, p.2)
    | some none => some (.nx, sl, st)
    | none => none
def sFor (s : I) (g : G) (b : S) : S := fun sl st => (s sl st).bind fun p => forLoop p.1 g b (p.1.len p.2) 0 sl p.2
def whLoop (t : T) (b : S) : Nat → Sl → Sto → Option (Out × Sl × Sto)
  | 0, _, _ => none
  | n + 1, sl, st => (t sl st).bind fun p => if p.1 then (b sl p.2).bind fun q => match q.1 with
        | .nx => whLoop t b n q.2.1 q.2.2
        | .ct => whLoop t b n q.2.1 q.2.2
        | .bk => some (.nx, q.2)
        | .rt v => some (.rt v, q.2)
    else some (.nx, sl, p.2)
/-- n: a number of turns that is enough -/
def sWhile (n : Nat) (t : T) (b : S) : S := whLoop t b n
/-- x.append(e), x.extend(e) of the slot's own list -/
def sApp (i : Nat) (e : E) : S := fun sl st => match sl[i]? with
  | some (.own xs) => (e sl st).bind fun p => if xs.length < 100000 then some (.nx, sl.set i (.own (xs ++ [p.1])), p.2) else none
  | _ => none
def sExt (i : Nat) (l : L) : S := fun sl st => match sl[i]? with
  | some (.own xs) => (l sl st).bind fun p => if xs.length + p.1.length ≤ 100000 then some (.nx, sl.set i (.own (xs ++ p.1)), p.2) else none
  | _ => none
/-- o.append(e), o a list of the store -/
def sAppK (o e : E) : S := fun sl st => (o sl st).bind fun p => match p.1 with
  | .ref n => match p.2[n]? with
    | some (.lst _) => (e sl p.2).bind fun q => match q.2[n]? with
      | some (.lst xs) => if xs.length < 100000 then some (.nx, sl, q.2.set n (.lst (xs ++ [q.1]))) else none
      | _ => none
    | _ => none
  | _ => none
/-- o.f = e -/
def sFld (C k : Nat) (o e : E) : S := fun sl st => (e sl st).bind fun p => (o sl p.2).bind fun q => match q.1 with
  | .ref n => match q.2[n]? with
    | some (.ins D vs) => if D = C then (putA vs k p.1).bind fun vs => some (.nx, sl, q.2.set n (.ins C vs)) else none
    | _ => none
  | _ => none
/-- a def: its slots n, its body -/
def fnOf (k n : Nat) (b : S) : F := fun vs st => if vs.length = k then (b (vs.map .val ++ List.replicate (n - k) .no) st).bind fun p => match p.1 with
    | .nx => some (.non, p.2.2)
    | .rt v => some (v, p.2.2)
    | _ => none
  else none
end Mi

set_option Elab.async false
set_option linter.all false
set_option maxRecDepth 100000
set_option maxHeartbeats 1000000
/-! Mi, second part: what a value, a store, a frame stand for. -/
namespace Mi
open PySem L2 LamX

/-- a tuple that stands and that nobody changes -/
def strV : V → Bool
  | .str _ => true
  | _ => false
def TupAt (K : PySem.W.Frag) (A : Addr → Prop) (H : Hp) (a : Addr) (us : List V) : Prop := (¬ A a ∧ H a = some (.tup us)) ∨ ((∀ H', SqT K H' a us) ∧ us.all strV = true)

/-- what a function object of the kind i at f is: its things, what its cells held -/
class Gam where
  is : Nat → Addr → List (Addr × HO) → List V → Prop
  /-- the tables of code objects, the names of these -/
  tb : Nat → Addr × Str
def FnAt (A : Addr → Prop) (H : Hp) (hs : List (Addr × HO)) : Prop := ∀ p ∈ hs, ¬ A p.1 ∧ H p.1 = some p.2
/-- .. a list -/
def LstAt (K : PySem.W.Frag) (A : Addr → Prop) (H : Hp) (a : Addr) (us : List V) : Prop := (¬ A a ∧ Rd H a (.lst us)) ∨ ∀ H', SqL K H' a us

variable [Gam]
mutual
inductive Rep (K : PySem.W.Frag) (ρ : List Addr) (A : Addr → Prop) (H : Hp) : Val → V → Prop
  | non : Rep K ρ A H .non .non
  | bl (b : Bool) : Rep K ρ A H (.bl b) (.bl b)
  | int (i : Int) : Rep K ρ A H (.int i) (.int i)
  | str (s : Str) : Rep K ρ A H (.str s) (.str s)
  | ref {n : Nat} {a : Addr} : ρ[n]? = some a → Rep K ρ A H (.ref n) (.ref a)
  | lst {a : Addr} {xs : List Val} {us : List V} : LstAt K A H a us → RepL K ρ A H xs us → Rep K ρ A H (.lst xs) (.ref a)
  | tup {a : Addr} {xs : List Val} {us : List V} : TupAt K A H a us → RepL K ρ A H xs us → Rep K ρ A H (.tup xs) (.ref a)
  | fn {i : Nat} {f : Addr} {hs : List (Addr × HO)} {us : List V} {cs : List Val} : Gam.is i f hs us → FnAt A H hs → RepL K ρ A H cs us → Rep K ρ A H (.fn i cs) (.ref f)
inductive RepL (K : PySem.W.Frag) (ρ : List Addr) (A : Addr → Prop) (H : Hp) : List Val → List V → Prop
  | nil : RepL K ρ A H [] []
  | cons {x : Val} {u : V} {xs : List Val} {us : List V} : Rep K ρ A H x u → RepL K ρ A H xs us → RepL K ρ A H (x :: xs) (u :: us)
end

/-- from H to H': what W may change; W' is what may be changed then -/
structure Fr (W : Addr → Prop) (H : Hp) (W' : Addr → Prop) (H' : Hp) : Prop where
  keep : ∀ a o, ¬ W a → H a = some o → H' a = some o
  new : ∀ a, W' a → W a ∨ H a = none
theorem Fr.refl {W : Addr → Prop} {H : Hp} : Fr W H W H := ⟨fun _ _ _ h => h, fun _ h => .inl h⟩
theorem Fr.trans {W W' W'' : Addr → Prop} {H H' H'' : Hp} (a : Fr W H W' H') (b : Fr W' H' W'' H'') : Fr W H W'' H'' where
  keep := fun x o hn h => b.keep x o (fun w => (a.new x w).elim hn fun z => by rw [h] at z; cases z) (a.keep x o hn h)
  new := fun x w => by
    rcases b.new x w with q | q
    · exact a.new x q
    · by_cases hw : W x
      · exact .inl hw
      · refine .inr ?_
        cases e : H x with
        | none => rfl
        | some o =>
          rw [a.keep x o hw e] at q
          cases q
theorem Fr.upd {W : Addr → Prop} {H : Hp} {p : Addr} {o : HO} (h : W p ∨ H p = none) : Fr W H W (upd H p o) :=
  ⟨fun a u hn e => by
    have hne : a ≠ p := fun z => by
      subst z
      rcases h with h | h
      · exact hn h
      · rw [h] at e; cases e
    rw [upd_ne hne]; exact e, fun a h => .inl h⟩

section
variable {K : PySem.W.Frag} {ρ ρ' : List Addr} {A A' : Addr → Prop} {H H' : Hp}
theorem rd_some {a : Addr} {u : HO} (h : Rd H a u) : H a ≠ none := by
  rcases h with h | ⟨o, h⟩ <;> rw [h] <;> simp
theorem Fr.rd {a : Addr} {u : HO} (f : Fr A H A' H') (hn : ¬ A a) (h : Rd H a u) : Rd H' a u ∧ ¬ A' a := by
  refine ⟨?_, fun z => (f.new a z).elim hn (rd_some h)⟩
  rcases h with h | ⟨o, h⟩
  · exact .inl (f.keep a _ hn h)
  · exact .inr ⟨o, f.keep a _ hn h⟩
theorem Fr.tupAt {a : Addr} {us : List V} (f : Fr A H A' H') (h : TupAt K A H a us) : TupAt K A' H' a us := by
  rcases h with ⟨h1, h2⟩ | h
  · exact .inl ⟨fun z => (f.new a z).elim h1 fun q => (by rw [h2] at q; cases q), f.keep a _ h1 h2⟩
  · exact .inr h
theorem Fr.lstAt {a : Addr} {us : List V} (f : Fr A H A' H') (h : LstAt K A H a us) : LstAt K A' H' a us := by
  rcases h with ⟨h1, h2⟩ | h
  · obtain ⟨q1, q2⟩ := f.rd h1 h2
    exact .inl ⟨q2, q1⟩
  · exact .inr h
theorem Fr.fnAt {hs : List (Addr × HO)} (f : Fr A H A' H') (h : FnAt A H hs) : FnAt A' H' hs := fun p hp => by
  obtain ⟨h1, h2⟩ := h p hp
  exact ⟨fun z => (f.new p.1 z).elim h1 fun q => (by rw [h2] at q; cases q), f.keep p.1 _ h1 h2⟩
mutual
theorem Rep.mono (f : Fr A H A' H') (hr : ρ <+: ρ') : ∀ {x : Val} {u : V}, Rep K ρ A H x u → Rep K ρ' A' H' x u
  | _, _, .non => .non
  | _, _, .bl b => .bl b
  | _, _, .int i => .int i
  | _, _, .str s => .str s
  | _, _, .ref h => .ref (by
      obtain ⟨t, rfl⟩ := hr
      rw [List.getElem?_append_left (List.getElem?_eq_some_iff.mp h).1]
      exact h)
  | _, _, .lst h1 h3 => .lst (f.lstAt h1) (RepL.mono f hr h3)
  | _, _, .tup h1 h2 => .tup (f.tupAt h1) (RepL.mono f hr h2)
  | _, _, .fn h1 h2 h3 => .fn h1 (f.fnAt h2) (RepL.mono f hr h3)
theorem RepL.mono (f : Fr A H A' H') (hr : ρ <+: ρ') : ∀ {xs : List Val} {us : List V}, RepL K ρ A H xs us → RepL K ρ' A' H' xs us
  | _, _, .nil => .nil
  | _, _, .cons h t => .cons (Rep.mono f hr h) (RepL.mono f hr t)
end
/-- fewer things are kept apart -/
theorem Fr.less (h : ∀ a, A' a → A a) : Fr A H A' H := ⟨fun _ _ _ e => e, fun a w => .inl (h a w)⟩

theorem RepL.length : ∀ {xs : List Val} {us : List V}, RepL K ρ A H xs us → xs.length = us.length
  | _, _, .nil => rfl
  | _, _, .cons _ t => by rw [List.length_cons, List.length_cons, t.length]
theorem RepL.get : ∀ {xs : List Val} {us : List V}, RepL K ρ A H xs us → ∀ {i : Nat} {x : Val}, xs[i]? = some x → ∃ u, us[i]? = some u ∧ Rep K ρ A H x u
  | _, _, .nil, i, x, h => by simp at h
  | _, _, .cons r t, 0, x, h => by
    simp at h
    subst h
    exact ⟨_, rfl, r⟩
  | _, _, .cons r t, i + 1, x, h => by
    simp at h
    obtain ⟨u, h1, h2⟩ := t.get h
    exact ⟨u, by simpa using h1, h2⟩
theorem RepL.of : ∀ {xs : List Val} {us : List V}, xs.length = us.length → (∀ (i : Nat) x u, xs[i]? = some x → us[i]? = some u → Rep K ρ A H x u) → RepL K ρ A H xs us
  | [], [], _, _ => .nil
  | [], _ :: _, h, _ => by simp at h
  | _ :: _, [], h, _ => by simp at h
  | x :: xs, u :: us, h, f => .cons (f 0 x u rfl rfl) (RepL.of (by simpa using h) fun i y v h1 h2 => f (i + 1) y v (by simpa using h1) (by simpa using h2))
theorem RepL.append : ∀ {xs ys : List Val} {us vs : List V}, RepL K ρ A H xs us → RepL K ρ A H ys vs → RepL K ρ A H (xs ++ ys) (us ++ vs)
  | _, _, _, _, .nil, s => s
  | _, _, _, _, .cons r t, s => .cons r (RepL.append t s)
theorem RepL.take : ∀ {xs : List Val} {us : List V} (n : Nat), RepL K ρ A H xs us → RepL K ρ A H (xs.take n) (us.take n)
  | _, _, 0, _ => by simp; exact .nil
  | _, _, n + 1, .nil => by simp; exact .nil
  | _, _, n + 1, .cons r t => .cons r (RepL.take n t)
theorem RepL.drop : ∀ {xs : List Val} {us : List V} (n : Nat), RepL K ρ A H xs us → RepL K ρ A H (xs.drop n) (us.drop n)
  | _, _, 0, r => r
  | _, _, n + 1, .nil => by simp; exact .nil
  | _, _, n + 1, .cons r t => RepL.drop n t
theorem RepL.set {x : Val} {u : V} (r : Rep K ρ A H x u) : ∀ {xs : List Val} {us : List V} (i : Nat), RepL K ρ A H xs us → RepL K ρ A H (xs.set i x) (us.set i u)
  | _, _, _, .nil => .nil
  | _, _, 0, .cons _ t => .cons r t
  | _, _, i + 1, .cons q t => .cons q (RepL.set r i t)
theorem RepL.reverse : ∀ {xs : List Val} {us : List V}, RepL K ρ A H xs us → RepL K ρ A H xs.reverse us.reverse
  | _, _, .nil => .nil
  | _, _, .cons r t => by
    rw [List.reverse_cons, List.reverse_cons]
    exact t.reverse.append (.cons r .nil)
theorem RepL.rep {xs : List Val} {us : List V} (h : RepL K ρ A H xs us) : ∀ n : Nat, RepL K ρ A H (List.replicate n xs).flatten (List.replicate n us).flatten
  | 0 => .nil
  | n + 1 => by
    rw [List.replicate_succ, List.replicate_succ, List.flatten_cons, List.flatten_cons]
    exact h.append (RepL.rep h n)
theorem RepL.ints (ns : List Int) : RepL K ρ A H (ns.map .int) (ns.map V.int) := by
  induction ns with
  | nil => exact .nil
  | cons n ns ih => exact .cons (.int n) ih
end

/-! ### the store, the frame -/
def AR (ρ : List Addr) (Z : Addr → Prop) : Addr → Prop := fun a => a ∈ ρ ∨ Z a
def Own (sl : Sl) (σ : St) (a : Addr) : Prop := ∃ (i : Nat) (xs : List Val), sl[i]? = some (.own xs) ∧ σ[i]? = some (some (.ref a))
def ZO (Z : Addr → Prop) (sl : Sl) (σ : St) : Addr → Prop := fun a => Z a ∨ Own sl σ a
/-- what a frame may change -/
def WO (ρ : List Addr) (sl : Sl) (σ : St) : Addr → Prop := fun a => a ∈ ρ ∨ Own sl σ a

def RepC (K : PySem.W.Frag) (cls : Nat → Addr) (ρ : List Addr) (A : Addr → Prop) (H : Hp) (a : Addr) : Cell → Prop
  | .lst xs => ∃ us, H a = some (.lst us) ∧ RepL K ρ A H xs us
  | .ins C vs => ∃ dx us, H a = some (.ins (cls C) dx ((nms C).zip us)) ∧ us.length ≤ (nms C).length ∧ RepL K ρ A H vs us
  | .dk kvs => ∃ kvu : List (Key × V), H a = some (.dK kvu) ∧ kvu.map (·.1) = kvs.map (·.1) ∧ RepL K ρ A H (kvs.map (·.2)) (kvu.map (·.2))
  | .dt kvs => ∃ kvu : List (List Key × V), H a = some (.dT kvu) ∧ kvu.map (·.1) = kvs.map (·.1) ∧ RepL K ρ A H (kvs.map (·.2)) (kvu.map (·.2))
  | .tb k => a = (Gam.tb k).1 ∧ ∃ ps : Array Value, H a = some (.tbl ps) ∧ TriplesOk ps.toList ∧ ∀ (pos : Pos) (cv : Value), codeAmong pos ps.toList = some cv → ∃ c, cv = .ref c ∧ ¬ A c ∧ H c = some (CodeO c (Gam.tb k).2)

structure RelR (K : PySem.W.Frag) (cls : Nat → Addr) (ρ : List Addr) (Z : Addr → Prop) (H : Hp) (st : Sto) : Prop where
  nd : ρ.Nodup
  len : ρ.length = st.length
  cells : ∀ (n : Nat) (c : Cell) (a : Addr), st[n]? = some c → ρ[n]? = some a → RepC K cls ρ (AR ρ Z) H a c
  dom : ∀ a, AR ρ Z a → H a ≠ none
  dis : ∀ a, a ∈ ρ → ¬ Z a
structure Rel (K : PySem.W.Frag) (cls : Nat → Addr) (ρ : List Addr) (Z : Addr → Prop) (σ : St) (H : Hp) (sl : Sl) (st : Sto) : Prop where
  s : RelR K cls ρ (ZO Z sl σ) H st
  slen : sl.length = σ.length
  slots : ∀ (i : Nat) v, sl[i]? = some (.val v) → ∃ u, σ[i]? = some (some u) ∧ Rep K ρ (AR ρ (ZO Z sl σ)) H v u
  owns : ∀ (i : Nat) xs, sl[i]? = some (.own xs) → ∃ a us, σ[i]? = some (some (.ref a)) ∧ H a = some (.lst us) ∧ RepL K ρ (AR ρ (ZO Z sl σ)) H xs us ∧ ¬ Z a
  inj : ∀ (i j : Nat) xs ys a, sl[i]? = some (.own xs) → sl[j]? = some (.own ys) → σ[i]? = some (some (.ref a)) → σ[j]? = some (some (.ref a)) → i = j

/-- ρ's places may have changed, more may have come -/
structure Ext (ρ : List Addr) (H : Hp) (ρ' : List Addr) (H' : Hp) : Prop where
  pre : ρ <+: ρ'
  fr : Fr (· ∈ ρ) H (· ∈ ρ') H'
theorem Ext.refl {ρ : List Addr} {H : Hp} : Ext ρ H ρ H := ⟨List.prefix_rfl, .refl⟩
theorem Ext.trans {ρ ρ' ρ'' : List Addr} {H H' H'' : Hp} (a : Ext ρ H ρ' H') (b : Ext ρ' H' ρ'' H'') : Ext ρ H ρ'' H'' := ⟨a.pre.trans b.pre, a.fr.trans b.fr⟩

section
variable {K : PySem.W.Frag} {cls : Nat → Addr} {ρ ρ' : List Addr} {Z : Addr → Prop} {σ : St} {H H' : Hp} {sl : Sl} {st st' : Sto}
/-- with the callers' things apart -/
theorem Ext.ar (e : Ext ρ H ρ' H') : Fr (AR ρ Z) H (AR ρ' Z) H' := ⟨fun a o hn h => e.fr.keep a o (fun z => hn (.inl z)) h, fun a w => w.elim (fun z => (e.fr.new a z).imp .inl id) fun z => .inl (.inr z)⟩
theorem Ext.rep {x : Val} {u : V} (e : Ext ρ H ρ' H') (h : Rep K ρ (AR ρ Z) H x u) : Rep K ρ' (AR ρ' Z) H' x u := h.mono e.ar e.pre
theorem Ext.repL {xs : List Val} {us : List V} (e : Ext ρ H ρ' H') (h : RepL K ρ (AR ρ Z) H xs us) : RepL K ρ' (AR ρ' Z) H' xs us := h.mono e.ar e.pre
theorem RelR.at (R : RelR K cls ρ Z H st) {n : Nat} {c : Cell} (h : st[n]? = some c) : ∃ a, ρ[n]? = some a ∧ RepC K cls ρ (AR ρ Z) H a c := by
  have hl : n < ρ.length := by rw [R.len]; exact (List.getElem?_eq_some_iff.mp h).1
  exact ⟨ρ[n], List.getElem?_eq_getElem hl, R.cells n c _ h (List.getElem?_eq_getElem hl)⟩
theorem RepC.mono {A A' : Addr → Prop} {a : Addr} {c : Cell} (f : Fr A H A' H') (hr : ρ <+: ρ') (hs : H' a = H a) (h : RepC K cls ρ A H a c) : RepC K cls ρ' A' H' a c := by
  cases c with
  | lst xs => obtain ⟨us, e, r⟩ := h; exact ⟨us, hs.trans e, r.mono f hr⟩
  | ins C vs => obtain ⟨dx, us, e, l, r⟩ := h; exact ⟨dx, us, hs.trans e, l, r.mono f hr⟩
  | dk kvs => obtain ⟨us, e, l, r⟩ := h; exact ⟨us, hs.trans e, l, r.mono f hr⟩
  | dt kvs => obtain ⟨us, e, l, r⟩ := h; exact ⟨us, hs.trans e, l, r.mono f hr⟩
  | tb k =>
    obtain ⟨e0, ps, e, t, n⟩ := h
    refine ⟨e0, ps, hs.trans e, t, fun pos cv hc => ?_⟩
    obtain ⟨c, e1, e2, e3⟩ := n pos cv hc
    exact ⟨c, e1, fun z => (f.new c z).elim e2 fun q => (by rw [e3] at q; cases q), f.keep c _ e2 e3⟩
/-- a new object that no value is -/
theorem RelR.new {p : Addr} {o : HO} (R : RelR K cls ρ Z H st) (hp : H p = none) : RelR K cls ρ Z (upd H p o) st := by
  have hne : ∀ a, AR ρ Z a → a ≠ p := fun a h z => by subst z; exact R.dom _ h hp
  refine ⟨R.nd, R.len, fun n c a h1 h2 => ?_, fun a h => ?_, R.dis⟩
  · exact (R.cells n c a h1 h2).mono (Fr.upd (.inr hp)) List.prefix_rfl (upd_ne (hne a (.inl (List.mem_of_getElem? h2))))
  · rw [upd_ne (hne a h)]; exact R.dom a h
theorem Ext.new {p : Addr} {o : HO} (hp : H p = none) : Ext ρ H ρ (upd H p o) := ⟨List.prefix_rfl, Fr.upd (.inr hp)⟩
/-- the frame stands behind a step of the store -/
theorem Rel.step (R : Rel K cls ρ Z σ H sl st) (e : Ext ρ H ρ' H') (R' : RelR K cls ρ' (ZO Z sl σ) H' st') : Rel K cls ρ' Z σ H' sl st' where
  s := R'
  slen := R.slen
  slots := fun i v h => by
    obtain ⟨u, h1, h2⟩ := R.slots i v h
    exact ⟨u, h1, e.rep h2⟩
  owns := fun i xs h => by
    obtain ⟨a, us, h1, h2, h3, h4⟩ := R.owns i xs h
    refine ⟨a, us, h1, e.fr.keep a _ (fun z => R.s.dis a z (.inr ⟨i, xs, h, h1⟩)) h2, e.repL h3, h4⟩
  inj := R.inj
theorem Rel.new {p : Addr} {o : HO} (R : Rel K cls ρ Z σ H sl st) (hp : H p = none) : Rel K cls ρ Z σ (upd H p o) sl st := R.step (Ext.new hp) (R.s.new hp)
/-- a place is added -/
theorem Fr.push {p : Addr} {o : HO} (hp : H p = none) : Fr (AR ρ Z) H (AR (ρ ++ [p]) Z) (L2.upd H p o) := ⟨fun a u hn h => by rw [upd_ne (ne_of_none h hp)]; exact h, fun a h => by
  rcases h with h | h
  · rcases List.mem_append.mp h with h | h
    · exact .inl (.inl h)
    · have e : a = p := by simpa using h
      subst e; exact .inr hp
  · exact .inl (.inr h)⟩
theorem Ext.push {p : Addr} {o : HO} (hp : H p = none) : Ext ρ H (ρ ++ [p]) (upd H p o) := ⟨List.prefix_append _ _, ⟨fun a u hn h => by rw [upd_ne (ne_of_none h hp)]; exact h, fun a h => by
  rcases List.mem_append.mp h with h | h
  · exact .inl h
  · have e : a = p := by simpa using h
    subst e; exact .inr hp⟩⟩
theorem RelR.push {p : Addr} {o : HO} {c : Cell} (R : RelR K cls ρ Z H st) (hp : H p = none) (hc : RepC K cls (ρ ++ [p]) (AR (ρ ++ [p]) Z) (upd H p o) p c) : RelR K cls (ρ ++ [p]) Z (upd H p o) (st ++ [c]) where
  nd := List.nodup_append.mpr ⟨R.nd, by simp, fun a h b h' z => by
    have e : b = p := by simpa using h'
    subst e; subst z
    exact R.dom _ (.inl h) hp⟩
  len := by rw [List.length_append, List.length_append, R.len]; rfl
  cells := fun n c' a h1 h2 => by
    by_cases hn : n < st.length
    · rw [List.getElem?_append_left hn] at h1
      rw [List.getElem?_append_left (by rw [R.len]; exact hn)] at h2
      exact (R.cells n c' a h1 h2).mono (Fr.push hp) (List.prefix_append _ _) (upd_ne (fun z => R.dom a (.inl (List.mem_of_getElem? h2)) (z ▸ hp)))
    · have hl := (List.getElem?_eq_some_iff.mp h1).1
      rw [List.length_append, List.length_singleton] at hl
      have e : n = st.length := by omega
      subst e
      rw [List.getElem?_append_right (Nat.le_refl _), Nat.sub_self] at h1
      have hl2 : ρ.length = st.length := R.len
      rw [← hl2, List.getElem?_append_right (Nat.le_refl _), Nat.sub_self] at h2
      cases h1
      cases h2
      exact hc
  dom := fun a h => by
    by_cases e : a = p
    · subst e; rw [upd_same]; simp
    · rw [upd_ne e]
      rcases h with h | h
      · rcases List.mem_append.mp h with h | h
        · exact R.dom a (.inl h)
        · exact absurd (by simpa using h) e
      · exact R.dom a (.inr h)
  dis := fun a h => by
    rcases List.mem_append.mp h with h | h
    · exact R.dis a h
    · have e : a = p := by simpa using h
      subst e; exact fun z => R.dom _ (.inr z) hp
theorem Rel.push {p : Addr} {o : HO} {c : Cell} (R : Rel K cls ρ Z σ H sl st) (hp : H p = none) (hc : RepC K cls (ρ ++ [p]) (AR (ρ ++ [p]) (ZO Z sl σ)) (upd H p o) p c) : Rel K cls (ρ ++ [p]) Z σ (upd H p o) sl (st ++ [c]) :=
  R.step (Ext.push hp) (R.s.push hp hc)
/-- a place is changed -/
theorem RelR.set {n : Nat} {a : Addr} {o : HO} {c : Cell} (R : RelR K cls ρ Z H st) (ha : ρ[n]? = some a) (hc : RepC K cls ρ (AR ρ Z) (upd H a o) a c) : RelR K cls ρ Z (upd H a o) (st.set n c) where
  nd := R.nd
  len := by rw [List.length_set]; exact R.len
  cells := fun m c' b h1 h2 => by
    by_cases hm : m = n
    · subst hm
      rw [ha] at h2
      cases h2
      have hl : m < st.length := by rw [← R.len]; exact (List.getElem?_eq_some_iff.mp ha).1
      rw [List.getElem?_set_self hl] at h1
      cases h1
      exact hc
    · rw [List.getElem?_set_ne (Ne.symm hm)] at h1
      have hb : b ≠ a := fun z => by
        subst z
        exact hm ((List.getElem?_inj (List.getElem?_eq_some_iff.mp h2).1 R.nd).mp (h2.trans ha.symm))
      exact (R.cells m c' b h1 h2).mono (Fr.upd (.inl (.inl (List.mem_of_getElem? ha)))) List.prefix_rfl (upd_ne hb)
  dom := fun b h => by
    by_cases hb : b = a
    · subst hb; rw [upd_same]; simp
    · rw [upd_ne hb]; exact R.dom b h
  dis := R.dis
theorem Rel.set {n : Nat} {a : Addr} {o : HO} {c : Cell} (R : Rel K cls ρ Z σ H sl st) (ha : ρ[n]? = some a) (hc : RepC K cls ρ (AR ρ (ZO Z sl σ)) (upd H a o) a c) : Rel K cls ρ Z σ (upd H a o) sl (st.set n c) :=
  R.step ⟨List.prefix_rfl, Fr.upd (.inl (List.mem_of_getElem? ha))⟩ (R.s.set ha hc)
theorem Ext.set {n : Nat} {a : Addr} {o : HO} (ha : ρ[n]? = some a) : Ext ρ H ρ (upd H a o) := ⟨List.prefix_rfl, Fr.upd (.inl (List.mem_of_getElem? ha))⟩
end
end Mi

set_option Elab.async false
set_option linter.all false
set_option maxRecDepth 100000
set_option maxHeartbeats 1000000
/-! Mi, third part: each word of the mirror is what the text does: expressions. -/
namespace Mi
open PySem L2
variable [Gam]

/-- a value, or (m) a slot's own list -/
def RepM (K : PySem.W.Frag) (m : Bool) (ρ : List Addr) (Z : Addr → Prop) (σ : L2.St) (H : Hp) (sl : Sl) (x : Val) (u : V) : Prop :=
  Rep K ρ (AR ρ (ZO Z sl σ)) H x u ∨ (m = true ∧ ∃ (i : Nat) (xs : List Val) (a : Addr), x = .lst xs ∧ u = .ref a ∧ sl[i]? = some (.own xs) ∧ σ[i]? = some (some (.ref a)))
def RepML (K : PySem.W.Frag) (m : Bool) (ρ : List Addr) (Z : Addr → Prop) (σ : L2.St) (H : Hp) (sl : Sl) : List Val → List V → Prop
  | [], [] => True
  | x :: xs, u :: us => RepM K m ρ Z σ H sl x u ∧ RepML K m ρ Z σ H sl xs us
  | _, _ => False
structure Snd (K : PySem.W.Frag) (cls : Nat → Addr) (m : Bool) (t : TE) (f : E) : Prop where
  run : ∀ (ρ : List Addr) (Z : Addr → Prop) (σ : L2.St) (H : Hp) (sl : Sl) (st : Sto) (d : Val) (st' : Sto), Rel K cls ρ Z σ H sl st → f sl st = some (d, st') → ∀ Q : VK,
    (∀ u ρ' H', Rel K cls ρ' Z σ H' sl st' → Ext ρ H ρ' H' → RepM K m ρ' Z σ H' sl d u → Q u H') → t σ H Q
structure SndT (K : PySem.W.Frag) (cls : Nat → Addr) (t : TT) (f : T) : Prop where
  run : ∀ (ρ : List Addr) (Z : Addr → Prop) (σ : L2.St) (H : Hp) (sl : Sl) (st : Sto) (b : Bool) (st' : Sto), Rel K cls ρ Z σ H sl st → f sl st = some (b, st') → ∀ Q : Bool → Hp → Prop,
    (∀ ρ' H', Rel K cls ρ' Z σ H' sl st' → Ext ρ H ρ' H' → Q b H') → t σ H Q
structure SndA (K : PySem.W.Frag) (cls : Nat → Addr) (m : Bool) (t : TA) (f : L) : Prop where
  run : ∀ (ρ : List Addr) (Z : Addr → Prop) (σ : L2.St) (H : Hp) (sl : Sl) (st : Sto) (ds : List Val) (st' : Sto), Rel K cls ρ Z σ H sl st → f sl st = some (ds, st') → ∀ Q : List V → Hp → Prop,
    (∀ us ρ' H', Rel K cls ρ' Z σ H' sl st' → Ext ρ H ρ' H' → RepML K m ρ' Z σ H' sl ds us → Q us H') → t σ H Q
/-- a new list -/
structure SndL (K : PySem.W.Frag) (cls : Nat → Addr) (t : TE) (f : L) : Prop where
  run : ∀ (ρ : List Addr) (Z : Addr → Prop) (σ : L2.St) (H : Hp) (sl : Sl) (st : Sto) (ds : List Val) (st' : Sto), Rel K cls ρ Z σ H sl st → f sl st = some (ds, st') → ∀ Q : VK,
    (∀ p us ρ' H', Rel K cls ρ' Z σ H' sl st' → Ext ρ H ρ' H' → H' p = none → RepL K ρ' (AR ρ' (ZO Z sl σ)) H' ds us → Q (.ref p) (upd H' p (.lst us))) → t σ H Q
/-- an end of a slice -/
structure SndP (K : PySem.W.Frag) (cls : Nat → Addr) (t : TO) (f : P) : Prop where
  run : ∀ (ρ : List Addr) (Z : Addr → Prop) (σ : L2.St) (H : Hp) (sl : Sl) (st : Sto) (o : Option Int) (st' : Sto), Rel K cls ρ Z σ H sl st → f sl st = some (o, st') → ∀ Q : Option Int → Hp → Prop,
    (∀ ρ' H', Rel K cls ρ' Z σ H' sl st' → Ext ρ H ρ' H' → Q o H') → t σ H Q

/-- the context's own fragment -/
class KX (X : Cx) (K : PySem.W.Frag) : Prop where
  e : X.K = K
instance kx_self {X : Cx} : KX X X.K := ⟨rfl⟩
abbrev SE (X : Cx) (K : PySem.W.Frag) (cls : Nat → Addr) (m : Bool) (e : Expr) (t : TE) (f : E) : Prop := PE X e t ∧ Snd K cls m t f
abbrev ST (X : Cx) (K : PySem.W.Frag) (cls : Nat → Addr) (e : Expr) (t : TT) (f : T) : Prop := PT X e t ∧ SndT K cls t f
abbrev SW (X : Cx) (K : PySem.W.Frag) (cls : Nat → Addr) (e : Expr) (t : TT) (f : T) : Prop := PW X e t ∧ SndT K cls t f
abbrev SA (X : Cx) (K : PySem.W.Frag) (cls : Nat → Addr) (m : Bool) (es : List Expr) (t : TA) (f : L) : Prop := PA X es t ∧ SndA K cls m t f
abbrev SL (X : Cx) (K : PySem.W.Frag) (cls : Nat → Addr) (e : Expr) (t : TE) (f : L) : Prop := PE X e t ∧ SndL K cls t f
abbrev SO (X : Cx) (K : PySem.W.Frag) (cls : Nat → Addr) (e : Option Expr) (t : TO) (f : P) : Prop := PO X e t ∧ SndP K cls t f

theorem bind_some {α β : Type} {x : Option α} {g : α → Option β} {z : β} (h : x.bind g = some z) : ∃ y, x = some y ∧ g y = some z := by
  cases x with
  | none => cases h
  | some y => exact ⟨y, rfl, h⟩

section
variable {K : PySem.W.Frag} {cls : Nat → Addr} {ρ ρ' : List Addr} {Z : Addr → Prop} {σ : L2.St} {H H' : Hp} {sl : Sl} {st st' : Sto} {m : Bool} {x y : Val} {u v : V}
theorem RepM.of (h : Rep K ρ (AR ρ (ZO Z sl σ)) H x u) : RepM K m ρ Z σ H sl x u := .inl h
theorem RepM.rep (h : RepM K false ρ Z σ H sl x u) : Rep K ρ (AR ρ (ZO Z sl σ)) H x u := h.elim id fun z => nomatch z.1
theorem RepM.up (h : RepM K m ρ Z σ H sl x u) : RepM K true ρ Z σ H sl x u := h.imp id fun z => ⟨rfl, z.2⟩
theorem RepM.ext (e : Ext ρ H ρ' H') (h : RepM K m ρ Z σ H sl x u) : RepM K m ρ' Z σ H' sl x u := h.imp (fun h => e.rep h) id
theorem RepML.ext (e : Ext ρ H ρ' H') : ∀ {xs : List Val} {us : List V}, RepML K m ρ Z σ H sl xs us → RepML K m ρ' Z σ H' sl xs us
  | [], [], _ => trivial
  | _ :: _, _ :: _, h => ⟨h.1.ext e, RepML.ext e h.2⟩
theorem RepML.repL : ∀ {xs : List Val} {us : List V}, RepML K false ρ Z σ H sl xs us → RepL K ρ (AR ρ (ZO Z sl σ)) H xs us
  | [], [], _ => .nil
  | _ :: _, _ :: _, h => .cons h.1.rep (RepML.repL h.2)
theorem RepML.cons_inv {xs : List Val} {us : List V} (h : RepML K m ρ Z σ H sl (x :: xs) us) : ∃ u us', us = u :: us' ∧ RepM K m ρ Z σ H sl x u ∧ RepML K m ρ Z σ H sl xs us' := by
  cases us with
  | nil => exact False.elim h
  | cons u us => exact ⟨u, us, rfl, h.1, h.2⟩
theorem RepML.nil_inv {us : List V} (h : RepML K m ρ Z σ H sl [] us) : us = [] := by
  cases us with
  | nil => rfl
  | cons u us => exact False.elim h
theorem lst_sq {A : Addr → Prop} {a : Addr} {us : List V} (h : LstAt K A H a us) : SqL K H a us := h.elim (fun z => .inl z.2) fun z => z H
/-- a list that is read -/
theorem viewQ_of (R : Rel K cls ρ Z σ H sl st) (h : RepM K m ρ Z σ H sl x u) {xs : List Val} (hv : viewQ st x = some xs) :
    ∃ a us, u = .ref a ∧ SqL K H a us ∧ RepL K ρ (AR ρ (ZO Z sl σ)) H xs us := by
  rcases h with h | ⟨_, i, ys, a, rfl, rfl, h1, h2⟩
  · cases h with
    | lst h1 h3 => cases hv; exact ⟨_, _, rfl, lst_sq h1, h3⟩
    | ref h1 =>
      rename_i n a
      have hv' : (match st[n]? with
        | some (.lst xs) => some xs
        | _ => none) = some xs := hv
      split at hv'
      · rename_i ys e
        cases hv'
        obtain ⟨us, e1, r⟩ := R.s.cells n _ a e h1
        exact ⟨a, us, rfl, .of e1, r⟩
      · cases hv'
    | tup _ _ => cases hv
    | non => cases hv
    | bl => cases hv
    | int => cases hv
    | str => cases hv
    | fn _ _ _ => cases hv
  · cases hv
    obtain ⟨b, us, e1, e2, r, _⟩ := R.owns i _ h1
    rw [h2] at e1
    cases e1
    exact ⟨a, us, rfl, .of e2, r⟩
theorem tup_sq {A : Addr → Prop} {a : Addr} {us : List V} (h : TupAt K A H a us) : SqT K H a us := h.elim (fun z => .inl (.inl z.2)) fun z => z.1 H
theorem viewL_of (R : Rel K cls ρ Z σ H sl st) (h : RepM K m ρ Z σ H sl x u) {xs : List Val} (hv : viewL st x = some xs) :
    ∃ a us, u = .ref a ∧ ((SqL K H a us ∧ viewQ st x = some xs) ∨ (SqT K H a us ∧ x = .tup xs ∧ TupAt K (AR ρ (ZO Z sl σ)) H a us)) ∧ RepL K ρ (AR ρ (ZO Z sl σ)) H xs us := by
  by_cases hx : ∃ ys, x = .tup ys
  · obtain ⟨ys, rfl⟩ := hx
    cases hv
    rcases h with h | ⟨_, _, _, _, z, _⟩
    · cases h with
      | tup h1 h2 => exact ⟨_, _, rfl, .inr ⟨tup_sq h1, rfl, h1⟩, h2⟩
    · cases z
  · have hq : viewQ st x = some xs := by
      cases x <;> first | exact hv | exact absurd ⟨_, rfl⟩ hx
    obtain ⟨a, us, e, r1, r2⟩ := viewQ_of R h hq
    exact ⟨a, us, e, .inl ⟨r1, hq⟩, r2⟩
end

/-! ### operations on values -/
def OpS (K : PySem.W.Frag) (cls : Nat → Addr) (op : Sto → Val → Val → Option Val) (r : R2) : Prop :=
  ∀ (ρ : List Addr) (Z : Addr → Prop) (σ : L2.St) (H : Hp) (sl : Sl) (st : Sto) (x y z : Val) (u v : V), Rel K cls ρ Z σ H sl st → RepM K true ρ Z σ H sl x u → RepM K true ρ Z σ H sl y v → op st x y = some z → ∀ Q : VK,
    (∀ w H', Rel K cls ρ Z σ H' sl st → Ext ρ H ρ H' → Rep K ρ (AR ρ (ZO Z sl σ)) H' z w → Q w H') → r u v H Q
def Op1S (K : PySem.W.Frag) (cls : Nat → Addr) (op : Sto → Val → Option Val) (r : V → Hp → VK → Prop) : Prop :=
  ∀ (ρ : List Addr) (Z : Addr → Prop) (σ : L2.St) (H : Hp) (sl : Sl) (st : Sto) (x z : Val) (u : V), Rel K cls ρ Z σ H sl st → RepM K true ρ Z σ H sl x u → op st x = some z → ∀ Q : VK,
    (∀ w H', Rel K cls ρ Z σ H' sl st → Ext ρ H ρ H' → Rep K ρ (AR ρ (ZO Z sl σ)) H' z w → Q w H') → r u H Q
def OpLS (K : PySem.W.Frag) (cls : Nat → Addr) (op : Sto → Val → Val → Option (List Val)) (r : R2) : Prop :=
  ∀ (ρ : List Addr) (Z : Addr → Prop) (σ : L2.St) (H : Hp) (sl : Sl) (st : Sto) (x y : Val) (zs : List Val) (u v : V), Rel K cls ρ Z σ H sl st → RepM K true ρ Z σ H sl x u → RepM K true ρ Z σ H sl y v → op st x y = some zs → ∀ Q : VK,
    (∀ p us, H p = none → RepL K ρ (AR ρ (ZO Z sl σ)) H zs us → Q (.ref p) (upd H p (.lst us))) → r u v H Q
def Op1LS (K : PySem.W.Frag) (cls : Nat → Addr) (op : Sto → Val → Option (List Val)) (r : V → Hp → VK → Prop) : Prop :=
  ∀ (ρ : List Addr) (Z : Addr → Prop) (σ : L2.St) (H : Hp) (sl : Sl) (st : Sto) (x : Val) (zs : List Val) (u : V), Rel K cls ρ Z σ H sl st → RepM K true ρ Z σ H sl x u → op st x = some zs → ∀ Q : VK,
    (∀ p us, H p = none → RepL K ρ (AR ρ (ZO Z sl σ)) H zs us → Q (.ref p) (upd H p (.lst us))) → r u H Q

section
variable {K : PySem.W.Frag} {cls : Nat → Addr} {ta tb tc : TE} {fa fb fc : E} {m m' m'' : Bool}
theorem Snd.up (h : Snd K cls m ta fa) : Snd K cls true ta fa := ⟨fun ρ Z σ H sl st d st' R e Q q => h.run ρ Z σ H sl st d st' R e Q fun u ρ' H' R' x r => q u ρ' H' R' x r.up⟩
theorem Snd.any (h : Snd K cls false ta fa) : Snd K cls m ta fa := ⟨fun ρ Z σ H sl st d st' R e Q q => h.run ρ Z σ H sl st d st' R e Q fun u ρ' H' R' x r => q u ρ' H' R' x (.of r.rep)⟩
theorem snd_c {v : Val} {u : V} (h : ∀ (ρ : List Addr) (A : Addr → Prop) (H : Hp), Rep K ρ A H v u) : Snd K cls m (tC u) (eC v) := ⟨fun ρ Z σ H sl st d st' R e Q q => by
  cases e
  exact q u ρ H R .refl (.of (h _ _ _))⟩
theorem snd_var {i : Nat} : Snd K cls m (tVar i) (eVar i) := ⟨fun ρ Z σ H sl st d st' R e Q q => by
  unfold eVar at e
  split at e
  · rename_i v h
    cases e
    obtain ⟨u, h1, h2⟩ := R.slots i _ h
    exact ⟨u, h1, q u ρ H R .refl (.of h2)⟩
  · cases e⟩
theorem snd_varO {i : Nat} : Snd K cls true (tVar i) (eVarO i) := ⟨fun ρ Z σ H sl st d st' R e Q q => by
  unfold eVarO at e
  split at e
  · rename_i v h
    cases e
    obtain ⟨u, h1, h2⟩ := R.slots i _ h
    exact ⟨u, h1, q u ρ H R .refl (.of h2)⟩
  · rename_i xs h
    cases e
    obtain ⟨a, us, h1, h2, h3, h4⟩ := R.owns i _ h
    exact ⟨.ref a, h1, q _ ρ H R .refl (.inr ⟨rfl, i, xs, a, rfl, rfl, h, h1⟩)⟩
  · cases e⟩
theorem snd_e2 {op : Sto → Val → Val → Option Val} {r : R2} (ho : OpS K cls op r) (ha : Snd K cls m' ta fa) (hb : Snd K cls m'' tb fb) : Snd K cls m (tOp r ta tb) (e2 op fa fb) := ⟨fun ρ Z σ H sl st d st' R e Q q => by
  obtain ⟨p, e1, e⟩ := bind_some e
  obtain ⟨p2, e2, e⟩ := bind_some e
  obtain ⟨z, e3, e⟩ := bind_some e
  cases e
  refine ha.run ρ Z σ H sl st p.1 p.2 R e1 _ fun u ρ1 H1 R1 x1 r1 => ?_
  refine hb.run ρ1 Z σ H1 sl p.2 p2.1 p2.2 R1 e2 _ fun v ρ2 H2 R2 x2 r2 => ?_
  exact ho ρ2 Z σ H2 sl p2.2 _ _ _ u v R2 (r1.ext x2).up r2.up e3 _ fun w H3 R3 x3 r3 => q w ρ2 H3 R3 ((x1.trans x2).trans x3) (.of r3)⟩
theorem snd_e1 {op : Sto → Val → Option Val} {r : V → Hp → VK → Prop} (ho : Op1S K cls op r) (ha : Snd K cls m' ta fa) : Snd K cls m (tUn r ta) (e1 op fa) := ⟨fun ρ Z σ H sl st d st' R e Q q => by
  obtain ⟨p, e1, e⟩ := bind_some e
  obtain ⟨z, e3, e⟩ := bind_some e
  cases e
  refine ha.run ρ Z σ H sl st p.1 p.2 R e1 _ fun u ρ1 H1 R1 x1 r1 => ?_
  exact ho ρ1 Z σ H1 sl p.2 _ _ u R1 r1.up e3 _ fun w H3 R3 x3 r3 => q w ρ1 H3 R3 (x1.trans x3) (.of r3)⟩
/-- a built-in of one argument -/
theorem snd_b1 {op : Sto → Val → Option Val} {r : List V → Hp → VK → Prop} (ho : Op1S K cls op (fun u => r [u])) (ha : Snd K cls m' ta fa) : Snd K cls m (tCB r (tCons ta tNil)) (e1 op fa) := snd_e1 ho ha
theorem snd_l2 {op : Sto → Val → Val → Option (List Val)} {r : R2} (ho : OpLS K cls op r) (ha : Snd K cls m' ta fa) (hb : Snd K cls m'' tb fb) : SndL K cls (tOp r ta tb) (l2 op fa fb) := ⟨fun ρ Z σ H sl st d st' R e Q q => by
  obtain ⟨p, e1, e⟩ := bind_some e
  obtain ⟨p2, e2, e⟩ := bind_some e
  obtain ⟨z, e3, e⟩ := bind_some e
  cases e
  refine ha.run ρ Z σ H sl st p.1 p.2 R e1 _ fun u ρ1 H1 R1 x1 r1 => ?_
  refine hb.run ρ1 Z σ H1 sl p.2 p2.1 p2.2 R1 e2 _ fun v ρ2 H2 R2 x2 r2 => ?_
  exact ho ρ2 Z σ H2 sl p2.2 _ _ _ u v R2 (r1.ext x2).up r2.up e3 _ fun w us hp rl => q w us ρ2 _ R2 (x1.trans x2) hp rl⟩
theorem Rel.fresh {ρ ρ' : List Addr} {Z : Addr → Prop} {σ : L2.St} {H H' : Hp} {sl : Sl} {st' : Sto} {p : Addr} (R : Rel K cls ρ' Z σ H' sl st') (x : Ext ρ H ρ' H') (hp : H' p = none) : H p = none := by
  cases h : H p with
  | none => rfl
  | some o =>
    have h0 : ¬ p ∈ ρ := fun z => R.s.dom p (.inl (x.pre.mem z)) hp
    rw [x.fr.keep p o h0 h] at hp
    cases hp
theorem snd_l1 {op : Sto → Val → Option (List Val)} {r : V → Hp → VK → Prop} (ho : Op1LS K cls op r) (ha : Snd K cls m' ta fa) : SndL K cls (tUn r ta) (l1 op fa) := ⟨fun ρ Z σ H sl st d st' R e Q q => by
  obtain ⟨p, e1, e⟩ := bind_some e
  obtain ⟨z, e3, e⟩ := bind_some e
  cases e
  refine ha.run ρ Z σ H sl st p.1 p.2 R e1 _ fun u ρ1 H1 R1 x1 r1 => ?_
  exact ho ρ1 Z σ H1 sl p.2 _ _ u R1 r1.up e3 _ fun w us hp rl => q w us ρ1 _ R1 x1 hp rl⟩
/-- a built-in of one argument -/
theorem snd_bl1 {op : Sto → Val → Option (List Val)} {r : List V → Hp → VK → Prop} (ho : Op1LS K cls op (fun u => r [u])) (ha : Snd K cls m' ta fa) : SndL K cls (tCB r (tCons ta tNil)) (l1 op fa) := snd_l1 ho ha
/-- a new list kept as a value -/
theorem snd_d {f : L} (h : SndL K cls ta f) : Snd K cls m ta (eD f) := ⟨fun ρ Z σ H sl st d st' R e Q q => by
  obtain ⟨p, e1, e⟩ := bind_some e
  cases e
  exact h.run ρ Z σ H sl st p.1 p.2 R e1 _ fun w us ρ1 H1 R1 x1 hp rl => q _ ρ1 _ (R1.new hp) (x1.trans (.new hp)) (.of (.lst (.inl ⟨fun z => R1.s.dom _ z hp, .inl upd_same⟩) (Ext.repL (.new hp) rl)))⟩
/-- .. laid into the store -/
theorem snd_k {f : L} (h : SndL K cls ta f) : Snd K cls m ta (eK f) := ⟨fun ρ Z σ H sl st d st' R e Q q => by
  obtain ⟨p, e1, e⟩ := bind_some e
  cases e
  refine h.run ρ Z σ H sl st p.1 p.2 R e1 _ fun w us ρ1 H1 R1 x1 hp rl => ?_
  refine q _ (ρ1 ++ [w]) _ (R1.push hp ⟨us, upd_same, Ext.repL (.push hp) rl⟩) (x1.trans (.push hp)) (.of (.ref ?_))
  rw [← R1.s.len, List.getElem?_append_right (Nat.le_refl _), Nat.sub_self] <;> rfl⟩
end
end Mi

set_option Elab.async false
set_option linter.all false
set_option maxRecDepth 100000
set_option maxHeartbeats 1000000
/-! Mi, fourth part: operations on values. -/
namespace Mi
open PySem PyProof.Rows L2
variable [Gam]

section
variable {K : PySem.W.Frag} {cls : Nat → Addr} {ρ : List Addr} {Z : Addr → Prop} {σ : L2.St} {H : Hp} {sl : Sl} {st : Sto} {m : Bool} {x y : Val} {u v : V}
theorem int_inv {i : Int} (h : RepM K m ρ Z σ H sl (.int i) u) : u = .int i := by
  rcases h with h | ⟨_, _, _, _, z, _⟩
  · cases h; rfl
  · cases z
theorem bl_inv {i : Bool} (h : RepM K m ρ Z σ H sl (.bl i) u) : u = .bl i := by
  rcases h with h | ⟨_, _, _, _, z, _⟩
  · cases h; rfl
  · cases z
theorem str_inv {i : Str} (h : RepM K m ρ Z σ H sl (.str i) u) : u = .str i := by
  rcases h with h | ⟨_, _, _, _, z, _⟩
  · cases h; rfl
  · cases z
theorem tup_inv {xs : List Val} (h : RepM K m ρ Z σ H sl (.tup xs) u) : ∃ a us, u = .ref a ∧ TupAt K (AR ρ (ZO Z sl σ)) H a us ∧ RepL K ρ (AR ρ (ZO Z sl σ)) H xs us := by
  rcases h with h | ⟨_, _, _, _, z, _⟩
  · cases h with
    | tup h1 h2 => exact ⟨_, _, rfl, h1, h2⟩
  · cases z
theorem ops_I {f : Int → Int → Int} : OpS K cls (oI f) (rI0 fun i j => .int (f i j)) := by
  intro ρ Z σ H sl st x y z u v R h1 h2 e Q q
  cases x <;> cases y <;> first | cases e | skip
  rename_i i j
  exact ⟨i, j, int_inv h1, int_inv h2, q _ H R .refl (.int _)⟩
theorem ops_Ic {c : Int → Int → Bool} {C : Int → Int → Prop} {f : Int → Int → Int} (hc : ∀ i j, c i j = true → C i j) : OpS K cls (oIc c f) (rI C fun i j => .int (f i j)) := by
  intro ρ Z σ H sl st x y z u v R h1 h2 e Q q
  cases x <;> cases y <;> first | cases e | skip
  rename_i i j
  have e' : (if c i j then some (Val.int (f i j)) else none) = some z := e
  split at e'
  · rename_i hk
    cases e'
    exact ⟨i, j, int_inv h1, int_inv h2, hc i j hk, q _ H R .refl (.int _)⟩
  · cases e'
theorem ops_B {f : Int → Int → Bool} : OpS K cls (oB f) (rI0 fun i j => .bl (f i j)) := by
  intro ρ Z σ H sl st x y z u v R h1 h2 e Q q
  cases x <;> cases y <;> first | cases e | skip
  rename_i i j
  exact ⟨i, j, int_inv h1, int_inv h2, q _ H R .refl (.bl _)⟩
theorem ops_Bq {f g : Int → Int → Bool} (h : ∀ i j, f i j = g i j) : OpS K cls (oB f) (rI0 fun i j => .bl (g i j)) := by
  have e : f = g := funext fun i => funext fun j => h i j
  subst e
  exact ops_B

/-! ### data -/
theorem depthAll_le : ∀ {ds : List PyData} {n : Nat}, (∀ d ∈ ds, d.depth ≤ n) → PyData.depthAll ds ≤ n
  | [], n, _ => by simp [PyData.depthAll]
  | d :: ds, n, h => by
    simp only [PyData.depthAll]
    have h1 := h d (by simp)
    have h2 := depthAll_le (ds := ds) (n := n) fun e he => h e (by simp [he])
    omega
theorem canLayAll_of : ∀ {ds : List PyData}, (∀ d ∈ ds, d.canLay0 = true) → PyData.canLayAll0 ds = true
  | [], _ => by simp [PyData.canLayAll0]
  | d :: ds, h => by
    simp only [PyData.canLayAll0, Bool.and_eq_true]
    exact ⟨h d (by simp), canLayAll_of fun e he => h e (by simp [he])⟩
theorem mapM_dp {A : Addr → Prop} {n : Nat} (ih : ∀ (x : Val) (u : V) (d : PyData), Rep K ρ A H x u → pd st n x = some d → Dp K H u d ∧ d.canLay0 = true ∧ d.depth ≤ n) :
    ∀ {xs : List Val} {us : List V} {ds : List PyData}, RepL K ρ A H xs us → xs.mapM (pd st n) = some ds → DpAll K H us ds ∧ ∀ d ∈ ds, d.canLay0 = true ∧ d.depth ≤ n
  | _, _, ds, .nil, h => by
    have e : ds = [] := by simpa using h
    subst e
    exact ⟨.nil, by simp⟩
  | _, _, ds, .cons r t, h => by
    rename_i x u xs us
    rw [List.mapM_cons] at h
    obtain ⟨d, h1, h2⟩ := bind_some h
    obtain ⟨es, h3, h4⟩ := bind_some h2
    cases h4
    obtain ⟨i1, i2⟩ := ih x u d r h1
    obtain ⟨j1, j2⟩ := mapM_dp ih t h3
    refine ⟨.cons i1 j1, fun e he => ?_⟩
    rcases List.mem_cons.mp he with z | z
    · subst z; exact i2
    · exact j2 e z
theorem pd_rep (R : RelR K cls ρ (ZO Z sl σ) H st) : ∀ (n : Nat) (x : Val) (u : V) (d : PyData), Rep K ρ (AR ρ (ZO Z sl σ)) H x u → pd st n x = some d → Dp K H u d ∧ d.canLay0 = true ∧ d.depth ≤ n := by
  intro n
  induction n with
  | zero =>
    intro x u d h e
    cases h with
    | non => cases e; exact ⟨.non, rfl, by simp [PyData.depth]⟩
    | bl b => cases e; exact ⟨.bl b, rfl, by simp [PyData.depth]⟩
    | int b => cases e; exact ⟨.int b, rfl, by simp [PyData.depth]⟩
    | str s =>
      unfold pd at e
      split at e
      · rename_i hs
        cases e; exact ⟨.str s, hs, by simp [PyData.depth]⟩
      · cases e
    | ref _ => cases e
    | lst _ _ => cases e
    | tup _ _ => cases e
    | fn _ _ _ => cases e
  | succ n ih =>
    intro x u d h e
    cases h with
    | non => cases e; exact ⟨.non, rfl, by simp [PyData.depth]⟩
    | bl b => cases e; exact ⟨.bl b, rfl, by simp [PyData.depth]⟩
    | int b => cases e; exact ⟨.int b, rfl, by simp [PyData.depth]⟩
    | str s =>
      unfold pd at e
      split at e
      · rename_i hs
        cases e; exact ⟨.str s, hs, by simp [PyData.depth]⟩
      · cases e
    | ref h1 =>
      rename_i r a
      unfold pd at e
      split at e
      · rename_i xs hx
        obtain ⟨us, e1, r1⟩ := R.cells r _ a hx h1
        obtain ⟨ds, e2, rfl⟩ := Option.map_eq_some_iff.mp e
        obtain ⟨j1, j2⟩ := mapM_dp ih r1 e2
        refine ⟨.lst (.inl (.inl e1)) j1, by simp only [PyData.canLay0]; exact canLayAll_of fun d hd => (j2 d hd).1, ?_⟩
        have := depthAll_le fun d hd => (j2 d hd).2
        simp only [PyData.depth]
        omega
      · cases e
    | lst h1 h3 =>
      obtain ⟨ds, e2, rfl⟩ := Option.map_eq_some_iff.mp e
      obtain ⟨j1, j2⟩ := mapM_dp ih h3 e2
      refine ⟨.lst (lst_sq h1) j1, by simp only [PyData.canLay0]; exact canLayAll_of fun d hd => (j2 d hd).1, ?_⟩
      have := depthAll_le fun d hd => (j2 d hd).2
      simp only [PyData.depth]
      omega
    | fn _ _ _ => cases e
    | tup h1 h3 =>
      obtain ⟨ds, e2, rfl⟩ := Option.map_eq_some_iff.mp e
      obtain ⟨j1, j2⟩ := mapM_dp ih h3 e2
      refine ⟨.tup (tup_sq h1) j1, by simp only [PyData.canLay0]; exact canLayAll_of fun d hd => (j2 d hd).1, ?_⟩
      have := depthAll_le fun d hd => (j2 d hd).2
      simp only [PyData.depth]
      omega
theorem pd_dp (R : Rel K cls ρ Z σ H sl st) {x : Val} {u : V} {d : PyData} (h : RepM K m ρ Z σ H sl x u) (e : pd st deep x = some d) : Dp K H u d ∧ SeqAt.shaped d = true := by
  have fin : Dp K H u d ∧ d.canLay0 = true ∧ d.depth ≤ deep → Dp K H u d ∧ SeqAt.shaped d = true := fun ⟨h1, h2, h3⟩ => by
    refine ⟨h1, ?_⟩
    show (d.canLay0 && decide (d.depth ≤ 64)) = true
    rw [h2, Bool.true_and]
    exact decide_eq_true (by have : deep = 20 := rfl; omega)
  rcases h with h | ⟨_, i, xs, a, rfl, rfl, h1, h2⟩
  · exact fin (pd_rep R.s deep x u d h e)
  · obtain ⟨b, us, e1, e2, r, _⟩ := R.owns i _ h1
    rw [h2] at e1
    cases e1
    have e' : ((xs.mapM (pd st 19)).map PyData.list) = some d := e
    obtain ⟨ds, e3, rfl⟩ := Option.map_eq_some_iff.mp e'
    obtain ⟨j1, j2⟩ := mapM_dp (fun x u d => pd_rep R.s 19 x u d) r e3
    refine fin ⟨.lst (.inl (.inl e2)) j1, by simp only [PyData.canLay0]; exact canLayAll_of fun d hd => (j2 d hd).1, ?_⟩
    have := depthAll_le fun d hd => (j2 d hd).2
    have hd : deep = 20 := rfl
    simp only [PyData.depth]
    omega
theorem veq_some {x y : Val} {b : Bool} (h : veq st x y = some b) : ∃ d e, pd st deep x = some d ∧ pd st deep y = some e ∧ PyData.eqv d e = b := by
  obtain ⟨d, h1, h⟩ := bind_some h
  obtain ⟨e, h2, h⟩ := bind_some h
  exact ⟨d, e, h1, h2, Option.some.inj h⟩
theorem ops_eq : OpS K cls oEq (rEqD K) := by
  intro ρ Z σ H sl st x y z u v R h1 h2 e Q q
  obtain ⟨b, hb, rfl⟩ := Option.map_eq_some_iff.mp e
  obtain ⟨d, d', e1, e2, rfl⟩ := veq_some hb
  obtain ⟨a1, a2⟩ := pd_dp R h1 e1
  obtain ⟨b1, b2⟩ := pd_dp R h2 e2
  exact ⟨d, d', a1, b1, a2, b2, q _ H R .refl (.bl _)⟩
theorem ops_ne : OpS K cls oNe (rNeD K) := by
  intro ρ Z σ H sl st x y z u v R h1 h2 e Q q
  obtain ⟨b, hb, rfl⟩ := Option.map_eq_some_iff.mp e
  obtain ⟨d, d', e1, e2, rfl⟩ := veq_some hb
  obtain ⟨a1, a2⟩ := pd_dp R h1 e1
  obtain ⟨b1, b2⟩ := pd_dp R h2 e2
  exact ⟨d, d', a1, b1, a2, b2, q _ H R .refl (.bl _)⟩

/-! ### in -/
theorem flat_rep {A : Addr → Prop} (h : Rep K ρ A H x u) (f : flat x = true) : flatV u = true := by
  cases h <;> first | rfl | cases f
theorem flat_repM (h : RepM K m ρ Z σ H sl x u) (f : flat x = true) : flatV u = true := by
  rcases h with h | ⟨_, _, _, _, rfl, _⟩
  · exact flat_rep h f
  · cases f
theorem flats_rep {A : Addr → Prop} : ∀ {xs : List Val} {us : List V}, RepL K ρ A H xs us → xs.all flat = true → us.all flatV = true
  | _, _, .nil, _ => rfl
  | _, _, .cons r t, h => by
    rw [List.all_cons, Bool.and_eq_true] at h ⊢
    exact ⟨flat_rep r h.1, flats_rep t h.2⟩
theorem feq_rep {A : Addr → Prop} {x' : Val} {u' : V} (h : Rep K ρ A H x u) (h' : RepM K m ρ Z σ H sl x' u') (f : flat x = true) (f' : flat x' = true) : eqV u u' = feq x x' := by
  rcases h' with h' | ⟨_, _, _, _, rfl, _⟩
  · cases h <;> cases h' <;> first | rfl | cases f | cases f'
  · cases f'
theorem fin_rep {A : Addr → Prop} {x' : Val} {u' : V} (h' : RepM K m ρ Z σ H sl x' u') (f' : flat x' = true) : ∀ {xs : List Val} {us : List V}, RepL K ρ A H xs us → xs.all flat = true → inV u' us = fin x' xs
  | _, _, .nil, _ => rfl
  | _, _, .cons r t, h => by
    rw [List.all_cons, Bool.and_eq_true] at h
    show (eqV _ u' || inV u' _) = (feq _ x' || fin x' _)
    rw [feq_rep r h' h.1 f', fin_rep h' f' t h.2]
theorem vin_core (R : Rel K cls ρ Z σ H sl st) (h1 : RepM K true ρ Z σ H sl x u) (h2 : RepM K true ρ Z σ H sl y v) {b : Bool} (e : vin st x y = some b) :
    (∃ p xs, v = .ref p ∧ (SqL K H p xs ∨ SqT K H p xs) ∧ flatV u = true ∧ xs.all flatV = true ∧ inV u xs = b) ∨
    ∃ d ds, Dp K H u d ∧ Dp K H v (.list ds) ∧ SeqAt.shaped d = true ∧ SeqAt.shaped (.list ds) = true ∧ (ds.any fun z => PyData.eqv z d) = b := by
  obtain ⟨xs, e1, e⟩ := bind_some e
  obtain ⟨a, us, rfl, r1, r2⟩ := viewL_of R h2 e1
  split at e
  · rename_i hf
    rw [Bool.and_eq_true] at hf
    cases e
    refine .inl ⟨a, us, rfl, ?_, flat_repM h1 hf.1, flats_rep r2 hf.2, fin_rep h1 hf.1 r2 hf.2⟩
    rcases r1 with ⟨r1, _⟩ | ⟨r1, _⟩
    · exact .inl r1
    · exact .inr r1
  · split at e
    · rename_i hl
      obtain ⟨d, e2, e⟩ := bind_some e
      obtain ⟨ds, e3, e⟩ := bind_some e
      cases e
      obtain ⟨a1, a2⟩ := pd_dp R h1 e2
      rcases r1 with ⟨r1, _⟩ | ⟨r1, rfl, _⟩
      · obtain ⟨j1, j2⟩ := mapM_dp (fun x u d => pd_rep R.s deep x u d) r2 e3
        refine .inr ⟨d, ds, a1, .lst r1 j1, a2, ?_, rfl⟩
        show (PyData.canLay0 (.list ds) && decide (PyData.depth (.list ds) ≤ 64)) = true
        have h3 := depthAll_le fun d hd => (j2 d hd).2
        have h4 : PyData.depth (.list ds) ≤ 64 := by
          have hd : deep = 20 := rfl
          simp only [PyData.depth]
          omega
        rw [decide_eq_true h4, Bool.and_true]
        simp only [PyData.canLay0]
        exact canLayAll_of fun d hd => (j2 d hd).1
      · cases hl
    · cases e
theorem ops_in : OpS K cls oIn (fun x y H Q => rIn K false x y H Q ∨ rInD K x y H Q) := by
  intro ρ Z σ H sl st x y z u v R h1 h2 e Q q
  obtain ⟨b, hb, rfl⟩ := Option.map_eq_some_iff.mp e
  rcases vin_core R h1 h2 hb with ⟨p, xs, rfl, a1, a2, a3, a4⟩ | ⟨d, ds, a1, a2, a3, a4, a5⟩
  · exact .inl ⟨p, xs, rfl, a1, a2, a3, by rw [a4]; exact q _ H R .refl (.bl _)⟩
  · exact .inr ⟨d, ds, a1, a2, a3, a4, by rw [a5]; exact q _ H R .refl (.bl _)⟩
theorem ops_nin : OpS K cls oNin (fun x y H Q => rIn K true x y H Q ∨ rNotInD K x y H Q) := by
  intro ρ Z σ H sl st x y z u v R h1 h2 e Q q
  obtain ⟨b, hb, rfl⟩ := Option.map_eq_some_iff.mp e
  rcases vin_core R h1 h2 hb with ⟨p, xs, rfl, a1, a2, a3, a4⟩ | ⟨d, ds, a1, a2, a3, a4, a5⟩
  · exact .inl ⟨p, xs, rfl, a1, a2, a3, by rw [if_pos rfl, a4]; exact q _ H R .refl (.bl _)⟩
  · exact .inr ⟨d, ds, a1, a2, a3, a4, by rw [a5]; exact q _ H R .refl (.bl _)⟩

/-! ### is, places, lengths -/
theorem ops_is : OpS K cls oIs rIsB := by
  intro ρ Z σ H sl st x y z u v R h1 h2 e Q q
  cases x <;> cases y <;> first | cases e | skip
  rename_i i j
  exact ⟨i, j, bl_inv h1, bl_inv h2, by rw [show decide (i = j) = (i == j) by cases i <;> cases j <;> rfl]; exact q _ H R .refl (.bl _)⟩
theorem ops_isn : OpS K cls oIsn rNotB := by
  intro ρ Z σ H sl st x y z u v R h1 h2 e Q q
  cases x <;> cases y <;> first | cases e | skip
  rename_i i j
  exact ⟨i, j, bl_inv h1, bl_inv h2, by rw [show decide (i = j) = (i == j) by cases i <;> cases j <;> rfl]; exact q _ H R .refl (.bl _)⟩
theorem atI_rep {A : Addr → Prop} {xs : List Val} {us : List V} {i : Int} {z : Val} (r : RepL K ρ A H xs us) (h : atI xs i = some z) : ∃ w, atI us i = some w ∧ Rep K ρ A H z w := by
  unfold atI at h ⊢
  obtain ⟨j, h1, h2⟩ := bind_some h
  obtain ⟨w, h3, h4⟩ := r.get h2
  rw [r.length] at h1
  exact ⟨w, by rw [h1]; exact h3, h4⟩
theorem ops_ix : OpS K cls oIx (fun x y H Q => rIxL K x y H Q ∨ rIxT K x y H Q) := by
  intro ρ Z σ H sl st x y z u v R h1 h2 e Q q
  cases y <;> first | cases e | skip
  rename_i i
  have e' : (viewL st x).bind (fun xs => L2.atI xs i) = some z := e
  obtain ⟨xs, e1, e2⟩ := bind_some e'
  obtain ⟨a, us, rfl, r1, r2⟩ := viewL_of R h1 e1
  obtain ⟨w, h3, h4⟩ := atI_rep r2 e2
  have hv := int_inv h2
  subst hv
  rcases r1 with ⟨r1, _⟩ | ⟨r1, _⟩
  · exact .inl ⟨a, us, i, w, rfl, rfl, r1, h3, q _ H R .refl h4⟩
  · exact .inr ⟨a, us, i, w, rfl, rfl, r1, h3, q _ H R .refl h4⟩
theorem ops_neg : Op1S K cls oNeg (rU fun i => .int (-i)) := by
  intro ρ Z σ H sl st x z u R h1 e Q q
  cases x <;> first | cases e | skip
  exact ⟨_, int_inv h1, q _ H R .refl (.int _)⟩
theorem ops_abs : Op1S K cls oAbs (fun u => (fun xs H Q => ∃ i, xs = [.int i] ∧ Q (.int (if i < 0 then -i else i)) H) [u]) := by
  intro ρ Z σ H sl st x z u R h1 e Q q
  cases x <;> first | cases e | skip
  have hu := int_inv h1
  subst hu
  exact ⟨_, rfl, q _ H R .refl (.int _)⟩
theorem ops_int : Op1S K cls oInt (fun u => (fun xs H Q => (∃ i, xs = [.int i] ∧ Q (.int i) H) ∨ ∃ k, xs = [.bl k] ∧ Q (.int (if k then 1 else 0)) H) [u]) := by
  intro ρ Z σ H sl st x z u R h1 e Q q
  cases x <;> first | cases e | skip
  · have hu := bl_inv h1
    subst hu
    exact .inr ⟨_, rfl, q _ H R .refl (.int _)⟩
  · have hu := int_inv h1
    subst hu
    exact .inl ⟨_, rfl, q _ H R .refl (.int _)⟩
def rLen (K : PySem.W.Frag) : List V → Hp → VK → Prop := fun xs H Q => ∃ p ys, xs = [.ref p] ∧ (SqL K H p ys ∨ SqT K H p ys) ∧ Q (.int ys.length) H
theorem ops_len : Op1S K cls oLen (fun u => rLen K [u]) := by
  intro ρ Z σ H sl st x z u R h1 e Q q
  have e' : (viewL st x).bind (fun xs => some (Val.int (xs.length : Nat))) = some z := e
  obtain ⟨xs, e1, e2⟩ := bind_some e'
  cases e2
  obtain ⟨a, us, rfl, r1, r2⟩ := viewL_of R h1 e1
  refine ⟨a, us, rfl, ?_, by rw [← r2.length]; exact q _ H R .refl (.int _)⟩
  rcases r1 with ⟨r1, _⟩ | ⟨r1, _⟩
  · exact .inl r1
  · exact .inr r1
theorem call_lenS {X : Cx} : CallR X (.builtin "len") (rLen X.K) := by
  intro pins s σ H xs us Q I r h
  obtain ⟨p, ys, rfl, hq, q⟩ := h
  refine call_len pins s σ H _ us Q I r ⟨.ref p, ys.length, rfl, ?_, q⟩
  rcases hq with hq | hq
  · exact .inl ⟨_, hq, rfl⟩
  · exact .inr ⟨_, hq, rfl⟩

/-! ### new lists -/
/-- list + list, of any that are read -/
def rCatS (K : PySem.W.Frag) : R2 := fun x y H Q => ∃ l b xs zs, x = .ref l ∧ y = .ref b ∧ SqL K H l xs ∧ SqL K H b zs ∧ xs.length + zs.length ≤ sizeLine ∧ ∀ p, H p = none → Q (.ref p) (upd H p (.lst (xs ++ zs)))
theorem op_catS {X : Cx} : OpR X (binaryOp .Add) (rCatS X.K) := by
  intro pins s σ H x y v u Q I rx ry h
  obtain ⟨l, b, xs, zs, rfl, rfl, hH, hB, hz, q⟩ := h
  cases rx
  cases ry
  obtain ⟨its, r, ⟨⟨c1, d1, t1, s1⟩, n, e, hc, hd, ht⟩, z⟩ := I.list hH
  obtain ⟨its2, r2, ⟨⟨c2, d2, t2, s2⟩, n2, e2, hc2, hd2, ht2⟩, z2⟩ := I.list hB
  simp only at hc hd ht hc2 hd2 ht2
  subst hc hd ht hc2 hd2 ht2
  have hl := r.length
  have hl2 := r2.length
  refine concat_meets ⟨_, e, rfl⟩ ⟨_, e2, rfl⟩ noFill_list_add seq_list_add F.slot_list_add F.entry_list_add (F.args_list_add_2 _ _) (list_addW l b its.toArray its2.toArray n n2 none none s1 s2 (by rw [List.size_toArray, List.size_toArray]; omega)) ⟨e, e2, ?_⟩
  have ea : its.toArray ++ its2.toArray = (its ++ its2).toArray := by simp
  rw [ea]
  exact ⟨.ref _, _, I.lnew (t' := s.toks) (r.append r2) (by rw [List.length_append]; omega), rfl, q _ I.fresh⟩
theorem viewQ_two {xs ys : List Val} (R : Rel K cls ρ Z σ H sl st) (h1 : RepM K true ρ Z σ H sl x u) (h2 : RepM K true ρ Z σ H sl y v) (e1 : viewQ st x = some xs) (e2 : viewQ st y = some ys) :
    ∃ a b us vs, u = .ref a ∧ v = .ref b ∧ SqL K H a us ∧ SqL K H b vs ∧ RepL K ρ (AR ρ (ZO Z sl σ)) H xs us ∧ RepL K ρ (AR ρ (ZO Z sl σ)) H ys vs := by
  obtain ⟨a, us, rfl, r1, r2⟩ := viewQ_of R h1 e1
  obtain ⟨b, vs, rfl, r3, r4⟩ := viewQ_of R h2 e2
  exact ⟨a, b, us, vs, rfl, rfl, r1, r3, r2, r4⟩
theorem opl_cat : OpLS K cls oCat (rCatS K) := by
  intro ρ Z σ H sl st x y zs u v R h1 h2 e Q q
  obtain ⟨xs, e1, e⟩ := bind_some e
  obtain ⟨ys, e2, e⟩ := bind_some e
  split at e
  · rename_i hl
    cases e
    obtain ⟨a, b, us, vs, rfl, rfl, r1, r2, r3, r4⟩ := viewQ_two R h1 h2 e1 e2
    refine ⟨a, b, us, vs, rfl, rfl, r1, r2, ?_, fun p hp => q p _ hp (r3.append r4)⟩
    rw [← r3.length, ← r4.length]
    exact Nat.le_trans hl (by decide)
  · cases e
/-- + of any kind -/
def rAddX (K : PySem.W.Frag) : R2 := fun x y H Q => rI0 (fun i j => .int (i + j)) x y H Q ∨ rCatA K x y H Q ∨ rCatS K x y H Q
theorem op_addX {X : Cx} : OpR X (binaryOp .Add) (rAddX X.K) := op_add.or (op_catA.or op_catS)
theorem ops_add : OpS K cls oAdd (rAddX K) := by
  intro ρ Z σ H sl st x y z u v R h1 h2 e Q q
  have lists : ((viewQ st x).bind fun xs => (viewQ st y).bind fun ys => if xs.length + ys.length ≤ 100000 then some (Val.lst (xs ++ ys)) else none) = some z → rAddX K u v H Q := fun e => by
    obtain ⟨xs, e1, e⟩ := bind_some e
    obtain ⟨ys, e2, e⟩ := bind_some e
    split at e
    · rename_i hl
      cases e
      refine .inr (.inr (opl_cat ρ Z σ H sl st x y (xs ++ ys) u v R h1 h2 (by unfold oCat; rw [e1]; show (viewQ st y).bind _ = _; rw [e2]; show (if _ then _ else _) = _; rw [if_pos hl]) Q fun p us hp r => ?_))
      exact q _ _ (R.new hp) (.new hp) (.lst (.inl ⟨fun z => R.s.dom _ z hp, .inl upd_same⟩) (Ext.repL (.new hp) r))
    · cases e
  unfold oAdd at e
  split at e
  · rename_i i j
    cases e
    exact .inl ⟨i, j, int_inv h1, int_inv h2, q _ H R .refl (.int _)⟩
  · rename_i xs ys
    split at e
    · rename_i hl
      cases e
      obtain ⟨a, us, rfl, t1, r1⟩ := tup_inv h1
      obtain ⟨b, vs, rfl, t2, r2⟩ := tup_inv h2
      refine .inr (.inl ⟨a, b, us, vs, rfl, rfl, tup_sq t1, tup_sq t2, ?_, fun h0 => ?_, fun _ h0 => ?_, fun _ _ p hp => ?_⟩)
      · rw [← r1.length, ← r2.length]
        exact Nat.le_trans hl (by decide)
      · have hx : xs = [] := List.eq_nil_of_length_eq_zero (by rw [r1.length, h0]; rfl)
        subst hx
        exact q _ H R .refl (.tup t2 r2)
      · have hx : ys = [] := List.eq_nil_of_length_eq_zero (by rw [r2.length, h0]; rfl)
        subst hx
        rw [List.append_nil] at q
        exact q _ H R .refl (.tup t1 r1)
      · exact q _ _ (R.new hp) (.new hp) (.tup (.inl ⟨fun z => R.s.dom _ z hp, upd_same⟩) (Ext.repL (.new hp) (r1.append r2)))
    · cases e
  · exact lists e
def rRepS (K : PySem.W.Frag) : R2 := fun x y H Q => ∃ l k xs, x = .ref l ∧ y = .int k ∧ SqL K H l xs ∧ -(2 ^ 63) ≤ k ∧ k < 2 ^ 63 ∧ xs.length * k.toNat ≤ sizeLine ∧
  ∀ p, H p = none → Q (.ref p) (upd H p (.lst (List.replicate k.toNat xs).flatten))
theorem int_rmulW (a : Int) (t : Tok) (l : Addr) (items : Array Value) (n : Nat) (sl : Array (Option Value)) :
    Meets (Builtin.«int.__rmul__» ⟨[.int a t, .ref l], []⟩) (fun _ R s => s.heap.get? l = some { cls := .type "list", dict := none, data := .seq items n, slots := sl } ∧ R (.ok (.ret Value.notImplemented)) s) :=
  .of_wp fun prog w A R s h => by obtain ⟨hp, g, d, tk, os⟩ := s; obtain ⟨hl, h⟩ := h; wp_walk; exact ⟨_, rfl, h⟩
theorem list_mulW (l : Addr) (items : Array Value) (n : Nat) (sl : Array (Option Value)) (x : Int) (u : Tok) (hc0 : ¬(!Builtin.List.listFitsIndex x) = true) (hc1 : ¬items.size * x.toNat > (2 ^ 63 - 1) / 8) (hc2 : ¬Builtin.List.listTooLong (items.size * x.toNat) = true) :
    Meets (Builtin.«list.__mul__» ⟨[.ref l, .int x u], []⟩) (fun _ R s => s.heap.get? l = some { cls := .type "list", dict := none, data := .seq items n, slots := sl } ∧ R (.ok (.ret (Value.ref s.heap.objs.size))) { s with heap := s.heap.push { cls := Value.type "list", data := Data.seq (List.foldl (fun x1 x2 => x1 ++ x2) #[] (List.replicate (if items.isEmpty = true then 0 else x.toNat) items)) }, toks := s.toks }) :=
  .of_wp fun prog w A R s h => by
    obtain ⟨hp, g, d, tk, os⟩ := s; obtain ⟨hl, h⟩ := h
    have hsz := AutoListH.joined_fits hc2
    wp_walk; refine wpAny_ite_false (decide_eq_false (Nat.not_lt.mpr hsz)) ?_; wp_walk; exact ⟨_, rfl, h⟩
theorem op_repS {X : Cx} : OpR X (binaryOp .Mult) (rRepS X.K) := by
  intro pins s σ H x y v u Q I rx ry h
  obtain ⟨l, k, xs, rfl, rfl, hH, h1, h2, hz, q⟩ := h
  cases rx
  obtain ⟨t, rfl⟩ := ry
  obtain ⟨its, r, ⟨⟨c1, d1, t1, s1⟩, n, e, hc, hd, ht⟩, z⟩ := I.list hH
  simp only at hc hd ht
  subst hc hd ht
  have hl := r.length
  have hlen : its.toArray.size * k.toNat ≤ sizeLine := by rw [List.size_toArray, ← hl]; exact hz
  have hcap : ¬ its.toArray.size * k.toNat > (2 ^ 63 - 1) / 8 := by
    have : (sizeLine : Nat) ≤ (2 ^ 63 - 1) / 8 := by decide
    omega
  have hfit : ¬ (!Builtin.List.listFitsIndex k) = true := by
    rw [fitsIndex_both h1 h2]
    exact Bool.false_ne_true
  have hlong : ¬ Builtin.List.listTooLong (its.toArray.size * k.toNat) = true := by
    rw [notLongL hlen]
    exact Bool.false_ne_true
  have hnew : List.foldl (fun x1 x2 => x1 ++ x2) #[] (List.replicate (if its.toArray.isEmpty = true then 0 else k.toNat) its.toArray) = (List.replicate k.toNat its).flatten.toArray := by
    have f0 : ∀ m : Nat, List.foldl (fun x1 x2 => x1 ++ x2) #[] (List.replicate m its.toArray) = (List.replicate m its).flatten.toArray := fun m => by
      have := foldl_rep its m []
      rw [List.nil_append] at this
      exact this
    rw [f0]
    cases its with
    | nil => simp
    | cons a r' => rw [if_neg (by simp)]
  refine wpAny_binaryOp_repeat_ref (T := "list") (U := "int") (by decide) ⟨_, e, rfl⟩ (fun s' => typeIs_int s' k t) noFill_list_mul F.fills_int_mul F.slot_int_rmul repeat_list F.slot_int_index.lookup
    (call_meets F.slot_int_rmul (typeIs_int s k t) F.entry_int_rmul (F.args_int_rmul_2 _ _) (int_rmulW k t l its.toArray n s1)
      ⟨e, rfl, ⟨_, e, rfl⟩, call_meets F.slot_list_mul ⟨_, e, rfl⟩ F.entry_list_mul (F.args_list_mul_2 _ _) (list_mulW l its.toArray n s1 k t hfit hcap hlong) ⟨e, ?_⟩⟩)
  rw [hnew]
  exact ⟨.ref _, _, I.lnew (t' := s.toks) (r.rep k.toNat) (by rw [PyProof.Rows.lm_len_rep_flat, Nat.mul_comm]; exact hz), rfl, q _ I.fresh⟩
theorem opl_rep : OpLS K cls oRep (rRepS K) := by
  intro ρ Z σ H sl st x y zs u v R h1 h2 e Q q
  unfold oRep at e
  split at e
  · rename_i k
    obtain ⟨xs, e1, e⟩ := bind_some e
    split at e
    · rename_i hl
      cases e
      obtain ⟨a, us, rfl, r1, r2⟩ := viewQ_of R h1 e1
      exact ⟨a, k, us, rfl, int_inv h2, r1, by omega, by omega, (by rw [← r2.length]; exact Nat.le_trans hl.2.2 (by decide)), fun p hp => q p _ hp (r2.rep k.toNat)⟩
    · cases e
  · cases e
def rMulX (K : PySem.W.Frag) : R2 := fun x y H Q => rI CMulW (fun i j => .int (i * j)) x y H Q ∨ rRepS K x y H Q
theorem op_mulX {X : Cx} : OpR X (binaryOp .Mult) (rMulX X.K) := op_mulW.or op_repS
theorem big_mul {i j : Int} (h : (decide (i.natAbs < big) && decide (j.natAbs < big)) = true) : CMulW i j := by
  rw [Bool.and_eq_true, decide_eq_true_eq, decide_eq_true_eq] at h
  exact wide_mul (a := 400) (b := 400) h.1 h.2 (by decide) (by decide) (by decide)
theorem ops_mul : OpS K cls oMul (rMulX K) := by
  intro ρ Z σ H sl st x y z u v R h1 h2 e Q q
  unfold oMul at e
  split at e
  · rename_i st' i j
    have e' : (if (decide (i.natAbs < big) && decide (j.natAbs < big)) = true then some (Val.int (i * j)) else none) = some z := e
    split at e'
    · rename_i hb
      cases e'
      exact .inl ⟨i, j, int_inv h1, int_inv h2, big_mul hb, q _ H R .refl (.int _)⟩
    · cases e'
  · rename_i k _
    obtain ⟨xs, e1, e⟩ := bind_some e
    split at e
    · rename_i hl
      cases e
      obtain ⟨a, us, rfl, r1, r2⟩ := viewQ_of R h1 e1
      refine .inr ⟨a, k, us, rfl, int_inv h2, r1, by omega, by omega, (by rw [← r2.length]; exact Nat.le_trans hl.2.2 (by decide)), fun p hp => ?_⟩
      exact q _ _ (R.new hp) (.new hp) (.lst (.inl ⟨fun z => R.s.dom _ z hp, .inl upd_same⟩) (Ext.repL (.new hp) (r2.rep k.toNat)))
    · cases e
  · cases e
theorem and_pos {j : Int} (h : decide (0 < j) = true) : 0 < j := of_decide_eq_true h
theorem ops_mod : OpS K cls oMod (rI (fun _ j => 0 < j) fun i j => .int (i % j)) := ops_Ic fun _ _ h => of_decide_eq_true h
theorem ops_div : OpS K cls oDiv (rI CDiv fun i j => .int (i / j)) := ops_Ic fun i j h => by
  rw [Bool.and_eq_true, decide_eq_true_eq, decide_eq_true_eq] at h
  exact h
theorem ops_pow : OpS K cls oPow (rI CPow fun i j => .int (i ^ j.toNat)) := ops_Ic fun i j h => by
  rw [Bool.and_eq_true, Bool.and_eq_true, decide_eq_true_eq, decide_eq_true_eq, decide_eq_true_eq] at h
  exact ⟨h.1.1, by omega, h.2⟩
theorem ops_shl : OpS K cls oShl (rI CPow fun i j => .int (i * 2 ^ j.toNat)) := ops_Ic fun i j h => by
  rw [Bool.and_eq_true, Bool.and_eq_true, decide_eq_true_eq, decide_eq_true_eq, decide_eq_true_eq] at h
  exact ⟨h.1.1, by omega, h.2⟩
theorem ops_shr : OpS K cls oShr (rI (fun _ j => 0 ≤ j) fun i j => .int (i / 2 ^ j.toNat)) := ops_Ic fun _ _ h => of_decide_eq_true h

/-! ### list(x), sorted(x), x[::-1] -/
def rListS (K : PySem.W.Frag) : List V → Hp → VK → Prop := fun xs H Q => ∃ p ys, xs = [.ref p] ∧ (SqL K H p ys ∨ SqT K H p ys) ∧ ∀ l, H l = none → Q (.ref l) (upd H l (.lst ys))
theorem opl_list : Op1LS K cls oList (fun u => rListS K [u]) := by
  intro ρ Z σ H sl st x zs u R h1 e Q q
  obtain ⟨a, us, rfl, r1, r2⟩ := viewL_of R h1 e
  refine ⟨a, us, rfl, ?_, fun p hp => q p us hp r2⟩
  rcases r1 with ⟨r1, _⟩ | ⟨r1, _⟩
  · exact .inl r1
  · exact .inr r1
theorem allInt_rep {A : Addr → Prop} : ∀ {xs : List Val} {us : List V} {ns : List Int}, RepL K ρ A H xs us → allInt xs = some ns → us = ns.map V.int ∧ xs = ns.map Val.int
  | _, _, ns, .nil, h => by cases h; exact ⟨rfl, rfl⟩
  | _, _, ns, .cons r t, h => by
    cases r <;> first | cases h | skip
    obtain ⟨l, h1, h2⟩ := bind_some h
    cases h2
    obtain ⟨q1, q2⟩ := allInt_rep t h1
    exact ⟨by rw [q1]; rfl, by rw [q2]; rfl⟩
theorem insI_perm (i : Int) : ∀ l : List Int, (insI i l).Perm (i :: l)
  | [] => .refl _
  | j :: r => by
    unfold insI
    split
    · exact .refl _
    · exact ((insI_perm i r).cons j).trans (.swap _ _ _)
theorem sortI_perm : ∀ l : List Int, (sortI l).Perm l
  | [] => .refl _
  | i :: r => (insI_perm i (sortI r)).trans ((sortI_perm r).cons i)
theorem insI_sorted (i : Int) : ∀ {l : List Int}, l.Pairwise (· ≤ ·) → (insI i l).Pairwise (· ≤ ·)
  | [], _ => by simp [insI]
  | j :: r, h => by
    unfold insI
    rw [List.pairwise_cons] at h
    split
    · rename_i hij
      rw [List.pairwise_cons]
      refine ⟨fun k hk => ?_, List.pairwise_cons.mpr h⟩
      rcases List.mem_cons.mp hk with z | z
      · omega
      · have := h.1 k z; omega
    · rename_i hij
      rw [List.pairwise_cons]
      refine ⟨fun k hk => ?_, insI_sorted i h.2⟩
      rcases List.mem_cons.mp ((insI_perm i r).mem_iff.mp hk) with z | z
      · omega
      · exact h.1 k z
theorem sortI_sorted : ∀ l : List Int, (sortI l).Pairwise (· ≤ ·)
  | [] => List.Pairwise.nil
  | i :: r => insI_sorted i (sortI_sorted r)
theorem sorted_unique : ∀ {l l' : List Int}, l.Perm l' → l.Pairwise (· ≤ ·) → l'.Pairwise (· ≤ ·) → l = l' := fun p h h' => p.eq_of_pairwise (fun a b _ _ h1 h2 => Int.le_antisymm h1 h2) h h'
theorem opl_sort : Op1LS K cls oSort (fun u => rSortedI K [u]) := by
  intro ρ Z σ H sl st x zs u R h1 e Q q
  obtain ⟨xs, e1, e⟩ := bind_some e
  obtain ⟨ns, e2, e⟩ := bind_some e
  cases e
  obtain ⟨a, us, rfl, r1, r2⟩ := viewQ_of R h1 e1
  obtain ⟨rfl, rfl⟩ := allInt_rep r2 e2
  refine ⟨a, ns, rfl, r1, fun ns' p hp hs h0 => ?_⟩
  have e3 : ns' = sortI ns := sorted_unique (hp.trans (sortI_perm ns).symm) hs (sortI_sorted ns)
  subst e3
  exact q p _ h0 (RepL.ints _)
def rRevS (K : PySem.W.Frag) : V → Hp → VK → Prop := fun x H Q => ∃ a xs, x = .ref a ∧ SqL K H a xs ∧ ∀ p, H p = none → Q (.ref p) (upd H p (.lst xs.reverse))
theorem opl_rev : Op1LS K cls oRev (rRevS K) := by
  intro ρ Z σ H sl st x zs u R h1 e Q q
  obtain ⟨xs, e1, e⟩ := bind_some e
  cases e
  obtain ⟨a, us, rfl, r1, r2⟩ := viewQ_of R h1 e1
  exact ⟨a, us, rfl, r1, fun p hp => q p _ hp r2.reverse⟩
theorem snd_rev {ta : TE} {fa : E} (ha : Snd K cls m ta fa) : SndL K cls (tRevL K ta) (l1 oRev fa) := snd_l1 (r := rRevS K) opl_rev ha

/-! ### slices -/
theorem cut_rep {A : Addr → Prop} {xs : List Val} {us : List V} (r : RepL K ρ A H xs us) (lo hi : Option Int) : RepL K ρ A H (cut xs lo hi) (cutV us lo hi) := by
  unfold cut cutV
  rw [r.length]
  exact (r.drop _).take _
theorem snd_pn : SndP K cls tNoPart pN := ⟨fun ρ Z σ H sl st o st' R e Q q => by
  cases e
  exact q ρ H R .refl⟩
theorem snd_ps {ta : TE} {fa : E} (ha : Snd K cls m ta fa) : SndP K cls (tPart ta) (pS fa) := ⟨fun ρ Z σ H sl st o st' R e Q q => by
  obtain ⟨p, e1, e⟩ := bind_some e
  split at e
  · rename_i i hi
    cases e
    refine ha.run ρ Z σ H sl st p.1 p.2 R e1 _ fun u ρ1 H1 R1 x1 r1 => ?_
    rw [hi] at r1
    exact ⟨i, int_inv r1, q ρ1 H1 R1 x1⟩
  · cases e⟩
theorem snd_sl {ta : TE} {fa : E} {tl th : TO} {fl fh : P} (ha : Snd K cls m ta fa) (hl : SndP K cls tl fl) (hh : SndP K cls th fh) : SndL K cls (tSl (rSlL K) ta tl th) (lSl fa fl fh) := ⟨fun ρ Z σ H sl st ds st' R e Q q => by
  obtain ⟨p, e1, e⟩ := bind_some e
  obtain ⟨p2, e2, e⟩ := bind_some e
  obtain ⟨p3, e3, e⟩ := bind_some e
  obtain ⟨xs, e4, e⟩ := bind_some e
  cases e
  refine ha.run ρ Z σ H sl st p.1 p.2 R e1 _ fun u ρ1 H1 R1 x1 r1 => ?_
  refine hl.run ρ1 Z σ H1 sl p.2 p2.1 p2.2 R1 e2 _ fun ρ2 H2 R2 x2 => ?_
  refine hh.run ρ2 Z σ H2 sl p2.2 p3.1 p3.2 R2 e3 _ fun ρ3 H3 R3 x3 => ?_
  obtain ⟨a, us, rfl, r2, r3⟩ := viewQ_of R3 (r1.ext (x2.trans x3)) e4
  exact ⟨a, us, rfl, r2, fun w hw => q w _ ρ3 H3 R3 ((x1.trans x2).trans x3) hw (cut_rep r3 _ _)⟩⟩
def rSlX (K : PySem.W.Frag) : V → Option Int → Option Int → Hp → VK → Prop := fun x lo hi H Q => rSlL K x lo hi H Q ∨ rSlA K x lo hi H Q
theorem sl_X {X : Cx} : SlR X (rSlX X.K) := sl_list.or sl_tupA
theorem cut_whole {xs : List Val} {lo hi : Option Int} (h : HT.sIx xs.length 0 lo = 0 ∧ HT.sIx xs.length xs.length hi = xs.length) : cut xs lo hi = xs := by
  unfold cut
  rw [h.1, h.2, List.drop_zero, Nat.sub_zero, List.take_length]
theorem snd_slx {ta : TE} {fa : E} {tl th : TO} {fl fh : P} {m' : Bool} (ha : Snd K cls m ta fa) (hl : SndP K cls tl fl) (hh : SndP K cls th fh) : Snd K cls m' (tSl (rSlX K) ta tl th) (eSl fa fl fh) := ⟨fun ρ Z σ H sl st ds st' R e Q q => by
  obtain ⟨p, e1, e⟩ := bind_some e
  obtain ⟨p2, e2, e⟩ := bind_some e
  obtain ⟨p3, e3, e⟩ := bind_some e
  refine ha.run ρ Z σ H sl st p.1 p.2 R e1 _ fun u ρ1 H1 R1 x1 r1 => ?_
  refine hl.run ρ1 Z σ H1 sl p.2 p2.1 p2.2 R1 e2 _ fun ρ2 H2 R2 x2 => ?_
  refine hh.run ρ2 Z σ H2 sl p2.2 p3.1 p3.2 R2 e3 _ fun ρ3 H3 R3 x3 => ?_
  have r1' := r1.ext (x2.trans x3)
  split at e
  · rename_i xs hx
    cases e
    rw [hx] at r1'
    obtain ⟨a, us, rfl, t, r⟩ := tup_inv r1'
    refine .inr ⟨a, us, rfl, tup_sq t, fun hw => ?_, fun hw w hp => ?_⟩
    · rw [← r.length] at hw
      rw [cut_whole hw] at q
      exact q _ ρ3 H3 R3 ((x1.trans x2).trans x3) (.of (.tup t r))
    · exact q _ ρ3 _ (R3.new hp) (((x1.trans x2).trans x3).trans (.new hp)) (.of (.tup (.inl ⟨fun z => R3.s.dom _ z hp, upd_same⟩) (Ext.repL (.new hp) (cut_rep r _ _))))
  · obtain ⟨xs, e4, e⟩ := bind_some e
    cases e
    obtain ⟨a, us, rfl, r2, r3⟩ := viewQ_of R3 r1' e4
    exact .inl ⟨a, us, rfl, r2, fun w hp => q _ ρ3 _ (R3.new hp) (((x1.trans x2).trans x3).trans (.new hp)) (.of (.lst (.inl ⟨fun z => R3.s.dom _ z hp, .inl upd_same⟩) (Ext.repL (.new hp) (cut_rep r3 _ _))))⟩⟩
end
end Mi

set_option Elab.async false
set_option linter.all false
set_option maxRecDepth 100000
set_option maxHeartbeats 1000000
/-! Mi, fifth part: truths, displays, walks, comprehensions. -/
namespace Mi
open PySem L2
variable [Gam]

section
variable {K : PySem.W.Frag} {cls : Nat → Addr} {ta tb tc te : TE} {fa fb fc fe : E} {m m' m'' : Bool} {tA tB' : TT} {fA fB : T}
theorem snd_tE (ha : Snd K cls m ta fa) : SndT K cls (tTest ta) (tE fa) := ⟨fun ρ Z σ H sl st b st' R e Q q => by
  obtain ⟨p, e1, e⟩ := bind_some e
  split at e
  · rename_i b' hb
    cases e
    refine ha.run ρ Z σ H sl st p.1 p.2 R e1 _ fun u ρ1 H1 R1 x1 r1 => ?_
    rw [hb] at r1
    exact ⟨b, bl_inv r1, q ρ1 H1 R1 x1⟩
  · cases e⟩
theorem snd_tAnd (ha : SndT K cls tA fA) (hb : SndT K cls tB' fB) : SndT K cls (L2.tAnd tA tB') (tAnd fA fB) := ⟨fun ρ Z σ H sl st b st' R e Q q => by
  obtain ⟨p, e1, e⟩ := bind_some e
  refine ha.run ρ Z σ H sl st p.1 p.2 R e1 _ fun ρ1 H1 R1 x1 => ?_
  cases h : p.1 with
  | true =>
    rw [h, if_pos rfl] at e
    rw [if_pos rfl]
    exact hb.run ρ1 Z σ H1 sl p.2 b st' R1 e _ fun ρ2 H2 R2 x2 => q ρ2 H2 R2 (x1.trans x2)
  | false =>
    rw [h, if_neg (by decide)] at e
    cases e
    rw [if_neg (by decide)]
    exact q ρ1 H1 R1 x1⟩
theorem snd_tOr (ha : SndT K cls tA fA) (hb : SndT K cls tB' fB) : SndT K cls (L2.tOr tA tB') (tOr fA fB) := ⟨fun ρ Z σ H sl st b st' R e Q q => by
  obtain ⟨p, e1, e⟩ := bind_some e
  refine ha.run ρ Z σ H sl st p.1 p.2 R e1 _ fun ρ1 H1 R1 x1 => ?_
  cases h : p.1 with
  | false =>
    rw [h, if_neg (by decide)] at e
    rw [if_neg (by decide)]
    exact hb.run ρ1 Z σ H1 sl p.2 b st' R1 e _ fun ρ2 H2 R2 x2 => q ρ2 H2 R2 (x1.trans x2)
  | true =>
    rw [h, if_pos rfl] at e
    cases e
    rw [if_pos rfl]
    exact q ρ1 H1 R1 x1⟩
theorem snd_tNot (ha : SndT K cls tA fA) : SndT K cls (L2.tNot tA) (tNot fA) := ⟨fun ρ Z σ H sl st b st' R e Q q => by
  obtain ⟨p, e1, e⟩ := bind_some e
  cases e
  exact ha.run ρ Z σ H sl st p.1 p.2 R e1 _ fun ρ1 H1 R1 x1 => q ρ1 H1 R1 x1⟩
theorem snd_if (hA : SndT K cls tA fA) (ha : Snd K cls m ta fa) (hb : Snd K cls m tb fb) : Snd K cls m (tIf tA ta tb) (eIf fA fa fb) := ⟨fun ρ Z σ H sl st d st' R e Q q => by
  obtain ⟨p, e1, e⟩ := bind_some e
  refine hA.run ρ Z σ H sl st p.1 p.2 R e1 _ fun ρ1 H1 R1 x1 => ?_
  cases h : p.1 with
  | true =>
    rw [h, if_pos rfl] at e
    rw [if_pos rfl]
    exact ha.run ρ1 Z σ H1 sl p.2 d st' R1 e _ fun u ρ2 H2 R2 x2 r => q u ρ2 H2 R2 (x1.trans x2) r
  | false =>
    rw [h, if_neg (by decide)] at e
    rw [if_neg (by decide)]
    exact hb.run ρ1 Z σ H1 sl p.2 d st' R1 e _ fun u ρ2 H2 R2 x2 r => q u ρ2 H2 R2 (x1.trans x2) r⟩
theorem snd_and (ha : Snd K cls m' ta fa) (hb : Snd K cls m tb fb) : Snd K cls m (tAndV ta tb) (eAnd fa fb) := ⟨fun ρ Z σ H sl st d st' R e Q q => by
  obtain ⟨p, e1, e⟩ := bind_some e
  refine ha.run ρ Z σ H sl st p.1 p.2 R e1 _ fun u ρ1 H1 R1 x1 r1 => ?_
  split at e
  · rename_i h
    rw [h] at r1
    refine ⟨true, bl_inv r1, ?_⟩
    rw [if_pos rfl]
    exact hb.run ρ1 Z σ H1 sl p.2 d st' R1 e _ fun u ρ2 H2 R2 x2 r => q u ρ2 H2 R2 (x1.trans x2) r
  · rename_i h
    rw [h] at r1
    cases e
    refine ⟨false, bl_inv r1, ?_⟩
    rw [if_neg (by decide)]
    exact q _ ρ1 H1 R1 x1 (.of (.bl _))
  · cases e⟩
theorem snd_or (ha : Snd K cls m' ta fa) (hb : Snd K cls m tb fb) : Snd K cls m (tOrV ta tb) (eOr fa fb) := ⟨fun ρ Z σ H sl st d st' R e Q q => by
  obtain ⟨p, e1, e⟩ := bind_some e
  refine ha.run ρ Z σ H sl st p.1 p.2 R e1 _ fun u ρ1 H1 R1 x1 r1 => ?_
  split at e
  · rename_i h
    rw [h] at r1
    cases e
    refine ⟨true, bl_inv r1, ?_⟩
    rw [if_pos rfl]
    exact q _ ρ1 H1 R1 x1 (.of (.bl _))
  · rename_i h
    rw [h] at r1
    refine ⟨false, bl_inv r1, ?_⟩
    rw [if_neg (by decide)]
    exact hb.run ρ1 Z σ H1 sl p.2 d st' R1 e _ fun u ρ2 H2 R2 x2 r => q u ρ2 H2 R2 (x1.trans x2) r
  · cases e⟩
theorem snd_not (ha : Snd K cls m' ta fa) : Snd K cls m (tNotV ta) (eNot fa) := ⟨fun ρ Z σ H sl st d st' R e Q q => by
  obtain ⟨p, e1, e⟩ := bind_some e
  refine ha.run ρ Z σ H sl st p.1 p.2 R e1 _ fun u ρ1 H1 R1 x1 r1 => ?_
  split at e
  · rename_i b h
    rw [h] at r1
    cases e
    exact ⟨b, bl_inv r1, q _ ρ1 H1 R1 x1 (.of (.bl _))⟩
  · cases e⟩
theorem snd_ch {op op' : Sto → Val → Val → Option Val} {r r' : R2} (ho : OpS K cls op r) (ho' : OpS K cls op' r') (ha : Snd K cls m ta fa) (hb : Snd K cls m' tb fb) (hc : Snd K cls m'' tc fc) {m0 : Bool} :
    Snd K cls m0 (tChain r r' ta tb tc) (eCh op op' fa fb fc) := ⟨fun ρ Z σ H sl st d st' R e Q q => by
  obtain ⟨p, e1, e⟩ := bind_some e
  obtain ⟨p2, e2, e⟩ := bind_some e
  obtain ⟨z, e3, e⟩ := bind_some e
  refine ha.run ρ Z σ H sl st p.1 p.2 R e1 _ fun u ρ1 H1 R1 x1 r1 => ?_
  refine hb.run ρ1 Z σ H1 sl p.2 p2.1 p2.2 R1 e2 _ fun v ρ2 H2 R2 x2 r2 => ?_
  refine ho ρ2 Z σ H2 sl p2.2 _ _ _ u v R2 (r1.ext x2).up r2.up e3 _ fun w H3 R3 x3 r3 => ?_
  split at e
  · obtain ⟨p3, e4, e⟩ := bind_some e
    obtain ⟨z', e5, e⟩ := bind_some e
    refine ⟨true, bl_inv (.of (m := true) r3), ?_⟩
    rw [if_pos rfl]
    refine hc.run ρ2 Z σ H3 sl p2.2 p3.1 p3.2 R3 e4 _ fun v' ρ4 H4 R4 x4 r4 => ?_
    split at e
    · cases e
      exact ho' ρ4 Z σ H4 sl p3.2 _ _ _ v v' R4 (r2.ext (x3.trans x4)).up r4.up e5 _ fun w' H5 R5 x5 r5 => q w' ρ4 H5 R5 ((((x1.trans x2).trans x3).trans x4).trans x5) (.of r5)
    · cases e
  · cases e
    refine ⟨false, bl_inv (.of (m := true) r3), ?_⟩
    rw [if_neg (by decide)]
    exact q _ ρ2 H3 R3 ((x1.trans x2).trans x3) (.of (.bl _))
  · cases e⟩

/-! ### lists of expressions -/
theorem snd_nil : SndA K cls m tNil aNil := ⟨fun ρ Z σ H sl st ds st' R e Q q => by
  cases e
  exact q [] ρ H R .refl trivial⟩
theorem snd_cons {tr : TA} {fr : L} (ha : Snd K cls m ta fa) (hr : SndA K cls m tr fr) : SndA K cls m (tCons ta tr) (aCons fa fr) := ⟨fun ρ Z σ H sl st ds st' R e Q q => by
  obtain ⟨p, e1, e⟩ := bind_some e
  obtain ⟨p2, e2, e⟩ := bind_some e
  cases e
  refine ha.run ρ Z σ H sl st p.1 p.2 R e1 _ fun u ρ1 H1 R1 x1 r1 => ?_
  exact hr.run ρ1 Z σ H1 sl p.2 p2.1 p2.2 R1 e2 _ fun us ρ2 H2 R2 x2 r2 => q (u :: us) ρ2 H2 R2 (x1.trans x2) ⟨r1.ext x2, r2⟩⟩
theorem snd_tup {tr : TA} {fr : L} (hr : SndA K cls false tr fr) : Snd K cls m (tTup tr) (eTup fr) := ⟨fun ρ Z σ H sl st ds st' R e Q q => by
  obtain ⟨p, e1, e⟩ := bind_some e
  split at e
  · rename_i hl
    cases e
    refine hr.run ρ Z σ H sl st p.1 p.2 R e1 _ fun us ρ1 H1 R1 x1 r1 => ?_
    have rl := r1.repL
    refine ⟨by rw [← rl.length]; exact Nat.le_trans hl (by decide), fun w hp => ?_⟩
    exact q _ ρ1 _ (R1.new hp) (x1.trans (.new hp)) (.of (.tup (.inl ⟨fun z => R1.s.dom _ z hp, upd_same⟩) (Ext.repL (.new hp) rl)))
  · cases e⟩
theorem snd_disp {tr : TA} {fr : L} (hr : SndA K cls false tr fr) : SndL K cls (tLst tr) (lDisp fr) := ⟨fun ρ Z σ H sl st ds st' R e Q q => by
  obtain ⟨p, e1, e⟩ := bind_some e
  split at e
  · rename_i hl
    cases e
    refine hr.run ρ Z σ H sl st _ _ R e1 _ fun us ρ1 H1 R1 x1 r1 => ?_
    have rl := r1.repL
    exact ⟨by rw [← rl.length]; exact Nat.le_trans hl (by decide), fun w hp => q w us ρ1 _ R1 x1 hp rl⟩
  · cases e⟩
theorem allBl_rep {ρ : List Addr} {H : Hp} {A : Addr → Prop} : ∀ {xs : List Val} {us : List V} {bs : List Bool}, RepL K ρ A H xs us → allBl xs = some bs → us = bs.map V.bl
  | _, _, ns, .nil, h => by cases h; rfl
  | _, _, ns, .cons r t, h => by
    cases r <;> first | cases h | skip
    obtain ⟨l, h1, h2⟩ := bind_some h
    cases h2
    rw [allBl_rep t h1]
    rfl
theorem snd_any {fl : L} (hl : SndL K cls ta fl) : Snd K cls m (tCB (rAny K) (tCons ta tNil)) (eAny fl) := ⟨fun ρ Z σ H sl st ds st' R e Q q => by
  obtain ⟨p, e1, e⟩ := bind_some e
  obtain ⟨bs, e2, e⟩ := bind_some e
  cases e
  refine hl.run ρ Z σ H sl st p.1 p.2 R e1 _ fun w us ρ1 H1 R1 x1 hp r1 => ?_
  have hu := allBl_rep r1 e2
  subst hu
  exact ⟨w, bs, rfl, .of upd_same, q _ ρ1 _ (R1.new hp) (x1.trans (.new hp)) (.of (.bl _))⟩⟩
theorem snd_all {fl : L} (hl : SndL K cls ta fl) : Snd K cls m (tCB (rAll K) (tCons ta tNil)) (eAll fl) := ⟨fun ρ Z σ H sl st ds st' R e Q q => by
  obtain ⟨p, e1, e⟩ := bind_some e
  obtain ⟨bs, e2, e⟩ := bind_some e
  cases e
  refine hl.run ρ Z σ H sl st p.1 p.2 R e1 _ fun w us ρ1 H1 R1 x1 hp r1 => ?_
  have hu := allBl_rep r1 e2
  subst hu
  exact ⟨w, bs, rfl, .of upd_same, q _ ρ1 _ (R1.new hp) (x1.trans (.new hp)) (.of (.bl _))⟩⟩
end

/-! ### what is walked -/
section
variable {K : PySem.W.Frag} {cls : Nat → Addr} {ρ ρ' : List Addr} {Z A A' : Addr → Prop} {H H' : Hp} {st : Sto}
inductive SrcAt (K : PySem.W.Frag) (ρ : List Addr) (A : Addr → Prop) (H : Hp) : Src → It → Prop
  | seqL {x : Val} {a : Addr} : Rep K ρ A H x (.ref a) → (∀ xs, x ≠ .tup xs) → SrcAt K ρ A H (.seq x) (Itl K a)
  | seqT {xs : List Val} {a : Addr} : Rep K ρ A H (.tup xs) (.ref a) → SrcAt K ρ A H (.seq (.tup xs)) (Itt K a)
  | rng {lo : Int} {n : Nat} : SrcAt K ρ A H (.rng lo n) (Itr lo n)
  | enum {x : Val} {a : Addr} : Rep K ρ A H x (.ref a) → SrcAt K ρ A H (.enum x) (Ite K a)
  | zip {x y : Val} {a b : Addr} : Rep K ρ A H x (.ref a) → Rep K ρ A H y (.ref b) → SrcAt K ρ A H (.zip x y) (Itz K a b)
  | rg3 {lo c : Int} {n : Nat} : SrcAt K ρ A H (.seq (.tup ((List.range n).map fun k => .int (lo + (k : Nat) * c)))) (Itc lo c n)
theorem SrcAt.mono {src : Src} {J : It} (f : Fr A H A' H') (hr : ρ <+: ρ') (h : SrcAt K ρ A H src J) : SrcAt K ρ' A' H' src J := by
  cases h with
  | seqL h1 h2 => exact .seqL (h1.mono f hr) h2
  | seqT h1 => exact .seqT (h1.mono f hr)
  | rng => exact .rng
  | enum h1 => exact .enum (h1.mono f hr)
  | zip h1 h2 => exact .zip (h1.mono f hr) (h2.mono f hr)
  | rg3 => exact .rg3
theorem viewQ_r (R : RelR K cls ρ Z H st) {x : Val} {a : Addr} {xs : List Val} (h : Rep K ρ (AR ρ Z) H x (.ref a)) (hv : viewQ st x = some xs) : ∃ us, SqL K H a us ∧ RepL K ρ (AR ρ Z) H xs us := by
  cases h with
  | lst h1 h3 => cases hv; exact ⟨_, lst_sq h1, h3⟩
  | ref h1 =>
    rename_i n
    have hv' : (match st[n]? with
      | some (.lst xs) => some xs
      | _ => none) = some xs := hv
    split at hv'
    · rename_i ys e
      cases hv'
      obtain ⟨us, e1, r⟩ := R.cells n _ a e h1
      exact ⟨us, .inl (.inl e1), r⟩
    · cases hv'
  | tup _ _ => cases hv
  | fn _ _ _ => cases hv
theorem RepL.getn {xs : List Val} {us : List V} (r : RepL K ρ A H xs us) {i : Nat} (h : xs[i]? = none) : us.length ≤ i := by
  rw [← r.length]
  exact List.getElem?_eq_none_iff.mp h
/-- one turn -/
theorem SrcAt.turn (R : RelR K cls ρ Z H st) {src : Src} {J : It} (h : SrcAt K ρ (AR ρ Z) H src J) (i : Nat) :
    (∀ x, src.item st i = some (some x) → J.go i H ∧ ∀ u H', J.yld i H u H' → (H' = H ∨ ∃ p o, H p = none ∧ H' = upd H p o) ∧ Rep K ρ (AR ρ Z) H' x u) ∧ (src.item st i = some none → J.stop i H) := by
  cases h with
  | rng =>
    rename_i lo n
    refine ⟨fun x e => ?_, fun e => ?_⟩
    · have e' : some (if i < n then some (Val.int (lo + (i : Nat))) else none) = some (some x) := e
      split at e'
      · rename_i hi
        cases e'
        exact ⟨hi, fun u H' ⟨q1, q2⟩ => ⟨.inl q1, by rw [q2]; exact .int _⟩⟩
      · cases e'
    · have e' : some (if i < n then some (Val.int (lo + (i : Nat))) else none) = some none := e
      split at e'
      · cases e'
      · rename_i hi
        exact Nat.le_of_not_lt hi
  | rg3 =>
    rename_i lo c n
    have it : Src.item st (.seq (.tup ((List.range n).map fun k => .int (lo + (k : Nat) * c)))) i = some (((List.range n).map fun k => Val.int (lo + (k : Nat) * c))[i]?) := rfl
    rw [it, List.getElem?_map]
    by_cases hi : i < n
    · rw [List.getElem?_range hi]
      refine ⟨fun x e => ?_, fun e => by cases e⟩
      cases e
      exact ⟨hi, fun u H' ⟨q1, q2⟩ => ⟨.inl q1, by rw [q2]; exact .int _⟩⟩
    · rw [List.getElem?_eq_none (by rw [List.length_range]; omega)]
      exact ⟨fun x e => (by cases e), fun _ => Nat.le_of_not_lt hi⟩
  | seqL h1 h2 =>
    rename_i x0 a
    have hv : viewL st x0 = viewQ st x0 := by
      cases x0 <;> first | rfl | exact absurd rfl (h2 _)
    refine ⟨fun x e => ?_, fun e => ?_⟩
    · obtain ⟨xs, e1, e2⟩ := bind_some e
      rw [hv] at e1
      obtain ⟨us, q1, q2⟩ := viewQ_r R h1 e1
      obtain ⟨u, q3, q4⟩ := q2.get (Option.some.inj e2)
      refine ⟨⟨us, u, q1, q3⟩, fun w H' ⟨q5, q6⟩ => ⟨.inl q5, ?_⟩⟩
      have := q6 us q1
      rw [q3] at this
      cases this
      rw [q5]
      exact q4
    · obtain ⟨xs, e1, e2⟩ := bind_some e
      rw [hv] at e1
      obtain ⟨us, q1, q2⟩ := viewQ_r R h1 e1
      exact ⟨us, q1, q2.getn (Option.some.inj e2)⟩
  | seqT h1 =>
    rename_i xs0 a
    cases h1 with
    | tup t r =>
      rename_i us
      have q1 := tup_sq t
      refine ⟨fun x e => ?_, fun e => ?_⟩
      · have e2 : xs0[i]? = some x := Option.some.inj e
        obtain ⟨u, q3, q4⟩ := r.get e2
        refine ⟨⟨us, u, q1, q3⟩, fun w H' ⟨q5, q6⟩ => ⟨.inl q5, ?_⟩⟩
        have := q6 us q1
        rw [q3] at this
        cases this
        rw [q5]
        exact q4
      · have e2 : xs0[i]? = none := Option.some.inj e
        exact ⟨us, q1, r.getn e2⟩
  | enum h1 =>
    rename_i x0 a
    refine ⟨fun x e => ?_, fun e => ?_⟩
    · obtain ⟨xs, e1, e2⟩ := bind_some e
      obtain ⟨us, q1, q2⟩ := viewQ_r R h1 e1
      obtain ⟨y, e3, e4⟩ := Option.map_eq_some_iff.mp (Option.some.inj e2)
      subst e4
      obtain ⟨u, q3, q4⟩ := q2.get e3
      refine ⟨⟨us, u, q1, q3⟩, fun w H' ⟨T, y', q5, q6, q7, q8⟩ => ⟨.inr ⟨T, _, q6, q7⟩, ?_⟩⟩
      have := q8 us q1
      rw [q3] at this
      cases this
      rw [q5, q7]
      refine .tup (.inl ⟨fun z => R.dom _ z q6, upd_same⟩) (.cons (.int _) (.cons ?_ .nil))
      exact q4.mono (Fr.upd (.inr q6)) List.prefix_rfl
    · obtain ⟨xs, e1, e2⟩ := bind_some e
      obtain ⟨us, q1, q2⟩ := viewQ_r R h1 e1
      exact ⟨us, q1, q2.getn (Option.map_eq_none_iff.mp (Option.some.inj e2))⟩
  | zip h1 h2 =>
    rename_i x0 y0 a b
    refine ⟨fun x e => ?_, fun e => ?_⟩
    · obtain ⟨xs, e1, e⟩ := bind_some e
      obtain ⟨ys, e2, e⟩ := bind_some e
      obtain ⟨us, q1, q2⟩ := viewQ_r R h1 e1
      obtain ⟨vs, p1, p2⟩ := viewQ_r R h2 e2
      have e3 := Option.some.inj e
      split at e3
      · rename_i y z ey ez
        cases e3
        obtain ⟨u, q3, q4⟩ := q2.get ey
        obtain ⟨v, p3, p4⟩ := p2.get ez
        refine ⟨⟨us, vs, u, v, q1, p1, q3, p3⟩, fun w H' ⟨T, y', z', q5, q6, q7, q8, q9⟩ => ⟨.inr ⟨T, _, q6, q7⟩, ?_⟩⟩
        have t1 := q8 us q1
        rw [q3] at t1
        cases t1
        have t2 := q9 vs p1
        rw [p3] at t2
        cases t2
        rw [q5, q7]
        refine .tup (.inl ⟨fun z => R.dom _ z q6, upd_same⟩) (.cons ?_ (.cons ?_ .nil))
        · exact q4.mono (Fr.upd (.inr q6)) List.prefix_rfl
        · exact p4.mono (Fr.upd (.inr q6)) List.prefix_rfl
      · cases e3
    · obtain ⟨xs, e1, e⟩ := bind_some e
      obtain ⟨ys, e2, e⟩ := bind_some e
      obtain ⟨us, q1, q2⟩ := viewQ_r R h1 e1
      obtain ⟨vs, p1, p2⟩ := viewQ_r R h2 e2
      have e3 := Option.some.inj e
      refine ⟨us, vs, q1, p1, ?_⟩
      split at e3
      · cases e3
      · rename_i hn
        cases hx : xs[i]? with
        | none => exact .inl (q2.getn hx)
        | some y =>
          cases hy : ys[i]? with
          | none => exact .inr (p2.getn hy)
          | some z => exact (hn y z hx hy).elim
end
/-- what a for or a comprehension walks -/
structure SndI (K : PySem.W.Frag) (cls : Nat → Addr) (t : TI) (f : I) : Prop where
  run : ∀ (ρ : List Addr) (Z : Addr → Prop) (σ : L2.St) (H : Hp) (sl : Sl) (st : Sto) (src : Src) (st' : Sto), Rel K cls ρ Z σ H sl st → f sl st = some (src, st') → ∀ Q : It → Hp → Prop,
    (∀ J ρ' H', Rel K cls ρ' Z σ H' sl st' → Ext ρ H ρ' H' → SrcAt K ρ' (AR ρ' (ZO Z sl σ)) H' src J → Q J H') → t σ H Q
abbrev SI (X : Cx) (K : PySem.W.Frag) (cls : Nat → Addr) (tg e : Expr) (t : TI) (f : I) : Prop := PI X tg e t ∧ SndI K cls t f
section
variable {K : PySem.W.Frag} {cls : Nat → Addr} {ta tb : TE} {fa fb : E}
def iSeqX (K : PySem.W.Frag) (te : TE) : TI := fun σ H R => iList K te σ H R ∨ iTup K te σ H R
theorem pi_seqX {X : Cx} {tg e : Expr} (h : PE X e ta) : PI X tg e (iSeqX X.K ta) := ⟨fun pins s σ H R I q => q.elim (fun q => (pi_list h).run pins s σ H R I q) fun q => (pi_tup h).run pins s σ H R I q⟩
theorem snd_iSeq (ha : Snd K cls false ta fa) : SndI K cls (iSeqX K ta) (iSeq fa) := ⟨fun ρ Z σ H sl st src st' R e Q q => by
  obtain ⟨p, e1, e⟩ := bind_some e
  obtain ⟨xs, e2, e⟩ := bind_some e
  cases e
  by_cases hx : ∃ ys, p.1 = .tup ys
  · obtain ⟨ys, hy⟩ := hx
    refine .inr (ha.run ρ Z σ H sl st p.1 p.2 R e1 _ fun u ρ1 H1 R1 x1 r1 => ?_)
    rw [hy] at r1
    obtain ⟨a, us, rfl, t, r⟩ := tup_inv r1
    rw [hy] at q
    exact ⟨a, rfl, ⟨us, tup_sq t⟩, q _ ρ1 H1 R1 x1 (.seqT (.tup t r))⟩
  · refine .inl (ha.run ρ Z σ H sl st p.1 p.2 R e1 _ fun u ρ1 H1 R1 x1 r1 => ?_)
    have hv : viewL p.2 p.1 = viewQ p.2 p.1 := by
      cases h : p.1 <;> first | rfl | exact absurd ⟨_, h⟩ hx
    rw [hv] at e2
    obtain ⟨a, us, rfl, r2, r3⟩ := viewQ_of R1 r1 e2
    exact ⟨a, rfl, ⟨us, r2⟩, q _ ρ1 H1 R1 x1 (.seqL r1.rep fun ys h => hx ⟨ys, h⟩)⟩⟩
theorem snd_iRg1 {m : Bool} (ha : Snd K cls m ta fa) : SndI K cls (iRng1 (tCons ta tNil)) (iRg1 fa) := ⟨fun ρ Z σ H sl st src st' R e Q q => by
  obtain ⟨p, e1, e⟩ := bind_some e
  refine ha.run ρ Z σ H sl st p.1 p.2 R e1 _ fun u ρ1 H1 R1 x1 r1 => ?_
  split at e
  · rename_i n hn
    rw [hn] at r1
    split at e
    · rename_i hb
      cases e
      refine ⟨n, by rw [int_inv r1], by omega, by omega, ?_⟩
      exact q _ ρ1 H1 R1 x1 .rng
    · cases e
  · cases e⟩
theorem snd_iRg2 {m m' : Bool} (ha : Snd K cls m ta fa) (hb : Snd K cls m' tb fb) : SndI K cls (iRng2 (tCons ta (tCons tb tNil))) (iRg2 fa fb) := ⟨fun ρ Z σ H sl st src st' R e Q q => by
  obtain ⟨p, e1, e⟩ := bind_some e
  obtain ⟨p2, e2, e⟩ := bind_some e
  refine ha.run ρ Z σ H sl st p.1 p.2 R e1 _ fun u ρ1 H1 R1 x1 r1 => ?_
  refine hb.run ρ1 Z σ H1 sl p.2 p2.1 p2.2 R1 e2 _ fun v ρ2 H2 R2 x2 r2 => ?_
  split at e
  · rename_i i j hi hj
    rw [hi] at r1
    rw [hj] at r2
    split at e
    · rename_i hb
      cases e
      refine ⟨i, j, by rw [int_inv r1, int_inv r2], ⟨by omega, by omega, by omega, by omega⟩, ?_⟩
      exact q _ ρ2 H2 R2 (x1.trans x2) .rng
    · cases e
  · cases e⟩
theorem snd_iEnum (ha : Snd K cls false ta fa) : SndI K cls (L2.iEnum K (tCons ta tNil)) (iEnum fa) := ⟨fun ρ Z σ H sl st src st' R e Q q => by
  obtain ⟨p, e1, e⟩ := bind_some e
  obtain ⟨xs, e2, e⟩ := bind_some e
  cases e
  refine ha.run ρ Z σ H sl st p.1 p.2 R e1 _ fun u ρ1 H1 R1 x1 r1 => ?_
  obtain ⟨a, us, rfl, r2, r3⟩ := viewQ_of R1 r1 e2
  exact ⟨a, us, rfl, r2, q _ ρ1 H1 R1 x1 (.enum r1.rep)⟩⟩
theorem snd_iZip (ha : Snd K cls false ta fa) (hb : Snd K cls false tb fb) : SndI K cls (L2.iZip K (tCons ta (tCons tb tNil))) (iZip fa fb) := ⟨fun ρ Z σ H sl st src st' R e Q q => by
  obtain ⟨p, e1, e⟩ := bind_some e
  obtain ⟨p2, e2, e⟩ := bind_some e
  obtain ⟨xs, e3, e⟩ := bind_some e
  obtain ⟨ys, e4, e⟩ := bind_some e
  cases e
  refine ha.run ρ Z σ H sl st p.1 p.2 R e1 _ fun u ρ1 H1 R1 x1 r1 => ?_
  refine hb.run ρ1 Z σ H1 sl p.2 p2.1 p2.2 R1 e2 _ fun v ρ2 H2 R2 x2 r2 => ?_
  obtain ⟨a, us, rfl, r3, r4⟩ := viewQ_of R2 (r1.ext x2) e3
  obtain ⟨b, vs, rfl, r5, r6⟩ := viewQ_of R2 r2 e4
  exact ⟨a, b, us, vs, rfl, r3, r5, q _ ρ2 H2 R2 (x1.trans x2) (.zip (r1.ext x2).rep r2.rep)⟩⟩
end
end Mi

set_option Elab.async false
set_option linter.all false
set_option maxRecDepth 100000
set_option maxHeartbeats 1000000
/-! Mi, sixth part: targets and comprehensions. -/
namespace Mi
open PySem L2
variable [Gam]

section
variable {K : PySem.W.Frag} {cls : Nat → Addr} {ρ ρ' : List Addr} {Z Z' : Addr → Prop} {σ σ' : L2.St} {H H' : Hp} {sl sl' : Sl} {st st' : Sto}
/-- the same store, other things kept apart -/
theorem RelR.zs (R : RelR K cls ρ Z H st) (h : ∀ a, Z' a → Z a) : RelR K cls ρ Z' H st where
  nd := R.nd
  len := R.len
  cells := fun n c a h1 h2 => (R.cells n c a h1 h2).mono (Fr.less fun b hb => hb.imp id (h b)) List.prefix_rfl rfl
  dom := fun a ha => R.dom a (ha.imp id (h a))
  dis := fun a ha z => R.dis a ha (h a z)
theorem own_set {i : Nat} {v : Val} {u : V} {a : Addr} (h : Own (sl.set i (.val v)) (σ.set i (some u)) a) : Own sl σ a := by
  obtain ⟨j, xs, h1, h2⟩ := h
  by_cases hj : j = i
  · subst hj
    by_cases hl : j < sl.length
    · rw [List.getElem?_set_self hl] at h1; cases h1
    · rw [List.getElem?_eq_none (by simpa using hl)] at h1; cases h1
  · rw [List.getElem?_set_ne (Ne.symm hj)] at h1
    rw [List.getElem?_set_ne (Ne.symm hj)] at h2
    exact ⟨j, xs, h1, h2⟩
theorem Rel.setVal {i : Nat} {v : Val} {u : V} (R : Rel K cls ρ Z σ H sl st) (r : Rep K ρ (AR ρ (ZO Z sl σ)) H v u) (hi : i < sl.length) : Rel K cls ρ Z (σ.set i (some u)) H (sl.set i (.val v)) st := by
  have le : ∀ a, ZO Z (sl.set i (.val v)) (σ.set i (some u)) a → ZO Z sl σ a := fun a h => h.imp id own_set
  have le2 : ∀ a, AR ρ (ZO Z (sl.set i (.val v)) (σ.set i (some u))) a → AR ρ (ZO Z sl σ) a := fun a h => h.imp id (le a)
  have hi' : i < σ.length := by rw [← R.slen]; exact hi
  refine ⟨R.s.zs le, by rw [List.length_set, List.length_set]; exact R.slen, fun j w h => ?_, fun j xs h => ?_, fun j k xs ys a h1 h2 h3 h4 => ?_⟩
  · by_cases hj : j = i
    · subst hj
      rw [List.getElem?_set_self hi] at h
      cases h
      exact ⟨u, by rw [List.getElem?_set_self hi'], r.mono (Fr.less le2) List.prefix_rfl⟩
    · rw [List.getElem?_set_ne (Ne.symm hj)] at h
      obtain ⟨u', q1, q2⟩ := R.slots j w h
      exact ⟨u', by rw [List.getElem?_set_ne (Ne.symm hj)]; exact q1, q2.mono (Fr.less le2) List.prefix_rfl⟩
  · by_cases hj : j = i
    · subst hj
      rw [List.getElem?_set_self hi] at h
      cases h
    · rw [List.getElem?_set_ne (Ne.symm hj)] at h
      obtain ⟨a, us, q1, q2, q3, q4⟩ := R.owns j xs h
      exact ⟨a, us, by rw [List.getElem?_set_ne (Ne.symm hj)]; exact q1, q2, q3.mono (Fr.less le2) List.prefix_rfl, q4⟩
  · have hj : j ≠ i := fun z => by
      subst z
      rw [List.getElem?_set_self hi] at h1
      cases h1
    have hk : k ≠ i := fun z => by
      subst z
      rw [List.getElem?_set_self hi] at h2
      cases h2
    rw [List.getElem?_set_ne (Ne.symm hj)] at h1 h3
    rw [List.getElem?_set_ne (Ne.symm hk)] at h2 h4
    exact R.inj j k xs ys a h1 h2 h3 h4

/-! ### targets -/
/-- all slots but these are as they were -/
structure Agr (is : List Nat) (σ : L2.St) (sl : Sl) (σ' : L2.St) (sl' : Sl) : Prop where
  len : σ'.length = σ.length
  at_ : ∀ j, j ∉ is → σ'[j]? = σ[j]? ∧ sl'[j]? = sl[j]?
/-- is: the slots that may be stored -/
structure SndG (K : PySem.W.Frag) (cls : Nat → Addr) (is : List Nat) (t : TG) (f : G) : Prop where
  run : ∀ (ρ : List Addr) (Z : Addr → Prop) (σ : L2.St) (H : Hp) (sl : Sl) (st : Sto) (v : Val) (u : V) (sl' : Sl), Rel K cls ρ Z σ H sl st → Rep K ρ (AR ρ (ZO Z sl σ)) H v u → f v sl st = some sl' → ∀ Q : L2.St → Hp → Prop,
    (∀ σ', Rel K cls ρ Z σ' H sl' st → Agr is σ sl σ' sl' → (∀ a, Own sl' σ' a → Own sl σ a) → Q σ' H) → t u σ H Q
structure SndGs (K : PySem.W.Frag) (cls : Nat → Addr) (is : List Nat) (t : TGs) (f : Gs) : Prop where
  run : ∀ (ρ : List Addr) (Z : Addr → Prop) (σ : L2.St) (H : Hp) (sl : Sl) (st : Sto) (vs : List Val) (us : List V) (sl' : Sl), Rel K cls ρ Z σ H sl st → RepL K ρ (AR ρ (ZO Z sl σ)) H vs us → f vs sl st = some sl' → ∀ Q : L2.St → Hp → Prop,
    (∀ σ', Rel K cls ρ Z σ' H sl' st → Agr is σ sl σ' sl' → (∀ a, Own sl' σ' a → Own sl σ a) → Q σ' H) → t us σ H Q
abbrev SG (X : Cx) (K : PySem.W.Frag) (cls : Nat → Addr) (is : List Nat) (e : Expr) (t : TG) (f : G) : Prop := PG X e t ∧ SndG K cls is t f
abbrev SGs (X : Cx) (K : PySem.W.Frag) (cls : Nat → Addr) (is : List Nat) (es : List Expr) (t : TGs) (f : Gs) : Prop := PGs X es t ∧ SndGs K cls is t f
theorem snd_name {i : Nat} : SndG K cls [i] (L2.gName i) (gName i) := ⟨fun ρ Z σ H sl st v u sl' R r e Q q => by
  have e' : (if i < sl.length then some (sl.set i (Slot.val v)) else none) = some sl' := e
  split at e'
  · rename_i hi
    cases e'
    refine q _ (R.setVal r hi) ⟨List.length_set .., fun j hj => ?_⟩ fun a => own_set
    have hj' : i ≠ j := fun z => hj (by simp [z])
    exact ⟨List.getElem?_set_ne hj', List.getElem?_set_ne hj'⟩
  · cases e'⟩
theorem snd_gnil : SndGs K cls [] L2.gNil gNil := ⟨fun ρ Z σ H sl st vs us sl' R r e Q q => by
  cases r with
  | nil => cases e; exact ⟨rfl, q σ R ⟨rfl, fun _ _ => ⟨rfl, rfl⟩⟩ fun _ h => h⟩
  | cons _ _ => cases e⟩
theorem snd_gcons {is js : List Nat} {t : TG} {f : G} {ts : TGs} {fs : Gs} (h : SndG K cls is t f) (hs : SndGs K cls js ts fs) : SndGs K cls (is ++ js) (L2.gCons t ts) (gCons f fs) := ⟨fun ρ Z σ H sl st vs us sl' R r e Q q => by
  cases r with
  | nil => cases e
  | cons r1 r2 =>
    rename_i v u vs us
    obtain ⟨sl1, e1, e2⟩ := bind_some e
    refine ⟨u, us, rfl, h.run ρ Z σ H sl st v u sl1 R r1 e1 _ fun σ1 R1 k1 o1 => ?_⟩
    have le2 : ∀ a, AR ρ (ZO Z sl1 σ1) a → AR ρ (ZO Z sl σ) a := fun a h => h.imp id fun z => z.imp id (o1 a)
    refine hs.run ρ Z σ1 H sl1 st vs us sl' R1 (r2.mono (Fr.less le2) List.prefix_rfl) e2 _ fun σ2 R2 k2 o2 => q σ2 R2 ⟨k2.len.trans k1.len, fun j hj => ?_⟩ fun a w => o1 a (o2 a w)
    rw [List.mem_append, not_or] at hj
    obtain ⟨a1, a2⟩ := k1.at_ j hj.1
    obtain ⟨b1, b2⟩ := k2.at_ j hj.2
    exact ⟨b1.trans a1, b2.trans a2⟩⟩
theorem snd_gtup {is : List Nat} {n : Nat} {ts : TGs} {fs : Gs} (hs : SndGs K cls is ts fs) : SndG K cls is (L2.gTup K n ts) (gTup n fs) := ⟨fun ρ Z σ H sl st v u sl' R r e Q q => by
  cases r <;> first | cases e | skip
  rename_i a xs us t r
  have e' : (if xs.length = n then fs xs sl st else none) = some sl' := e
  split at e'
  · rename_i hl
    exact ⟨a, us, rfl, tup_sq t, by rw [← r.length]; exact hl, hs.run ρ Z σ H sl st xs us sl' R r e' Q q⟩
  · cases e'⟩

/-! ### the block of a comprehension -/
theorem wipe_len : ∀ vs : List Nat, (wipe sl vs).length = sl.length
  | [] => rfl
  | i :: r => by unfold wipe; rw [List.length_set, wipe_len r]
theorem wipe_at {i : Nat} : ∀ {vs : List Nat}, i ∉ vs → (wipe sl vs)[i]? = sl[i]?
  | [], _ => rfl
  | j :: r, h => by
    rw [List.mem_cons, not_or] at h
    unfold wipe
    rw [List.getElem?_set_ne (Ne.symm h.1), wipe_at h.2]
theorem wipe_in {i : Nat} {s : Slot} : ∀ {vs : List Nat}, i ∈ vs → (wipe sl vs)[i]? = some s → s = .no
  | j :: r, h, e => by
    unfold wipe at e
    by_cases hj : i = j
    · subst hj
      by_cases hl : i < (wipe sl r).length
      · rw [List.getElem?_set_self hl] at e; cases e; rfl
      · rw [List.getElem?_eq_none (by simpa using hl)] at e; cases e
    · rw [List.getElem?_set_ne (Ne.symm hj)] at e
      rcases List.mem_cons.mp h with z | z
      · exact absurd z hj
      · exact wipe_in z e
theorem noOwn_at {i : Nat} {xs : List Val} : ∀ {vs : List Nat}, noOwn sl vs = true → i ∈ vs → sl[i]? ≠ some (.own xs)
  | j :: r, h, hi, e => by
    unfold noOwn at h
    rw [Bool.and_eq_true] at h
    rcases List.mem_cons.mp hi with z | z
    · subst z
      rw [e] at h
      exact nomatch h.1
    · exact noOwn_at h.2 z e
theorem wipe_ext {τ τ' : L2.St} (hl : τ'.length = τ.length) : ∀ {vs : List Nat}, (∀ j, j ∉ vs → τ'[j]? = τ[j]?) → L2.wipe τ' vs = L2.wipe τ vs := fun {vs} h => by
  apply List.ext_getElem?
  intro j
  by_cases hj : j ∈ vs
  · have key : ∀ (τ : L2.St) (vs : List Nat), j ∈ vs → (L2.wipe τ vs)[j]? = if j < τ.length then some none else none := by
      intro τ vs
      induction vs with
      | nil => intro h; cases h
      | cons i r ih =>
        intro h
        unfold L2.wipe
        by_cases hi : i = j
        · subst hi
          by_cases hlt : i < τ.length
          · rw [List.getElem?_set_self (by rw [wipe_length]; exact hlt), if_pos hlt]
          · rw [List.getElem?_eq_none (by rw [List.length_set, wipe_length]; omega), if_neg hlt]
        · rw [List.getElem?_set_ne hi]
          rcases List.mem_cons.mp h with z | z
          · exact absurd z.symm hi
          · exact ih z
    rw [key τ' vs hj, key τ vs hj, hl]
  · rw [wipe_out hj, wipe_out hj, h j hj]
theorem wipe_wipe (τ : L2.St) (vs : List Nat) : L2.wipe (L2.wipe τ vs) vs = L2.wipe τ vs := wipe_ext (wipe_length τ vs) fun _ hj => wipe_out hj
theorem own_wipe {vs : List Nat} (hn : noOwn sl vs = true) (a : Addr) : Own (wipe sl vs) (L2.wipe σ vs) a ↔ Own sl σ a := by
  refine ⟨fun ⟨i, xs, h1, h2⟩ => ?_, fun ⟨i, xs, h1, h2⟩ => ?_⟩
  · have hi : i ∉ vs := fun z => by have := wipe_in z h1; cases this
    rw [wipe_at hi] at h1
    rw [wipe_out hi] at h2
    exact ⟨i, xs, h1, h2⟩
  · have hi : i ∉ vs := fun z => noOwn_at hn z h1
    exact ⟨i, xs, by rw [wipe_at hi]; exact h1, by rw [wipe_out hi]; exact h2⟩
/-- the new list D is kept apart; the block's own slots are wiped -/
def ZD (Z : Addr → Prop) (D : Addr) : Addr → Prop := fun a => Z a ∨ a = D
theorem Rel.block {vs : List Nat} {D : Addr} {o : HO} (R : Rel K cls ρ Z σ H sl st) (hn : noOwn sl vs = true) (hD : H D = none) : Rel K cls ρ (ZD Z D) (L2.wipe σ vs) (L2.upd H D o) (wipe sl vs) st := by
  have fr : Fr (AR ρ (ZO Z sl σ)) H (AR ρ (ZO (ZD Z D) (wipe sl vs) (L2.wipe σ vs))) (L2.upd H D o) := ⟨fun a u hna h => by rw [upd_ne (ne_of_none h hD)]; exact h, fun a h => by
    rcases h with h | (h | h) | h
    · exact .inl (.inl h)
    · exact .inl (.inr (.inl h))
    · subst h; exact .inr hD
    · exact .inl (.inr (.inr ((own_wipe hn a).mp h)))⟩
  have hρ : ∀ a, AR ρ (ZO Z sl σ) a → a ≠ D := fun a h z => R.s.dom a h (z ▸ hD)
  refine ⟨⟨R.s.nd, R.s.len, fun n c a h1 h2 => ?_, fun a h => ?_, fun a h z => ?_⟩, by rw [wipe_len, wipe_length]; exact R.slen, fun i v h => ?_, fun i xs h => ?_, fun i j xs ys a h1 h2 h3 h4 => ?_⟩
  · exact (R.s.cells n c a h1 h2).mono fr List.prefix_rfl (upd_ne (hρ a (.inl (List.mem_of_getElem? h2))))
  · by_cases ha : a = D
    · subst ha; rw [upd_same]; simp
    · rw [upd_ne ha]
      exact (fr.new a h).elim (R.s.dom a) fun z => by
        rcases h with h | (h | h) | h
        · exact R.s.dom a (.inl h)
        · exact R.s.dom a (.inr (.inl h))
        · exact absurd h ha
        · exact R.s.dom a (.inr (.inr ((own_wipe hn a).mp h)))
  · rcases z with (z | z) | z
    · exact R.s.dis a h (.inl z)
    · exact hρ a (.inl h) z
    · exact R.s.dis a h (.inr ((own_wipe hn a).mp z))
  · have hi : i ∉ vs := fun z => by have := wipe_in z h; cases this
    rw [wipe_at hi] at h
    obtain ⟨u, q1, q2⟩ := R.slots i v h
    exact ⟨u, by rw [wipe_out hi]; exact q1, q2.mono fr List.prefix_rfl⟩
  · have hi : i ∉ vs := fun z => by have := wipe_in z h; cases this
    rw [wipe_at hi] at h
    obtain ⟨a, us, q1, q2, q3, q4⟩ := R.owns i xs h
    exact ⟨a, us, by rw [wipe_out hi]; exact q1, by rw [upd_ne (ne_of_none q2 hD)]; exact q2, q3.mono fr List.prefix_rfl, fun z => z.elim q4 fun z => ne_of_none q2 hD z⟩
  · have hi : i ∉ vs := fun z => by have := wipe_in z h1; cases this
    have hj : j ∉ vs := fun z => by have := wipe_in z h2; cases this
    rw [wipe_at hi] at h1
    rw [wipe_at hj] at h2
    rw [wipe_out hi] at h3
    rw [wipe_out hj] at h4
    exact R.inj i j xs ys a h1 h2 h3 h4
/-- what is kept apart is written -/
theorem Rel.zput {D : Addr} {o : HO} (R : Rel K cls ρ Z σ H sl st) (hD : Z D) : Rel K cls ρ Z σ (L2.upd H D o) sl st := by
  have hA : AR ρ (ZO Z sl σ) D := .inr (.inl hD)
  have fr : Fr (AR ρ (ZO Z sl σ)) H (AR ρ (ZO Z sl σ)) (L2.upd H D o) := Fr.upd (.inl hA)
  refine ⟨⟨R.s.nd, R.s.len, fun n c a h1 h2 => ?_, fun a h => ?_, R.s.dis⟩, R.slen, fun i v h => ?_, fun i xs h => ?_, R.inj⟩
  · exact (R.s.cells n c a h1 h2).mono fr List.prefix_rfl (upd_ne (show a ≠ D from fun z => R.s.dis a (List.mem_of_getElem? h2) (.inl (by rw [z]; exact hD))))
  · by_cases ha : a = D
    · subst ha; rw [upd_same]; simp
    · rw [upd_ne ha]; exact R.s.dom a h
  · obtain ⟨u, q1, q2⟩ := R.slots i v h
    exact ⟨u, q1, q2.mono fr List.prefix_rfl⟩
  · obtain ⟨a, us, q1, q2, q3, q4⟩ := R.owns i xs h
    exact ⟨a, us, q1, by rw [upd_ne (show a ≠ D from fun z => q4 (by rw [z]; exact hD))]; exact q2, q3.mono fr List.prefix_rfl, q4⟩
def erase (H : Hp) (D : Addr) : Hp := fun a => if a = D then none else H a
theorem erase_ne {D a : Addr} (h : a ≠ D) : erase H D a = H a := if_neg h
theorem erase_same {D : Addr} : erase H D D = none := if_pos rfl
theorem erase_upd {D : Addr} {o : HO} (h : H D = some o) : upd (erase H D) D o = H := by
  funext a
  by_cases ha : a = D
  · subst ha; rw [upd_same, h]
  · rw [upd_ne ha, erase_ne ha]

theorem erase_of {D : Addr} {o : HO} (h : H D = none) : erase (upd H D o) D = H := by
  funext a
  by_cases ha : a = D
  · subst ha; rw [erase_same, h]
  · rw [erase_ne ha, upd_ne ha]
theorem erase_put {D : Addr} {o : HO} : erase (upd H D o) D = erase H D := by
  funext a
  by_cases ha : a = D
  · subst ha; rw [erase_same, erase_same]
  · rw [erase_ne ha, erase_ne ha, upd_ne ha]
theorem Ext.erase {D : Addr} (x : Ext ρ H ρ' H') : Ext ρ (erase H D) ρ' (Mi.erase H' D) := ⟨x.pre, ⟨fun a o hn h => by
  by_cases ha : a = D
  · subst ha; rw [erase_same] at h; cases h
  · rw [erase_ne ha] at h ⊢
    exact x.fr.keep a o hn h, fun a h => (x.fr.new a h).imp id fun z => by
  by_cases ha : a = D
  · subst ha; rw [erase_same]
  · rw [erase_ne ha]; exact z⟩⟩
theorem blockFr {vs : List Nat} {D : Addr} (x : Ext ρ H ρ' (erase H' D)) (hn : noOwn sl vs = true) (hD : H D = none) : Fr (AR ρ (ZO Z sl σ)) H (AR ρ' (ZO (ZD Z D) (wipe sl vs) (L2.wipe σ vs))) H' := ⟨fun a o hna h => by
  have h1 := x.fr.keep a o (fun z => hna (.inl z)) h
  rw [erase_ne (ne_of_none h hD)] at h1
  exact h1, fun a h => by
  rcases h with h | (h | h) | h
  · exact (x.fr.new a h).imp .inl id
  · exact .inl (.inr (.inl h))
  · subst h; exact .inr hD
  · exact .inl (.inr (.inr ((own_wipe hn a).mp h)))⟩
/-- from the block back to the frame around -/
theorem Rel.unblock {vs : List Nat} {D : Addr} (R : Rel K cls ρ Z σ H sl st) (x : Ext ρ H ρ' (erase H' D)) (hn : noOwn sl vs = true) (hD : H D = none) (B : Rel K cls ρ' (ZD Z D) (L2.wipe σ vs) H' (wipe sl vs) st') :
    Rel K cls ρ' Z σ (erase H' D) sl st' ∧ ∀ {xs : List Val} {us : List V}, RepL K ρ' (AR ρ' (ZO (ZD Z D) (wipe sl vs) (L2.wipe σ vs))) H' xs us → RepL K ρ' (AR ρ' (ZO Z sl σ)) (erase H' D) xs us := by
  have sub : ∀ a, AR ρ' (ZO Z sl σ) a → AR ρ' (ZO (ZD Z D) (wipe sl vs) (L2.wipe σ vs)) a := fun a h => h.imp id fun h => h.elim (fun h => .inl (.inl h)) fun h => .inr ((own_wipe hn a).mpr h)
  have inD : AR ρ' (ZO (ZD Z D) (wipe sl vs) (L2.wipe σ vs)) D := .inr (.inl (.inr rfl))
  have fr : Fr (AR ρ' (ZO (ZD Z D) (wipe sl vs) (L2.wipe σ vs))) H' (AR ρ' (ZO Z sl σ)) (erase H' D) := ⟨fun a o hna h => by
    rw [erase_ne fun z => hna (by rw [z]; exact inD)]; exact h, fun a h => .inl (sub a h)⟩
  have hρ : ∀ a, a ∈ ρ' → a ≠ D := fun a h z => B.s.dis a h (.inl (.inr z))
  refine ⟨R.step x ⟨B.s.nd, B.s.len, fun n c a h1 h2 => ?_, fun a h => ?_, fun a h z => B.s.dis a h ?_⟩, fun r => r.mono fr List.prefix_rfl⟩
  · exact (B.s.cells n c a h1 h2).mono fr List.prefix_rfl (erase_ne (hρ a (List.mem_of_getElem? h2)))
  · have ha : a ≠ D := by
      rcases h with h | h | h
      · exact hρ a h
      · exact fun z => R.s.dom a (.inr (.inl h)) (z ▸ hD)
      · exact fun z => R.s.dom a (.inr (.inr h)) (z ▸ hD)
    rw [erase_ne ha]
    exact B.s.dom a (sub a h)
  · exact z.elim (fun z => .inl (.inl z)) fun z => .inr ((own_wipe hn a).mpr z)
theorem own_back {vs is : List Nat} {σ2 : L2.St} {sl1 : Sl} (his : ∀ i ∈ is, i ∈ vs) (k : ∀ j, j ∉ is → σ2[j]? = (L2.wipe σ vs)[j]? ∧ sl1[j]? = (wipe sl vs)[j]?) (a : Addr) (h : Own (wipe sl vs) (L2.wipe σ vs) a) : Own sl1 σ2 a := by
  obtain ⟨i, xs, h1, h2⟩ := h
  have hi : i ∉ is := fun z => by have := wipe_in (his i z) h1; cases this
  obtain ⟨k1, k2⟩ := k i hi
  exact ⟨i, xs, k2.trans h1, k1.trans h2⟩

/-- a comprehension -/
theorem snd_lc {wi : TI} {fi : I} {vs is : List Nat} {tg : TG} {fg : G} {tt : TT} {ft : T} {te : TE} {fe : E} (hi : SndI K cls wi fi) (hg : SndG K cls is tg fg) (his : ∀ i ∈ is, i ∈ vs) (ht : SndT K cls tt ft) (he : Snd K cls false te fe) :
    SndL K cls (tLc wi tg tt te vs) (lComp fi vs fg ft fe) := ⟨fun ρ Z σ H sl st ds st' R e Q q => by
  have e0 : (if noOwn sl vs = true then (fi sl st).bind fun p => lcLoop p.1 vs fg ft fe sl (p.1.len p.2) 0 [] p.2 else none) = some (ds, st') := e
  split at e0
  · rename_i hno
    obtain ⟨⟨src, st1⟩, e1, e2⟩ := bind_some e0
    refine hi.run ρ Z σ H sl st src st1 R e1 _ fun J ρ1 H1 R1 x1 hs => fun D hD => ?_
    have e2' : lcLoop src vs fg ft fe sl (src.len st1) 0 [] st1 = some (ds, st') := e2
    -- the word of the turn: the block stands, the list so far stands at D
    refine ⟨fun i n Hc => ∃ (ρc : List Addr) (acc : List Val) (us : List V) (stc : Sto), Rel K cls ρc (ZD Z D) (L2.wipe σ vs) Hc (wipe sl vs) stc ∧ Ext ρ1 H1 ρc (erase Hc D) ∧ Hc D = some (.lst us) ∧
      RepL K ρc (AR ρc (ZO (ZD Z D) (wipe sl vs) (L2.wipe σ vs))) Hc acc us ∧ lcLoop src vs fg ft fe sl n i acc stc = some (ds, st'), ⟨src.len st1, ρ1, [], [], st1, R1.block hno hD, by rw [erase_of hD]; exact .refl, upd_same, .nil, e2'⟩, ?_⟩
    rintro i n Hc ⟨ρc, acc, us, stc, B, xc, hDc, rl, el⟩
    have hsc := hs.mono (blockFr xc hno hD) xc.pre
    obtain ⟨go, stop⟩ := hsc.turn B.s i
    unfold lcLoop at el
    split at el
    · rename_i x hx
      obtain ⟨g1, g2⟩ := go x hx
      split at el
      · cases el
      · rename_i k
        obtain ⟨sl1, ea, el⟩ := bind_some el
        obtain ⟨⟨b, st2⟩, eb, el⟩ := bind_some el
        refine .inr ⟨g1, fun H' => ∃ (ρc : List Addr) (acc : List Val) (us : List V) (stc : Sto), Rel K cls ρc (ZD Z D) (L2.wipe σ vs) H' (wipe sl vs) stc ∧ Ext ρ1 H1 ρc (erase H' D) ∧ H' D = some (.lst us) ∧
          RepL K ρc (AR ρc (ZO (ZD Z D) (wipe sl vs) (L2.wipe σ vs))) H' acc us ∧ lcLoop src vs fg ft fe sl k (i + 1) acc stc = some (ds, st'), fun H' hN => ⟨k, Nat.lt_succ_self k, hN⟩, fun u H2 hy => ?_⟩
        obtain ⟨hH, ru⟩ := g2 u H2 hy
        have xH : Ext ρc Hc ρc H2 := by
          rcases hH with z | ⟨p, o, z1, z2⟩
          · rw [z]; exact .refl
          · rw [z2]; exact .new z1
        have B2 : Rel K cls ρc (ZD Z D) (L2.wipe σ vs) H2 (wipe sl vs) stc := by
          rcases hH with z | ⟨p, o, z1, z2⟩
          · rw [z]; exact B
          · rw [z2]; exact B.new z1
        have hDz : ZD Z D D := .inr rfl
        have hDρ : ∀ {ρq : List Addr} {σq : L2.St} {Hq : Hp} {slq : Sl} {stq : Sto}, Rel K cls ρq (ZD Z D) σq Hq slq stq → D ∉ ρq := fun Rq z => Rq.s.dis D z (.inl hDz)
        refine hg.run ρc (ZD Z D) (L2.wipe σ vs) H2 (wipe sl vs) stc x u sl1 B2 ru ea _ fun σ2 R2 k2 o2 => ?_
        refine ⟨(wipe_ext k2.len fun j hj => (k2.at_ j fun z => hj (his j z)).1).trans (wipe_wipe σ vs), ?_⟩
        have back : ∀ a, Own (wipe sl vs) (L2.wipe σ vs) a → Own sl1 σ2 a := own_back his k2.at_
        refine ht.run ρc (ZD Z D) σ2 H2 sl1 stc b st2 R2 eb _ fun ρ3 H3 R3 x3 => ?_
        cases b with
        | false =>
          rw [if_neg Bool.false_ne_true] at el ⊢
          have B3 := B2.step x3 (R3.s.zs fun a h => h.imp id (back a))
          have x23 : Ext ρc Hc ρ3 H3 := xH.trans x3
          refine ⟨ρ3, acc, us, st2, B3, xc.trans x23.erase, x23.fr.keep D _ (hDρ B) hDc, x23.repL rl, el⟩
        | true =>
          rw [if_pos rfl] at el ⊢
          obtain ⟨⟨y, st3⟩, ec, el⟩ := bind_some el
          refine he.run ρ3 (ZD Z D) σ2 H3 sl1 st2 y st3 R3 ec _ fun v ρ4 H4 R4 x4 rv => ?_
          split at el
          · rename_i hlen
            have B4 := B2.step (x3.trans x4) (R4.s.zs fun a h => h.imp id (back a))
            have x24 : Ext ρc Hc ρ4 H4 := (xH.trans x3).trans x4
            have hD4 : H4 D = some (.lst us) := x24.fr.keep D _ (hDρ B) hDc
            have rl4 := x24.repL rl
            have rv4 : Rep K ρ4 (AR ρ4 (ZO (ZD Z D) (wipe sl vs) (L2.wipe σ vs))) H4 y v := rv.rep.mono (Fr.less fun a h => h.imp id fun h => h.imp id (back a)) List.prefix_rfl
            have frD : Fr (AR ρ4 (ZO (ZD Z D) (wipe sl vs) (L2.wipe σ vs))) H4 (AR ρ4 (ZO (ZD Z D) (wipe sl vs) (L2.wipe σ vs))) (upd H4 D (.lst (us ++ [v]))) := Fr.upd (.inl (.inr (.inl hDz)))
            refine ⟨us, hD4, by rw [← rl.length]; exact Nat.lt_of_lt_of_le hlen (by decide), ρ4, acc ++ [y], us ++ [v], st3, B4.zput hDz, ?_, upd_same, (rl4.append (.cons rv4 .nil)).mono frD List.prefix_rfl, el⟩
            rw [erase_put]
            exact xc.trans x24.erase
          · cases el
    · rename_i hx
      cases el
      refine .inl ⟨stop hx, ?_⟩
      obtain ⟨Rf, rf⟩ := R1.unblock xc hno hD B
      have := q D us ρc (erase Hc D) Rf (x1.trans xc) erase_same (rf rl)
      rw [erase_upd hDc] at this
      exact this
    · cases el
  · cases e0⟩
end
end Mi

set_option Elab.async false
set_option linter.all false
set_option maxRecDepth 100000
set_option maxHeartbeats 1000000
/-! Mi, seventh part: calls, objects, statements, defs. -/
namespace Mi
open PySem PyProof.Rows L2
variable [Gam]

/-- the promise of a def: what its mirror gives -/
def spM (K : PySem.W.Frag) (cls : Nat → Addr) (m : F) : Sp := fun vs H Q _ => ∃ (ρ : List Addr) (Z : Addr → Prop) (ds : List Val) (st : Sto) (d : Val) (st' : Sto), RelR K cls ρ Z H st ∧ RepL K ρ (AR ρ Z) H ds vs ∧ m ds st = some (d, st') ∧
  ∀ u ρ' H', RelR K cls ρ' Z H' st' → Ext ρ H ρ' H' → Rep K ρ' (AR ρ' Z) H' d u → Q u H'

section
variable {K : PySem.W.Frag} {cls : Nat → Addr} {ρ ρ' : List Addr} {Z Z' : Addr → Prop} {σ σ' : L2.St} {H H' : Hp} {sl sl' : Sl} {st st' : Sto} {ta tb te : TE} {fa fb fe : E} {m m' : Bool} {t : TA} {f : L} {mm mm' : F} {C C' k : Nat}
theorem snd_call {EE : XK} (h : SndA K cls false t f) : Snd K cls m (tCall (spM K cls mm) [] EE t) (eCall mm f) := ⟨fun ρ Z σ H sl st d st' R e Q q => by
  obtain ⟨p, e1, e⟩ := bind_some e
  refine h.run ρ Z σ H sl st p.1 p.2 R e1 _ fun us ρ1 H1 R1 x1 r1 => ?_
  refine ⟨ρ1, ZO Z sl σ, p.1, p.2, d, st', R1.s, by rw [List.append_nil]; exact r1.repL, e, fun u ρ2 H2 R2 x2 r2 => ?_⟩
  exact q u ρ2 H2 (R1.step x2 R2) (x1.trans x2) (.of r2)⟩
/-- no method is an attribute -/
theorem lookup_zip_none {f : Str} : ∀ {ns : List Str} {us : List V}, f ∉ ns → (ns.zip us).lookup f = none
  | [], _, _ => by simp
  | _ :: _, [], _ => by simp
  | n :: ns, u :: us, h => by
    rw [List.mem_cons, not_or] at h
    show List.lookup f ((n, u) :: ns.zip us) = none
    have hb : (f == n) = false := beq_eq_false_iff_ne.mpr h.1
    simp only [List.lookup, hb]
    exact lookup_zip_none h.2
theorem isIns_inv (R : Rel K cls ρ Z σ H sl st) {x : Val} {u : V} (h : RepM K m ρ Z σ H sl x u) (hi : isIns st C x = true) : ∃ a dx us vs n, u = .ref a ∧ x = .ref n ∧ st[n]? = some (.ins C vs) ∧ ρ[n]? = some a ∧ H a = some (.ins (cls C) dx ((nms C).zip us)) ∧ us.length ≤ (nms C).length ∧ RepL K ρ (AR ρ (ZO Z sl σ)) H vs us := by
  unfold isIns at hi
  split at hi
  · rename_i n
    split at hi
    · rename_i D vs hn
      have hD : D = C := by simpa using hi
      subst hD
      rcases h with h | ⟨_, _, _, _, z, _⟩
      · cases h with
        | ref h1 =>
          rename_i a
          obtain ⟨dx, us, q1, q2, q3⟩ := R.s.cells n _ a hn h1
          exact ⟨a, dx, us, vs, n, rfl, rfl, hn, h1, q1, q2, q3⟩
      · cases z
    · cases hi
  · cases hi
theorem snd_meth {nm : Str} {EE : XK} (ha : Snd K cls m' ta fa) (h : SndA K cls false t f) (hn : nm ∉ nms C) : Snd K cls m (tMeth (cls C) nm (spM K cls mm) [] EE ta t) (eMeth C mm fa f) := ⟨fun ρ Z σ H sl st d st' R e Q q => by
  obtain ⟨p, e1, e⟩ := bind_some e
  split at e
  · rename_i hi
    obtain ⟨p2, e2, e⟩ := bind_some e
    refine ha.run ρ Z σ H sl st p.1 p.2 R e1 _ fun u ρ1 H1 R1 x1 r1 => ?_
    obtain ⟨a, dx, us, vs, n, rfl, hx, _, h2, h3, _, _⟩ := isIns_inv R1 r1 hi
    refine ⟨a, dx, _, rfl, h3, lookup_zip_none hn, ?_⟩
    refine h.run ρ1 Z σ H1 sl p.2 p2.1 p2.2 R1 e2 _ fun us ρ2 H2 R2 x2 r2 => ?_
    rw [hx] at e r1
    have r1' : Rep K ρ2 (AR ρ2 (ZO Z sl σ)) H2 (.ref n) (.ref a) := .ref (by
      obtain ⟨tt, ht⟩ := x2.pre
      rw [← ht, List.getElem?_append_left (List.getElem?_eq_some_iff.mp h2).1]
      exact h2)
    refine ⟨ρ2, ZO Z sl σ, .ref n :: p2.1, p2.2, d, st', R2.s, by rw [List.append_nil]; exact .cons r1' r2.repL, e, fun u ρ3 H3 R3 x3 r3 => ?_⟩
    exact q u ρ3 H3 (R2.step x3 R3) ((x1.trans x2).trans x3) (.of r3)
  · cases e⟩
/-- the receiver of one of two classes -/
theorem snd_meth2 {t1 t2 : TE} (h1 : Snd K cls m t1 (eMeth C mm fa f)) (h2 : Snd K cls m t2 (eMeth C' mm' fa f)) : Snd K cls m (fun σ H Q => t1 σ H Q ∨ t2 σ H Q) (eMeth2 C mm C' mm' fa f) := ⟨fun ρ Z σ H sl st d st' R e Q q => by
  obtain ⟨p, e1, e⟩ := bind_some e
  split at e
  · rename_i hi
    refine .inl (h1.run ρ Z σ H sl st d st' R ?_ Q q)
    unfold eMeth
    rw [e1]
    show (if _ then _ else _) = _
    rw [if_pos hi]
    exact e
  · split at e
    · rename_i hi
      refine .inr (h2.run ρ Z σ H sl st d st' R ?_ Q q)
      unfold eMeth
      rw [e1]
      show (if _ then _ else _) = _
      rw [if_pos hi]
      exact e
    · cases e⟩
theorem pe_alt {X : Cx} {e : Expr} {t1 t2 : TE} (h1 : PE X e t1) (h2 : PE X e t2) : PE X e (fun σ H Q => t1 σ H Q ∨ t2 σ H Q) := ⟨fun pins s σ H Q I q => q.elim (h1.run pins s σ H Q I) (h2.run pins s σ H Q I)⟩
theorem snd_new {EE : XK} (h : SndA K cls false t f) : Snd K cls m (tMake (cls C) (spM K cls mm) [] EE t) (eNew C mm f) := ⟨fun ρ Z σ H sl st d st' R e Q q => by
  obtain ⟨p, e1, e⟩ := bind_some e
  obtain ⟨p2, e2, e⟩ := bind_some e
  split at e
  · rename_i hv
    cases e
    refine h.run ρ Z σ H sl st p.1 p.2 R e1 _ fun us ρ1 H1 R1 x1 r1 => fun x dx hx hdx hne => ?_
    have R2 := R1.new (o := .own x) hdx
    have hx2 : upd H1 dx (.own x) x = none := by rw [upd_ne hne.symm]; exact hx
    have R3 : Rel K cls (ρ1 ++ [x]) Z σ (upd (upd H1 dx (.own x)) x (.ins (cls C) dx [])) sl (p.2 ++ [.ins C []]) := R2.push hx2 ⟨dx, [], by rw [upd_same, List.zip_nil_right], Nat.zero_le _, .nil⟩
    have x3 : Ext ρ1 H1 (ρ1 ++ [x]) (upd (upd H1 dx (.own x)) x (.ins (cls C) dx [])) := (Ext.new hdx).trans (.push hx2)
    have hρx : (ρ1 ++ [x])[p.2.length]? = some x := by rw [← R1.s.len, List.getElem?_append_right (Nat.le_refl _), Nat.sub_self] <;> rfl
    refine ⟨ρ1 ++ [x], ZO Z sl σ, .ref p.2.length :: p.1, _, p2.1, p2.2, R3.s, by rw [List.append_nil]; exact .cons (.ref hρx) (x3.repL r1.repL), e2, fun u ρ4 H4 R4 x4 r4 => ?_⟩
    rw [hv] at r4
    refine ⟨by cases r4; rfl, q _ ρ4 H4 (R3.step x4 R4) ((x1.trans x3).trans x4) (.of (.ref ?_))⟩
    obtain ⟨tt, ht⟩ := x4.pre
    rw [← ht, List.getElem?_append_left (List.getElem?_eq_some_iff.mp hρx).1]
    exact hρx
  · cases e⟩

/-! ### attributes -/
theorem lookup_zip {f : Str} : ∀ {ns : List Str} {us : List V} {k : Nat} {v : V}, ns.Nodup → ns[k]? = some f → us[k]? = some v → (ns.zip us).lookup f = some v
  | [], _, k, _, _, h, _ => by simp at h
  | _ :: _, [], k, _, _, _, h => by simp at h
  | n :: ns, u :: us, 0, v, _, h1, h2 => by
    simp at h1 h2
    subst h1
    subst h2
    show List.lookup n ((n, u) :: ns.zip us) = some u
    simp only [List.lookup, beq_self_eq_true]
  | n :: ns, u :: us, k + 1, v, nd, h1, h2 => by
    rw [List.nodup_cons] at nd
    simp at h1 h2
    show List.lookup f ((n, u) :: ns.zip us) = some v
    have hne : f ≠ n := fun z => nd.1 (by rw [← z]; exact List.mem_of_getElem? h1)
    have hb : (f == n) = false := beq_eq_false_iff_ne.mpr hne
    simp only [List.lookup, hb]
    exact lookup_zip nd.2 h1 h2
theorem putF_zip {f : Str} {v : V} : ∀ {ns : List Str} {us : List V} {k : Nat}, ns.Nodup → ns[k]? = some f → (k < us.length → putF f v (ns.zip us) = ns.zip (us.set k v)) ∧ (k = us.length → putF f v (ns.zip us) = ns.zip (us ++ [v]))
  | [], _, k, _, h => by simp at h
  | n :: ns, [], k, nd, h => by
    refine ⟨fun hk => by simp at hk, fun hk => ?_⟩
    have : k = 0 := hk
    subst this
    simp at h
    subst h
    show putF n v [] = (n :: ns).zip [v]
    simp [putF]
  | n :: ns, u :: us, 0, nd, h => by
    simp at h
    subst h
    refine ⟨fun _ => ?_, fun hk => by simp at hk⟩
    show (if n = n then (n, v) :: ns.zip us else _) = _
    rw [if_pos rfl]
    rfl
  | n :: ns, u :: us, k + 1, nd, h => by
    rw [List.nodup_cons] at nd
    simp at h
    have hne : n ≠ f := fun z => nd.1 (by rw [z]; exact List.mem_of_getElem? h)
    obtain ⟨i1, i2⟩ := putF_zip (v := v) (us := us) nd.2 h
    have e : putF f v ((n :: ns).zip (u :: us)) = (n, u) :: putF f v (ns.zip us) := by
      show (if n = f then (n, v) :: ns.zip us else (n, u) :: putF f v (ns.zip us)) = _
      rw [if_neg hne]
    refine ⟨fun hk => ?_, fun hk => ?_⟩
    · rw [e, i1 (by simpa using hk)] <;> rfl
    · rw [e, i2 (by simpa using hk)] <;> rfl
/-- what is known of a class's attribute -/
structure At (K : PySem.W.Frag) (cls : Nat → Addr) (C k : Nat) (f : Str) : Prop where
  cl : Cls K (cls C)
  no : NoAttr K (cls C) f
  nd : (nms C).Nodup
  ix : (nms C)[k]? = some f
def rFld (K : PySem.W.Frag) (f : Str) : V → Hp → VK → Prop := fun x H1 Q => ∃ a C dx fs v, x = .ref a ∧ H1 a = some (.ins C dx fs) ∧ Cls K C ∧ NoAttr K C f ∧ fs.lookup f = some v ∧ Q v H1
theorem ops_fld {f : Str} (h : At K cls C k f) : Op1S K cls (oFld C k) (rFld K f) := by
  intro ρ Z σ H sl st x z u R h1 e Q q
  unfold oFld at e
  split at e
  · rename_i st' n
    split at e
    · rename_i D vs hn
      split at e
      · rename_i hD
        subst hD
        rcases h1 with h1 | ⟨_, _, _, _, z, _⟩
        · cases h1 with
          | ref h2 =>
            rename_i a
            obtain ⟨dx, us, q1, q2, q3⟩ := R.s.cells n _ a hn h2
            obtain ⟨v, q4, q5⟩ := q3.get e
            exact ⟨a, _, dx, _, v, rfl, q1, h.cl, h.no, lookup_zip h.nd h.ix q4, q v H R .refl q5⟩
        · cases z
      · cases e
    · cases e
  · cases e
theorem snd_fld {f : Str} (h : At K cls C k f) (ha : Snd K cls m' ta fa) : Snd K cls m (tFld K ta f) (e1 (oFld C k) fa) := snd_e1 (ops_fld h) ha

/-! ### statements -/
/-- what is due behind a statement, from where it began -/
def After (K : PySem.W.Frag) (cls : Nat → Addr) (ρ : List Addr) (Z : Addr → Prop) (σ : L2.St) (H : Hp) (sl : Sl) (D : Ends) (r : Out × Sl × Sto) : Prop :=
  match r.1 with
  | .nx => ∀ σ' ρ' H', Rel K cls ρ' Z σ' H' r.2.1 r.2.2 → ρ <+: ρ' → Fr (WO ρ sl σ) H (WO ρ' r.2.1 σ') H' → D.nx σ' H'
  | .bk => ∀ σ' ρ' H', Rel K cls ρ' Z σ' H' r.2.1 r.2.2 → ρ <+: ρ' → Fr (WO ρ sl σ) H (WO ρ' r.2.1 σ') H' → D.bk σ' H'
  | .ct => ∀ σ' ρ' H', Rel K cls ρ' Z σ' H' r.2.1 r.2.2 → ρ <+: ρ' → Fr (WO ρ sl σ) H (WO ρ' r.2.1 σ') H' → D.ct σ' H'
  | .rt d => ∀ u ρ' H', RelR K cls ρ' Z H' r.2.2 → ρ <+: ρ' → Fr (WO ρ sl σ) H (· ∈ ρ') H' → Rep K ρ' (AR ρ' Z) H' d u → D.rt u H'
structure SndS (K : PySem.W.Frag) (cls : Nat → Addr) (t : TS) (f : S) : Prop where
  run : ∀ (ρ : List Addr) (Z : Addr → Prop) (σ : L2.St) (H : Hp) (sl : Sl) (st : Sto) (r : Out × Sl × Sto), Rel K cls ρ Z σ H sl st → f sl st = some r → ∀ D : Ends, After K cls ρ Z σ H sl D r → t D σ H
abbrev SS (X : Cx) (K : PySem.W.Frag) (cls : Nat → Addr) (s : Stmt) (t : TS) (f : S) : Prop := PS X s t ∧ SndS K cls t f
abbrev SSs (X : Cx) (K : PySem.W.Frag) (cls : Nat → Addr) (s : List Stmt) (t : TS) (f : S) : Prop := PSs X s t ∧ SndS K cls t f
theorem Ext.wo (x : Ext ρ H ρ' H') : Fr (WO ρ sl σ) H (WO ρ' sl σ) H' := ⟨fun a o hn h => x.fr.keep a o (fun z => hn (.inl z)) h, fun a h => h.elim (fun z => (x.fr.new a z).imp .inl id) fun z => .inl (.inr z)⟩
theorem After.later {D : Ends} {r : Out × Sl × Sto} (h : After K cls ρ Z σ H sl D r) (hp : ρ <+: ρ') (fr : Fr (WO ρ sl σ) H (WO ρ' sl' σ') H') : After K cls ρ' Z σ' H' sl' D r := by
  obtain ⟨o, sl2, st2⟩ := r
  cases o with
  | nx => exact fun σ2 ρ2 H2 R2 p2 f2 => h σ2 ρ2 H2 R2 (hp.trans p2) (fr.trans f2)
  | bk => exact fun σ2 ρ2 H2 R2 p2 f2 => h σ2 ρ2 H2 R2 (hp.trans p2) (fr.trans f2)
  | ct => exact fun σ2 ρ2 H2 R2 p2 f2 => h σ2 ρ2 H2 R2 (hp.trans p2) (fr.trans f2)
  | rt d => exact fun u ρ2 H2 R2 p2 f2 => h u ρ2 H2 R2 (hp.trans p2) (fr.trans f2)
theorem s_skip : SndS K cls tNext sSkip := ⟨fun ρ Z σ H sl st r R e D q => by
  cases e
  exact q σ ρ H R List.prefix_rfl .refl⟩
theorem s_seq {t u : TS} {f g : S} (h1 : SndS K cls t f) (h2 : SndS K cls u g) : SndS K cls (tSeq t u) (sSeq f g) := ⟨fun ρ Z σ H sl st r R e D q => by
  obtain ⟨⟨o, sl1, st1⟩, e1, e2⟩ := bind_some e
  refine h1.run ρ Z σ H sl st _ R e1 _ ?_
  cases o with
  | nx => exact fun σ1 ρ1 H1 R1 p1 f1 => h2.run ρ1 Z σ1 H1 sl1 st1 r R1 e2 D (q.later p1 f1)
  | bk => cases e2; exact q
  | ct => cases e2; exact q
  | rt d => cases e2; exact q⟩
theorem s_drop (ha : Snd K cls m ta fa) : SndS K cls (tDrop ta) (sDrop fa) := ⟨fun ρ Z σ H sl st r R e D q => by
  obtain ⟨p, e1, e⟩ := bind_some e
  cases e
  exact ha.run ρ Z σ H sl st p.1 p.2 R e1 _ fun u ρ1 H1 R1 x1 _ => q σ ρ1 H1 R1 x1.pre x1.wo⟩
/-- at a return the slots' own lists are values -/
theorem RepM.ret (R : Rel K cls ρ Z σ H sl st) {x : Val} {u : V} (h : RepM K m ρ Z σ H sl x u) : Rep K ρ (AR ρ Z) H x u := by
  have le : ∀ a, AR ρ Z a → AR ρ (ZO Z sl σ) a := fun a h => h.imp id .inl
  rcases h with h | ⟨_, i, xs, a, rfl, rfl, h1, h2⟩
  · exact h.mono (Fr.less le) List.prefix_rfl
  · obtain ⟨b, us, q1, q2, q3, q4⟩ := R.owns i xs h1
    rw [h2] at q1
    cases q1
    exact .lst (.inl ⟨fun z => z.elim (fun z => R.s.dis a z (.inr ⟨i, xs, h1, h2⟩)) q4, .inl q2⟩) (q3.mono (Fr.less le) List.prefix_rfl)
theorem RepML.ret (R : Rel K cls ρ Z σ H sl st) : ∀ {xs : List Val} {us : List V}, RepML K m ρ Z σ H sl xs us → RepL K ρ (AR ρ Z) H xs us
  | [], [], _ => .nil
  | _ :: _, _ :: _, h => .cons (h.1.ret R) (RepML.ret R h.2)
theorem wo_ret (R : Rel K cls ρ' Z σ H' sl st) (x : Fr (WO ρ sl σ) H (WO ρ' sl σ) H') : Fr (WO ρ sl σ) H (· ∈ ρ') H' := ⟨x.keep, fun a h => x.new a (.inl h)⟩
theorem s_ret (ha : Snd K cls m ta fa) : SndS K cls (tRet ta) (sRet fa) := ⟨fun ρ Z σ H sl st r R e D q => by
  obtain ⟨p, e1, e⟩ := bind_some e
  cases e
  exact ha.run ρ Z σ H sl st p.1 p.2 R e1 _ fun u ρ1 H1 R1 x1 r1 => q u ρ1 H1 (R1.s.zs fun a h => .inl h) x1.pre (wo_ret R1 x1.wo) (r1.ret R1)⟩
/-- return (a, b, ..), where own lists may be handed out -/
theorem s_retT (ha : SndA K cls m t f) : SndS K cls (tRet (tTup t)) (sRet (eTup f)) := ⟨fun ρ Z σ H sl st r R e D q => by
  obtain ⟨p, e1, e⟩ := bind_some e
  cases e
  obtain ⟨p2, e2, e3⟩ := bind_some e1
  split at e3
  · rename_i hl
    cases e3
    refine ha.run ρ Z σ H sl st p2.1 p2.2 R e2 _ fun us ρ1 H1 R1 x1 r1 => ?_
    have rl := r1.ret R1
    refine ⟨by rw [← rl.length]; exact Nat.le_trans hl (by decide), fun w hp => ?_⟩
    have R2 := R1.new (o := .tup us) hp
    have x2 : Ext ρ H ρ1 (upd H1 w (.tup us)) := x1.trans (.new hp)
    refine q _ ρ1 _ (R2.s.zs fun a h => .inl h) x2.pre (wo_ret R2 x2.wo) (.tup (.inl ⟨fun z => R1.s.dom w (z.imp id .inl) hp, upd_same⟩) (Ext.repL (.new hp) rl))
  · cases e3⟩
theorem s_retN : SndS K cls tRetN (sRet (eC .non)) := ⟨fun ρ Z σ H sl st r R e D q => by
  cases e
  exact q _ ρ H (R.s.zs fun a h => .inl h) List.prefix_rfl (wo_ret R .refl) .non⟩
theorem s_asg {is : List Nat} {tg : TG} {fg : G} (ha : Snd K cls false ta fa) (hg : SndG K cls is tg fg) : SndS K cls (tAsg ta tg) (sAsg fa fg) := ⟨fun ρ Z σ H sl st r R e D q => by
  obtain ⟨p, e1, e⟩ := bind_some e
  obtain ⟨sl1, e2, e⟩ := bind_some e
  cases e
  refine ha.run ρ Z σ H sl st p.1 p.2 R e1 _ fun u ρ1 H1 R1 x1 r1 => ?_
  refine hg.run ρ1 Z σ H1 sl p.2 p.1 u sl1 R1 r1.rep e2 _ fun σ2 R2 _ o2 => ?_
  exact q σ2 ρ1 H1 R2 x1.pre (x1.wo.trans ⟨fun _ _ _ h => h, fun a h => .inl (h.imp id (o2 a))⟩)⟩
theorem Rel.setOwn {i : Nat} {xs : List Val} {us : List V} {p : Addr} (R : Rel K cls ρ Z σ H sl st) (hp : H p = none) (r : RepL K ρ (AR ρ (ZO Z sl σ)) H xs us) (hi : i < sl.length) :
    Rel K cls ρ Z (σ.set i (some (.ref p))) (L2.upd H p (.lst us)) (sl.set i (.own xs)) st ∧ Fr (WO ρ sl σ) H (WO ρ (sl.set i (.own xs)) (σ.set i (some (.ref p)))) (L2.upd H p (.lst us)) := by
  have hi' : i < σ.length := by rw [← R.slen]; exact hi
  have ow : ∀ a, Own (sl.set i (.own xs)) (σ.set i (some (.ref p))) a → a = p ∨ Own sl σ a := fun a ⟨j, ys, h1, h2⟩ => by
    by_cases hj : j = i
    · subst hj
      rw [List.getElem?_set_self hi'] at h2
      cases h2
      exact .inl rfl
    · rw [List.getElem?_set_ne (Ne.symm hj)] at h1 h2
      exact .inr ⟨j, ys, h1, h2⟩
  have fr : Fr (AR ρ (ZO Z sl σ)) H (AR ρ (ZO Z (sl.set i (.own xs)) (σ.set i (some (.ref p))))) (L2.upd H p (.lst us)) := ⟨fun a o hn h => by rw [upd_ne (ne_of_none h hp)]; exact h, fun a h => by
    rcases h with h | h | h
    · exact .inl (.inl h)
    · exact .inl (.inr (.inl h))
    · rcases ow a h with z | z
      · rw [z]; exact .inr hp
      · exact .inl (.inr (.inr z))⟩
  have np : ∀ a, AR ρ (ZO Z sl σ) a → a ≠ p := fun a h z => R.s.dom a h (z ▸ hp)
  refine ⟨⟨⟨R.s.nd, R.s.len, fun n c a h1 h2 => ?_, fun a h => ?_, fun a h z => ?_⟩, by rw [List.length_set, List.length_set]; exact R.slen, fun j w h => ?_, fun j ys h => ?_, fun j k ys zs a h1 h2 h3 h4 => ?_⟩, ⟨fun a o hn h => by rw [upd_ne (ne_of_none h hp)]; exact h, fun a h => ?_⟩⟩
  · exact (R.s.cells n c a h1 h2).mono fr List.prefix_rfl (upd_ne (np a (.inl (List.mem_of_getElem? h2))))
  · by_cases ha : a = p
    · subst ha; rw [upd_same]; simp
    · rw [upd_ne ha]
      exact (fr.new a h).elim (R.s.dom a) fun z => by
        rcases h with h | h | h
        · exact R.s.dom a (.inl h)
        · exact R.s.dom a (.inr (.inl h))
        · exact (ow a h).elim (fun z => absurd z ha) fun z => R.s.dom a (.inr (.inr z))
  · rcases z with z | z
    · exact R.s.dis a h (.inl z)
    · exact (ow a z).elim (np a (.inl h)) fun z => R.s.dis a h (.inr z)
  · have hj : j ≠ i := fun z => by
      subst z
      rw [List.getElem?_set_self hi] at h
      cases h
    rw [List.getElem?_set_ne (Ne.symm hj)] at h
    obtain ⟨u', q1, q2⟩ := R.slots j w h
    exact ⟨u', by rw [List.getElem?_set_ne (Ne.symm hj)]; exact q1, q2.mono fr List.prefix_rfl⟩
  · by_cases hj : j = i
    · subst hj
      rw [List.getElem?_set_self hi] at h
      cases h
      exact ⟨p, us, by rw [List.getElem?_set_self hi'], upd_same, r.mono fr List.prefix_rfl, fun z => np p (.inr (.inl z)) rfl⟩
    · rw [List.getElem?_set_ne (Ne.symm hj)] at h
      obtain ⟨a, us, q1, q2, q3, q4⟩ := R.owns j ys h
      exact ⟨a, us, by rw [List.getElem?_set_ne (Ne.symm hj)]; exact q1, by rw [upd_ne (ne_of_none q2 hp)]; exact q2, q3.mono fr List.prefix_rfl, q4⟩
  · by_cases hj : j = i
    · by_cases hk : k = i
      · rw [hj, hk]
      · subst hj
        rw [List.getElem?_set_self hi'] at h3
        cases h3
        rw [List.getElem?_set_ne (Ne.symm hk)] at h2 h4
        exact absurd rfl (np p (.inr (.inr ⟨k, zs, h2, h4⟩)))
    · rw [List.getElem?_set_ne (Ne.symm hj)] at h1 h3
      by_cases hk : k = i
      · subst hk
        rw [List.getElem?_set_self hi'] at h4
        cases h4
        exact absurd rfl (np p (.inr (.inr ⟨j, ys, h1, h3⟩)))
      · rw [List.getElem?_set_ne (Ne.symm hk)] at h2 h4
        exact R.inj j k ys zs a h1 h2 h3 h4
  · rcases h with h | h
    · exact .inl (.inl h)
    · rcases ow a h with z | z
      · rw [z]; exact .inr hp
      · exact .inl (.inr z)
theorem s_own {i : Nat} {fl : L} (h : SndL K cls ta fl) : SndS K cls (tAsg ta (L2.gName i)) (sOwn i fl) := ⟨fun ρ Z σ H sl st r R e D q => by
  obtain ⟨p, e1, e⟩ := bind_some e
  split at e
  · rename_i hi
    cases e
    refine h.run ρ Z σ H sl st p.1 p.2 R e1 _ fun w us ρ1 H1 R1 x1 hp rl => ?_
    obtain ⟨R2, f2⟩ := R1.setOwn hp rl hi
    exact q _ ρ1 _ R2 x1.pre (x1.wo.trans f2)
  · cases e⟩
theorem s_if {tc : TT} {fc : T} {tu tw : TS} {fu fw : S} (hc : SndT K cls tc fc) (h1 : SndS K cls tu fu) (h2 : SndS K cls tw fw) : SndS K cls (tIfS tc tu tw) (sIf fc fu fw) := ⟨fun ρ Z σ H sl st r R e D q => by
  obtain ⟨p, e1, e⟩ := bind_some e
  refine hc.run ρ Z σ H sl st p.1 p.2 R e1 _ fun ρ1 H1 R1 x1 => ?_
  cases h : p.1 with
  | true =>
    rw [h, if_pos rfl] at e
    rw [if_pos rfl]
    exact h1.run ρ1 Z σ H1 sl p.2 r R1 e D (q.later x1.pre x1.wo)
  | false =>
    rw [h, if_neg Bool.false_ne_true] at e
    rw [if_neg Bool.false_ne_true]
    exact h2.run ρ1 Z σ H1 sl p.2 r R1 e D (q.later x1.pre x1.wo)⟩
/-- two names at once -/
theorem s_par {i j : Nat} (hij : i ≠ j) (ha : Snd K cls false ta fa) (hb : Snd K cls false tb fb) : SndS K cls (tPar i j (tCons ta (tCons tb tNil))) (sPar i j fa fb) := ⟨fun ρ Z σ H sl st r R e D q => by
  obtain ⟨p, e1, e⟩ := bind_some e
  obtain ⟨p2, e2, e⟩ := bind_some e
  split at e
  · rename_i hl
    cases e
    refine ha.run ρ Z σ H sl st p.1 p.2 R e1 _ fun u ρ1 H1 R1 x1 r1 => ?_
    refine hb.run ρ1 Z σ H1 sl p.2 p2.1 p2.2 R1 e2 _ fun v ρ2 H2 R2 x2 r2 => ⟨u, v, rfl, ?_⟩
    have R3 := R2.setVal (r1.ext x2).rep hl.1
    have le : ∀ a, AR ρ2 (ZO Z (sl.set i (.val p.1)) (σ.set i (some u))) a → AR ρ2 (ZO Z sl σ) a := fun a h => h.imp id fun z => z.imp id own_set
    have R4 := R3.setVal (r2.rep.mono (Fr.less le) List.prefix_rfl) (i := j) (by rw [List.length_set]; exact hl.2)
    exact q _ ρ2 H2 R4 (x1.trans x2).pre ((x1.trans x2).wo.trans ⟨fun _ _ _ h => h, fun a h => .inl (h.imp id fun z => own_set (own_set z))⟩)
  · cases e⟩
/-- for -/
theorem s_for {wi : TI} {fi : I} {is : List Nat} {tg : TG} {fg : G} {tb : TS} {fb : S} (hi : SndI K cls wi fi) (hg : SndG K cls is tg fg) (hb : SndS K cls tb fb) : SndS K cls (tFor wi tg tb) (sFor fi fg fb) := ⟨fun ρ Z σ H sl st r R e D q => by
  obtain ⟨⟨src, st1⟩, e1, e2⟩ := bind_some e
  refine hi.run ρ Z σ H sl st src st1 R e1 _ fun J ρ1 H1 R1 x1 hs => ?_
  have e2' : forLoop src fg fb (src.len st1) 0 sl st1 = some r := e2
  have q1 := q.later x1.pre x1.wo
  refine ⟨fun i n σc Hc => ∃ (ρc : List Addr) (slc : Sl) (stc : Sto), Rel K cls ρc Z σc Hc slc stc ∧ ρ1 <+: ρc ∧ Fr (WO ρ1 sl σ) H1 (WO ρc slc σc) Hc ∧ forLoop src fg fb n i slc stc = some r, ⟨src.len st1, ρ1, sl, st1, R1, List.prefix_rfl, .refl, e2'⟩, ?_⟩
  rintro i n σc Hc ⟨ρc, slc, stc, Rc, pc, fc, el⟩
  have frA : Fr (AR ρ1 (ZO Z sl σ)) H1 (AR ρc (ZO Z slc σc)) Hc := ⟨fun a o hn h => fc.keep a o (fun z => hn (z.imp id .inr)) h, fun a h => by
    rcases h with h | h | h
    · exact (fc.new a (.inl h)).imp (fun z => z.imp id .inr) id
    · exact .inl (.inr (.inl h))
    · exact (fc.new a (.inr h)).imp (fun z => z.imp id .inr) id⟩
  obtain ⟨go, stop⟩ := (hs.mono frA pc).turn Rc.s i
  unfold forLoop at el
  split at el
  · rename_i x hx
    obtain ⟨g1, g2⟩ := go x hx
    split at el
    · cases el
    · rename_i k
      obtain ⟨sl2, ea, el⟩ := bind_some el
      obtain ⟨⟨o, sl3, st3⟩, eb, el⟩ := bind_some el
      refine .inr ⟨g1, fun σ' H' => ∃ (ρc : List Addr) (slc : Sl) (stc : Sto), Rel K cls ρc Z σ' H' slc stc ∧ ρ1 <+: ρc ∧ Fr (WO ρ1 sl σ) H1 (WO ρc slc σ') H' ∧ forLoop src fg fb k (i + 1) slc stc = some r, fun σ' H' hN => ⟨k, Nat.lt_succ_self k, hN⟩, fun u H2 hy => ?_⟩
      obtain ⟨hH, ru⟩ := g2 u H2 hy
      have RH : Rel K cls ρc Z σc H2 slc stc ∧ Ext ρc Hc ρc H2 := by
        rcases hH with z | ⟨p, ob, z1, z2⟩
        · rw [z]; exact ⟨Rc, .refl⟩
        · rw [z2]; exact ⟨Rc.new z1, .new z1⟩
      obtain ⟨R2, xH⟩ := RH
      refine hg.run ρc Z σc H2 slc stc x u sl2 R2 ru ea _ fun σ3 R3 _ o3 => ?_
      have f3 : Fr (WO ρ1 sl σ) H1 (WO ρc sl2 σ3) H2 := (fc.trans xH.wo).trans ⟨fun _ _ _ h => h, fun a h => .inl (h.imp id (o3 a))⟩
      refine hb.run ρc Z σ3 H2 sl2 stc _ R3 eb _ ?_
      cases o with
      | nx => exact fun σ4 ρ4 H4 R4 p4 f4 => ⟨ρ4, sl3, st3, R4, pc.trans p4, f3.trans f4, el⟩
      | ct => exact fun σ4 ρ4 H4 R4 p4 f4 => ⟨ρ4, sl3, st3, R4, pc.trans p4, f3.trans f4, el⟩
      | bk =>
        cases el
        exact fun σ4 ρ4 H4 R4 p4 f4 => q1 σ4 ρ4 H4 R4 (pc.trans p4) (f3.trans f4)
      | rt v =>
        cases el
        exact fun u ρ4 H4 R4 p4 f4 r4 => q1 u ρ4 H4 R4 (pc.trans p4) (f3.trans f4) r4
  · rename_i hx
    cases el
    exact .inl ⟨stop hx, q1 σc ρc Hc Rc pc fc⟩
  · cases el⟩
/-- while -/
theorem s_while {n : Nat} {tc : TT} {fc : T} {tb : TS} {fb : S} (hc : SndT K cls tc fc) (hb : SndS K cls tb fb) : SndS K cls (tWhile tc tb) (sWhile n fc fb) := ⟨fun ρ Z σ H sl st r R e D q => by
  refine ⟨fun k σc Hc => ∃ (ρc : List Addr) (slc : Sl) (stc : Sto), Rel K cls ρc Z σc Hc slc stc ∧ ρ <+: ρc ∧ Fr (WO ρ sl σ) H (WO ρc slc σc) Hc ∧ whLoop fc fb k slc stc = some r, ⟨n, ρ, sl, st, R, List.prefix_rfl, .refl, e⟩, ?_⟩
  rintro k σc Hc ⟨ρc, slc, stc, Rc, pc, fr, el⟩
  cases k with
  | zero => cases el
  | succ k =>
    unfold whLoop at el
    obtain ⟨⟨b, st2⟩, ea, el⟩ := bind_some el
    refine hc.run ρc Z σc Hc slc stc b st2 Rc ea _ fun ρ2 H2 R2 x2 => ?_
    cases b with
    | true =>
      rw [if_pos rfl] at el ⊢
      obtain ⟨⟨o, sl3, st3⟩, eb, el⟩ := bind_some el
      refine ⟨fun σ' H' => ∃ (ρc : List Addr) (slc : Sl) (stc : Sto), Rel K cls ρc Z σ' H' slc stc ∧ ρ <+: ρc ∧ Fr (WO ρ sl σ) H (WO ρc slc σ') H' ∧ whLoop fc fb k slc stc = some r, fun σ' H' hN => ⟨k, Nat.lt_succ_self k, hN⟩, ?_⟩
      refine hb.run ρ2 Z σc H2 slc st2 _ R2 eb _ ?_
      have f2 := fr.trans x2.wo
      cases o with
      | nx => exact fun σ4 ρ4 H4 R4 p4 f4 => ⟨ρ4, sl3, st3, R4, (pc.trans x2.pre).trans p4, f2.trans f4, el⟩
      | ct => exact fun σ4 ρ4 H4 R4 p4 f4 => ⟨ρ4, sl3, st3, R4, (pc.trans x2.pre).trans p4, f2.trans f4, el⟩
      | bk =>
        cases el
        exact fun σ4 ρ4 H4 R4 p4 f4 => q σ4 ρ4 H4 R4 ((pc.trans x2.pre).trans p4) (f2.trans f4)
      | rt v =>
        cases el
        exact fun u ρ4 H4 R4 p4 f4 r4 => q u ρ4 H4 R4 ((pc.trans x2.pre).trans p4) (f2.trans f4) r4
    | false =>
      rw [if_neg Bool.false_ne_true] at el ⊢
      cases el
      exact q σc ρ2 H2 R2 (pc.trans x2.pre) (fr.trans x2.wo)⟩
/-- a slot's own list changes -/
theorem Rel.ownPut {i : Nat} {a : Addr} {xs xs' : List Val} {us' : List V} (R : Rel K cls ρ Z σ H sl st) (ho : sl[i]? = some (.own xs)) (hs : σ[i]? = some (some (.ref a))) (r : RepL K ρ (AR ρ (ZO Z sl σ)) H xs' us') :
    Rel K cls ρ Z σ (L2.upd H a (.lst us')) (sl.set i (.own xs')) st ∧ Fr (WO ρ sl σ) H (WO ρ (sl.set i (.own xs')) σ) (L2.upd H a (.lst us')) := by
  have hi : i < sl.length := (List.getElem?_eq_some_iff.mp ho).1
  have hOa : Own sl σ a := ⟨i, xs, ho, hs⟩
  obtain ⟨a', us, q1, q2, q3, q4⟩ := R.owns i xs ho
  rw [hs] at q1
  cases q1
  have ow : ∀ b, Own (sl.set i (.own xs')) σ b ↔ Own sl σ b := fun b => ⟨fun ⟨j, ys, h1, h2⟩ => by
    by_cases hj : j = i
    · subst hj
      exact ⟨j, xs, ho, h2⟩
    · rw [List.getElem?_set_ne (Ne.symm hj)] at h1
      exact ⟨j, ys, h1, h2⟩, fun ⟨j, ys, h1, h2⟩ => by
    by_cases hj : j = i
    · subst hj
      exact ⟨j, xs', by rw [List.getElem?_set_self hi], h2⟩
    · exact ⟨j, ys, by rw [List.getElem?_set_ne (Ne.symm hj)]; exact h1, h2⟩⟩
  have sub : ∀ b, AR ρ (ZO Z (sl.set i (.own xs')) σ) b → AR ρ (ZO Z sl σ) b := fun b h => h.imp id fun z => z.imp id (ow b).mp
  have fr : Fr (AR ρ (ZO Z sl σ)) H (AR ρ (ZO Z (sl.set i (.own xs')) σ)) (L2.upd H a (.lst us')) := ⟨fun b o hn h => by rw [upd_ne (show b ≠ a from fun z => hn (by rw [z]; exact .inr (.inr hOa)))]; exact h, fun b h => .inl (sub b h)⟩
  refine ⟨⟨⟨R.s.nd, R.s.len, fun n c b h1 h2 => ?_, fun b h => ?_, fun b h z => R.s.dis b h (z.imp id (ow b).mp)⟩, by rw [List.length_set]; exact R.slen, fun j w h => ?_, fun j ys h => ?_, fun j k ys zs b h1 h2 h3 h4 => ?_⟩, ⟨fun b o hn h => by rw [upd_ne (show b ≠ a from fun z => hn (by rw [z]; exact .inr hOa))]; exact h, fun b h => .inl (h.imp id (ow b).mp)⟩⟩
  · exact (R.s.cells n c b h1 h2).mono fr List.prefix_rfl (upd_ne (show b ≠ a from fun z => R.s.dis b (List.mem_of_getElem? h2) (.inr (by rw [z]; exact hOa))))
  · by_cases hb : b = a
    · subst hb; rw [upd_same]; simp
    · rw [upd_ne hb]; exact R.s.dom b (sub b h)
  · by_cases hj : j = i
    · subst hj
      rw [List.getElem?_set_self hi] at h
      cases h
    · rw [List.getElem?_set_ne (Ne.symm hj)] at h
      obtain ⟨u', p1, p2⟩ := R.slots j w h
      exact ⟨u', p1, p2.mono fr List.prefix_rfl⟩
  · by_cases hj : j = i
    · subst hj
      rw [List.getElem?_set_self hi] at h
      cases h
      exact ⟨a, us', hs, upd_same, r.mono fr List.prefix_rfl, q4⟩
    · rw [List.getElem?_set_ne (Ne.symm hj)] at h
      obtain ⟨b, vs, p1, p2, p3, p4⟩ := R.owns j ys h
      have hba : b ≠ a := fun z => by
        subst z
        exact hj (R.inj j i ys xs b h ho p1 hs)
      exact ⟨b, vs, p1, by rw [upd_ne hba]; exact p2, p3.mono fr List.prefix_rfl, p4⟩
  · have f : ∀ {j : Nat} {ys : List Val}, (sl.set i (.own xs'))[j]? = some (.own ys) → ∃ zs, sl[j]? = some (.own zs) := fun {j ys} h => by
      by_cases hj : j = i
      · subst hj; exact ⟨xs, ho⟩
      · rw [List.getElem?_set_ne (Ne.symm hj)] at h; exact ⟨ys, h⟩
    obtain ⟨y1, g1⟩ := f h1
    obtain ⟨y2, g2⟩ := f h2
    exact R.inj j k y1 y2 b g1 g2 h3 h4
theorem s_app {i : Nat} (ha : Snd K cls false ta fa) : SndS K cls (tDrop (tBM K "list" rAppend (tVar i) (tCons ta tNil))) (sApp i fa) := ⟨fun ρ Z σ H sl st r R e D q => by
  unfold sApp at e
  split at e
  · rename_i xs ho
    obtain ⟨p, e1, e⟩ := bind_some e
    split at e
    · rename_i hl
      cases e
      obtain ⟨a, us, q1, q2, q3, q4⟩ := R.owns i xs ho
      refine ⟨.ref a, q1, .inl ⟨rfl, us, .of q2⟩, ?_⟩
      refine ha.run ρ Z σ H sl st p.1 p.2 R e1 _ fun u ρ1 H1 R1 x1 r1 => ?_
      obtain ⟨a', us', p1, p2, p3, p4⟩ := R1.owns i xs ho
      rw [q1] at p1
      cases p1
      refine ⟨a, us', u, rfl, rfl, p2, by rw [← p3.length]; exact Nat.lt_of_lt_of_le hl (by decide), ?_⟩
      obtain ⟨R2, f2⟩ := R1.ownPut ho q1 (p3.append (.cons r1.rep .nil))
      exact q σ ρ1 _ R2 x1.pre (x1.wo.trans f2)
    · cases e
  · cases e⟩
theorem s_ext {i : Nat} {fl : L} (hl : SndL K cls ta fl) : SndS K cls (tDrop (tBM K "list" rExtend (tVar i) (tCons ta tNil))) (sExt i fl) := ⟨fun ρ Z σ H sl st r R e D q => by
  unfold sExt at e
  split at e
  · rename_i xs ho
    obtain ⟨p, e1, e⟩ := bind_some e
    split at e
    · rename_i hlen
      cases e
      obtain ⟨a, us, q1, q2, q3, q4⟩ := R.owns i xs ho
      refine ⟨.ref a, q1, .inl ⟨rfl, us, .of q2⟩, ?_⟩
      refine hl.run ρ Z σ H sl st p.1 p.2 R e1 _ fun w vs ρ1 H1 R1 x1 hp rl => ?_
      have R1' := R1.new (o := .lst vs) hp
      have x1' : Ext ρ H ρ1 (upd H1 w (.lst vs)) := x1.trans (.new hp)
      obtain ⟨a', us', p1, p2, p3, p4⟩ := R1'.owns i xs ho
      rw [q1] at p1
      cases p1
      refine ⟨a, w, us', vs, rfl, rfl, p2, upd_same, by rw [← p3.length, ← rl.length]; exact Nat.le_trans hlen (by decide), ?_⟩
      obtain ⟨R2, f2⟩ := R1'.ownPut ho q1 (p3.append (Ext.repL (.new hp) rl))
      exact q σ ρ1 _ R2 x1'.pre (x1'.wo.trans f2)
    · cases e
  · cases e⟩
theorem ref_inv {n : Nat} {u : V} (h : RepM K m ρ Z σ H sl (.ref n) u) : ∃ a, u = .ref a ∧ ρ[n]? = some a := by
  rcases h with h | ⟨_, _, _, _, z, _⟩
  · cases h with
    | ref h => exact ⟨_, rfl, h⟩
  · cases z
theorem Ext.at (x : Ext ρ H ρ' H') {n : Nat} {a : Addr} (h : ρ[n]? = some a) : ρ'[n]? = some a := by
  obtain ⟨t, ht⟩ := x.pre
  rw [← ht, List.getElem?_append_left (List.getElem?_eq_some_iff.mp h).1]
  exact h
theorem s_appK {to : TE} {fo : E} (ho : Snd K cls m to fo) (ha : Snd K cls false ta fa) : SndS K cls (tDrop (tBM K "list" rAppend to (tCons ta tNil))) (sAppK fo fa) := ⟨fun ρ Z σ H sl st r R e D q => by
  obtain ⟨p, e1, e⟩ := bind_some e
  split at e
  · rename_i n hn
    split at e
    · rename_i xs0 hx0
      obtain ⟨p2, e2, e⟩ := bind_some e
      split at e
      · rename_i xs hx
        split at e
        · rename_i hl
          cases e
          refine ho.run ρ Z σ H sl st p.1 p.2 R e1 _ fun u ρ1 H1 R1 x1 r1 => ?_
          rw [hn] at r1
          obtain ⟨a, rfl, hρ⟩ := ref_inv r1
          obtain ⟨us0, w1, w2⟩ := R1.s.cells n _ a hx0 hρ
          refine ⟨.inl ⟨rfl, us0, .of w1⟩, ?_⟩
          refine ha.run ρ1 Z σ H1 sl p.2 p2.1 p2.2 R1 e2 _ fun v ρ2 H2 R2 x2 r2 => ?_
          obtain ⟨us, v1, v2⟩ := R2.s.cells n _ a hx (x2.at hρ)
          refine ⟨a, us, v, rfl, rfl, v1, by rw [← v2.length]; exact Nat.lt_of_lt_of_le hl (by decide), ?_⟩
          have x3 : Ext ρ2 H2 ρ2 (upd H2 a (.lst (us ++ [v]))) := .set (x2.at hρ)
          refine q σ ρ2 _ (R2.set (x2.at hρ) ⟨us ++ [v], upd_same, (x3.repL v2).append (.cons (x3.rep r2.rep) .nil)⟩) ((x1.trans x2).trans x3).pre ((x1.trans x2).trans x3).wo
        · cases e
      · cases e
    · cases e
  · cases e⟩
theorem s_fld {f : Str} {to : TE} {fo : E} (h : At K cls C k f) (ho : Snd K cls m to fo) (ha : Snd K cls false ta fa) (h9 : (nms C).length < 900) : SndS K cls (L2.sFld K to ta f) (sFld C k fo fa) := ⟨fun ρ Z σ H sl st r R e D q => by
  obtain ⟨p, e1, e⟩ := bind_some e
  obtain ⟨p2, e2, e⟩ := bind_some e
  split at e
  · rename_i n hn
    split at e
    · rename_i E0 vs hx
      split at e
      · rename_i hE
        subst hE
        obtain ⟨ws, e3, e⟩ := bind_some e
        cases e
        refine ha.run ρ Z σ H sl st p.1 p.2 R e1 _ fun v ρ1 H1 R1 x1 r1 => ?_
        refine ho.run ρ1 Z σ H1 sl p.2 p2.1 p2.2 R1 e2 _ fun u ρ2 H2 R2 x2 r2 => ?_
        rw [hn] at r2
        obtain ⟨a, rfl, hρ⟩ := ref_inv r2
        obtain ⟨dx, us, w1, w2, w3⟩ := R2.s.cells n _ a hx hρ
        have hzl : ((nms E0).zip us).length < 1000 := by rw [List.length_zip]; omega
        refine ⟨a, cls E0, dx, _, rfl, w1, h.cl, h.no, hzl, ?_⟩
        obtain ⟨z1, z2⟩ := putF_zip (v := v) (us := us) h.nd h.ix
        have hk : k < (nms E0).length := (List.getElem?_eq_some_iff.mp h.ix).1
        have rv := (r1.ext x2).rep
        have x3 : ∀ o, Ext ρ2 H2 ρ2 (upd H2 a o) := fun o => .set hρ
        have hput : ∃ us', putF f v ((nms E0).zip us) = (nms E0).zip us' ∧ us'.length ≤ (nms E0).length ∧ RepL K ρ2 (AR ρ2 (ZO Z sl σ)) H2 ws us' := by
          unfold putA at e3
          split at e3
          · rename_i hlt
            cases e3
            refine ⟨us.set k v, z1 (by rw [← w3.length]; exact hlt), by rw [List.length_set]; exact w2, w3.set rv k⟩
          · split at e3
            · rename_i heq
              cases e3
              refine ⟨us ++ [v], z2 (by rw [← w3.length]; exact heq), by rw [List.length_append, List.length_singleton, ← w3.length, ← heq]; exact hk, w3.append (.cons rv .nil)⟩
            · cases e3
        obtain ⟨us', y1, y2, y3⟩ := hput
        rw [y1]
        exact q σ ρ2 _ (R2.set hρ ⟨dx, us', upd_same, y2, (x3 _).repL y3⟩) (x1.trans x2).pre (Ext.wo ((x1.trans x2).trans (x3 _)))
      · cases e
    · cases e
  · cases e⟩

/-! ### a def -/
theorem start_rel {N : List Str} {k : Nat} {ds : List Val} {vs : List V} (R : RelR K cls ρ Z H st) (r : RepL K ρ (AR ρ Z) H ds vs) (hk : ds.length = k) : Rel K cls ρ Z (L2.start N vs) H (ds.map .val ++ List.replicate (N.length - k) .no) st := by
  have noO : ∀ (i : Nat) (xs : List Val), (ds.map Slot.val ++ List.replicate (N.length - k) Slot.no)[i]? ≠ some (.own xs) := fun i xs h => by
    by_cases hi : i < (ds.map Slot.val).length
    · rw [List.getElem?_append_left hi, List.getElem?_map] at h
      cases hd : ds[i]? with
      | none => rw [hd] at h; cases h
      | some d => rw [hd] at h; cases h
    · rw [List.getElem?_append_right (by omega)] at h
      rw [List.getElem?_replicate] at h
      split at h <;> cases h
  have ow : ∀ a, ZO Z (ds.map Slot.val ++ List.replicate (N.length - k) Slot.no) (L2.start N vs) a → Z a := fun a h => h.elim id fun ⟨i, xs, h1, _⟩ => absurd h1 (noO i xs)
  have sub : ∀ a, AR ρ (ZO Z (ds.map Slot.val ++ List.replicate (N.length - k) Slot.no) (L2.start N vs)) a → AR ρ Z a := fun a h => h.imp id (ow a)
  refine ⟨R.zs ow, ?_, fun i v h => ?_, fun i xs h => absurd h (noO i xs), fun i j xs ys a h => absurd h (noO i xs)⟩
  · unfold L2.start
    rw [List.length_append, List.length_append, List.length_map, List.length_map, List.length_replicate, List.length_replicate, r.length, ← hk, r.length]
  · by_cases hi : i < (ds.map Slot.val).length
    · rw [List.getElem?_append_left hi, List.getElem?_map] at h
      cases hd : ds[i]? with
      | none => rw [hd] at h; cases h
      | some d =>
        rw [hd] at h
        cases h
        obtain ⟨u, h1, h2⟩ := r.get hd
        refine ⟨u, ?_, h2.mono (Fr.less sub) List.prefix_rfl⟩
        unfold L2.start
        have hl : i < vs.length := (List.getElem?_eq_some_iff.mp h1).1
        rw [List.getElem?_append_left (by rw [List.length_map]; exact hl), List.getElem?_map, h1]
        rfl
    · rw [List.getElem?_append_right (by omega)] at h
      rw [List.getElem?_replicate] at h
      split at h <;> cases h
/-- a def whose body's mirror is b keeps its promise -/
theorem def_ok {P : Program} {w : World} {mg : Str → Option Value} {base : Heap} {x qual : Str} {sd : Stmt} {fA : Addr} {fd : FuncData} {N ps : List Str} {lv k n : Nat} {b : S} (F0 : L2.Fun K x qual sd fA fd) (Sc : FnScope N ps (defScope sd)) (hk : ps.length = k) (hn : N.length = n)
    (body : ∀ (cdv : Value) (A : Around) (outer : List Env) (s : Shared) (H : Hp) (E : XK), Room lv (A.deeper (envOfC qual (defScope sd) s.heap.objs.size fA cdv)) → KX (cxOf CX0 P w K mg base N qual (defScope sd) fA cdv A outer s H E).nox K → ∃ t, SSs (cxOf CX0 P w K mg base N qual (defScope sd) fA cdv A outer s H E).nox K cls (defBody sd) t b) :
    FnOk P w K mg base CX0 (lv + 1) fA fd ps (spM K cls (fnOf k n b)) := by
  refine F0.ok Sc (fun vs H Q E h => ?_) (fun cdv A outer s H vs Q E hr h => ?_)
  · obtain ⟨ρ, Z, ds, st, d, st', R, r, e, _⟩ := h
    unfold fnOf at e
    split at e
    · rename_i hl
      rw [← r.length, hl, hk]
    · cases e
  · obtain ⟨ρ, Z, ds, st, d, st', R, r, e, q⟩ := h
    obtain ⟨t, ht, sn⟩ := body cdv A outer s H E hr ⟨rfl⟩
    refine ⟨t, ht, ?_⟩
    unfold fnOf at e
    split at e
    · rename_i hl
      obtain ⟨⟨o, sl1, st1⟩, e1, e2⟩ := bind_some e
      rw [← hn] at e1
      refine sn.run ρ Z (L2.start N vs) H _ st _ (start_rel R r hl) e1 _ ?_
      have noO : ∀ a, ¬ Own (ds.map Slot.val ++ List.replicate (N.length - k) Slot.no) (L2.start N vs) a := fun a ⟨i, xs, h1, _⟩ => by
        by_cases hi : i < (ds.map Slot.val).length
        · rw [List.getElem?_append_left hi, List.getElem?_map] at h1
          cases hd : ds[i]? with
          | none => rw [hd] at h1; cases h1
          | some d => rw [hd] at h1; cases h1
        · rw [List.getElem?_append_right (by omega)] at h1
          rw [List.getElem?_replicate] at h1
          split at h1 <;> cases h1
      have ext : ∀ {ρ' : List Addr} {H' : Hp} {W : Addr → Prop}, ρ <+: ρ' → (∀ a, a ∈ ρ' → W a) → Fr (WO ρ (ds.map Slot.val ++ List.replicate (N.length - k) Slot.no) (L2.start N vs)) H W H' → Ext ρ H ρ' H' := fun {ρ' H' W} hp hw fr =>
        ⟨hp, fun a o hna h => fr.keep a o (fun z => z.elim hna (noO a)) h, fun a h => (fr.new a (hw a h)).imp (fun z => z.elim id fun z => absurd z (noO a)) id⟩
      cases o with
      | nx =>
        cases e2
        exact fun σ' ρ' H' R' p' f' => q .non ρ' H' (R'.s.zs fun a h => .inl h) (ext p' (fun a h => .inl h) f') .non
      | rt v =>
        cases e2
        exact fun u ρ' H' R' p' f' r' => q u ρ' H' R' (ext p' (fun a h => h) f') r'
      | bk => cases e2
      | ct => cases e2
    · cases e
end
end Mi

set_option Elab.async false
set_option linter.all false
set_option maxRecDepth 100000
set_option maxHeartbeats 3200000
/-! Mi, eighth part: sorted(set(..)), len(set(..)) of numbers. -/
namespace Mi
open PySem PySem.Spec PyProof.Rows L2
variable [Gam]

/-- the set as it is made -/
abbrev set0 (w : World) : Obj := { cls := .type "set", dict := none, data := .set #[] 0 (.fresh 0 0 (!w.params.followText "set-order")) }
section
variable {P : Program} {w : World} {A : Around} {E : Value → Shared → Prop} {s : Shared}
theorem set0_at {I l : Addr} {o : Obj} (hl : s.heap.get? l = some o) : ((s.heap.push (set0 w)).get? s.heap.objs.size = some (set0 w)) ∧ (s.heap.push (set0 w)).get? l = some o ∧ l < s.heap.objs.size ∧ (s.heap.push (set0 w)).objs.size = s.heap.objs.size + 1 :=
  ⟨Heap.get?_push_size _ rfl, Heap.get?_push_of_some _ hl, Heap.lt_size hl, Heap.size_push ..⟩
theorem ints_at {items : Array Value} {ns : List Int} (hit : IntsAre items.toList ns) (i : Nat) (v : Value) (hv : items[i]? = some v) : ∃ k t, ns[i]? = some k ∧ v = .int k t := by
  have hlen : items.size = ns.length := by
    have q := IntsAre.length hit
    rw [Array.length_toList] at q
    exact q
  have hi : i < ns.length := by rw [← hlen]; exact (Array.getElem?_eq_some_iff.mp hv).1
  obtain ⟨t, e⟩ := PyProof.Rows.IntsAre.int_at hit i v (by rw [Array.getElem?_toList]; exact hv)
  refine ⟨ns[i], t, List.getElem?_eq_getElem hi, ?_⟩
  rw [e, List.getD_eq_getElem?_getD, List.getElem?_eq_getElem hi] <;> rfl
/-- set(x), x a list of numbers -/
theorem set_ints {l : Addr} {items : Array Value} (ns : List Int) {Q : Value → Shared → Prop} (hh : A.handled = none) (hl : s.heap.IsList l items) (hit : IntsAre items.toList ns) (hb : ns.length + 1 < scanBound)
    (h : ∀ (h' : Heap) (tk c : Nat), SetR w h' s.heap.objs.size (fun j => decide (j ∈ ns)) c → c ≤ ns.length → (∀ b o, s.heap.get? b = some o → h'.get? b = some o) → Q (.ref s.heap.objs.size) { s with heap := h', toks := tk }) :
    wpAny (model P w) A (call (.type "set") [.ref l]) Q E s := by
  have hisz : items.size = ns.length := by
    have q := IntsAre.length hit
    rw [Array.length_toList] at q
    exact q
  obtain ⟨c, tl, hmro⟩ := F.called_set.mro
  have hmade := F.called_set.made
  have hsub := F.called_set.sub
  refine wpAny_call (codeAny_of_tree ?_)
  show wpAny _ _ (callAny (.type "set") _) _ _ _
  refine wpAny_pure ⟨Code.quiet_builtin _ (by decide +kernel), codeAny_builtin F.entry_type_call ?_⟩
  rw [Around.under_plain (weight_type_call_type "set" [.ref l] []) rfl]
  have n1 := F.called_set.notType
  have n2 := F.called_set.canCreate
  have n3 := F.typeCall_set_1 (.ref l)
  repeat (any_goals (first | assumption | wp_step))
  obtain ⟨⟨oc, od, odt, osl⟩, ho, hc, nl, hd⟩ := hl
  simp only at hc hd
  subst hc hd
  obtain ⟨k1, k2, k3, k4⟩ := set0_at (w := w) (I := 0) ho
  refine codeAny_mono (code_set_led1 (.ref l) (E := E) (Q₁ := fun obj s₁ => obj = .ref s.heap.objs.size ∧ s₁ = { s with heap := s.heap.push (set0 w) }) ⟨rfl, rfl⟩) fun r s₁ hr => ?_
  cases r with
  | error e => exact hr
  | ok fl =>
    cases fl with
    | next => exact hr.elim
    | brk => exact hr.elim
    | cont => exact hr.elim
    | ret obj =>
      obtain ⟨rfl, rfl⟩ := hr
      have hT : Shared.TypeIs { s with heap := s.heap.push (set0 w) } (.ref s.heap.objs.size) "set" := ⟨_, k1, rfl⟩
      have i1 := F.called_set.init.lookup
      have i2 := F.called_set.init.bind (.ref s.heap.objs.size)
      repeat (any_goals (first | assumption | wp_step))
      refine codeAny_mono (codeAny_call_builtin (R := wants (fun r s₂ => r = .none ∧ ∃ h' tk c, s₂ = { s with heap := h', toks := tk } ∧ SetR w h' s.heap.objs.size (fun j => decide (j ∈ ns)) c ∧ c ≤ ns.length ∧ (∀ b o, s.heap.get? b = some o → h'.get? b = some o)) E) F.called_set.init.plain F.entry_set_init (check_set_init_1 hT ?_)) fun r₂ s₂ hr₂ => ?_
      · have f1 := F.sub_list_set
        have f2 := F.sub_list_frozenset
        have f3 : (Value.type "list" == Value.type "dict") = false := by decide
        have hl1 : (s.heap.push (set0 w)).IsList l items := ⟨_, k2, rfl, nl, rfl⟩
        unfold Builtin.«set.__init__» noKeywords Builtin.Frozenset.updateFrom
        generalize hPI : pyIter = PI
        wp_walk
        subst hPI
        refine wpAny_pyIter_list hl1 (wpAny_bind (wpAny_runValue ?_))
        have hne : l ≠ (s.heap.push (set0 w)).objs.size := by rw [k4]; exact Nat.ne_of_lt (Nat.lt_succ_of_lt k3)
        have hnf : s.heap.objs.size ∉ [(s.heap.push (set0 w)).objs.size, l] := by
          rw [k4]
          simp only [List.mem_cons, List.not_mem_nil, or_false, not_or]
          exact ⟨Nat.ne_of_lt (Nat.lt_succ_self _), Nat.ne_of_gt k3⟩
        refine set_update_ints ((Walks.list (show A.in1.in1.in1.handled = none by simp [hh]) _ l hne items).toS) s.heap.objs.size hnf ns hisz hb (ints_at hit) (items.size - 0) 0 _ (by omega) (Nat.zero_le _)
          ⟨⟨_, Heap.get?_push_size _ rfl, rfl, rfl⟩, hl1.push _⟩ ⟨0, Nat.le_refl 0, setR_new_at (Heap.get?_push_of_some _ k1)⟩ fun s' c' hm hc' hS' => ?_
        obtain ⟨h', g2, d', tk', os'⟩ := s'
        have eg : g2 = s.gens := hm.gens
        have ed : d' = s.drawn := hm.drawn
        have eo : os' = s.os := hm.os
        subst eg ed eo
        rw [hisz] at hc'
        refine wpAny_pure (wpAny_pure ⟨rfl, h', tk', c', rfl, hS', hc', fun b o e => ?_⟩)
        have hb0 : b < s.heap.objs.size := Heap.lt_size e
        refine hm.heap b o ?_ (Heap.get?_push_of_some _ (Heap.get?_push_of_some _ e))
        rw [k4]
        simp only [List.mem_cons, List.not_mem_nil, or_false, not_or]
        exact ⟨Nat.ne_of_lt hb0, Nat.ne_of_lt (Nat.lt_succ_of_lt hb0)⟩
      · cases r₂ with
        | error e => exact hr₂
        | ok fl₂ =>
          cases fl₂ with
          | ret r =>
            obtain ⟨rfl, h', tk, c', rfl, hS', hc', hk'⟩ := hr₂
            repeat (any_goals (first | assumption | wp_step))
            exact h _ _ _ hS' hc' hk'
          | _ => exact hr₂.elim
end

/-! ### each once, rising -/
theorem insU_mem (i k : Int) : ∀ l : List Int, k ∈ insU i l ↔ k = i ∨ k ∈ l
  | [] => by simp [insU]
  | j :: r => by
    unfold insU
    split
    · simp
    · split
      · rename_i h
        subst h
        simp
      · rw [List.mem_cons, insU_mem i k r, List.mem_cons]
        constructor
        · rintro (h | h | h)
          · exact .inr (.inl h)
          · exact .inl h
          · exact .inr (.inr h)
        · rintro (h | h | h)
          · exact .inr (.inl h)
          · exact .inl h
          · exact .inr (.inr h)
theorem sortU_mem (k : Int) : ∀ l : List Int, k ∈ sortU l ↔ k ∈ l
  | [] => by simp [sortU]
  | i :: r => by
    unfold sortU
    rw [insU_mem, sortU_mem k r, List.mem_cons]
theorem insU_sorted (i : Int) : ∀ {l : List Int}, l.Pairwise (· < ·) → (insU i l).Pairwise (· < ·)
  | [], _ => by simp [insU]
  | j :: r, h => by
    have h' := List.pairwise_cons.mp h
    unfold insU
    split
    · rename_i hij
      refine List.pairwise_cons.mpr ⟨fun k hk => ?_, h⟩
      rcases List.mem_cons.mp hk with z | z
      · omega
      · have := h'.1 k z; omega
    · split
      · exact h
      · rename_i h1 h2
        refine List.pairwise_cons.mpr ⟨fun k hk => ?_, insU_sorted i h'.2⟩
        rcases (insU_mem i k r).mp hk with z | z
        · omega
        · exact h'.1 k z
theorem sortU_sorted : ∀ l : List Int, (sortU l).Pairwise (· < ·)
  | [] => List.Pairwise.nil
  | i :: r => insU_sorted i (sortU_sorted r)
theorem nodup_of_lt {l : List Int} (h : l.Pairwise (· < ·)) : l.Nodup := h.imp fun h => by omega
theorem lt_unique {l l' : List Int} (h : l.Pairwise (· < ·)) (h' : l'.Pairwise (· < ·)) (m : ∀ k, k ∈ l ↔ k ∈ l') : l = l' :=
  ((List.perm_ext_iff_of_nodup (nodup_of_lt h) (nodup_of_lt h')).mpr m).eq_of_pairwise (fun a b _ _ h1 h2 => absurd h1 (by omega)) h h'

section
variable {K : PySem.W.Frag} {cls : Nat → Addr} {ta : TE} {fa : E} {m m' : Bool} {w : World}
/-- set(x) -/
def rSetL (w : World) (K : PySem.W.Frag) : List V → Hp → VK → Prop := fun xs H Q => ∃ (l : Addr) (ns : List Int), xs = [.ref l] ∧ SqL K H l (ns.map V.int) ∧ ns.length < 64 ∧ ∀ p, H p = none → Q (.ref p) (upd H p (SetO w p (fun j => decide (j ∈ ns)) (sortU ns).length))
theorem cr_setL {X : Cx} (hc : X.calm = true) : CallR X (.type "set") (rSetL X.w X.K) := by
  intro pins s σ H xs us Q I r h
  obtain ⟨l, ns, rfl, hq, hl, q⟩ := h
  rw [Vals.ref1 r]
  obtain ⟨its, rv, pl, hz⟩ := I.list hq
  refine set_ints ns (I.ok.hd hc) pl.isList ?_ (by unfold scanBound; omega) fun h' tk c hS hcl hk => ?_
  · have iv : ∀ {ns : List Int} {us : List Value}, Vals (ns.map V.int) us → IntsAre us ns := fun {ns} => by
      induction ns with
      | nil => intro us r; cases r; exact .nil
      | cons n ns ih =>
        intro us r
        cases r with
        | cons r t =>
          obtain ⟨k, rfl⟩ := r
          exact .cons n k (ih t)
    simpa using iv rv
  · have hn : H s.heap.objs.size = none := I.hok.fresh (Nat.le_refl _)
    have e : c = (sortU ns).length := by
      obtain ⟨o, es, ep, t, _, _, _, _, nd, hm, _, _, hn, _, _⟩ := id hS
      have p : (es.toList.map keyOf).Perm (sortU ns) := (List.perm_ext_iff_of_nodup nd (nodup_of_lt (sortU_sorted ns))).mpr fun k => by
        rw [← hm k, sortU_mem, decide_eq_true_iff]
      have := p.length_eq
      rw [List.length_map, Array.length_toList, hn] at this
      exact this
    subst e
    have I2 : Inv X pins σ (upd H s.heap.objs.size (SetO X.w s.heap.objs.size (fun j => decide (j ∈ ns)) (sortU ns).length)) { s with heap := h', toks := tk } :=
      I.call (g' := s.gens) (d' := s.drawn) (ch := []) (Un.laid hk (Nat.le_refl _) hn) (I.hok.laid hk (Nat.le_refl _) (setO_new hS)) I.bare (fun _ z => nomatch z)
    exact ⟨.ref s.heap.objs.size, _, I2, rfl, q _ hn⟩
def rLenSet (w : World) : List V → Hp → VK → Prop := fun xs H Q => ∃ (a : Addr) (S : Int → Bool) (n : Nat), xs = [.ref a] ∧ H a = some (SetO w a S n) ∧ n < 64 ∧ Q (.int (n : Nat)) H
theorem cr_lenSet {X : Cx} : CallR X (.builtin "len") (rLenSet X.w) := by
  intro pins s σ H xs us Q I r h
  obtain ⟨a, S, n, rfl, ha, h64, q⟩ := h
  rw [Vals.ref1 r]
  obtain ⟨o, es, ep, t, ho, hex, hd, _, _, _, _, hf, hn, _, _⟩ := setO_get I ha
  exact call_len_set ho hex hd hf (by rw [hn] <;> omega) ⟨.int n, H, I.tok _, ⟨_, by rw [hn]⟩, q⟩
def tSortU (w : World) (K : PySem.W.Frag) (ta : TE) : TE := tCB (rSortedSet w) (tCons (tCB (rSetL w K) (tCons ta tNil)) tNil)
def tLenU (w : World) (K : PySem.W.Frag) (ta : TE) : TE := tCB (rLenSet w) (tCons (tCB (rSetL w K) (tCons ta tNil)) tNil)
theorem sortU_le : ∀ l : List Int, (sortU l).length ≤ l.length
  | [] => Nat.le_refl _
  | i :: r => by
    have h1 : ∀ l : List Int, (insU i l).length ≤ l.length + 1 := fun l => by
      induction l with
      | nil => simp [insU]
      | cons j r ih =>
        unfold insU
        split
        · simp
        · split
          · simp
          · simp only [List.length_cons]; omega
    have h2 := sortU_le r
    have h3 := h1 (sortU r)
    show (insU i (sortU r)).length ≤ (i :: r).length
    rw [List.length_cons]
    omega
theorem snd_sortU (ha : Snd K cls m ta fa) : SndL K cls (tSortU w K ta) (l1 oSortU fa) := ⟨fun ρ Z σ H sl st ds st' R e Q q => by
  obtain ⟨p, e1, e⟩ := bind_some e
  obtain ⟨zs, e2, e⟩ := bind_some e
  cases e
  obtain ⟨xs, e3, e4⟩ := bind_some e2
  obtain ⟨ns, e5, e6⟩ := bind_some e4
  split at e6
  · rename_i hl
    cases e6
    refine ha.run ρ Z σ H sl st p.1 p.2 R e1 _ fun u ρ1 H1 R1 x1 r1 => ?_
    obtain ⟨a, us, rfl, r2, r3⟩ := viewQ_of R1 r1 e3
    obtain ⟨rfl, rfl⟩ := allInt_rep r3 e5
    refine ⟨a, ns, rfl, r2, hl, fun b hb => ?_⟩
    refine ⟨b, _, _, rfl, upd_same, Nat.lt_of_le_of_lt (sortU_le ns) hl, fun ns' p' hs hm _ hp => ?_⟩
    have e7 : ns' = sortU ns := lt_unique hs (sortU_sorted ns) fun k => by rw [hm k, sortU_mem, decide_eq_true_iff]
    subst e7
    exact q p' _ ρ1 _ (R1.new hb) (x1.trans (.new hb)) hp (RepL.ints _)
  · cases e6⟩
theorem snd_lenU (ha : Snd K cls m ta fa) : Snd K cls m' (tLenU w K ta) (e1 oLenU fa) := ⟨fun ρ Z σ H sl st ds st' R e Q q => by
  obtain ⟨p, e1, e⟩ := bind_some e
  obtain ⟨zs, e2, e⟩ := bind_some e
  cases e
  obtain ⟨xs, e3, e4⟩ := bind_some e2
  obtain ⟨ns, e5, e6⟩ := bind_some e4
  split at e6
  · rename_i hl
    cases e6
    refine ha.run ρ Z σ H sl st p.1 p.2 R e1 _ fun u ρ1 H1 R1 x1 r1 => ?_
    obtain ⟨a, us, rfl, r2, r3⟩ := viewQ_of R1 r1 e3
    obtain ⟨rfl, rfl⟩ := allInt_rep r3 e5
    refine ⟨a, ns, rfl, r2, hl, fun b hb => ?_⟩
    exact ⟨b, _, _, rfl, upd_same, Nat.lt_of_le_of_lt (sortU_le ns) hl, q _ ρ1 _ (R1.new hb) (x1.trans (.new hb)) (.of (.int _))⟩
  · cases e6⟩
end
end Mi

set_option Elab.async false
set_option linter.all false
set_option maxRecDepth 100000
set_option maxHeartbeats 1000000
/-! Mi, ninth part: the words that a derivation is written in: text, reading and mirror at once. -/
namespace Mi
open PySem PySem.Spec PyProof.Rows L2
variable [Gam]

section
variable {X : Cx} {K : PySem.W.Frag} [hK : KX X K] {cls : Nat → Addr} {m m' : Bool} {a b c e : Expr} {ta tb tc te : TE} {fa fb fc fe : E} {pos p p' apos cpos : Pos}
/-! names, constants -/
theorem se_int {i j} : SE X K cls m (.Constant (.int i) j pos) (tC (.int i)) (eC (.int i)) := by obtain ⟨rfl⟩ := hK; exact ⟨pe_int, snd_c fun _ _ _ => .int i⟩
theorem se_bl {i j} : SE X K cls m (.Constant (.bool i) j pos) (tC (.bl i)) (eC (.bl i)) := by obtain ⟨rfl⟩ := hK; exact ⟨pe_bl, snd_c fun _ _ _ => .bl i⟩
theorem se_non {j} : SE X K cls m (.Constant .none j pos) (tC .non) (eC .non) := by obtain ⟨rfl⟩ := hK; exact ⟨pe_non, snd_c fun _ _ _ => .non⟩
theorem se_str {x j} : SE X K cls m (.Constant (.str x) j pos) (tC (.str x)) (eC (.str x)) := by obtain ⟨rfl⟩ := hK; exact ⟨pe_str, snd_c fun _ _ _ => .str x⟩
theorem se_v (i : Nat) {x : Str} (hN : X.N[i]? = some x := by rfl) (hv : Vis X.env.scope x := by first | exact Or.inl rfl | exact Or.inr (Or.inl rfl) | exact Or.inr (Or.inr rfl)) (hd : (x == ("__debug__" : Str)) = false := by decide)
    (hcd : (x == ("__classdict__" : Str)) = false := by decide) : SE X K cls m (.Name x pos) (tVar i) (eVar i) := by obtain ⟨rfl⟩ := hK; exact ⟨pe_var hN hv hd hcd, snd_var⟩
theorem se_o (i : Nat) {x : Str} (hN : X.N[i]? = some x := by rfl) (hv : Vis X.env.scope x := by first | exact Or.inl rfl | exact Or.inr (Or.inl rfl) | exact Or.inr (Or.inr rfl)) (hd : (x == ("__debug__" : Str)) = false := by decide)
    (hcd : (x == ("__classdict__" : Str)) = false := by decide) : SE X K cls true (.Name x pos) (tVar i) (eVarO i) := by obtain ⟨rfl⟩ := hK; exact ⟨pe_var hN hv hd hcd, snd_varO⟩
/-- a number of the module -/
theorem se_gi {x : Str} {i : Int} (hm : ∃ t, X.mg x = some (.int i t)) (hg : Gl X x := by rfl) (hd : (x == ("__debug__" : Str)) = false := by decide) : SE X K cls m (.Name x pos) (tC (.int i)) (eC (.int i)) :=
  by obtain ⟨rfl⟩ := hK; exact ⟨hm.elim fun t ht => pe_glob hg ht ⟨t, rfl⟩ hd, snd_c fun _ _ _ => .int i⟩
/-! operators -/
theorem se_add (ha : SE X K cls true a ta fa) (hb : SE X K cls true b tb fb) : SE X K cls m (.BinOp a .Add b pos) (tOp (rAddX K) ta tb) (e2 oAdd fa fb) := by obtain ⟨rfl⟩ := hK; exact ⟨pe_op op_addX ha.1 hb.1, snd_e2 ops_add ha.2 hb.2⟩
theorem se_sub (ha : SE X K cls true a ta fa) (hb : SE X K cls true b tb fb) : SE X K cls m (.BinOp a .Sub b pos) (tOp (rI0 fun i j => .int (i - j)) ta tb) (e2 oSub fa fb) := by obtain ⟨rfl⟩ := hK; exact ⟨pe_op op_sub ha.1 hb.1, snd_e2 ops_I ha.2 hb.2⟩
theorem se_mul (ha : SE X K cls true a ta fa) (hb : SE X K cls true b tb fb) : SE X K cls m (.BinOp a .Mult b pos) (tOp (rMulX K) ta tb) (e2 oMul fa fb) := by obtain ⟨rfl⟩ := hK; exact ⟨pe_op op_mulX ha.1 hb.1, snd_e2 ops_mul ha.2 hb.2⟩
theorem se_mod (ha : SE X K cls true a ta fa) (hb : SE X K cls true b tb fb) : SE X K cls m (.BinOp a .Mod b pos) (tOp (rI (fun _ j => 0 < j) fun i j => .int (i % j)) ta tb) (e2 oMod fa fb) := by obtain ⟨rfl⟩ := hK; exact ⟨pe_op op_mod ha.1 hb.1, snd_e2 ops_mod ha.2 hb.2⟩
theorem se_div (ha : SE X K cls true a ta fa) (hb : SE X K cls true b tb fb) : SE X K cls m (.BinOp a .FloorDiv b pos) (tOp (rI CDiv fun i j => .int (i / j)) ta tb) (e2 oDiv fa fb) := by obtain ⟨rfl⟩ := hK; exact ⟨pe_op op_fdiv ha.1 hb.1, snd_e2 ops_div ha.2 hb.2⟩
theorem se_pow (ha : SE X K cls true a ta fa) (hb : SE X K cls true b tb fb) : SE X K cls m (.BinOp a .Pow b pos) (tOp (rI CPow fun i j => .int (i ^ j.toNat)) ta tb) (e2 oPow fa fb) := by obtain ⟨rfl⟩ := hK; exact ⟨pe_op op_pow ha.1 hb.1, snd_e2 ops_pow ha.2 hb.2⟩
theorem se_shl (ha : SE X K cls true a ta fa) (hb : SE X K cls true b tb fb) : SE X K cls m (.BinOp a .LShift b pos) (tOp (rI CPow fun i j => .int (i * 2 ^ j.toNat)) ta tb) (e2 oShl fa fb) := by obtain ⟨rfl⟩ := hK; exact ⟨pe_op op_shl ha.1 hb.1, snd_e2 ops_shl ha.2 hb.2⟩
theorem se_shr (ha : SE X K cls true a ta fa) (hb : SE X K cls true b tb fb) : SE X K cls m (.BinOp a .RShift b pos) (tOp (rI (fun _ j => 0 ≤ j) fun i j => .int (i / 2 ^ j.toNat)) ta tb) (e2 oShr fa fb) := by obtain ⟨rfl⟩ := hK; exact ⟨pe_op op_shr ha.1 hb.1, snd_e2 ops_shr ha.2 hb.2⟩
theorem se_band (ha : SE X K cls true a ta fa) (hb : SE X K cls true b tb fb) : SE X K cls m (.BinOp a .BitAnd b pos) (tOp (rI0 fun i j => .int (Builtin.bitAnd i j)) ta tb) (e2 oAnd fa fb) := by obtain ⟨rfl⟩ := hK; exact ⟨pe_op op_and ha.1 hb.1, snd_e2 ops_I ha.2 hb.2⟩
theorem se_neg (ha : SE X K cls true a ta fa) : SE X K cls m (.UnaryOp .USub a pos) (tUn (rU fun i => .int (-i)) ta) (e1 oNeg fa) := by obtain ⟨rfl⟩ := hK; exact ⟨pe_un un_neg ha.1, snd_e1 ops_neg ha.2⟩
/-! comparisons -/
theorem se_cmp {op : CmpOp} {r : R2} {o : Sto → Val → Val → Option Val} (ho : OpR X (compareOp op) r) (hs : OpS K cls o r) (ha : SE X K cls true a ta fa) (hb : SE X K cls true b tb fb) (hm : behindInMarks op b = false) :
    SE X K cls m (.Compare a [op] [b] pos) (tOp r ta tb) (e2 o fa fb) := by obtain ⟨rfl⟩ := hK; exact ⟨pe_cmpR ho ha.1 hb.1 hm, snd_e2 hs ha.2 hb.2⟩
theorem st_cmp {op : CmpOp} {r : R2} {o : Sto → Val → Val → Option Val} (ho : OpR X (compareOp op) r) (hs : OpS K cls o r) (ha : SE X K cls true a ta fa) (hb : SE X K cls true b tb fb) (hm : behindInMarks op b = false) :
    ST X K cls (.Compare a [op] [b] pos) (tTest (tOp r ta tb)) (tE (e2 o fa fb)) := by obtain ⟨rfl⟩ := hK; exact ⟨pt_cmpR ho ha.1 hb.1 hm, snd_tE (m := true) (snd_e2 hs ha.2 hb.2)⟩
/-- the operators' rules in pairs -/
abbrev Cm (X : Cx) (K : PySem.W.Frag) (cls : Nat → Addr) (op : CmpOp) (r : R2) (o : Sto → Val → Val → Option Val) : Prop := OpR X (compareOp op) r ∧ OpS K cls o r
theorem c_lt : Cm X K cls .Lt (rI0 fun i j => .bl (decide (i < j))) oLt := by obtain ⟨rfl⟩ := hK; exact ⟨op_lt, ops_Bq (ltB_eq)⟩
theorem c_le : Cm X K cls .LtE (rI0 fun i j => .bl (decide (i ≤ j))) oLe := by obtain ⟨rfl⟩ := hK; exact ⟨op_le, ops_Bq (leB_eq)⟩
theorem c_gt : Cm X K cls .Gt (rI0 fun i j => .bl (decide (j < i))) oGt := by obtain ⟨rfl⟩ := hK; exact ⟨op_gt, ops_Bq (fun i j => ltB_eq j i)⟩
theorem c_ge : Cm X K cls .GtE (rI0 fun i j => .bl (decide (j ≤ i))) oGe := by obtain ⟨rfl⟩ := hK; exact ⟨op_ge, ops_Bq (fun i j => leB_eq j i)⟩
theorem c_eq (hu : X.A.units + 64 < cLine) : Cm X K cls .Eq (rEqD K) oEq := by obtain ⟨rfl⟩ := hK; exact ⟨op_eqD hu, ops_eq⟩
theorem c_ne (hu : X.A.units + 64 < cLine) : Cm X K cls .NotEq (rNeD K) oNe := by obtain ⟨rfl⟩ := hK; exact ⟨op_neD hu, ops_ne⟩
theorem c_in (hu : X.A.units + 65 < cLine) : Cm X K cls .In (fun x y H Q => rIn K false x y H Q ∨ rInD K x y H Q) oIn := by obtain ⟨rfl⟩ := hK; exact ⟨op_in_seq.or (op_inD hu), ops_in⟩
theorem c_nin (hu : X.A.units + 65 < cLine) : Cm X K cls .NotIn (fun x y H Q => rIn K true x y H Q ∨ rNotInD K x y H Q) oNin := by obtain ⟨rfl⟩ := hK; exact ⟨op_notIn_seq.or (op_notInD hu), ops_nin⟩
theorem c_is : Cm X K cls .Is rIsB oIs := by obtain ⟨rfl⟩ := hK; exact ⟨op_isBl, ops_is⟩
theorem c_isn : Cm X K cls .IsNot rNotB oIsn := by obtain ⟨rfl⟩ := hK; exact ⟨op_notBl, ops_isn⟩
theorem se_c {op : CmpOp} {r : R2} {o : Sto → Val → Val → Option Val} (h : Cm X K cls op r o) (ha : SE X K cls true a ta fa) (hb : SE X K cls true b tb fb) (hm : behindInMarks op b = false := by first | exact nomark _ | rfl) :
    SE X K cls m (.Compare a [op] [b] pos) (tOp r ta tb) (e2 o fa fb) := se_cmp h.1 h.2 ha hb hm
theorem st_c {op : CmpOp} {r : R2} {o : Sto → Val → Val → Option Val} (h : Cm X K cls op r o) (ha : SE X K cls true a ta fa) (hb : SE X K cls true b tb fb) (hm : behindInMarks op b = false := by first | exact nomark _ | rfl) :
    ST X K cls (.Compare a [op] [b] pos) (tTest (tOp r ta tb)) (tE (e2 o fa fb)) := st_cmp h.1 h.2 ha hb hm
theorem se_ch {op op' : CmpOp} {r r' : R2} {o o' : Sto → Val → Val → Option Val} (h : Cm X K cls op r o) (h' : Cm X K cls op' r' o') (ha : SE X K cls true a ta fa) (hb : SE X K cls true b tb fb) (hc : SE X K cls true c tc fc)
    (hm : lastMarks [op, op'] [b, c] = false := by with_unfolding_all rfl) : SE X K cls m (.Compare a [op, op'] [b, c] pos) (tChain r r' ta tb tc) (eCh o o' fa fb fc) := by obtain ⟨rfl⟩ := hK; exact ⟨pe_chain h.1 h'.1 ha.1 hb.1 hc.1 hm, snd_ch h.2 h'.2 ha.2 hb.2 hc.2⟩
theorem st_ch {op op' : CmpOp} {r r' : R2} {o o' : Sto → Val → Val → Option Val} (h : Cm X K cls op r o) (h' : Cm X K cls op' r' o') (ha : SE X K cls true a ta fa) (hb : SE X K cls true b tb fb) (hc : SE X K cls true c tc fc)
    (hm : lastMarks [op, op'] [b, c] = false := by with_unfolding_all rfl) : ST X K cls (.Compare a [op, op'] [b, c] pos) (tTest (tChain r r' ta tb tc)) (tE (eCh o o' fa fb fc)) := by obtain ⟨rfl⟩ := hK; exact ⟨pt_chain h.1 h'.1 ha.1 hb.1 hc.1 hm, snd_tE (m := true) (snd_ch h.2 h'.2 ha.2 hb.2 hc.2)⟩
/-! truths -/
theorem st_e (h : SE X K cls m e te fe) (he : ∀ whole, isTrue e X.env whole = (do let v ← whole; standAt e.pos; holding [v] (truthy v)) := by intro _; rfl) : ST X K cls e (tTest te) (tE fe) := by obtain ⟨rfl⟩ := hK; exact ⟨pt_val h.1 he, snd_tE h.2⟩
section
variable {tA tB' : TT} {fA fB : T} {rest : List Expr}
theorem st_not (h : ST X K cls a tA fA) : ST X K cls (.UnaryOp .Not a pos) (L2.tNot tA) (tNot fA) := by obtain ⟨rfl⟩ := hK; exact ⟨pt_not h.1, snd_tNot h.2⟩
theorem sw_and1 (h : ST X K cls a tA fA) : SW X K cls (.BoolOp .And [a] pos) tA fA := by obtain ⟨rfl⟩ := hK; exact ⟨pw_and1 h.1, h.2⟩
theorem sw_or1 (h : ST X K cls a tA fA) : SW X K cls (.BoolOp .Or [a] pos) tA fA := by obtain ⟨rfl⟩ := hK; exact ⟨pw_or1 h.1, h.2⟩
theorem sw_and (h : ST X K cls a tA fA) (h2 : SW X K cls (.BoolOp .And (b :: rest) pos) tB' fB) : SW X K cls (.BoolOp .And (a :: b :: rest) pos) (L2.tAnd tA tB') (tAnd fA fB) := by obtain ⟨rfl⟩ := hK; exact ⟨pw_and h.1 h2.1, snd_tAnd h.2 h2.2⟩
theorem sw_or (h : ST X K cls a tA fA) (h2 : SW X K cls (.BoolOp .Or (b :: rest) pos) tB' fB) : SW X K cls (.BoolOp .Or (a :: b :: rest) pos) (L2.tOr tA tB') (tOr fA fB) := by obtain ⟨rfl⟩ := hK; exact ⟨pw_or h.1 h2.1, snd_tOr h.2 h2.2⟩
theorem st_w (h : SW X K cls e tA fA) : ST X K cls e tA fA := by obtain ⟨rfl⟩ := hK; exact ⟨h.1.pt, h.2⟩
theorem se_if (h : ST X K cls c tA fA) (ha : SE X K cls m a ta fa) (hb : SE X K cls m b tb fb) : SE X K cls m (.IfExp c a b pos) (tIf tA ta tb) (eIf fA fa fb) := by obtain ⟨rfl⟩ := hK; exact ⟨pe_ifExp h.1 ha.1 hb.1, snd_if h.2 ha.2 hb.2⟩
end
section
variable {rest : List Expr}
theorem se_b1 {op} (h : SE X K cls m a ta fa) : SE X K cls m (.BoolOp op [a] pos) ta fa := by obtain ⟨rfl⟩ := hK; exact ⟨pe_one h.1, h.2⟩
theorem se_and (h : SE X K cls true a ta fa) (h2 : SE X K cls m (.BoolOp .And (b :: rest) pos) tb fb) : SE X K cls m (.BoolOp .And (a :: b :: rest) pos) (tAndV ta tb) (eAnd fa fb) := by obtain ⟨rfl⟩ := hK; exact ⟨pe_and h.1 h2.1, snd_and h.2 h2.2⟩
theorem se_or (h : SE X K cls true a ta fa) (h2 : SE X K cls m (.BoolOp .Or (b :: rest) pos) tb fb) : SE X K cls m (.BoolOp .Or (a :: b :: rest) pos) (tOrV ta tb) (eOr fa fb) := by obtain ⟨rfl⟩ := hK; exact ⟨pe_or h.1 h2.1, snd_or h.2 h2.2⟩
theorem se_not (h : SE X K cls true a ta fa) : SE X K cls m (.UnaryOp .Not a pos) (tNotV ta) (eNot fa) := by obtain ⟨rfl⟩ := hK; exact ⟨pe_not h.1, snd_not h.2⟩
end
/-! places, slices -/
theorem se_ix (ha : SE X K cls true a ta fa) (hb : SE X K cls true b tb fb) (hs : PlainIx b := by exact fun _ _ => rfl) : SE X K cls m (.Subscript a b pos) (tOp (fun x y H Q => rIxL K x y H Q ∨ rIxT K x y H Q) ta tb) (e2 oIx fa fb) :=
  by obtain ⟨rfl⟩ := hK; exact ⟨pe_ix (ix_list.or ix_tup) ha.1 hb.1 hs, snd_e2 ops_ix ha.2 hb.2⟩
section
variable {lo hi : Option Expr} {tl th : TO} {fl fh : P} {p2 : Pos}
theorem so_n : SO X K cls none tNoPart pN := by obtain ⟨rfl⟩ := hK; exact ⟨po_none, snd_pn⟩
theorem so_s (h : SE X K cls true e te fe) : SO X K cls (some e) (tPart te) (pS fe) := by obtain ⟨rfl⟩ := hK; exact ⟨po_some h.1, snd_ps h.2⟩
theorem se_sl (ha : SE X K cls true a ta fa) (hl : SO X K cls lo tl fl) (hh : SO X K cls hi th fh) : SE X K cls m (.Subscript a (.Slice lo hi none p2) pos) (tSl (rSlX K) ta tl th) (eSl fa fl fh) := by obtain ⟨rfl⟩ := hK; exact ⟨pe_slice sl_X ha.1 hl.1 hh.1, snd_slx ha.2 hl.2 hh.2⟩
theorem sl_sl (ha : SE X K cls true a ta fa) (hl : SO X K cls lo tl fl) (hh : SO X K cls hi th fh) : SL X K cls (.Subscript a (.Slice lo hi none p2) pos) (tSl (rSlL K) ta tl th) (lSl fa fl fh) := by obtain ⟨rfl⟩ := hK; exact ⟨pe_slice sl_list ha.1 hl.1 hh.1, snd_sl ha.2 hl.2 hh.2⟩
end
theorem sl_rev {k : Nat} {p1 p2 p3 : Pos} (ha : SE X K cls true a ta fa) : SL X K cls (.Subscript a (.Slice none none (some (.UnaryOp .USub (.Constant (.int 1) k p1) p2)) p3) pos) (tRevL K ta) (l1 oRev fa) := by obtain ⟨rfl⟩ := hK; exact ⟨pe_revL ha.1, snd_rev ha.2⟩
/-! displays, new lists -/
section
variable {es : List Expr} {t : TA} {f : L} {fl : L}
theorem sa_n : SA X K cls m [] tNil aNil := by obtain ⟨rfl⟩ := hK; exact ⟨pa_nil, snd_nil⟩
theorem sa_c (h : SE X K cls m e te fe) (hr : SA X K cls m es t f) (hs : starEach (e :: es) X.env = (false, eval e X.env) :: starEach es X.env := by rfl) : SA X K cls m (e :: es) (tCons te t) (aCons fe f) := by obtain ⟨rfl⟩ := hK; exact ⟨pa_cons h.1 hr.1 hs, snd_cons h.2 hr.2⟩
theorem se_tup {k} (h : SA X K cls false es t f) : SE X K cls m (.Tuple es k pos) (tTup t) (eTup f) := by obtain ⟨rfl⟩ := hK; exact ⟨pe_tup h.1, snd_tup h.2⟩
theorem sl_disp (h : SA X K cls false es t f) : SL X K cls (.List es pos) (tLst t) (lDisp f) := by obtain ⟨rfl⟩ := hK; exact ⟨pe_lst h.1, snd_disp h.2⟩
/-- a new list as a value; as a place of the store -/
theorem se_d (h : SL X K cls e te fl) : SE X K cls m e te (eD fl) := by obtain ⟨rfl⟩ := hK; exact ⟨h.1, snd_d h.2⟩
theorem se_k (h : SL X K cls e te fl) : SE X K cls m e te (eK fl) := by obtain ⟨rfl⟩ := hK; exact ⟨h.1, snd_k h.2⟩
theorem sl_cat (ha : SE X K cls true a ta fa) (hb : SE X K cls true b tb fb) : SL X K cls (.BinOp a .Add b pos) (tOp (rCatS K) ta tb) (l2 oCat fa fb) := by obtain ⟨rfl⟩ := hK; exact ⟨pe_op op_catS ha.1 hb.1, snd_l2 opl_cat ha.2 hb.2⟩
theorem sl_rep (ha : SE X K cls true a ta fa) (hb : SE X K cls true b tb fb) : SL X K cls (.BinOp a .Mult b pos) (tOp (rRepS K) ta tb) (l2 oRep fa fb) := by obtain ⟨rfl⟩ := hK; exact ⟨pe_op op_repS ha.1 hb.1, snd_l2 opl_rep ha.2 hb.2⟩
end
/-! built-ins -/
/-- what is known of the names that are built in -/
structure Bt (mg : Str → Option Value) : Prop where
  len : mg "len" = none
  list : mg "list" = none
  sorted : mg "sorted" = none
  set : mg "set" = none
  any : mg "any" = none
  all : mg "all" = none
  range : mg "range" = none
  enumerate : mg "enumerate" = none
  zip : mg "zip" = none
  isinstance : mg "isinstance" = none
  abs : mg "abs" = none
  int : mg "int" = none
  bool : mg "bool" = none
  str : mg "str" = none
  tuple : mg "tuple" = none
section
variable {fl : L}
theorem se_len (bt : Bt X.mg) (ha : SE X K cls true a ta fa) (hg : Gl X "len" := by rfl) (hs : starEach [a] X.env = (false, eval a X.env) :: starEach [] X.env := by rfl) (hpl : (backTo pos (starEach [] X.env)).any (·.1) = false := by rfl) :
    SE X K cls m (.Call (.Name "len" p) [a] [] pos) (tCB (rLen K) (tCons ta tNil)) (e1 oLen fa) := by obtain ⟨rfl⟩ := hK; exact ⟨pe_callB call_lenS hg bt.len PySem.boot_len (pa_cons ha.1 pa_nil hs) (he := hs) (hpl := hpl), snd_b1 ops_len ha.2⟩
theorem se_abs (bt : Bt X.mg) (ha : SE X K cls true a ta fa) (hg : Gl X "abs" := by rfl) (hs : starEach [a] X.env = (false, eval a X.env) :: starEach [] X.env := by rfl) (hpl : (backTo pos (starEach [] X.env)).any (·.1) = false := by rfl) :
    SE X K cls m (.Call (.Name "abs" p) [a] [] pos) (tCB (fun xs H Q => ∃ i, xs = [.int i] ∧ Q (.int (if i < 0 then -i else i)) H) (tCons ta tNil)) (e1 oAbs fa) := by obtain ⟨rfl⟩ := hK; exact ⟨pe_callB call_abs hg bt.abs (by decide +kernel) (pa_cons ha.1 pa_nil hs) (he := hs) (hpl := hpl), snd_b1 ops_abs ha.2⟩
theorem se_int1 (bt : Bt X.mg) (ha : SE X K cls true a ta fa) (hg : Gl X "int" := by rfl) (hs : starEach [a] X.env = (false, eval a X.env) :: starEach [] X.env := by rfl) (hpl : (backTo pos (starEach [] X.env)).any (·.1) = false := by rfl) :
    SE X K cls m (.Call (.Name "int" p) [a] [] pos) (tCB (fun xs H Q => (∃ i, xs = [.int i] ∧ Q (.int i) H) ∨ ∃ k, xs = [.bl k] ∧ Q (.int (if k then 1 else 0)) H) (tCons ta tNil)) (e1 oInt fa) := by obtain ⟨rfl⟩ := hK; exact ⟨pe_callTy call_int1 hg bt.int (by decide +kernel) (pa_cons ha.1 pa_nil hs) (he := hs) (hpl := hpl), snd_b1 ops_int ha.2⟩
theorem sl_list (bt : Bt X.mg) (ha : SE X K cls true a ta fa) (hg : Gl X "list" := by rfl) (hs : starEach [a] X.env = (false, eval a X.env) :: starEach [] X.env := by rfl) (hpl : (backTo pos (starEach [] X.env)).any (·.1) = false := by rfl) :
    SL X K cls (.Call (.Name "list" p) [a] [] pos) (tCB (rListS K) (tCons ta tNil)) (l1 oList fa) := by obtain ⟨rfl⟩ := hK; exact ⟨pe_callTy call_list_of hg bt.list (by decide +kernel) (pa_cons ha.1 pa_nil hs) (he := hs) (hpl := hpl), snd_bl1 opl_list ha.2⟩
theorem sl_sorted (bt : Bt X.mg) (ha : SE X K cls true a ta fa) (hg : Gl X "sorted" := by rfl) (hs : starEach [a] X.env = (false, eval a X.env) :: starEach [] X.env := by rfl) (hpl : (backTo pos (starEach [] X.env)).any (·.1) = false := by rfl) :
    SL X K cls (.Call (.Name "sorted" p) [a] [] pos) (tCB (rSortedI K) (tCons ta tNil)) (l1 oSort fa) := by obtain ⟨rfl⟩ := hK; exact ⟨pe_callB cr_sortedI hg bt.sorted (by decide +kernel) (pa_cons ha.1 pa_nil hs) (he := hs) (hpl := hpl), snd_bl1 opl_sort ha.2⟩
theorem sl_sortU (bt : Bt X.mg) (ha : SE X K cls true a ta fa) (hg : Gl X "sorted" := by rfl) (hg2 : Gl X "set" := by rfl) (hc : X.calm = true := by rfl) (hs : starEach [a] X.env = (false, eval a X.env) :: starEach [] X.env := by rfl) (hpl : (backTo p' (starEach [] X.env)).any (·.1) = false := by rfl)
    (hs' : starEach [.Call (.Name "set" p2) [a] [] p'] X.env = (false, eval (.Call (.Name "set" p2) [a] [] p') X.env) :: starEach [] X.env := by rfl) (hpl' : (backTo pos (starEach [] X.env)).any (·.1) = false := by rfl) :
    SL X K cls (.Call (.Name "sorted" p) [.Call (.Name "set" p2) [a] [] p'] [] pos) (tSortU X.w K ta) (l1 oSortU fa) :=
  by obtain ⟨rfl⟩ := hK; exact ⟨pe_callB (cr_sortedSet hc) hg bt.sorted (by decide +kernel) (pa_cons (pe_callTy (cr_setL hc) hg2 bt.set (by decide +kernel) (pa_cons ha.1 pa_nil hs) (he := hs) (hpl := hpl)) pa_nil hs') (he := hs') (hpl := hpl'), snd_sortU ha.2⟩
theorem se_lenU (bt : Bt X.mg) {p2 : Pos} (ha : SE X K cls true a ta fa) (hg : Gl X "len" := by rfl) (hg2 : Gl X "set" := by rfl) (hc : X.calm = true := by rfl) (hs : starEach [a] X.env = (false, eval a X.env) :: starEach [] X.env := by rfl) (hpl : (backTo p' (starEach [] X.env)).any (·.1) = false := by rfl)
    (hs' : starEach [.Call (.Name "set" p2) [a] [] p'] X.env = (false, eval (.Call (.Name "set" p2) [a] [] p') X.env) :: starEach [] X.env := by rfl) (hpl' : (backTo pos (starEach [] X.env)).any (·.1) = false := by rfl) :
    SE X K cls m (.Call (.Name "len" p) [.Call (.Name "set" p2) [a] [] p'] [] pos) (tLenU X.w K ta) (e1 oLenU fa) :=
  by obtain ⟨rfl⟩ := hK; exact ⟨pe_callB cr_lenSet hg bt.len PySem.boot_len (pa_cons (pe_callTy (cr_setL hc) hg2 bt.set (by decide +kernel) (pa_cons ha.1 pa_nil hs) (he := hs) (hpl := hpl)) pa_nil hs') (he := hs') (hpl := hpl'), snd_lenU ha.2⟩
theorem se_any (bt : Bt X.mg) (hl : SL X K cls a ta fl) (hg : Gl X "any" := by rfl) (hc : X.calm = true := by rfl) (hs : starEach [a] X.env = (false, eval a X.env) :: starEach [] X.env := by rfl) (hpl : (backTo pos (starEach [] X.env)).any (·.1) = false := by rfl) :
    SE X K cls m (.Call (.Name "any" p) [a] [] pos) (tCB (rAny K) (tCons ta tNil)) (eAny fl) := by obtain ⟨rfl⟩ := hK; exact ⟨pe_callB (cr_any hc) hg bt.any (by decide +kernel) (pa_cons hl.1 pa_nil hs) (he := hs) (hpl := hpl), snd_any hl.2⟩
theorem se_all (bt : Bt X.mg) (hl : SL X K cls a ta fl) (hg : Gl X "all" := by rfl) (hc : X.calm = true := by rfl) (hs : starEach [a] X.env = (false, eval a X.env) :: starEach [] X.env := by rfl) (hpl : (backTo pos (starEach [] X.env)).any (·.1) = false := by rfl) :
    SE X K cls m (.Call (.Name "all" p) [a] [] pos) (tCB (rAll K) (tCons ta tNil)) (eAll fl) := by obtain ⟨rfl⟩ := hK; exact ⟨pe_callB (cr_all hc) hg bt.all (by decide +kernel) (pa_cons hl.1 pa_nil hs) (he := hs) (hpl := hpl), snd_all hl.2⟩
end
end
end Mi

set_option Elab.async false
set_option linter.all false
set_option maxRecDepth 100000
set_option maxHeartbeats 1000000
/-! Mi, tenth part: the words of a derivation: walks, calls, statements. -/
namespace Mi
open PySem PySem.Spec PyProof.Rows L2
variable [Gam]

section
variable {X : Cx} {K : PySem.W.Frag} [hK : KX X K] {cls : Nat → Addr} {m m' : Bool} {a b c e o tg iter elt : Expr} {es : List Expr} {ta tb tc te to : TE} {fa fb fc fe fo : E} {pos p p' p2 apos cpos : Pos} {t : TA} {f : L} {fl : L} {j k : Nat} {x y nm : Str} {mm mm' : F} {C C' : Nat}
/-! what is walked -/
theorem si_seq (h : SE X K cls false e te fe) : SI X K cls tg e (iSeqX K te) (iSeq fe) := by obtain ⟨rfl⟩ := hK; exact ⟨pi_seqX h.1, snd_iSeq h.2⟩
theorem si_rg1 (bt : Bt X.mg) (h : SE X K cls true a ta fa) (hg : Gl X "range" := by rfl) (hs : starEach [a] X.env = [(false, eval a X.env)] := by rfl) (hs2 : starEach [a] X.env = (false, eval a X.env) :: starEach [] X.env := by rfl) :
    SI X K cls tg (.Call (.Name "range" p) [a] [] pos) (iRng1 (tCons ta tNil)) (iRg1 fa) := by obtain ⟨rfl⟩ := hK; exact ⟨pi_range1 hg bt.range (pa_cons h.1 pa_nil hs2) hs, snd_iRg1 h.2⟩
theorem si_rg2 (bt : Bt X.mg) (ha : SE X K cls true a ta fa) (hb : SE X K cls true b tb fb) (hg : Gl X "range" := by rfl) (hs : starEach [a, b] X.env = [(false, eval a X.env), (false, eval b X.env)] := by rfl) (hs2 : starEach [b] X.env = [(false, eval b X.env)] := by rfl)
    (h1 : starEach [a, b] X.env = (false, eval a X.env) :: starEach [b] X.env := by rfl) (h2 : starEach [b] X.env = (false, eval b X.env) :: starEach [] X.env := by rfl) :
    SI X K cls tg (.Call (.Name "range" p) [a, b] [] pos) (iRng2 (tCons ta (tCons tb tNil))) (iRg2 fa fb) := by obtain ⟨rfl⟩ := hK; exact ⟨pi_range2 hg bt.range (pa_cons ha.1 (pa_cons hb.1 pa_nil h2) h1) hs hs2, snd_iRg2 ha.2 hb.2⟩
theorem si_enum {elts : List Expr} {kk : Nat} {tpos : Pos} (bt : Bt X.mg) (h : SE X K cls false a ta fa) (hg : Gl X "enumerate" := by rfl) (hs : starEach [a] X.env = [(false, eval a X.env)] := by rfl) (hs2 : starEach [a] X.env = (false, eval a X.env) :: starEach [] X.env := by rfl) :
    SI X K cls (.Tuple elts kk tpos) (.Call (.Name "enumerate" p) [a] [] pos) (L2.iEnum K (tCons ta tNil)) (iEnum fa) := by obtain ⟨rfl⟩ := hK; exact ⟨pi_enum hg bt.enumerate (pa_cons h.1 pa_nil hs2) hs, snd_iEnum h.2⟩
theorem si_zip {elts : List Expr} {kk : Nat} {tpos : Pos} (bt : Bt X.mg) (ha : SE X K cls false a ta fa) (hb : SE X K cls false b tb fb) (hg : Gl X "zip" := by rfl) (h1 : starEach [a, b] X.env = (false, eval a X.env) :: starEach [b] X.env := by rfl)
    (h2 : starEach [b] X.env = (false, eval b X.env) :: starEach [] X.env := by rfl) (hpl : (backTo pos (starEach [b] X.env)).any (·.1) = false := by rfl) :
    SI X K cls (.Tuple elts kk tpos) (.Call (.Name "zip" p) [a, b] [] pos) (L2.iZip K (tCons ta (tCons tb tNil))) (iZip fa fb) := by obtain ⟨rfl⟩ := hK; exact ⟨pi_zip hg bt.zip (pa_cons ha.1 (pa_cons hb.1 pa_nil h2) h1) h1 hpl, snd_iZip ha.2 hb.2⟩
/-! targets -/
theorem sg_n (i : Nat) (hN : X.N.Nodup) (hi : X.N[i]? = some x := by rfl) (hx : Loc X.env.scope x := by first | exact Or.inl rfl | exact Or.inr rfl) (hf : X.fn x = true ∨ X.env.scope.names.lookup x = some .local := by first | exact .inl rfl | exact .inr rfl) :
    SG X K cls [i] (.Name x pos) (L2.gName i) (gName i) := by obtain ⟨rfl⟩ := hK; exact ⟨pg_name hN hi hx hf, snd_name⟩
theorem sgs_n : SGs X K cls [] [] L2.gNil gNil := by obtain ⟨rfl⟩ := hK; exact ⟨pgs_nil, snd_gnil⟩
theorem sgs_c {is js : List Nat} {tg : TG} {fg : G} {ts : TGs} {fs : Gs} (h : SG X K cls is e tg fg) (hs : SGs X K cls js es ts fs) (hh : (assignEach (e :: es) X.env).map (·.2) = assign e X.env :: (assignEach es X.env).map (·.2) := by rfl) :
    SGs X K cls (is ++ js) (e :: es) (L2.gCons tg ts) (gCons fg fs) := by obtain ⟨rfl⟩ := hK; exact ⟨pgs_cons h.1 hs.1 hh, snd_gcons h.2 hs.2⟩
theorem sg_t {is : List Nat} {kk n : Nat} {ts : TGs} {fs : Gs} (h : SGs X K cls is es ts fs) (hc : X.calm = true := by rfl) (hn : (assignEach es X.env).length = n := by rfl) (hst : (assignEach es X.env).findIdx? (·.1) = none := by rfl) :
    SG X K cls is (.Tuple es kk pos) (L2.gTup K n ts) (gTup n fs) := by obtain ⟨rfl⟩ := hK; exact ⟨pg_tup hc h.1 hn hst, snd_gtup h.2⟩
/-! comprehensions -/
section
variable {scope : Scope} {own : List (Str × Nat)} {ifs : List Expr} {wi : TI} {fi : I} {is : List Nat} {g : TG} {fg : G} {tt : TT} {ft : T}
abbrev STs (X : Cx) (K : PySem.W.Frag) (cls : Nat → Addr) (es : List Expr) (t : TT) (f : T) : Prop := PTs X es t ∧ SndT K cls t f
theorem sts_n : STs X K cls [] tYes tTrue := by obtain ⟨rfl⟩ := hK; exact ⟨pts_nil, ⟨fun ρ Z σ H sl st b st' R e Q q => by cases e; exact q ρ H R .refl⟩⟩
theorem sts_c (h : ST X K cls c tt ft) : STs X K cls [c] tt ft := by obtain ⟨rfl⟩ := hK; exact ⟨pts_one h.1, h.2⟩
theorem sl_lc (own : List (Str × Nat)) (hN : X.N.Nodup) (hi : SI X K cls tg iter wi fi) (ok : blkC X.N X.env.scope scope own = true) (his : ∀ i ∈ is, i ∈ own.map (·.2))
    (hg : ∀ (s : Shared) (H : Hp) (C : Addr) (cl : List (Str × Addr)) (fp : List Addr), KX (X.blk s H scope (compEnvC scope cl C X.env) fp) K → SG (X.blk s H scope (compEnvC scope cl C X.env) fp) K cls is tg g fg)
    (ht : ∀ (s : Shared) (H : Hp) (C : Addr) (cl : List (Str × Addr)) (fp : List Addr), KX (X.blk s H scope (compEnvC scope cl C X.env) fp) K → STs (X.blk s H scope (compEnvC scope cl C X.env) fp) K cls ifs tt ft)
    (he : ∀ (s : Shared) (H : Hp) (C : Addr) (cl : List (Str × Addr)) (fp : List Addr), KX (X.blk s H scope (compEnvC scope cl C X.env) fp) K → SE (X.blk s H scope (compEnvC scope cl C X.env) fp) K cls false elt te fe)
    (hc : X.calm = true := by rfl) (hs : ∀ x, foldedSetIterable iter X.env x = pure x := by intro _; rfl) :
    SL X K cls (.ListComp elt [⟨tg, iter, ifs, 0⟩] scope pos) (tLc wi g tt te (own.map (·.2))) (lComp fi (own.map (·.2)) fg ft fe) :=
  by obtain ⟨rfl⟩ := hK; exact ⟨pe_lc hc hN hi.1 (blkOk_by ok) (fun s H C cl fp => (hg s H C cl fp ⟨rfl⟩).1) (fun s H C cl fp => (ht s H C cl fp ⟨rfl⟩).1) (fun s H C cl fp => (he s H C cl fp ⟨rfl⟩).1) hs,
    snd_lc hi.2 (hg X.s_0 (fun _ => none) 0 [] [] ⟨rfl⟩).2 his (ht X.s_0 (fun _ => none) 0 [] [] ⟨rfl⟩).2 (he X.s_0 (fun _ => none) 0 [] [] ⟨rfl⟩).2⟩
end
/-! calls -/
theorem se_call (c : C8.Cal X.prog X.w K X.mg X.base k x (spM K cls mm) []) (hr : Room j X.A) (ha : SA X K cls false (e :: es) t f) (hk : k ≤ j := by decide) (hg : Gl X x := by rfl)
    (hdb : (x == ("__debug__" : Str)) = false := by decide) (he : starEach (e :: es) X.env = (false, eval e X.env) :: starEach es X.env := by rfl) (hpl : (backTo pos (starEach es X.env)).any (·.1) = false := by rfl) :
    SE X K cls m (.Call (.Name x p) (e :: es) [] pos) (tCall (spM K cls mm) [] E0 t) (eCall mm f) := by obtain ⟨rfl⟩ := hK; exact ⟨C8.pe_c c hr hk hg ha.1 hdb he hpl, snd_call ha.2⟩
theorem se_call0 (c : C8.Cal X.prog X.w K X.mg X.base k x (spM K cls mm) []) (hr : Room j X.A) (hk : k ≤ j := by decide) (hg : Gl X x := by rfl) (hdb : (x == ("__debug__" : Str)) = false := by decide) :
    SE X K cls m (.Call (.Name x p) [] [] pos) (tCall (spM K cls mm) [] E0 tNil) (eCall mm aNil) := by
  obtain ⟨rfl⟩ := hK
  obtain ⟨f, fd, ps, ds, F, hm, kp, b, d⟩ := c.ex
  exact ⟨pe_call0 F (hr.mono hk) hg hm kp b d pass0 hdb, snd_call snd_nil⟩
theorem se_new (c : C8.Mak X.prog X.w K X.mg X.base k x (cls C) (spM K cls mm) []) (hr : Room j X.A) (ha : SA X K cls false (e :: es) t f) (hk : k + 1 ≤ j := by decide) (hg : Gl X x := by rfl)
    (hdb : (x == ("__debug__" : Str)) = false := by decide) (he : starEach (e :: es) X.env = (false, eval e X.env) :: starEach es X.env := by rfl) (hpl : (backTo pos (starEach es X.env)).any (·.1) = false := by rfl) :
    SE X K cls m (.Call (.Name x p) (e :: es) [] pos) (tMake (cls C) (spM K cls mm) [] E0 t) (eNew C mm f) := by obtain ⟨rfl⟩ := hK; exact ⟨C8.pe_mk c hr hk hg ha.1 hdb he hpl, snd_new ha.2⟩
theorem se_meth {pl : Sem Bool} (c : C8.Met X.prog X.w K X.mg X.base k (cls C) nm (spM K cls mm) []) (hr : Room j X.A) (ho : SE X K cls true o to fo) (ha : SA X K cls false (e :: es) t f) (hn : nm ∉ nms C) (hk : k ≤ j := by decide)
    (hst : starEach (e :: es) X.env = (false, eval e X.env) :: starEach es X.env := by rfl) (hpl : (backTo pos (starEach es X.env)).any (·.1) = false := by rfl)
    (ht : eval (.Call (.Attribute o nm apos) (e :: es) [] pos) X.env = (do
      let ov ← eval o X.env
      standAt apos.atName
      let (f, first) ← holding [ov] (getMethod ov nm pl)
      callWith pos f first (backTo pos (starEach (e :: es) X.env)) (backToKw pos (keywordEach [] X.env))) := by rfl) :
    SE X K cls m (.Call (.Attribute o nm apos) (e :: es) [] pos) (tMeth (cls C) nm (spM K cls mm) [] E0 to t) (eMeth C mm fo f) := by obtain ⟨rfl⟩ := hK; exact ⟨C8.pe_mt (pl := pl) c hr hk ho.1 ha.1 hst hpl ht, snd_meth ho.2 ha.2 hn⟩
theorem se_meth0 {pl : Sem Bool} (c : C8.Met X.prog X.w K X.mg X.base k (cls C) nm (spM K cls mm) []) (hr : Room j X.A) (ho : SE X K cls true o to fo) (hn : nm ∉ nms C) (hk : k ≤ j := by decide)
    (ht : eval (.Call (.Attribute o nm apos) [] [] pos) X.env = (do
      let ov ← eval o X.env
      standAt apos.atName
      let (f, first) ← holding [ov] (getMethod ov nm pl)
      callWith pos f first (backTo pos (starEach [] X.env)) (backToKw pos (keywordEach [] X.env))) := by rfl) :
    SE X K cls m (.Call (.Attribute o nm apos) [] [] pos) (tMeth (cls C) nm (spM K cls mm) [] E0 to tNil) (eMeth C mm fo aNil) := by obtain ⟨rfl⟩ := hK; exact ⟨C8.pe_mt0 (pl := pl) c hr hk ho.1 ht, snd_meth ho.2 snd_nil hn⟩
theorem se_alt {t1 t2 : TE} (h1 : SE X K cls m e t1 (eMeth C mm fo f)) (h2 : SE X K cls m e t2 (eMeth C' mm' fo f)) : SE X K cls m e (fun σ H Q => t1 σ H Q ∨ t2 σ H Q) (eMeth2 C mm C' mm' fo f) := by obtain ⟨rfl⟩ := hK; exact ⟨pe_alt h1.1 h2.1, snd_meth2 h1.2 h2.2⟩
theorem se_fld (h : At K cls C k nm) (ho : SE X K cls true o to fo) (hb : attributeBase o nm X.env (eval o X.env) = eval o X.env := by rfl) : SE X K cls m (.Attribute o nm pos) (tFld K to nm) (e1 (oFld C k) fo) := by obtain ⟨rfl⟩ := hK; exact ⟨pe_fld ho.1 hb, snd_fld h ho.2⟩
/-! statements -/
section
variable {s : Stmt} {ss body : List Stmt} {tu tw : TS} {fu fw : S} {tA : TT} {fA : T}
theorem sss_n : SSs X K cls [] tNext sSkip := by obtain ⟨rfl⟩ := hK; exact ⟨pss_nil, s_skip⟩
theorem sss_1 (h : SS X K cls s tu fu) : SSs X K cls [s] tu fu := by obtain ⟨rfl⟩ := hK; exact ⟨pss_one h.1, h.2⟩
theorem sss_c (h : SS X K cls s tu fu) (h2 : SSs X K cls ss tw fw) : SSs X K cls (s :: ss) (tSeq tu tw) (sSeq fu fw) := by obtain ⟨rfl⟩ := hK; exact ⟨pss_cons h.1 h2.1, s_seq h.2 h2.2⟩
theorem ss_pass : SS X K cls (.Pass pos) tNext sSkip := by obtain ⟨rfl⟩ := hK; exact ⟨ps_pass, s_skip⟩
/-- name = e -/
theorem ss_set (i : Nat) (hN : X.N.Nodup) (he : SE X K cls false e te fe) (hi : X.N[i]? = some x := by rfl) (hx : Loc X.env.scope x := by first | exact Or.inl rfl | exact Or.inr rfl) (hs : swapsWith e (some (.Name x p')) pos.line X.env = pure false := by rfl)
    (hf : X.fn x = true ∨ X.env.scope.names.lookup x = some .local := by first | exact .inl rfl | exact .inr rfl) : SS X K cls (.Assign [.Name x p'] e pos) (tAsg te (L2.gName i)) (sAsg fe (gName i)) := by obtain ⟨rfl⟩ := hK; exact ⟨ps_set hN hi hx he.1 hs hf, s_asg he.2 snd_name⟩
/-- name = [..], the slot's own -/
theorem ss_own (i : Nat) (hN : X.N.Nodup) (he : SL X K cls e te fl) (hi : X.N[i]? = some x := by rfl) (hx : Loc X.env.scope x := by first | exact Or.inl rfl | exact Or.inr rfl) (hs : swapsWith e (some (.Name x p')) pos.line X.env = pure false := by rfl)
    (hf : X.fn x = true ∨ X.env.scope.names.lookup x = some .local := by first | exact .inl rfl | exact .inr rfl) : SS X K cls (.Assign [.Name x p'] e pos) (tAsg te (L2.gName i)) (sOwn i fl) := by obtain ⟨rfl⟩ := hK; exact ⟨ps_set hN hi hx he.1 hs hf, s_own he.2⟩
/-! name = [.. for ..], the name a plain local -/
section
variable {scope : Scope} {ifs : List Expr} {wi : TI} {fi : I} {is : List Nat} {g : TG} {fg : G} {tt : TT} {ft : T} {spos py : Pos}
theorem ps_lc (i : Nat) (own : List (Str × Nat)) (hN : X.N.Nodup) (hi : SI X K cls tg iter wi fi) (ok : blkC X.N X.env.scope scope own = true)
    (hg : ∀ (s : Shared) (H : Hp) (C : Addr) (cl : List (Str × Addr)) (fp : List Addr), KX (X.blk s H scope (compEnvC scope cl C X.env) fp) K → SG (X.blk s H scope (compEnvC scope cl C X.env) fp) K cls is tg g fg)
    (ht : ∀ (s : Shared) (H : Hp) (C : Addr) (cl : List (Str × Addr)) (fp : List Addr), KX (X.blk s H scope (compEnvC scope cl C X.env) fp) K → STs (X.blk s H scope (compEnvC scope cl C X.env) fp) K cls ifs tt ft)
    (he : ∀ (s : Shared) (H : Hp) (C : Addr) (cl : List (Str × Addr)) (fp : List Addr), KX (X.blk s H scope (compEnvC scope cl C X.env) fp) K → SE (X.blk s H scope (compEnvC scope cl C X.env) fp) K cls false elt te fe)
    (hy : X.N[i]? = some y) (hyl : X.env.scope.names.lookup y = some .local) (hsw : swapsWith (.ListComp elt [⟨tg, iter, ifs, 0⟩] scope pos) (some (.Name y py)) spos.line X.env = pure true)
    (hc : X.calm = true) (hs : ∀ x, foldedSetIterable iter X.env x = pure x) :
    PS X (.Assign [.Name y py] (.ListComp elt [⟨tg, iter, ifs, 0⟩] scope pos) spos) (tAsg (tLc wi g tt te (own.map (·.2))) (L2.gName i)) :=
  by obtain ⟨rfl⟩ := hK; exact ps_setLc hc hN hy hyl hsw hi.1 (blkOk_by ok) (fun s H C cl fp => (hg s H C cl fp ⟨rfl⟩).1) (fun s H C cl fp => (ht s H C cl fp ⟨rfl⟩).1) (fun s H C cl fp => (he s H C cl fp ⟨rfl⟩).1) hs
theorem ss_lcV (i : Nat) (own : List (Str × Nat)) (hN : X.N.Nodup) (hi : SI X K cls tg iter wi fi) (ok : blkC X.N X.env.scope scope own = true) (his : ∀ i ∈ is, i ∈ own.map (·.2))
    (hg : ∀ (s : Shared) (H : Hp) (C : Addr) (cl : List (Str × Addr)) (fp : List Addr), KX (X.blk s H scope (compEnvC scope cl C X.env) fp) K → SG (X.blk s H scope (compEnvC scope cl C X.env) fp) K cls is tg g fg)
    (ht : ∀ (s : Shared) (H : Hp) (C : Addr) (cl : List (Str × Addr)) (fp : List Addr), KX (X.blk s H scope (compEnvC scope cl C X.env) fp) K → STs (X.blk s H scope (compEnvC scope cl C X.env) fp) K cls ifs tt ft)
    (he : ∀ (s : Shared) (H : Hp) (C : Addr) (cl : List (Str × Addr)) (fp : List Addr), KX (X.blk s H scope (compEnvC scope cl C X.env) fp) K → SE (X.blk s H scope (compEnvC scope cl C X.env) fp) K cls false elt te fe)
    (hsw : swapsWith (.ListComp elt [⟨tg, iter, ifs, 0⟩] scope pos) (some (.Name y py)) spos.line X.env = pure true) (hy : X.N[i]? = some y := by rfl) (hyl : X.env.scope.names.lookup y = some .local := by rfl)
    (hc : X.calm = true := by rfl) (hs : ∀ x, foldedSetIterable iter X.env x = pure x := by intro _; rfl) :
    SS X K cls (.Assign [.Name y py] (.ListComp elt [⟨tg, iter, ifs, 0⟩] scope pos) spos) (tAsg (tLc wi g tt te (own.map (·.2))) (L2.gName i)) (sAsg (eD (lComp fi (own.map (·.2)) fg ft fe)) (gName i)) :=
  by obtain ⟨rfl⟩ := hK; exact ⟨ps_lc i own hN hi ok hg ht he hy hyl hsw hc hs, s_asg (snd_d (snd_lc hi.2 (hg X.s_0 (fun _ => none) 0 [] [] ⟨rfl⟩).2 his (ht X.s_0 (fun _ => none) 0 [] [] ⟨rfl⟩).2 (he X.s_0 (fun _ => none) 0 [] [] ⟨rfl⟩).2)) snd_name⟩
theorem ss_lcO (i : Nat) (own : List (Str × Nat)) (hN : X.N.Nodup) (hi : SI X K cls tg iter wi fi) (ok : blkC X.N X.env.scope scope own = true) (his : ∀ i ∈ is, i ∈ own.map (·.2))
    (hg : ∀ (s : Shared) (H : Hp) (C : Addr) (cl : List (Str × Addr)) (fp : List Addr), KX (X.blk s H scope (compEnvC scope cl C X.env) fp) K → SG (X.blk s H scope (compEnvC scope cl C X.env) fp) K cls is tg g fg)
    (ht : ∀ (s : Shared) (H : Hp) (C : Addr) (cl : List (Str × Addr)) (fp : List Addr), KX (X.blk s H scope (compEnvC scope cl C X.env) fp) K → STs (X.blk s H scope (compEnvC scope cl C X.env) fp) K cls ifs tt ft)
    (he : ∀ (s : Shared) (H : Hp) (C : Addr) (cl : List (Str × Addr)) (fp : List Addr), KX (X.blk s H scope (compEnvC scope cl C X.env) fp) K → SE (X.blk s H scope (compEnvC scope cl C X.env) fp) K cls false elt te fe)
    (hsw : swapsWith (.ListComp elt [⟨tg, iter, ifs, 0⟩] scope pos) (some (.Name y py)) spos.line X.env = pure true) (hy : X.N[i]? = some y := by rfl) (hyl : X.env.scope.names.lookup y = some .local := by rfl)
    (hc : X.calm = true := by rfl) (hs : ∀ x, foldedSetIterable iter X.env x = pure x := by intro _; rfl) :
    SS X K cls (.Assign [.Name y py] (.ListComp elt [⟨tg, iter, ifs, 0⟩] scope pos) spos) (tAsg (tLc wi g tt te (own.map (·.2))) (L2.gName i)) (sOwn i (lComp fi (own.map (·.2)) fg ft fe)) :=
  by obtain ⟨rfl⟩ := hK; exact ⟨ps_lc i own hN hi ok hg ht he hy hyl hsw hc hs, s_own (snd_lc hi.2 (hg X.s_0 (fun _ => none) 0 [] [] ⟨rfl⟩).2 his (ht X.s_0 (fun _ => none) 0 [] [] ⟨rfl⟩).2 (he X.s_0 (fun _ => none) 0 [] [] ⟨rfl⟩).2)⟩
end
/-- targets = e -/
theorem ss_asg {is : List Nat} {g : TG} {fg : G} (he : SE X K cls false e te fe) (hg : SG X K cls is tg g fg) (hs : swapsWithSole [tg] e pos.line X.env = pure false := by rfl) (hw : swappedStores [tg] e X.env = pure none := by rfl)
    (h1 : (assignEach [tg] X.env).map (·.2) = [assign tg X.env] := by rfl) : SS X K cls (.Assign [tg] e pos) (tAsg te g) (sAsg fe fg) := by obtain ⟨rfl⟩ := hK; exact ⟨ps_asg he.1 hg.1 hs hw h1, s_asg he.2 hg.2⟩
/-- a, b = x, y, two plain locals -/
theorem ss_par (i j : Nat) {px py pt : Pos} {kt k2 pt2} (hN : X.N.Nodup) (ha : SE X K cls false a ta fa) (hb : SE X K cls false b tb fb) (hi : X.N[i]? = some x := by rfl) (hj : X.N[j]? = some y := by rfl) (hij : i ≠ j := by decide)
    (hx : X.env.scope.names.lookup x = some .local := by rfl) (hy : X.env.scope.names.lookup y = some .local := by rfl) (hc : X.calm = true := by rfl)
    (h1 : starEach [a, b] X.env = (false, eval a X.env) :: starEach [b] X.env := by rfl) (h2 : starEach [b] X.env = (false, eval b X.env) :: starEach [] X.env := by rfl)
    (hw : swappedStores [.Tuple [.Name x px, .Name y py] kt pt] (.Tuple [a, b] k2 pt2) X.env = pure (some [x, y]) := by rfl)
    (hs : swapsWithSole [.Tuple [.Name x px, .Name y py] kt pt] (.Tuple [a, b] k2 pt2) pos.line X.env = pure false := by rfl) :
    SS X K cls (.Assign [.Tuple [.Name x px, .Name y py] kt pt] (.Tuple [a, b] k2 pt2) pos) (tPar i j (tCons ta (tCons tb tNil))) (sPar i j fa fb) :=
  by obtain ⟨rfl⟩ := hK; exact ⟨ps_par hc hN hi hj hij hx hy (pa_cons ha.1 (pa_cons hb.1 pa_nil h2) h1) hw hs, s_par hij ha.2 hb.2⟩
theorem ss_ret (h : SE X K cls true e te fe) : SS X K cls (.Return (some e) pos) (tRet te) (sRet fe) := by obtain ⟨rfl⟩ := hK; exact ⟨ps_ret h.1, s_ret h.2⟩
theorem ss_retT {kk} (h : SA X K cls true es t f) : SS X K cls (.Return (some (.Tuple es kk p)) pos) (tRet (tTup t)) (sRet (eTup f)) := by obtain ⟨rfl⟩ := hK; exact ⟨ps_ret (pe_tup h.1), s_retT h.2⟩
theorem ss_retN : SS X K cls (.Return none pos) tRetN (sRet (eC .non)) := by obtain ⟨rfl⟩ := hK; exact ⟨ps_retN, s_retN⟩
theorem ss_if (hc : ST X K cls c tA fA) (h1 : SSs X K cls ss tu fu) (h2 : SSs X K cls body tw fw) : SS X K cls (.If c ss body pos) (tIfS tA tu tw) (sIf fA fu fw) := by obtain ⟨rfl⟩ := hK; exact ⟨ps_if hc.1 h1.1 h2.1, s_if hc.2 h1.2 h2.2⟩
theorem ss_for {wi : TI} {fi : I} {is : List Nat} {g : TG} {fg : G} (hi : SI X K cls tg iter wi fi) (hg : SG X K cls is tg g fg) (hb : SSs X K cls body tu fu) (hp : PassesOwn (model X.prog X.w) X.A X.env X.xe := by exact PassesOwn.never) (hc : X.calm = true := by rfl)
    (hs : ∀ x, foldedSetIterable iter X.env x = pure x := by intro _; rfl) : SS X K cls (.For tg iter body [] pos) (tFor wi g tu) (sFor fi fg fu) := by obtain ⟨rfl⟩ := hK; exact ⟨ps_for hp hc hi.1 hg.1 hb.1 hs, s_for hi.2 hg.2 hb.2⟩
theorem ss_while (n : Nat) (hc : ST X K cls c tA fA) (hb : SSs X K cls body tu fu) (hp : PassesOwn (model X.prog X.w) X.A X.env X.xe := by exact PassesOwn.never) : SS X K cls (.While c body [] pos) (tWhile tA tu) (sWhile n fA fu) := by obtain ⟨rfl⟩ := hK; exact ⟨ps_while hp hc.1 hb.1, s_while hc.2 hb.2⟩
theorem ss_drop (h : SE X K cls true e te fe) (hs : swapsWith e none pos.line X.env = pure false := by rfl) : SS X K cls (.Expr e pos) (tDrop te) (sDrop fe) := by obtain ⟨rfl⟩ := hK; exact ⟨ps_expr h.1 hs, s_drop h.2⟩
/-- x.append(e) -/
theorem pe_app {to : TE} {te : TE} (ho : PE X o to) (he : PE X e te) (hs : starEach [e] X.env = (false, eval e X.env) :: starEach [] X.env)
    (hbase : attributeBase o "append" X.env (eval o X.env) = eval o X.env)
    (hfew : ((backTo cpos (starEach [e] X.env)).all (fun x => !x.1) && (backToKw cpos (keywordEach [] X.env)).all (fun x => x.1.isSome) && decide ([e].length + ([] : List Keyword).length + (if ([] : List Keyword).isEmpty then 0 else 1) < 30)) = true)
    (hline : (apos.endLine == cpos.line) = true) (hplain : (backTo cpos (starEach [] X.env)).any (·.1) = false) :
    PE X (.Call (.Attribute o "append" apos) [e] [] cpos) (tBM K "list" rAppend to (tCons te tNil)) :=
  by obtain ⟨rfl⟩ := hK; exact pe_bm PySem.F.plainAttrs_list PySem.F.slot_list_append PySem.F.type_list_append mt_append ho (pa_cons he pa_nil hs) hbase hfew hline hs hplain
theorem ss_app (i : Nat) (he : SE X K cls false e te fe) (hN : X.N[i]? = some x := by rfl) (hv : Vis X.env.scope x := by first | exact Or.inl rfl | exact Or.inr (Or.inl rfl) | exact Or.inr (Or.inr rfl)) (hd : (x == ("__debug__" : Str)) = false := by decide)
    (hcd : (x == ("__classdict__" : Str)) = false := by decide) (hs : starEach [e] X.env = (false, eval e X.env) :: starEach [] X.env := by rfl)
    (hbase : attributeBase (.Name x p) "append" X.env (eval (.Name x p) X.env) = eval (.Name x p) X.env := by rfl)
    (hfew : ((backTo cpos (starEach [e] X.env)).all (fun x => !x.1) && (backToKw cpos (keywordEach [] X.env)).all (fun x => x.1.isSome) && decide ([e].length + ([] : List Keyword).length + (if ([] : List Keyword).isEmpty then 0 else 1) < 30)) = true := by rfl)
    (hline : (apos.endLine == cpos.line) = true := by rfl) (hplain : (backTo cpos (starEach [] X.env)).any (·.1) = false := by rfl)
    (hsw : swapsWith (.Call (.Attribute (.Name x p) "append" apos) [e] [] cpos) none pos.line X.env = pure false := by rfl) :
    SS X K cls (.Expr (.Call (.Attribute (.Name x p) "append" apos) [e] [] cpos) pos) (tDrop (tBM K "list" rAppend (tVar i) (tCons te tNil))) (sApp i fe) :=
  by obtain ⟨rfl⟩ := hK; exact ⟨ps_expr (pe_app (pe_var hN hv hd hcd) he.1 hs hbase hfew hline hplain) hsw, s_app he.2⟩
theorem ss_appK (ho : SE X K cls true o to fo) (he : SE X K cls false e te fe) (hs : starEach [e] X.env = (false, eval e X.env) :: starEach [] X.env := by rfl)
    (hbase : attributeBase o "append" X.env (eval o X.env) = eval o X.env := by rfl)
    (hfew : ((backTo cpos (starEach [e] X.env)).all (fun x => !x.1) && (backToKw cpos (keywordEach [] X.env)).all (fun x => x.1.isSome) && decide ([e].length + ([] : List Keyword).length + (if ([] : List Keyword).isEmpty then 0 else 1) < 30)) = true := by rfl)
    (hline : (apos.endLine == cpos.line) = true := by rfl) (hplain : (backTo cpos (starEach [] X.env)).any (·.1) = false := by rfl)
    (hsw : swapsWith (.Call (.Attribute o "append" apos) [e] [] cpos) none pos.line X.env = pure false := by rfl) :
    SS X K cls (.Expr (.Call (.Attribute o "append" apos) [e] [] cpos) pos) (tDrop (tBM K "list" rAppend to (tCons te tNil))) (sAppK fo fe) :=
  by obtain ⟨rfl⟩ := hK; exact ⟨ps_expr (pe_app ho.1 he.1 hs hbase hfew hline hplain) hsw, s_appK ho.2 he.2⟩
theorem ss_ext (i : Nat) (he : SL X K cls e te fl) (hN : X.N[i]? = some x := by rfl) (hv : Vis X.env.scope x := by first | exact Or.inl rfl | exact Or.inr (Or.inl rfl) | exact Or.inr (Or.inr rfl)) (hd : (x == ("__debug__" : Str)) = false := by decide)
    (hcd : (x == ("__classdict__" : Str)) = false := by decide) (hs : starEach [e] X.env = (false, eval e X.env) :: starEach [] X.env := by rfl)
    (hbase : attributeBase (.Name x p) "extend" X.env (eval (.Name x p) X.env) = eval (.Name x p) X.env := by rfl)
    (hfew : ((backTo cpos (starEach [e] X.env)).all (fun x => !x.1) && (backToKw cpos (keywordEach [] X.env)).all (fun x => x.1.isSome) && decide ([e].length + ([] : List Keyword).length + (if ([] : List Keyword).isEmpty then 0 else 1) < 30)) = true := by rfl)
    (hline : (apos.endLine == cpos.line) = true := by rfl) (hplain : (backTo cpos (starEach [] X.env)).any (·.1) = false := by rfl)
    (hsw : swapsWith (.Call (.Attribute (.Name x p) "extend" apos) [e] [] cpos) none pos.line X.env = pure false := by rfl) :
    SS X K cls (.Expr (.Call (.Attribute (.Name x p) "extend" apos) [e] [] cpos) pos) (tDrop (tBM K "list" rExtend (tVar i) (tCons te tNil))) (sExt i fl) :=
  by obtain ⟨rfl⟩ := hK; exact ⟨ps_expr (pe_bm PySem.F.plainAttrs_list PySem.F.slot_list_extend PySem.F.type_list_extend mt_extend (pe_var hN hv hd hcd) (pa_cons he.1 pa_nil hs) hbase hfew hline hs hplain) hsw, s_ext he.2⟩
theorem ss_fld (h : At K cls C k nm) (ho : SE X K cls true o to fo) (he : SE X K cls false e te fe) (h9 : (nms C).length < 900 := by decide) (hs : swapsWith e (some (.Attribute o nm p')) pos.line X.env = pure false := by rfl) :
    SS X K cls (.Assign [.Attribute o nm p'] e pos) (L2.sFld K to te nm) (sFld C k fo fe) := by obtain ⟨rfl⟩ := hK; exact ⟨ps_fld ho.1 he.1 hs, s_fld h ho.2 he.2 h9⟩
end
end
end Mi

set_option Elab.async false
set_option linter.all false
set_option maxRecDepth 100000
set_option maxHeartbeats 1000000
/-! Mi, eleventh part: isinstance, list(range(..)), two targets at once. -/
namespace Mi
open PySem PySem.Spec PyProof.Rows L2
variable [Gam]

/-! ### isinstance of a built-in class -/
def tyN : Nat → String
  | 0 => "int" | 1 => "bool" | 2 => "str" | 3 => "list" | 4 => "tuple" | 5 => "NoneType" | _ => "dict"
def tyOf (st : Sto) : Val → Option Nat
  | .non => some 5
  | .bl _ => some 1
  | .int _ => some 0
  | .str _ => some 2
  | .lst _ => some 3
  | .tup _ => some 4
  | .fn _ _ => none
  | .ref n => match st[n]? with
    | some (.lst _) => some 3
    | some (.dk _) => some 6
    | some (.dt _) => some 6
    | _ => none
def isiT (a b : Nat) : Bool := a == b || (a == 1 && b == 0)
def oIsi (k : Nat) : Sto → Val → Option Val := fun st x => (tyOf st x).bind fun t => if t < 7 ∧ k < 5 then some (.bl (isiT t k)) else none
theorem kit_tab : ∀ a < 7, ∀ b < 5, kitB (tyN a) (tyN b) = some (isiT a b) := by decide +kernel
section
variable {K : PySem.W.Frag} {cls : Nat → Addr} {ρ : List Addr} {Z : Addr → Prop} {σ : L2.St} {H : Hp} {sl : Sl} {st : Sto} {m m' : Bool} {x : Val} {u : V} {ta tb : TE} {fa fb : E}
theorem sq_ty {a : Addr} {us : List V} (h : SqL K H a us) : TyX K H (.ref a) (.type "list") := by
  rcases h with (h | ⟨o, h⟩) | ⟨o, its, n, h1, h2, _⟩
  · exact .base (.lst h)
  · exact .base (.frz h)
  · exact .kList h1 h2
theorem sqt_ty {a : Addr} {us : List V} (h : SqT K H a us) : TyX K H (.ref a) (.type "tuple") := by
  rcases h with (h | ⟨o, h⟩) | ⟨o, its, n, h1, h2, _⟩
  · exact .base (.tup h)
  · exact .fTuple h
  · exact .kTuple h1 h2
theorem ty_of (R : Rel K cls ρ Z σ H sl st) (h : RepM K m ρ Z σ H sl x u) {t : Nat} (e : tyOf st x = some t) : TyX K H u (.type (tyN t)) := by
  rcases h with h | ⟨_, i, xs, a, rfl, rfl, h1, h2⟩
  · cases h with
    | non => cases e; exact .base .non
    | bl b => cases e; exact .base (.bl b)
    | int i => cases e; exact .base (.int i)
    | str s => cases e; exact .base (.str s)
    | fn _ _ _ => cases e
    | lst h1 h2 => cases e; exact sq_ty (lst_sq h1)
    | tup h1 h2 => cases e; exact sqt_ty (tup_sq h1)
    | ref h1 =>
      rename_i n a
      have e' : (match st[n]? with
        | some (.lst _) => some 3
        | some (.dk _) => some 6
        | some (.dt _) => some 6
        | _ => none) = some t := e
      clear e
      split at e'
      · rename_i xs hx
        cases e'
        obtain ⟨us, e1, _⟩ := R.s.cells n _ a hx h1
        exact .base (.lst e1)
      · rename_i xs hx
        cases e'
        obtain ⟨us, e1, _⟩ := R.s.cells n _ a hx h1
        exact .base (.dK e1)
      · rename_i xs hx
        cases e'
        obtain ⟨us, e1, _⟩ := R.s.cells n _ a hx h1
        exact .base (.dT e1)
      · cases e'
  · cases e
    obtain ⟨b, us, e1, e2, r, _⟩ := R.owns i _ h1
    rw [h2] at e1
    cases e1
    exact .base (.lst e2)
theorem ops_isi {k : Nat} : Op1S K cls (oIsi k) (fun u => fun H Q => rIsi K [u, .ty (tyN k)] H Q) := by
  intro ρ Z σ H sl st x z u R h1 e Q q
  obtain ⟨t, e1, e⟩ := bind_some e
  split at e
  · rename_i hk
    cases e
    exact ⟨u, _, _, _, _, rfl, .ty _, ty_of R h1 e1, kit_ty (kit_tab t hk.1 k hk.2), q _ H R .refl (.bl _)⟩
  · cases e
theorem snd_isi {k : Nat} (ha : Snd K cls m' ta fa) : Snd K cls m (tCB (rIsi K) (tCons ta (tCons (tC (.ty (tyN k))) tNil))) (e1 (oIsi k) fa) := snd_e1 (r := fun u => fun H Q => rIsi K [u, .ty (tyN k)] H Q) ops_isi ha

/-! ### list(range(..)) -/
theorem snd_rg1 (ha : Snd K cls m ta fa) : SndL K cls (tLstRg (tRg1 ta)) (l1 oRg1 fa) := ⟨fun ρ Z σ H sl st ds st' R e Q q => by
  obtain ⟨p, e1, e⟩ := bind_some e
  obtain ⟨zs, e2, e⟩ := bind_some e
  cases e
  refine ha.run ρ Z σ H sl st p.1 p.2 R e1 _ fun u ρ1 H1 R1 x1 r1 => ?_
  unfold oRg1 at e2
  split at e2
  · rename_i n hn
    split at e2
    · rename_i hb
      cases e2
      rw [hn] at r1
      refine ⟨n, int_inv r1, ⟨by omega, by omega, by omega, by omega, by omega⟩, fun w hw => ?_⟩
      have eq1 : rgV 0 n = ((List.range n.toNat).map fun i => Val.int (i : Nat)).map (fun v => match v with | .int i => V.int i | _ => V.non) := by
        unfold rgV
        rw [List.map_map, Int.sub_zero]
        refine List.map_congr_left fun i _ => ?_
        show V.int (0 + (i : Nat)) = V.int (i : Nat)
        rw [Int.zero_add]
      have rl : ∀ l : List Nat, RepL K ρ1 (AR ρ1 (ZO Z sl σ)) H1 (l.map fun i => Val.int (i : Nat)) ((l.map fun i => Val.int (i : Nat)).map (fun v => match v with | .int i => V.int i | _ => V.non)) := fun l => by
        induction l with
        | nil => exact .nil
        | cons a l ih => exact .cons (.int _) ih
      rw [eq1]
      exact q w _ ρ1 _ R1 x1 hw (rl _)
    · cases e2
  · cases e2⟩
theorem snd_rg2 (ha : Snd K cls m ta fa) (hb : Snd K cls m' tb fb) : SndL K cls (tLstRg (tRg2 ta tb)) (l2 oRg2 fa fb) := ⟨fun ρ Z σ H sl st ds st' R e Q q => by
  obtain ⟨p, e1, e⟩ := bind_some e
  obtain ⟨p2, e2, e⟩ := bind_some e
  obtain ⟨zs, e3, e⟩ := bind_some e
  cases e
  refine ha.run ρ Z σ H sl st p.1 p.2 R e1 _ fun u ρ1 H1 R1 x1 r1 => ?_
  refine hb.run ρ1 Z σ H1 sl p.2 p2.1 p2.2 R1 e2 _ fun v ρ2 H2 R2 x2 r2 => ?_
  unfold oRg2 at e3
  split at e3
  · rename_i a b hx hy
    split at e3
    · rename_i hb
      cases e3
      rw [hx] at r1
      rw [hy] at r2
      refine ⟨a, b, int_inv r1, int_inv r2, ⟨by omega, by omega, by omega, by omega, by omega⟩, fun w hw => ?_⟩
      have rl : ∀ l : List Nat, RepL K ρ2 (AR ρ2 (ZO Z sl σ)) H2 (l.map fun i => Val.int (a + (i : Nat))) (l.map fun i => V.int (a + (i : Nat))) := fun l => by
        induction l with
        | nil => exact .nil
        | cons a l ih => exact .cons (.int _) ih
      exact q w _ ρ2 _ R2 (x1.trans x2) hw (rl _)
    · cases e3
  · cases e3⟩

/-! ### two targets at once -/
/-- a list that was kept apart becomes a slot's own -/
theorem Rel.claim {i : Nat} {p : Addr} {xs : List Val} {us : List V} (R : Rel K cls ρ (ZD Z p) σ H sl st) (hp : H p = some (.lst us)) (hz : ¬ Z p) (r : RepL K ρ (AR ρ (ZO (ZD Z p) sl σ)) H xs us) (hi : i < sl.length) :
    Rel K cls ρ Z (σ.set i (some (.ref p))) H (sl.set i (.own xs)) st ∧ ∀ a, WO ρ (sl.set i (.own xs)) (σ.set i (some (.ref p))) a → WO ρ sl σ a ∨ a = p := by
  have hi' : i < σ.length := by rw [← R.slen]; exact hi
  have hpρ : p ∉ ρ := fun z => R.s.dis p z (.inl (.inr rfl))
  have hpo : ¬ Own sl σ p := fun ⟨j, ys, h1, h2⟩ => by
    obtain ⟨a, _, q1, _, _, q4⟩ := R.owns j ys h1
    rw [h2] at q1
    cases q1
    exact q4 (.inr rfl)
  have ow : ∀ a, Own (sl.set i (.own xs)) (σ.set i (some (.ref p))) a → a = p ∨ Own sl σ a := fun a ⟨j, ys, h1, h2⟩ => by
    by_cases hj : j = i
    · subst hj
      rw [List.getElem?_set_self hi'] at h2
      cases h2
      exact .inl rfl
    · rw [List.getElem?_set_ne (Ne.symm hj)] at h1 h2
      exact .inr ⟨j, ys, h1, h2⟩
  have sub : ∀ a, AR ρ (ZO Z (sl.set i (.own xs)) (σ.set i (some (.ref p)))) a → AR ρ (ZO (ZD Z p) sl σ) a := fun a h => by
    rcases h with h | h | h
    · exact .inl h
    · exact .inr (.inl (.inl h))
    · rcases ow a h with z | z
      · exact .inr (.inl (.inr z))
      · exact .inr (.inr z)
  have fr : Fr (AR ρ (ZO (ZD Z p) sl σ)) H (AR ρ (ZO Z (sl.set i (.own xs)) (σ.set i (some (.ref p))))) H := Fr.less sub
  refine ⟨⟨⟨R.s.nd, R.s.len, fun n c a h1 h2 => (R.s.cells n c a h1 h2).mono fr List.prefix_rfl rfl, fun a h => R.s.dom a (sub a h), fun a h z => ?_⟩, by rw [List.length_set, List.length_set]; exact R.slen, fun j w h => ?_, fun j ys h => ?_, fun j k ys zs a h1 h2 h3 h4 => ?_⟩, fun a h => h.elim (fun h => .inl (.inl h)) fun h => (ow a h).elim .inr fun z => .inl (.inr z)⟩
  · rcases z with z | z
    · exact R.s.dis a h (.inl (.inl z))
    · rcases ow a z with y | y
      · exact hpρ (y ▸ h)
      · exact R.s.dis a h (.inr y)
  · have hj : j ≠ i := fun z => by
      subst z
      rw [List.getElem?_set_self hi] at h
      cases h
    rw [List.getElem?_set_ne (Ne.symm hj)] at h
    obtain ⟨u', q1, q2⟩ := R.slots j w h
    exact ⟨u', by rw [List.getElem?_set_ne (Ne.symm hj)]; exact q1, q2.mono fr List.prefix_rfl⟩
  · by_cases hj : j = i
    · subst hj
      rw [List.getElem?_set_self hi] at h
      cases h
      exact ⟨p, us, by rw [List.getElem?_set_self hi'], hp, r.mono fr List.prefix_rfl, hz⟩
    · rw [List.getElem?_set_ne (Ne.symm hj)] at h
      obtain ⟨a, us, q1, q2, q3, q4⟩ := R.owns j ys h
      exact ⟨a, us, by rw [List.getElem?_set_ne (Ne.symm hj)]; exact q1, q2, q3.mono fr List.prefix_rfl, fun z => q4 (.inl z)⟩
  · by_cases hj : j = i
    · by_cases hk : k = i
      · rw [hj, hk]
      · subst hj
        rw [List.getElem?_set_self hi'] at h3
        cases h3
        rw [List.getElem?_set_ne (Ne.symm hk)] at h2 h4
        exact absurd ⟨k, zs, h2, h4⟩ hpo
    · rw [List.getElem?_set_ne (Ne.symm hj)] at h1 h3
      by_cases hk : k = i
      · subst hk
        rw [List.getElem?_set_self hi'] at h4
        cases h4
        exact absurd ⟨j, ys, h1, h3⟩ hpo
      · rw [List.getElem?_set_ne (Ne.symm hk)] at h2 h4
        exact R.inj j k ys zs a h1 h2 h3 h4
/-- both values, then both stores; N: what follows, at the heap behind both values -/
theorem par_vo {i j : Nat} {r : Out × Sl × Sto} {fl : L} (ha : Snd K cls false ta fa) (hb : SndL K cls tb fl) (R : Rel K cls ρ Z σ H sl st) (e : sParVO i j fa fl sl st = some r) (N : V → V → Hp → Prop)
    (q : ∀ x y σ' ρ' H', σ' = (σ.set i (some x)).set j (some y) → r.1 = .nx → Rel K cls ρ' Z σ' H' r.2.1 r.2.2 → ρ <+: ρ' → Fr (WO ρ sl σ) H (WO ρ' r.2.1 σ') H' → N x y H') : ta σ H fun x H1 => tb σ H1 fun y H2 => N x y H2 := by
  obtain ⟨p, e1, e⟩ := bind_some e
  obtain ⟨p2, e2, e⟩ := bind_some e
  split at e
  · rename_i hl
    cases e
    refine ha.run ρ Z σ H sl st p.1 p.2 R e1 _ fun u ρ1 H1 R1 x1 r1 => ?_
    refine hb.run ρ1 Z σ H1 sl p.2 p2.1 p2.2 R1 e2 _ fun w us ρ2 H2 R2 x2 hp rl => ?_
    have R3 := R2.setVal (r1.ext x2).rep hl.1
    have le : ∀ a, AR ρ2 (ZO Z (sl.set i (.val p.1)) (σ.set i (some u))) a → AR ρ2 (ZO Z sl σ) a := fun a h => h.imp id fun z => z.imp id own_set
    obtain ⟨R4, f4⟩ := R3.setOwn (i := j) hp (rl.mono (Fr.less le) List.prefix_rfl) (by rw [List.length_set]; exact hl.2)
    refine q u (.ref w) _ ρ2 _ rfl rfl R4 (x1.trans x2).pre ?_
    exact (x1.trans x2).wo.trans (Fr.trans ⟨fun _ _ _ h => h, fun a h => .inl (h.imp id own_set)⟩ f4)
  · cases e
theorem par_oo {i j : Nat} {r : Out × Sl × Sto} {fl fl' : L} (hij : i ≠ j) (ha : SndL K cls ta fl) (hb : SndL K cls tb fl') (R : Rel K cls ρ Z σ H sl st) (e : sParOO i j fl fl' sl st = some r) (N : V → V → Hp → Prop)
    (q : ∀ x y σ' ρ' H', σ' = (σ.set i (some x)).set j (some y) → r.1 = .nx → Rel K cls ρ' Z σ' H' r.2.1 r.2.2 → ρ <+: ρ' → Fr (WO ρ sl σ) H (WO ρ' r.2.1 σ') H' → N x y H') : ta σ H fun x H1 => tb σ H1 fun y H2 => N x y H2 := by
  obtain ⟨p, e1, e⟩ := bind_some e
  obtain ⟨p2, e2, e⟩ := bind_some e
  split at e
  · rename_i hl
    cases e
    refine ha.run ρ Z σ H sl st p.1 p.2 R e1 _ fun w us ρ1 H1 R1 x1 hp rl => ?_
    have R1' : Rel K cls ρ1 (ZD Z w) σ (upd H1 w (.lst us)) sl p.2 := R1.block (vs := []) rfl hp
    have hz : ¬ Z w := fun z => R1.s.dom w (.inr (.inl z)) hp
    have f1 : Fr (AR ρ1 (ZO Z sl σ)) H1 (AR ρ1 (ZO (ZD Z w) sl σ)) (upd H1 w (.lst us)) := ⟨fun a o hn h => by rw [upd_ne (ne_of_none h hp)]; exact h, fun a h => by
      rcases h with h | (h | h) | h
      · exact .inl (.inl h)
      · exact .inl (.inr (.inl h))
      · exact .inr (h ▸ hp)
      · exact .inl (.inr (.inr h))⟩
    refine hb.run ρ1 (ZD Z w) σ _ sl p.2 p2.1 p2.2 R1' e2 _ fun w2 us2 ρ2 H2 R2 x2 hp2 rl2 => ?_
    have hw2 : H2 w = some (.lst us) := x2.fr.keep w _ (fun z => R1'.s.dis w z (.inl (.inr rfl))) upd_same
    obtain ⟨R3, f3⟩ := R2.setOwn (i := j) hp2 rl2 hl.2
    have hne : w ≠ w2 := ne_of_none hw2 hp2
    have rl3 : RepL K ρ2 (AR ρ2 (ZO (ZD Z w) sl σ)) H2 p.1 us := x2.repL (rl.mono f1 List.prefix_rfl)
    have fr3 : Fr (AR ρ2 (ZO (ZD Z w) sl σ)) H2 (AR ρ2 (ZO (ZD Z w) (sl.set j (.own p2.1)) (σ.set j (some (.ref w2))))) (upd H2 w2 (.lst us2)) := ⟨fun a o hn h => by rw [upd_ne (ne_of_none h hp2)]; exact h, fun a h => by
      rcases h with h | h | h
      · exact .inl (.inl h)
      · exact .inl (.inr (.inl h))
      · exact (f3.new a (.inr h)).imp (fun z => z.elim .inl fun z => .inr (.inr z)) id⟩
    obtain ⟨R4, f4⟩ := R3.claim (i := i) (by rw [upd_ne hne]; exact hw2) hz (rl3.mono fr3 List.prefix_rfl) (by rw [List.length_set]; exact hl.1)
    rw [List.set_comm _ _ hij.symm, List.set_comm _ _ hij.symm] at R4
    refine q (.ref w) (.ref w2) _ ρ2 _ rfl rfl R4 (x1.pre.trans x2.pre) ⟨fun a o hn h => ?_, fun a h => ?_⟩
    · have h1 : H1 a = some o := x1.fr.keep a o (fun z => hn (.inl z)) h
      have h1' : upd H1 w (.lst us) a = some o := by rw [upd_ne (ne_of_none h1 hp)]; exact h1
      have h2 : H2 a = some o := x2.fr.keep a o (fun z => (x1.fr.new a z).elim (fun z => hn (.inl z)) fun z => by rw [z] at h; cases h) h1'
      rw [upd_ne (ne_of_none h2 hp2)]
      exact h2
    · rw [List.set_comm _ _ hij, List.set_comm _ _ hij] at h
      have h0 : ∀ b, H1 b = none → H b = none := fun b hb => R1.fresh x1 hb
      rcases f4 a h with z | z
      · rcases f3.new a z with z | z
        · rcases z with z | z
          · rcases x2.fr.new a z with z | z
            · exact (x1.fr.new a z).imp .inl id
            · refine .inr (h0 a ?_)
              by_cases ha : a = w
              · rw [ha]; exact hp
              · rw [upd_ne ha] at z; exact z
          · exact .inl (.inr z)
        · refine .inr (h0 a ?_)
          have h9 : upd H1 w (.lst us) a = none := R2.fresh x2 z
          by_cases ha : a = w
          · rw [ha]; exact hp
          · rw [upd_ne ha] at h9; exact h9
      · rw [z]; exact .inr (h0 w hp)
  · cases e
theorem s_parVO {i j : Nat} {fl : L} (ha : Snd K cls false ta fa) (hb : SndL K cls tb fl) : SndS K cls (tPar i j (tCons ta (tCons tb tNil))) (sParVO i j fa fl) := ⟨fun ρ Z σ H sl st r R e D q => by
  refine par_vo ha hb R e (fun x y H' => ∃ v w, [x, y] = [v, w] ∧ D.nx ((σ.set i (some v)).set j (some w)) H') fun x y σ' ρ' H' es en R' hp fr => ⟨x, y, rfl, ?_⟩
  obtain ⟨o, sl', st'⟩ := r
  cases en
  subst es
  exact q _ ρ' H' R' hp fr⟩
theorem s_parOO {i j : Nat} {fl fl' : L} (hij : i ≠ j) (ha : SndL K cls ta fl) (hb : SndL K cls tb fl') : SndS K cls (tPar i j (tCons ta (tCons tb tNil))) (sParOO i j fl fl') := ⟨fun ρ Z σ H sl st r R e D q => by
  refine par_oo hij ha hb R e (fun x y H' => ∃ v w, [x, y] = [v, w] ∧ D.nx ((σ.set i (some v)).set j (some w)) H') fun x y σ' ρ' H' es en R' hp fr => ⟨x, y, rfl, ?_⟩
  obtain ⟨o, sl', st'⟩ := r
  cases en
  subst es
  exact q _ ρ' H' R' hp fr⟩
/-- through a tuple -/
def tPar2 (K : PySem.W.Frag) (i j : Nat) (ta tb : TE) : TS := tAsg (tTup (tCons ta (tCons tb tNil))) (L2.gTup K 2 (L2.gCons (L2.gName i) (L2.gCons (L2.gName j) L2.gNil)))
theorem par2_end {i j : Nat} {D : Ends} {x y : V} {H' : Hp} (h : ∀ p, H' p = none → D.nx ((σ.set i (some x)).set j (some y)) (upd H' p (.tup [x, y]))) :
    [x, y].length ≤ sizeLine ∧ ∀ p, H' p = none → L2.gTup K 2 (L2.gCons (L2.gName i) (L2.gCons (L2.gName j) L2.gNil)) (.ref p) σ (upd H' p (.tup [x, y])) D.nx :=
  ⟨by show 2 ≤ sizeLine; decide, fun p hp => ⟨p, [x, y], rfl, .of upd_same, rfl, x, [y], rfl, y, [], rfl, rfl, h p hp⟩⟩
theorem s_parVO_t {i j : Nat} {fl : L} (ha : Snd K cls false ta fa) (hb : SndL K cls tb fl) : SndS K cls (tPar2 K i j ta tb) (sParVO i j fa fl) := ⟨fun ρ Z σ H sl st r R e D q => by
  refine par_vo ha hb R e _ fun x y σ' ρ' H' es en R' hp fr => par2_end fun p h0 => ?_
  obtain ⟨o, sl', st'⟩ := r
  cases en
  subst es
  exact q _ ρ' _ (R'.new h0) hp (fr.trans (Ext.new h0).wo)⟩
theorem s_parOO_t {i j : Nat} {fl fl' : L} (hij : i ≠ j) (ha : SndL K cls ta fl) (hb : SndL K cls tb fl') : SndS K cls (tPar2 K i j ta tb) (sParOO i j fl fl') := ⟨fun ρ Z σ H sl st r R e D q => by
  refine par_oo hij ha hb R e _ fun x y σ' ρ' H' es en R' hp fr => par2_end fun p h0 => ?_
  obtain ⟨o, sl', st'⟩ := r
  cases en
  subst es
  exact q _ ρ' _ (R'.new h0) hp (fr.trans (Ext.new h0).wo)⟩
end
section
variable {X : Cx} {K : PySem.W.Frag} [hK : KX X K] {cls : Nat → Addr} {m m' : Bool} {a b c : Expr} {ta tb tc : TE} {fa fb fc : E} {fl fl' : L} {pos p p2 p' : Pos} {x y : Str}
theorem se_isi (k : Nat) {tn : Str} (bt : Bt X.mg) (hb : X.mg tn = none) (hv : bootBuiltins tn = some (.type (tyN k))) (ha : SE X K cls true a ta fa) (hg : Gl X "isinstance" := by rfl) (hg2 : Gl X tn := by rfl) (hn : tn ≠ "__name__" := by decide) (hd : (tn == ("__debug__" : Str)) = false := by decide)
    (hs : starEach [a, .Name tn p2] X.env = (false, eval a X.env) :: starEach [.Name tn p2] X.env := by rfl) (hs2 : starEach [.Name tn p2] X.env = (false, eval (.Name tn p2) X.env) :: starEach [] X.env := by rfl) (hpl : (backTo pos (starEach [.Name tn p2] X.env)).any (·.1) = false := by rfl) :
    SE X K cls m (.Call (.Name "isinstance" p) [a, .Name tn p2] [] pos) (tCB (rIsi K) (tCons ta (tCons (tC (.ty (tyN k))) tNil))) (e1 (oIsi k) fa) :=
  by obtain ⟨rfl⟩ := hK; exact ⟨pe_callB call_isi hg bt.isinstance (by decide +kernel) (pa_cons ha.1 (pa_cons (pe_bltn hg2 hb hv rfl hn hd) pa_nil hs2) hs) (he := hs) (hpl := hpl), snd_isi ha.2⟩
theorem sl_rg1 (bt : Bt X.mg) (ha : SE X K cls true a ta fa) (hg : Gl X "list" := by rfl) (hg2 : Gl X "range" := by rfl) (hc : X.calm = true := by rfl) (na : starEach [a] X.env = (false, eval a X.env) :: starEach [] X.env := by rfl)
    (nb : starEach [.Call (.Name "range" p2) [a] [] p'] X.env = (false, eval (.Call (.Name "range" p2) [a] [] p') X.env) :: starEach [] X.env := by rfl) :
    SL X K cls (.Call (.Name "list" p) [.Call (.Name "range" p2) [a] [] p'] [] pos) (tLstRg (tRg1 ta)) (l1 oRg1 fa) := by obtain ⟨rfl⟩ := hK; exact ⟨pe_listRg hc hg bt.list (prg_1 hg2 bt.range ha.1 na) nb, snd_rg1 ha.2⟩
theorem sl_rg2 (bt : Bt X.mg) (ha : SE X K cls true a ta fa) (hb : SE X K cls true b tb fb) (hg : Gl X "list" := by rfl) (hg2 : Gl X "range" := by rfl) (hc : X.calm = true := by rfl) (na : starEach [a, b] X.env = (false, eval a X.env) :: starEach [b] X.env := by rfl)
    (nb : starEach [b] X.env = (false, eval b X.env) :: starEach [] X.env := by rfl) (hp : (backTo p' (starEach [b] X.env)).any (·.1) = false := by rfl)
    (nc : starEach [.Call (.Name "range" p2) [a, b] [] p'] X.env = (false, eval (.Call (.Name "range" p2) [a, b] [] p') X.env) :: starEach [] X.env := by rfl) :
    SL X K cls (.Call (.Name "list" p) [.Call (.Name "range" p2) [a, b] [] p'] [] pos) (tLstRg (tRg2 ta tb)) (l2 oRg2 fa fb) := by obtain ⟨rfl⟩ := hK; exact ⟨pe_listRg hc hg bt.list (prg_2 hg2 bt.range ha.1 hb.1 na nb hp) nc, snd_rg2 ha.2 hb.2⟩
section
variable {px py pt : Pos} {kt k2 : Nat} {pt2 : Pos}
theorem ss_parvo (i j : Nat) (hN : X.N.Nodup) (ha : SE X K cls false a ta fa) (hb : SL X K cls b tb fl) (hi : X.N[i]? = some x := by rfl) (hj : X.N[j]? = some y := by rfl) (hij : i ≠ j := by decide)
    (hx : X.env.scope.names.lookup x = some .local := by rfl) (hy : X.env.scope.names.lookup y = some .local := by rfl) (hc : X.calm = true := by rfl)
    (h1 : starEach [a, b] X.env = (false, eval a X.env) :: starEach [b] X.env := by rfl) (h2 : starEach [b] X.env = (false, eval b X.env) :: starEach [] X.env := by rfl)
    (hw : swappedStores [.Tuple [.Name x px, .Name y py] kt pt] (.Tuple [a, b] k2 pt2) X.env = pure (some [x, y]) := by rfl)
    (hs : swapsWithSole [.Tuple [.Name x px, .Name y py] kt pt] (.Tuple [a, b] k2 pt2) pos.line X.env = pure false := by rfl) :
    SS X K cls (.Assign [.Tuple [.Name x px, .Name y py] kt pt] (.Tuple [a, b] k2 pt2) pos) (tPar i j (tCons ta (tCons tb tNil))) (sParVO i j fa fl) :=
  by obtain ⟨rfl⟩ := hK; exact ⟨ps_par hc hN hi hj hij hx hy (pa_cons ha.1 (pa_cons hb.1 pa_nil h2) h1) hw hs, s_parVO ha.2 hb.2⟩
theorem ss_paroo (i j : Nat) (hN : X.N.Nodup) (ha : SL X K cls a ta fl) (hb : SL X K cls b tb fl') (hi : X.N[i]? = some x := by rfl) (hj : X.N[j]? = some y := by rfl) (hij : i ≠ j := by decide)
    (hx : X.env.scope.names.lookup x = some .local := by rfl) (hy : X.env.scope.names.lookup y = some .local := by rfl) (hc : X.calm = true := by rfl)
    (h1 : starEach [a, b] X.env = (false, eval a X.env) :: starEach [b] X.env := by rfl) (h2 : starEach [b] X.env = (false, eval b X.env) :: starEach [] X.env := by rfl)
    (hw : swappedStores [.Tuple [.Name x px, .Name y py] kt pt] (.Tuple [a, b] k2 pt2) X.env = pure (some [x, y]) := by rfl)
    (hs : swapsWithSole [.Tuple [.Name x px, .Name y py] kt pt] (.Tuple [a, b] k2 pt2) pos.line X.env = pure false := by rfl) :
    SS X K cls (.Assign [.Tuple [.Name x px, .Name y py] kt pt] (.Tuple [a, b] k2 pt2) pos) (tPar i j (tCons ta (tCons tb tNil))) (sParOO i j fl fl') :=
  by obtain ⟨rfl⟩ := hK; exact ⟨ps_par hc hN hi hj hij hx hy (pa_cons ha.1 (pa_cons hb.1 pa_nil h2) h1) hw hs, s_parOO hij ha.2 hb.2⟩
theorem ps_par2 {i j : Nat} (hN : X.N.Nodup) (ha : PE X a ta) (hb : PE X b tb) (hi : X.N[i]? = some x) (hj : X.N[j]? = some y) (hx : Loc X.env.scope x) (hfx : X.fn x = true ∨ X.env.scope.names.lookup x = some .local) (hy : Loc X.env.scope y) (hfy : X.fn y = true ∨ X.env.scope.names.lookup y = some .local)
    (h1 : starEach [a, b] X.env = (false, eval a X.env) :: starEach [b] X.env) (h2 : starEach [b] X.env = (false, eval b X.env) :: starEach [] X.env) (hc : X.calm = true)
    (g0 : (assignEach [.Name x px, .Name y py] X.env).map (·.2) = assign (.Name x px) X.env :: (assignEach [.Name y py] X.env).map (·.2)) (g1 : (assignEach [.Name y py] X.env).map (·.2) = assign (.Name y py) X.env :: (assignEach [] X.env).map (·.2))
    (hn : (assignEach [.Name x px, .Name y py] X.env).length = 2) (hst : (assignEach [.Name x px, .Name y py] X.env).findIdx? (·.1) = none)
    (hs : swapsWithSole [.Tuple [.Name x px, .Name y py] kt pt] (.Tuple [a, b] k2 pt2) pos.line X.env = pure false) (hw : swappedStores [.Tuple [.Name x px, .Name y py] kt pt] (.Tuple [a, b] k2 pt2) X.env = pure none)
    (ht : (assignEach [.Tuple [.Name x px, .Name y py] kt pt] X.env).map (·.2) = [assign (.Tuple [.Name x px, .Name y py] kt pt) X.env]) :
    PS X (.Assign [.Tuple [.Name x px, .Name y py] kt pt] (.Tuple [a, b] k2 pt2) pos) (tPar2 K i j ta tb) :=
  by obtain ⟨rfl⟩ := hK; exact ps_asg (pe_tup (pa_cons ha (pa_cons hb pa_nil h2) h1)) (pg_tup hc (pgs_cons (pg_name hN hi hx hfx) (pgs_cons (pg_name hN hj hy hfy) pgs_nil g1) g0) hn hst) hs hw ht
theorem ss_parvo_t (i j : Nat) (hN : X.N.Nodup) (ha : SE X K cls false a ta fa) (hb : SL X K cls b tb fl) (hi : X.N[i]? = some x := by rfl) (hj : X.N[j]? = some y := by rfl)
    (hx : Loc X.env.scope x := by first | exact Or.inl rfl | exact Or.inr rfl) (hfx : X.fn x = true ∨ X.env.scope.names.lookup x = some .local := by first | exact .inl rfl | exact .inr rfl) (hy : Loc X.env.scope y := by first | exact Or.inl rfl | exact Or.inr rfl) (hfy : X.fn y = true ∨ X.env.scope.names.lookup y = some .local := by first | exact .inl rfl | exact .inr rfl)
    (h1 : starEach [a, b] X.env = (false, eval a X.env) :: starEach [b] X.env := by rfl) (h2 : starEach [b] X.env = (false, eval b X.env) :: starEach [] X.env := by rfl) (hc : X.calm = true := by rfl)
    (g0 : (assignEach [.Name x px, .Name y py] X.env).map (·.2) = assign (.Name x px) X.env :: (assignEach [.Name y py] X.env).map (·.2) := by rfl) (g1 : (assignEach [.Name y py] X.env).map (·.2) = assign (.Name y py) X.env :: (assignEach [] X.env).map (·.2) := by rfl)
    (hn : (assignEach [.Name x px, .Name y py] X.env).length = 2 := by rfl) (hst : (assignEach [.Name x px, .Name y py] X.env).findIdx? (·.1) = none := by rfl)
    (hs : swapsWithSole [.Tuple [.Name x px, .Name y py] kt pt] (.Tuple [a, b] k2 pt2) pos.line X.env = pure false := by rfl) (hw : swappedStores [.Tuple [.Name x px, .Name y py] kt pt] (.Tuple [a, b] k2 pt2) X.env = pure none := by rfl)
    (ht : (assignEach [.Tuple [.Name x px, .Name y py] kt pt] X.env).map (·.2) = [assign (.Tuple [.Name x px, .Name y py] kt pt) X.env] := by rfl) :
    SS X K cls (.Assign [.Tuple [.Name x px, .Name y py] kt pt] (.Tuple [a, b] k2 pt2) pos) (tPar2 K i j ta tb) (sParVO i j fa fl) := by obtain ⟨rfl⟩ := hK; exact ⟨ps_par2 hN ha.1 hb.1 hi hj hx hfx hy hfy h1 h2 hc g0 g1 hn hst hs hw ht, s_parVO_t ha.2 hb.2⟩
theorem ss_paroo_t (i j : Nat) (hN : X.N.Nodup) (ha : SL X K cls a ta fl) (hb : SL X K cls b tb fl') (hij : i ≠ j := by decide) (hi : X.N[i]? = some x := by rfl) (hj : X.N[j]? = some y := by rfl)
    (hx : Loc X.env.scope x := by first | exact Or.inl rfl | exact Or.inr rfl) (hfx : X.fn x = true ∨ X.env.scope.names.lookup x = some .local := by first | exact .inl rfl | exact .inr rfl) (hy : Loc X.env.scope y := by first | exact Or.inl rfl | exact Or.inr rfl) (hfy : X.fn y = true ∨ X.env.scope.names.lookup y = some .local := by first | exact .inl rfl | exact .inr rfl)
    (h1 : starEach [a, b] X.env = (false, eval a X.env) :: starEach [b] X.env := by rfl) (h2 : starEach [b] X.env = (false, eval b X.env) :: starEach [] X.env := by rfl) (hc : X.calm = true := by rfl)
    (g0 : (assignEach [.Name x px, .Name y py] X.env).map (·.2) = assign (.Name x px) X.env :: (assignEach [.Name y py] X.env).map (·.2) := by rfl) (g1 : (assignEach [.Name y py] X.env).map (·.2) = assign (.Name y py) X.env :: (assignEach [] X.env).map (·.2) := by rfl)
    (hn : (assignEach [.Name x px, .Name y py] X.env).length = 2 := by rfl) (hst : (assignEach [.Name x px, .Name y py] X.env).findIdx? (·.1) = none := by rfl)
    (hs : swapsWithSole [.Tuple [.Name x px, .Name y py] kt pt] (.Tuple [a, b] k2 pt2) pos.line X.env = pure false := by rfl) (hw : swappedStores [.Tuple [.Name x px, .Name y py] kt pt] (.Tuple [a, b] k2 pt2) X.env = pure none := by rfl)
    (ht : (assignEach [.Tuple [.Name x px, .Name y py] kt pt] X.env).map (·.2) = [assign (.Tuple [.Name x px, .Name y py] kt pt) X.env] := by rfl) :
    SS X K cls (.Assign [.Tuple [.Name x px, .Name y py] kt pt] (.Tuple [a, b] k2 pt2) pos) (tPar2 K i j ta tb) (sParOO i j fl fl') := by obtain ⟨rfl⟩ := hK; exact ⟨ps_par2 hN ha.1 hb.1 hi hj hx hfx hy hfy h1 h2 hc g0 g1 hn hst hs hw ht, s_parOO_t hij ha.2 hb.2⟩
end
end
/-- a list of ints at a, in the heap or in what K holds -/
def ScrAt (K : PySem.W.Frag) (H : Hp) (a : Addr) (ns : List Int) : Prop := Rd H a (.lst (ns.map V.int)) ∨ ∀ H', SqL K H' a (ns.map V.int)
theorem scr_of {K : PySem.W.Frag} {H : Hp} {a : Addr} {ns : List Int} (h : SqL K H a (ns.map V.int)) : ScrAt K H a ns := h.imp id fun z _ => .inr z
/-- room for what == and in ask -/
theorem hu65 {k : Nat} {A : Around} (r : Room k A) : A.units + 65 < cLine := by have := r.un; omega
end Mi

set_option Elab.async false
set_option linter.all false
set_option maxRecDepth 100000
set_option maxHeartbeats 1000000
/-! Mi: stores at a place, augmented stores, raises, lists taken apart. -/
namespace Mi
open PySem PySem.Spec PyProof.Rows L2
variable [Gam]

/-- nothing is promised -/
def sFail : S := fun _ _ => none
/-- o[i] = e, o a list of the store -/
def sSub (o i e : E) : S := fun sl st => (e sl st).bind fun p => (o sl p.2).bind fun q => (i sl q.2).bind fun r => match q.1, r.1 with
  | .ref n, .int k => match r.2[n]? with
    | some (.lst xs) => match L2.ixN xs.length k with
      | some j => some (.nx, sl, r.2.set n (.lst (xs.set j p.1)))
      | none => none
    | _ => none
  | _, _ => none
/-- o[i] += e -/
def sSubA (o i e : E) : S := fun sl st => (o sl st).bind fun q => (i sl q.2).bind fun r => match q.1, r.1 with
  | .ref n, .int k => match r.2[n]? with
    | some (.lst xs) => match L2.atI xs k with
      | some (.int x) => (e sl r.2).bind fun p => match p.1 with
        | .int y => match p.2[n]? with
          | some (.lst ys) => match L2.ixN ys.length k with
            | some j => some (.nx, sl, p.2.set n (.lst (ys.set j (.int (x + y)))))
            | none => none
          | _ => none
        | _ => none
      | _ => none
    | _ => none
  | _, _ => none
/-- o.f += e -/
def sFldA (C k : Nat) (o e : E) : S := fun sl st => (o sl st).bind fun q => match q.1 with
  | .ref n => match q.2[n]? with
    | some (.ins D vs) => if D = C then match vs[k]? with
      | some (.int x) => (e sl q.2).bind fun p => match p.1 with
        | .int y => match p.2[n]? with
          | some (.ins D' ws) => if D' = C ∧ k < ws.length then some (.nx, sl, p.2.set n (.ins C (ws.set k (.int (x + y))))) else none
          | _ => none
        | _ => none
      | _ => none
      else none
    | _ => none
  | _ => none
/-- (a, b, ..) = a list -/
def gUnl (n : Nat) (r : Gs) : G := fun v sl st => match v with
  | .lst xs => if xs.length = n then r xs sl st else none
  | .ref i => match st[i]? with
    | some (.lst xs) => if xs.length = n then r xs sl st else none
    | _ => none
  | _ => none

section
variable {K : PySem.W.Frag} {cls : Nat → Addr} {ρ ρ' : List Addr} {Z : Addr → Prop} {σ : L2.St} {H H' : Hp} {sl : Sl} {st st' : Sto} {m m' : Bool} {ta ti to : TE} {fa fi fo : E} {C k : Nat}
theorem s_fail {t : TS} : SndS K cls t sFail := ⟨fun ρ Z σ H sl st r R e => by cases e⟩
theorem snd_unl {is : List Nat} {n : Nat} {ts : TGs} {fs : Gs} (hs : SndGs K cls is ts fs) : SndG K cls is (L2.gUnl K n ts) (gUnl n fs) := ⟨fun ρ Z σ H sl st v u sl' R r e Q q => by
  cases r <;> first | cases e | skip
  · rename_i i a hi
    have e' : (match st[i]? with
      | some (.lst xs) => if xs.length = n then fs xs sl st else none
      | _ => none) = some sl' := e
    split at e'
    · rename_i xs hx
      obtain ⟨us, w1, w2⟩ := R.s.cells i _ a hx hi
      split at e'
      · rename_i hl
        exact ⟨a, us, rfl, .inl (.of w1), by rw [← w2.length]; exact hl, hs.run ρ Z σ H sl st xs us sl' R w2 e' Q q⟩
      · cases e'
    · cases e'
  · rename_i a xs us t r
    have e' : (if xs.length = n then fs xs sl st else none) = some sl' := e
    split at e'
    · rename_i hl
      exact ⟨a, us, rfl, lst_sq t, by rw [← r.length]; exact hl, hs.run ρ Z σ H sl st xs us sl' R r e' Q q⟩
    · cases e'⟩
theorem rep_int {x : Int} {u : V} {A : Addr → Prop} (h : Rep K ρ A H (.int x) u) : u = .int x := by cases h; rfl
theorem s_sub (ho : Snd K cls m to fo) (hi : Snd K cls m' ti fi) (ha : Snd K cls false ta fa) : SndS K cls (tAsg ta (gSub to ti L2.rSetL)) (sSub fo fi fa) := ⟨fun ρ Z σ H sl st r R e D q => by
  obtain ⟨p, e1, e⟩ := bind_some e
  obtain ⟨p2, e2, e⟩ := bind_some e
  obtain ⟨p3, e3, e⟩ := bind_some e
  split at e
  · rename_i n k hn hk
    split at e
    · rename_i xs hx
      split at e
      · rename_i j hj
        cases e
        refine ha.run ρ Z σ H sl st p.1 p.2 R e1 _ fun v ρ1 H1 R1 x1 r1 => ?_
        refine ho.run ρ1 Z σ H1 sl p.2 p2.1 p2.2 R1 e2 _ fun u ρ2 H2 R2 x2 r2 => ?_
        rw [hn] at r2
        obtain ⟨a, rfl, hρ⟩ := ref_inv r2
        refine hi.run ρ2 Z σ H2 sl p2.2 p3.1 p3.2 R2 e3 _ fun w ρ3 H3 R3 x3 r3 => ?_
        rw [hk] at r3
        have hw : w = .int k := int_inv r3
        subst hw
        obtain ⟨us, v1, v2⟩ := R3.s.cells n _ a hx (x3.at hρ)
        refine ⟨a, us, k, j, rfl, rfl, v1, by rw [← v2.length]; exact hj, ?_⟩
        have x4 : Ext ρ3 H3 ρ3 (upd H3 a (.lst (us.set j v))) := .set (x3.at hρ)
        refine q σ ρ3 _ (R3.set (x3.at hρ) ⟨us.set j v, upd_same, (x4.repL v2).set (x4.rep ((r1.ext x2).ext x3).rep) j⟩) (((x1.trans x2).trans x3).trans x4).pre (((x1.trans x2).trans x3).trans x4).wo
      · cases e
    · cases e
  · cases e⟩
theorem s_subA (ho : Snd K cls m to fo) (hi : Snd K cls m' ti fi) (ha : Snd K cls false ta fa) : SndS K cls (tAugS to ti ta (rIxL K) (ipI fun i j => i + j) L2.rSetL) (sSubA fo fi fa) := ⟨fun ρ Z σ H sl st r R e D q => by
  obtain ⟨p2, e2, e⟩ := bind_some e
  obtain ⟨p3, e3, e⟩ := bind_some e
  split at e
  · rename_i n k hn hk
    split at e
    · rename_i xs hx
      split at e
      · rename_i x hxk
        obtain ⟨p, e1, e⟩ := bind_some e
        split at e
        · rename_i y hy
          split at e
          · rename_i ys hys
            split at e
            · rename_i j hj
              cases e
              refine ho.run ρ Z σ H sl st p2.1 p2.2 R e2 _ fun u ρ2 H2 R2 x2 r2 => ?_
              rw [hn] at r2
              obtain ⟨a, rfl, hρ⟩ := ref_inv r2
              refine hi.run ρ2 Z σ H2 sl p2.2 p3.1 p3.2 R2 e3 _ fun w ρ3 H3 R3 x3 r3 => ?_
              rw [hk] at r3
              have hw : w = .int k := int_inv r3
              subst hw
              obtain ⟨us, v1, v2⟩ := R3.s.cells n _ a hx (x3.at hρ)
              obtain ⟨u0, w1, w2⟩ := atI_rep v2 hxk
              have := rep_int w2
              subst this
              refine ⟨a, us, k, _, rfl, rfl, .inl (.of v1), w1, ?_⟩
              refine ha.run ρ3 Z σ H3 sl p3.2 p.1 p.2 R3 e1 _ fun v ρ4 H4 R4 x4 r4 => ?_
              rw [hy] at r4
              have := rep_int r4.rep
              subst this
              obtain ⟨us', z1, z2⟩ := R4.s.cells n _ a hys (x4.at (x3.at hρ))
              have x5 : Ext ρ4 H4 ρ4 (upd H4 a (.lst (us'.set j (.int (x + y))))) := .set (x4.at (x3.at hρ))
              exact ⟨x, y, rfl, rfl, a, us', k, j, rfl, rfl, z1, by rw [← z2.length]; exact hj,
                q σ ρ4 _ (R4.set (x4.at (x3.at hρ)) ⟨us'.set j (.int (x + y)), upd_same, (x5.repL z2).set (.int _) j⟩) (((x2.trans x3).trans x4).trans x5).pre (((x2.trans x3).trans x4).trans x5).wo⟩
            · cases e
          · cases e
        · cases e
      · cases e
    · cases e
  · cases e⟩
theorem s_fldA {f : Str} (h : At K cls C k f) (ho : Snd K cls m to fo) (ha : Snd K cls false ta fa) (h9 : (nms C).length < 900) : SndS K cls (L2.sFldAug K to ta rAdd f) (sFldA C k fo fa) := ⟨fun ρ Z σ H sl st r R e D q => by
  obtain ⟨p2, e2, e⟩ := bind_some e
  split at e
  · rename_i n hn
    split at e
    · rename_i E0 vs hx
      split at e
      · rename_i hE
        subst hE
        split at e
        · rename_i x hxk
          obtain ⟨p, e1, e⟩ := bind_some e
          split at e
          · rename_i y hy
            split at e
            · rename_i E1 ws hws
              split at e
              · rename_i hc
                obtain ⟨hc1, hc2⟩ := hc
                subst hc1
                cases e
                refine ho.run ρ Z σ H sl st p2.1 p2.2 R e2 _ fun u ρ2 H2 R2 x2 r2 => ?_
                rw [hn] at r2
                obtain ⟨a, rfl, hρ⟩ := ref_inv r2
                obtain ⟨dx, us, w1, w2, w3⟩ := R2.s.cells n _ a hx hρ
                obtain ⟨u0, y1, y2⟩ := w3.get hxk
                have := rep_int y2
                subst this
                refine ⟨a, cls E1, dx, _, _, rfl, w1, h.cl, h.no, lookup_zip h.nd h.ix y1, ?_⟩
                refine ha.run ρ2 Z σ H2 sl p2.2 p.1 p.2 R2 e1 _ fun v ρ3 H3 R3 x3 r3 => ?_
                rw [hy] at r3
                have := rep_int r3.rep
                subst this
                obtain ⟨dx', us', z1, z2, z3⟩ := R3.s.cells n _ a hws (x3.at hρ)
                refine ⟨x, y, rfl, rfl, dx', _, z1, by rw [List.length_zip]; omega, ?_⟩
                have x4 : ∀ o, Ext ρ3 H3 ρ3 (upd H3 a o) := fun o => .set (x3.at hρ)
                rw [(putF_zip (v := .int (x + y)) (us := us') h.nd h.ix).1 (by rw [← z3.length]; exact hc2)]
                exact q σ ρ3 _ (R3.set (x3.at hρ) ⟨dx', us'.set k (.int (x + y)), upd_same, by rw [List.length_set]; exact z2, (x4 _).repL (z3.set (.int _) k)⟩) (x2.trans x3).pre (Ext.wo ((x2.trans x3).trans (x4 _)))
              · cases e
            · cases e
          · cases e
        · cases e
      · cases e
    · cases e
  · cases e⟩
end
theorem get_list {X : Cx} : PGet X (rIxL X.K) := by
  intro pins s σ H x y v u Q I rx ry h
  obtain ⟨p, xs, i, z, rfl, rfl, hq, he, q⟩ := h
  cases rx
  obtain ⟨t, rfl⟩ := ry
  obtain ⟨its, r, pl, hz⟩ := I.list hq
  obtain ⟨j, h1, h2, h3, h4, h5⟩ := atI_get he
  obtain ⟨w, ew, rw'⟩ := r.get h2
  have hl := r.length
  have hn := line63
  have fin : EP X pins σ Q w s := ⟨z, H, I, rw', q⟩
  by_cases h0 : 0 ≤ i
  · have hj : i.toNat = j := by
      rw [seqIndex_of h0 h5] at h1
      exact Option.some.inj h1
    exact wpAny_getItem_list pl.isList h0 (by omega) (by rw [hj]; simpa using ew) fin
  · have hj : (i + (its.toArray.size : Int)).toNat = j := by
      rw [seqIndex_neg (by omega) h4] at h1
      rw [List.size_toArray, ← hl]
      exact Option.some.inj h1
    exact wpAny_getItem_list_neg pl.isList (by omega) (by rw [List.size_toArray] <;> omega) (by omega) (by rw [hj]; simpa using ew) fin
section
variable {X : Cx} {K : PySem.W.Frag} [hK : KX X K] {cls : Nat → Addr} {m m' : Bool} {a b c e o i tg : Expr} {es : List Expr} {ta ti to te : TE} {fa fi fo fe : E} {pos p p' tpos : Pos} {C k : Nat} {nm : Str}
theorem ss_raise {s : Stmt} : SS X K cls s tNever sFail := ⟨ps_never, s_fail⟩
theorem ss_sub (ho : SE X K cls true o to fo) (hi : SE X K cls true i ti fi) (he : SE X K cls false e te fe)
    (ha : ∀ v, assign (.Subscript o i tpos) X.env v = (do
      let ov ← holding [v] (eval o X.env)
      let iv ← holding [v, ov] (eval i X.env)
      standAt tpos
      holding [v, ov, iv] (setItem ov iv v)
      release [v, ov, iv] []) := by intro _; rfl) (hs : swapsWithSole [.Subscript o i tpos] e pos.line X.env = pure false := by rfl) (hw : swappedStores [.Subscript o i tpos] e X.env = pure none := by rfl)
    (h1 : (assignEach [.Subscript o i tpos] X.env).map (·.2) = [assign (.Subscript o i tpos) X.env] := by rfl) :
    SS X K cls (.Assign [.Subscript o i tpos] e pos) (tAsg te (gSub to ti L2.rSetL)) (sSub fo fi fe) := ⟨ps_asg he.1 (pg_sub ho.1 hi.1 set_list ha) hs hw h1, s_sub ho.2 hi.2 he.2⟩
theorem ss_subA (ho : SE X K cls true o to fo) (hi : SE X K cls true i ti fi) (he : SE X K cls false e te fe)
    (ha : ∀ ov iv new, augStore i ov iv new = (do holding [new, ov, iv] (setItem ov iv new); release [new, ov, iv] []; pure .next) := by intros; rfl) :
    SS X K cls (.AugAssign (.Subscript o i tpos) .Add e pos) (tAugS to ti te (rIxL K) (ipI fun i j => i + j) L2.rSetL) (sSubA fo fi fe) := by obtain ⟨rfl⟩ := hK; exact ⟨ps_augS ho.1 hi.1 get_list he.1 ip_add set_list ha, s_subA ho.2 hi.2 he.2⟩
theorem ss_fldA (h : At K cls C k nm) (ho : SE X K cls true o to fo) (he : SE X K cls false e te fe) (h9 : (nms C).length < 900 := by decide) :
    SS X K cls (.AugAssign (.Attribute o nm tpos) .Add e pos) (L2.sFldAug K to te L2.rAdd nm) (sFldA C k fo fe) := by obtain ⟨rfl⟩ := hK; exact ⟨ps_fldaug ho.1 he.1 in_add, s_fldA h ho.2 he.2 h9⟩
theorem sg_unl {is : List Nat} {kk n : Nat} {ts : TGs} {fs : Gs} (h : SGs X K cls is es ts fs) (hc : X.calm = true := by rfl) (hn : (assignEach es X.env).length = n := by rfl) (hst : (assignEach es X.env).findIdx? (·.1) = none := by rfl) :
    SG X K cls is (.Tuple es kk pos) (L2.gUnl K n ts) (gUnl n fs) := by obtain ⟨rfl⟩ := hK; exact ⟨pg_unl hc h.1 hn hst, snd_unl h.2⟩
/-- a list, a tuple of the module -/
theorem se_gt {x : Str} {v : Val} {mg : Str → Option Value} (hm : ∃ a, mg x = some (.ref a) ∧ ∀ (ρ : List Addr) (A : Addr → Prop) (H : Hp), Rep K ρ A H v (.ref a)) (hmg : X.mg = mg := by rfl) (hg : Gl X x := by rfl) (hd : (x == ("__debug__" : Str)) = false := by decide) : SE X K cls m (.Name x pos) (tC (.ref hm.choose)) (eC v) :=
  ⟨pe_glob hg (hmg ▸ hm.choose_spec.1) rfl hd, snd_c hm.choose_spec.2⟩
end
end Mi

set_option Elab.async false
set_option linter.all false
set_option maxRecDepth 100000
set_option maxHeartbeats 1000000
/-! Mi: dicts that are places of the store, keys numbers and texts. -/
namespace Mi
open PySem PySem.Spec PyProof.Rows L2
variable [Gam]

def keyOf : Val → Option Key
  | .int i => some (.inl i)
  | .str s => some (.inr s)
  | _ => none
def valD (kvs : List (Key × Val)) (k : Key) : Option Val := (kvs.find? fun kv => decide (kv.1 = k)).map (·.2)
def putD (kvs : List (Key × Val)) (k : Key) (v : Val) : List (Key × Val) :=
  if (kvs.any fun kv => decide (kv.1 = k)) = true then kvs.map (fun kv => if kv.1 = k then (kv.1, v) else kv) else kvs ++ [(k, v)]
def dictAt (st : Sto) : Val → Option (List (Key × Val))
  | .ref n => match st[n]? with
    | some (.dk kvs) => some kvs
    | _ => none
  | _ => none
/-- {} -/
def eDN : E := fun _ st => some (.ref st.length, st ++ [.dk []])
/-- {k: v, ..} with texts as keys -/
def eDsp (ks : List Str) (l : L) : E := fun sl st => (l sl (st ++ [.dk []])).bind fun p => match p.2[st.length]? with
  | some (.dk []) => some (.ref st.length, p.2.set st.length (.dk ((ks.map Sum.inr).zip p.1)))
  | _ => none
def oDGet : Sto → Val → Val → Option Val := fun st x y => (dictAt st x).bind fun kvs => (keyOf y).bind fun k => valD kvs k
/-- d.get(i, e) -/
def eDGet2 (o i e : E) : E := fun sl st => (o sl st).bind fun p => (dictAt p.2 p.1).bind fun _ => (i sl p.2).bind fun q => (e sl q.2).bind fun r =>
  (dictAt r.2 p.1).bind fun kvs => (keyOf q.1).bind fun k => some ((valD kvs k).getD r.1, r.2)
/-- d[i] = e -/
def sDSet (o i e : E) : S := fun sl st => (e sl st).bind fun p => (o sl p.2).bind fun q => (i sl q.2).bind fun r => match q.1 with
  | .ref n => match r.2[n]? with
    | some (.dk kvs) => (keyOf r.1).bind fun k => if kvs.length < 1000 then some (.nx, sl, r.2.set n (.dk (putD kvs k p.1))) else none
    | _ => none
  | _ => none

/-- a, b, c = .. -/
def sPar3 (i j l : Nat) (a b c : E) : S := fun sl st => (a sl st).bind fun p => (b sl p.2).bind fun q => (c sl q.2).bind fun r => if i < sl.length ∧ j < sl.length ∧ l < sl.length then some (.nx, ((sl.set i (.val p.1)).set j (.val q.1)).set l (.val r.1), r.2) else none
section
variable {K : PySem.W.Frag} {cls : Nat → Addr} {ρ ρ' : List Addr} {A : Addr → Prop} {Z : Addr → Prop} {σ : L2.St} {H H' : Hp} {sl : Sl} {st st' : Sto} {m m' : Bool} {x y : Val} {u v : V}
theorem valD_pos {p : Key × Val} {r : List (Key × Val)} {k : Key} (e : p.1 = k) : valD (p :: r) k = some p.2 := by simp [valD, List.find?_cons, e]
theorem valD_neg {p : Key × Val} {r : List (Key × Val)} {k : Key} (e : ¬ p.1 = k) : valD (p :: r) k = valD r k := by simp [valD, List.find?_cons, e]
theorem kv_get : ∀ {kvs : List (Key × Val)} {kvu : List (Key × V)}, kvu.map (·.1) = kvs.map (·.1) → RepL K ρ A H (kvs.map (·.2)) (kvu.map (·.2)) → ∀ k, (valD kvs k = none ∧ valV kvu k = none) ∨ ∃ v u, valD kvs k = some v ∧ valV kvu k = some u ∧ Rep K ρ A H v u
  | [], [], _, _, k => .inl ⟨rfl, rfl⟩
  | [], _ :: _, e, _, _ => by cases e
  | _ :: _, [], e, _, _ => by cases e
  | p :: r, q :: s, e, h, k => by
    rw [List.map_cons, List.map_cons] at e h
    injection e with e1 e2
    cases h with
    | cons h1 h2 =>
      by_cases hk : p.1 = k
      · exact .inr ⟨p.2, q.2, valD_pos hk, valV_pos (e1.trans hk), h1⟩
      · rw [valD_neg hk, valV_neg (fun z => hk (e1.symm.trans z))]
        exact kv_get e2 h2 k
theorem kv_map {k : Key} (r0 : Rep K ρ A H x u) : ∀ {kvs : List (Key × Val)} {kvu : List (Key × V)}, kvu.map (·.1) = kvs.map (·.1) → RepL K ρ A H (kvs.map (·.2)) (kvu.map (·.2)) →
    (kvu.map fun kv => if kv.1 = k then (kv.1, u) else kv).map (·.1) = (kvs.map fun kv => if kv.1 = k then (kv.1, x) else kv).map (·.1) ∧ RepL K ρ A H ((kvs.map fun kv => if kv.1 = k then (kv.1, x) else kv).map (·.2)) ((kvu.map fun kv => if kv.1 = k then (kv.1, u) else kv).map (·.2))
  | [], [], _, _ => ⟨rfl, .nil⟩
  | [], _ :: _, e, _ => by cases e
  | _ :: _, [], e, _ => by cases e
  | p :: r, q :: s, e, h => by
    rw [List.map_cons, List.map_cons] at e h
    injection e with e1 e2
    cases h with
    | cons h1 h2 =>
      obtain ⟨i1, i2⟩ := kv_map r0 e2 h2
      simp only [List.map_cons]
      rw [i1]
      by_cases hk : p.1 = k
      · rw [if_pos hk, if_pos (e1.trans hk)]
        exact ⟨by rw [e1], .cons r0 i2⟩
      · rw [if_neg hk, if_neg (fun z => hk (e1.symm.trans z))]
        exact ⟨by rw [e1], .cons h1 i2⟩
theorem any_fst {α : Type} {k : Key} (kvs : List (Key × α)) : (kvs.any fun kv => decide (kv.1 = k)) = (kvs.map (·.1)).any fun j => decide (j = k) := by rw [List.any_map]; rfl
theorem kv_put {kvs : List (Key × Val)} {kvu : List (Key × V)} (k : Key) (r0 : Rep K ρ A H x u) (e : kvu.map (·.1) = kvs.map (·.1)) (h : RepL K ρ A H (kvs.map (·.2)) (kvu.map (·.2))) :
    (putK kvu k u).map (·.1) = (putD kvs k x).map (·.1) ∧ RepL K ρ A H ((putD kvs k x).map (·.2)) ((putK kvu k u).map (·.2)) := by
  unfold putK putD
  rw [any_fst kvu, any_fst kvs, e]
  split
  · exact kv_map r0 e h
  · rw [List.map_append, List.map_append, List.map_append, List.map_append, e]
    exact ⟨rfl, h.append (.cons r0 .nil)⟩
theorem keyOf_rep {k : Key} (h : keyOf x = some k) (r : RepM K m ρ Z σ H sl x u) : u = kV k := by
  cases x <;> first | cases h | skip
  · exact int_inv r
  · rcases r with r | ⟨_, _, _, _, z, _⟩
    · cases r; rfl
    · cases z
theorem dictAt_ref {kvs : List (Key × Val)} (h : dictAt st x = some kvs) : ∃ n, x = .ref n ∧ st[n]? = some (.dk kvs) := by
  cases x <;> first | cases h | skip
  rename_i n
  have h' : (match st[n]? with
    | some (.dk kvs) => some kvs
    | _ => none) = some kvs := h
  split at h'
  · rename_i hx
    cases h'
    exact ⟨n, rfl, hx⟩
  · cases h'
section
variable {to ti te : TE} {fo fi fe : E}
theorem snd_dn : Snd K cls m tDNewK eDN := ⟨fun ρ Z σ H sl st d st' R e Q q => by
  cases e
  intro p hp
  refine q _ (ρ ++ [p]) _ (R.push hp ⟨[], upd_same, rfl, .nil⟩) (.push hp) (.of (.ref ?_))
  rw [← R.s.len, List.getElem?_append_right (Nat.le_refl _), Nat.sub_self] <;> rfl⟩
theorem snd_dget (ho : Snd K cls m' to fo) (hi : Snd K cls true ti fi) : Snd K cls m (tDGet to ti) (e2 oDGet fo fi) := ⟨fun ρ Z σ H sl st d st' R e Q q => by
  obtain ⟨p, e1, e⟩ := bind_some e
  obtain ⟨p2, e2, e⟩ := bind_some e
  obtain ⟨z, e3, e⟩ := bind_some e
  cases e
  obtain ⟨kvs, h1, h2⟩ := bind_some e3
  obtain ⟨k, h3, h4⟩ := bind_some h2
  obtain ⟨n, hx, hc⟩ := dictAt_ref h1
  refine ho.run ρ Z σ H sl st p.1 p.2 R e1 _ fun u ρ1 H1 R1 x1 r1 => ?_
  rw [hx] at r1
  obtain ⟨a, rfl, hρ⟩ := ref_inv r1
  refine hi.run ρ1 Z σ H1 sl p.2 p2.1 p2.2 R1 e2 _ fun w ρ2 H2 R2 x2 r2 => ?_
  have := keyOf_rep h3 r2
  subst this
  obtain ⟨kvu, w1, w2, w3⟩ := R2.s.cells n _ a hc (x2.at hρ)
  rcases kv_get w2 w3 k with ⟨z1, z2⟩ | ⟨v', u', z1, z2, z3⟩
  · rw [h4] at z1; cases z1
  · rw [h4] at z1
    cases z1
    exact ⟨a, u', rfl, z2 ▸ DGet.k w1, q _ ρ2 _ R2 (x1.trans x2) (.of z3)⟩⟩
theorem snd_dget2 (ho : Snd K cls m' to fo) (hi : Snd K cls true ti fi) (he : Snd K cls false te fe) : Snd K cls m (tDGet2 to ti te) (eDGet2 fo fi fe) := ⟨fun ρ Z σ H sl st d st' R e Q q => by
  obtain ⟨p, e1, e⟩ := bind_some e
  obtain ⟨kv0, h0, e⟩ := bind_some e
  obtain ⟨p2, e2, e⟩ := bind_some e
  obtain ⟨p3, e3, e⟩ := bind_some e
  obtain ⟨kvs, h1, e⟩ := bind_some e
  obtain ⟨k, h3, e⟩ := bind_some e
  cases e
  obtain ⟨n, hx, hc0⟩ := dictAt_ref h0
  obtain ⟨n', hx', hc⟩ := dictAt_ref h1
  rw [hx] at hx'
  cases hx'
  refine ho.run ρ Z σ H sl st p.1 p.2 R e1 _ fun u ρ1 H1 R1 x1 r1 => ?_
  rw [hx] at r1
  obtain ⟨a, rfl, hρ⟩ := ref_inv r1
  obtain ⟨kv1, y1, _, _⟩ := R1.s.cells n _ a hc0 hρ
  refine ⟨a, rfl, .inl ⟨kv1, .inl y1⟩, ?_⟩
  refine hi.run ρ1 Z σ H1 sl p.2 p2.1 p2.2 R1 e2 _ fun w ρ2 H2 R2 x2 r2 => ?_
  have := keyOf_rep h3 r2
  subst this
  refine he.run ρ2 Z σ H2 sl p2.2 p3.1 p3.2 R2 e3 _ fun w ρ3 H3 R3 x3 r3 => ?_
  obtain ⟨kvu, w1, w2, w3⟩ := R3.s.cells n _ a hc (x3.at (x2.at hρ))
  refine ⟨_, DGet.k w1, ?_⟩
  rcases kv_get w2 w3 k with ⟨z1, z2⟩ | ⟨v', u', z1, z2, z3⟩
  · rw [z2]
    refine q _ ρ3 _ R3 ((x1.trans x2).trans x3) (.of ?_)
    rw [z1]
    exact r3.rep
  · rw [z2]
    refine q _ ρ3 _ R3 ((x1.trans x2).trans x3) (.of ?_)
    rw [z1]
    exact z3⟩
theorem s_dset (ho : Snd K cls m to fo) (hi : Snd K cls true ti fi) (he : Snd K cls false te fe) : SndS K cls (sDPut to ti te) (sDSet fo fi fe) := ⟨fun ρ Z σ H sl st r R e D q => by
  obtain ⟨p, e1, e⟩ := bind_some e
  obtain ⟨p2, e2, e⟩ := bind_some e
  obtain ⟨p3, e3, e⟩ := bind_some e
  split at e
  · rename_i n hn
    split at e
    · rename_i kvs hx
      obtain ⟨k, h3, e⟩ := bind_some e
      split at e
      · rename_i hlen
        cases e
        refine he.run ρ Z σ H sl st p.1 p.2 R e1 _ fun v ρ1 H1 R1 x1 r1 => ?_
        refine ho.run ρ1 Z σ H1 sl p.2 p2.1 p2.2 R1 e2 _ fun u ρ2 H2 R2 x2 r2 => ?_
        rw [hn] at r2
        obtain ⟨a, rfl, hρ⟩ := ref_inv r2
        refine hi.run ρ2 Z σ H2 sl p2.2 p3.1 p3.2 R2 e3 _ fun w ρ3 H3 R3 x3 r3 => ?_
        have := keyOf_rep h3 r3
        subst this
        obtain ⟨kvu, w1, w2, w3⟩ := R3.s.cells n _ a hx (x3.at hρ)
        have hl : kvu.length = kvs.length := by simpa using congrArg List.length w2
        have x4 : Ext ρ3 H3 ρ3 (upd H3 a (.dK (putK kvu k v))) := .set (x3.at hρ)
        obtain ⟨y1, y2⟩ := kv_put k (x4.rep ((r1.ext x2).ext x3).rep) w2 (x4.repL w3)
        refine ⟨a, _, rfl, DPut.k w1 (by rw [hl]; exact Nat.lt_trans hlen (by rw [sizeLine_eq]; decide)), ?_⟩
        exact q σ ρ3 _ (R3.set (x3.at hρ) ⟨putK kvu k v, upd_same, y1, y2⟩) (((x1.trans x2).trans x3).trans x4).pre (((x1.trans x2).trans x3).trans x4).wo
      · cases e
    · cases e
  · cases e⟩
end
theorem s_par3 {i j l : Nat} {ta tb tc : TE} {fa fb fc : E} (ha : Snd K cls false ta fa) (hb : Snd K cls false tb fb) (hc : Snd K cls false tc fc) : SndS K cls (tPar3 i j l (tCons ta (tCons tb (tCons tc tNil)))) (sPar3 i j l fa fb fc) := ⟨fun ρ Z σ H sl st r R e D q => by
  obtain ⟨p, e1, e⟩ := bind_some e
  obtain ⟨p2, e2, e⟩ := bind_some e
  obtain ⟨p3, e3, e⟩ := bind_some e
  split at e
  · rename_i hl
    cases e
    refine ha.run ρ Z σ H sl st p.1 p.2 R e1 _ fun u ρ1 H1 R1 x1 r1 => ?_
    refine hb.run ρ1 Z σ H1 sl p.2 p2.1 p2.2 R1 e2 _ fun v ρ2 H2 R2 x2 r2 => ?_
    refine hc.run ρ2 Z σ H2 sl p2.2 p3.1 p3.2 R2 e3 _ fun w ρ3 H3 R3 x3 r3 => ⟨u, v, w, rfl, ?_⟩
    have Q1 := R3.setVal ((r1.ext x2).ext x3).rep hl.1
    have le : ∀ a, AR ρ3 (ZO Z (sl.set i (.val p.1)) (σ.set i (some u))) a → AR ρ3 (ZO Z sl σ) a := fun a h => h.imp id fun z => z.imp id own_set
    have Q2 := Q1.setVal ((r2.ext x3).rep.mono (Fr.less le) List.prefix_rfl) (i := j) (by rw [List.length_set]; exact hl.2.1)
    have le2 : ∀ a, AR ρ3 (ZO Z ((sl.set i (.val p.1)).set j (.val p2.1)) ((σ.set i (some u)).set j (some v))) a → AR ρ3 (ZO Z sl σ) a := fun a h => h.imp id fun z => z.imp id fun z => own_set (own_set z)
    have Q3 := Q2.setVal (r3.rep.mono (Fr.less le2) List.prefix_rfl) (i := l) (by rw [List.length_set, List.length_set]; exact hl.2.2)
    exact q _ ρ3 H3 Q3 ((x1.trans x2).trans x3).pre (((x1.trans x2).trans x3).wo.trans ⟨fun _ _ _ h => h, fun a h => .inl (h.imp id fun z => own_set (own_set (own_set z)))⟩)
  · cases e⟩
/-! displays -/
structure SndD (K : PySem.W.Frag) (cls : Nat → Addr) (trs : List (TE × TE)) (ks : List Str) (f : L) : Prop where
  run : ∀ (ρ : List Addr) (Z : Addr → Prop) (σ : L2.St) (H : Hp) (sl : Sl) (st : Sto) (ds : List Val) (st' : Sto), Rel K cls ρ Z σ H sl st → f sl st = some (ds, st') → ∀ Q : List (V × V) → Hp → Prop,
    (∀ us ρ' H', Rel K cls ρ' Z σ H' sl st' → Ext ρ H ρ' H' → RepL K ρ' (AR ρ' (ZO Z sl σ)) H' ds us → ks.length = us.length → Q ((ks.zip us).map fun p => (V.str p.1, p.2)) H') → tPairs trs σ H Q
theorem sndD_n : SndD K cls [] [] aNil := ⟨fun ρ Z σ H sl st d st' R e Q q => by
  cases e
  exact q [] ρ H R .refl .nil rfl⟩
theorem sndD_c {te : TE} {fe : E} {f : L} {trs : List (TE × TE)} {k : Str} {ks : List Str} (he : Snd K cls false te fe) (hr : SndD K cls trs ks f) : SndD K cls ((tC (.str k), te) :: trs) (k :: ks) (aCons fe f) := ⟨fun ρ Z σ H sl st d st' R e Q q => by
  obtain ⟨p, e1, e⟩ := bind_some e
  obtain ⟨p2, e2, e⟩ := bind_some e
  cases e
  refine he.run ρ Z σ H sl st p.1 p.2 R e1 _ fun u ρ1 H1 R1 x1 r1 => ?_
  refine hr.run ρ1 Z σ H1 sl p.2 p2.1 p2.2 R1 e2 _ fun us ρ2 H2 R2 x2 r2 hl => ?_
  exact q (u :: us) ρ2 H2 R2 (x1.trans x2) (.cons (x2.rep r1.rep) r2) (by simp [hl])⟩
theorem mergeK_nd : ∀ {more kvs : List (Key × V)}, ((kvs ++ more).map (·.1)).Nodup → mergeK kvs more = kvs ++ more
  | [], kvs, _ => (List.append_nil kvs).symm
  | p :: r, kvs, h => by
    have hn : valV kvs p.1 = none := by
      cases e : valV kvs p.1 with
      | none => rfl
      | some w =>
        have := valV_in e
        rw [List.map_append, List.map_cons] at h
        exact absurd rfl ((List.nodup_append.mp h).2.2 _ this _ (List.mem_cons_self ..))
    have h2 : ((kvs ++ [(p.1, p.2)]) ++ r) = kvs ++ p :: r := by simp
    show mergeK (putK kvs p.1 p.2) r = _
    rw [putK_new _ hn, mergeK_nd (by rw [h2]; exact h), h2]
theorem zip_fst {ks : List Str} {us : List V} (h : ks.length = us.length) : (((ks.map Sum.inr : List Key).zip us).map (·.1)) = ks.map Sum.inr := by
  rw [List.map_fst_zip (by rw [List.length_map]; omega)]
theorem snd_dsp {trs : List (TE × TE)} {ks : List Str} {f : L} (h : SndD K cls trs ks f) (hnd : (ks.map Sum.inr : List Key).Nodup) (h15 : ks.length ≤ 15) : Snd K cls m (tDisp trs) (eDsp ks f) := ⟨fun ρ Z σ H sl st d st' R e Q q => by
  obtain ⟨p, e1, e⟩ := bind_some e
  split at e
  · rename_i hx
    cases e
    intro a ha
    have R1 : Rel K cls (ρ ++ [a]) Z σ (upd H a (.dK [])) sl (st ++ [.dk []]) := R.push ha ⟨[], upd_same, rfl, .nil⟩
    refine h.run _ Z σ _ sl _ p.1 p.2 R1 e1 _ fun us ρ2 H2 R2 x2 r2 hl => ?_
    have hρ : (ρ ++ [a])[st.length]? = some a := by rw [← R.s.len, List.getElem?_append_right (Nat.le_refl _), Nat.sub_self] <;> rfl
    obtain ⟨kvu, w1, w2, w3⟩ := R2.s.cells _ _ a hx (x2.at hρ)
    have : kvu = [] := List.map_eq_nil_iff.mp w2
    subst this
    refine ⟨w1, (ks.map Sum.inr).zip us, ?_, by rw [List.length_zip, List.length_map]; omega, ?_⟩
    · rw [List.zip_map_left, List.map_map]; rfl
    · rw [mergeK_nd (by rw [List.nil_append, zip_fst hl]; exact hnd), List.nil_append]
      have x3 : Ext ρ2 H2 ρ2 (upd H2 a (.dK ((ks.map Sum.inr).zip us))) := .set (x2.at hρ)
      have hl2 := r2.length
      refine q _ ρ2 _ (R2.set (x2.at hρ) ⟨_, upd_same, ?_, ?_⟩) (((Ext.push ha).trans x2).trans x3) (.of (.ref (x2.at hρ)))
      · rw [zip_fst hl, List.map_fst_zip (by rw [List.length_map]; omega)]
      · rw [List.map_snd_zip (by rw [List.length_map]; omega), List.map_snd_zip (by rw [List.length_map]; omega)]
        exact x3.repL r2
  · cases e⟩
end
section
variable {X : Cx} {K : PySem.W.Frag} [hK : KX X K] {cls : Nat → Addr} {m m' : Bool} {a b c e o i tg : Expr} {es : List Expr} {ta ti to te : TE} {fa fi fo fe : E} {pos p p' tpos apos cpos : Pos} {C k : Nat} {nm : Str}
theorem hu1 {k : Nat} {A : Around} (r : Room k A) : A.units + 1 < cLine := by have := hu65 r; omega
theorem se_dn : SE X K cls m (.Dict [] [] pos) tDNewK eDN := ⟨pe_dnewK, snd_dn⟩
theorem se_dget (ho : SE X K cls true o to fo) (hi : SE X K cls true i ti fi) (hu : X.A.units + 1 < cLine) (hs : NoSl i := by exact fun _ _ => rfl) : SE X K cls m (.Subscript o i pos) (tDGet to ti) (e2 oDGet fo fi) := ⟨pe_dget hu ho.1 hi.1 hs, snd_dget ho.2 hi.2⟩
theorem se_dget2 (ho : SE X K cls true o to fo) (hi : SE X K cls true i ti fi) (he : SE X K cls false e te fe) (hu : X.A.units + 1 < cLine) (hm : M2 X o "get" apos i e cpos := by exact ⟨rfl, rfl, rfl, rfl⟩) :
    SE X K cls m (.Call (.Attribute o "get" apos) [i, e] [] cpos) (tDGet2 to ti te) (eDGet2 fo fi fe) := ⟨pe_dget2 hu ho.1 hi.1 he.1 hm, snd_dget2 ho.2 hi.2 he.2⟩
theorem ss_dset (ho : SE X K cls true o to fo) (hi : SE X K cls true i ti fi) (he : SE X K cls false e te fe) (hu : X.A.units + 1 < cLine) (hs : swapsWith e (some (.Subscript o i p')) pos.line X.env = pure false := by rfl) :
    SS X K cls (.Assign [.Subscript o i p'] e pos) (sDPut to ti te) (sDSet fo fi fe) := ⟨ps_dput hu ho.1 hi.1 he.1 hs, s_dset ho.2 hi.2 he.2⟩
theorem ss_par3 {tb tc : TE} {fb fc : E} (i j l : Nat) {x y z : Str} {px py pz pt : Pos} {kt k2 pt2} (hN : X.N.Nodup) (ha : SE X K cls false a ta fa) (hb : SE X K cls false b tb fb) (hcc : SE X K cls false c tc fc) (hi : X.N[i]? = some x := by rfl) (hj : X.N[j]? = some y := by rfl) (hl : X.N[l]? = some z := by rfl) (hij : i ≠ j := by decide) (hil : i ≠ l := by decide) (hjl : j ≠ l := by decide)
    (hx : X.env.scope.names.lookup x = some .local := by rfl) (hy : X.env.scope.names.lookup y = some .local := by rfl) (hz : X.env.scope.names.lookup z = some .local := by rfl) (hc : X.calm = true := by rfl)
    (h1 : starEach [a, b, c] X.env = (false, eval a X.env) :: starEach [b, c] X.env := by rfl) (h2 : starEach [b, c] X.env = (false, eval b X.env) :: starEach [c] X.env := by rfl) (h3 : starEach [c] X.env = (false, eval c X.env) :: starEach [] X.env := by rfl)
    (hw : swappedStores [.Tuple [.Name x px, .Name y py, .Name z pz] kt pt] (.Tuple [a, b, c] k2 pt2) X.env = pure (some [x, y, z]) := by rfl)
    (hs : swapsWithSole [.Tuple [.Name x px, .Name y py, .Name z pz] kt pt] (.Tuple [a, b, c] k2 pt2) pos.line X.env = pure false := by rfl) :
    SS X K cls (.Assign [.Tuple [.Name x px, .Name y py, .Name z pz] kt pt] (.Tuple [a, b, c] k2 pt2) pos) (tPar3 i j l (tCons ta (tCons tb (tCons tc tNil)))) (sPar3 i j l fa fb fc) :=
  by obtain ⟨rfl⟩ := hK; exact ⟨ps_par3 hc hN hi hj hl hij hil hjl hx hy hz (pa_cons ha.1 (pa_cons hb.1 (pa_cons hcc.1 pa_nil h3) h2) h1) hw hs, s_par3 ha.2 hb.2 hcc.2⟩
abbrev SDP (X : Cx) (K : PySem.W.Frag) (cls : Nat → Addr) (pos : Pos) (keys : List (Option Expr)) (values : List Expr) (trs : List (TE × TE)) (ks : List Str) (f : L) : Prop := PPs X pos keys values trs ∧ SndD K cls trs ks f
theorem sdp_n : SDP X K cls pos [] [] [] [] aNil := ⟨pps_nil, sndD_n⟩
theorem sdp_c {x : Str} {j : Nat} {keys : List (Option Expr)} {trs : List (TE × TE)} {ks : List Str} {f : L} (he : SE X K cls false e te fe) (hr : SDP X K cls pos keys es trs ks f) : SDP X K cls pos (some (.Constant (.str x) j p) :: keys) (e :: es) ((tC (.str x), te) :: trs) (x :: ks) (aCons fe f) :=
  ⟨pps_cons pe_str he.1 hr.1, sndD_c he.2 hr.2⟩
theorem se_dsp {keys : List (Option Expr)} {trs : List (TE × TE)} {ks : List Str} {f : L} (h : SDP X K cls pos keys es trs ks f) (hall : keys.all (·.isSome) = true := by rfl) (hl : keys.length = es.length := by rfl) (h0 : keys ≠ [] := by exact List.cons_ne_nil _ _) (h15 : keys.length ≤ 15 := by decide) (hnd : (ks.map Sum.inr : List Key).Nodup := by decide) (hk : ks.length ≤ 15 := by decide) :
    SE X K cls m (.Dict keys es pos) (tDisp trs) (eDsp ks f) := ⟨pe_disp h.1 hall hl h0 h15, snd_dsp h.2 hnd hk⟩
end
end Mi

set_option Elab.async false
set_option linter.all false
set_option maxRecDepth 100000
set_option maxHeartbeats 1000000
/-! Mi: isinstance of one's own classes, C() without an __init__, a dict of the module that maps texts to numbers. -/
namespace Mi
open PySem PySem.Spec PyProof.Rows L2
variable [Gam]

/-- whether an instance of the class j is one of k (7: above all answers) -/
def subC (j k : Nat) : Bool := j == k || k == 7
def oIsc (js : List Nat) (k : Nat) : Sto → Val → Option Val
  | st, .ref n => match st[n]? with
    | some (.ins j _) => if j ∈ js then some (.bl (subC j k)) else none
    | _ => none
  | _, _ => none
def eNew0 (C : Nat) : E := fun _ st => some (.ref st.length, st ++ [.ins C []])
/-- x not in D, D[x]: x a key of D -/
def oKnin (tab : List (Str × Int)) : Sto → Val → Option Val
  | _, .str z => (tab.lookup z).map fun _ => .bl false
  | _, _ => none
def oKix (tab : List (Str × Int)) : Sto → Val → Option Val
  | _, .str z => (tab.lookup z).map .int
  | _, _ => none
theorem kit_self {K : PySem.W.Frag} {C : Addr} : PySem.W.kitOne K (.ref C) (.ref C) = some true := by
  unfold PySem.W.kitOne
  exact if_pos (beq_self_eq_true _)
theorem kit_own {K : PySem.W.Frag} {B C : Addr} {b : Bool} (hn : (B == C) = false) (hc : ∃ x, PySem.W.clsIn K C = some x) (ht : PySem.W.typeIn K (.ref C) = some (.type "type")) (hs : PySem.W.subIn K (.ref B) (.ref C) = some b) : PySem.W.kitOne K (.ref B) (.ref C) = some b := by
  unfold PySem.W.kitOne
  have e : (Value.ref B == Value.ref C) = false := beq_eq_false_iff_ne.mpr fun z => by cases z; rw [beq_self_eq_true] at hn; cases hn
  rw [e, if_neg (by decide)]
  unfold PySem.W.kitCls
  obtain ⟨x, hc⟩ := hc
  show (if ((PySem.W.clsIn K C).isSome && PySem.W.typeIn K (.ref C) == some (.type "type")) = true then PySem.W.subIn K (.ref B) (.ref C) else none) = _
  rw [hc, ht]
  exact (if_pos (by simp)).trans hs
/-- the facts of classes -/
structure IsC (K : PySem.W.Frag) (mg : Str → Option Value) (cls : Nat → Addr) (nm : Str) (js : List Nat) (k : Nat) : Prop where
  hm : mg nm = some (.ref (cls k))
  ty : ∀ j ∈ js, PySem.W.kitOne K (.ref (cls j)) (.ref (cls k)) = some (subC j k)
structure InsT (K : PySem.W.Frag) (cls : Nat → Addr) (js : List Nat) : Prop where
  ty : ∀ j ∈ js, Cls K (cls j) ∧ PySem.W.findIn K (.ref (cls j)) "__class__" = some (some (.builtin "object.__class__")) ∧ PySem.W.mroIn K (cls j) (.type "object") = some true
  hn : PySem.W.specialIn K (.builtin "object.__class__") "__get__" = some (some (.builtin "getset_descriptor.__get__"))
  htk : PySem.W.takesIn K (.builtin "object.__class__") = some true
structure Mk0 (K : PySem.W.Frag) (mg : Str → Option Value) (nm : Str) (C : Addr) : Prop where
  hm : mg nm = some (.ref C)
  makes : PySem.W.makesIn K C = true
  init : PySem.W.findIn K (.ref C) "__init__" = some (some (.builtin "object.__init__"))
  kp : PySem.W.keepIn K (.ref C) = true
structure KTab (K : PySem.W.Frag) (w : World) (mg : Str → Option Value) (nm : Str) (tab : List (Str × Int)) : Prop where
  ex : ∃ d es n, mg nm = some (.ref d) ∧ KDict K w d es n ∧ ∀ z i, (z, i) ∈ tab → ∃ t, PySem.W.nsIn K d z = some (some (.int i t))

section
variable {K : PySem.W.Frag} {cls : Nat → Addr} {ρ ρ' : List Addr} {Z : Addr → Prop} {σ : L2.St} {H H' : Hp} {sl : Sl} {st st' : Sto} {m m' : Bool} {x y : Val} {u v : V} {ta : TE} {fa : E} {js : List Nat} {C k : Nat}
theorem ops_isc {mg : Str → Option Value} {nm : Str} (I : InsT K cls js) (h : IsC K mg cls nm js k) : Op1S K cls (oIsc js k) (fun u => fun H Q => rIsi K [u, .ref (cls k)] H Q) := by
  intro ρ Z σ H sl st x z u R h1 e Q q
  cases x <;> first | cases e | skip
  rename_i n
  have e' : (match st[n]? with
    | some (.ins j _) => if j ∈ js then some (Val.bl (subC j k)) else none
    | _ => none) = some z := e
  split at e'
  · rename_i j vs hx
    split at e'
    · rename_i hj
      cases e'
      obtain ⟨a, rfl, hρ⟩ := ref_inv h1
      obtain ⟨dx, us, w1, _⟩ := R.s.cells n _ a hx hρ
      obtain ⟨c1, c2, c3⟩ := I.ty j hj
      exact ⟨_, _, _, _, _, rfl, .own _, .base (.ins w1 c1 c2 I.hn I.htk c3), h.ty j hj, q _ H R .refl (.bl _)⟩
    · cases e'
  · cases e'
theorem snd_isc {mg : Str → Option Value} {nm : Str} (I : InsT K cls js) (h : IsC K mg cls nm js k) (ha : Snd K cls m' ta fa) : Snd K cls m (tCB (rIsi K) (tCons ta (tCons (tC (.ref (cls k))) tNil))) (e1 (oIsc js k) fa) := snd_e1 (r := fun u => fun H Q => rIsi K [u, .ref (cls k)] H Q) (ops_isc I h) ha
def tMk0 (C : Addr) : TE := fun _ H Q => ∀ x dx, H x = none → H dx = none → dx ≠ x → Q (.ref x) (upd (upd H dx (.own x)) x (.ins C dx []))
theorem snd_new0 : Snd K cls m (tMk0 (cls C)) (eNew0 C) := ⟨fun ρ Z σ H sl st d st' R e Q q => by
  cases e
  intro x dx hx hdx hne
  have R2 := R.new (o := .own x) hdx
  have hx2 : upd H dx (.own x) x = none := by rw [upd_ne hne.symm]; exact hx
  have R3 : Rel K cls (ρ ++ [x]) Z σ (upd (upd H dx (.own x)) x (.ins (cls C) dx [])) sl (st ++ [.ins C []]) := R2.push hx2 ⟨dx, [], by rw [upd_same, List.zip_nil_right], Nat.zero_le _, .nil⟩
  refine q _ (ρ ++ [x]) _ R3 ((Ext.new hdx).trans (.push hx2)) (.of (.ref ?_))
  rw [← R.s.len, List.getElem?_append_right (Nat.le_refl _), Nat.sub_self] <;> rfl⟩
theorem lookup_mem {z : Str} {i : Int} : ∀ {tab : List (Str × Int)}, tab.lookup z = some i → (z, i) ∈ tab
  | [], h => by cases h
  | (y, j) :: r, h => by
    by_cases e : z = y
    · subst e
      simp at h
      subst h
      exact List.mem_cons_self ..
    · have hb : (z == y) = false := beq_eq_false_iff_ne.mpr e
      simp only [List.lookup, hb] at h
      exact List.mem_cons_of_mem _ (lookup_mem h)
end
section
variable {P : Program} {w : World} {A : Around} {C y : Addr}
open PySem.W in
theorem run_mk0 {X : Cx} {pins : List (Addr × Obj)} {σ : L2.St} {H : Hp} {s : Shared} {Q : VK} (hm : PySem.W.makesIn X.K C = true) (hi : PySem.W.findIn X.K (.ref C) "__init__" = some (some (.builtin "object.__init__"))) (I : Inv X pins σ H s)
    (h : ∀ x dx, H x = none → H dx = none → dx ≠ x → Q (.ref x) (upd (upd H dx (.own x)) x (.ins C dx []))) : wpAny (model X.prog X.w) X.A (call (.ref C) []) (EP X pins σ Q) X.xe s := by
  have hq := h (s.heap.objs.size + 1) s.heap.objs.size (I.hok.fresh (Nat.le_succ _)) (I.hok.fresh (Nat.le_refl _)) (Nat.ne_of_lt (Nat.lt_succ_self _))
  have I2 := Inv.made (C := C) I
  have Y := makes_of (M := model X.prog X.w) I.kIn hm
  have t1 : Looks (model X.prog X.w) ((s.heap.push emptyDict).push (instObj C s.heap.objs.size)) (typeOf (.ref (s.heap.objs.size + 1))) (.ref C) := (Looks.ld (show ((s.heap.push emptyDict).push (instObj C s.heap.objs.size)).get? (s.heap.objs.size + 1) = some (instObj C s.heap.objs.size) from by
    have := Heap.get?_push_size (s.heap.push emptyDict) (o := instObj C s.heap.objs.size) rfl
    rwa [Heap.size_push] at this)).andThen .now
  have t2 : Looks (model X.prog X.w) ((s.heap.push emptyDict).push (instObj C s.heap.objs.size)) (isInstance (.ref (s.heap.objs.size + 1)) (.type "object")) true := t1.andThen (Y.top.keeps fun b o e => Heap.get?_push_of_some _ (Heap.get?_push_of_some _ e))
  refine wpAny_call (make_map0 (R := fun r s' => match r with
    | .ok (.ret v) => EP X pins σ Q v s'
    | .ok _ => False
    | .error e => X.xe e s') I.kIn hm hi (fun self => Looks.of_pure (oi_bind self)) ?_)
  refine codeAny_call_builtin oi_plain entry_oi (@check_slot (model X.prog X.w) _ _ _ "object.__init__" "object" "__init__" (.ref (s.heap.objs.size + 1)) [] [] _ oi_kind oi_split t2 (oi_args (.ref (s.heap.objs.size + 1))) ?_)
  rw [oi_run]
  exact wpAny_pure (And.intro rfl ⟨V.ref (s.heap.objs.size + 1), _, I2, rfl, hq⟩)
end
section
variable {X : Cx} {K : PySem.W.Frag} [hK : KX X K] {cls : Nat → Addr} {m m' : Bool} {a b c e o i tg : Expr} {es : List Expr} {ta ti to te : TE} {fa fi fo fe : E} {pos p p2 p' tpos apos cpos : Pos} {C k : Nat} {nm : Str} {js : List Nat}
theorem se_isc (h : IsC K X.mg cls nm js k) (I : InsT K cls js) (bt : Bt X.mg) (ha : SE X K cls true a ta fa) (hg : Gl X "isinstance" := by rfl) (hg2 : Gl X nm := by rfl) (hd : (nm == ("__debug__" : Str)) = false := by decide)
    (hs : starEach [a, .Name nm p2] X.env = (false, eval a X.env) :: starEach [.Name nm p2] X.env := by rfl) (hs2 : starEach [.Name nm p2] X.env = (false, eval (.Name nm p2) X.env) :: starEach [] X.env := by rfl) (hpl : (backTo pos (starEach [.Name nm p2] X.env)).any (·.1) = false := by rfl) :
    SE X K cls m (.Call (.Name "isinstance" p) [a, .Name nm p2] [] pos) (tCB (rIsi K) (tCons ta (tCons (tC (.ref (cls k))) tNil))) (e1 (oIsc js k) fa) :=
  by obtain ⟨rfl⟩ := hK; exact ⟨pe_callB call_isi hg bt.isinstance (by decide +kernel) (pa_cons ha.1 (pa_cons (pe_glob hg2 h.hm rfl hd) pa_nil hs2) hs) (he := hs) (hpl := hpl), snd_isc I h ha.2⟩
theorem se_new0 (h : Mk0 K X.mg nm (cls C)) (hg : Gl X nm := by rfl) (hd : (nm == ("__debug__" : Str)) = false := by decide) : SE X K cls m (.Call (.Name nm p) [] [] pos) (tMk0 (cls C)) (eNew0 C) := by
  obtain ⟨rfl⟩ := hK
  refine ⟨⟨fun pins s σ H Q I q => ?_⟩, snd_new0⟩
  refine wpAny_Call_Name_kw (ld_glob I hg h.hm ?_ hd)
  exact PySem.W.callWith_K0 I.kIn h.kp (run_mk0 h.makes h.init I q)
theorem snd_knin {tab : List (Str × Int)} {d : Addr} {es : Array DictEntry} {n : Nat} (h2 : ∀ z i, (z, i) ∈ tab → ∃ t, PySem.W.nsIn K d z = some (some (.int i t))) (ha : Snd K cls true ta fa) :
    Snd K cls m (tOp (fun x y H Q => ∃ (z : Str) (r : Option Value), x = .str z ∧ y = .ref d ∧ PySem.W.nsIn K d z = some r ∧ Q (.bl (!r.isSome)) H) ta (tC (.ref d))) (e1 (oKnin tab) fa) := ⟨fun ρ Z σ H sl st x st' R e Q q => by
  obtain ⟨y, e1, e⟩ := bind_some e
  obtain ⟨z, e2, e⟩ := bind_some e
  cases e
  refine ha.run ρ Z σ H sl st y.1 y.2 R e1 _ fun u ρ1 H1 R1 x1 r1 => ?_
  obtain ⟨y, st1⟩ := y
  cases y <;> first | cases e2 | skip
  rename_i s hh
  cases hl : tab.lookup s with
  | none => rw [show oKnin tab st1 (.str s) = (tab.lookup s).map (fun _ => Val.bl false) from rfl, hl] at e2; cases e2
  | some j =>
    rw [show oKnin tab st1 (.str s) = (tab.lookup s).map (fun _ => Val.bl false) from rfl, hl] at e2
    cases e2
    obtain ⟨t, h3⟩ := h2 s j (lookup_mem hl)
    exact ⟨s, _, str_inv r1, rfl, h3, q _ ρ1 H1 R1 x1 (.of (.bl false))⟩⟩
theorem st_knin {tab : List (Str × Int)} (h : KTab K X.w X.mg nm tab) (ha : SE X K cls true a ta fa) (hg : Gl X nm := by rfl) (hd : (nm == ("__debug__" : Str)) = false := by decide) (hm : behindInMarks .NotIn (.Name nm p2) = false := by rfl) :
    ∃ t, ST X K cls (.Compare a [.NotIn] [.Name nm p2] pos) t (tE (e1 (oKnin tab) fa)) := by
  obtain ⟨rfl⟩ := hK
  obtain ⟨d, es, n, h1, D, h2⟩ := h.ex
  exact ⟨_, pt_cmpR (op_notIn_kd D) ha.1 (pe_glob (v := .ref d) hg h1 rfl hd) hm, snd_tE (m := true) (snd_knin (es := es) (n := n) h2 ha.2)⟩
theorem se_kix {tab : List (Str × Int)} (h : KTab K X.w X.mg nm tab) (ha : SE X K cls true a ta fa) (hs : PlainIx a := by exact fun _ _ => rfl) (hg : Gl X nm := by rfl) (hd : (nm == ("__debug__" : Str)) = false := by decide) :
    ∃ t, SE X K cls m (.Subscript (.Name nm p2) a pos) t (e1 (oKix tab) fa) := by
  obtain ⟨rfl⟩ := hK
  obtain ⟨d, es, n, h1, D, h2⟩ := h.ex
  refine ⟨_, pe_ix ix_kdict (pe_glob (v := .ref d) hg h1 rfl hd) ha.1 hs, ⟨fun ρ Z σ H sl st x st' R e Q q => ?_⟩⟩
  obtain ⟨y, e1, e⟩ := bind_some e
  obtain ⟨z, e2, e⟩ := bind_some e
  cases e
  refine ha.2.run ρ Z σ H sl st y.1 y.2 R e1 _ fun u ρ1 H1 R1 x1 r1 => ?_
  obtain ⟨y, st1⟩ := y
  cases y <;> first | cases e2 | skip
  rename_i s hh
  cases hl : tab.lookup s with
  | none => rw [show oKix tab st1 (.str s) = (tab.lookup s).map Val.int from rfl, hl] at e2; cases e2
  | some j =>
    rw [show oKix tab st1 (.str s) = (tab.lookup s).map Val.int from rfl, hl] at e2
    cases e2
    obtain ⟨t, h3⟩ := h2 s j (lookup_mem hl)
    exact ⟨d, s, .int j, rfl, str_inv r1, ⟨es, n, _, D.at_, D.lit, h3, ⟨_, rfl⟩⟩, q _ ρ1 H1 R1 x1 (.of (.int j))⟩
end
end Mi

set_option Elab.async false
set_option linter.all false
set_option maxRecDepth 100000
set_option maxHeartbeats 1000000
/-! Mi: list(range(a, b, c)). -/
namespace Mi
open PySem PySem.Spec PyProof.Rows L2
variable [Gam]
def PRg3 (X : Cx) (e : Expr) (t : L2.St → Hp → (Int → Int → Nat → Hp → Prop) → Prop) : Prop :=
  ∀ (pins : List (Addr × Obj)) (s : Shared) (σ : L2.St) (H : Hp) (Q : Int → Int → Nat → Hp → Prop), Inv X pins σ H s → t σ H Q →
    wpAny (model X.prog X.w) X.A (eval e X.env) (fun x s' => ∃ r a b c n t u v H', x = .ref r ∧ IsRange s'.heap r a b c t u v ∧ RgC a b c n ∧ Inv X pins σ H' s' ∧ Q a c n H') X.xe s
def tRg3 (ta : TA) : L2.St → Hp → (Int → Int → Nat → Hp → Prop) → Prop := fun σ H Q => ta σ H fun vs H1 => ∃ (i j c : Int) (n : Nat), vs = [.int i, .int j, .int c] ∧ RgC i j c n ∧ Q i c n H1
theorem prg_3 {X : Cx} {a b c : Expr} {ta : TA} {p pos : Pos} (hg : Gl X "range") (hm : X.mg "range" = none) (ha : PA X [a, b, c] ta)
    (hs : starEach [a, b, c] X.env = (false, eval a X.env) :: starEach [b, c] X.env := by rfl) (hpl : (backTo pos (starEach [b, c] X.env)).any (·.1) = false := by rfl) : PRg3 X (.Call (.Name "range" p) [a, b, c] [] pos) (tRg3 ta) := by
  intro pins s σ H Q I h
  refine Call_ (ld_blt I hg hm boot_range (PyProof.Rows.callWith_type1 (thn (ha.run pos pins s σ H _ I h) fun us s1 ⟨vs, H1, I1, r1, q1⟩ => ?_) hs hpl))
  obtain ⟨i, j, k, n, e, ⟨c0, c1, c2, c3⟩, q⟩ := q1
  subst e
  cases r1 with
  | cons r rr =>
    cases rr with
    | cons r' rr =>
      cases rr with
      | cons r'' rr =>
        cases rr
        obtain ⟨t, rfl⟩ := r
        obtain ⟨t', rfl⟩ := r'
        obtain ⟨t'', rfl⟩ := r''
        refine call_range_3 c0 ?_ (.inl (PyProof.noPylong_small c1))
        exact ⟨_, i, j, k, n, _, _, _, H1, rfl, IsRange.new _ _ _ _ _ _ _, ⟨c0, c1, c2, c3⟩, I1.kept fun b u e => Heap.get?_push_of_some _ e, q⟩
def rg3V (a c : Int) (n : Nat) : List V := (List.range n).map fun i => V.int (a + (i : Nat) * c)
theorem vals_rg3 {a c : Int} {n : Nat} {acc : Array Value} (h : ItemsOf (fun i v => ∃ t, v = .int (a + i * c) t) acc n) : Vals (rg3V a c n) acc.toList := by
  have e : acc.toList.length = n := by rw [Array.length_toList]; exact h.1
  unfold rg3V
  rw [← e]
  refine vals_of_get acc.toList _ fun j u hj => ?_
  obtain ⟨t, rfl⟩ := h.2 j u (by rw [← hj, Array.getElem?_toList])
  exact ⟨t, rfl⟩
def tLstRg3 (te : L2.St → Hp → (Int → Int → Nat → Hp → Prop) → Prop) : TE := fun σ H Q => te σ H fun a c n H1 => n ≤ 1000 ∧ ∀ q, H1 q = none → Q (.ref q) (upd H1 q (.lst (rg3V a c n)))
theorem pe_listRg3 {X : Cx} {e : Expr} {te : L2.St → Hp → (Int → Int → Nat → Hp → Prop) → Prop} {p pos : Pos} (hc : X.calm = true) (hg : Gl X "list") (hm : X.mg "list" = none) (he : PRg3 X e te) (na : starEach [e] X.env = (false, eval e X.env) :: starEach [] X.env := by rfl) : PE X (.Call (.Name "list" p) [e] [] pos) (tLstRg3 te) := by
  refine ⟨fun pins s σ H Q I h => ?_⟩
  refine Call_ (ld_blt I hg hm boot_list (PyProof.Rows.callWith_type1 (args_cons (thn (he pins s σ H _ I h) fun x s1 ⟨r, a, b, c, n, t, u, v, H1, ex, hr, ⟨c0, c1, c2, c3⟩, I1, ok, q⟩ => args_nil ?_) na) na))
  subst ex
  refine call_list_range (n := n) (I1.ok.hd hc) hr c2 c3 (by omega) fun h' tk acc c' hk e' hi => ?_
  refine ⟨.ref s1.heap.objs.size, upd H1 s1.heap.objs.size (.lst (rg3V a c n)), I1.laid hk (Nat.le_refl _) (show ObjOk X.prog X.w _ _ _ (.lst (rg3V a c n)) from ⟨?_, acc.toList, c', vals_rg3 hi, ?_⟩), rfl, q _ (I1.hok.fresh (Nat.le_refl _))⟩
  · unfold rg3V; rw [List.length_map, List.length_range, sizeLine_eq]; omega
  · rw [Array.toArray_toList]; exact e'
def rg3N (i j c : Int) : Nat := (Builtin.Range.rangeSize i j c).toNat
/-- list(range(i, j, c)) -/
def lRg3 (f : L) : L := fun sl st => (f sl st).bind fun p => match p.1 with
  | [.int i, .int j, .int c] => if c ≠ 0 ∧ c.natAbs < 1073741824 ∧ Builtin.Range.small i j c = true ∧ 0 ≤ Builtin.Range.rangeSize i j c ∧ rg3N i j c ≤ 1000 then some ((List.range (rg3N i j c)).map fun k => .int (i + (k : Nat) * c), p.2) else none
  | _ => none
theorem snd_rg3 {K : PySem.W.Frag} {cls : Nat → Addr} {ta : TA} {f : L} (ha : SndA K cls false ta f) : SndL K cls (tLstRg3 (tRg3 ta)) (lRg3 f) := ⟨fun ρ Z σ H sl st ds st' R e Q q => by
  obtain ⟨p, e1, e⟩ := bind_some e
  split at e
  · rename_i i j c hp
    split at e
    · rename_i hc
      cases e
      obtain ⟨c0, c1, c2, c3, c4⟩ := hc
      refine ha.run ρ Z σ H sl st p.1 p.2 R e1 _ fun us ρ1 H1 R1 x1 r1 => ?_
      rw [hp] at r1
      obtain ⟨u1, us1, e2, q1, r2⟩ := r1.cons_inv
      subst e2
      obtain ⟨u2, us2, e2, q2, r3⟩ := r2.cons_inv
      subst e2
      obtain ⟨u3, us3, e2, q3, r4⟩ := r3.cons_inv
      subst e2
      have e2 := r4.nil_inv
      subst e2
      refine ⟨i, j, c, rg3N i j c, by rw [int_inv q1, int_inv q2, int_inv q3], ⟨c0, c1, c2, by unfold rg3N; omega⟩, c4, fun w hw => ?_⟩
      have rl : ∀ l : List Nat, RepL K ρ1 (AR ρ1 (ZO Z sl σ)) H1 (l.map fun k => Val.int (i + (k : Nat) * c)) (l.map fun k => V.int (i + (k : Nat) * c)) := fun l => by
        induction l with
        | nil => exact .nil
        | cons a l ih => exact .cons (.int _) ih
      exact q w _ ρ1 H1 R1 x1 hw (rl _)
    · cases e
  · cases e⟩
theorem sl_rg3 {X : Cx} {K : PySem.W.Frag} [hK : KX X K] {cls : Nat → Addr} {a b c : Expr} {ta : TA} {f : L} {pos p p2 p' : Pos} (bt : Bt X.mg) (ha : SA X K cls false [a, b, c] ta f) (hg : Gl X "list" := by rfl) (hg2 : Gl X "range" := by rfl) (hc : X.calm = true := by rfl)
    (na : starEach [a, b, c] X.env = (false, eval a X.env) :: starEach [b, c] X.env := by rfl) (hp : (backTo p' (starEach [b, c] X.env)).any (·.1) = false := by rfl)
    (nc : starEach [.Call (.Name "range" p2) [a, b, c] [] p'] X.env = (false, eval (.Call (.Name "range" p2) [a, b, c] [] p') X.env) :: starEach [] X.env := by rfl) :
    SL X K cls (.Call (.Name "list" p) [.Call (.Name "range" p2) [a, b, c] [] p'] [] pos) (tLstRg3 (tRg3 ta)) (lRg3 f) := by obtain ⟨rfl⟩ := hK; exact ⟨pe_listRg3 hc hg bt.list (prg_3 hg2 bt.range ha.1 na hp) nc, snd_rg3 ha.2⟩
end Mi

set_option Elab.async false
set_option linter.all false
set_option maxRecDepth 100000
set_option maxHeartbeats 1000000
/-! Mi: in a tuple of data. -/
namespace Mi
open PySem PySem.Spec PyProof.Rows L2
variable [Gam]
def rInT (K : PySem.W.Frag) : R2 := fun x y H Q => ∃ d ds, Dp K H x d ∧ Dp K H y (.tuple ds) ∧ SeqAt.shaped d = true ∧ SeqAt.shaped (.tuple ds) = true ∧ Q (.bl (ds.any fun z => PyData.eqv z d)) H
theorem op_inT {X : Cx} (hu : X.A.units + 65 < cLine) : OpR X (compareOp .In) (rInT X.K) := by
  intro pins s σ H x y v u Q I rx ry h
  obtain ⟨d, ds, hd, he, sd, se, q⟩ := h
  obtain ⟨as, r1⟩ := Dp.reads I d x v hd rx
  obtain ⟨bs, r2⟩ := Dp.reads I (.tuple ds) y u he ry
  exact SeqAt.in_tuple_reads r2 r1 (SeqAt.canLay_of_shaped se) (SeqAt.canLay_of_shaped sd) (room_in_shaped sd hu) ⟨.bl _, H, I, rfl, q⟩
def oInT : Sto → Val → Val → Option Val
  | st, x, .tup ys => (pd st deep x).bind fun d => (ys.mapM (pd st 19)).bind fun ds => some (.bl (ds.any fun z => PyData.eqv z d))
  | _, _, _ => none
theorem ops_inT {K : PySem.W.Frag} {cls : Nat → Addr} : OpS K cls oInT (rInT K) := by
  intro ρ Z σ H sl st x y z u v R h1 h2 e Q q
  cases y <;> first | (exfalso; cases x <;> cases e) | skip
  rename_i ys
  have e' : (pd st deep x).bind (fun d => (ys.mapM (pd st 19)).bind fun ds => some (Val.bl (ds.any fun z => PyData.eqv z d))) = some z := by
    cases x <;> exact e
  obtain ⟨d, e1, e⟩ := bind_some e'
  obtain ⟨ds, e2, e⟩ := bind_some e
  cases e
  obtain ⟨a1, a2⟩ := pd_dp R h1 e1
  have e3 : pd st deep (.tup ys) = some (.tuple ds) := by
    show (ys.mapM (pd st 19)).map _ = _
    rw [e2]; rfl
  obtain ⟨b1, b2⟩ := pd_dp R h2 e3
  exact ⟨d, ds, a1, b1, a2, b2, q _ H R .refl (.bl _)⟩
theorem c_inT {X : Cx} {K : PySem.W.Frag} [hK : KX X K] {cls : Nat → Addr} (hu : X.A.units + 65 < cLine) : Cm X K cls .In (rInT K) oInT := by obtain ⟨rfl⟩ := hK; exact ⟨op_inT hu, ops_inT⟩
end Mi

set_option Elab.async false
set_option linter.all false
set_option maxRecDepth 100000
set_option maxHeartbeats 1000000
/-! Mi: str of lists and tuples (no list is being shown already); calls upon an empty store. -/
namespace Mi
open PySem PySem.Spec PyProof.Rows L2
variable [Gam]

/-! ### a def's promise where nothing is being shown -/
structure FnG (P : Program) (w : World) (K : PySem.W.Frag) (mg : Str → Option Value) (base : Heap) (k : Nat) (f : Addr) (fd : FuncData) (ps : List Str) (sp : Sp) : Prop where
  len : ∀ vs H Q E, sp vs H Q E → vs.length = ps.length
  run : ∀ (A : Around) (outer : List Env) (s : Shared) (H : Hp) (args : Args) (us : List Value) (vs : List V) (Q : VK) (E : XK), A.guards = some [] → Room k A → Env0 P w K mg base A outer s H → BindsTo s fd args (ps.zip us) → Vals vs us → sp vs H Q E →
    codeAny (model P w) A (.call (.ref f) args) (CR CX0 outer P w H s Q E) s
section
variable {P : Program} {w : World} {K : PySem.W.Frag} {mg : Str → Option Value} {base : Heap} {cls : Nat → Addr}
theorem FnG.mono {j k : Nat} {f : Addr} {fd : FuncData} {ps : List Str} {sp : Sp} (F : FnG P w K mg base j f fd ps sp) (h : j ≤ k) : FnG P w K mg base k f fd ps sp :=
  ⟨F.len, fun A outer s H args us vs Q E hg hr => F.run A outer s H args us vs Q E hg (hr.mono h)⟩
theorem FnG.imp {k : Nat} {f : Addr} {fd : FuncData} {ps : List Str} {sp sp' : Sp} (F : FnG P w K mg base k f fd ps sp) (h : ∀ vs H Q E, sp' vs H Q E → sp vs H Q E) : FnG P w K mg base k f fd ps sp' :=
  ⟨fun vs H Q E q => F.len vs H Q E (h _ _ _ _ q), fun A outer s H args us vs Q E hg hr he hb hv hs => F.run A outer s H args us vs Q E hg hr he hb hv (h _ _ _ _ hs)⟩
/-- a def by its body, entered where nothing is being shown -/
theorem fnG_of {x qual : Str} {st : Stmt} {f : Addr} {fd : FuncData} {N ps : List Str} {k : Nat} {sp : Sp} (F : L2.Fun K x qual st f fd) (Sc : FnScope N ps (defScope st)) (len : ∀ vs H Q E, sp vs H Q E → vs.length = ps.length)
    (hbody : ∀ (cdv : Value) (A : Around) (outer : List Env) (s : Shared) (H : Hp) (vs : List V) (Q : VK) (E : XK), (A.deeper (envOfC qual (defScope st) s.heap.objs.size f cdv)).guards = some [] → Room k (A.deeper (envOfC qual (defScope st) s.heap.objs.size f cdv)) → sp vs H Q E →
      ∃ t, PSs (cxOf CX0 P w K mg base N qual (defScope st) f cdv A outer s H E).nox (defBody st) t ∧ t { nx := fun _ H' => Q .non H', rt := Q } (L2.start N vs) H) : FnG P w K mg base (k + 1) f fd ps sp := by
  obtain ⟨oc, od, kV, doc, pm, an, cdv, ct, osl, rfl, lk, hcd⟩ := F.ex
  refine ⟨len, fun A outer s H args us vs Q E hg hr e0 hb r hsp => ?_⟩
  have hl := len _ _ _ _ hsp
  have kin : K.In s.heap := e0.mod.kin.keeps fun b o e => (e0.bs b o e).1
  have lim : s.heap.NoLimit := e0.mod.nolimit.keeps fun b o e => (e0.bs b o e).1
  have kinds : ∀ y ∈ ps.zip us, (defScope st).names.lookup y.1 = some .local ∨ ((defScope st).names.lookup y.1 = some .cell ∧ ((cellsFrom (s.heap.objs.size + 1) (defScope st).names []).lookup y.1).isSome = true) := fun ⟨n, v⟩ hy =>
    (Sc.par n (List.of_mem_zip hy).1).imp id fun q => ⟨q, PySem.W.cellsFrom_some _ _ _ (.inl q)⟩
  refine codeAny_call_function hr.depth (kin _ _ lk) rfl Sc.co Sc.gen rfl (PySem.W.codeRec_of kin hcd) (hb _ _ _ _ ?_)
  refine wpAny_newFunctionEnv_cells Sc.kind kinds fun env he s1 z => ?_
  subst he
  refine ⟨lim.keeps z.toInCall.keep, codeAny_func ?_⟩
  obtain ⟨t, ht, hq⟩ := hbody cdv A outer s H vs Q E hg (hr.deeper _) hsp
  have I := inv_start (CX := CX0) (P := P) (w := w) (mg := mg) (base := base) (A := A) (outer := outer) (H := H) (E := E) Sc hr.hd e0 hl r z
  refine wpAny_mono (ht.nox.run [] s1 (L2.start N vs) H _ I hq) (fun fl s' hs => ?_) fun e s' hs => hs
  cases fl with
  | ret u =>
    obtain ⟨v, σ', H', J, rv, q⟩ := hs
    exact ⟨v, H', J.os, J.bare, J.base, J.hok, rv, q⟩
  | next =>
    obtain ⟨σ', H', J, q⟩ := hs
    exact ⟨V.non, H', J.os, J.bare, J.base, J.hok, rfl, q⟩
  | brk => obtain ⟨_, _, _, q⟩ := hs; exact False.elim q
  | cont => obtain ⟨_, _, _, q⟩ := hs; exact False.elim q
theorem body_sp {N ps : List Str} {n k : Nat} {b : S} {vs : List V} {H : Hp} {Q : VK} {E : XK} {t : TS} (sn : SndS K cls t b) (hk : ps.length = k) (hn : N.length = n) (h : spM K cls (fnOf k n b) vs H Q E) : t { nx := fun _ H' => Q .non H', rt := Q } (L2.start N vs) H := by
  obtain ⟨ρ, Z, ds, st, d, st', R, r, e, q⟩ := h
  unfold fnOf at e
  split at e
  · rename_i hl
    obtain ⟨⟨o, sl1, st1⟩, e1, e2⟩ := bind_some e
    rw [← hn] at e1
    refine sn.run ρ Z (L2.start N vs) H _ st _ (start_rel R r hl) e1 _ ?_
    have noO : ∀ a, ¬ Own (ds.map Slot.val ++ List.replicate (N.length - k) Slot.no) (L2.start N vs) a := fun a ⟨i, xs, h1, _⟩ => by
      by_cases hi : i < (ds.map Slot.val).length
      · rw [List.getElem?_append_left hi, List.getElem?_map] at h1
        cases hd : ds[i]? with
        | none => rw [hd] at h1; cases h1
        | some d => rw [hd] at h1; cases h1
      · rw [List.getElem?_append_right (by omega)] at h1
        rw [List.getElem?_replicate] at h1
        split at h1 <;> cases h1
    have ext : ∀ {ρ' : List Addr} {H' : Hp} {W : Addr → Prop}, ρ <+: ρ' → (∀ a, a ∈ ρ' → W a) → Fr (WO ρ (ds.map Slot.val ++ List.replicate (N.length - k) Slot.no) (L2.start N vs)) H W H' → Ext ρ H ρ' H' := fun {ρ' H' W} hp hw fr =>
      ⟨hp, fun a o hna h => fr.keep a o (fun z => z.elim hna (noO a)) h, fun a h => (fr.new a (hw a h)).imp (fun z => z.elim id fun z => absurd z (noO a)) id⟩
    cases o with
    | nx =>
      cases e2
      exact fun σ' ρ' H' R' p' f' => q .non ρ' H' (R'.s.zs fun a h => .inl h) (ext p' (fun a h => .inl h) f') .non
    | rt v =>
      cases e2
      exact fun u ρ' H' R' p' f' r' => q u ρ' H' R' (ext p' (fun a h => h) f') r'
    | bk => cases e2
    | ct => cases e2
  · cases e
theorem defG_ok {x qual : Str} {sd : Stmt} {fA : Addr} {fd : FuncData} {N ps : List Str} {lv k n : Nat} {b : S} (F0 : L2.Fun K x qual sd fA fd) (Sc : FnScope N ps (defScope sd)) (hk : ps.length = k) (hn : N.length = n)
    (body : ∀ (cdv : Value) (A : Around) (outer : List Env) (s : Shared) (H : Hp) (E : XK), (A.deeper (envOfC qual (defScope sd) s.heap.objs.size fA cdv)).guards = some [] → Room lv (A.deeper (envOfC qual (defScope sd) s.heap.objs.size fA cdv)) → KX (cxOf CX0 P w K mg base N qual (defScope sd) fA cdv A outer s H E).nox K → ∃ t, SSs (cxOf CX0 P w K mg base N qual (defScope sd) fA cdv A outer s H E).nox K cls (defBody sd) t b) :
    FnG P w K mg base (lv + 1) fA fd ps (spM K cls (fnOf k n b)) := by
  refine fnG_of F0 Sc (fun vs H Q E h => ?_) (fun cdv A outer s H vs Q E hg hr h => ?_)
  · obtain ⟨ρ, Z, ds, st, d, st', R, r, e, _⟩ := h
    unfold fnOf at e
    split at e
    · rename_i hl
      rw [← r.length, hl, hk]
    · cases e
  · obtain ⟨t, ht, sn⟩ := body cdv A outer s H E hg hr ⟨rfl⟩
    exact ⟨t, ht, body_sp sn hk hn h⟩
end
/-- a def that may be called where nothing is being shown -/
structure CalG (P : Program) (w : World) (K : PySem.W.Frag) (mg : Str → Option Value) (base : Heap) (k : Nat) (x : Str) (sp : Sp) : Prop where
  ex : ∃ (f : Addr) (fd : FuncData) (ps : List Str), FnG P w K mg base k f fd ps sp ∧ mg x = some (.ref f) ∧ PySem.W.keepIn K (.ref f) = true ∧ Binds K fd ps []
section
variable {X : Cx} {pins : List (Addr × Obj)} {σ : L2.St} {H : Hp} {s : Shared} {k j : Nat} {f : Addr} {fd : FuncData} {ps : List Str} {sp : Sp} {x : Str} {p pos : Pos} {e : Expr} {es : List Expr} {t : TA}
theorem run_fnG {Q : VK} {us : List Value} {vs : List V} (F : FnG X.prog X.w X.K X.mg X.base k f fd ps sp) (hg : X.A.guards = some []) (hr : Room k X.A) (hb : Binds X.K fd ps [])
    (I : Inv X pins σ H s) (r : Vals vs us) (h : sp vs H Q E0) : wpAny (model X.prog X.w) X.A (call (.ref f) us) (EP X pins σ Q) X.xe s := by
  have hl : (us ++ []).length = ps.length := by rw [List.append_nil, ← r.length]; exact F.len _ _ _ _ h
  refine wpAny_call (codeAny_mono (F.run X.A X.stack s H ⟨us, []⟩ (us ++ []) vs Q E0 hg hr I.env0 (hb s us I.kIn hl) (by rw [List.append_nil]; exact r) h) fun r s' hq => ?_)
  cases r with
  | error e => exact pass0 (X := X) pins σ H s e s' I hq
  | ok fl =>
    cases fl with
    | ret u => exact I.after hq
    | next => exact False.elim hq
    | brk => exact False.elim hq
    | cont => exact False.elim hq
theorem pe_callG (c : CalG X.prog X.w X.K X.mg X.base k x sp) (hgd : X.A.guards = some []) (hr : Room j X.A) (hk : k ≤ j) (hg : Gl X x) (ha : PA X (e :: es) t)
    (hdb : (x == ("__debug__" : Str)) = false := by decide) (he : starEach (e :: es) X.env = (false, eval e X.env) :: starEach es X.env := by rfl) (hpl : (backTo pos (starEach es X.env)).any (·.1) = false := by rfl) :
    PE X (.Call (.Name x p) (e :: es) [] pos) (tCall sp [] E0 t) := by
  obtain ⟨f, fd, ps, F, hm, kp, b⟩ := c.ex
  refine ⟨fun pins s σ H Q I h => ?_⟩
  refine wpAny_Call_Name_kw (ld_glob I hg hm ?_ hdb)
  refine PySem.W.callWith_K (h₀ := X.base) I.ok.mod.kin kp (thn (ha.run pos pins s σ H _ I h) fun us s1 ⟨vs, H1, I1, r, q⟩ => ⟨I1.kIn, ?_⟩) he hpl
  have q : sp (vs ++ []) H1 Q E0 := q
  rw [List.append_nil] at q
  exact run_fnG F hgd (hr.mono hk) b I1 r q
theorem pe_callG0 (c : CalG X.prog X.w X.K X.mg X.base k x sp) (hgd : X.A.guards = some []) (hr : Room j X.A) (hk : k ≤ j) (hg : Gl X x)
    (hdb : (x == ("__debug__" : Str)) = false := by decide) : PE X (.Call (.Name x p) [] [] pos) (tCall sp [] E0 tNil) := by
  obtain ⟨f, fd, ps, F, hm, kp, b⟩ := c.ex
  refine ⟨fun pins s σ H Q I h => ?_⟩
  refine wpAny_Call_Name_kw (ld_glob I hg hm ?_ hdb)
  exact PySem.W.callWith_K0 I.kIn kp (run_fnG (us := []) F hgd (hr.mono hk) b I .nil h)
end
section
variable {X : Cx} {K : PySem.W.Frag} [hK : KX X K] {cls : Nat → Addr} {m : Bool} {mm : F} {k j : Nat} {x : Str} {p pos : Pos} {e : Expr} {es : List Expr} {t : TA} {f : L}
theorem se_callG (c : CalG X.prog X.w K X.mg X.base k x (spM K cls mm)) (hgd : X.A.guards = some []) (hr : Room j X.A) (ha : SA X K cls false (e :: es) t f) (hk : k ≤ j := by decide) (hg : Gl X x := by rfl)
    (hdb : (x == ("__debug__" : Str)) = false := by decide) (he : starEach (e :: es) X.env = (false, eval e X.env) :: starEach es X.env := by rfl) (hpl : (backTo pos (starEach es X.env)).any (·.1) = false := by rfl) :
    SE X K cls m (.Call (.Name x p) (e :: es) [] pos) (tCall (spM K cls mm) [] E0 t) (eCall mm f) := by obtain ⟨rfl⟩ := hK; exact ⟨pe_callG c hgd hr hk hg ha.1 hdb he hpl, snd_call ha.2⟩
theorem se_callG0 (c : CalG X.prog X.w K X.mg X.base k x (spM K cls mm)) (hgd : X.A.guards = some []) (hr : Room j X.A) (hk : k ≤ j := by decide) (hg : Gl X x := by rfl) (hdb : (x == ("__debug__" : Str)) = false := by decide) :
    SE X K cls m (.Call (.Name x p) [] [] pos) (tCall (spM K cls mm) [] E0 tNil) (eCall mm aNil) := by obtain ⟨rfl⟩ := hK; exact ⟨pe_callG0 c hgd hr hk hg hdb, snd_call snd_nil⟩
end

/-! ### str of what is a list or a tuple -/
def listy : Val → Bool
  | .lst _ => true
  | .tup _ => true
  | .ref _ => true
  | _ => false
def oStr : Sto → Val → Option Val := fun st x => if listy x then (pd st deep x).bind fun d => if d.showable = true ∧ d.shown.length ≤ sizeLine then some (.str d.shown) else none else none
def rStrD (K : PySem.W.Frag) : List V → Hp → VK → Prop := fun xs H Q => ∃ a d, xs = [.ref a] ∧ Dp K H (.ref a) d ∧ SeqAt.shaped d = true ∧ d.showable = true ∧ d.shown.length ≤ sizeLine ∧ Q (.str d.shown) H
theorem call_strD {X : Cx} (hg : X.A.guards = some []) (hu : X.A.units + 80 < cLine) : CallR X (.type "str") (rStrD X.K) := by
  intro pins s σ H xs us Q I r h
  obtain ⟨a, d, rfl, hd, sd, sh, sz, q⟩ := h
  obtain ⟨u, rfl, r1⟩ := vals1 r
  obtain rfl : u = Value.ref a := r1
  obtain ⟨as, rd⟩ := Dp.reads I d (.ref a) (.ref a) hd rfl
  have hdp : d.canLay0 = true ∧ d.depth ≤ 64 := by
    have sd : (d.canLay0 && decide (d.depth ≤ 64)) = true := sd
    rw [Bool.and_eq_true] at sd
    exact ⟨sd.1, of_decide_eq_true sd.2⟩
  exact str_of_reads rd sh (PyData.noDict_hsm (PyData.hasDict_of_canLay d hdp.1)) hg (by omega) (fun _ _ e => e) (fun h' u tk hk => ⟨.str d.shown, H, I.kept hk, ⟨u, rfl⟩, q⟩) sz
theorem ops_str {K : PySem.W.Frag} {cls : Nat → Addr} : Op1S K cls oStr (fun u => rStrD K [u]) := by
  intro ρ Z σ H sl st x z u R r e Q q
  unfold oStr at e
  split at e
  · rename_i hl
    obtain ⟨d, e1, e⟩ := bind_some e
    split at e
    · rename_i hd
      cases e
      obtain ⟨j1, j2⟩ := pd_dp R r e1
      have hx : ∃ a, u = .ref a := by
        rcases r with r | ⟨_, _, _, _, e', h⟩
        · cases r <;> first | exact ⟨_, rfl⟩ | cases hl
        · obtain ⟨h1, h2⟩ := h
          exact ⟨_, by first | exact h1 | exact h2.1⟩
      obtain ⟨a, rfl⟩ := hx
      exact ⟨a, d, rfl, j1, j2, hd.1, hd.2, q _ _ R .refl (.str _)⟩
    · cases e
  · cases e
/-- != of two texts -/
def oNeS : Sto → Val → Val → Option Val
  | _, .str a, .str b => some (.bl (!decide (a = b)))
  | _, _, _ => none
theorem ops_neS {K : PySem.W.Frag} {cls : Nat → Addr} : OpS K cls oNeS rNe := by
  intro ρ Z σ H sl st x y z u v R r1 r2 e Q q
  unfold oNeS at e
  split at e
  · cases e
    have h1 : ∀ {a : Str} {u : V}, RepM K true ρ Z σ H sl (.str a) u → u = .str a := fun {a u} r => by
      rcases r with r | ⟨_, _, _, _, e', _⟩
      · cases r; rfl
      · cases e'
    rw [h1 r1, h1 r2]
    refine ⟨rfl, ?_⟩
    have := q _ _ R .refl (.bl _)
    rename_i a b
    rw [show decide (V.str a = V.str b) = decide (a = b) by rw [Bool.eq_iff_iff]; simp]
    exact this
  · cases e
section
variable {X : Cx} {K : PySem.W.Frag} [hK : KX X K] {cls : Nat → Addr} {m : Bool} {p pos : Pos} {a : Expr} {ta : TE} {fa : E}
theorem se_strD (bt : Bt X.mg) (hgd : X.A.guards = some []) (hu : X.A.units + 80 < cLine) (ha : SE X K cls true a ta fa) (hg : Gl X "str" := by rfl) (hs : starEach [a] X.env = (false, eval a X.env) :: starEach [] X.env := by rfl) (hpl : (backTo pos (starEach [] X.env)).any (·.1) = false := by rfl) :
    SE X K cls m (.Call (.Name "str" p) [a] [] pos) (tCB (rStrD K) (tCons ta tNil)) (e1 oStr fa) := by obtain ⟨rfl⟩ := hK; exact ⟨pe_callTy (call_strD hgd hu) hg bt.str (by decide +kernel) (pa_cons ha.1 pa_nil hs) (he := hs) (hpl := hpl), snd_b1 ops_str ha.2⟩
theorem c_neS : Cm X K cls .NotEq rNe oNeS := ⟨op_ne, ops_neS⟩
theorem hu80 {k : Nat} {A : Around} (r : Room k A) : A.units + 80 < cLine := by have := r.un; omega
end
end Mi

set_option Elab.async false
set_option linter.all false
set_option maxRecDepth 100000
set_option maxHeartbeats 1000000
/-! Mi: calls upon an empty store: the arguments hold no place, the answer is flat. -/
namespace Mi
open PySem PySem.Spec PyProof.Rows L2
variable [Gam]
section
variable {K : PySem.W.Frag} {cls : Nat → Addr} {ρ ρ' : List Addr} {Z Z' : Addr → Prop} {σ : L2.St} {H H' : Hp} {sl : Sl} {st st' : Sto}
/-- a value that names no place, at an empty store -/
theorem repL_noref {A A' : Addr → Prop} {n : Nat} (ih : ∀ {x : Val} {u : V} {d : PyData}, pd [] n x = some d → Rep K ρ A H x u → Rep K ρ' A' H x u) : ∀ {xs : List Val} {us : List V} {ds : List PyData}, xs.mapM (pd [] n) = some ds → RepL K ρ A H xs us → RepL K ρ' A' H xs us
  | [], us, _, e, r => by cases r; exact .nil
  | x :: xs, us, _, e, r => by
    cases r with
    | cons r rs =>
      rw [List.mapM_cons] at e
      obtain ⟨d, e1, e⟩ := bind_some e
      obtain ⟨ds, e2, _⟩ := bind_some e
      exact .cons (ih e1 r) (repL_noref ih e2 rs)
theorem rep_noref {A A' : Addr → Prop} (hA : ∀ a, A' a → A a) : ∀ (n : Nat) {x : Val} {u : V} {d : PyData}, pd [] n x = some d → Rep K ρ A H x u → Rep K ρ' A' H x u
  | 0, x, u, d, e, r => by
    cases r with
    | non => exact .non
    | bl b => exact .bl b
    | int i => exact .int i
    | str i => exact .str i
    | fn _ _ _ => cases e
    | ref _ => cases e
    | lst _ _ => cases e
    | tup _ _ => cases e
  | n + 1, x, u, d, e, r => by
    cases r with
    | non => exact .non
    | bl b => exact .bl b
    | int i => exact .int i
    | str i => exact .str i
    | fn _ _ _ => cases e
    | ref _ => cases e
    | lst h r =>
      obtain ⟨ds, e1, _⟩ := Option.map_eq_some_iff.mp e
      exact .lst (h.imp (fun h => ⟨fun z => h.1 (hA _ z), h.2⟩) id) (repL_noref (rep_noref hA n) e1 r)
    | tup h r =>
      obtain ⟨ds, e1, _⟩ := Option.map_eq_some_iff.mp e
      exact .tup (h.imp (fun h => ⟨fun z => h.1 (hA _ z), h.2⟩) id) (repL_noref (rep_noref hA n) e1 r)
/-- all stays, more may have come -/
theorem RelR.allKeep (R : RelR K cls ρ Z H st) (hk : ∀ a o, H a = some o → H' a = some o) : RelR K cls ρ Z H' st := by
  refine ⟨R.nd, R.len, fun n c a h1 h2 => ?_, fun a h => ?_, R.dis⟩
  · have hs : H' a = H a := by
      cases e : H a with
      | none => exact absurd e (R.dom a (.inl (List.mem_of_getElem? h2)))
      | some o => exact hk a o e
    exact (R.cells n c a h1 h2).mono ⟨fun a o _ h => hk a o h, fun _ h => .inl h⟩ List.prefix_rfl hs
  · cases e : H a with
    | none => exact absurd e (R.dom a h)
    | some o => rw [hk a o e]; simp
end
/-- a call whose arguments hold no place: the callee runs on an empty store -/
def eCallN (m : F) (f : L) : E := fun sl st => (f sl st).bind fun p => if (p.1.mapM (pd [] deep)).isSome = true then (m p.1 []).bind fun q => if flat q.1 = true then some (q.1, p.2) else none else none
section
variable {K : PySem.W.Frag} {cls : Nat → Addr} {m : Bool} {mm : F} {t : TA} {f : L}
theorem snd_callN {EE : XK} (h : SndA K cls false t f) : Snd K cls m (tCall (spM K cls mm) [] EE t) (eCallN mm f) := ⟨fun ρ Z σ H sl st d st' R e Q q => by
  obtain ⟨p, e1, e⟩ := bind_some e
  split at e
  · rename_i hp
    obtain ⟨ds, hds⟩ := Option.isSome_iff_exists.mp hp
    obtain ⟨⟨v, st2⟩, e2, e⟩ := bind_some e
    split at e
    · rename_i hf
      cases e
      refine h.run ρ Z σ H sl st p.1 p.2 R e1 _ fun us ρ1 H1 R1 x1 r1 => ?_
      have hr : RepL K [] (AR [] fun _ => False) H1 p.1 us := repL_noref (rep_noref (fun a z => by
        rcases z with z | z
        · cases z
        · exact z.elim) deep) hds r1.repL
      refine ⟨[], fun _ => False, p.1, [], v, st2, ⟨List.nodup_nil, rfl, fun n c a h => by simp at h, fun b hb => ?_, fun b hb => by simp at hb⟩, by rw [List.append_nil]; exact hr, e2, fun u ρ2 H2 R2 x2 r2 => ?_⟩
      · rcases hb with hb | hb
        · simp at hb
        · exact hb.elim
      · have hk : ∀ a o, H1 a = some o → H2 a = some o := fun a o h => x2.fr.keep a o (by simp) h
        have x3 : Ext ρ1 H1 ρ1 H2 := ⟨List.prefix_rfl, ⟨fun a o _ h => hk a o h, fun _ h => .inl h⟩⟩
        refine q u ρ1 H2 (R1.step x3 (R1.s.allKeep hk)) (x1.trans x3) (.of ?_)
        cases r2 <;> first | exact .non | exact .bl _ | exact .int _ | exact .str _ | cases hf
    · cases e
  · cases e⟩
end
section
variable {X : Cx} {K : PySem.W.Frag} [hK : KX X K] {cls : Nat → Addr} {m : Bool} {mm : F} {k j : Nat} {x : Str} {p pos : Pos} {e : Expr} {es : List Expr} {t : TA} {f : L}
theorem se_callN (c : C8.Cal X.prog X.w K X.mg X.base k x (spM K cls mm) []) (hr : Room j X.A) (ha : SA X K cls false (e :: es) t f) (hk : k ≤ j := by decide) (hg : Gl X x := by rfl)
    (hdb : (x == ("__debug__" : Str)) = false := by decide) (he : starEach (e :: es) X.env = (false, eval e X.env) :: starEach es X.env := by rfl) (hpl : (backTo pos (starEach es X.env)).any (·.1) = false := by rfl) :
    SE X K cls m (.Call (.Name x p) (e :: es) [] pos) (tCall (spM K cls mm) [] E0 t) (eCallN mm f) := by obtain ⟨rfl⟩ := hK; exact ⟨C8.pe_c c hr hk hg ha.1 hdb he hpl, snd_callN ha.2⟩
theorem se_callN0 (c : C8.Cal X.prog X.w K X.mg X.base k x (spM K cls mm) []) (hr : Room j X.A) (hk : k ≤ j := by decide) (hg : Gl X x := by rfl) (hdb : (x == ("__debug__" : Str)) = false := by decide) :
    SE X K cls m (.Call (.Name x p) [] [] pos) (tCall (spM K cls mm) [] E0 tNil) (eCallN mm aNil) := by
  obtain ⟨rfl⟩ := hK
  obtain ⟨f, fd, ps, ds, F, hm, kp, b, d⟩ := c.ex
  exact ⟨pe_call0 F (hr.mono hk) hg hm kp b d pass0 hdb, snd_callN snd_nil⟩
end
/-! ### the law, called where nothing is being shown -/
theorem law_callG {P : Program} {w : World} {K : PySem.W.Frag} {mg mb : Str → Option Value} {k : Nat} {fa a : Addr} {fd : FuncData} {x : Str} {sp : Sp} {s₁ : Shared} {vs : List Value} {ns : List Int}
    (kin : K.In s₁.heap) (hns : s₁.heap.Ns mainGlobals mg) (hb : s₁.heap.Ns builtinsNs mb) (hbb : ∀ x : Str, x ≠ "__name__" → mb x = bootBuiltins x) (hlim : s₁.heap.NoLimit) (hg : s₁.gens = #[])
    (ha : s₁.heap.get? a = some { cls := .type "list", data := .seq vs.toArray }) (hi : IntsAre vs ns) (hl : ns.length ≤ sizeLine) (hr : Room k callerA)
    (F : ∀ base : Heap, K.In base → base.Ns mainGlobals mg → FnG P w K mg base k fa fd [x] sp) (hbind : ∀ (s : Shared) (u : Value), BindsTo s fd ⟨[u], []⟩ [(x, u)])
    (hsp : ∀ H : Hp, Only H → SqL K H a (ns.map V.int) → sp [.ref a] H (fun v _ => v = .bl true) fun _ _ _ => False) :
    codeAny (model P w) callerA (.call (.ref fa) ⟨[.ref a], []⟩) (fun r s' => r = .ok (.ret (.bool true)) ∧ PySem.OldK s₁.heap s'.heap ∧ s'.os = s₁.os ∧ AllBare s'.gens) s₁ := by
  have rv := vals_ints hi
  -- which heap is told to the walk: the script, unless it is one of the module's own objects
  obtain ⟨H, hO, hS, hok, hA, hK⟩ : ∃ H : Hp, Only H ∧ SqL K H a (ns.map V.int) ∧ HOk P w H s₁.heap ∧ (∀ b, H b ≠ none → b = a) ∧ (H a ≠ none → K.lookup a = none) := by
    cases hk : K.lookup a with
    | some o =>
      have e := kin a o hk
      rw [ha] at e
      cases e
      exact ⟨fun _ => none, fun _ => .inl rfl, .inr ⟨_, vs.toArray, _, hk, rfl, rfl, rfl, by rw [List.size_toArray, hi.length]; exact hl, by simpa using rv⟩, fun b u z => (by have z' : (none : Option HO) = some u := z; cases z'), fun b z => absurd rfl z, fun z => absurd rfl z⟩
    | none =>
      refine ⟨fun b => if b = a then some (.frz { cls := .type "list", data := .seq vs.toArray } (.lst (ns.map V.int))) else none, fun b => ?_, .inl (.inr ⟨{ cls := .type "list", data := .seq vs.toArray }, if_pos rfl⟩), fun b u z => ?_, fun b z => ?_, fun _ => rfl⟩
      · by_cases hb : b = a
        · exact .inr ⟨_, _, if_pos hb⟩
        · exact .inl (if_neg hb)
      · by_cases hb : b = a
        · have z' := (if_pos hb).symm.trans z
          cases z'
          subst hb
          exact ⟨ha, by rw [List.length_map]; exact hl, vs, _, rv, ha⟩
        · cases (if_neg hb).symm.trans z
      · by_cases hb : b = a
        · exact hb
        · exact absurd (if_neg hb) z
  have noD : ∀ {b : Addr} {o : Obj} {es : Array DictEntry} {ep : Nat}, s₁.heap.get? b = some o → o.data = .dict es ep → H b = none := fun {b o es ep} e d => by
    cases q : H b with
    | none => rfl
    | some u =>
      obtain rfl : b = a := hA b (by rw [q]; simp)
      rw [ha] at e; cases e
      cases (show Data.seq vs.toArray _ = Data.dict es ep from d)
  have ns' : ∀ {b : Addr} {m : Str → Option Value}, s₁.heap.Ns b m → (hidT s₁.heap H).Ns b m := fun ⟨o, es, ep, e, d, r⟩ => ⟨o, es, ep, hidT_get e (noD e d), d, r⟩
  have kb : K.In (hidT s₁.heap H) := fun b o e => hidT_get (kin b o e) (by
    cases q : H b with
    | none => rfl
    | some u =>
      obtain rfl : b = a := hA b (by rw [q]; simp)
      rw [hK (by rw [q]; simp)] at e; cases e)
  have mod : Mod K mg (hidT s₁.heap H) := ⟨kb, ns' hns, ⟨mb, ns' hb, hbb⟩, let ⟨mc, h1, h2⟩ := hlim; ⟨mc, ns' h1, h2⟩⟩
  have e0 : Env0 P w K mg (hidT s₁.heap H) callerA [] s₁ H := ⟨rfl, mod, fun b o e => of_hidT e, Nat.le_of_eq (hidT_size _ _), trivial, fun b hb => absurd (show b ∈ ([] : List Addr) from hb) (by simp), hok, .of_eq hg⟩
  refine codeAny_mono ((F _ kb (ns' hns)).run callerA [] s₁ H ⟨[.ref a], []⟩ [.ref a] [.ref a] _ _ rfl hr e0 (hbind s₁ (.ref a)) (.cons rfl .nil) (hsp H hO hS)) fun r s' h => ?_
  cases r with
  | error e => exact False.elim h
  | ok fl =>
    cases fl with
    | next => exact False.elim h
    | brk => exact False.elim h
    | cont => exact False.elim h
    | ret u =>
      obtain ⟨v, H', os, bare, un, hok', r', q⟩ := h
      obtain rfl : v = V.bl true := q
      obtain rfl : u = Value.bool true := r'
      refine ⟨rfl, PySem.OldK.of_keep fun b o e => ?_, os, bare⟩
      cases q : H b with
      | none => exact un.keep b o e q (by intro z; exact absurd (show b ∈ ([] : List Addr) from z) (by simp)) (by simp)
      | some u =>
        rcases hO b with z | ⟨ob, xs, z⟩
        · rw [q] at z; cases z
        · have z2 := un.frzs b ob _ z
          obtain ⟨e1, _⟩ := hok b _ z
          obtain ⟨e2, _⟩ := hok' b _ z2
          rw [e] at e1; cases e1
          exact e2
theorem walk_ofG {l : PySem.W.OpenLaw} {n k : Nat} {q : Program} {loose : List Str} {XP : (Str → Option Value) → Heap → Prop} {YP : World → Heap → Prop} {d : DefRec} {K : Params → PySem.W.Frag} {sp : World → Sp} {x : Str}
    (hn : l.most = some n) (hn2 : n ≤ sizeLine) (hdf : d.params.defaults = []) (hr : Room k callerA) (hY : ∀ (w : World) (h : Heap), YP w h → (K w.params).In h)
    (F : ∀ (w : World) (mg : Str → Option Value) (fa : Addr) (h : Heap), (K w.params).In h → h.Ns mainGlobals mg → mg d.name = some (.ref fa) →
      ∃ fd : FuncData, (∀ (s : Shared) (u : Value), BindsTo s fd ⟨[u], []⟩ [(x, u)]) ∧ ∀ base : Heap, (K w.params).In base → base.Ns mainGlobals mg → FnG l.prog w (K w.params) mg base k fa fd [x] (sp w))
    (hsp : ∀ (w : World) (H : Hp) (a : Addr) (ns : List Int), ns.length ≤ n → Only H → SqL (K w.params) H a (ns.map V.int) → sp w [.ref a] H (fun v _ => v = .bl true) fun _ _ _ => False) :
    PySem.W.WalkO q loose XP YP l.row.toRowW d [] (fun f vs => PySem.call f vs) := by
  refine Att.attach_call hn hdf fun w s₀ s₁ mg mb fa o pm cd doc a vs ns G Y ho hd hcd hmg hobj hints hlen hg => ?_
  have kin := hY w _ Y
  obtain ⟨fd, hb, hF⟩ := F w mg fa _ kin G.T.g hmg
  exact law_callG kin G.T.g G.T.b G.T.builtins G.T.nolimit hg hobj hints (Nat.le_trans hlen hn2) hr hF hb fun H hO hS => hsp w H a ns hlen hO hS
end Mi

set_option Elab.async false
set_option linter.all false
set_option maxRecDepth 100000
set_option maxHeartbeats 1000000
/-! Mi: pop and clear of a list at a place, index of a number in a list. -/
namespace Mi
open PySem PySem.Spec PyProof.Rows L2
variable [Gam]
/-- o.pop(), its item dropped -/
def sPopK (o : E) : S := fun sl st => (o sl st).bind fun p => match p.1 with
  | .ref n => match p.2[n]? with
    | some (.lst xs) => if 0 < xs.length then some (.nx, sl, p.2.set n (.lst xs.dropLast)) else none
    | _ => none
  | _ => none
/-- o.clear() -/
def sClrK (o : E) : S := fun sl st => (o sl st).bind fun p => match p.1 with
  | .ref n => match p.2[n]? with
    | some (.lst _) => some (.nx, sl, p.2.set n (.lst []))
    | _ => none
  | _ => none
/-- the first place of a number -/
def placeOf (i : Int) : List Int → Option Nat
  | [] => none
  | j :: r => if j = i then some 0 else (placeOf i r).map (· + 1)
/-- o.index(e), numbers -/
def eIndex (o e : E) : E := fun sl st => (o sl st).bind fun p => (viewQ p.2 p.1).bind fun _ => (e sl p.2).bind fun q => (viewQ q.2 p.1).bind fun xs => (allInt xs).bind fun ns => match q.1 with
  | .int i => (placeOf i ns).bind fun k => some (.int (k : Nat), q.2)
  | _ => none
theorem placeOf_some {i : Int} : ∀ {ns : List Int} {k : Nat}, placeOf i ns = some k → ns[k]? = some i ∧ ∀ (m : Nat) (j : Int), m < k → ns[m]? = some j → j ≠ i
  | [], _, h => by cases h
  | j :: r, k, h => by
    unfold placeOf at h
    by_cases e : j = i
    · rw [if_pos e] at h
      cases h
      exact ⟨by rw [e]; rfl, fun m _ hm => by omega⟩
    · rw [if_neg e] at h
      obtain ⟨k', h1, rfl⟩ := Option.map_eq_some_iff.mp h
      obtain ⟨h2, h3⟩ := placeOf_some h1
      refine ⟨h2, fun m z hm hz => ?_⟩
      cases m with
      | zero => cases hz; exact e
      | succ m => exact h3 m z (by omega) hz
section
variable {K : PySem.W.Frag} {cls : Nat → Addr} {ρ : List Addr} {A : Addr → Prop} {Z : Addr → Prop} {H : Hp} {m m1 m2 : Bool} {to te : TE} {fo fe : E}
theorem repL_dropLast : ∀ {xs : List Val} {us : List V}, RepL K ρ A H xs us → RepL K ρ A H xs.dropLast us.dropLast
  | [], _, r => by cases r; exact .nil
  | [x], _, r => by
    cases r with
    | cons r t => cases t; exact .nil
  | x :: y :: xs, _, r => by
    cases r with
    | cons r t =>
      cases t with
      | cons r2 t2 => exact .cons r (repL_dropLast (.cons r2 t2))
theorem s_popK (ho : Snd K cls m to fo) : SndS K cls (tDrop (tBM0 K "list" rPop to)) (sPopK fo) := ⟨fun ρ Z σ H sl st r R e D q => by
  obtain ⟨p, e1, e⟩ := bind_some e
  split at e
  · rename_i n hn
    split at e
    · rename_i xs hx
      split at e
      · rename_i hl
        cases e
        refine ho.run ρ Z σ H sl st p.1 p.2 R e1 _ fun u ρ1 H1 R1 x1 r1 => ?_
        rw [hn] at r1
        obtain ⟨a, rfl, hρ⟩ := ref_inv r1
        obtain ⟨us, w1, w2⟩ := R1.s.cells n _ a hx hρ
        have hlen : us.length - 1 < us.length := by rw [← w2.length]; omega
        refine ⟨.inl ⟨rfl, us, .of w1⟩, a, us, _, rfl, rfl, w1, List.getElem?_eq_getElem hlen, ?_⟩
        have x3 : Ext ρ1 H1 ρ1 (upd H1 a (.lst us.dropLast)) := .set hρ
        exact q σ ρ1 _ (R1.set hρ ⟨us.dropLast, upd_same, repL_dropLast (x3.repL w2)⟩) (x1.trans x3).pre (x1.trans x3).wo
      · cases e
    · cases e
  · cases e⟩
theorem s_clrK (ho : Snd K cls m to fo) : SndS K cls (tDrop (tBM0 K "list" rClear to)) (sClrK fo) := ⟨fun ρ Z σ H sl st r R e D q => by
  obtain ⟨p, e1, e⟩ := bind_some e
  split at e
  · rename_i n hn
    split at e
    · rename_i xs hx
      cases e
      refine ho.run ρ Z σ H sl st p.1 p.2 R e1 _ fun u ρ1 H1 R1 x1 r1 => ?_
      rw [hn] at r1
      obtain ⟨a, rfl, hρ⟩ := ref_inv r1
      obtain ⟨us, w1, w2⟩ := R1.s.cells n _ a hx hρ
      refine ⟨.inl ⟨rfl, us, .of w1⟩, a, us, rfl, rfl, w1, ?_⟩
      have x3 : Ext ρ1 H1 ρ1 (upd H1 a (.lst [])) := .set hρ
      exact q σ ρ1 _ (R1.set hρ ⟨[], upd_same, .nil⟩) (x1.trans x3).pre (x1.trans x3).wo
    · cases e
  · cases e⟩
theorem snd_index (ho : Snd K cls m1 to fo) (he : Snd K cls m2 te fe) : Snd K cls m (tBM K "list" (rIndex K) to (tCons te tNil)) (eIndex fo fe) := ⟨fun ρ Z σ H sl st d st' R e Q q => by
  obtain ⟨p, e1, e⟩ := bind_some e
  obtain ⟨xs0, v0, e⟩ := bind_some e
  obtain ⟨p2, e2, e⟩ := bind_some e
  obtain ⟨xs, v1, e⟩ := bind_some e
  obtain ⟨ns, v2, e⟩ := bind_some e
  split at e
  · rename_i i hi
    obtain ⟨k, e3, e⟩ := bind_some e
    cases e
    refine ho.run ρ Z σ H sl st p.1 p.2 R e1 _ fun u ρ1 H1 R1 x1 r1 => ?_
    obtain ⟨a, us0, rfl, sq0, _⟩ := viewQ_of R1 r1 v0
    refine ⟨.inl ⟨rfl, us0, sq0⟩, ?_⟩
    refine he.run ρ1 Z σ H1 sl p.2 p2.1 p2.2 R1 e2 _ fun v ρ2 H2 R2 x2 r2 => ?_
    obtain ⟨a', us, ea, sq, rl⟩ := viewQ_of R2 (r1.ext x2) v1
    cases ea
    obtain ⟨rfl, rfl⟩ := allInt_rep rl v2
    rw [hi] at r2
    have hv : v = .int i := by
      rcases r2 with r2 | ⟨_, _, _, _, z, _⟩
      · cases r2; rfl
      · cases z
    subst hv
    obtain ⟨h1, h2⟩ := placeOf_some e3
    refine ⟨a, _, .int i, k, .int i, rfl, rfl, sq, rfl, List.all_eq_true.mpr fun z hz => by obtain ⟨j, _, rfl⟩ := List.mem_map.mp hz; rfl, by rw [List.getElem?_map, h1]; rfl, by show (i == i) = true; exact beq_self_eq_true _, fun mm z hm hz => ?_, q _ ρ2 H2 R2 (x1.trans x2) (.of (.int _))⟩
    rw [List.getElem?_map] at hz
    obtain ⟨j, hj, rfl⟩ := Option.map_eq_some_iff.mp hz
    exact beq_eq_false_iff_ne.mpr (h2 mm j hm hj)
  · cases e⟩
end
section
variable {X : Cx} {K : PySem.W.Frag} [hK : KX X K] {cls : Nat → Addr} {m m' m1 m2 : Bool} {o e : Expr} {to te : TE} {fo fe : E} {apos cpos pos : Pos}
theorem ss_popK (ho : SE X K cls true o to fo)
    (hbase : attributeBase o "pop" X.env (eval o X.env) = eval o X.env := by rfl) (hline : (apos.endLine == cpos.line) = true := by rfl)
    (hsw : swapsWith (.Call (.Attribute o "pop" apos) [] [] cpos) none pos.line X.env = pure false := by rfl) :
    SS X K cls (.Expr (.Call (.Attribute o "pop" apos) [] [] cpos) pos) (tDrop (tBM0 K "list" rPop to)) (sPopK fo) :=
  by obtain ⟨rfl⟩ := hK; exact ⟨ps_expr (pe_bm0 PySem.F.plainAttrs_list PySem.F.slot_list_pop PySem.F.type_list_pop mt_pop ho.1 hbase hline) hsw, s_popK ho.2⟩
theorem ss_clrK (ho : SE X K cls true o to fo)
    (hbase : attributeBase o "clear" X.env (eval o X.env) = eval o X.env := by rfl) (hline : (apos.endLine == cpos.line) = true := by rfl)
    (hsw : swapsWith (.Call (.Attribute o "clear" apos) [] [] cpos) none pos.line X.env = pure false := by rfl) :
    SS X K cls (.Expr (.Call (.Attribute o "clear" apos) [] [] cpos) pos) (tDrop (tBM0 K "list" rClear to)) (sClrK fo) :=
  by obtain ⟨rfl⟩ := hK; exact ⟨ps_expr (pe_bm0 PySem.F.plainAttrs_list PySem.F.slot_list_clear PySem.F.type_list_clear mt_clear ho.1 hbase hline) hsw, s_clrK ho.2⟩
theorem se_index (ho : SE X K cls true o to fo) (he : SE X K cls true e te fe) (hs : starEach [e] X.env = (false, eval e X.env) :: starEach [] X.env := by rfl)
    (hbase : attributeBase o "index" X.env (eval o X.env) = eval o X.env := by rfl)
    (hfew : ((backTo cpos (starEach [e] X.env)).all (fun x => !x.1) && (backToKw cpos (keywordEach [] X.env)).all (fun x => x.1.isSome) && decide ([e].length + ([] : List Keyword).length + (if ([] : List Keyword).isEmpty then 0 else 1) < 30)) = true := by rfl)
    (hline : (apos.endLine == cpos.line) = true := by rfl) (hplain : (backTo cpos (starEach [] X.env)).any (·.1) = false := by rfl) :
    SE X K cls m (.Call (.Attribute o "index" apos) [e] [] cpos) (tBM K "list" (rIndex K) to (tCons te tNil)) (eIndex fo fe) :=
  by obtain ⟨rfl⟩ := hK; exact ⟨pe_bm PySem.F.plainAttrs_list PySem.F.slot_list_index PySem.F.type_list_index mt_index ho.1 (pa_cons he.1 pa_nil hs) hbase hfew hline hs hplain, snd_index ho.2 he.2⟩
end
end Mi

set_option Elab.async false
set_option linter.all false
set_option maxRecDepth 100000
set_option maxHeartbeats 1000000
/-! Mi: dicts whose keys are tuples of numbers and texts (one number at least); x.pop(0); is not None. -/
namespace Mi
open PySem PySem.Spec PyProof.Rows L2
variable [Gam]
def isIntV : Val → Bool
  | .int _ => true
  | _ => false
def tkey : Val → Option (List Key)
  | .tup xs => if xs.any isIntV = true then xs.mapM keyOf else none
  | _ => none
def valT (kvs : List (List Key × Val)) (k : List Key) : Option Val := (kvs.find? fun kv => decide (kv.1 = k)).map (·.2)
def putT (kvs : List (List Key × Val)) (k : List Key) (v : Val) : List (List Key × Val) :=
  if (kvs.any fun kv => decide (kv.1 = k)) = true then kvs.map (fun kv => if kv.1 = k then (kv.1, v) else kv) else kvs ++ [(k, v)]
def dtAt (st : Sto) : Val → Option (List (List Key × Val))
  | .ref n => match st[n]? with
    | some (.dt kvs) => some kvs
    | _ => none
  | _ => none
/-- {k: v} -/
def eDisp1T (i e : E) : E := fun sl st => (i sl (st ++ [.dt []])).bind fun p => (e sl p.2).bind fun q => match q.2[st.length]? with
  | some (.dt []) => (tkey p.1).bind fun k => some (.ref st.length, q.2.set st.length (.dt [(k, q.1)]))
  | _ => none
def oTGet : Sto → Val → Val → Option Val := fun st x y => (dtAt st x).bind fun kvs => (tkey y).bind fun k => valT kvs k
/-- d.get(i, e) -/
def eTGet2 (o i e : E) : E := fun sl st => (o sl st).bind fun p => (dtAt p.2 p.1).bind fun _ => (i sl p.2).bind fun q => (e sl q.2).bind fun r =>
  (dtAt r.2 p.1).bind fun kvs => (tkey q.1).bind fun k => some ((valT kvs k).getD r.1, r.2)
/-- d[i] = e -/
def sTSet (o i e : E) : S := fun sl st => (e sl st).bind fun p => (o sl p.2).bind fun q => (i sl q.2).bind fun r => match q.1 with
  | .ref n => match r.2[n]? with
    | some (.dt kvs) => (tkey r.1).bind fun k => if kvs.length < 1000 then some (.nx, sl, r.2.set n (.dt (putT kvs k p.1))) else none
    | _ => none
  | _ => none
/-- k in d, k not in d -/
def oTIn : Sto → Val → Val → Option Val := fun st y x => (dtAt st x).bind fun kvs => (tkey y).bind fun k => some (.bl (valT kvs k).isSome)
def oTNin : Sto → Val → Val → Option Val := fun st y x => (dtAt st x).bind fun kvs => (tkey y).bind fun k => some (.bl (!(valT kvs k).isSome))
section
variable {K : PySem.W.Frag} {cls : Nat → Addr} {ρ ρ' : List Addr} {A : Addr → Prop} {Z : Addr → Prop} {σ : L2.St} {H H' : Hp} {sl : Sl} {st st' : Sto} {m m' : Bool} {x y : Val} {u v : V}
theorem valT_pos {p : List Key × Val} {r : List (List Key × Val)} {k : List Key} (e : p.1 = k) : valT (p :: r) k = some p.2 := by simp [valT, List.find?_cons, e]
theorem valT_neg {p : List Key × Val} {r : List (List Key × Val)} {k : List Key} (e : ¬ p.1 = k) : valT (p :: r) k = valT r k := by simp [valT, List.find?_cons, e]
theorem kt_get : ∀ {kvs : List (List Key × Val)} {kvu : List (List Key × V)}, kvu.map (·.1) = kvs.map (·.1) → RepL K ρ A H (kvs.map (·.2)) (kvu.map (·.2)) → ∀ k, (valT kvs k = none ∧ valV kvu k = none) ∨ ∃ v u, valT kvs k = some v ∧ valV kvu k = some u ∧ Rep K ρ A H v u
  | [], [], _, _, k => .inl ⟨rfl, rfl⟩
  | [], _ :: _, e, _, _ => by cases e
  | _ :: _, [], e, _, _ => by cases e
  | p :: r, q :: s, e, h, k => by
    rw [List.map_cons, List.map_cons] at e h
    injection e with e1 e2
    cases h with
    | cons h1 h2 =>
      by_cases hk : p.1 = k
      · exact .inr ⟨p.2, q.2, valT_pos hk, valV_pos (e1.trans hk), h1⟩
      · rw [valT_neg hk, valV_neg (fun z => hk (e1.symm.trans z))]
        exact kt_get e2 h2 k
theorem kt_map {k : List Key} (r0 : Rep K ρ A H x u) : ∀ {kvs : List (List Key × Val)} {kvu : List (List Key × V)}, kvu.map (·.1) = kvs.map (·.1) → RepL K ρ A H (kvs.map (·.2)) (kvu.map (·.2)) →
    (kvu.map fun kv => if kv.1 = k then (kv.1, u) else kv).map (·.1) = (kvs.map fun kv => if kv.1 = k then (kv.1, x) else kv).map (·.1) ∧ RepL K ρ A H ((kvs.map fun kv => if kv.1 = k then (kv.1, x) else kv).map (·.2)) ((kvu.map fun kv => if kv.1 = k then (kv.1, u) else kv).map (·.2))
  | [], [], _, _ => ⟨rfl, .nil⟩
  | [], _ :: _, e, _ => by cases e
  | _ :: _, [], e, _ => by cases e
  | p :: r, q :: s, e, h => by
    rw [List.map_cons, List.map_cons] at e h
    injection e with e1 e2
    cases h with
    | cons h1 h2 =>
      obtain ⟨i1, i2⟩ := kt_map r0 e2 h2
      simp only [List.map_cons]
      rw [i1]
      by_cases hk : p.1 = k
      · rw [if_pos hk, if_pos (e1.trans hk)]
        exact ⟨by rw [e1], .cons r0 i2⟩
      · rw [if_neg hk, if_neg (fun z => hk (e1.symm.trans z))]
        exact ⟨by rw [e1], .cons h1 i2⟩
theorem any_fstT {α : Type} {k : List Key} (kvs : List (List Key × α)) : (kvs.any fun kv => decide (kv.1 = k)) = (kvs.map (·.1)).any fun j => decide (j = k) := by rw [List.any_map]; rfl
theorem kt_put {kvs : List (List Key × Val)} {kvu : List (List Key × V)} (k : List Key) (r0 : Rep K ρ A H x u) (e : kvu.map (·.1) = kvs.map (·.1)) (h : RepL K ρ A H (kvs.map (·.2)) (kvu.map (·.2))) :
    (putK kvu k u).map (·.1) = (putT kvs k x).map (·.1) ∧ RepL K ρ A H ((putT kvs k x).map (·.2)) ((putK kvu k u).map (·.2)) := by
  unfold putK putT
  rw [any_fstT kvu, any_fstT kvs, e]
  split
  · exact kt_map r0 e h
  · rw [List.map_append, List.map_append, List.map_append, List.map_append, e]
    exact ⟨rfl, h.append (.cons r0 .nil)⟩
theorem keysOf_rep : ∀ {xs : List Val} {us : List V} {k : List Key}, xs.mapM keyOf = some k → RepL K ρ A H xs us → us = k.map kV
  | [], us, k, e, r => by cases e; cases r; rfl
  | x :: xs, us, k, e, r => by
    cases r with
    | cons r t =>
      rw [List.mapM_cons] at e
      obtain ⟨j, e1, e⟩ := bind_some e
      obtain ⟨js, e2, e⟩ := bind_some e
      cases e
      rw [keysOf_rep e2 t, List.map_cons]
      congr 1
      cases x <;> first | cases e1 | skip
      · cases r; rfl
      · cases r; rfl
theorem int_notStr : ∀ {xs : List Val} {us : List V}, xs.any isIntV = true → RepL K ρ A H xs us → us.all strV = true → False
  | [], _, e, _, _ => by cases e
  | x :: xs, us, e, r, a => by
    cases r with
    | cons r t =>
      rw [List.all_cons, Bool.and_eq_true] at a
      rw [List.any_cons, Bool.or_eq_true] at e
      rcases e with e | e
      · cases x <;> first | cases e | skip
        cases r
        cases a.1
      · exact int_notStr e t a.2
theorem tkey_rep {k : List Key} (h : tkey x = some k) (r : RepM K m ρ Z σ H sl x u) : ∃ b, u = .ref b ∧ H b = some (.tup (k.map kV)) := by
  cases x <;> first | cases h | skip
  rename_i xs
  have h' : (if xs.any isIntV = true then xs.mapM keyOf else none) = some k := h
  split at h'
  · rename_i hi
    obtain ⟨a, us, rfl, t, r⟩ := tup_inv r
    have eu := keysOf_rep h' r
    rcases t with ⟨_, t⟩ | ⟨_, t⟩
    · rw [eu] at t
      exact ⟨a, rfl, t⟩
    · exact (int_notStr hi r t).elim
  · cases h'
theorem dtAt_ref {kvs : List (List Key × Val)} (h : dtAt st x = some kvs) : ∃ n, x = .ref n ∧ st[n]? = some (.dt kvs) := by
  cases x <;> first | cases h | skip
  rename_i n
  have h' : (match st[n]? with
    | some (.dt kvs) => some kvs
    | _ => none) = some kvs := h
  split at h'
  · rename_i hx
    cases h'
    exact ⟨n, rfl, hx⟩
  · cases h'
end
section
variable {K : PySem.W.Frag} {cls : Nat → Addr} {m m' : Bool} {to ti te : TE} {fo fi fe : E}
theorem snd_tget (ho : Snd K cls m' to fo) (hi : Snd K cls true ti fi) : Snd K cls m (tDGet to ti) (e2 oTGet fo fi) := ⟨fun ρ Z σ H sl st d st' R e Q q => by
  obtain ⟨p, e1, e⟩ := bind_some e
  obtain ⟨p2, e2, e⟩ := bind_some e
  obtain ⟨z, e3, e⟩ := bind_some e
  cases e
  obtain ⟨kvs, h1, h2⟩ := bind_some e3
  obtain ⟨k, h3, h4⟩ := bind_some h2
  obtain ⟨n, hx, hc⟩ := dtAt_ref h1
  refine ho.run ρ Z σ H sl st p.1 p.2 R e1 _ fun u ρ1 H1 R1 x1 r1 => ?_
  rw [hx] at r1
  obtain ⟨a, rfl, hρ⟩ := ref_inv r1
  refine hi.run ρ1 Z σ H1 sl p.2 p2.1 p2.2 R1 e2 _ fun w ρ2 H2 R2 x2 r2 => ?_
  obtain ⟨b, rfl, hb⟩ := tkey_rep h3 r2
  obtain ⟨kvu, w1, w2, w3⟩ := R2.s.cells n _ a hc (x2.at hρ)
  rcases kt_get w2 w3 k with ⟨z1, z2⟩ | ⟨v', u', z1, z2, z3⟩
  · rw [h4] at z1; cases z1
  · rw [h4] at z1
    cases z1
    exact ⟨a, u', rfl, z2 ▸ DGet.t w1 hb, q _ ρ2 _ R2 (x1.trans x2) (.of z3)⟩⟩
theorem snd_tget2 (ho : Snd K cls m' to fo) (hi : Snd K cls true ti fi) (he : Snd K cls false te fe) : Snd K cls m (tDGet2 to ti te) (eTGet2 fo fi fe) := ⟨fun ρ Z σ H sl st d st' R e Q q => by
  obtain ⟨p, e1, e⟩ := bind_some e
  obtain ⟨kv0, h0, e⟩ := bind_some e
  obtain ⟨p2, e2, e⟩ := bind_some e
  obtain ⟨p3, e3, e⟩ := bind_some e
  obtain ⟨kvs, h1, e⟩ := bind_some e
  obtain ⟨k, h3, e⟩ := bind_some e
  cases e
  obtain ⟨n, hx, hc0⟩ := dtAt_ref h0
  obtain ⟨n', hx', hc⟩ := dtAt_ref h1
  rw [hx] at hx'
  cases hx'
  refine ho.run ρ Z σ H sl st p.1 p.2 R e1 _ fun u ρ1 H1 R1 x1 r1 => ?_
  rw [hx] at r1
  obtain ⟨a, rfl, hρ⟩ := ref_inv r1
  obtain ⟨kv1, y1, _, _⟩ := R1.s.cells n _ a hc0 hρ
  refine ⟨a, rfl, .inr ⟨kv1, .inl y1⟩, ?_⟩
  refine hi.run ρ1 Z σ H1 sl p.2 p2.1 p2.2 R1 e2 _ fun w ρ2 H2 R2 x2 r2 => ?_
  refine he.run ρ2 Z σ H2 sl p2.2 p3.1 p3.2 R2 e3 _ fun w3' ρ3 H3 R3 x3 r3 => ?_
  obtain ⟨b, rfl, hb⟩ := tkey_rep h3 (r2.ext x3)
  obtain ⟨kvu, w1, w2, w3⟩ := R3.s.cells n _ a hc (x3.at (x2.at hρ))
  refine ⟨_, DGet.t w1 hb, ?_⟩
  rcases kt_get w2 w3 k with ⟨z1, z2⟩ | ⟨v', u', z1, z2, z3⟩
  · rw [z2]
    refine q _ ρ3 _ R3 ((x1.trans x2).trans x3) (.of ?_)
    rw [z1]
    exact r3.rep
  · rw [z2]
    refine q _ ρ3 _ R3 ((x1.trans x2).trans x3) (.of ?_)
    rw [z1]
    exact z3⟩
theorem s_tset (ho : Snd K cls m to fo) (hi : Snd K cls true ti fi) (he : Snd K cls false te fe) : SndS K cls (sDPut to ti te) (sTSet fo fi fe) := ⟨fun ρ Z σ H sl st r R e D q => by
  obtain ⟨p, e1, e⟩ := bind_some e
  obtain ⟨p2, e2, e⟩ := bind_some e
  obtain ⟨p3, e3, e⟩ := bind_some e
  split at e
  · rename_i n hn
    split at e
    · rename_i kvs hx
      obtain ⟨k, h3, e⟩ := bind_some e
      split at e
      · rename_i hlen
        cases e
        refine he.run ρ Z σ H sl st p.1 p.2 R e1 _ fun v ρ1 H1 R1 x1 r1 => ?_
        refine ho.run ρ1 Z σ H1 sl p.2 p2.1 p2.2 R1 e2 _ fun u ρ2 H2 R2 x2 r2 => ?_
        rw [hn] at r2
        obtain ⟨a, rfl, hρ⟩ := ref_inv r2
        refine hi.run ρ2 Z σ H2 sl p2.2 p3.1 p3.2 R2 e3 _ fun w ρ3 H3 R3 x3 r3 => ?_
        obtain ⟨b, rfl, hb⟩ := tkey_rep h3 r3
        obtain ⟨kvu, w1, w2, w3⟩ := R3.s.cells n _ a hx (x3.at hρ)
        have hl : kvu.length = kvs.length := by simpa using congrArg List.length w2
        have x4 : Ext ρ3 H3 ρ3 (upd H3 a (.dT (putK kvu k v))) := .set (x3.at hρ)
        obtain ⟨y1, y2⟩ := kt_put k (x4.rep ((r1.ext x2).ext x3).rep) w2 (x4.repL w3)
        refine ⟨a, _, rfl, DPut.t w1 hb (by rw [hl]; exact Nat.lt_trans hlen (by rw [sizeLine_eq]; decide)), ?_⟩
        exact q σ ρ3 _ (R3.set (x3.at hρ) ⟨putK kvu k v, upd_same, y1, y2⟩) (((x1.trans x2).trans x3).trans x4).pre (((x1.trans x2).trans x3).trans x4).wo
      · cases e
    · cases e
  · cases e⟩
theorem snd_tin (hi : Snd K cls true ti fi) (ho : Snd K cls m' to fo) : Snd K cls m (tDIn ti to) (e2 oTIn fi fo) := ⟨fun ρ Z σ H sl st d st' R e Q q => by
  obtain ⟨p, e1, e⟩ := bind_some e
  obtain ⟨p2, e2, e⟩ := bind_some e
  obtain ⟨z, e3, e⟩ := bind_some e
  cases e
  obtain ⟨kvs, h1, h2⟩ := bind_some e3
  obtain ⟨k, h3, h4⟩ := bind_some h2
  cases h4
  obtain ⟨n, hx, hc⟩ := dtAt_ref h1
  refine hi.run ρ Z σ H sl st p.1 p.2 R e1 _ fun w ρ1 H1 R1 x1 r1 => ?_
  refine ho.run ρ1 Z σ H1 sl p.2 p2.1 p2.2 R1 e2 _ fun u ρ2 H2 R2 x2 r2 => ?_
  rw [hx] at r2
  obtain ⟨a, rfl, hρ⟩ := ref_inv r2
  obtain ⟨b, rfl, hb⟩ := tkey_rep h3 (r1.ext x2)
  obtain ⟨kvu, w1, w2, w3⟩ := R2.s.cells n _ a hc hρ
  have hs : (valT kvs k).isSome = (valV kvu k).isSome := by
    rcases kt_get w2 w3 k with ⟨z1, z2⟩ | ⟨v', u', z1, z2, z3⟩
    · rw [z1, z2]; rfl
    · rw [z1, z2]; rfl
  refine ⟨a, _, rfl, DGet.t w1 hb, ?_⟩
  have := q _ ρ2 _ R2 (x1.trans x2) (.of (.bl (valT kvs k).isSome))
  rw [hs] at this
  exact this⟩
theorem snd_tnin (hi : Snd K cls true ti fi) (ho : Snd K cls m' to fo) : Snd K cls m (tDNotIn ti to) (e2 oTNin fi fo) := ⟨fun ρ Z σ H sl st d st' R e Q q => by
  obtain ⟨p, e1, e⟩ := bind_some e
  obtain ⟨p2, e2, e⟩ := bind_some e
  obtain ⟨z, e3, e⟩ := bind_some e
  cases e
  obtain ⟨kvs, h1, h2⟩ := bind_some e3
  obtain ⟨k, h3, h4⟩ := bind_some h2
  cases h4
  obtain ⟨n, hx, hc⟩ := dtAt_ref h1
  refine hi.run ρ Z σ H sl st p.1 p.2 R e1 _ fun w ρ1 H1 R1 x1 r1 => ?_
  refine ho.run ρ1 Z σ H1 sl p.2 p2.1 p2.2 R1 e2 _ fun u ρ2 H2 R2 x2 r2 => ?_
  rw [hx] at r2
  obtain ⟨a, rfl, hρ⟩ := ref_inv r2
  obtain ⟨b, rfl, hb⟩ := tkey_rep h3 (r1.ext x2)
  obtain ⟨kvu, w1, w2, w3⟩ := R2.s.cells n _ a hc hρ
  have hs : (valT kvs k).isSome = (valV kvu k).isSome := by
    rcases kt_get w2 w3 k with ⟨z1, z2⟩ | ⟨v', u', z1, z2, z3⟩
    · rw [z1, z2]; rfl
    · rw [z1, z2]; rfl
  refine ⟨a, _, rfl, DGet.t w1 hb, ?_⟩
  have := q _ ρ2 _ R2 (x1.trans x2) (.of (.bl (!(valT kvs k).isSome)))
  rw [hs] at this
  exact this⟩
/-! a display of one entry -/
def tDisp1T (tk tv : TE) : TE := fun σ H Q => ∀ p, H p = none → tPairs [(tk, tv)] σ (upd H p (.dT [])) fun ps H2 => ∃ y k b, ps = [(.ref b, y)] ∧ H2 p = some (.dT []) ∧ H2 b = some (.tup (k.map kV)) ∧ Q (.ref p) (upd H2 p (.dT [(k, y)]))
theorem snd_disp1T (hi : Snd K cls false ti fi) (he : Snd K cls false te fe) : Snd K cls m (tDisp1T ti te) (eDisp1T fi fe) := ⟨fun ρ Z σ H sl st d st' R e Q q => by
  obtain ⟨p, e1, e⟩ := bind_some e
  obtain ⟨p2, e2, e⟩ := bind_some e
  split at e
  · rename_i hx
    obtain ⟨k, h3, e⟩ := bind_some e
    cases e
    intro a ha
    have R0 : Rel K cls (ρ ++ [a]) Z σ (upd H a (.dT [])) sl (st ++ [.dt []]) := R.push ha ⟨[], upd_same, rfl, .nil⟩
    have x0 : Ext ρ H (ρ ++ [a]) (upd H a (.dT [])) := .push ha
    have hρ : (ρ ++ [a])[st.length]? = some a := by rw [← R.s.len, List.getElem?_append_right (Nat.le_refl _), Nat.sub_self] <;> rfl
    refine hi.run _ Z σ _ sl _ p.1 p.2 R0 e1 _ fun w ρ1 H1 R1 x1 r1 => ?_
    refine he.run ρ1 Z σ H1 sl p.2 p2.1 p2.2 R1 e2 _ fun v ρ2 H2 R2 x2 r2 => ?_
    have hρ2 := x2.at (x1.at hρ)
    obtain ⟨kvu, w1, w2, w3⟩ := R2.s.cells _ _ a hx hρ2
    obtain ⟨b, rfl, hb⟩ := tkey_rep h3 (r1.ext x2)
    have hk : kvu = [] := by
      cases kvu with
      | nil => rfl
      | cons p r => cases w2
    subst hk
    have x3 : Ext ρ2 H2 ρ2 (upd H2 a (.dT [(k, v)])) := .set hρ2
    refine ⟨v, k, b, rfl, w1, hb, q _ ρ2 _ (R2.set hρ2 ⟨[(k, v)], upd_same, rfl, .cons (x3.rep r2.rep) .nil⟩) (((x0.trans x1).trans x2).trans x3) (.of (.ref hρ2))⟩
  · cases e⟩
/-! x.pop(0), x is not None -/
def ePop0 (o i : E) : E := fun sl st => (o sl st).bind fun p => match p.1 with
  | .ref n => match p.2[n]? with
    | some (.lst _) => (i sl p.2).bind fun q => match q.1 with
      | .int 0 => match q.2[n]? with
        | some (.lst (x :: xs)) => some (x, q.2.set n (.lst xs))
        | _ => none
      | _ => none
    | _ => none
  | _ => none
def oNotN : Sto → Val → Option Val
  | _, .non => some (.bl false)
  | _, .int _ => some (.bl true)
  | _, .tup _ => some (.bl true)
  | _, _ => none
theorem snd_pop0 (ho : Snd K cls m' to fo) (hi : Snd K cls true ti fi) : Snd K cls m (tBM K "list" rPopAt to (tCons ti tNil)) (ePop0 fo fi) := ⟨fun ρ Z σ H sl st d st' R e Q q => by
  obtain ⟨p, e1, e⟩ := bind_some e
  split at e
  · rename_i n hn
    split at e
    · rename_i xs0 hx0
      obtain ⟨p2, e2, e⟩ := bind_some e
      split at e
      · rename_i hz
        split at e
        · rename_i x xs hx
          cases e
          refine ho.run ρ Z σ H sl st p.1 p.2 R e1 _ fun u ρ1 H1 R1 x1 r1 => ?_
          rw [hn] at r1
          obtain ⟨a, rfl, hρ⟩ := ref_inv r1
          obtain ⟨us0, w1, w2⟩ := R1.s.cells n _ a hx0 hρ
          refine ⟨.inl ⟨rfl, us0, .of w1⟩, ?_⟩
          refine hi.run ρ1 Z σ H1 sl p.2 p2.1 p2.2 R1 e2 _ fun v ρ2 H2 R2 x2 r2 => ?_
          rw [hz] at r2
          obtain rfl := int_inv r2
          obtain ⟨us, v1, v2⟩ := R2.s.cells n _ a hx (x2.at hρ)
          cases v2 with
          | @cons x0 u xs0' us' hu ht =>
            have x3 : Ext ρ2 H2 ρ2 (upd H2 a (.lst us')) := .set (x2.at hρ)
            refine ⟨a, _, 0, 0, u, rfl, rfl, v1, by decide, by decide, ?_, rfl, ?_⟩
            · show seqIndex? 0 (u :: us').length = some 0
              unfold seqIndex?
              simp
            · exact q u ρ2 _ (R2.set (x2.at hρ) ⟨us', upd_same, x3.repL ht⟩) ((x1.trans x2).trans x3) (.of (x3.rep hu))
        · cases e
      · cases e
    · cases e
  · cases e⟩
theorem snd_notN (ho : Snd K cls m' to fo) : Snd K cls m (tNotN to) (e1 oNotN fo) := ⟨fun ρ Z σ H sl st d st' R e Q q => by
  obtain ⟨p, h1, e⟩ := bind_some e
  obtain ⟨z, e2, e⟩ := bind_some e
  cases e
  refine ho.run ρ Z σ H sl st p.1 p.2 R h1 _ fun u ρ1 H1 R1 x1 r1 => ?_
  have hz : d = Val.bl (!decide (u = V.non)) := by
    rcases r1 with r1 | ⟨_, _, _, _, e', _, _⟩
    · generalize p.1 = y at e2 r1
      cases r1 <;> first | (cases e2; done) | skip
      · cases e2; rfl
      · cases e2; rfl
      · cases e2; rfl
    · rw [e'] at e2; cases e2
  rw [hz] at q
  exact q _ ρ1 H1 R1 x1 (.of (.bl _))⟩
end
section
variable {X : Cx} {K : PySem.W.Frag} [hK : KX X K] {cls : Nat → Addr} {m m' : Bool} {o i e : Expr} {to ti te : TE} {fo fi fe : E} {apos cpos pos p' : Pos}
theorem pe_disp1T {k v : Expr} {tk tv : TE} (hu : X.A.units < cLine) (hk : PE X k tk) (hv : PE X v tv) : PE X (.Dict [some k] [v] pos) (tDisp1T tk tv) := by
  have pp := pps_cons (pos := pos) hk hv (pps_nil (X := X) (pos := pos))
  refine ⟨fun pins s σ H Q I q => ?_⟩
  have hn := I.hok.fresh (Nat.le_refl s.heap.objs.size)
  have I1 := I.laid (a := s.heap.objs.size) (o := .dT []) (h' := s.heap.push { cls := .type "dict", data := .dict #[] }) (t' := s.toks) (fun _ _ q => Heap.get?_push_of_some _ q) (Nat.le_refl _) (dt_empty s.heap I.big)
  have hlen := pairTrees_length [some k] [v] X.env pos rfl rfl
  rw [arm_eval_Dict, zip_pairTrees [some k] [v] X.env pos rfl rfl, dictDisplay_pairs _ (fun z => by rw [z] at hlen; cases hlen) (by rw [hlen]; exact Nat.le_of_ble_eq_true rfl)]
  refine wpAny_bind (wpAny_standAt (wpAny_bind (wpAny_subDictH (knd := tupleKind (mixKind X.prog X.w)) (Q := fun d s' => wpAny (model X.prog X.w) X.A (pure (Value.ref d)) (EP X pins σ Q) X.xe s') hu (by rw [hlen]; exact Nat.le_of_ble_eq_true rfl) (thn (pp.run pins _ σ _ _ I1 (q _ hn)) fun ws s2 ⟨ps, H2, I2, rel, y, kk, b, ep, e, hb, q2⟩ => ?_))))
  subst ep
  cases rel with
  | @cons a0 wv as bs h t =>
    cases t
    obtain ⟨u, w2⟩ := wv
    obtain ⟨h1, h2⟩ := h
    obtain rfl : u = Value.ref b := h1
    obtain ⟨z, hd, xs, rel, dd⟩ := dt_of I2.hok e
    cases rel
    refine ⟨[(kk, b, w2)], ⟨rfl, rfl, key_of I2.hok hb, trivial⟩, dd, fun h' tk' dd' hs => wpAny_pure ⟨.ref s.heap.objs.size, _, ?_, rfl, q2⟩⟩
    obtain ⟨qo, es, ep, hq, g2, g3, g4, _, g5⟩ := dd'
    have hkt : KT (upd H2 s.heap.objs.size (.dT [(kk, y)])) [(kk, y)] [(kk, b, w2)] := .cons ⟨rfl, by rw [upd_ne (ne_of hb e (fun z => nomatch z))]; exact hb, h2⟩ .nil
    exact d_write I2 (by rw [e]; exact True.intro) hs ⟨qo, hq⟩ ⟨by rw [sizeLine_eq]; exact Nat.le_of_ble_eq_true rfl, hd, _, hkt, qo, es, ep, hq, g2, g3, g4, g5⟩
theorem se_disp1T {k v : Expr} {tk tv : TE} {fk fv : E} (hu : X.A.units < cLine) (hk : SE X K cls false k tk fk) (hv : SE X K cls false v tv fv) : SE X K cls m (.Dict [some k] [v] pos) (tDisp1T tk tv) (eDisp1T fk fv) := ⟨pe_disp1T hu hk.1 hv.1, snd_disp1T hk.2 hv.2⟩
theorem se_tget (ho : SE X K cls true o to fo) (hi : SE X K cls true i ti fi) (hu : X.A.units + 1 < cLine) (hs : NoSl i := by exact fun _ _ => rfl) : SE X K cls m (.Subscript o i pos) (tDGet to ti) (e2 oTGet fo fi) := ⟨pe_dget hu ho.1 hi.1 hs, snd_tget ho.2 hi.2⟩
theorem se_tin (hi : SE X K cls true i ti fi) (ho : SE X K cls true o to fo) (hu : X.A.units + 1 < cLine) (hm : behindInMarks .In o = false := by first | exact nomark _ | rfl) : SE X K cls m (.Compare i [.In] [o] pos) (tDIn ti to) (e2 oTIn fi fo) := ⟨pe_cmp (pc_din hu hi.1 ho.1) hm, snd_tin hi.2 ho.2⟩
theorem se_tnin (hi : SE X K cls true i ti fi) (ho : SE X K cls true o to fo) (hu : X.A.units + 1 < cLine) (hm : behindInMarks .NotIn o = false := by first | exact nomark _ | rfl) : SE X K cls m (.Compare i [.NotIn] [o] pos) (tDNotIn ti to) (e2 oTNin fi fo) := ⟨pe_cmp (pc_dnotin hu hi.1 ho.1) hm, snd_tnin hi.2 ho.2⟩
theorem se_tget2 (ho : SE X K cls true o to fo) (hi : SE X K cls true i ti fi) (he : SE X K cls false e te fe) (hu : X.A.units + 1 < cLine) (hm : M2 X o "get" apos i e cpos := by exact ⟨rfl, rfl, rfl, rfl⟩) :
    SE X K cls m (.Call (.Attribute o "get" apos) [i, e] [] cpos) (tDGet2 to ti te) (eTGet2 fo fi fe) := ⟨pe_dget2 hu ho.1 hi.1 he.1 hm, snd_tget2 ho.2 hi.2 he.2⟩
theorem ss_tset (ho : SE X K cls true o to fo) (hi : SE X K cls true i ti fi) (he : SE X K cls false e te fe) (hu : X.A.units + 1 < cLine) (hs : swapsWith e (some (.Subscript o i p')) pos.line X.env = pure false := by rfl) :
    SS X K cls (.Assign [.Subscript o i p'] e pos) (sDPut to ti te) (sTSet fo fi fe) := ⟨ps_dput hu ho.1 hi.1 he.1 hs, s_tset ho.2 hi.2 he.2⟩
theorem se_pop0 (ho : SE X K cls true o to fo) (hi : SE X K cls true i ti fi) (hs : starEach [i] X.env = (false, eval i X.env) :: starEach [] X.env := by rfl)
    (hbase : attributeBase o "pop" X.env (eval o X.env) = eval o X.env := by rfl)
    (hfew : ((backTo cpos (starEach [i] X.env)).all (fun x => !x.1) && (backToKw cpos (keywordEach [] X.env)).all (fun x => x.1.isSome) && decide ([i].length + ([] : List Keyword).length + (if ([] : List Keyword).isEmpty then 0 else 1) < 30)) = true := by rfl)
    (hline : (apos.endLine == cpos.line) = true := by rfl) (hplain : (backTo cpos (starEach [] X.env)).any (·.1) = false := by rfl) :
    SE X K cls m (.Call (.Attribute o "pop" apos) [i] [] cpos) (tBM K "list" rPopAt to (tCons ti tNil)) (ePop0 fo fi) :=
  by obtain ⟨rfl⟩ := hK; exact ⟨pe_bm PySem.F.plainAttrs_list PySem.F.slot_list_pop PySem.F.type_list_pop mt_popAt ho.1 (pa_cons hi.1 pa_nil hs) hbase hfew hline hs hplain, snd_pop0 ho.2 hi.2⟩
theorem se_notN {j : Nat} {pos' : Pos} (ho : SE X K cls true o to fo) : SE X K cls m (.Compare o [.IsNot] [.Constant .none j pos'] pos) (tNotN to) (e1 oNotN fo) := ⟨pe_cmp (pc_notN ho.1) rfl, snd_notN ho.2⟩
theorem st_tin (hi : SE X K cls true i ti fi) (ho : SE X K cls true o to fo) (hu : X.A.units + 1 < cLine) (hm : behindInMarks .In o = false := by first | exact nomark _ | rfl) : ST X K cls (.Compare i [.In] [o] pos) (tTest (tDIn ti to)) (tE (e2 oTIn fi fo)) := ⟨pt_cmp (pc_din hu hi.1 ho.1) hm, snd_tE (m := true) (snd_tin hi.2 ho.2)⟩
theorem st_tnin (hi : SE X K cls true i ti fi) (ho : SE X K cls true o to fo) (hu : X.A.units + 1 < cLine) (hm : behindInMarks .NotIn o = false := by first | exact nomark _ | rfl) : ST X K cls (.Compare i [.NotIn] [o] pos) (tTest (tDNotIn ti to)) (tE (e2 oTNin fi fo)) := ⟨pt_cmp (pc_dnotin hu hi.1 ho.1) hm, snd_tE (m := true) (snd_tnin hi.2 ho.2)⟩
theorem st_notN {j : Nat} {pos' : Pos} (ho : SE X K cls true o to fo) : ST X K cls (.Compare o [.IsNot] [.Constant .none j pos'] pos) (tTest (tNotN to)) (tE (e1 oNotN fo)) := ⟨pt_cmp (pc_notN ho.1) rfl, snd_tE (m := true) (snd_notN ho.2)⟩
end
/-! an own list is a value from here on -/
section
variable {K : PySem.W.Frag} {cls : Nat → Addr} {ρ : List Addr} {Z : Addr → Prop} {σ : L2.St} {H : Hp} {sl : Sl} {st : Sto} {t : TS} {f : S}
def sFrz (i : Nat) (s : S) : S := fun sl st => match sl[i]? with
  | some (.own xs) => s (sl.set i (.val (.lst xs))) st
  | _ => none
theorem own_frz {i : Nat} {v : Val} {a : Addr} (hi : i < sl.length) (h : Own (sl.set i (.val v)) σ a) : Own sl σ a := by
  obtain ⟨j, ys, h1, h2⟩ := h
  by_cases e : i = j
  · subst e
    rw [List.getElem?_set_self hi] at h1
    cases h1
  · rw [List.getElem?_set_ne e] at h1
    exact ⟨j, ys, h1, h2⟩
theorem Rel.frz {i : Nat} {xs : List Val} (R : Rel K cls ρ Z σ H sl st) (h : sl[i]? = some (.own xs)) : Rel K cls ρ Z σ H (sl.set i (.val (.lst xs))) st := by
  obtain ⟨a, us, h1, h2, h3, h4⟩ := R.owns i xs h
  have hi : i < sl.length := (List.getElem?_eq_some_iff.mp h).1
  have less : ∀ b, AR ρ (ZO Z (sl.set i (.val (.lst xs))) σ) b → AR ρ (ZO Z sl σ) b := fun b z => z.imp id fun z => z.imp id (own_frz hi)
  have hno : ¬ Own (sl.set i (.val (.lst xs))) σ a := by
    rintro ⟨j, ys, k1, k2⟩
    by_cases e : i = j
    · subst e
      rw [List.getElem?_set_self hi] at k1
      cases k1
    · rw [List.getElem?_set_ne e] at k1
      exact e (R.inj i j xs ys a h k1 h1 k2)
  refine ⟨⟨R.s.nd, R.s.len, fun n c b q1 q2 => (R.s.cells n c b q1 q2).mono (Fr.less less) List.prefix_rfl rfl, fun b z => R.s.dom b (less b z), fun b z w => R.s.dis b z (w.imp id (own_frz hi))⟩, by rw [List.length_set]; exact R.slen, fun j v hj => ?_, fun j ys hj => ?_, fun j k ys zs b hj hk => ?_⟩
  · by_cases e : i = j
    · subst e
      rw [List.getElem?_set_self hi] at hj
      cases hj
      refine ⟨.ref a, h1, .lst (.inl ⟨fun z => ?_, .inl h2⟩) (h3.mono (Fr.less less) List.prefix_rfl)⟩
      rcases z with z | z | z
      · exact R.s.dis a z (.inr ⟨i, xs, h, h1⟩)
      · exact h4 z
      · exact hno z
    · rw [List.getElem?_set_ne e] at hj
      obtain ⟨u, k1, k2⟩ := R.slots j v hj
      exact ⟨u, k1, k2.mono (Fr.less less) List.prefix_rfl⟩
  · by_cases e : i = j
    · subst e
      rw [List.getElem?_set_self hi] at hj
      cases hj
    · rw [List.getElem?_set_ne e] at hj
      obtain ⟨b, vs, k1, k2, k3, k4⟩ := R.owns j ys hj
      exact ⟨b, vs, k1, k2, k3.mono (Fr.less less) List.prefix_rfl, k4⟩
  · have ne : ∀ {j : Nat} {ys : List Val}, (sl.set i (.val (.lst xs)))[j]? = some (.own ys) → sl[j]? = some (.own ys) := fun {j ys} q => by
      by_cases e : i = j
      · subst e
        rw [List.getElem?_set_self hi] at q
        cases q
      · rw [List.getElem?_set_ne e] at q
        exact q
    exact R.inj j k ys zs b (ne hj) (ne hk)
theorem s_frz {i : Nat} (h : SndS K cls t f) : SndS K cls t (sFrz i f) := ⟨fun ρ Z σ H sl st r R e D q => by
  unfold sFrz at e
  split at e
  · rename_i xs hx
    have hi : i < sl.length := (List.getElem?_eq_some_iff.mp hx).1
    refine h.run ρ Z σ H _ st r (R.frz hx) e D ?_
    refine q.later List.prefix_rfl ⟨fun a o hn hH => hH, fun a w => .inl (w.imp id (own_frz hi))⟩
  · cases e⟩
theorem ss_frz {X : Cx} {s : Stmt} {i : Nat} (h : SS X K cls s t f) : SS X K cls s t (sFrz i f) := ⟨h.1, s_frz h.2⟩
end
end Mi

set_option Elab.async false
set_option linter.all false
set_option maxRecDepth 100000
set_option maxHeartbeats 2000000
/-! Mi: within an except suite: a list walked, unpacked, a list comprehension, calls. -/
namespace Mi
open PySem PySem.Spec PyProof.Rows L2

/-! ### a list iterator's end, an exception being handled -/
section
variable {prog : Program} {w : World} {A : Around} {E : Value → Shared → Prop} {s : Shared}
theorem stop_hot {it l x1 : Addr} {i : Nat} {items : Array Value} {Q : Option Value → Shared → Prop} (hot : HotX.HotAt A x1 s.heap) (ne : x1 ≠ it)
    (hit : s.heap.IsListIter it l i) (hl : s.heap.IsList l items) (hx : items[i]? = none)
    (hQ : ∀ h', Heap.ExtBut it s.heap h' → Q none { s with heap := h' }) : wpAny (model prog w) A (pyNext (.ref it)) Q E s := by
  have hT := hit.typeIs
  obtain ⟨o, ho, hc, hd⟩ := hit
  obtain ⟨ol, hol, _, nl, hdl⟩ := hl
  obtain ⟨hh, o1, vs1, h1, d1, c1⟩ := hot
  unfold pyNext
  refine wpAny_bind (wpAny_attempt (wpAny_callSpecial?_slot (name := Str.ofString "__next__") hT slot_listiter_next
    (wpAny_call_entry slot_listiter_next hT entry_listiter_next ?_ (args_listiter_next _))))
  show wpAny _ _ (field (.ref it) 0 >>= _) _ _ s
  refine wpAny_bind (wpAny_field ho hd (x := .ref l) rfl ?_)
  show wpAny _ _ (if (Value.ref l == Value.none) = true then _ else _) _ _ s
  rw [if_neg (fun z : (Value.ref l == Value.none) = true => Bool.false_ne_true z)]
  show wpAny _ _ (field (.ref it) 1 >>= _) _ _ s
  refine wpAny_bind (wpAny_field ho hd (x := .int i 0) rfl ?_)
  show wpAny _ _ (seqItems? (.ref l) >>= _) _ _ s
  refine wpAny_bind (wpAny_seqItems hol hdl ?_)
  simp only [Int.toNat_natCast, hx]
  refine wpAny_bind (wpAny_rule (wpAny_bind (wpAny_setField ho hd (by simp) ?_)))
  show wpAny _ _ (newExc (.type "StopIteration") [] >>= _) _ _ _
  refine wpAny_bind ?_
  simp only [newExc, newTuple]
  refine wpAny_bind (wpAny_newObj_type ?_ (by size_fits))
  refine wpAny_bind (m := firstArgMember _ _) (wpAny_of_eq (a := Value.none) (by first | rfl | (simp only [firstArgMember]; rfl)) ?_)
  refine wpAny_newObj_type ?_ (by size_fits)
  refine HotX.raiseNew_hot (x1 := x1) ⟨hh, o1, vs1, Heap.get?_push_of_some _ (Heap.get?_push_of_some _ ((Heap.get?_update_other _ _ (Ne.symm ne)).trans h1)), d1, c1⟩
    (Nat.ne_of_lt (Heap.lt_size (Heap.get?_push_of_some _ ((Heap.get?_update_other _ _ (Ne.symm ne)).trans h1)))) (Heap.get?_push_size _ rfl) rfl (by first | (simp; done) | (simp; omega) | (simp only [Array.size_append]; simp; omega)) ?_
  refine wpAny_bind (wpAny_isInstance (T := "StopIteration") (b := true) ⟨_, Heap.get?_update_self _ (Heap.get?_push_size _ rfl) rfl, rfl⟩ isSubtype_stop ?_)
  refine wpAny_pure (hQ _ fun b ob hb e => ?_)
  refine Eq.trans (Heap.get?_update_other _ _ ?_) (Heap.get?_push_of_some _ (Heap.get?_push_of_some _ ((Heap.get?_update_other _ _ (Ne.symm hb)).trans e)))
  exact Nat.ne_of_gt (Heap.lt_size (Heap.get?_push_of_some _ ((Heap.get?_update_other _ _ (Ne.symm hb)).trans e)))
theorem items_hot {l x1 : Addr} {items : Array Value} {Q : List Value → Shared → Prop} (hot : HotX.HotAt A x1 s.heap) (hl : s.heap.IsList l items)
    (hQ : ∀ h', Heap.ExtBut s.heap.objs.size s.heap h' → Q items.toList { s with heap := h' }) : wpAny (model prog w) A (unpackItems (.ref l) items.size none) Q E s := by
  have ne : l ≠ s.heap.objs.size := hl.elim fun o h => Nat.ne_of_lt (Heap.lt_size h.1)
  obtain ⟨hh, o1, vs1, h1, d1, c1⟩ := hot
  have ne1 : x1 ≠ s.heap.objs.size := Nat.ne_of_lt (Heap.lt_size h1)
  have all : (items.toList.drop 0).take items.size = items.toList := by
    rw [List.drop_zero]
    exact List.take_of_length_le (by simp)
  unfold unpackItems
  refine wpAny_bind ?_
  · unfold notIterableAtAll
    refine wpAny_bind (wpAny_specialOf hl.typeIs slot_list_iter.lookup (wpAny_pure ?_))
    simp only [Bool.false_eq_true, if_false]
    refine wpAny_bind (wpAny_holding (wpAny_pyIter_list hl ?_))
    refine wpAny_bind (wpAny_holding (PySem.W.kun_draw ne items.size 0 _ _ ⟨_, Heap.get?_push_size _ rfl, rfl, rfl⟩ (hl.push _) (by omega) fun h1' it1 sb => ?_))
    rw [all, if_neg (by simp)]
    have k1 := sb.extBut x1 o1 ne1 (Heap.get?_push_of_some _ h1)
    refine wpAny_bind (wpAny_holding (stop_hot ⟨hh, o1, vs1, k1, d1, c1⟩ ne1 it1 ((hl.push _).extBut sb.extBut ne) (by simp) fun h2' ex => ?_))
    simp only [Option.isSome_none, Bool.false_eq_true, if_false]
    exact wpAny_pure (hQ h2' fun b o hb e => ex b o hb (sb.extBut b o hb (Heap.get?_push_of_some _ e)))
end

/-! ### the handled exception among the pins -/
section
variable {X : Cx}
theorem hotAt {pins : List (Addr × Obj)} {σ : L2.St} {H : Hp} {s : Shared} (c : L2H.HotC X) (I : Inv X pins σ H s) : ∃ x1, HotX.HotAt X.A x1 s.heap ∧ ∀ b, FpOk X pins H b → x1 ≠ b := by
  obtain ⟨p, ⟨hh, vs, e, c⟩, hp⟩ := c
  have hp' := List.mem_append_left pins hp
  exact ⟨p.1, ⟨hh, p.2, vs, (I.pin p hp').1, e, c⟩, fun b h => h.2.2.2.2.2 p hp'⟩
/-- a list walked -/
theorem turn_hot {P : Program} {w : World} {K : PySem.W.Frag} {tg : Expr} (a it : Addr) : L2H.TurnH P w K tg (Itl K a) [it] it (fun i h => h.IsListIter it a i) where
  mem := List.mem_singleton.mpr rfl
  obj := fun i h st b hb => by
    rw [List.mem_singleton.mp hb]
    obtain ⟨o, e, _, d⟩ := st
    exact ⟨o, e, fun v z => nomatch d.symm.trans z⟩
  keep := fun i h h' st k => st.at fun o e => k it (List.mem_singleton.mpr rfl) o e
  item := by
    intro X hP hw hK _ i pins s σ H E I hf st hg
    subst hP hw hK
    obtain ⟨xs, x, hq, hx⟩ := hg
    obtain ⟨its, rv, p, _⟩ := I.list hq
    obtain ⟨u, hu, ru⟩ := rv.get hx
    have f := hf it (List.mem_singleton.mpr rfl)
    refine wpAny_pyNext_list_item st p.isList (x := u) (by simpa using hu) fun h' st' sb => ?_
    have J : Inv X pins σ H { s with heap := h' } := I.turned (t' := s.toks) (fun b o hb e => (sb.2 b hb).trans e) f.1 f.2.1 f.2.2.2.1 f.2.2.2.2.1 f.2.2.2.2.2
    have st2 := st'
    obtain ⟨o, e, c, d⟩ := st2
    exact ⟨u, rfl, go_of (s := { s with heap := h' }) e c d (by decide) ⟨x, H, J, ru, ⟨rfl, fun ys hy => (by rw [I.list_inj hy hq]; exact hx)⟩, st', fun b hb => (hf b hb).1⟩⟩
  done := by
    intro X hP hw hK hc i pins s σ H E I hf st hg
    subst hP hw hK
    obtain ⟨xs, hq, hx⟩ := hg
    obtain ⟨its, rv, p, _⟩ := I.list hq
    have f := hf it (List.mem_singleton.mpr rfl)
    have hl := rv.length
    obtain ⟨x1, hot, ne⟩ := hotAt hc I
    exact stop_hot hot (ne it f) st p.isList (by simp; omega) fun h' eb => ⟨rfl, I.turned (t' := s.toks) (fun b o hb e => eb b o hb e) f.1 f.2.1 f.2.2.2.1 f.2.2.2.2.1 f.2.2.2.2.2⟩
  self := fun _ _ _ _ _ st h => wpAny_pyIter_listiter st h
theorem pi_listH {tg l : Expr} {tl : TE} (hl : PE X l tl) : L2H.PIH X tg l (iList X.K tl) := ⟨fun pins s σ H R I h => by
  refine thn (hl.run pins s σ H _ I h) fun v s1 h1 => ?_
  obtain ⟨x, H1, I1, r1, a, rfl, ⟨xs, hq⟩, q⟩ := h1
  cases r1
  obtain ⟨its, _, p, _⟩ := I1.list hq
  refine wpAny_pyIter_list p.isList ⟨s1.heap.objs.size, [s1.heap.objs.size], _, _, H1, rfl, I1.kept (t' := s1.toks) fun b o e => Heap.get?_push_of_some _ e, turn_hot a _, ⟨_, Heap.get?_push_size _ rfl, rfl, rfl⟩, fun b hb => ?_, q⟩
  rw [List.mem_singleton.mp hb]
  exact I1.fpOk (Nat.le_refl _) (I1.hok.fresh (Nat.le_refl _))⟩
/-- a list unpacked -/
theorem pg_unlH {es : List Expr} {k : Nat} {t : TGs} {n : Nat} {pos : Pos} (hc : L2H.HotC X) (h : PGs X es t) (hn : (assignEach es X.env).length = n := by rfl) (hst : (assignEach es X.env).findIdx? (·.1) = none := by rfl) :
    PG X (.Tuple es k pos) (L2.gUnl X.K n t) := ⟨fun pins s σ H v u Q I r hw => by
  obtain ⟨a, xs, rfl, hq, hl, hw⟩ := hw
  cases r
  obtain ⟨its, rv, ⟨o, m, e, c, d, q⟩, _⟩ := I.list hq
  obtain ⟨x1, hot, _⟩ := hotAt hc I
  have sz : (assignEach es X.env).length = its.toArray.size := by rw [hn, ← hl, rv.length]; simp
  rw [PyProof.Rows.assign_Tuple]
  refine wpAny_bind (wpAny_standAt ?_)
  unfold unpack
  rw [sz, hst]
  refine wpAny_bind (wpAny_holding (items_hot hot ⟨o, e, c, m, q⟩ fun h' hx => ?_))
  exact h.run pins _ σ H xs _ Q (I.kept (t' := s.toks) fun b o e => hx b o (Nat.ne_of_lt (Heap.lt_size e)) e) (by simpa using rv) hw⟩
end

/-! ### a list comprehension -/
section
variable {X : Cx} {pins : List (Addr × Obj)} {σ : L2.St} {H : Hp} {s : Shared}
/-- the block's context, the pins kept -/
abbrev blkH (X : Cx) (s : Shared) (H : Hp) (scope : Scope) (cenv : Env) (fp : List Addr) : Cx := { X.blk s H scope cenv fp with pn := X.pn }
theorem blkH_start {scope : Scope} {own : List (Str × Nat)} {fp : List Addr} (I : Inv X pins σ H s) (ok : BlkOk X.N X.env.scope scope own) (hN : X.N.Nodup) (hfp : ∀ b ∈ fp, FpOk X pins H b ∧ b < s.heap.objs.size) :
    Inv (blkH X s H scope (compEnvC scope (cellsFrom (s.heap.objs.size + 1) scope.names (cloFrom X.env.cells scope.names [])) s.heap.objs.size X.env) fp) [] (L2.wipe σ (own.map (·.2))) H { s with heap := pushCells (s.heap.push { cls := .type "dict", data := .dict #[] }) scope.names } := by
  have J := block_start I ok hN hfp
  have O := J.ok
  refine ⟨⟨O.mod, O.kind, O.glob, O.blt, O.above, O.inj, O.has, O.cab, O.hd, O.frames, O.stk, O.exf, O.bs, O.bsz, O.noex, O.exfs, O.funs, O.frf⟩, J.os, J.bare, J.base, J.loc, J.cell, J.free, J.freeC, fun p hp => ?_, J.hok, J.len⟩
  rw [List.append_nil] at hp
  have P := I.pin p (List.mem_append_left _ hp)
  exact ⟨pushCells_keeps _ _ _ _ (Heap.get?_push_of_some _ P.1), P.2.1, Nat.ne_of_lt (Heap.lt_size P.1), fun hm => (List.mem_cons.mp (I.stkSub p.1 hm)).elim P.2.2.1 P.2.2.2.1, P.2.2.2.2⟩
theorem thnB {α : Type} {t : Sem α} {Q Q' : α → Shared → Prop} {M : Model} {A : Around} {E F : Value → Shared → Prop} {s : Shared} (h : wpAny M A t Q E s) (hE : E = fun _ _ => False) (hQ : ∀ a s, Q a s → Q' a s) : wpAny M A t Q' F s := by
  subst hE
  exact wpAny_mono h hQ fun _ _ z => z.elim
/-- the block's loop -/
theorem loop_hot {B : Cx} {vs : List Nat} {σ0 σw : L2.St} {fp : List Addr} {it D : Addr} {tn : Nat → Heap → Prop} {J : It} {tg elt iter : Expr} {ifs : List Expr} {scope : Scope} {pos : Pos} {g : TG} {tt : TT} {te : TE} {R : Result → Shared → Prop} {Qs : Hp → Prop} {W : Nat → Nat → Hp → Prop}
    (hw : L2.wipe σ0 vs = σw) (hB : L2H.HotC B) (hx : B.xe = fun _ _ => False) (T : L2H.TurnH B.prog B.w B.K tg J fp it tn) (sta : ∀ b ∈ fp, ∀ H : Hp, H b = none → FpOk B [] H b) (pg : PG B tg g) (pt : PTs B ifs tt) (pe : PE B elt te)
    (turn : ∀ i m H, W i m H → (J.stop i H ∧ Qs H) ∨ (J.go i H ∧ ∃ Nx : Hp → Prop, (∀ H', Nx H' → ∃ m', m' < m ∧ W (i + 1) m' H') ∧ ∀ x H', J.yld i H x H' → g x σw H' fun σ2 H2 => L2.wipe σ2 vs = σw ∧ tt σ2 H2 fun b H3 =>
      if b = true then te σ2 H3 fun y H4 => ∃ acc, H4 D = some (.lst acc) ∧ acc.length < sizeLine ∧ Nx (upd H4 D (.lst (acc ++ [y]))) else Nx H3))
    (fin : ∀ H s, Inv B [] σw H s → Qs H → R (.ok .next) s) {n : Nat} {H : Hp} {s : Shared} (I : Inv B [] σw H s) (st : tn 0 s.heap) (fr : ∀ b ∈ fp, H b = none) (w0 : W 0 n H) :
    codeAny (model B.prog B.w) B.A (.compLoop (.ListComp elt [⟨tg, iter, ifs, 0⟩] scope pos) 0 (.ref it) (.ref D) B.env) R s := by
  refine compLoop_any (fun n s => ∃ i H, Inv B [] σw H s ∧ tn i s.heap ∧ (∀ b ∈ fp, H b = none) ∧ W i n H) ?_ n ⟨0, H, I, st, fr, w0⟩
  rintro n s ⟨i, H, I, st, fr, w0⟩
  have F : ∀ {H : Hp}, (∀ b ∈ fp, H b = none) → ∀ b ∈ fp, FpOk B [] H b := fun z b hb => sta b hb _ (z b hb)
  cases turn i n H w0 with
  | inl q =>
    refine thnF (T.done B rfl rfl rfl hB i [] s σw H (fun _ _ => False) I (F fr) st q.1) fun r s1 h1 => ?_
    obtain ⟨e, I1⟩ := h1
    subst e
    exact fin H s1 I1 q.2
  | inr q =>
    obtain ⟨go, Nx, hN, step⟩ := q
    refine thnF (T.item B rfl rfl rfl hB i [] s σw H (fun _ _ => False) I (F fr) st go) fun r s1 h1 => ?_
    obtain ⟨u, e, h1⟩ := h1
    subst e
    refine thnF h1 fun _ s2 h2 => ?_
    obtain ⟨x, H2, I2, r2, y2, st2, fr2⟩ := h2
    have ob := T.obj _ _ st2
    have I2' := I2.pinned (F fr2) ob
    refine thnB (pg.run _ s2 _ H2 x u _ I2' r2 (step x H2 y2)) hx fun _ s3 h3 => ?_
    obtain ⟨σ3, H3, I3, ew, q3⟩ := h3
    refine thnB (pt.run _ s3 σ3 H3 _ I3 q3) hx fun b s4 h4 => ?_
    obtain ⟨H4, I4, q4⟩ := h4
    have back : ∀ {s' : Shared} {H' : Hp}, Inv B ([] ++ pinsAt fp s2.heap) σ3 H' s' → Nx H' → ∃ m, m < n ∧ ∃ i H, Inv B [] σw H s' ∧ tn i s'.heap ∧ (∀ b ∈ fp, H b = none) ∧ W i m H := fun {s' H'} I' nx => by
      obtain ⟨m, hm, w'⟩ := hN H' nx
      have pin : ∀ b ∈ fp, ∀ o, s2.heap.get? b = some o → s'.heap.get? b = some o ∧ H' b = none := fun b hb o e =>
        (I'.pin (b, o) (List.mem_append_right _ (List.mem_append_right _ (mem_pinsAt hb e)))).imp id And.left
      refine ⟨m, hm, i + 1, H', (I'.unpinned (pins := [])).weak (by rw [← ew, wipe_length]) fun j v e => ?_, T.keep _ _ _ st2 fun b hb o e => (pin b hb o e).1, fun b hb => ?_, w'⟩
      · rw [← ew] at e
        exact (wipe_some e).1
      · obtain ⟨o, e, _⟩ := ob b hb
        exact (pin b hb o e).2
    cases b with
    | false =>
      rw [if_neg Bool.false_ne_true] at q4
      rw [if_neg Bool.false_ne_true]
      exact back I4 q4
    | true =>
      rw [if_pos rfl] at q4
      rw [if_pos rfl]
      refine thnB (pe.run _ s4 σ3 H4 _ I4 q4) hx fun z s5 h5 => ?_
      obtain ⟨yv, H5, I5, r5, acc, hD, hz, nx⟩ := h5
      exact app_ok (X := B) I5 hD hz r5 fun s6 I6 => back I6 nx
theorem pe_lcH {elt tg iter : Expr} {ifs : List Expr} {scope : Scope} {own : List (Str × Nat)} {pos : Pos} {wi : TI} {g : TG} {tt : TT} {te : TE} (hc : L2H.HotC X) (hN : X.N.Nodup) (hi : L2H.PIH X tg iter wi) (ok : BlkOk X.N X.env.scope scope own)
    (hg : ∀ (s : Shared) (H : Hp) (C : Addr) (cl : List (Str × Addr)) (fp : List Addr), PG (blkH X s H scope (compEnvC scope cl C X.env) fp) tg g)
    (ht : ∀ (s : Shared) (H : Hp) (C : Addr) (cl : List (Str × Addr)) (fp : List Addr), PTs (blkH X s H scope (compEnvC scope cl C X.env) fp) ifs tt)
    (he : ∀ (s : Shared) (H : Hp) (C : Addr) (cl : List (Str × Addr)) (fp : List Addr), PE (blkH X s H scope (compEnvC scope cl C X.env) fp) elt te)
    (hs : ∀ x, foldedSetIterable iter X.env x = pure x := by intro _; rfl) :
    PE X (.ListComp elt [⟨tg, iter, ifs, 0⟩] scope pos) (tLc wi g tt te (own.map (·.2))) := ⟨fun pins s σ H Q I h => by
  rw [eval_ListComp]
  have hfree : ∀ y ∈ scope.names, y.2 = .free → ∃ c, X.env.cells.lookup y.1 = some c := fun y hy e => I.ok.has _ (ok.free y hy e)
  refine wpAny_comprehension_free rfl hs (closure_ok hfree) ok.kind (fun y hy e => by rw [ok.uniq y hy, e]) (thn (hi.run pins s σ H _ I h) fun xv s1 h1 => thn h1 fun itv s2 h2 => ?_)
  obtain ⟨it, fp, tn, J, H2, e, I2, T, st2, f2, q⟩ := h2
  subst e
  refine wpAny_newObj_type (newEnv_comp ?_) (by show 0 ≤ sizeLine; decide)
  -- the new list at D
  obtain ⟨D, hD⟩ : ∃ D, D = s2.heap.objs.size := ⟨_, rfl⟩
  have nD : H2 D = none := I2.hok.fresh (Nat.le_of_eq hD.symm)
  obtain ⟨W, ⟨m0, w0⟩, turn⟩ := q D nD
  obtain ⟨s3, e3⟩ : ∃ s3 : Shared, s3 = { s2 with heap := s2.heap.push { cls := .type "list", data := .seq ([] : List Value).toArray } } := ⟨_, rfl⟩
  have h3 : s3.heap = s2.heap.push { cls := .type "list", data := .seq ([] : List Value).toArray } := by rw [e3]
  have k3 : ∀ b o, s2.heap.get? b = some o → s3.heap.get? b = some o := fun b o e => by rw [h3]; exact Heap.get?_push_of_some _ e
  have I3 : Inv X pins σ (upd H2 D (.lst [])) s3 := by
    rw [e3]
    refine I2.laid (t' := s2.toks) (fun b o e => Heap.get?_push_of_some _ e) (Nat.le_of_eq hD.symm) ⟨Nat.zero_le _, [], 0, .nil, ?_⟩
    rw [hD]
    exact Heap.get?_push_size _ rfl
  have f3 : ∀ b ∈ fp, FpOk X pins (upd H2 D (.lst [])) b ∧ b < s3.heap.objs.size := fun b hb => by
    obtain ⟨o, e, _⟩ := T.obj _ _ st2 b hb
    have lt := Heap.lt_size e
    refine ⟨⟨?_, (f2 b hb).2⟩, Heap.lt_size (k3 b o e)⟩
    rw [upd_ne (by rw [hD]; exact Nat.ne_of_lt lt)]
    exact (f2 b hb).1
  have I4 := blkH_start I3 ok hN f3
  have pg := hg s3 (upd H2 D (.lst [])) s3.heap.objs.size (cellsFrom (s3.heap.objs.size + 1) scope.names (cloFrom X.env.cells scope.names [])) fp
  have pt := ht s3 (upd H2 D (.lst [])) s3.heap.objs.size (cellsFrom (s3.heap.objs.size + 1) scope.names (cloFrom X.env.cells scope.names [])) fp
  have pe := he s3 (upd H2 D (.lst [])) s3.heap.objs.size (cellsFrom (s3.heap.objs.size + 1) scope.names (cloFrom X.env.cells scope.names [])) fp
  rw [← e3, ← hD]
  obtain ⟨ce, hce⟩ : ∃ ce, ce = compEnvC scope (cellsFrom (s3.heap.objs.size + 1) scope.names (cloFrom X.env.cells scope.names [])) s3.heap.objs.size X.env := ⟨_, rfl⟩
  have cL : ce.locals = s3.heap.objs.size := by rw [hce]; rfl
  show codeAny _ _ (.compStart (.ListComp elt [⟨tg, iter, ifs, 0⟩] scope pos) 0 (.ref it) (.ref D) (compEnvC scope (cellsFrom (s3.heap.objs.size + 1) scope.names (cloFrom X.env.cells scope.names [])) s3.heap.objs.size X.env)) _ { s3 with heap := pushCells (s3.heap.push { cls := .type "dict", data := .dict #[] }) scope.names }
  rw [← hce] at I4 pg pt pe ⊢
  obtain ⟨H3, e4⟩ : ∃ H3, H3 = upd H2 D (.lst []) := ⟨_, rfl⟩
  rw [← e4] at I3 I4 pg pt pe f3 w0
  obtain ⟨s4, e5⟩ : ∃ s4 : Shared, s4 = { s3 with heap := pushCells (s3.heap.push { cls := .type "dict", data := .dict #[] }) scope.names } := ⟨_, rfl⟩
  rw [← e5] at I4 ⊢
  have st4 : tn 0 s4.heap := T.keep _ _ _ st2 fun b _ o e => by rw [e5]; exact pushCells_keeps _ _ _ _ (Heap.get?_push_of_some _ (k3 b o e))
  have sta : ∀ b ∈ fp, ∀ H : Hp, H b = none → FpOk (blkH X s3 H3 scope ce fp) [] H b := fun b hb H z =>
    ⟨z, (I4.ok.exf b hb).1, I4.ok.exfs b hb, .inl hb, (I4.ok.exf b hb).2, fun p hp => (f3 b hb).1.2.2.2.2.2 p (List.mem_append_left _ (by rw [List.append_nil] at hp; exact hp))⟩
  refine codeAny_compStart_list ?_ (T.self X.A 0 _ _ _ st4 ?_) <;>
  · refine loop_hot (B := blkH X s3 H3 scope ce fp) rfl hc rfl T sta pg pt pe turn (fun H' s' I' q' => ?_) I4 st4 (fun b hb => (f3 b hb).1.1) w0
    have I7 : Inv X pins σ H' s' := I3.call' (ch := fp) I'.os I'.base I'.hok I'.bare fun b hb => ⟨(f3 b hb).1.2.2.2.1, (f3 b hb).1.2.1, (f3 b hb).1.2.2.2.2.1, (f3 b hb).1.2.2.2.2.2⟩
    have nC : H' s3.heap.objs.size = none := by
      have z : H' ce.locals = none := I'.free
      rw [cL] at z
      exact z
    obtain ⟨m, hn, _⟩ := I'.loc
    have hn : s'.heap.Ns ce.locals m := hn
    rw [cL] at hn
    obtain ⟨f0, f1, _, f3', f4, f5⟩ := I3.fpOk (H' := H') (Nat.le_refl _) nC
    refine ⟨m, hn, fun h'' sb => ?_⟩
    have sb : Heap.SameBut s3.heap.objs.size s'.heap h'' := sb
    exact ⟨.ref D, H', I7.turned (t' := s'.toks) (fun b o hb e => (sb.2 b hb).trans e) f0 f1 f3' f4 f5, rfl, q'⟩⟩
end
end Mi

set_option Elab.async false
set_option linter.all false
set_option maxRecDepth 100000
set_option maxHeartbeats 2000000
/-! Mi: words within an except suite; a def that may raise; try .. except. -/
namespace Mi
open PySem PySem.Spec PyProof.Rows L2
variable [Gam]

/-! ### rooms within a suite -/
section
variable {A : Around} {k : Nat}
theorem rH_mark {x : Option Value} (hr : Room k A) : L2H.RoomH k (A.mark x) := ⟨hr.dp, by rw [Around.mark_units]; exact hr.un⟩
theorem hH64 (hr : L2H.RoomH k A) : A.units + 64 < cLine := by have := hr.un; omega
theorem hH65 (hr : L2H.RoomH k A) : A.units + 65 < cLine := by have := hr.un; omega
end

/-! ### what a def promises there -/
structure CalH (P : Program) (w : World) (K : PySem.W.Frag) (mg : Str → Option Value) (base : Heap) (k : Nat) (x : Str) (sp : Sp) : Prop where
  ex : ∃ (f : Addr) (fd : FuncData) (ps : List Str), L2H.FnH P w K mg base CX0 k f fd ps sp ∧ mg x = some (.ref f) ∧ PySem.W.keepIn K (.ref f) = true ∧ Binds K fd ps []
structure MetH (P : Program) (w : World) (K : PySem.W.Frag) (mg : Str → Option Value) (base : Heap) (k : Nat) (C : Addr) (m : Str) (sp : Sp) : Prop where
  ex : ∃ (f : Addr) (fd : FuncData) (ps : List Str), Cls K C ∧ Meth K C m f ∧ L2H.FnH P w K mg base CX0 k f fd ps sp ∧ Binds K fd ps []
theorem pass0S {X : Cx} {σ : L2.St} : PassesAt CX0 X σ E0 := fun _ _ _ _ _ _ h => h.elim
/-- nothing is promised -/
def mNone : F := fun _ _ => none
theorem metH_none {P : Program} {w : World} {K : PySem.W.Frag} {mg : Str → Option Value} {base : Heap} {k : Nat} {C f : Addr} {m : Str} {fd : FuncData} {ps : List Str} {cls : Nat → Addr} (c : Cls K C) (me : Meth K C m f) (b : Binds K fd ps []) : MetH P w K mg base k C m (spM K cls mNone) :=
  ⟨f, fd, ps, c, me, ⟨fun vs H Q E h => (by obtain ⟨_, _, _, _, _, _, _, _, e, _⟩ := h; cases e), fun A outer s H args us vs Q E p _ _ _ _ _ _ h => (by obtain ⟨_, _, _, _, _, _, _, _, e, _⟩ := h; cases e)⟩, b⟩

section
variable {X : Cx} {K : PySem.W.Frag} [hK : KX X K] {cls : Nat → Addr} {m m' : Bool} {a b c e o tg iter elt : Expr} {es : List Expr} {ta tb tc te to : TE} {fa fb fc fe fo : E} {pos p p' p2 apos cpos : Pos} {t : TA} {f : L} {fl : L} {j k : Nat} {x y nm : Str} {mm mm' : F} {C C' : Nat}
abbrev SIH (X : Cx) (K : PySem.W.Frag) (cls : Nat → Addr) (tg e : Expr) (t : TI) (f : I) : Prop := L2H.PIH X tg e t ∧ SndI K cls t f
/-- lists alone -/
def iSeqL (e : E) : I := fun sl st => (e sl st).bind fun p => (viewQ p.2 p.1).bind fun _ => some (.seq p.1, p.2)
theorem snd_iSeqL (ha : Snd K cls false ta fa) : SndI K cls (iList K ta) (iSeqL fa) := ⟨fun ρ Z σ H sl st src st' R e Q q => by
  obtain ⟨p, e1, e⟩ := bind_some e
  obtain ⟨xs, e2, e⟩ := bind_some e
  cases e
  refine ha.run ρ Z σ H sl st p.1 p.2 R e1 _ fun u ρ1 H1 R1 x1 r1 => ?_
  obtain ⟨a, us, rfl, r2, r3⟩ := viewQ_of R1 r1 e2
  exact ⟨a, rfl, ⟨us, r2⟩, q _ ρ1 H1 R1 x1 (.seqL r1.rep fun ys h => by rw [h] at e2; cases e2)⟩⟩
theorem si_seqH (h : SE X K cls false e te fe) : SIH X K cls tg e (iList K te) (iSeqL fe) := by obtain ⟨rfl⟩ := hK; exact ⟨pi_listH h.1, snd_iSeqL h.2⟩
theorem si_rg1H (bt : Bt X.mg) (h : SE X K cls true a ta fa) (hg : Gl X "range" := by rfl) (hs : starEach [a] X.env = [(false, eval a X.env)] := by rfl) (hs2 : starEach [a] X.env = (false, eval a X.env) :: starEach [] X.env := by rfl) :
    SIH X K cls tg (.Call (.Name "range" p) [a] [] pos) (iRng1 (tCons ta tNil)) (iRg1 fa) := by obtain ⟨rfl⟩ := hK; exact ⟨L2H.pi_range1H hg bt.range (pa_cons h.1 pa_nil hs2) hs, snd_iRg1 h.2⟩
theorem sg_unlH {is : List Nat} {kk n : Nat} {ts : TGs} {fs : Gs} (h : SGs X K cls is es ts fs) (hc : L2H.HotC X) (hn : (assignEach es X.env).length = n := by rfl) (hst : (assignEach es X.env).findIdx? (·.1) = none := by rfl) :
    SG X K cls is (.Tuple es kk pos) (L2.gUnl K n ts) (gUnl n fs) := by obtain ⟨rfl⟩ := hK; exact ⟨pg_unlH hc h.1 hn hst, snd_unl h.2⟩
section
variable {scope : Scope} {own : List (Str × Nat)} {ifs : List Expr} {wi : TI} {fi : I} {is : List Nat} {g : TG} {fg : G} {tt : TT} {ft : T}
theorem sl_lcH (own : List (Str × Nat)) (hc : L2H.HotC X) (hN : X.N.Nodup) (hi : SIH X K cls tg iter wi fi) (ok : blkC X.N X.env.scope scope own = true) (his : ∀ i ∈ is, i ∈ own.map (·.2))
    (hg : ∀ (s : Shared) (H : Hp) (C : Addr) (cl : List (Str × Addr)) (fp : List Addr), KX (blkH X s H scope (compEnvC scope cl C X.env) fp) K → SG (blkH X s H scope (compEnvC scope cl C X.env) fp) K cls is tg g fg)
    (ht : ∀ (s : Shared) (H : Hp) (C : Addr) (cl : List (Str × Addr)) (fp : List Addr), KX (blkH X s H scope (compEnvC scope cl C X.env) fp) K → STs (blkH X s H scope (compEnvC scope cl C X.env) fp) K cls ifs tt ft)
    (he : ∀ (s : Shared) (H : Hp) (C : Addr) (cl : List (Str × Addr)) (fp : List Addr), KX (blkH X s H scope (compEnvC scope cl C X.env) fp) K → SE (blkH X s H scope (compEnvC scope cl C X.env) fp) K cls false elt te fe)
    (hs : ∀ x, foldedSetIterable iter X.env x = pure x := by intro _; rfl) :
    SL X K cls (.ListComp elt [⟨tg, iter, ifs, 0⟩] scope pos) (tLc wi g tt te (own.map (·.2))) (lComp fi (own.map (·.2)) fg ft fe) :=
  by obtain ⟨rfl⟩ := hK; exact ⟨pe_lcH hc hN hi.1 (blkOk_by ok) (fun s H C cl fp => (hg s H C cl fp ⟨rfl⟩).1) (fun s H C cl fp => (ht s H C cl fp ⟨rfl⟩).1) (fun s H C cl fp => (he s H C cl fp ⟨rfl⟩).1) hs,
    snd_lc hi.2 (hg X.s_0 (fun _ => none) 0 [] [] ⟨rfl⟩).2 his (ht X.s_0 (fun _ => none) 0 [] [] ⟨rfl⟩).2 (he X.s_0 (fun _ => none) 0 [] [] ⟨rfl⟩).2⟩
end
theorem tCallS_eq {sp : Sp} {EE : XK} : tCallS sp (fun _ => EE) t = tCall sp [] EE t := by unfold tCallS tCall; simp only [List.append_nil]
theorem tMethH_eq {A : Addr} {sp : Sp} {EE : XK} : L2H.tMethH A nm sp (fun _ => EE) ta t = tMeth A nm sp [] EE ta t := by unfold L2H.tMethH tMeth; simp only [List.append_nil]
theorem se_callH (c : CalH X.prog X.w K X.mg X.base k x (spM K cls mm)) (hr : L2H.RoomH j X.A) (hc : L2H.HotC X) (ha : SA X K cls false (e :: es) t f) (hk : k ≤ j := by decide) (hg : Gl X x := by rfl)
    (hdb : (x == ("__debug__" : Str)) = false := by decide) (he : starEach (e :: es) X.env = (false, eval e X.env) :: starEach es X.env := by rfl) (hpl : (backTo pos (starEach es X.env)).any (·.1) = false := by rfl) :
    SE X K cls m (.Call (.Name x p) (e :: es) [] pos) (tCallS (spM K cls mm) (fun _ => E0) t) (eCall mm f) := by
  obtain ⟨rfl⟩ := hK
  obtain ⟨f, fd, ps, F, hm, kp, b⟩ := c.ex
  exact ⟨L2H.pe_callH F (hr.mono hk) hc hg hm kp b (fun σ => pass0S) ha.1 hdb he hpl, by rw [tCallS_eq]; exact snd_call ha.2⟩
theorem se_methH {pl : Sem Bool} (c : MetH X.prog X.w K X.mg X.base k (cls C) nm (spM K cls mm)) (hr : L2H.RoomH j X.A) (hc : L2H.HotC X) (ho : SE X K cls true o to fo) (ha : SA X K cls false (e :: es) t f) (hn : nm ∉ nms C) (hk : k ≤ j := by decide)
    (hst : starEach (e :: es) X.env = (false, eval e X.env) :: starEach es X.env := by rfl) (hpl : (backTo pos (starEach es X.env)).any (·.1) = false := by rfl)
    (ht : eval (.Call (.Attribute o nm apos) (e :: es) [] pos) X.env = (do
      let ov ← eval o X.env
      standAt apos.atName
      let (f, first) ← holding [ov] (getMethod ov nm pl)
      callWith pos f first (backTo pos (starEach (e :: es) X.env)) (backToKw pos (keywordEach [] X.env))) := by rfl) :
    SE X K cls m (.Call (.Attribute o nm apos) (e :: es) [] pos) (L2H.tMethH (cls C) nm (spM K cls mm) (fun _ => E0) to t) (eMeth C mm fo f) := by
  obtain ⟨rfl⟩ := hK
  obtain ⟨f, fd, ps, hC, hm, F, b⟩ := c.ex
  exact ⟨L2H.pe_methH (pl := pl) ho.1 hC hm F (hr.mono hk) hc b (fun σ => pass0S) ha.1 hst hpl ht, by rw [tMethH_eq]; exact snd_meth ho.2 ha.2 hn⟩
theorem ss_forH {body : List Stmt} {tu : TS} {fu : S} {wi : TI} {fi : I} {is : List Nat} {g : TG} {fg : G} (hi : SIH X K cls tg iter wi fi) (hg : SG X K cls is tg g fg) (hb : SSs X K cls body tu fu) (hc : L2H.HotC X) (hp : PassesOwn (model X.prog X.w) X.A X.env X.xe := by exact PassesOwn.never)
    (hs : ∀ x, foldedSetIterable iter X.env x = pure x := by intro _; rfl) : SS X K cls (.For tg iter body [] pos) (tFor wi g tu) (sFor fi fg fu) := by obtain ⟨rfl⟩ := hK; exact ⟨L2H.ps_forH hp hc hi.1 hg.1 hb.1 hs, s_for hi.2 hg.2 hb.2⟩
end
end Mi

set_option Elab.async false
set_option linter.all false
set_option maxRecDepth 100000
set_option maxHeartbeats 2000000
/-! Mi: a def that may raise, try .. except. -/
namespace Mi
open PySem PySem.Spec PyProof.Rows L2
variable [Gam]

/-- an expression's end: a value, or an exception of class c -/
inductive XRes where
  | val (d : Val) (st : Sto) | exc (c : Nat) (st : Sto)
inductive XOut where
  | out (o : Out) (sl : Sl) (st : Sto) | exc (c : Nat) (sl : Sl) (st : Sto)
abbrev EX := Sl → Sto → Option XRes
abbrev SX := Sl → Sto → Option XOut
abbrev FX := List Val → Sto → Option XRes

section
variable {K : PySem.W.Frag} {cls : Nat → Addr}
def AfterX (K : PySem.W.Frag) (cls : Nat → Addr) (ρ : List Addr) (Z : Addr → Prop) (σ : L2.St) (H : Hp) (sl : Sl) (D : Ends) (W : WX) : XOut → Prop
  | .out o sl' st' => After K cls ρ Z σ H sl D (o, sl', st')
  | .exc c sl' st' => ∀ σ' ρ' H', Rel K cls ρ' Z σ' H' sl' st' → ρ <+: ρ' → Fr (WO ρ sl σ) H (WO ρ' sl' σ') H' → W (.ref (cls c)) none σ' H'
structure SndSX (K : PySem.W.Frag) (cls : Nat → Addr) (t : WX → TS) (f : SX) : Prop where
  run : ∀ (ρ : List Addr) (Z : Addr → Prop) (σ : L2.St) (H : Hp) (sl : Sl) (st : Sto) (r : XOut), Rel K cls ρ Z σ H sl st → f sl st = some r → ∀ (D : Ends) (W : WX), AfterX K cls ρ Z σ H sl D W r → t W D σ H
def AfterE (K : PySem.W.Frag) (cls : Nat → Addr) (m : Bool) (ρ : List Addr) (Z : Addr → Prop) (σ : L2.St) (H : Hp) (sl : Sl) (Q : VK) (W : WX) : XRes → Prop
  | .val d st' => ∀ u ρ' H', Rel K cls ρ' Z σ H' sl st' → Ext ρ H ρ' H' → RepM K m ρ' Z σ H' sl d u → Q u H'
  | .exc c st' => ∀ ρ' H', Rel K cls ρ' Z σ H' sl st' → Ext ρ H ρ' H' → W (.ref (cls c)) none σ H'
structure SndEX (K : PySem.W.Frag) (cls : Nat → Addr) (m : Bool) (t : WX → TE) (f : EX) : Prop where
  run : ∀ (ρ : List Addr) (Z : Addr → Prop) (σ : L2.St) (H : Hp) (sl : Sl) (st : Sto) (r : XRes), Rel K cls ρ Z σ H sl st → f sl st = some r → ∀ (Q : VK) (W : WX), AfterE K cls m ρ Z σ H sl Q W r → t W σ H Q
abbrev SEX (X : Cx) (W : WX) (K : PySem.W.Frag) (cls : Nat → Addr) (m : Bool) (e : Expr) (t : WX → TE) (f : EX) : Prop := PE X e (t W) ∧ SndEX K cls m t f
abbrev SSX (X : Cx) (W : WX) (K : PySem.W.Frag) (cls : Nat → Addr) (s : Stmt) (t : WX → TS) (f : SX) : Prop := PS X s (t W) ∧ SndSX K cls t f
abbrev SSsX (X : Cx) (W : WX) (K : PySem.W.Frag) (cls : Nat → Addr) (s : List Stmt) (t : WX → TS) (f : SX) : Prop := PSs X s (t W) ∧ SndSX K cls t f

variable {ρ ρ' : List Addr} {Z : Addr → Prop} {σ σ' : L2.St} {H H' : Hp} {sl sl' : Sl} {D : Ends} {W : WX} {m m' m'' : Bool}
theorem AfterX.later {r : XOut} (h : AfterX K cls ρ Z σ H sl D W r) (hp : ρ <+: ρ') (fr : Fr (WO ρ sl σ) H (WO ρ' sl' σ') H') : AfterX K cls ρ' Z σ' H' sl' D W r := by
  cases r with
  | out o sl2 st2 => exact After.later h hp fr
  | exc c sl2 st2 => exact fun σ2 ρ2 H2 R2 p2 f2 => h σ2 ρ2 H2 R2 (hp.trans p2) (fr.trans f2)

/-! ### statements -/
def xS (f : S) : SX := fun sl st => (f sl st).bind fun r => some (.out r.1 r.2.1 r.2.2)
theorem x_lift {t : TS} {f : S} (h : SndS K cls t f) : SndSX K cls (fun _ => t) (xS f) := ⟨fun ρ Z σ H sl st r R e D W q => by
  obtain ⟨p, e1, e⟩ := bind_some e
  cases e
  exact h.run ρ Z σ H sl st p R e1 D q⟩
def xSeq (a b : SX) : SX := fun sl st => (a sl st).bind fun p => match p with
  | .out .nx sl1 st1 => b sl1 st1
  | p => some p
theorem x_seq {t u : WX → TS} {f g : SX} (h1 : SndSX K cls t f) (h2 : SndSX K cls u g) : SndSX K cls (fun W => tSeq (t W) (u W)) (xSeq f g) := ⟨fun ρ Z σ H sl st r R e D W q => by
  obtain ⟨p, e1, e2⟩ := bind_some e
  refine h1.run ρ Z σ H sl st _ R e1 _ W ?_
  cases p with
  | exc c sl1 st1 => cases e2; exact q
  | out o sl1 st1 =>
    cases o with
    | nx => exact fun σ1 ρ1 H1 R1 p1 f1 => h2.run ρ1 Z σ1 H1 sl1 st1 r R1 e2 D W (q.later p1 f1)
    | bk => cases e2; exact q
    | ct => cases e2; exact q
    | rt d => cases e2; exact q⟩
def xIf (t : T) (a b : SX) : SX := fun sl st => (t sl st).bind fun p => if p.1 then a sl p.2 else b sl p.2
theorem x_if {tc : TT} {fc : T} {tu tw : WX → TS} {fu fw : SX} (hc : SndT K cls tc fc) (h1 : SndSX K cls tu fu) (h2 : SndSX K cls tw fw) : SndSX K cls (fun W => tIfS tc (tu W) (tw W)) (xIf fc fu fw) := ⟨fun ρ Z σ H sl st r R e D W q => by
  obtain ⟨p, e1, e⟩ := bind_some e
  refine hc.run ρ Z σ H sl st p.1 p.2 R e1 _ fun ρ1 H1 R1 x1 => ?_
  cases h : p.1 with
  | true =>
    rw [h, if_pos rfl] at e
    rw [if_pos rfl]
    exact h1.run ρ1 Z σ H1 sl p.2 r R1 e D W (q.later x1.pre x1.wo)
  | false =>
    rw [h, if_neg Bool.false_ne_true] at e
    rw [if_neg Bool.false_ne_true]
    exact h2.run ρ1 Z σ H1 sl p.2 r R1 e D W (q.later x1.pre x1.wo)⟩
def xRaise (c : Nat) : SX := fun sl st => some (.exc c sl st)
theorem x_raise {c : Nat} : SndSX K cls (fun W _ σ H => W (.ref (cls c)) none σ H) (xRaise c) := ⟨fun ρ Z σ H sl st r R e D W q => by
  cases e
  exact q σ ρ H R List.prefix_rfl .refl⟩
def xRet (a : EX) : SX := fun sl st => (a sl st).bind fun p => match p with
  | .val d st1 => some (.out (.rt d) sl st1)
  | .exc c st1 => some (.exc c sl st1)
theorem x_ret {ta : WX → TE} {fa : EX} (ha : SndEX K cls m ta fa) : SndSX K cls (fun W => tRet (ta W)) (xRet fa) := ⟨fun ρ Z σ H sl st r R e D W q => by
  obtain ⟨p, e1, e⟩ := bind_some e
  refine ha.run ρ Z σ H sl st _ R e1 _ W ?_
  cases p with
  | val d st1 =>
    cases e
    exact fun u ρ1 H1 R1 x1 r1 => q u ρ1 H1 (R1.s.zs fun a h => .inl h) x1.pre (wo_ret R1 x1.wo) (r1.ret R1)
  | exc c st1 =>
    cases e
    exact fun ρ1 H1 R1 x1 => q σ ρ1 H1 R1 x1.pre x1.wo⟩
def xDrop (a : EX) : SX := fun sl st => (a sl st).bind fun p => match p with
  | .val d st1 => some (.out .nx sl st1)
  | .exc c st1 => some (.exc c sl st1)
theorem x_drop {ta : WX → TE} {fa : EX} (ha : SndEX K cls m ta fa) : SndSX K cls (fun W => tDrop (ta W)) (xDrop fa) := ⟨fun ρ Z σ H sl st r R e D W q => by
  obtain ⟨p, e1, e⟩ := bind_some e
  refine ha.run ρ Z σ H sl st _ R e1 _ W ?_
  cases p with
  | val d st1 =>
    cases e
    exact fun u ρ1 H1 R1 x1 _ => q σ ρ1 H1 R1 x1.pre x1.wo
  | exc c st1 =>
    cases e
    exact fun ρ1 H1 R1 x1 => q σ ρ1 H1 R1 x1.pre x1.wo⟩

/-! ### expressions -/
def xE (f : E) : EX := fun sl st => (f sl st).bind fun p => some (.val p.1 p.2)
theorem xe_lift {t : TE} {f : E} (h : Snd K cls m t f) : SndEX K cls m (fun _ => t) (xE f) := ⟨fun ρ Z σ H sl st r R e Q W q => by
  obtain ⟨p, e1, e⟩ := bind_some e
  cases e
  exact h.run ρ Z σ H sl st p.1 p.2 R e1 Q q⟩
def xOp (op : Sto → Val → Val → Option Val) (a : EX) (b : E) : EX := fun sl st => (a sl st).bind fun p => match p with
  | .val x st1 => (b sl st1).bind fun q => (op q.2 x q.1).bind fun z => some (.val z q.2)
  | .exc c st1 => some (.exc c st1)
theorem x_op {op : Sto → Val → Val → Option Val} {r : R2} {ta : WX → TE} {fa : EX} {tb : TE} {fb : E} (ho : OpS K cls op r) (ha : SndEX K cls m' ta fa) (hb : Snd K cls m'' tb fb) : SndEX K cls m (fun W => tOp r (ta W) tb) (xOp op fa fb) := ⟨fun ρ Z σ H sl st r R e Q W q => by
  obtain ⟨p, e1, e⟩ := bind_some e
  refine ha.run ρ Z σ H sl st _ R e1 _ W ?_
  cases p with
  | exc c st1 =>
    cases e
    exact q
  | val x st1 =>
    obtain ⟨p2, e2, e⟩ := bind_some e
    obtain ⟨z, e3, e⟩ := bind_some e
    cases e
    refine fun u ρ1 H1 R1 x1 r1 => hb.run ρ1 Z σ H1 sl _ p2.1 p2.2 R1 e2 _ fun v ρ2 H2 R2 x2 r2 => ?_
    exact ho ρ2 Z σ H2 sl _ _ _ _ u v R2 (r1.ext x2).up r2.up e3 _ fun w H3 R3 x3 r3 => q w ρ2 H3 R3 ((x1.trans x2).trans x3) (.of r3)⟩
/-- what a def promises that may raise -/
def spX (K : PySem.W.Frag) (cls : Nat → Addr) (m : FX) : Sp := fun vs H Q E => ∃ (ρ : List Addr) (Z : Addr → Prop) (ds : List Val) (st : Sto) (r : XRes), RelR K cls ρ Z H st ∧ RepL K ρ (AR ρ Z) H ds vs ∧ m ds st = some r ∧
  match r with
  | .val d st' => ∀ u ρ' H', RelR K cls ρ' Z H' st' → Ext ρ H ρ' H' → Rep K ρ' (AR ρ' Z) H' d u → Q u H'
  | .exc c st' => ∀ ρ' H', RelR K cls ρ' Z H' st' → Ext ρ H ρ' H' → E (.ref (cls c)) none H'
def xCall (m : FX) (a : L) : EX := fun sl st => (a sl st).bind fun p => m p.1 p.2
def xMeth (C : Nat) (m : FX) (o : E) (a : L) : EX := fun sl st => (o sl st).bind fun p => if isIns p.2 C p.1 then (a sl p.2).bind fun q => m (p.1 :: q.1) q.2 else none
section
variable {t : TA} {f : L} {mm : FX} {ta : TE} {fa : E} {C : Nat}
theorem x_call (h : SndA K cls false t f) : SndEX K cls m (fun W => tCallS (spX K cls mm) (WE W) t) (xCall mm f) := ⟨fun ρ Z σ H sl st r R e Q W q => by
  obtain ⟨p, e1, e⟩ := bind_some e
  refine h.run ρ Z σ H sl st p.1 p.2 R e1 _ fun us ρ1 H1 R1 x1 r1 => ?_
  refine ⟨ρ1, ZO Z sl σ, p.1, p.2, r, R1.s, r1.repL, e, ?_⟩
  cases r with
  | val d st' => exact fun u ρ2 H2 R2 x2 r2 => q u ρ2 H2 (R1.step x2 R2) (x1.trans x2) (.of r2)
  | exc c st' => exact fun ρ2 H2 R2 x2 => q ρ2 H2 (R1.step x2 R2) (x1.trans x2)⟩
/-- o.m(..), what it raises wished for at the slots as they stand -/
def tMethW (C : Addr) (m : Str) (sp : Sp) (W : WX) (ta : TE) (t : TA) : TE := fun σ H Q => ta σ H fun x H1 => ∃ a dx fs, x = .ref a ∧ H1 a = some (.ins C dx fs) ∧ fs.lookup m = none ∧ t σ H1 fun vs H2 => sp (x :: vs) H2 Q (WE W σ)
theorem x_meth {nm : Str} (ha : Snd K cls m' ta fa) (h : SndA K cls false t f) (hn : nm ∉ nms C) : SndEX K cls m (fun W => tMethW (cls C) nm (spX K cls mm) W ta t) (xMeth C mm fa f) := ⟨fun ρ Z σ H sl st r R e Q W q => by
  obtain ⟨p, e1, e⟩ := bind_some e
  split at e
  · rename_i hi
    obtain ⟨p2, e2, e⟩ := bind_some e
    refine ha.run ρ Z σ H sl st p.1 p.2 R e1 _ fun u ρ1 H1 R1 x1 r1 => ?_
    obtain ⟨a, dx, us, vs, n, rfl, hx, _, h2, h3, _, _⟩ := isIns_inv R1 r1 hi
    refine ⟨a, dx, _, rfl, h3, lookup_zip_none hn, ?_⟩
    refine h.run ρ1 Z σ H1 sl p.2 p2.1 p2.2 R1 e2 _ fun us ρ2 H2 R2 x2 r2 => ?_
    rw [hx] at e r1
    have r1' : Rep K ρ2 (AR ρ2 (ZO Z sl σ)) H2 (.ref n) (.ref a) := .ref (by
      obtain ⟨tt, ht⟩ := x2.pre
      rw [← ht, List.getElem?_append_left (List.getElem?_eq_some_iff.mp h2).1]
      exact h2)
    refine ⟨ρ2, ZO Z sl σ, .ref n :: p2.1, p2.2, r, R2.s, .cons r1' r2.repL, e, ?_⟩
    cases r with
    | val d st' => exact fun u ρ3 H3 R3 x3 r3 => q u ρ3 H3 (R2.step x3 R3) ((x1.trans x2).trans x3) (.of r3)
    | exc c st' => exact fun ρ3 H3 R3 x3 => q ρ3 H3 (R2.step x3 R3) ((x1.trans x2).trans x3)
  · cases e⟩
end

/-! ### a def -/
def fnOfX (k n : Nat) (b : SX) : FX := fun vs st => if vs.length = k then (b (vs.map .val ++ List.replicate (n - k) .no) st).bind fun p => match p with
    | .out .nx _ st1 => some (.val .non st1)
    | .out (.rt v) _ st1 => some (.val v st1)
    | .exc c _ st1 => some (.exc c st1)
    | _ => none
  else none
theorem bodyX {t : WX → TS} {b : SX} {N : List Str} {vs : List V} {k n : Nat} {Q : VK} {E : XK} (sn : SndSX K cls t b) (hn : N.length = n) (h : spX K cls (fnOfX k n b) vs H Q E) : t (fun cls d _ H => E cls d H) { nx := fun _ H' => Q .non H', rt := Q } (L2.start N vs) H := by
  obtain ⟨ρ, Z, ds, st, res, R, r, e, q⟩ := h
  unfold fnOfX at e
  split at e
  · rename_i hl
    obtain ⟨o, e1, e2⟩ := bind_some e
    rw [← hn] at e1
    have noO : ∀ a, ¬ Own (ds.map Slot.val ++ List.replicate (N.length - k) Slot.no) (L2.start N vs) a := fun a ⟨i, xs, h1, _⟩ => by
      by_cases hi : i < (ds.map Slot.val).length
      · rw [List.getElem?_append_left hi, List.getElem?_map] at h1
        cases hd : ds[i]? with
        | none => rw [hd] at h1; cases h1
        | some d => rw [hd] at h1; cases h1
      · rw [List.getElem?_append_right (by omega)] at h1
        rw [List.getElem?_replicate] at h1
        split at h1 <;> cases h1
    have ext : ∀ {ρ' : List Addr} {H' : Hp} {W : Addr → Prop}, ρ <+: ρ' → (∀ a, a ∈ ρ' → W a) → Fr (WO ρ (ds.map Slot.val ++ List.replicate (N.length - k) Slot.no) (L2.start N vs)) H W H' → Ext ρ H ρ' H' := fun {ρ' H' W} hp hw fr =>
      ⟨hp, fun a o hna h => fr.keep a o (fun z => z.elim hna (noO a)) h, fun a h => (fr.new a (hw a h)).imp (fun z => z.elim id fun z => absurd z (noO a)) id⟩
    refine sn.run ρ Z (L2.start N vs) H _ st _ (start_rel R r hl) e1 _ _ ?_
    cases o with
    | exc c sl1 st1 =>
      cases e2
      exact fun σ' ρ' H' R' p' f' => q ρ' H' (R'.s.zs fun a h => .inl h) (ext p' (fun a h => .inl h) f')
    | out o sl1 st1 =>
      cases o with
      | nx =>
        cases e2
        exact fun σ' ρ' H' R' p' f' => q .non ρ' H' (R'.s.zs fun a h => .inl h) (ext p' (fun a h => .inl h) f') .non
      | rt v =>
        cases e2
        exact fun u ρ' H' R' p' f' r' => q u ρ' H' R' (ext p' (fun a h => h) f') r'
      | bk => cases e2
      | ct => cases e2
  · cases e
theorem spX_len {k n : Nat} {b : SX} {ps : List Str} {vs : List V} {Q : VK} {E : XK} (hk : ps.length = k) (h : spX K cls (fnOfX k n b) vs H Q E) : vs.length = ps.length := by
  obtain ⟨ρ, Z, ds, st, res, R, r, e, _⟩ := h
  unfold fnOfX at e
  split at e
  · rename_i hl
    rw [← r.length, hl, hk]
  · cases e
end
end Mi

set_option Elab.async false
set_option linter.all false
set_option maxRecDepth 100000
set_option maxHeartbeats 2000000
/-! Mi: a def that may raise, try .. except: the text. -/
namespace Mi
open PySem PySem.Spec PyProof.Rows L2
variable [Gam]

/-- a class of errors of the program -/
structure ExcT (K : PySem.W.Frag) (mg : Str → Option Value) (x : Str) (C : Addr) : Prop where
  ex : PySem.W.excIn K C [.type "ValueError", .type "Exception", .type "BaseException", .type "object"] "ValueError.__new__" = true
  g : mg x = some (.ref C)
  kp : PySem.W.keepIn K (.ref C) = true
  b : PySem.W.subIn K (.ref C) (.type "BaseException") = some true
  t : PySem.W.typeIn K (.ref C) = some (.type "type")
/-- an error of the class at S is what the clause of C names, or not -/
theorem exm_of {K : PySem.W.Frag} {S C : Addr} {r : Bool} (h1 : PySem.W.subIn K (.ref C) (.type "BaseException") = some true) (h2 : PySem.W.isClsIn K C = true) (h3 : PySem.W.typeIn K (.ref C) = some (.type "type")) (h4 : PySem.W.subIn K (.ref S) (.ref C) = some r) :
    PySem.W.exmOne K (.ref S) (.ref C) = some r := by
  have e1 : (PySem.W.subIn K (.ref C) (.type "BaseException") == some true) = true := by rw [h1] <;> rfl
  have e2 : ((PySem.W.clsIn K C).isSome && PySem.W.typeIn K (.ref C) == some (.type "type")) = true := by
    have h2' : (PySem.W.clsIn K C).isSome = true := h2
    rw [h2', h3] <;> rfl
  show (if (PySem.W.subIn K (.ref C) (.type "BaseException") == some true) = true then (if ((PySem.W.clsIn K C).isSome && PySem.W.typeIn K (.ref C) == some (.type "type")) = true then PySem.W.subIn K (.ref S) (.ref C) else none) else none) = some r
  rw [if_pos e1, if_pos e2]
  exact h4

/-- promises of defs that may raise -/
structure CalX (P : Program) (w : World) (K : PySem.W.Frag) (mg : Str → Option Value) (base : Heap) (k : Nat) (x : Str) (sp : Sp) : Prop where
  ex : ∃ (f : Addr) (fd : FuncData) (ps : List Str), FnOk P w K mg base (L2N.CX P w) k f fd ps sp ∧ mg x = some (.ref f) ∧ PySem.W.keepIn K (.ref f) = true ∧ Binds K fd ps []
structure MetX (P : Program) (w : World) (K : PySem.W.Frag) (mg : Str → Option Value) (base : Heap) (k : Nat) (C : Addr) (m : Str) (sp : Sp) : Prop where
  ex : ∃ (f : Addr) (fd : FuncData) (ps : List Str), Cls K C ∧ Meth K C m f ∧ FnOk P w K mg base (L2N.CX P w) k f fd ps sp ∧ Binds K fd ps []

section
variable {X : Cx} {W : WX} {K : PySem.W.Frag} [hK : KX X K] {cls : Nat → Addr} {m m' : Bool} {a b c e o : Expr} {es : List Expr} {ta tb tc te to : TE} {fa fb fc fe fo : E} {pos p p' p2 apos cpos : Pos} {t : TA} {f : L} {j k : Nat} {x y nm : Str} {mm : FX} {C : Nat}
/-! calls -/
theorem sx_call (c : CalX X.prog X.w K X.mg X.base k x (spX K cls mm)) (tk : L2N.Takes X W) (hr : Room j X.A) (ha : SA X K cls false (e :: es) t f) (hk : k ≤ j := by decide) (hg : Gl X x := by rfl)
    (hdb : (x == ("__debug__" : Str)) = false := by decide) (he : starEach (e :: es) X.env = (false, eval e X.env) :: starEach es X.env := by rfl) (hpl : (backTo pos (starEach es X.env)).any (·.1) = false := by rfl) :
    SEX X W K cls m (.Call (.Name x p) (e :: es) [] pos) (fun W => tCallS (spX K cls mm) (WE W) t) (xCall mm f) := by
  obtain ⟨rfl⟩ := hK
  obtain ⟨f, fd, ps, F, hm, kp, b⟩ := c.ex
  exact ⟨pe_callS F (hr.mono hk) hg hm kp b (fun σ => L2N.passAt tk σ) ha.1 hdb he hpl, x_call ha.2⟩
theorem pe_methW {CX : CXT} {CC : Addr} {g : Addr} {fd : FuncData} {ps : List Str} {sp : Sp} {pl : Sem Bool} (he : PE X o to) (c : Cls X.K CC) (hm : Meth X.K CC nm g)
    (F : FnOk X.prog X.w X.K X.mg X.base CX k g fd ps sp) (hr : Room k X.A) (hb : Binds X.K fd ps []) (hx : ∀ σ, PassesAt CX X σ (WE W σ)) (ha : PA X (e :: es) t)
    (hst : starEach (e :: es) X.env = (false, eval e X.env) :: starEach es X.env) (hpl : (backTo pos (starEach es X.env)).any (·.1) = false)
    (ht : eval (.Call (.Attribute o nm apos) (e :: es) [] pos) X.env = (do
      let ov ← eval o X.env
      standAt apos.atName
      let (f, first) ← holding [ov] (getMethod ov nm pl)
      callWith pos f first (backTo pos (starEach (e :: es) X.env)) (backToKw pos (keywordEach [] X.env)))) :
    PE X (.Call (.Attribute o nm apos) (e :: es) [] pos) (tMethW CC nm sp W to t) := by
  refine ⟨fun pins s σ H Q I h => ?_⟩
  refine PySem.W.methodCall_KW (pl := pl) (thn (he.run pins s σ H _ I h) fun u s1 ⟨x, H1, I1, rx, a, dx, fs, ex, ea, l, q⟩ => ?_) ht
  subst ex
  obtain rfl : u = Value.ref a := rx
  refine getmeth_ok I1 ea c hm l ?_
  refine PySem.W.callWith_K (first := [.ref a]) (h₀ := X.base) I.ok.mod.kin hm.kp (thn (ha.run pos pins s1 σ H1 _ I1 q) fun us s2 ⟨vs, H2, I2, r, q2⟩ => ⟨I2.kIn, ?_⟩) hst hpl
  exact run_fnS (us := .ref a :: us) (vs := .ref a :: vs) F hr hb (hx σ) I2 (.cons rfl r) q2
theorem sx_meth {pl : Sem Bool} (c : MetX X.prog X.w K X.mg X.base k (cls C) nm (spX K cls mm)) (tk : L2N.Takes X W) (hr : Room j X.A) (ho : SE X K cls true o to fo) (ha : SA X K cls false (e :: es) t f) (hn : nm ∉ nms C) (hk : k ≤ j := by decide)
    (hst : starEach (e :: es) X.env = (false, eval e X.env) :: starEach es X.env := by rfl) (hpl : (backTo pos (starEach es X.env)).any (·.1) = false := by rfl)
    (ht : eval (.Call (.Attribute o nm apos) (e :: es) [] pos) X.env = (do
      let ov ← eval o X.env
      standAt apos.atName
      let (f, first) ← holding [ov] (getMethod ov nm pl)
      callWith pos f first (backTo pos (starEach (e :: es) X.env)) (backToKw pos (keywordEach [] X.env))) := by rfl) :
    SEX X W K cls m (.Call (.Attribute o nm apos) (e :: es) [] pos) (fun W => tMethW (cls C) nm (spX K cls mm) W to t) (xMeth C mm fo f) := by
  obtain ⟨rfl⟩ := hK
  obtain ⟨f, fd, ps, hC, hm, F, b⟩ := c.ex
  exact ⟨pe_methW (pl := pl) ho.1 hC hm F (hr.mono hk) b (fun σ => L2N.passAt tk σ) ha.1 hst hpl ht, x_meth ho.2 ha.2 hn⟩
theorem sx_lift (h : SE X K cls m e te fe) : SEX X W K cls m e (fun _ => te) (xE fe) := ⟨h.1, xe_lift h.2⟩
theorem sx_c {op : CmpOp} {r : R2} {oo : Sto → Val → Val → Option Val} {ta : WX → TE} {fa : EX} (h : Cm X K cls op r oo) (ha : SEX X W K cls true a ta fa) (hb : SE X K cls true b tb fb) (hm : behindInMarks op b = false := by first | exact nomark _ | rfl) :
    SEX X W K cls m (.Compare a [op] [b] pos) (fun W => tOp r (ta W) tb) (xOp oo fa fb) := ⟨pe_cmpR h.1 ha.1 hb.1 hm, x_op h.2 ha.2 hb.2⟩
/-! statements -/
section
variable {s : Stmt} {ss body : List Stmt} {t1 : TS} {f1 : S} {tu tw : WX → TS} {fu fw : SX} {tA : TT} {fA : T}
theorem ps_nox {X : Cx} {s : Stmt} {t : TS} (h : PS X.nox s t) : PS X s t := ⟨fun pins s σ H D I hw =>
  wpAny_mono (h.run pins s σ H D (I.wish _) hw) (fun _ _ q => q.unwish) fun _ _ z => False.elim z⟩
instance kx_nox {X : Cx} {K : PySem.W.Frag} [h : KX X K] : KX X.nox K := ⟨h.e⟩
/-- .. that raises nothing -/
theorem sx_sn (h : SS X.nox K cls s t1 f1) : SSX X W K cls s (fun _ => t1) (xS f1) := ⟨ps_nox h.1, x_lift h.2⟩
theorem sx_s (h : SS X K cls s t1 f1) : SSX X W K cls s (fun _ => t1) (xS f1) := ⟨h.1, x_lift h.2⟩
theorem sxs_n : SSsX X W K cls [] (fun _ => tNext) (xS sSkip) := ⟨pss_nil, x_lift s_skip⟩
theorem sxs_1 (h : SSX X W K cls s tu fu) : SSsX X W K cls [s] tu fu := ⟨pss_one h.1, h.2⟩
theorem sxs_c (h : SSX X W K cls s tu fu) (h2 : SSsX X W K cls ss tw fw) : SSsX X W K cls (s :: ss) (fun W => tSeq (tu W) (tw W)) (xSeq fu fw) := ⟨pss_cons h.1 h2.1, x_seq h.2 h2.2⟩
theorem sx_if (hc : ST X K cls c tA fA) (h1 : SSsX X W K cls ss tu fu) (h2 : SSsX X W K cls body tw fw) : SSX X W K cls (.If c ss body pos) (fun W => tIfS tA (tu W) (tw W)) (xIf fA fu fw) := ⟨ps_if hc.1 h1.1 h2.1, x_if hc.2 h1.2 h2.2⟩
theorem sx_ret {te : WX → TE} {fe : EX} (h : SEX X W K cls true e te fe) : SSX X W K cls (.Return (some e) pos) (fun W => tRet (te W)) (xRet fe) := ⟨ps_ret h.1, x_ret h.2⟩
theorem sx_drop {te : WX → TE} {fe : EX} (h : SEX X W K cls true e te fe) (hs : swapsWith e none pos.line X.env = pure false := by rfl) : SSX X W K cls (.Expr e pos) (fun W => tDrop (te W)) (xDrop fe) := ⟨ps_expr h.1 hs, x_drop h.2⟩
/-- raise X('..') -/
theorem sx_raise {msg : Str} {jj : Nat} {q1 q2 q3 : Pos} (c : Nat) (T : ExcT K X.mg x (cls c)) (tk : L2N.Takes X W) (hc : X.calm = true := by rfl) (hg : Gl X x := by rfl) (hdb : (x == ("__debug__" : Str)) = false := by decide) :
    SSX X W K cls (.Raise (some (.Call (.Name x q1) [.Constant (.str msg) jj q2] [] q3)) none pos) (fun W _ σ H => W (.ref (cls c)) none σ H) (xRaise c) := by
  obtain ⟨rfl⟩ := hK
  exact ⟨L2N.ps_raise hc tk (L2N.pmk_own PySem.F.excBase_ValueError T.ex T.g T.kp (raises_own T.b T.t) hg hdb), x_raise⟩
end
end

/-! ### a def -/
theorem def_okX {P : Program} {w : World} {K : PySem.W.Frag} {cls : Nat → Addr} {mg : Str → Option Value} {base : Heap} {x qual : Str} {sd : Stmt} {fA : Addr} {fd : FuncData} {N ps : List Str} {lv k n : Nat} {b : SX} (F0 : L2.Fun K x qual sd fA fd) (Sc : FnScope N ps (defScope sd)) (hk : ps.length = k) (hn : N.length = n)
    (body : ∀ (cdv : Value) (A : Around) (outer : List Env) (s : Shared) (H : Hp) (E : XK), Room lv (A.deeper (envOfC qual (defScope sd) s.heap.objs.size fA cdv)) → KX (cxOf (L2N.CX P w) P w K mg base N qual (defScope sd) fA cdv A outer s H E) K →
      L2N.Takes (cxOf (L2N.CX P w) P w K mg base N qual (defScope sd) fA cdv A outer s H E) (fun cls d _ H => E cls d H) →
      ∃ t, SSsX (cxOf (L2N.CX P w) P w K mg base N qual (defScope sd) fA cdv A outer s H E) (fun cls d _ H => E cls d H) K cls (defBody sd) t b) :
    FnOk P w K mg base (L2N.CX P w) (lv + 1) fA fd ps (spX K cls (fnOfX k n b)) := by
  obtain ⟨oc, od, kV, doc, pm, an, cdv, ct, osl, rfl, lk, hcd⟩ := F0.ex
  refine fn_of lk hcd Sc (fun vs H Q E h => spX_len hk h) fun A outer s H vs Q E hr h => ?_
  obtain ⟨t, ht, sn⟩ := body cdv A outer s H E hr ⟨rfl⟩ (L2N.takes_of rfl rfl rfl rfl)
  exact ⟨t _, ht, bodyX sn hn h⟩
/-- .. called within an except suite -/
theorem def_okH {P : Program} {w : World} {K : PySem.W.Frag} {cls : Nat → Addr} {mg : Str → Option Value} {base : Heap} {x qual : Str} {sd : Stmt} {fA : Addr} {fd : FuncData} {N ps : List Str} {lv k n : Nat} {b : S} (F0 : L2.Fun K x qual sd fA fd) (Sc : FnScope N ps (defScope sd)) (hk : ps.length = k) (hn : N.length = n)
    (body : ∀ (cdv : Value) (A : Around) (outer : List Env) (s : Shared) (H : Hp) (E : XK) (p : Addr × Obj), L2H.RoomH lv (A.deeper (envOfC qual (defScope sd) s.heap.objs.size fA cdv)) → KX (L2H.cxH CX0 P w K mg base N qual (defScope sd) fA cdv A outer s H E p).nox K →
      L2H.HotC (L2H.cxH CX0 P w K mg base N qual (defScope sd) fA cdv A outer s H E p).nox → ∃ t, SSs (L2H.cxH CX0 P w K mg base N qual (defScope sd) fA cdv A outer s H E p).nox K cls (defBody sd) t b) :
    L2H.FnH P w K mg base CX0 (lv + 1) fA fd ps (spM K cls (fnOf k n b)) := by
  obtain ⟨oc, od, kV, doc, pm, an, cdv, ct, osl, rfl, lk, hcd⟩ := F0.ex
  refine L2H.fn_ofH lk hcd Sc (fun vs H Q E h => ?_) fun A outer s H vs Q E p hot hr h => ?_
  · obtain ⟨ρ, Z, ds, st, d, st', R, r, e, _⟩ := h
    unfold fnOf at e
    split at e
    · rename_i hl
      rw [← r.length, hl, hk]
    · cases e
  · obtain ⟨t, ht, sn⟩ := body cdv A outer s H E p hr ⟨rfl⟩ ⟨p, hot, List.mem_singleton.mpr rfl⟩
    refine ⟨t, ht.nox, ?_⟩
    refine bodyX (K := K) (cls := cls) (t := fun _ => t) (b := xS b) (k := k) (n := n) (E := E0) (x_lift sn) hn ?_
    obtain ⟨ρ, Z, ds, st, d, st', R, r, e, q⟩ := h
    refine ⟨ρ, Z, ds, st, .val d st', R, r, ?_, q⟩
    unfold fnOf at e
    unfold fnOfX
    split at e
    · rename_i hl
      rw [if_pos hl]
      obtain ⟨⟨o, sl1, st1⟩, e1, e2⟩ := bind_some e
      unfold xS
      rw [e1]
      cases o <;> cases e2 <;> rfl
    · cases e

/-! ### try: body; except X: suite -/
def sTry (c : Nat) (b : SX) (u : S) : S := fun sl st => (b sl st).bind fun p => match p with
  | .out o sl1 st1 => some (o, sl1, st1)
  | .exc d sl1 st1 => if d = c then u sl1 st1 else none
section
variable {X : Cx} {K : PySem.W.Frag} [hK : KX X K] {cls : Nat → Addr} {x : Str} {c k : Nat} {body suite : List Stmt} {b₀ : Stmt} {np pos pos' : Pos} {tb : WX → TS} {fb : SX} {ts : TS} {fs : S}
theorem takesN {X : Cx} : L2N.Takes X (fun _ _ _ _ => False) := fun _ _ ⟨_, _, _, _, _, _, _, _, _, _, _, _, _, _, _, _, w⟩ => w.elim
theorem s_try (ex : PySem.W.exmOne K (.ref (cls c)) (.ref (cls c)) = some true) (h1 : SndSX K cls tb fb) (h2 : SndS K cls ts fs) :
    SndS K cls (fun D σ H => tb (wMany K (fun _ _ _ _ => False) D [(.ref (cls c), fun _ _ _ => ts)]) D σ H) (sTry c fb fs) := ⟨fun ρ Z σ H sl st r R e D q => by
  obtain ⟨p, e1, e2⟩ := bind_some e
  refine h1.run ρ Z σ H sl st p R e1 D _ ?_
  cases p with
  | out o sl1 st1 => cases e2; exact q
  | exc d sl1 st1 =>
    have e3 : (if d = c then fs sl1 st1 else none) = some r := e2
    by_cases hd : d = c
    · subst hd
      rw [if_pos rfl] at e3
      exact fun σ1 ρ1 H1 R1 p1 f1 => ⟨true, ex, fun _ a _ => h2.run ρ1 Z σ1 H1 sl1 st1 r R1 e3 D (q.later p1 f1), fun z => Bool.noConfusion z⟩
    · rw [if_neg hd] at e3
      cases e3⟩
theorem ss_try (T : ExcT K X.mg x (cls c)) (ex : PySem.W.exmOne K (.ref (cls c)) (.ref (cls c)) = some true) (hr : Room k X.A)
    (hb : ∀ (W : WX) (pn : List (Addr × Obj)) (xe : Value → Shared → Prop), KX (X.tr pn xe) K → L2N.Takes (X.tr pn xe) W → PassesOwn (model X.prog X.w) X.A X.env xe → SSsX (X.tr pn xe) W K cls body tb fb)
    (hsu : ∀ (a : Addr) (oe : Obj) (pn : List (Addr × Obj)), KX (X.suite a ((a, oe) :: pn)) K → L2H.HotC (X.suite a ((a, oe) :: pn)) → L2H.RoomH k (X.suite a ((a, oe) :: pn)).A → SSs (X.suite a ((a, oe) :: pn)) K cls (b₀ :: suite) ts fs)
    (hs : X.stack = X.env :: X.outer := by rfl) (hf : X.env.frame = some X.env.locals := by rfl) (hg : Gl X x := by rfl) (hdb : (x == ("__debug__" : Str)) = false := by decide) :
    SS X K cls (.Try body [.ExceptHandler (some (.Name x np)) none (b₀ :: suite) pos'] [] [] pos) (fun D σ H => tb (wMany K (fun _ _ _ _ => False) D [(.ref (cls c), fun _ _ _ => ts)]) D σ H) (sTry c fb fs) := by
  obtain ⟨rfl⟩ := hK
  have hot : ∀ (a : Addr) (oe : Obj) (cl : Value) (d : Option Addr) (pn : List (Addr × Obj)), L2N.Zn cl d oe → (∃ vs, oe.data = .fields vs) → SSs (X.suite a ((a, oe) :: pn)) X.K cls (b₀ :: suite) ts fs := fun a oe cl d pn z ⟨vs, hv⟩ =>
    hsu a oe pn ⟨rfl⟩ ⟨(a, oe), ⟨rfl, vs, hv, z.2.2 vs hv⟩, List.mem_cons_self⟩ (rH_mark hr)
  refine ⟨L2N.ps_try_many hs hf (takesN) (fun W pn xe tk po => (hb W pn xe ⟨rfl⟩ tk po).1) (.cons ⟨hg, hdb, .inl T.g⟩ (fun a oe cl d pn z hv => (hot a oe cl d pn z hv).1) .nil), ?_⟩
  have h2 : SndS X.K cls ts fs := (hot 0 { cls := .none, data := .fields #[.none, .none, .none] } _ _ [] ⟨rfl, rfl, fun vs e => by cases e; rfl⟩ ⟨_, rfl⟩).2
  exact s_try ex (hb (fun _ _ _ _ => False) [] (fun _ _ => False) ⟨rfl⟩ takesN PassesOwn.never).2 h2
end
end Mi

set_option Elab.async false
set_option linter.all false
set_option maxRecDepth 100000
set_option maxHeartbeats 2000000
/-! Mi: a lambda: its object, made in a def, kept in lists, called elsewhere. -/
namespace Mi
open PySem PySem.Spec PyProof.Rows L2 LamX NdefX
variable [Gam]

/-- a lambda's text -/
structure LT where
  qual : Str
  params : Arguments
  body : Expr
  scope : Scope
def LamO (f : Addr) (L : LT) (cl : List (Str × Addr)) (c' : Addr) : HO := .ext fun h => ∃ pm ctv : Value, h.get? f = some (PySem.W.kla_obj "<lambda>" L.qual L.params L.body L.scope cl pm c' ctv)
theorem lamO_at {P : Program} {w : World} {H : Hp} {h : Heap} {f c' : Addr} {L : LT} {cl : List (Str × Addr)} (hok : HOk P w H h) (e : H f = some (LamO f L cl c')) : ∃ pm ctv : Value, h.get? f = some (PySem.W.kla_obj "<lambda>" L.qual L.params L.body L.scope cl pm c' ctv) := by
  obtain ⟨z, _, _⟩ := hok f _ e
  exact z

/-- what the table at P tells -/
def TbIn (H : Hp) (q : Str) (ps : Array Value) : Prop := TriplesOk ps.toList ∧ ∀ (pos : Pos) (cv : Value), codeAmong pos ps.toList = some cv → ∃ c, cv = .ref c ∧ H c = some (CodeO c q)
section
variable {X : Cx} {pins : List (Addr × Obj)} {σ : L2.St} {H : Hp} {s : Shared}
/-- the lambda is made: its code object is new, or found in the table; what is tracked then is told -/
theorem lam_make3 {ps : Array Value} {c P : Addr} {params : Arguments} {body : Expr} {scope : Scope} {pos : Pos} {E : Value → Shared → Prop} {Q : Value → Shared → Prop} (I : Inv X pins σ H s) (TB : TabB X.base X.mg c P) (hcode : X.env.code = .ref c)
    (hP : H P = some (.tbl ps)) (hT : TbIn H (X.env.qual ++ "<lambda>") ps) (hdef : defaultsOf params X.env = ([], [])) (hfree : ∀ y ∈ scope.names, y.2 = .free → ∃ c, X.env.cells.lookup y.1 = some c)
    (hnew : ∀ (f c' : Addr) (s' : Shared), H f = none → H c' = none → f ≠ c' → codeAmong pos ps.toList = none →
      Inv X pins σ (upd (upd (upd H P (.tbl (ps ++ #[rawInt pos.line, rawInt pos.col, .ref c']))) c' (CodeO c' (X.env.qual ++ "<lambda>"))) f (LamO f ⟨X.env.qual ++ "<lambda>", params, body, scope⟩ (cloFrom X.env.cells scope.names []) c')) s' → Q (.ref f) s')
    (hhit : ∀ (f c' : Addr) (s' : Shared), H f = none → codeAmong pos ps.toList = some (.ref c') → H c' = some (CodeO c' (X.env.qual ++ "<lambda>")) →
      Inv X pins σ (upd H f (LamO f ⟨X.env.qual ++ "<lambda>", params, body, scope⟩ (cloFrom X.env.cells scope.names []) c')) s' → Q (.ref f) s') :
    wpAny (model X.prog X.w) X.A (eval (.Lambda params body scope pos) X.env) Q E s := by
  refine PySem.W.kla_eval hdef ?_
  have bP : s.heap.BuiltinsAt X.mg P := TB.bm.keeps I.bk
  have hP' : s.heap.get? P = some { cls := .none, data := .fields ps } := I.hok P _ hP
  have track : ∀ {H1 : Hp} {h1 : Heap} {t t' : Nat} {c1 : Addr} {pm ctv : Value}, Inv X pins σ H1 { s with heap := h1, toks := t } →
      Inv X pins σ (upd H1 h1.objs.size (LamO h1.objs.size ⟨X.env.qual ++ "<lambda>", params, body, scope⟩ (cloFrom X.env.cells scope.names []) c1)) { s with heap := h1.push (PySem.W.kla_obj "<lambda>" (X.env.qual ++ "<lambda>") params body scope (cloFrom X.env.cells scope.names []) pm c1 ctv), toks := t' } := fun {H1 h1 t t' c1 pm ctv} J => by
    refine J.laid (a := h1.objs.size) (fun b u e => Heap.get?_push_of_some _ e) (Nat.le_refl _) ?_
    have e : (h1.push (PySem.W.kla_obj "<lambda>" (X.env.qual ++ "<lambda>") params body scope (cloFrom X.env.cells scope.names []) pm c1 ctv)).get? h1.objs.size = some (PySem.W.kla_obj "<lambda>" (X.env.qual ++ "<lambda>") params body scope (cloFrom X.env.cells scope.names []) pm c1 ctv) := Heap.get?_push_size _ rfl
    exact ⟨⟨pm, ctv, e⟩, ⟨_, e⟩, fun _ _ ⟨p, t, z⟩ st => ⟨p, t, st _ z⟩⟩
  cases hc : codeAmong pos ps.toList with
  | none =>
    refine PySem.W.kla_makeFunction (mg := X.mg) (c := c) (P := P) (ps := ps) (closure_ok hfree) I.ok.glob (I.mod.glob.keeps I.bk) hcode (TB.code.keeps I.bk) hP' hT.1 hc TB.gP bP fun c' ctv h' tk hx hge hlt hrec htb => ?_
    obtain ⟨c2, oc, vs, t, e2, hoc, hd, hv⟩ := hrec
    cases e2
    have nC : H c' = none := I.hok.fresh hge
    have I1 := inv_table (t' := tk) (more := #[rawInt pos.line, rawInt pos.col, .ref c']) (h' := h') I hP (fun b o hb e => hx b o hb e) htb hge ⟨oc, vs, t, hoc, hd, hv⟩
    exact hnew h'.objs.size c' _ (I.hok.fresh (Nat.le_trans hge (Nat.le_of_lt hlt))) nC (Nat.ne_of_gt hlt) hc (track I1)
  | some cv =>
    obtain ⟨c', e, hco⟩ := hT.2 pos cv hc
    subst e
    refine PySem.W.kla_makeFunctionHit (mg := X.mg) (c := c) (P := P) (ps := ps) (closure_ok hfree) I.ok.glob (I.mod.glob.keeps I.bk) hcode (TB.code.keeps I.bk) hP' hT.1 hc bP fun ctv h' tk hx hsz => ?_
    have I1 : Inv X pins σ H { s with heap := h', toks := tk } := I.kept hx
    exact hhit h'.objs.size c' _ (I1.hok.fresh (Nat.le_refl _)) hc hco (track I1)
end
/-! ### the word -/
theorem upd_comm {H : Hp} {a b : Addr} {o u : HO} (h : a ≠ b) : upd (upd H a o) b u = upd (upd H b u) a o := by
  funext x
  unfold upd
  by_cases h1 : x = a <;> by_cases h2 : x = b <;> simp_all
def tLamK (P : Addr) (pos : Pos) (L : LT) (cl : List (Str × Addr)) : TE := fun σ H Q => ∃ ps, H P = some (.tbl ps) ∧ TbIn H L.qual ps ∧
  (∀ f c', H f = none → H c' = none → f ≠ c' → codeAmong pos ps.toList = none → Q (.ref f) (upd (upd (upd H P (.tbl (ps ++ #[rawInt pos.line, rawInt pos.col, .ref c']))) c' (CodeO c' L.qual)) f (LamO f L cl c'))) ∧
  (∀ f c', H f = none → codeAmong pos ps.toList = some (.ref c') → H c' = some (CodeO c' L.qual) → Q (.ref f) (upd H f (LamO f L cl c')))
section
variable {X : Cx}
theorem pe_lamk {c P : Addr} {params : Arguments} {body : Expr} {scope : Scope} {pos : Pos} (TB : TabB X.base X.mg c P) (hcode : X.env.code = .ref c) (hdef : defaultsOf params X.env = ([], []))
    (hfree : ∀ y ∈ scope.names, y.2 = .free → X.env.scope.names.lookup y.1 = some .cell ∨ X.env.scope.names.lookup y.1 = some .free) :
    PE X (.Lambda params body scope pos) (tLamK P pos ⟨X.env.qual ++ "<lambda>", params, body, scope⟩ (cloFrom X.env.cells scope.names [])) := by
  refine ⟨fun pins s σ H Q I h => ?_⟩
  obtain ⟨ps, hP, hT, h1, h2⟩ := h
  refine lam_make3 I TB hcode hP hT hdef (fun y hy e => (hfree y hy e).elim (fun z => I.ok.has _ (.inl z)) fun z => I.ok.has _ (.inr z)) (fun f c' s' f0 c0 ne hc J => ?_) (fun f c' s' f0 hc hco J => ?_)
  · exact ⟨.ref f, _, J, rfl, h1 f c' f0 c0 ne hc⟩
  · exact ⟨.ref f, _, J, rfl, h2 f c' f0 hc hco⟩
end
/-- a lambda of the kind i, its table at the place n of the store -/
def eLam (n k i : Nat) : E := fun sl st => match st[n]? with
  | some (.tb k') => if k' = k then some (.fn i [], st) else none
  | _ => none
theorem set_same {α : Type} {l : List α} {n : Nat} {x : α} (h : l[n]? = some x) : l.set n x = l := by
  refine List.ext_getElem? fun i => ?_
  by_cases hi : n = i
  · subst hi
    rw [List.getElem?_set_self (List.getElem?_eq_some_iff.mp h).1, h]
  · rw [List.getElem?_set_ne hi]
section
variable {K : PySem.W.Frag} {cls : Nat → Addr} {m : Bool}
theorem snd_lam {n k i : Nat} {P : Addr} {pos : Pos} {L : LT} {cl : List (Str × Addr)} (htb : Gam.tb k = (P, L.qual)) (hG : ∀ f c', Gam.is i f [(f, LamO f L cl c'), (c', CodeO c' L.qual)] []) : Snd K cls m (tLamK P pos L cl) (eLam n k i) := ⟨fun ρ Z σ H sl st d st' R e Q q => by
  unfold eLam at e
  split at e
  · rename_i k' hn
    split at e
    · rename_i hq
      subst hq
      cases e
      obtain ⟨a, ha, e0, ps, hP, ht, hc⟩ := R.s.at hn
      rw [htb] at e0 hc
      obtain rfl : a = P := e0
      have hc : ∀ (pos : Pos) (cv : Value), codeAmong pos ps.toList = some cv → ∃ c, cv = .ref c ∧ ¬ AR ρ (ZO Z sl σ) c ∧ H c = some (CodeO c L.qual) := hc
      refine ⟨ps, hP, ⟨ht, fun pos cv hcv => ?_⟩, fun f c' f0 c0 ne hn0 => ?_, fun f c' f0 hcv hco => ?_⟩
      · obtain ⟨c, e1, _, e3⟩ := hc pos cv hcv
        exact ⟨c, e1, e3⟩
      · have nc : a ≠ c' := ne_of_none hP c0
        have nf : a ≠ f := ne_of_none hP f0
        have R1 := R.new (o := CodeO c' L.qual) c0
        have hAc : ¬ AR ρ (ZO Z sl σ) c' := fun z => R.s.dom _ z c0
        have hAf : ¬ AR ρ (ZO Z sl σ) f := fun z => R.s.dom _ z f0
        have hK : ∀ c, H c = some (CodeO c L.qual) → upd (upd H c' (CodeO c' L.qual)) a (.tbl (ps ++ #[rawInt pos.line, rawInt pos.col, .ref c'])) c = some (CodeO c L.qual) := fun c hc => by
          rw [upd_ne (fun z => by rw [z, hP] at hc; exact codeO_ne _ (Option.some.inj hc).symm), upd_ne (ne_of_none hc c0)]
          exact hc
        have R2 := R1.set (o := .tbl (ps ++ #[rawInt pos.line, rawInt pos.col, .ref c'])) (c := .tb k') ha ⟨by rw [htb], _, upd_same, by
          have eL : (ps ++ #[rawInt pos.line, rawInt pos.col, Value.ref c']).toList = ps.toList ++ [rawInt pos.line, rawInt pos.col, .ref c'] := by simp
          rw [eL]; exact PySem.TriplesOk_snoc _ _ _ _ ht, fun p' cv hcv => by
          have eL : (ps ++ #[rawInt pos.line, rawInt pos.col, Value.ref c']).toList = ps.toList ++ [rawInt pos.line, rawInt pos.col, .ref c'] := by simp
          rw [eL] at hcv
          rcases among_app _ ht hcv with z | z
          · obtain ⟨c, e1, e2, e3⟩ := hc p' cv z
            exact ⟨c, e1, e2, by rw [htb]; exact hK c e3⟩
          · exact ⟨c', z, hAc, by rw [htb, upd_ne (Ne.symm nc)]; exact upd_same⟩⟩
        rw [set_same hn] at R2
        have f2 : upd (upd H c' (CodeO c' L.qual)) a (.tbl (ps ++ #[rawInt pos.line, rawInt pos.col, .ref c'])) f = none := by
          rw [upd_ne (Ne.symm nf), upd_ne ne]
          exact f0
        have R3 := R2.new (o := LamO f L cl c') f2
        have x3 : Ext ρ H ρ _ := ((Ext.new (ρ := ρ) (o := CodeO c' L.qual) c0).trans (Ext.set (o := .tbl (ps ++ #[rawInt pos.line, rawInt pos.col, .ref c'])) ha)).trans (Ext.new (o := LamO f L cl c') f2)
        rw [upd_comm nc]
        refine q _ ρ _ R3 x3 (.of (.fn (hG f c') (fun p hp => ?_) .nil))
        rcases List.mem_cons.mp hp with e | hp
        · subst e
          exact ⟨hAf, upd_same⟩
        · rw [List.mem_singleton.mp hp]
          exact ⟨hAc, by rw [upd_ne (Ne.symm ne), upd_ne (Ne.symm nc)]; exact upd_same⟩
      · obtain ⟨c, e1, hAc, e3⟩ := hc pos _ hcv
        cases e1
        have hAf : ¬ AR ρ (ZO Z sl σ) f := fun z => R.s.dom _ z f0
        refine q _ ρ _ (R.new (o := LamO f L cl c') f0) (Ext.new f0) (.of (.fn (hG f c') (fun p hp => ?_) .nil))
        rcases List.mem_cons.mp hp with e | hp
        · subst e
          exact ⟨hAf, upd_same⟩
        · rw [List.mem_singleton.mp hp]
          exact ⟨hAc, by rw [upd_ne (ne_of_none e3 f0)]; exact e3⟩
    · cases e
  · cases e⟩
end
end Mi

set_option Elab.async false
set_option linter.all false
set_option maxRecDepth 100000
set_option maxHeartbeats 2000000
/-! Mi: a lambda called where it was handed to. -/
namespace Mi
open PySem PySem.Spec PyProof.Rows L2 LamX NdefX
variable [Gam]

/-- what a lambda's call promises: the captured values us, the arguments vs -/
def spC (K : PySem.W.Frag) (cls : Nat → Addr) (m : List Val → FX) (us : List V) : Sp := fun vs H Q E => ∃ (ρ : List Addr) (Z : Addr → Prop) (cs ds : List Val) (st : Sto) (r : XRes), RelR K cls ρ Z H st ∧ RepL K ρ (AR ρ Z) H cs us ∧ RepL K ρ (AR ρ Z) H ds vs ∧ m cs ds st = some r ∧
  match r with
  | .val d st' => ∀ u ρ' H', RelR K cls ρ' Z H' st' → Ext ρ H ρ' H' → Rep K ρ' (AR ρ' Z) H' d u → Q u H'
  | .exc c st' => ∀ ρ' H', RelR K cls ρ' Z H' st' → Ext ρ H ρ' H' → E (.ref (cls c)) none H'
/-- the lambdas that are may be called, those of the kinds in dom -/
structure CloI (is : Nat → Addr → List (Addr × HO) → List V → Prop) (P : Program) (w : World) (K : PySem.W.Frag) (cls : Nat → Addr) (mg : Str → Option Value) (base : Heap) (k : Nat) (lamF : Nat → List Val → FX) (dom : Nat → Bool) : Prop where
  fn : ∀ (i : Nat) (f : Addr) (hs : List (Addr × HO)) (us : List V) (H : Hp) (h : Heap), dom i = true → is i f hs us → HOk P w H h → (∀ p ∈ hs, H p.1 = some p.2) → PySem.W.FnAt f h
  run : ∀ (A : Around) (outer : List Env) (s : Shared) (H : Hp) (i : Nat) (f : Addr) (hs : List (Addr × HO)) (us : List V) (uv : List Value) (vs : List V) (Q : VK) (E : XK), Room k A → Env0 P w K mg base A outer s H → dom i = true → is i f hs us → (∀ p ∈ hs, H p.1 = some p.2) → Vals vs uv →
    spC K cls (lamF i) us vs H Q E → codeAny (model P w) A (.call (.ref f) ⟨uv, []⟩) (CR (L2N.CX P w) outer P w H s Q E) s
abbrev CloP := CloI Gam.is
theorem CloI.mono {is : Nat → Addr → List (Addr × HO) → List V → Prop} {P : Program} {w : World} {K : PySem.W.Frag} {cls : Nat → Addr} {mg : Str → Option Value} {base : Heap} {j k : Nat} {lamF : Nat → List Val → FX} {dom : Nat → Bool} (c : CloI is P w K cls mg base j lamF dom) (h : j ≤ k) : CloI is P w K cls mg base k lamF dom :=
  ⟨c.fn, fun A outer s H i f hs us uv vs Q E hr => c.run A outer s H i f hs us uv vs Q E (hr.mono h)⟩
/-- a lambda's promise -/
def LamOk (P : Program) (w : World) (K : PySem.W.Frag) (cls : Nat → Addr) (mg : Str → Option Value) (base : Heap) (k : Nat) (L : LT) (fr : List Str) (m : List Val → FX) : Prop :=
  ∀ (A : Around) (outer : List Env) (s : Shared) (H : Hp) (f c' : Addr) (cl : List (Str × Addr)) (us : List V) (uv : List Value) (vs : List V) (Q : VK) (E : XK), Room k A → Env0 P w K mg base A outer s H →
    H f = some (LamO f L cl c') → H c' = some (CodeO c' L.qual) → CellsAt cl fr (us.map some) s.heap H → Vals vs uv → spC K cls m us vs H Q E → codeAny (model P w) A (.call (.ref f) ⟨uv, []⟩) (CR (L2N.CX P w) outer P w H s Q E) s

/-! ### the call -/
def xCallV (lamF : Nat → List Val → FX) (dom : Nat → Bool) (i : Nat) (a : L) : EX := fun sl st => match sl[i]? with
  | some (.val (.fn j cs)) => if dom j = true then (a sl st).bind fun p => lamF j cs p.1 p.2 else none
  | _ => none
def tCallV (K : PySem.W.Frag) (cls : Nat → Addr) (lamF : Nat → List Val → FX) (dom : Nat → Bool) (W : WX) (i : Nat) (t : TA) : TE := fun σ H Q => ∃ f j hs us, σ[i]? = some (some (.ref f)) ∧ dom j = true ∧ Gam.is j f hs us ∧ (∀ p ∈ hs, H p.1 = some p.2) ∧
  t σ H fun vs H1 => (∀ p ∈ hs, H1 p.1 = some p.2) ∧ spC K cls (lamF j) us vs H1 Q (WE W σ)
section
variable {X : Cx} {W : WX} {K : PySem.W.Frag} {cls : Nat → Addr} {lamF : Nat → List Val → FX} {dom : Nat → Bool} {k j i : Nat} {m : Bool} {t : TA} {f : L} {e : Expr} {es : List Expr} {x : Str} {p pos : Pos}
theorem pe_callV (c : CloP X.prog X.w X.K cls X.mg X.base k lamF dom) (tk : L2N.Takes X W) (hr : Room j X.A) (hk : k ≤ j) (hN : X.N[i]? = some x) (hv : Vis X.env.scope x) (ha : PA X (e :: es) t)
    (hd : (x == ("__debug__" : Str)) = false) (hcd : (x == ("__classdict__" : Str)) = false)
    (he : starEach (e :: es) X.env = (false, eval e X.env) :: starEach es X.env) (hpl : (backTo pos (starEach es X.env)).any (·.1) = false) :
    PE X (.Call (.Name x p) (e :: es) [] pos) (tCallV X.K cls lamF dom W i t) := by
  refine ⟨fun pins s σ H Q I h => ?_⟩
  obtain ⟨f, j', hs, us, h1, h2, h3, h4, ht⟩ := h
  refine wpAny_Call_Name_kw (thn ((pe_var (pos := p) hN hv hd hcd).run pins s σ H (fun v H1 => v = .ref f ∧ H1 = H) I ⟨.ref f, h1, rfl, rfl⟩) fun u s1 ⟨v, H1, I1, r1, q1⟩ => ?_)
  obtain ⟨ev, eH⟩ := q1
  subst ev
  rw [eH] at I1
  obtain rfl : u = Value.ref f := r1
  refine PySem.W.callWith_F (first := []) (c.fn _ _ _ _ _ _ h2 h3 I1.hok h4) (thn (ha.run pos pins s1 σ H _ I1 ht) fun uv s2 ⟨vs, H2, I2, r, g1, q⟩ => ⟨c.fn _ _ _ _ _ _ h2 h3 I2.hok g1, ?_⟩) he hpl
  show wpAny _ _ (call (.ref f) uv) _ _ _
  refine wpAny_call (codeAny_mono (c.run X.A X.stack s2 H2 _ _ _ _ uv vs Q (WE W σ) (hr.mono hk) I2.env0 h2 h3 g1 r q) fun r s' hq => ?_)
  cases r with
  | error e => exact L2N.passAt tk σ pins H2 s2 e s' I2 hq
  | ok fl =>
    cases fl with
    | ret u => exact I2.after hq
    | next => exact False.elim hq
    | brk => exact False.elim hq
    | cont => exact False.elim hq
theorem x_callV (h : SndA K cls false t f) : SndEX K cls m (fun W => tCallV K cls lamF dom W i t) (xCallV lamF dom i f) := ⟨fun ρ Z σ H sl st r R e Q W q => by
  unfold xCallV at e
  split at e
  · rename_i j' cs hsl
    split at e
    · rename_i hd
      obtain ⟨p, e1, e⟩ := bind_some e
      obtain ⟨u, s1, r1⟩ := R.slots i _ hsl
      cases r1 with
      | fn g1 g2 g3 =>
        rename_i fa hs us
        refine ⟨fa, j', hs, us, s1, hd, g1, fun p hp => (g2 p hp).2, ?_⟩
        refine h.run ρ Z σ H sl st p.1 p.2 R e1 _ fun vs ρ1 H1 R1 x1 r1 => ?_
        refine ⟨fun p hp => (x1.ar.fnAt g2 p hp).2, ρ1, ZO Z sl σ, cs, p.1, p.2, r, R1.s, x1.repL g3, r1.repL, e, ?_⟩
        cases r with
        | val d st' => exact fun u ρ2 H2 R2 x2 r2 => q u ρ2 H2 (R1.step x2 R2) (x1.trans x2) (.of r2)
        | exc c st' => exact fun ρ2 H2 R2 x2 => q ρ2 H2 (R1.step x2 R2) (x1.trans x2)
    · cases e
  · cases e⟩
theorem sx_callV [hK : KX X K] (c : CloP X.prog X.w K cls X.mg X.base k lamF dom) (tk : L2N.Takes X W) (hr : Room j X.A) (ha : SA X K cls false (e :: es) t f) (hk : k ≤ j := by decide) (hN : X.N[i]? = some x := by rfl) (hv : Vis X.env.scope x := by first | exact Or.inl rfl | exact Or.inr (Or.inl rfl) | exact Or.inr (Or.inr rfl))
    (hd : (x == ("__debug__" : Str)) = false := by decide) (hcd : (x == ("__classdict__" : Str)) = false := by decide)
    (he : starEach (e :: es) X.env = (false, eval e X.env) :: starEach es X.env := by rfl) (hpl : (backTo pos (starEach es X.env)).any (·.1) = false := by rfl) :
    SEX X W K cls m (.Call (.Name x p) (e :: es) [] pos) (fun W => tCallV K cls lamF dom W i t) (xCallV lamF dom i f) := by
  obtain ⟨rfl⟩ := hK
  exact ⟨pe_callV c tk hr hk hN hv ha.1 hd hcd he hpl, x_callV ha.2⟩
end

/-! ### a lambda's promise, by its body -/
theorem lam_run {CX : CXT} {P : Program} {w : World} {K : PySem.W.Frag} {mg : Str → Option Value} {base : Heap} {N ps fr : List Str} {k : Nat} {f c' : Addr} {L : LT} {cl : List (Str × Addr)} {A : Around} {outer : List Env} {s : Shared} {H : Hp} {us : List Value} {vs : List V} {ws : List (Option V)} {Q : VK} {E : XK}
    (S : NScope N ps fr L.scope) (hb : ∀ (pm ctv : Value), bindArgs (PySem.W.kla_fn "<lambda>" L.qual L.params L.body L.scope cl pm (.ref c') ctv) ⟨us, []⟩ = pure (ps.zip us))
    (hr : Room (k + 1) A) (e0 : Env0 P w K mg base A outer s H) (hf : H f = some (LamO f L cl c')) (hc : H c' = some (CodeO c' L.qual)) (C : CellsAt cl fr ws s.heap H) (r : Vals vs us) (hl : vs.length = ps.length)
    (hbody : Room k (A.deeper (envF ⟨"<lambda>", L.qual, L.params, [], L.scope, cl, c'⟩ f s.heap.objs.size)) → ∃ t, PE (ncx CX P w K mg base N ⟨"<lambda>", L.qual, L.params, [], L.scope, cl, c'⟩ f A outer s H E) L.body t ∧ t (startF N vs ws) H Q) :
    codeAny (model P w) A (.call (.ref f) ⟨us, []⟩) (CR CX outer P w H s Q E) s := by
  have lim : s.heap.NoLimit := e0.mod.nolimit.keeps fun b o e => (e0.bs b o e).1
  obtain ⟨pm, ctv, ho⟩ := lamO_at e0.hok hf
  refine PySem.W.kla_callFunE hr.depth ho rfl S.co S.gen rfl (codeO_at e0.hok hc) ?_
  rw [hb pm ctv]
  refine wpAny_pure (wpAny_newFunctionEnv S.nocell (fun ⟨n, _⟩ hy => S.par n (List.of_mem_zip hy).1) (fun h₁ hns hsb => ⟨lim.fresh _ hsb, ?_⟩) S.kind)
  have kp : ∀ b o, s.heap.get? b = some o → h₁.get? b = some o := fun b o e => hsb.extBut b o (Nat.ne_of_lt (Heap.lt_size e)) (Heap.get?_push_of_some _ e)
  obtain ⟨t, ht, hq⟩ := hbody (hr.deeper _)
  have I : Inv (ncx CX P w K mg base N ⟨"<lambda>", L.qual, L.params, [], L.scope, cl, c'⟩ f A outer s H E) [] (startF N vs ws) H { s with heap := h₁, toks := s.toks + (ps.zip us).length } := inv_startN (F := ⟨"<lambda>", L.qual, L.params, [], L.scope, cl, c'⟩) S hr.hd e0 hl r C hns kp
  show codeAny _ _ (.expr L.body (envF ⟨"<lambda>", L.qual, L.params, [], L.scope, cl, c'⟩ f s.heap.objs.size)) _ _
  refine PySem.W.kla_codeExpr (wpAny_mono (ht.run [] _ (startF N vs ws) H Q I hq) (fun v s' hs => ?_) fun e s' hs => hs)
  obtain ⟨w', H', J, rv, q⟩ := hs
  exact ⟨w', H', J.os, J.bare, J.base, J.hok, rv, q⟩
def lamFn (k n : Nat) (b : EX) : List Val → FX := fun cs ds st => if ds.length = k ∧ cs.length = n then b (ds.map .val ++ cs.map .val) st else none
section
variable {K : PySem.W.Frag} {cls : Nat → Addr}
theorem startF_eq {N : List Str} {vs us : List V} (h : N.length = vs.length + us.length) : startF N vs (us.map some) = L2.start N (vs ++ us) := by
  unfold startF L2.start
  rw [List.length_map, List.length_append, List.map_append, show N.length - vs.length - us.length = 0 by omega, show N.length - (vs.length + us.length) = 0 by omega]
  simp
theorem bodyL {t : WX → TE} {b : EX} {N : List Str} {us vs : List V} {k n : Nat} {Q : VK} {E : XK} (sn : SndEX K cls false t b) (hn : N.length = k + n) (h : spC K cls (lamFn k n b) us vs H Q E) : t (fun cls d _ H => E cls d H) (startF N vs (us.map some)) H Q := by
  obtain ⟨ρ, Z, cs, ds, st, r, R, rc, rd, e, q⟩ := h
  unfold lamFn at e
  split at e
  · rename_i hl
    have hl2 : (ds ++ cs).length = k + n := by rw [List.length_append]; omega
    have hlv := rd.length
    have hlu := rc.length
    have R0 := start_rel (N := N) R (rd.append rc) hl2
    rw [← startF_eq (by omega), hn, Nat.sub_self, List.map_append] at R0
    have R0 : Rel K cls ρ Z (startF N vs (us.map some)) H (ds.map .val ++ cs.map .val) st := by simpa using R0
    have noO : ∀ a, ¬ Own (ds.map Slot.val ++ cs.map Slot.val) (startF N vs (us.map some)) a := fun a ⟨i, xs, h1, _⟩ => by
      rw [← List.map_append, List.getElem?_map] at h1
      cases hd : (ds ++ cs)[i]? with
      | none => rw [hd] at h1; cases h1
      | some d => rw [hd] at h1; cases h1
    refine sn.run ρ Z (startF N vs (us.map some)) H _ st r R0 e Q _ ?_
    cases r with
    | val d st1 => exact fun u ρ' H' R' x' r' => q u ρ' H' (R'.s.zs fun a h => .inl h) x' (r'.rep.mono (Fr.less fun a h => h.imp id .inl) List.prefix_rfl)
    | exc c st1 => exact fun ρ' H' R' x' => q ρ' H' (R'.s.zs fun a h => .inl h) x'
  · cases e
theorem lam_ok {P : Program} {w : World} {mg : Str → Option Value} {base : Heap} {N ps fr : List Str} {lv k n : Nat} {L : LT} {b : EX} (S : NScope N ps fr L.scope) (hN : N.length = k + n) (hk : ps.length = k) (hn : fr.length = n)
    (hb : ∀ (cl : List (Str × Addr)) (c' : Addr) (pm ctv : Value) (us : List Value), us.length = ps.length → bindArgs (PySem.W.kla_fn "<lambda>" L.qual L.params L.body L.scope cl pm (.ref c') ctv) ⟨us, []⟩ = pure (ps.zip us))
    (body : ∀ (A : Around) (outer : List Env) (s : Shared) (H : Hp) (E : XK) (f c' : Addr) (cl : List (Str × Addr)), Room lv (A.deeper (envF ⟨"<lambda>", L.qual, L.params, [], L.scope, cl, c'⟩ f s.heap.objs.size)) →
      KX (ncx (L2N.CX P w) P w K mg base N ⟨"<lambda>", L.qual, L.params, [], L.scope, cl, c'⟩ f A outer s H E) K →
      L2N.Takes (ncx (L2N.CX P w) P w K mg base N ⟨"<lambda>", L.qual, L.params, [], L.scope, cl, c'⟩ f A outer s H E) (fun cls d _ H => E cls d H) →
      ∃ t, SEX (ncx (L2N.CX P w) P w K mg base N ⟨"<lambda>", L.qual, L.params, [], L.scope, cl, c'⟩ f A outer s H E) (fun cls d _ H => E cls d H) K cls false L.body t b)
    : LamOk P w K cls mg base (lv + 1) L fr (lamFn k n b) := by
  intro A outer s H f c' cl us uv vs Q E hr e0 hf hc C r h
  have hl : vs.length = ps.length := by
    obtain ⟨ρ, Z, cs, ds, st, r, R, rc, rd, e, q⟩ := id h
    unfold lamFn at e
    split at e
    · rename_i hl
      rw [← rd.length, hl.1, hk]
    · cases e
  refine lam_run S (fun pm ctv => hb cl c' pm ctv uv (by rw [← r.length]; exact hl)) hr e0 hf hc C r hl fun hr' => ?_
  obtain ⟨t, ht, sn⟩ := body A outer s H E f c' cl hr' ⟨rfl⟩ (L2N.takes_of rfl rfl rfl rfl)
  exact ⟨t _, ht, bodyL sn hN h⟩
end
end Mi

set_option Elab.async false
set_option linter.all false
set_option maxRecDepth 100000
set_option maxHeartbeats 2000000
/-! Mi: lambdas handed to a call by the def that made them. -/
namespace Mi
open PySem PySem.Spec PyProof.Rows L2 LamX NdefX

/-! ### from one reading of lambdas to another -/
section
variable {K : PySem.W.Frag} {cls : Nat → Addr} {ρ : List Addr} {A Z : Addr → Prop} {H : Hp} {g1 g2 : Gam}
/-- none of the lambdas of own stands in it -/
def okV (own : Nat → Bool) : Nat → Val → Bool
  | _, .non => true
  | _, .bl _ => true
  | _, .int _ => true
  | _, .str _ => true
  | _, .ref _ => true
  | 0, _ => false
  | n + 1, .lst xs => xs.all (okV own n)
  | n + 1, .tup xs => xs.all (okV own n)
  | n + 1, .fn i cs => !own i && cs.all (okV own n)
theorem repL_ok {own : Nat → Bool} {n : Nat} (h : ∀ {x : Val} {u : V}, okV own n x = true → @Rep g1 K ρ A H x u → @Rep g2 K ρ A H x u) : ∀ {xs : List Val} {us : List V}, xs.all (okV own n) = true → @RepL g1 K ρ A H xs us → @RepL g2 K ρ A H xs us
  | [], _, _, r => by
    cases r
    exact .nil
  | x :: xs, _, e, r => by
    rw [List.all_cons, Bool.and_eq_true] at e
    cases r with
    | cons r t => exact .cons (h e.1 r) (repL_ok h e.2 t)
theorem rep_ok {own : Nat → Bool} (hg : ∀ i f hs us, own i = false → g1.is i f hs us → g2.is i f hs us) : ∀ (n : Nat) {x : Val} {u : V}, okV own n x = true → @Rep g1 K ρ A H x u → @Rep g2 K ρ A H x u
  | 0, x, u, e, r => by
    cases r with
    | non => exact .non
    | bl b => exact .bl b
    | int i => exact .int i
    | str s => exact .str s
    | ref h => exact .ref h
    | lst _ _ => cases e
    | tup _ _ => cases e
    | fn _ _ _ => cases e
  | n + 1, x, u, e, r => by
    cases r with
    | non => exact .non
    | bl b => exact .bl b
    | int i => exact .int i
    | str s => exact .str s
    | ref h => exact .ref h
    | lst h t => exact .lst h (repL_ok (rep_ok hg n) e t)
    | tup h t => exact .tup h (repL_ok (rep_ok hg n) e t)
    | fn h1 h2 t =>
      have e : (_ && _) = true := e
      rw [Bool.and_eq_true, Bool.not_eq_true'] at e
      exact .fn (hg _ _ _ _ e.1 h1) h2 (repL_ok (rep_ok hg n) e.2 t)
theorem rep_up (hg : ∀ i f hs us, g1.is i f hs us → g2.is i f hs us) {x : Val} {u : V} (r : @Rep g1 K ρ A H x u) : @Rep g2 K ρ A H x u :=
  @Rep.rec g1 K ρ A H (fun x u _ => @Rep g2 K ρ A H x u) (fun xs us _ => @RepL g2 K ρ A H xs us) .non (fun b => .bl b) (fun i => .int i) (fun s => .str s) (fun h => .ref h) (fun h _ t => .lst h t) (fun h _ t => .tup h t) (fun h1 h2 _ t => .fn (hg _ _ _ _ h1) h2 t) .nil (fun _ _ r t => .cons r t) x u r
theorem repL_up (hg : ∀ i f hs us, g1.is i f hs us → g2.is i f hs us) : ∀ {xs : List Val} {us : List V}, @RepL g1 K ρ A H xs us → @RepL g2 K ρ A H xs us
  | [], _, r => by
    cases r
    exact .nil
  | x :: xs, _, r => by
    cases r with
    | cons r t => exact .cons (rep_up hg r) (repL_up hg t)
def okC (own : Nat → Bool) : Cell → Bool
  | .lst xs => xs.all (okV own 8)
  | .ins _ vs => vs.all (okV own 8)
  | .dk kvs => (kvs.map (·.2)).all (okV own 8)
  | .dt kvs => (kvs.map (·.2)).all (okV own 8)
  | .tb _ => true
theorem repC_ok {own : Nat → Bool} {a : Addr} {c : Cell} (ht : @Gam.tb g1 = @Gam.tb g2) (hg : ∀ i f hs us, own i = false → g1.is i f hs us → g2.is i f hs us) (e : okC own c = true) (h : @RepC g1 K cls ρ A H a c) : @RepC g2 K cls ρ A H a c := by
  cases c with
  | lst xs => obtain ⟨us, e1, r⟩ := h; exact ⟨us, e1, repL_ok (rep_ok hg 8) e r⟩
  | ins C vs => obtain ⟨dx, us, e1, l, r⟩ := h; exact ⟨dx, us, e1, l, repL_ok (rep_ok hg 8) e r⟩
  | dk kvs => obtain ⟨us, e1, l, r⟩ := h; exact ⟨us, e1, l, repL_ok (rep_ok hg 8) e r⟩
  | dt kvs => obtain ⟨us, e1, l, r⟩ := h; exact ⟨us, e1, l, repL_ok (rep_ok hg 8) e r⟩
  | tb k =>
    show a = (@Gam.tb g2 k).1 ∧ ∃ ps : Array Value, H a = some (.tbl ps) ∧ TriplesOk ps.toList ∧ ∀ (pos : Pos) (cv : Value), codeAmong pos ps.toList = some cv → ∃ c, cv = .ref c ∧ ¬ A c ∧ H c = some (CodeO c (@Gam.tb g2 k).2)
    rw [← ht]
    exact h
theorem repC_up {a : Addr} {c : Cell} (ht : @Gam.tb g1 = @Gam.tb g2) (hg : ∀ i f hs us, g1.is i f hs us → g2.is i f hs us) (h : @RepC g1 K cls ρ A H a c) : @RepC g2 K cls ρ A H a c := by
  cases c with
  | lst xs => obtain ⟨us, e1, r⟩ := h; exact ⟨us, e1, repL_up hg r⟩
  | ins C vs => obtain ⟨dx, us, e1, l, r⟩ := h; exact ⟨dx, us, e1, l, repL_up hg r⟩
  | dk kvs => obtain ⟨us, e1, l, r⟩ := h; exact ⟨us, e1, l, repL_up hg r⟩
  | dt kvs => obtain ⟨us, e1, l, r⟩ := h; exact ⟨us, e1, l, repL_up hg r⟩
  | tb k =>
    show a = (@Gam.tb g2 k).1 ∧ ∃ ps : Array Value, H a = some (.tbl ps) ∧ TriplesOk ps.toList ∧ ∀ (pos : Pos) (cv : Value), codeAmong pos ps.toList = some cv → ∃ c, cv = .ref c ∧ ¬ A c ∧ H c = some (CodeO c (@Gam.tb g2 k).2)
    rw [← ht]
    exact h
theorem relR_ok {own : Nat → Bool} {st : Sto} (ht : @Gam.tb g1 = @Gam.tb g2) (hg : ∀ i f hs us, own i = false → g1.is i f hs us → g2.is i f hs us) (e : st.all (okC own) = true) (R : @RelR g1 K cls ρ Z H st) : @RelR g2 K cls ρ Z H st :=
  @RelR.mk g2 K cls ρ Z H st (@RelR.nd g1 _ _ _ _ _ _ R) (@RelR.len g1 _ _ _ _ _ _ R) (fun n c a h1 h2 => repC_ok ht hg (List.all_eq_true.mp e c (List.mem_of_getElem? h1)) (@RelR.cells g1 _ _ _ _ _ _ R n c a h1 h2)) (@RelR.dom g1 _ _ _ _ _ _ R) (@RelR.dis g1 _ _ _ _ _ _ R)
theorem relR_up {st : Sto} (ht : @Gam.tb g1 = @Gam.tb g2) (hg : ∀ i f hs us, g1.is i f hs us → g2.is i f hs us) (R : @RelR g1 K cls ρ Z H st) : @RelR g2 K cls ρ Z H st :=
  @RelR.mk g2 K cls ρ Z H st (@RelR.nd g1 _ _ _ _ _ _ R) (@RelR.len g1 _ _ _ _ _ _ R) (fun n c a h1 h2 => repC_up ht hg (@RelR.cells g1 _ _ _ _ _ _ R n c a h1 h2)) (@RelR.dom g1 _ _ _ _ _ _ R) (@RelR.dis g1 _ _ _ _ _ _ R)
end

/-! ### the maker's reading, the callee's -/
def lamHs (f : Addr) (L : LT) (cells : List (Str × Addr)) (c' : Addr) : List (Addr × HO) := [(f, LamO f L (cloFrom cells L.scope.names []) c'), (c', CodeO c' L.qual)]
/-- own: the slots that a lambda of this maker captures -/
abbrev OwnT := Nat → Option (List Nat)
@[reducible] def gamM (g0 : Gam) (cells : List (Str × Addr)) (tab : Nat → Option LT) : Gam := ⟨fun i f hs us => (∃ L c', tab i = some L ∧ hs = lamHs f L cells c') ∨ g0.is i f hs us, g0.tb⟩
@[reducible] def gamC (g0 : Gam) (cells : List (Str × Addr)) (tab : Nat → Option LT) (own : OwnT) (σ : L2.St) : Gam := ⟨fun i f hs us => (∃ L c' js, tab i = some L ∧ hs = lamHs f L cells c' ∧ own i = some js ∧ us.map some = js.map (slotAt σ)) ∨ g0.is i f hs us, g0.tb⟩
def ownB (own : OwnT) : Nat → Bool := fun i => (own i).isSome
def capV (own : OwnT) (sl : Sl) (j : Nat) : Option Val := match sl[j]? with
  | some (.val v) => if okV (ownB own) 8 v then some v else none
  | _ => none
def clo (own : OwnT) (sl : Sl) : Nat → Val → Option Val
  | 0, x => if okV (ownB own) 8 x then some x else none
  | n + 1, x => match x with
    | .fn i cs => match own i with
      | some js => (js.mapM (capV own sl)).map fun vs => .fn i vs
      | none => if okV (ownB own) 8 (.fn i cs) then some (.fn i cs) else none
    | .lst xs => (xs.mapM (clo own sl n)).map .lst
    | x => if okV (ownB own) 8 x then some x else none
structure Kinds (g0 : Gam) (tab : Nat → Option LT) (own : OwnT) : Prop where
  all : ∀ i, (tab i).isSome = (own i).isSome
  dis : ∀ i f hs us, g0.is i f hs us → own i = none
section
variable {K : PySem.W.Frag} {cls : Nat → Addr} {g0 : Gam} {cells : List (Str × Addr)} {tab : Nat → Option LT} {own : OwnT} {ρ : List Addr} {A Z : Addr → Prop} {σ : L2.St} {H : Hp} {sl : Sl} {st : Sto}
theorem gam_down (k : Kinds g0 tab own) : ∀ i f hs us, ownB own i = false → (gamM g0 cells tab).is i f hs us → (gamC g0 cells tab own σ).is i f hs us := fun i f hs us e h => by
  rcases h with ⟨L, c', h1, _⟩ | h
  · have := k.all i
    rw [h1] at this
    have e : (own i).isSome = false := e
    rw [e] at this
    cases this
  · exact .inr h
theorem gam_back : ∀ i f hs us, (gamC g0 cells tab own σ).is i f hs us → (gamM g0 cells tab).is i f hs us := fun i f hs us h => by
  rcases h with ⟨L, c', js, h1, h2, _⟩ | h
  · exact .inl ⟨L, c', h1, h2⟩
  · exact .inr h
theorem clo_caps (k : Kinds g0 tab own) (hs : ∀ (i : Nat) v, sl[i]? = some (.val v) → ∃ u, σ[i]? = some (some u) ∧ @Rep (gamM g0 cells tab) K ρ A H v u) : ∀ {js : List Nat} {vs : List Val},
    js.mapM (capV own sl) = some vs → ∃ us : List V, us.map some = js.map (slotAt σ) ∧ @RepL (gamC g0 cells tab own σ) K ρ A H vs us
  | [], vs, e => by
    cases e
    exact ⟨[], rfl, @RepL.nil (gamC g0 cells tab own σ) K ρ A H⟩
  | j :: js, vs, e => by
    rw [List.mapM_cons] at e
    obtain ⟨v, e1, e⟩ := bind_some e
    obtain ⟨vs', e2, e⟩ := bind_some e
    cases e
    unfold capV at e1
    split at e1
    · rename_i w hw
      split at e1
      · rename_i hok
        cases e1
        obtain ⟨u, h1, h2⟩ := hs j _ hw
        obtain ⟨us, h3, h4⟩ := clo_caps k hs e2
        exact ⟨u :: us, by rw [List.map_cons, List.map_cons, h3, slotAt_of h1], @RepL.cons (gamC g0 cells tab own σ) K ρ A H _ _ _ _ (rep_ok (gam_down k) 8 hok h2) h4⟩
      · cases e1
    · cases e1
theorem repL_mapM {g1 g2 : Gam} {φ : Val → Option Val} (h : ∀ {x y : Val} {u : V}, φ x = some y → @Rep g1 K ρ A H x u → @Rep g2 K ρ A H y u) : ∀ {xs ys : List Val} {us : List V}, xs.mapM φ = some ys → @RepL g1 K ρ A H xs us → @RepL g2 K ρ A H ys us
  | [], ys, _, e, r => by
    cases r
    cases e
    exact @RepL.nil g2 K ρ A H
  | x :: xs, ys, _, e, r => by
    rw [List.mapM_cons] at e
    obtain ⟨y, e1, e⟩ := bind_some e
    obtain ⟨ys', e2, e⟩ := bind_some e
    cases e
    cases r with
    | cons r t => exact @RepL.cons g2 K ρ A H _ _ _ _ (h e1 r) (repL_mapM h e2 t)
theorem rep_clo (k : Kinds g0 tab own) (hs : ∀ (i : Nat) v, sl[i]? = some (.val v) → ∃ u, σ[i]? = some (some u) ∧ @Rep (gamM g0 cells tab) K ρ A H v u) : ∀ (n : Nat) {x y : Val} {u : V}, clo own sl n x = some y → @Rep (gamM g0 cells tab) K ρ A H x u → @Rep (gamC g0 cells tab own σ) K ρ A H y u
  | 0, x, y, u, e, r => by
    have e : (if okV (ownB own) 8 x = true then some x else none) = some y := e
    split at e
    · rename_i hok
      cases e
      exact rep_ok (gam_down k) 8 hok r
    · cases e
  | n + 1, x, y, u, e, r => by
    have plain : ∀ {x : Val}, (if okV (ownB own) 8 x = true then some x else none) = some y → @Rep (gamM g0 cells tab) K ρ A H x u → @Rep (gamC g0 cells tab own σ) K ρ A H y u := fun {x} e r => by
      split at e
      · rename_i hok
        cases e
        exact rep_ok (gam_down k) 8 hok r
      · cases e
    cases x with
    | fn i cs =>
      cases ho : own i with
      | none =>
        simp only [clo, ho] at e
        exact plain e r
      | some js =>
        simp only [clo, ho] at e
        obtain ⟨vs, e1, rfl⟩ := Option.map_eq_some_iff.mp e
        obtain ⟨us, h1, h2⟩ := clo_caps k hs e1
        cases r with
        | fn g1 g2 g3 =>
          rcases g1 with ⟨L, c', q1, q2⟩ | g1
          · exact @Rep.fn (gamC g0 cells tab own σ) K ρ A H _ _ _ _ _ (.inl ⟨L, c', js, q1, q2, ho, h1⟩) g2 h2
          · rw [k.dis _ _ _ _ g1] at ho
            cases ho
    | lst xs =>
      have e : (xs.mapM (clo own sl n)).map Val.lst = some y := e
      obtain ⟨ys, e1, rfl⟩ := Option.map_eq_some_iff.mp e
      cases r with
      | lst h t => exact @Rep.lst (gamC g0 cells tab own σ) K ρ A H _ _ _ h (repL_mapM (rep_clo k hs n) e1 t)
    | non => exact plain (x := .non) e r
    | bl b => exact plain (x := .bl b) e r
    | int b => exact plain (x := .int b) e r
    | str b => exact plain (x := .str b) e r
    | ref b => exact plain (x := .ref b) e r
    | tup b => exact plain (x := .tup b) e r
end

/-! ### the call -/
def eCallB (mm : F) (own : OwnT) (a : L) : E := fun sl st => (a sl st).bind fun p => if p.2.all (okC (ownB own)) = true then (p.1.mapM (clo own sl 2)).bind fun ds => mm ds p.2 else none
def tCallB (K : PySem.W.Frag) (cls : Nat → Addr) (g0 : Gam) (cells : List (Str × Addr)) (tab : Nat → Option LT) (own : OwnT) (mm : F) (t : TA) : TE := fun σ H Q => t σ H fun vs H1 => @spM (gamC g0 cells tab own σ) K cls mm vs H1 Q E0
theorem snd_callB {K : PySem.W.Frag} {cls : Nat → Addr} {g0 : Gam} {cells : List (Str × Addr)} {tab : Nat → Option LT} {own : OwnT} {mm : F} {m : Bool} {t : TA} {f : L} (k : Kinds g0 tab own) (h : @SndA (gamM g0 cells tab) K cls false t f) :
    @Snd (gamM g0 cells tab) K cls m (tCallB K cls g0 cells tab own mm t) (eCallB mm own f) := @Snd.mk (gamM g0 cells tab) K cls m _ _ fun ρ Z σ H sl st d st' R e Q q => by
  letI : Gam := gamM g0 cells tab
  obtain ⟨p, e1, e⟩ := bind_some e
  split at e
  · rename_i hok
    obtain ⟨ds, e2, e⟩ := bind_some e
    refine h.run ρ Z σ H sl st p.1 p.2 R e1 _ fun us ρ1 H1 R1 x1 r1 => ?_
    refine ⟨ρ1, ZO Z sl σ, ds, p.2, d, st', relR_ok (by rfl) (gam_down k) hok R1.s, repL_mapM (rep_clo k (fun i v hv => R1.slots i v hv) 2) e2 (@RepML.repL (gamM g0 cells tab) _ _ _ _ _ _ _ _ r1), e, fun u ρ2 H2 R2 x2 r2 => ?_⟩
    exact q u ρ2 H2 (R1.step x2 (relR_up (by rfl) gam_back R2)) (x1.trans x2) (.inl (rep_up gam_back r2))
  · cases e
end Mi

set_option Elab.async false
set_option linter.all false
set_option maxRecDepth 100000
set_option maxHeartbeats 2000000
/-! Mi: the call that lambdas are handed to, the maker's promise. -/
namespace Mi
open PySem PySem.Spec PyProof.Rows L2 LamX NdefX

/-- base, and what the running frame's cells hold -/
structure BaseX (X : Cx) (σ : L2.St) (b' : Heap) : Prop where
  ok : X.Ok
  sub : ∀ b o, X.base.get? b = some o → b'.get? b = some o
  sz : X.base.objs.size ≤ b'.objs.size
  mod : L2.Mod X.K X.mg b'
  cell : ∀ y c, X.env.cells.lookup y = some c → ∃ v, b'.IsCell c v
  has : ∀ (j : Nat) y c v, X.N[j]? = some y → (X.env.scope.names.lookup y = some .cell ∨ X.env.scope.names.lookup y = some .free) → X.env.cells.lookup y = some c → σ[j]? = some (some v) → ∃ u, RelV v u ∧ b'.IsCell c (some u)
theorem modK_of {K : PySem.W.Frag} {mg : Str → Option Value} {b b' : Heap} (m : L2.Mod K mg b) (k : ∀ a o, b.get? a = some o → b'.get? a = some o) : L2.Mod K mg b' := by
  have ns : ∀ {a : Addr} {m : Str → Option Value}, b.Ns a m → b'.Ns a m := fun {a m} ⟨o, es, ep, e, r⟩ => ⟨o, es, ep, k _ _ e, r⟩
  obtain ⟨mb, h1, h2⟩ := m.blt
  obtain ⟨mc, l1, l2⟩ := m.nolimit
  exact ⟨m.kin.keeps k, ns m.glob, ⟨mb, ns h1, h2⟩, ⟨mc, ns l1, l2⟩⟩
section
variable {X : Cx} {pins : List (Addr × Obj)} {σ : L2.St} {H : Hp} {s : Shared}
def keepB (X : Cx) (b : Addr) : Bool := (X.base.get? b).isSome || X.env.cells.any fun q => X.env.cells.lookup q.1 == some b
theorem keepB_cell {y : Str} {c : Addr} (e : X.env.cells.lookup y = some c) : keepB X c = true := by
  unfold keepB
  rw [Bool.or_eq_true]
  refine .inr (List.any_eq_true.mpr ⟨(y, c), PySem.mem_of_lookup e, ?_⟩)
  rw [e]
  exact beq_self_eq_true _
theorem baseX (I : Inv X pins σ H s) (hfn : ∀ y c, X.env.cells.lookup y = some c → c ∉ X.fs) : ∃ b', BaseX X σ b' ∧ Env0 X.prog X.w X.K X.mg b' X.A X.stack s H := by
  obtain ⟨M, hM⟩ : ∃ M : Hp, M = fun b => if keepB X b = true then none else some (HO.own 0) := ⟨_, rfl⟩
  have m1 : ∀ {b : Addr}, keepB X b = true → M b = none := fun {b} h => by rw [hM]; exact if_pos h
  have m2 : ∀ {b : Addr}, M b = none → keepB X b = true := fun {b} h => by
    cases q : keepB X b with
    | true => rfl
    | false =>
      rw [hM] at h
      have h : (if keepB X b = true then none else some (HO.own 0)) = none := h
      rw [q, if_neg Bool.false_ne_true] at h
      cases h
  have at_ : ∀ {b : Addr} {o : Obj}, s.heap.get? b = some o → keepB X b = true → (hidT s.heap M).get? b = some o := fun e h => hidT_get e (m1 h)
  have kb : ∀ b o, X.base.get? b = some o → (hidT s.heap M).get? b = some o := fun b o e => at_ (I.bk b o e) (by unfold keepB; rw [e]; rfl)
  have cellK : ∀ {y : Str} {c : Addr} {v : Option Value}, X.env.cells.lookup y = some c → s.heap.IsCell c v → (hidT s.heap M).IsCell c v := fun e ⟨o, ho, hd⟩ => ⟨o, at_ ho (keepB_cell e), hd⟩
  have which : ∀ {b : Addr} {o : Obj}, (hidT s.heap M).get? b = some o → s.heap.get? b = some o ∧ ((∃ o, X.base.get? b = some o) ∨ ∃ y, X.env.cells.lookup y = some b) := fun {b o} e => by
    obtain ⟨e1, e2⟩ := of_hidT e
    refine ⟨e1, ?_⟩
    have h := m2 e2
    unfold keepB at h
    rw [Bool.or_eq_true] at h
    rcases h with h | h
    · exact .inl (Option.isSome_iff_exists.mp h)
    · obtain ⟨q, _, hq⟩ := List.any_eq_true.mp h
      exact .inr ⟨q.1, beq_iff_eq.mp hq⟩
  have mod := modK_of I.mod kb
  refine ⟨hidT s.heap M, ⟨I.ok, kb, by rw [hidT_size]; exact Nat.le_trans I.ok.bsz I.sz, mod, fun y c e => ?_, fun j y c v hN hk e hv => ?_⟩, I.ok.frames, mod, fun b o e => ?_, Nat.le_of_eq (hidT_size _ _), ?_, I.stkFree, I.hok, I.bare⟩
  · obtain ⟨v, z⟩ := I.cell y c e
    exact ⟨v, cellK e z⟩
  · obtain ⟨m, hn, hl⟩ := I.loc
    obtain ⟨u, r, l⟩ := hl j y v hN hv (hk.elim (fun z => .inr (.inl z)) fun z => .inr (.inr z))
    rcases l with ⟨z, _⟩ | ⟨_, c', e', hcell⟩
    · have z' : X.env.scope.names.lookup y = some .local := z
      rcases hk with k | k <;> rw [k] at z' <;> cases z'
    · rw [e] at e'
      cases e'
      exact ⟨u, r, cellK e hcell⟩
  · obtain ⟨e1, h⟩ := which e
    refine ⟨e1, ?_⟩
    rcases h with ⟨o', h⟩ | ⟨y, h⟩
    · exact (I.bs b o' h).2
    · exact I.freeC y b h
  · have none_ : ∀ L : Addr, L ∈ frs X.stack → (hidT s.heap M).get? L = none := fun L hL => by
      cases q : (hidT s.heap M).get? L with
      | none => rfl
      | some o =>
        obtain ⟨e1, h⟩ := which q
        rcases h with ⟨o', h⟩ | ⟨y, h⟩
        · have z := (I.stack.mem hL).1
          rw [h] at z
          cases z
        · rcases List.mem_cons.mp (I.stkSub L hL) with z | z
          · exact absurd z (I.cne y L h)
          · exact absurd z (hfn y L h)
    have all : ∀ (l : List Env), (∀ b ∈ frs l, b ∈ frs X.stack) → s.heap.FunFrames X.base l → s.heap.FunFrames (hidT s.heap M) l := by
      intro l
      induction l with
      | nil => intro _ _; trivial
      | cons env r ih =>
        intro hs hl
        obtain ⟨hk, ⟨L, o, hf, hn, ho, hd⟩, hr⟩ := hl
        have hL : L ∈ frs X.stack := hs L (by unfold frs; rw [List.filterMap_cons, hf]; exact List.mem_cons_self)
        exact ⟨hk, ⟨L, o, hf, none_ L hL, ho, hd⟩, ih (fun b hb => hs b (by unfold frs; rw [List.filterMap_cons, hf]; exact List.mem_cons_of_mem _ hb)) hr⟩
    exact all X.stack (fun _ h => h) I.stack
/-- x(..), lambdas of this frame handed to it -/
theorem pe_callB {k j : Nat} {sp : L2.St → Sp} {x : Str} {p pos : Pos} {t : TA} {e : Expr} {es : List Expr} (hx : ∃ f, X.mg x = some (.ref f) ∧ PySem.W.keepIn X.K (.ref f) = true) (F : ∀ σ b', BaseX X σ b' → C8.Cal X.prog X.w X.K X.mg b' k x (sp σ) []) (hr : Room j X.A) (hk : k ≤ j) (hfn : ∀ pins σ H s, Inv X pins σ H s → ∀ y c, X.env.cells.lookup y = some c → c ∉ X.fs)
    (hg : Gl X x) (ha : PA X (e :: es) t) (hdb : (x == ("__debug__" : Str)) = false) (he : starEach (e :: es) X.env = (false, eval e X.env) :: starEach es X.env) (hpl : (backTo pos (starEach es X.env)).any (·.1) = false) :
    PE X (.Call (.Name x p) (e :: es) [] pos) (fun σ H Q => t σ H fun vs H1 => sp σ vs H1 Q E0) := by
  obtain ⟨f, hm, kp⟩ := hx
  refine ⟨fun pins s σ H Q I h => ?_⟩
  refine wpAny_Call_Name_kw (ld_glob I hg hm ?_ hdb)
  refine PySem.W.callWith_K (h₀ := X.base) I.ok.mod.kin kp (thn (ha.run pos pins s σ H _ I h) fun us s1 ⟨vs, H1, I1, r, q⟩ => ⟨I1.kIn, ?_⟩) he hpl
  obtain ⟨b', B, e0⟩ := baseX I1 (hfn _ _ _ _ I1)
  obtain ⟨f', fd, ps, ds, F', hm', _, hb, hds⟩ := F σ b' B
  cases hm.symm.trans hm'
  cases hds
  have hl : us.length = ps.length := by rw [← r.length]; exact F'.len _ _ _ _ q
  have bd := hb s1 us I1.kIn (by rw [List.append_nil]; exact hl)
  rw [List.append_nil] at bd
  refine wpAny_call (codeAny_mono (F'.run X.A X.stack s1 H1 ⟨us, []⟩ us vs Q E0 (hr.mono hk) e0 bd r q) fun r s' hq => ?_)
  cases r with
  | error e => exact hq.elim
  | ok fl =>
    cases fl with
    | ret u => exact I1.after hq
    | next => exact False.elim hq
    | brk => exact False.elim hq
    | cont => exact False.elim hq
/-- what the cells of a lambda made here hold, in the callee's eyes -/
theorem BaseX.cells {b' : Heap} {A : Around} {outer : List Env} {s' : Shared} {H' : Hp} {cl : List (Str × Addr)} {fr : List Str} {js : List Nat} {us : List V} (B : BaseX X σ b') (e0 : Env0 X.prog X.w X.K X.mg b' A outer s' H') (c : Caps X cl fr js) (hu : us.map some = js.map (slotAt σ)) :
    CellsAt cl fr (us.map some) s'.heap H' := by
  have kp : ∀ {c : Addr} {v : Option Value}, b'.IsCell c v → s'.heap.IsCell c v ∧ H' c = none := fun ⟨o, ho, hd⟩ => ⟨⟨o, (e0.bs _ o ho).1, hd⟩, (e0.bs _ o ho).2⟩
  have lj : js.length = fr.length := by
    have q := congrArg List.length c.at_
    rw [List.length_map, List.length_map] at q
    exact q
  refine ⟨by rw [hu, List.length_map]; exact lj, fun y a e => ?_, fun x y a e1 e2 => B.ok.inj x y a (c.sub x a e1) (c.sub y a e2), fun i y e => ?_⟩
  · obtain ⟨v, z⟩ := B.cell y a (c.sub y a e)
    obtain ⟨z1, z2⟩ := kp z
    exact ⟨z2, v, z1⟩
  · have e2 : (js.map fun j => X.N[j]?)[i]? = some (some y) := by
      rw [c.at_, List.getElem?_map, e] <;> rfl
    rw [List.getElem?_map] at e2
    cases ej : js[i]? with
    | none =>
      rw [ej] at e2
      cases e2
    | some j =>
      rw [ej] at e2
      have hj : X.N[j]? = some y := Option.some.inj (show some (X.N[j]?) = some (some y) from e2)
      have k := c.kin y (List.mem_of_getElem? e)
      obtain ⟨a, ha⟩ : ∃ a, X.env.cells.lookup y = some a := k.elim (fun z => B.ok.has y (.inl z)) fun z => B.ok.has y (.inr z)
      refine ⟨a, c.sup y (List.mem_of_getElem? e) a ha, fun v ev => ?_⟩
      rw [hu, List.getElem?_map, ej] at ev
      have ev2 : σ[j]? = some (some v) := slotAt_some (Option.some.inj (show some (slotAt σ j) = some (some v) from ev))
      obtain ⟨u, r, z⟩ := B.has j y a v hj k ha ev2
      exact ⟨u, r, (kp z).1⟩
end
theorem fnAt_lam [Gam] {P : Program} {w : World} {H : Hp} {h : Heap} {f c' : Addr} {L : LT} {cl : List (Str × Addr)} (hok : HOk P w H h) (e : H f = some (LamO f L cl c')) : PySem.W.FnAt f h := by
  obtain ⟨pm, ctv, z⟩ := lamO_at hok e
  exact ⟨_, _, _, _, z⟩
/-- the lambdas made here, and those that came in -/
theorem clo_made {X : Cx} {σ : L2.St} {b' : Heap} {K : PySem.W.Frag} {cls : Nat → Addr} {g0 : Gam} {tab : Nat → Option LT} {own : OwnT} {lv : Nat} {lamF : Nat → List Val → FX} {dom : Nat → Bool} (B : BaseX X σ b') (hK : X.K = K)
    (hl : ∀ i L js, tab i = some L → own i = some js → ∃ fr : List Str, (∀ y ∈ L.scope.names, y.2 = .free → X.env.scope.names.lookup y.1 = some .cell ∨ X.env.scope.names.lookup y.1 = some .free) ∧ (∀ y ∈ fr, (y, NameKind.free) ∈ L.scope.names) ∧ js.map (fun j => X.N[j]?) = fr.map some ∧
      @LamOk (gamC g0 X.env.cells tab own σ) X.prog X.w K cls X.mg b' lv L fr (lamF i))
    (h0 : @CloI (gamC g0 X.env.cells tab own σ) g0.is X.prog X.w K cls X.mg b' lv lamF dom) : @CloI (gamC g0 X.env.cells tab own σ) (gamC g0 X.env.cells tab own σ).is X.prog X.w K cls X.mg b' lv lamF dom := by
  subst hK
  letI : Gam := gamC g0 X.env.cells tab own σ
  refine ⟨fun i f hs us H h hd his hok hH => ?_, fun A outer s H i f hs us uv vs Q E hr e0 hd his hH r h => ?_⟩
  · rcases his with ⟨L, c', js, h1, h2, h3, h4⟩ | his
    · subst h2
      exact fnAt_lam hok (hH _ List.mem_cons_self)
    · exact h0.fn i f hs us H h hd his hok hH
  · rcases his with ⟨L, c', js, h1, h2, h3, h4⟩ | his
    · subst h2
      obtain ⟨fr, f1, f2, f3, lo⟩ := hl i L js h1 h3
      exact lo A outer s H f c' _ us uv vs Q E hr e0 (hH _ List.mem_cons_self) (hH (c', _) (List.mem_cons_of_mem _ (List.mem_singleton.mpr rfl))) (B.cells e0 (.made B.ok f1 f2 f3) h4) r h
    · exact h0.run A outer s H i f hs us uv vs Q E hr e0 hd his hH r h
theorem cloI_none {gam : Gam} {is : Nat → Addr → List (Addr × HO) → List V → Prop} (h : ∀ i f hs us, ¬ is i f hs us) {P : Program} {w : World} {K : PySem.W.Frag} {cls : Nat → Addr} {mg : Str → Option Value} {base : Heap} {k : Nat} {lamF : Nat → List Val → FX} {dom : Nat → Bool} : @CloI gam is P w K cls mg base k lamF dom :=
  @CloI.mk gam is P w K cls mg base k lamF dom (fun i f hs us _ _ _ q => absurd q (h _ _ _ _)) fun _ _ _ _ i f hs us _ _ _ _ _ _ _ q => absurd q (h _ _ _ _)
/-! ### the maker's promise -/
def fnOfM (own : OwnT) (k n : Nat) (b : S) : F := fun vs st => (fnOf k n b vs st).bind fun p => if okV (ownB own) 8 p.1 = true ∧ p.2.all (okC (ownB own)) = true then some p else none
theorem spM_made {K : PySem.W.Frag} {cls : Nat → Addr} {g0 : Gam} {cells : List (Str × Addr)} {tab : Nat → Option LT} {own : OwnT} {k n : Nat} {b : S} {vs : List V} {H : Hp} {Q : VK} {E : XK} (kd : Kinds g0 tab own) (h : @spM g0 K cls (fnOfM own k n b) vs H Q E) :
    @spM (gamM g0 cells tab) K cls (fnOf k n b) vs H Q E := by
  have up : ∀ i f hs us, g0.is i f hs us → (gamM g0 cells tab).is i f hs us := fun i f hs us h => .inr h
  have down : ∀ i f hs us, ownB own i = false → (gamM g0 cells tab).is i f hs us → g0.is i f hs us := fun i f hs us e h => by
    rcases h with ⟨L, c', h1, _⟩ | h
    · have := kd.all i
      rw [h1] at this
      have e : (own i).isSome = false := e
      rw [e] at this
      cases this
    · exact h
  obtain ⟨ρ, Z, ds, st, d, st', R, r, e, q⟩ := h
  obtain ⟨p, e1, e⟩ := Option.bind_eq_some_iff.mp e
  split at e
  · rename_i hk
    cases e
    exact ⟨ρ, Z, ds, st, d, st', relR_up (by rfl) up R, repL_up up r, e1, fun u ρ' H' R' x' r' => q u ρ' H' (relR_ok (by rfl) down hk.2 R') x' (rep_ok down 8 hk.1 r')⟩
  · cases e
theorem def_okM {P : Program} {w : World} {K : PySem.W.Frag} {cls : Nat → Addr} {mg : Str → Option Value} {base : Heap} {x qual : Str} {sd : Stmt} {fA c : Addr} {fd : FuncData} {N ps : List Str} {lv k n : Nat} {b : S} {g0 : Gam} {tab : Nat → Option LT} {own : OwnT} (kd : Kinds g0 tab own) (F0 : L2.Fun K x qual sd fA fd) (hcode : fd.code = .ref c) (Sc : FnScope N ps (defScope sd)) (hk : ps.length = k) (hn : N.length = n)
    (body : ∀ (A : Around) (outer : List Env) (s : Shared) (H : Hp) (E : XK), Room lv (A.deeper (envOfC qual (defScope sd) s.heap.objs.size fA (.ref c))) → KX (cxOf CX0 P w K mg base N qual (defScope sd) fA (.ref c) A outer s H E).nox K → ∃ t, @SSs (gamM g0 (envOfC qual (defScope sd) s.heap.objs.size fA (.ref c)).cells tab) (cxOf CX0 P w K mg base N qual (defScope sd) fA (.ref c) A outer s H E).nox K cls (defBody sd) t b) :
    FnOk P w K mg base CX0 (lv + 1) fA fd ps (@spM g0 K cls (fnOfM own k n b)) := by
  obtain ⟨oc, od, kV, doc, pm, an, cdv, ct, osl, rfl, lk, hcd⟩ := F0.ex
  obtain rfl : cdv = .ref c := hcode
  refine fn_of lk hcd Sc (fun vs H Q E h => ?_) fun A outer s H vs Q E hr h => ?_
  · obtain ⟨ρ, Z, ds, st, d, st', R, r, e, _⟩ := h
    obtain ⟨p, e1, _⟩ := Option.bind_eq_some_iff.mp e
    unfold fnOf at e1
    split at e1
    · rename_i hl
      rw [← @RepL.length g0 _ _ _ _ _ _ r, hl, hk]
    · cases e1
  · obtain ⟨t, ht, sn⟩ := body A outer s H E hr ⟨rfl⟩
    refine ⟨t, ht.nox, ?_⟩
    have h := spM_made (cells := (envOfC qual (defScope sd) s.heap.objs.size fA (.ref c)).cells) kd h
    letI : Gam := gamM g0 (envOfC qual (defScope sd) s.heap.objs.size fA (.ref c)).cells tab
    refine bodyX (K := K) (cls := cls) (t := fun _ => t) (b := xS b) (k := k) (n := n) (E := E0) (x_lift sn) hn ?_
    obtain ⟨ρ, Z, ds, st, d, st', R, r, e, q⟩ := h
    refine ⟨ρ, Z, ds, st, .val d st', R, r, ?_, q⟩
    unfold fnOf at e
    unfold fnOfX
    split at e
    · rename_i hl
      rw [if_pos hl]
      obtain ⟨⟨o, sl1, st1⟩, e1, e2⟩ := bind_some e
      unfold xS
      rw [e1]
      cases o <;> cases e2 <;> rfl
    · cases e
end Mi

set_option Elab.async false
set_option linter.all false
set_option maxRecDepth 100000
set_option maxHeartbeats 2000000
/-! Mi: try .. except X as e, e handed to a def that asks for its class. -/
namespace Mi
open PySem PySem.Spec PyProof.Rows L2 LamX NdefX

/-- the kind that stands for the error in hand -/
abbrev EK : Nat := 999
@[reducible] def gamE (g0 : Gam) (a : Addr) : Gam := ⟨fun i f hs us => (i = EK ∧ f = a ∧ hs = []) ∨ g0.is i f hs us, g0.tb⟩
def NoEK (g0 : Gam) : Prop := ∀ f hs us, ¬ g0.is EK f hs us

/-! ### it stands nowhere in the store -/
mutual
inductive Free : Val → Prop
  | non : Free .non
  | bl (b : Bool) : Free (.bl b)
  | int (i : Int) : Free (.int i)
  | str (s : Str) : Free (.str s)
  | ref (n : Nat) : Free (.ref n)
  | lst {xs : List Val} : FreeL xs → Free (.lst xs)
  | tup {xs : List Val} : FreeL xs → Free (.tup xs)
  | fn {i : Nat} {cs : List Val} : i ≠ EK → FreeL cs → Free (.fn i cs)
inductive FreeL : List Val → Prop
  | nil : FreeL []
  | cons {x : Val} {xs : List Val} : Free x → FreeL xs → FreeL (x :: xs)
end
section
variable {K : PySem.W.Frag} {cls : Nat → Addr} {g0 : Gam} {ρ : List Addr} {A Z : Addr → Prop} {H : Hp} {st : Sto} {a : Addr}
theorem rep_free (h0 : NoEK g0) {x : Val} {u : V} (r : @Rep g0 K ρ A H x u) : Free x :=
  @Rep.rec g0 K ρ A H (fun x u _ => Free x) (fun xs us _ => FreeL xs) .non (fun b => .bl b) (fun i => .int i) (fun s => .str s) (fun _ => .ref _) (fun _ _ t => .lst t) (fun _ _ t => .tup t) (fun h1 _ _ t => .fn (fun z => h0 _ _ _ (z ▸ h1)) t) .nil (fun _ _ r t => .cons r t) x u r
theorem repL_free (h0 : NoEK g0) : ∀ {xs : List Val} {us : List V}, @RepL g0 K ρ A H xs us → FreeL xs
  | [], _, _ => .nil
  | x :: xs, _, r => by
    cases r with
    | cons r t => exact .cons (rep_free h0 r) (repL_free h0 t)
theorem rep_unE {x : Val} {u : V} (r : @Rep (gamE g0 a) K ρ A H x u) : Free x → @Rep g0 K ρ A H x u :=
  @Rep.rec (gamE g0 a) K ρ A H (fun x u _ => Free x → @Rep g0 K ρ A H x u) (fun xs us _ => FreeL xs → @RepL g0 K ρ A H xs us) (fun _ => .non) (fun b _ => .bl b) (fun i _ => .int i) (fun s _ => .str s) (fun h _ => .ref h) (fun h _ t f => .lst h (t (by cases f; assumption))) (fun h _ t f => .tup h (t (by cases f; assumption)))
    (fun h1 h2 _ t f => by
      cases f with
      | fn n f => exact .fn (h1.resolve_left fun z => n z.1) h2 (t f)) (fun _ => .nil) (fun _ _ r t f => by
      cases f with
      | cons f1 f2 => exact .cons (r f1) (t f2)) x u r
theorem repL_unE : ∀ {xs : List Val} {us : List V}, @RepL (gamE g0 a) K ρ A H xs us → FreeL xs → @RepL g0 K ρ A H xs us
  | [], _, r, _ => by
    cases r
    exact .nil
  | x :: xs, _, r, f => by
    cases r with
    | cons r t =>
      cases f with
      | cons f1 f2 => exact .cons (rep_unE r f1) (repL_unE t f2)
def FreeC : Cell → Prop
  | .lst xs => FreeL xs
  | .ins _ vs => FreeL vs
  | .dk kvs => FreeL (kvs.map (·.2))
  | .dt kvs => FreeL (kvs.map (·.2))
  | .tb _ => True
theorem relR_free (h0 : NoEK g0) (R : @RelR g0 K cls ρ Z H st) : ∀ c ∈ st, FreeC c := fun c hc => by
  obtain ⟨n, hn⟩ := List.mem_iff_getElem?.mp hc
  obtain ⟨a, _, h⟩ := R.at hn
  cases c with
  | lst xs => obtain ⟨us, _, r⟩ := h; exact repL_free h0 r
  | ins C vs => obtain ⟨dx, us, _, _, r⟩ := h; exact repL_free h0 r
  | dk kvs => obtain ⟨us, _, _, r⟩ := h; exact repL_free h0 r
  | dt kvs => obtain ⟨us, _, _, r⟩ := h; exact repL_free h0 r
  | tb k => trivial
theorem relR_unE (f : ∀ c ∈ st, FreeC c) (R : @RelR (gamE g0 a) K cls ρ Z H st) : @RelR g0 K cls ρ Z H st :=
  @RelR.mk g0 K cls ρ Z H st (@RelR.nd (gamE g0 a) _ _ _ _ _ _ R) (@RelR.len (gamE g0 a) _ _ _ _ _ _ R) (fun n c b h1 h2 => by
    have h := @RelR.cells (gamE g0 a) _ _ _ _ _ _ R n c b h1 h2
    have fc := f c (List.mem_of_getElem? h1)
    cases c with
    | lst xs => obtain ⟨us, e1, r⟩ := h; exact ⟨us, e1, repL_unE r fc⟩
    | ins C vs => obtain ⟨dx, us, e1, l, r⟩ := h; exact ⟨dx, us, e1, l, repL_unE r fc⟩
    | dk kvs => obtain ⟨us, e1, l, r⟩ := h; exact ⟨us, e1, l, repL_unE r fc⟩
    | dt kvs => obtain ⟨us, e1, l, r⟩ := h; exact ⟨us, e1, l, repL_unE r fc⟩
    | tb k => exact h) (@RelR.dom (gamE g0 a) _ _ _ _ _ _ R) (@RelR.dis (gamE g0 a) _ _ _ _ _ _ R)
end

/-! ### a def called with the error in hand -/
structure FnE (P : Program) (w : World) (K : PySem.W.Frag) (mg : Str → Option Value) (base : Heap) (k : Nat) (f : Addr) (fd : FuncData) (ps : List Str) (D : Addr) (sp : Addr → Sp) : Prop where
  len : ∀ a vs H Q E, sp a vs H Q E → vs.length = ps.length
  run : ∀ (A : Around) (outer : List Env) (s : Shared) (H : Hp) (args : Args) (us : List Value) (vs : List V) (Q : VK) (p : Addr × Obj), L2H.RoomH k A → L2H.Hot1 A p → L2H.PinOk outer H s p → L2N.Zn (.ref D) none p.2 → (∃ vs, p.2.data = .fields vs) → Env0 P w K mg base A outer s H → BindsTo s fd args (ps.zip us) → Vals vs us → sp p.1 vs H Q E0 →
    codeAny (model P w) A (.call (.ref f) args) (CR CX0 outer P w H s Q E0) s
section
variable {P : Program} {w : World} {K : PySem.W.Frag} {mg : Str → Option Value} {base : Heap} {cls : Nat → Addr}
theorem fnE_of {x qual : Str} {st : Stmt} {f : Addr} {fd : FuncData} {N ps : List Str} {k : Nat} {D : Addr} {sp : Addr → Sp} (F : L2.Fun K x qual st f fd) (Sc : FnScope N ps (defScope st)) (len : ∀ a vs H Q E, sp a vs H Q E → vs.length = ps.length)
    (hbody : ∀ (cdv : Value) (A : Around) (outer : List Env) (s : Shared) (H : Hp) (vs : List V) (Q : VK) (p : Addr × Obj), L2H.Hot1 A p → L2N.Zn (.ref D) none p.2 → (∃ vs, p.2.data = .fields vs) → L2H.RoomH k (A.deeper (envOfC qual (defScope st) s.heap.objs.size f cdv)) → sp p.1 vs H Q E0 →
      ∃ t, PSs (L2H.cxH CX0 P w K mg base N qual (defScope st) f cdv A outer s H E0 p).nox (defBody st) t ∧ t { nx := fun _ H' => Q .non H', rt := Q } (L2.start N vs) H) : FnE P w K mg base (k + 1) f fd ps D sp := by
  obtain ⟨oc, od, kV, doc, pm, an, cdv, ct, osl, rfl, lk, hcd⟩ := F.ex
  refine ⟨len, fun A outer s H args us vs Q p hr hot hpin hz hv e0 hb r hsp => ?_⟩
  have hl := len _ _ _ _ _ hsp
  have kin : K.In s.heap := e0.mod.kin.keeps fun b o e => (e0.bs b o e).1
  have lim : s.heap.NoLimit := e0.mod.nolimit.keeps fun b o e => (e0.bs b o e).1
  have kinds : ∀ y ∈ ps.zip us, (defScope st).names.lookup y.1 = some .local ∨ ((defScope st).names.lookup y.1 = some .cell ∧ ((cellsFrom (s.heap.objs.size + 1) (defScope st).names []).lookup y.1).isSome = true) := fun ⟨n, v⟩ hy =>
    (Sc.par n (List.of_mem_zip hy).1).imp id fun q => ⟨q, PySem.W.cellsFrom_some _ _ _ (.inl q)⟩
  refine codeAny_call_function hr.depth (kin _ _ lk) rfl Sc.co Sc.gen rfl (PySem.W.codeRec_of kin hcd) (hb _ _ _ _ ?_)
  refine wpAny_newFunctionEnv_cells Sc.kind kinds fun env he s1 z => ?_
  subst he
  refine ⟨lim.keeps z.toInCall.keep, codeAny_func ?_⟩
  obtain ⟨t, ht, hq⟩ := hbody cdv A outer s H vs Q p hot hz hv (hr.deeper _) hsp
  have I := L2H.inv_startH (CX := CX0) (P := P) (w := w) (mg := mg) (base := base) (A := A) (outer := outer) (H := H) (E := E0) Sc hpin e0 hl r z
  refine wpAny_mono (ht.nox.run [] s1 (L2.start N vs) H _ I hq) (fun fl s' hs => ?_) fun e s' hs => hs
  cases fl with
  | ret u =>
    obtain ⟨v, σ', H', J, rv, q⟩ := hs
    exact ⟨v, H', J.os, J.bare, J.base, J.hok, rv, q⟩
  | next =>
    obtain ⟨σ', H', J, q⟩ := hs
    exact ⟨V.non, H', J.os, J.bare, J.base, J.hok, rfl, q⟩
  | brk => obtain ⟨_, _, _, q⟩ := hs; exact False.elim q
  | cont => obtain ⟨_, _, _, q⟩ := hs; exact False.elim q
end
/-! ### isinstance(e, C) -/
def oIsE (b : Bool) : Sto → Val → Option Val
  | _, .fn i _ => if i = EK then some (.bl b) else none
  | _, _ => none
theorem call_isP {X : Cx} {a D : Addr} {oe : Obj} (hp : (a, oe) ∈ X.pn) (C : ExcC X.K D) (hz : L2N.Zn (.ref D) none oe) (hf : ∃ vs, oe.data = .fields vs) : CallR X (.builtin "isinstance") (rIsE X.K D a) := by
  intro pins s σ H xs us Q I r h
  obtain ⟨c, cv, b, rfl, hcv, e, q⟩ := h
  obtain ⟨u1, r1, rfl, r2, r3⟩ : ∃ u1 u2, us = [u1, u2] ∧ RelV (.ref a) u1 ∧ RelV c u2 := by
    cases r with
    | cons r1 rr =>
      cases rr with
      | cons r2 rr =>
        cases rr
        exact ⟨_, _, rfl, r1, r2⟩
  cases r2
  rw [hcv _ r3]
  have hget := (I.pin (a, oe) (List.mem_append_left _ hp)).1
  obtain ⟨vs, hv⟩ := hf
  have J : PySem.W.InstAt s.heap a oe D none := by
    obtain ⟨oc, od, oda, osl⟩ := oe
    obtain ⟨h1, h2, _⟩ := hz
    dsimp only at h1 h2 hv
    subst h1 h2 hv
    exact ⟨hget, rfl, rfl, trivial⟩
  have kit := PySem.W.handS_kitx_exc (x := a) (ox := oe) C.hg C.hk C.hs C.hd C.ha C.hn C.ht C.hm
  exact PySem.W.kia_one kit I.kIn J e (fun z => nomatch z) fun tk => ⟨.bl b, H, I.kept (t' := tk) fun _ _ z => z, rfl, q⟩
section
variable {K : PySem.W.Frag} {cls : Nat → Addr} {g0 : Gam} {a D : Addr}
theorem snd_isE {m m' : Bool} {ta : TE} {fa : E} {cv : V} {cvv : Value} {b : Bool} (h0 : NoEK g0) (hcv : ∀ u, RelV cv u → u = cvv) (hk : PySem.W.kitOne K (.ref D) cvv = some b) (ha : @Snd (gamE g0 a) K cls m' ta fa) :
    @Snd (gamE g0 a) K cls m (tCB (rIsE K D a) (tCons ta (tCons (tC cv) tNil))) (e1 (oIsE b) fa) := by
  letI : Gam := gamE g0 a
  refine @Snd.mk (gamE g0 a) K cls m _ _ fun ρ Z σ H sl st d st' R e Q q => ?_
  obtain ⟨p, e1, e⟩ := bind_some e
  obtain ⟨z, e3, e⟩ := bind_some e
  cases e
  refine ha.run ρ Z σ H sl st p.1 p.2 R e1 _ fun u ρ1 H1 R1 x1 r1 => ?_
  obtain ⟨x, st1⟩ := p
  cases x with
  | fn i cs =>
    have e4 : (if i = EK then some (Val.bl b) else none) = some _ := e3
    split at e4
    · rename_i hi
      subst hi
      cases e4
      rcases r1 with r1 | ⟨_, _, _, _, z, _⟩
      · cases r1 with
        | fn g1 g2 g3 =>
          rcases g1 with ⟨_, rfl, rfl⟩ | g1
          · exact ⟨cv, cvv, b, rfl, hcv, hk, q (.bl b) ρ1 H1 R1 x1 (.inl (@Rep.bl (gamE g0 _) K _ _ _ b))⟩
          · exact absurd g1 (h0 _ _ _)
      · cases z
    · cases e4
  | _ => cases e3
theorem se_isE {X : Cx} [hK : KX X K] {oe : Obj} {m : Bool} {ta : TE} {fa : E} {cv : V} {cvv : Value} {b : Bool} {x nm : Expr} {p pos : Pos} (hp : (a, oe) ∈ X.pn) (C : ExcC K D) (hz : L2N.Zn (.ref D) none oe) (hf : ∃ vs, oe.data = .fields vs) (h0 : NoEK g0) (hcv : ∀ u, RelV cv u → u = cvv) (hk : PySem.W.kitOne K (.ref D) cvv = some b)
    (bt : Bt X.mg) (ha : @SE (gamE g0 a) X K cls true x ta fa) (hn : PE X nm (tC cv)) (hg : Gl X "isinstance" := by rfl)
    (hs : starEach [x, nm] X.env = (false, eval x X.env) :: starEach [nm] X.env := by rfl) (hs2 : starEach [nm] X.env = (false, eval nm X.env) :: starEach [] X.env := by rfl) (hpl : (backTo pos (starEach [nm] X.env)).any (·.1) = false := by rfl) :
    @SE (gamE g0 a) X K cls m (.Call (.Name "isinstance" p) [x, nm] [] pos) (tCB (rIsE K D a) (tCons ta (tCons (tC cv) tNil))) (e1 (oIsE b) fa) := by
  obtain ⟨rfl⟩ := hK
  exact ⟨L2.pe_callB (call_isP hp C hz hf) hg bt.isinstance (by decide +kernel) (pa_cons ha.1 (pa_cons hn pa_nil hs2) hs) (he := hs) (hpl := hpl), snd_isE h0 hcv hk ha.2⟩
end
/-! ### the suite: y = x(e) -/
section
variable [Gam] {K : PySem.W.Frag} {cls : Nat → Addr} {ρ ρ' : List Addr} {Z : Addr → Prop} {σ : L2.St} {H : Hp} {sl : Sl} {st : Sto}
theorem own_no {i : Nat} {o : Option V} {a : Addr} (h : Own (sl.set i .no) (σ.set i o) a) : Own sl σ a := by
  obtain ⟨j, xs, h1, h2⟩ := h
  by_cases hj : i = j
  · subst hj
    rw [List.getElem?_set] at h1
    split at h1
    · split at h1 <;> cases h1
    · rename_i n
      exact absurd rfl n
  · rw [List.getElem?_set_ne hj] at h1 h2
    exact ⟨j, xs, h1, h2⟩
theorem Rel.setNo {i : Nat} {o : Option V} (R : Rel K cls ρ Z σ H sl st) : Rel K cls ρ Z (σ.set i o) H (sl.set i .no) st := by
  have le : ∀ a, ZO Z (sl.set i .no) (σ.set i o) a → ZO Z sl σ a := fun a h => h.imp id own_no
  have le2 : ∀ a, AR ρ (ZO Z (sl.set i .no) (σ.set i o)) a → AR ρ (ZO Z sl σ) a := fun a h => h.imp id (le a)
  have ne : ∀ {j : Nat} {w : Slot}, (sl.set i .no)[j]? = some w → w ≠ .no → i ≠ j ∧ sl[j]? = some w := fun {j w} h n => by
    rw [List.getElem?_set] at h
    split at h
    · split at h
      · cases h; exact absurd rfl n
      · cases h
    · rename_i q
      exact ⟨q, h⟩
  refine ⟨R.s.zs le, by rw [List.length_set, List.length_set]; exact R.slen, fun j w h => ?_, fun j xs h => ?_, fun j k xs ys a h1 h2 h3 h4 => ?_⟩
  · obtain ⟨q, h⟩ := ne h (fun z => nomatch z)
    obtain ⟨u, q1, q2⟩ := R.slots j w h
    exact ⟨u, by rw [List.getElem?_set_ne q]; exact q1, q2.mono (Fr.less le2) List.prefix_rfl⟩
  · obtain ⟨q, h⟩ := ne h (fun z => nomatch z)
    obtain ⟨a, us, q1, q2, q3, q4⟩ := R.owns j xs h
    exact ⟨a, us, by rw [List.getElem?_set_ne q]; exact q1, q2, q3.mono (Fr.less le2) List.prefix_rfl, q4⟩
  · obtain ⟨n1, h1⟩ := ne h1 (fun z => nomatch z)
    obtain ⟨n2, h2⟩ := ne h2 (fun z => nomatch z)
    rw [List.getElem?_set_ne n1] at h3
    rw [List.getElem?_set_ne n2] at h4
    exact R.inj j k xs ys a h1 h2 h3 h4
end
/-- the promise of a def that asks for the error's class, for the classes of dom -/
structure CalE (P : Program) (w : World) (K : PySem.W.Frag) (cls : Nat → Addr) (mg : Str → Option Value) (base : Heap) (k : Nat) (x : Str) (dom : Nat → Bool) (sp : Nat → Addr → Sp) : Prop where
  ex : ∃ (f : Addr) (fd : FuncData) (ps : List Str), (∀ c, dom c = true → FnE P w K mg base k f fd ps (cls c) (sp c)) ∧ mg x = some (.ref f) ∧ PySem.W.keepIn K (.ref f) = true ∧ Binds K fd ps []
def tErr (cls : Nat → Addr) (dom : Nat → Bool) (sp : Nat → Addr → Sp) (i : Nat) (a : Addr) (cv : Value) (d : Option Addr) : TE := fun σ H Q => ∃ c, cv = .ref (cls c) ∧ d = none ∧ dom c = true ∧ σ[i]? = some (some (.ref a)) ∧ sp c a [.ref a] H Q E0
theorem pe_err {X : Cx} {cls : Nat → Addr} {dom : Nat → Bool} {sp : Nat → Addr → Sp} {k j i : Nat} {a : Addr} {oe : Obj} {cv : Value} {d : Option Addr} {x y : Str} {p p2 pos : Pos} (C : CalE X.prog X.w X.K cls X.mg X.base k x dom sp) (hp : (a, oe) ∈ X.pn) (hot : L2H.Hot1 X.A (a, oe)) (hz : L2N.Zn cv d oe) (hv : ∃ vs, oe.data = .fields vs)
    (hr : L2H.RoomH j X.A) (hk : k ≤ j) (hN : X.N[i]? = some y) (hy : Vis X.env.scope y) (hg : Gl X x) (hdb : (x == ("__debug__" : Str)) = false) (hd : (y == ("__debug__" : Str)) = false) (hcd : (y == ("__classdict__" : Str)) = false)
    (he : starEach [.Name y p2] X.env = (false, eval (.Name y p2) X.env) :: starEach [] X.env) (hpl : (backTo pos (starEach [] X.env)).any (·.1) = false) :
    PE X (.Call (.Name x p) [.Name y p2] [] pos) (tErr cls dom sp i a cv d) := by
  obtain ⟨f, fd, ps, F, hm, kp, hb⟩ := C.ex
  refine ⟨fun pins s σ H Q I h => ?_⟩
  obtain ⟨c, rfl, rfl, hc, hs, q⟩ := h
  have arg : PA X [.Name y p2] (tCons (tVar i) tNil) := pa_cons (pe_var hN hy hd hcd) pa_nil he
  refine wpAny_Call_Name_kw (ld_glob I hg hm ?_ hdb)
  refine PySem.W.callWith_K (h₀ := X.base) I.ok.mod.kin kp (thn (arg.run pos pins s σ H (fun vs H1 => vs = [.ref a] ∧ H1 = H) I ⟨.ref a, hs, rfl, rfl⟩) fun us s1 ⟨vs, H1, I1, r, q1, q2⟩ => ⟨I1.kIn, ?_⟩) he hpl
  subst q1 q2
  have F' := F c hc
  have hl : us.length = ps.length := by rw [← r.length]; exact F'.len _ _ _ _ _ q
  have bd := hb s1 us I1.kIn (by rw [List.append_nil]; exact hl)
  rw [List.append_nil] at bd
  have P1 := I1.pin (a, oe) (List.mem_append_left _ hp)
  have pin : L2H.PinOk X.stack H1 s1 (a, oe) := ⟨P1.1, P1.2.1, fun z => (List.mem_cons.mp (I1.stkSub a z)).elim P1.2.2.1 P1.2.2.2.1, P1.2.2.2.2⟩
  refine wpAny_call (codeAny_mono (F'.run X.A X.stack s1 H1 ⟨us, []⟩ us _ Q (a, oe) ⟨(by have := hr.dp; omega), (by have := hr.un; omega)⟩ hot pin hz hv I1.env0 bd r q) fun r s' hq => ?_)
  cases r with
  | error e => exact hq.elim
  | ok fl =>
    cases fl with
    | ret u => exact I1.after hq
    | next => exact False.elim hq
    | brk => exact False.elim hq
    | cont => exact False.elim hq
/-- try: body; except X as e: y = x(e) -/
def sTryK (dom : Nat → Bool) (kv : Nat → Val) (i j : Nat) (b : SX) : S := fun sl st => (b sl st).bind fun p => match p with
  | .out o sl1 st1 => some (o, sl1, st1)
  | .exc c sl1 st1 => if dom c = true ∧ i < sl1.length ∧ j < sl1.length ∧ i ≠ j then some (.nx, (sl1.set i .no).set j (.val (kv c)), st1) else none
section
variable {K : PySem.W.Frag} {cls : Nat → Addr} {g0 : Gam} {dom : Nat → Bool} {mk : Nat → F} {kv : Nat → Val} {CS : Addr} {i j k jj : Nat} {tb : WX → TS} {fb : SX}
def spE (g0 : Gam) (K : PySem.W.Frag) (cls : Nat → Addr) (mk : Nat → F) : Nat → Addr → Sp := fun c a => @spM (gamE g0 a) K cls (mk c)
theorem s_tryK (h0 : NoEK g0) (ex : ∀ c, dom c = true → PySem.W.exmOne K (.ref (cls c)) (.ref CS) = some true) (hk : ∀ c st, dom c = true → mk c [.fn EK []] st = some (kv c, st)) (hf : ∀ c, dom c = true → Free (kv c)) (h1 : @SndSX g0 K cls tb fb) :
    @SndS g0 K cls (fun D σ H => tb (wAs K (.ref CS) i (fun a cv d => tAsg (tErr cls dom (spE g0 K cls mk) i a cv d) (L2.gName j)) (fun _ _ _ _ => False) D) D σ H) (sTryK dom kv i j fb) := @SndS.mk g0 K cls _ _ fun ρ Z σ H sl st r R e D q => by
  obtain ⟨p, e1, e2⟩ := bind_some e
  refine h1.run ρ Z σ H sl st p R e1 D _ ?_
  cases p with
  | out o sl1 st1 => cases e2; exact q
  | exc c sl1 st1 =>
    have e3 : (if dom c = true ∧ i < sl1.length ∧ j < sl1.length ∧ i ≠ j then some (Out.nx, (sl1.set i .no).set j (.val (kv c)), st1) else none) = some r := e2
    split at e3
    · rename_i hd
      obtain ⟨hd, hi, hj, hij⟩ := hd
      cases e3
      intro σ1 ρ1 H1 R1 p1 f1
      have hi' : i < σ1.length := by rw [← R1.slen]; exact hi
      have fre := relR_free h0 R1.s
      refine ⟨true, ex c hd, fun _ a ha => ?_, fun z => Bool.noConfusion z⟩
      refine ⟨c, rfl, rfl, hd, List.getElem?_set_self hi', ?_⟩
      refine ⟨ρ1, ZO Z sl1 σ1, [.fn EK []], st1, kv c, st1, relR_up (by rfl) (fun _ _ _ _ h => .inr h) R1.s, @RepL.cons (gamE g0 a) K _ _ _ _ _ _ _ (@Rep.fn (gamE g0 a) K _ _ _ _ _ _ [] _ (.inl ⟨rfl, rfl, rfl⟩) (fun p hp => nomatch hp) (@RepL.nil (gamE g0 a) K _ _ _)) (@RepL.nil (gamE g0 a) K _ _ _), hk c st1 hd, fun u ρ2 H2 R2 x2 r2 => ?_⟩
      have R3 := R1.step x2 (relR_unE fre R2)
      have r3 := rep_unE r2 (hf c hd)
      have R4 := R3.setNo (i := i) (o := none)
      have le : ∀ b, AR ρ2 (ZO Z (sl1.set i .no) (σ1.set i none)) b → AR ρ2 (ZO Z sl1 σ1) b := fun b h => h.imp id fun z => z.imp id own_no
      have R5 := R4.setVal (i := j) (r3.mono (Fr.less le) List.prefix_rfl) (by rw [List.length_set]; exact hj)
      have eσ : ((σ1.set i (some (.ref a))).set j (some u)).set i none = (σ1.set i none).set j (some u) := by
        rw [List.set_comm _ _ (Ne.symm hij), List.set_set]
      show D.nx (((σ1.set i (some (.ref a))).set j (some u)).set i none) H2
      rw [eσ]
      refine q _ ρ2 H2 R5 (p1.trans x2.pre) ((f1.trans x2.wo).trans ⟨fun _ _ _ h => h, fun b w => .inl ?_⟩)
      exact w.imp id fun z => own_no (own_set z)
    · cases e3
theorem ss_tryK {X : Cx} [hK : KX X K] {xe n y x : Str} {np pos pos' pos2 yp xp ep cp : Pos} {body : List Stmt} (h0 : NoEK g0) (ex : ∀ c, dom c = true → PySem.W.exmOne K (.ref (cls c)) (.ref CS) = some true) (hk : ∀ c st, dom c = true → mk c [.fn EK []] st = some (kv c, st)) (hf : ∀ c, dom c = true → Free (kv c))
    (C : CalE X.prog X.w K cls X.mg X.base k x dom (spE g0 K cls mk)) (hm : X.mg xe = some (.ref CS)) (hr : Room jj X.A)
    (hb : ∀ (W : WX) (pn : List (Addr × Obj)) (xe : Value → Shared → Prop), KX (X.tr pn xe) K → L2N.Takes (X.tr pn xe) W → PassesOwn (model X.prog X.w) X.A X.env xe → @SSsX g0 (X.tr pn xe) W K cls body tb fb)
    (hNd : X.N.Nodup) (hkj : k ≤ jj := by decide) (hi : X.N[i]? = some n := by rfl) (hj : X.N[j]? = some y := by rfl) (hln : X.env.scope.names.lookup n = some .local := by rfl) (hly : X.env.scope.names.lookup y = some .local := by rfl)
    (hs : X.stack = X.env :: X.outer := by rfl) (hfr : X.env.frame = some X.env.locals := by rfl) (hg : Gl X xe := by rfl) (hg2 : Gl X x := by rfl) (hdb : (xe == ("__debug__" : Str)) = false := by decide) (hdb2 : (x == ("__debug__" : Str)) = false := by decide) (hd : (n == ("__debug__" : Str)) = false := by decide) (hcd : (n == ("__classdict__" : Str)) = false := by decide)
    (he : starEach [.Name n ep] X.env = (false, eval (.Name n ep) X.env) :: starEach [] X.env := by rfl) (hpl : (backTo cp (starEach [] X.env)).any (·.1) = false := by rfl)
    (hsw : swapsWithSole [.Name y yp] (.Call (.Name x xp) [.Name n ep] [] cp) pos2.line X.env = pure false := by rfl) (hst : swappedStores [.Name y yp] (.Call (.Name x xp) [.Name n ep] [] cp) X.env = pure none := by rfl) (has : (assignEach [.Name y yp] X.env).map (·.2) = [assign (.Name y yp) X.env] := by rfl) :
    @SS g0 X K cls (.Try body [.ExceptHandler (some (.Name xe np)) (some n) [.Assign [.Name y yp] (.Call (.Name x xp) [.Name n ep] [] cp) pos2] pos'] [] [] pos)
      (fun D σ H => tb (wAs K (.ref CS) i (fun a cv d => tAsg (tErr cls dom (spE g0 K cls mk) i a cv d) (L2.gName j)) (fun _ _ _ _ => False) D) D σ H) (sTryK dom kv i j fb) := by
  obtain ⟨rfl⟩ := hK
  letI : Gam := g0
  refine ⟨L2N.ps_try_as hs hfr hNd hi hln ⟨hg, hdb, .inl hm⟩ takesN (fun W pn xe tk po => (hb W pn xe ⟨rfl⟩ tk po).1) (fun a oe cv d pn z hv => pss_one (ps_asg ?_ ?_ hsw hst has)), s_tryK h0 ex hk hf (hb (fun _ _ _ _ => False) [] (fun _ _ => False) ⟨rfl⟩ takesN PassesOwn.never).2⟩
  · refine pe_err (X := X.suite a ((a, oe) :: pn)) C List.mem_cons_self ?_ z hv (rH_mark hr) hkj hi (.inl hln) hg2 hdb2 hd hcd he hpl
    obtain ⟨vs, hv⟩ := hv
    exact ⟨rfl, vs, hv, z.2.2 vs hv⟩
  · exact pg_name (X := X.suite a ((a, oe) :: pn)) hNd hj (.inl hly) (.inr hly)
end
theorem def_okE {P : Program} {w : World} {K : PySem.W.Frag} {cls : Nat → Addr} {mg : Str → Option Value} {base : Heap} {x qual : Str} {sd : Stmt} {fA : Addr} {fd : FuncData} {N ps : List Str} {lv k n c : Nat} {b : S} {g0 : Gam} (F0 : L2.Fun K x qual sd fA fd) (Sc : FnScope N ps (defScope sd)) (hk : ps.length = k) (hn : N.length = n)
    (body : ∀ (cdv : Value) (A : Around) (outer : List Env) (s : Shared) (H : Hp) (p : Addr × Obj), L2H.RoomH lv (A.deeper (envOfC qual (defScope sd) s.heap.objs.size fA cdv)) → KX (L2H.cxH CX0 P w K mg base N qual (defScope sd) fA cdv A outer s H E0 p).nox K →
      L2H.HotC (L2H.cxH CX0 P w K mg base N qual (defScope sd) fA cdv A outer s H E0 p).nox → (p.1, p.2) ∈ (L2H.cxH CX0 P w K mg base N qual (defScope sd) fA cdv A outer s H E0 p).nox.pn → L2N.Zn (.ref (cls c)) none p.2 → (∃ vs, p.2.data = .fields vs) →
      ∃ t, @SSs (gamE g0 p.1) (L2H.cxH CX0 P w K mg base N qual (defScope sd) fA cdv A outer s H E0 p).nox K cls (defBody sd) t b) :
    FnE P w K mg base (lv + 1) fA fd ps (cls c) (fun a => @spM (gamE g0 a) K cls (fnOf k n b)) := by
  refine fnE_of F0 Sc (fun a vs H Q E h => ?_) fun cdv A outer s H vs Q p hot hz hv hr h => ?_
  · obtain ⟨ρ, Z, ds, st, d, st', R, r, e, _⟩ := h
    unfold fnOf at e
    split at e
    · rename_i hl
      rw [← @RepL.length (gamE g0 a) _ _ _ _ _ _ r, hl, hk]
    · cases e
  · obtain ⟨t, ht, sn⟩ := body cdv A outer s H p hr ⟨rfl⟩ ⟨p, hot, List.mem_singleton.mpr rfl⟩ (List.mem_singleton.mpr rfl) hz hv
    letI : Gam := gamE g0 p.1
    exact ⟨t, ht, body_sp sn hk hn h⟩
end Mi

set_option Elab.async false
set_option linter.all false
set_option maxRecDepth 100000
set_option maxHeartbeats 2000000
/-! Mi: the words of lambdas for the printed derivations. -/
namespace Mi
open PySem PySem.Spec PyProof.Rows L2 LamX NdefX

/-! ### ways to a lambda's text -/
def asgV : Stmt → Expr
  | .Assign _ v _ => v
  | s => .Constant .none 0 ⟨0, 0, 0, 0⟩
def retV : Stmt → Expr
  | .Return (some v) _ => v
  | s => .Constant .none 0 ⟨0, 0, 0, 0⟩
def ifT : Stmt → Expr
  | .If t _ _ _ => t
  | s => .Constant .none 0 ⟨0, 0, 0, 0⟩
def bodyB : Stmt → List Stmt
  | .If _ b _ _ => b
  | .For _ _ b _ _ => b
  | s => []
def atS (l : List Stmt) (i : Nat) : Stmt := l.getD i (.Pass ⟨0, 0, 0, 0⟩)
def atE (l : List Expr) (i : Nat) : Expr := l.getD i (.Constant .none 0 ⟨0, 0, 0, 0⟩)
def notE : Expr → Expr
  | .UnaryOp _ e _ => e
  | e => e
def binL : Expr → Expr
  | .BinOp l _ _ _ => l
  | e => e
def binR : Expr → Expr
  | .BinOp _ _ r _ => r
  | e => e
def argE : Expr → Nat → Expr
  | .Call _ es _ _, i => atE es i
  | e, _ => e
def eltE : Expr → Nat → Expr
  | .List es _, i => atE es i
  | e, _ => e
def lamT (q : Str) : Expr → LT
  | .Lambda ps b sc _ => ⟨q, ps, b, sc⟩
  | e => ⟨q, default, e, default⟩
theorem lamT_eq {q : Str} {ps : Arguments} {b : Expr} {sc : Scope} {pos : Pos} : lamT q (.Lambda ps b sc pos) = ⟨q, ps, b, sc⟩ := rfl

theorem tabB_up {base b' : Heap} {mg : Str → Option Value} {c P : Addr} (t : TabB base mg c P) (k : ∀ b o, base.get? b = some o → b'.get? b = some o) : TabB b' mg c P := ⟨t.code.keeps k, t.bm.keeps k, t.gP⟩
section
variable {X : Cx} {K : PySem.W.Frag} [hK : KX X K] {cls : Nat → Addr} {g0 : Gam} {tab : Nat → Option LT} {own : OwnT} {m : Bool}
theorem se_lam (i n k : Nat) {P c : Addr} {q : Str} {params : Arguments} {body : Expr} {scope : Scope} {pos : Pos} (TB : TabB X.base X.mg c P) (ht : tab i = some ⟨q, params, body, scope⟩) (htb : g0.tb k = (P, q)) (hq : q = X.env.qual ++ "<lambda>") (hcode : X.env.code = .ref c := by rfl) (hdef : defaultsOf params X.env = ([], []) := by rfl)
    (hfree : ∀ y ∈ scope.names, y.2 = .free → X.env.scope.names.lookup y.1 = some .cell ∨ X.env.scope.names.lookup y.1 = some .free := by decide) :
    @SE (gamM g0 X.env.cells tab) X K cls m (.Lambda params body scope pos) (tLamK P pos ⟨q, params, body, scope⟩ (cloFrom X.env.cells scope.names [])) (eLam n k i) := by
  subst hq
  exact ⟨pe_lamk TB hcode hdef hfree, @snd_lam (gamM g0 X.env.cells tab) K cls m n k i P pos ⟨_, params, body, scope⟩ _ htb fun f c' => .inl ⟨_, c', ht, rfl⟩⟩
theorem se_callB {k j : Nat} {x : Str} {p pos : Pos} {t : TA} {f : L} {e : Expr} {es : List Expr} {mm : F} (kd : Kinds g0 tab own) (hx : ∃ f, X.mg x = some (.ref f) ∧ PySem.W.keepIn K (.ref f) = true) (F : ∀ σ b', BaseX X σ b' → C8.Cal X.prog X.w K X.mg b' k x (@spM (gamC g0 X.env.cells tab own σ) K cls mm) []) (hr : Room j X.A)
    (hfn : ∀ pins σ H s, Inv X pins σ H s → ∀ y c, X.env.cells.lookup y = some c → c ∉ X.fs) (ha : @SA (gamM g0 X.env.cells tab) X K cls false (e :: es) t f) (hk : k ≤ j := by decide) (hg : Gl X x := by rfl) (hdb : (x == ("__debug__" : Str)) = false := by decide)
    (he : starEach (e :: es) X.env = (false, eval e X.env) :: starEach es X.env := by rfl) (hpl : (backTo pos (starEach es X.env)).any (·.1) = false := by rfl) :
    @SE (gamM g0 X.env.cells tab) X K cls m (.Call (.Name x p) (e :: es) [] pos) (tCallB K cls g0 X.env.cells tab own mm t) (eCallB mm own f) := by
  obtain ⟨rfl⟩ := hK
  exact ⟨pe_callB hx F hr hk hfn hg ha.1 hdb he hpl, snd_callB kd ha.2⟩
end
/-- a def's cells are no frame's locals -/
theorem cells_nofs {CX : CXT} {P : Program} {w : World} {K : PySem.W.Frag} {mg : Str → Option Value} {base : Heap} {N : List Str} {qual : Str} {scope : Scope} {f : Addr} {cd : Value} {A : Around} {outer : List Env} {s : Shared} {H : Hp} {E : XK} {pins : List (Addr × Obj)} {σ : L2.St} {H' : Hp} {s' : Shared}
    (I : Inv (cxOf CX P w K mg base N qual scope f cd A outer s H E).nox pins σ H' s') : ∀ y c, (cxOf CX P w K mg base N qual scope f cd A outer s H E).nox.env.cells.lookup y = some c → c ∉ (cxOf CX P w K mg base N qual scope f cd A outer s H E).nox.fs := fun y c e z => by
  have h1 := I.ok.cab y c rfl e
  obtain ⟨_, o, ho, _⟩ := I.ok.funs.mem z
  exact absurd (Nat.lt_of_lt_of_le (Heap.lt_size ho) h1) (Nat.lt_irrefl _)
/-! ### a lambda that raises nothing here: its call as a plain expression -/
def eCallV (lamF : Nat → List Val → FX) (dom : Nat → Bool) (i : Nat) (a : L) : E := fun sl st => (xCallV lamF dom i a sl st).bind fun r => match r with
  | .val d st1 => some (d, st1)
  | .exc _ _ => none
section
variable [Gam] {X : Cx} {K : PySem.W.Frag} [hK : KX X K] {cls : Nat → Addr} {lamF : Nat → List Val → FX} {dom : Nat → Bool} {k j i : Nat} {m : Bool} {t : TA} {f : L} {e : Expr} {es : List Expr} {x : Str} {p pos : Pos}
theorem snd_callV (h : SndA K cls false t f) : Snd K cls m (tCallV K cls lamF dom (fun _ _ _ _ => False) i t) (eCallV lamF dom i f) := ⟨fun ρ Z σ H sl st d st' R e Q q => by
  obtain ⟨r, e1, e2⟩ := bind_some e
  refine (x_callV (m := m) h).run ρ Z σ H sl st r R e1 Q _ ?_
  cases r with
  | val d1 st1 => cases e2; exact q
  | exc c st1 => cases e2⟩
theorem se_callV (c : CloP X.prog X.w K cls X.mg X.base k lamF dom) (hr : Room j X.A) (ha : SA X K cls false (e :: es) t f) (hk : k ≤ j := by decide) (hN : X.N[i]? = some x := by rfl) (hv : Vis X.env.scope x := by first | exact Or.inl rfl | exact Or.inr (Or.inl rfl) | exact Or.inr (Or.inr rfl))
    (hd : (x == ("__debug__" : Str)) = false := by decide) (hcd : (x == ("__classdict__" : Str)) = false := by decide)
    (he : starEach (e :: es) X.env = (false, eval e X.env) :: starEach es X.env := by rfl) (hpl : (backTo pos (starEach es X.env)).any (·.1) = false := by rfl) :
    SE X K cls m (.Call (.Name x p) (e :: es) [] pos) (tCallV K cls lamF dom (fun _ _ _ _ => False) i t) (eCallV lamF dom i f) := by
  obtain ⟨rfl⟩ := hK
  exact ⟨pe_callV c takesN hr hk hN hv ha.1 hd hcd he hpl, snd_callV ha.2⟩
end
/-! ### C(..), whose __init__ may raise -/
structure MakX (P : Program) (w : World) (K : PySem.W.Frag) (mg : Str → Option Value) (base : Heap) (k : Nat) (x : Str) (C : Addr) (sp : Sp) : Prop where
  ex : ∃ (f : Addr) (fd : FuncData) (ps : List Str), Mk K C f ∧ FnOk P w K mg base (L2N.CX P w) k f fd ps sp ∧ mg x = some (.ref C) ∧ Binds K fd ps []
def xNew (C : Nat) (mm : FX) (a : L) : EX := fun sl st => (a sl st).bind fun p => (mm (.ref p.2.length :: p.1) (p.2 ++ [.ins C []])).bind fun r => match r with
  | .val .non st1 => some (.val (.ref p.2.length) st1)
  | .exc c st1 => some (.exc c st1)
  | _ => none
section
variable [Gam] {X : Cx} {K : PySem.W.Frag} [hK : KX X K] {cls : Nat → Addr} {W : WX} {k j C : Nat} {m : Bool} {t : TA} {f : L} {mm : FX} {e : Expr} {es : List Expr} {x : Str} {p pos : Pos}
def tMakeW (C : Addr) (sp : Sp) (W : WX) (t : TA) : TE := fun σ H Q => tMake C sp [] (WE W σ) t σ H Q
theorem x_new (h : SndA K cls false t f) : SndEX K cls m (fun W => tMakeW (cls C) (spX K cls mm) W t) (xNew C mm f) := ⟨fun ρ Z σ H sl st r R e Q W q => by
  obtain ⟨p, e1, e⟩ := bind_some e
  obtain ⟨r0, e2, e3⟩ := bind_some e
  refine h.run ρ Z σ H sl st p.1 p.2 R e1 _ fun us ρ1 H1 R1 x1 r1 => fun x dx hx hdx hne => ?_
  have R2 := R1.new (o := .own x) hdx
  have hx2 : upd H1 dx (.own x) x = none := by rw [upd_ne hne.symm]; exact hx
  have R3 : Rel K cls (ρ1 ++ [x]) Z σ (upd (upd H1 dx (.own x)) x (.ins (cls C) dx [])) sl (p.2 ++ [.ins C []]) := R2.push hx2 ⟨dx, [], by rw [upd_same, List.zip_nil_right], Nat.zero_le _, .nil⟩
  have x3 : Ext ρ1 H1 (ρ1 ++ [x]) (upd (upd H1 dx (.own x)) x (.ins (cls C) dx [])) := (Ext.new hdx).trans (.push hx2)
  have hρx : (ρ1 ++ [x])[p.2.length]? = some x := by rw [← R1.s.len, List.getElem?_append_right (Nat.le_refl _), Nat.sub_self] <;> rfl
  refine ⟨ρ1 ++ [x], ZO Z sl σ, .ref p.2.length :: p.1, _, r0, R3.s, by rw [List.append_nil]; exact .cons (.ref hρx) (x3.repL r1.repL), e2, ?_⟩
  cases r0 with
  | exc c st1 =>
    cases e3
    exact fun ρ4 H4 R4 x4 => q ρ4 H4 (R3.step x4 R4) ((x1.trans x3).trans x4)
  | val d st1 =>
    cases d <;> first | cases e3 | skip
    refine fun u ρ4 H4 R4 x4 r4 => ⟨by cases r4; rfl, q _ ρ4 H4 (R3.step x4 R4) ((x1.trans x3).trans x4) (.of (.ref ?_))⟩
    obtain ⟨tt, ht⟩ := x4.pre
    rw [← ht, List.getElem?_append_left (List.getElem?_eq_some_iff.mp hρx).1]
    exact hρx⟩
theorem sx_new (c : MakX X.prog X.w K X.mg X.base k x (cls C) (spX K cls mm)) (tk : L2N.Takes X W) (hW : ∀ c d σ σ' H, W c d σ H → W c d σ' H) (hr : Room j X.A) (ha : SA X K cls false (e :: es) t f) (hk : k + 1 ≤ j := by decide) (hg : Gl X x := by rfl)
    (hdb : (x == ("__debug__" : Str)) = false := by decide) (he : starEach (e :: es) X.env = (false, eval e X.env) :: starEach es X.env := by rfl) (hpl : (backTo pos (starEach es X.env)).any (·.1) = false := by rfl) :
    SEX X W K cls m (.Call (.Name x p) (e :: es) [] pos) (fun W => tMakeW (cls C) (spX K cls mm) W t) (xNew C mm f) := by
  obtain ⟨rfl⟩ := hK
  obtain ⟨fa, fd, ps, M, F, hm, hb⟩ := c.ex
  refine ⟨⟨fun pins s σ H Q I h => ?_⟩, x_new ha.2⟩
  exact (pe_make (E := WE W σ) M F (hr.mono hk) hg hm hb .nil (L2N.passes_call tk fun c d σ' H' h => hW c d σ σ' H' h) ha.1 hdb he hpl).run pins s σ H Q I h
end
end Mi

set_option Elab.async false
set_option linter.all false
set_option maxRecDepth 100000
set_option maxHeartbeats 2000000
/-! Mi: defs that make lambdas, one within another; the law that makes them. -/
namespace Mi
open PySem PySem.Spec PyProof.Rows L2 LamX NdefX

section
variable {g0 : Gam} {cells : List (Str × Addr)} {tab : Nat → Option LT} {own : OwnT} {σ : L2.St}
theorem noEK_c (h : NoEK g0) (ht : tab EK = none) : NoEK (gamC g0 cells tab own σ) := fun f hs us z => by
  rcases z with ⟨L, c', js, e, _⟩ | z
  · rw [ht] at e; cases e
  · exact h _ _ _ z
theorem noEK_m (h : NoEK g0) (ht : tab EK = none) : NoEK (gamM g0 cells tab) := fun f hs us z => by
  rcases z with ⟨L, c', e, _⟩ | z
  · rw [ht] at e; cases e
  · exact h _ _ _ z
end
theorem LamOk.mono [Gam] {P : Program} {w : World} {K : PySem.W.Frag} {cls : Nat → Addr} {mg : Str → Option Value} {base : Heap} {j k : Nat} {L : LT} {fr : List Str} {m : List Val → FX} (o : LamOk P w K cls mg base j L fr m) (h : j ≤ k) : LamOk P w K cls mg base k L fr m :=
  fun A outer s H f c' cl us uv vs Q E hr => o A outer s H f c' cl us uv vs Q E (hr.mono h)
section
variable {X : Cx} {σ : L2.St}
/-- .. over a base that holds more -/
theorem BaseX.cells2 {b' b2 : Heap} {A : Around} {outer : List Env} {s' : Shared} {H' : Hp} {cl : List (Str × Addr)} {fr : List Str} {js : List Nat} {us : List V} (B : BaseX X σ b') (hs : ∀ b o, b'.get? b = some o → b2.get? b = some o) (e0 : Env0 X.prog X.w X.K X.mg b2 A outer s' H') (c : Caps X cl fr js) (hu : us.map some = js.map (slotAt σ)) :
    CellsAt cl fr (us.map some) s'.heap H' := by
  have kp : ∀ {c : Addr} {v : Option Value}, b'.IsCell c v → s'.heap.IsCell c v ∧ H' c = none := fun ⟨o, ho, hd⟩ => ⟨⟨o, (e0.bs _ o (hs _ _ ho)).1, hd⟩, (e0.bs _ o (hs _ _ ho)).2⟩
  have lj : js.length = fr.length := by
    have q := congrArg List.length c.at_
    rw [List.length_map, List.length_map] at q
    exact q
  refine ⟨by rw [hu, List.length_map]; exact lj, fun y a e => ?_, fun x y a e1 e2 => B.ok.inj x y a (c.sub x a e1) (c.sub y a e2), fun i y e => ?_⟩
  · obtain ⟨v, z⟩ := B.cell y a (c.sub y a e)
    obtain ⟨z1, z2⟩ := kp z
    exact ⟨z2, v, z1⟩
  · have e2 : (js.map fun j => X.N[j]?)[i]? = some (some y) := by
      rw [c.at_, List.getElem?_map, e] <;> rfl
    rw [List.getElem?_map] at e2
    cases ej : js[i]? with
    | none =>
      rw [ej] at e2
      cases e2
    | some j =>
      rw [ej] at e2
      have hj : X.N[j]? = some y := Option.some.inj (show some (X.N[j]?) = some (some y) from e2)
      have k := c.kin y (List.mem_of_getElem? e)
      obtain ⟨a, ha⟩ : ∃ a, X.env.cells.lookup y = some a := k.elim (fun z => B.ok.has y (.inl z)) fun z => B.ok.has y (.inr z)
      refine ⟨a, c.sup y (List.mem_of_getElem? e) a ha, fun v ev => ?_⟩
      rw [hu, List.getElem?_map, ej] at ev
      have ev2 : σ[j]? = some (some v) := slotAt_some (Option.some.inj (show some (slotAt σ j) = some (some v) from ev))
      obtain ⟨u, r, z⟩ := B.has j y a v hj k ha ev2
      exact ⟨u, r, (kp z).1⟩
end
/-- the lambdas made in X, in any reading, over a base that holds more -/
theorem clo_made2 {gam : Gam} {X : Cx} {σ : L2.St} {b' b2 : Heap} {K : PySem.W.Frag} {cls : Nat → Addr} {g0 : Gam} {tab : Nat → Option LT} {own : OwnT} {lv : Nat} {lamF : Nat → List Val → FX} {dom : Nat → Bool} (B : BaseX X σ b') (hK : X.K = K) (hs : ∀ b o, b'.get? b = some o → b2.get? b = some o)
    (hl : ∀ i L js, dom i = true → tab i = some L → own i = some js → ∃ fr : List Str, (∀ y ∈ L.scope.names, y.2 = .free → X.env.scope.names.lookup y.1 = some .cell ∨ X.env.scope.names.lookup y.1 = some .free) ∧ (∀ y ∈ fr, (y, NameKind.free) ∈ L.scope.names) ∧ js.map (fun j => X.N[j]?) = fr.map some ∧
      @LamOk gam X.prog X.w K cls X.mg b2 lv L fr (lamF i))
    (h0 : @CloI gam g0.is X.prog X.w K cls X.mg b2 lv lamF dom) : @CloI gam (gamC g0 X.env.cells tab own σ).is X.prog X.w K cls X.mg b2 lv lamF dom := by
  subst hK
  letI : Gam := gam
  refine ⟨fun i f hs' us H h hd his hok hH => ?_, fun A outer s H i f hs' us uv vs Q E hr e0 hd his hH r h => ?_⟩
  · rcases his with ⟨L, c', js, h1, h2, h3, h4⟩ | his
    · subst h2
      exact fnAt_lam hok (hH _ List.mem_cons_self)
    · exact h0.fn i f hs' us H h hd his hok hH
  · rcases his with ⟨L, c', js, h1, h2, h3, h4⟩ | his
    · subst h2
      obtain ⟨fr, f1, f2, f3, lo⟩ := hl i L js hd h1 h3
      exact lo A outer s H f c' _ us uv vs Q E hr e0 (hH _ List.mem_cons_self) (hH (c', _) (List.mem_cons_of_mem _ (List.mem_singleton.mpr rfl))) (B.cells2 hs e0 (.made B.ok f1 f2 f3) h4) r h
    · exact h0.run A outer s H i f hs' us uv vs Q E hr e0 hd his hH r h

/-! ### what is told of an answer that may be a refusal -/
def x1 (op : Sto → Val → Option Val) (a : EX) : EX := fun sl st => (a sl st).bind fun p => match p with
  | .val x st1 => (op st1 x).bind fun z => some (.val z st1)
  | .exc c st1 => some (.exc c st1)
section
variable [Gam] {X : Cx} {W : WX} {K : PySem.W.Frag} [hK : KX X K] {cls : Nat → Addr} {m m' : Bool} {C k : Nat} {nm : Str} {o a : Expr} {ta to : WX → TE} {fa fo : EX} {p pos : Pos}
theorem x_1 {op : Sto → Val → Option Val} {r : V → Hp → VK → Prop} (ho : Op1S K cls op r) (ha : SndEX K cls m' ta fa) : SndEX K cls m (fun W => tUn r (ta W)) (x1 op fa) := ⟨fun ρ Z σ H sl st r R e Q W q => by
  obtain ⟨p, e1, e⟩ := bind_some e
  refine ha.run ρ Z σ H sl st _ R e1 _ W ?_
  cases p with
  | exc c st1 =>
    cases e
    exact q
  | val x st1 =>
    obtain ⟨z, e3, e⟩ := bind_some e
    cases e
    exact fun u ρ1 H1 R1 x1 r1 => ho ρ1 Z σ H1 sl _ _ _ u R1 r1.up e3 _ fun w H3 R3 x3 r3 => q w ρ1 H3 R3 (x1.trans x3) (.of r3)⟩
theorem sx_fld (h : At K cls C k nm) (ho : SEX X W K cls true o to fo) (hb : attributeBase o nm X.env (eval o X.env) = eval o X.env := by rfl) : SEX X W K cls m (.Attribute o nm pos) (fun W => tFld K (to W) nm) (x1 (oFld C k) fo) := by
  obtain ⟨rfl⟩ := hK
  exact ⟨pe_fld ho.1 hb, x_1 (ops_fld h) ho.2⟩
theorem sx_len (bt : Bt X.mg) (ha : SEX X W K cls true a ta fa) (hg : Gl X "len" := by rfl) (hs : starEach [a] X.env = (false, eval a X.env) :: starEach [] X.env := by rfl) (hpl : (backTo pos (starEach [] X.env)).any (·.1) = false := by rfl) :
    SEX X W K cls m (.Call (.Name "len" p) [a] [] pos) (fun W => tCB (rLen K) (tCons (ta W) tNil)) (x1 oLen fa) := by
  obtain ⟨rfl⟩ := hK
  exact ⟨L2.pe_callB call_lenS hg bt.len PySem.boot_len (pa_cons ha.1 pa_nil hs) (he := hs) (hpl := hpl), x_1 (r := fun u => rLen X.K [u]) ops_len ha.2⟩
end

/-! ### the law, its tables -/
/-- no lambda is yet; the tables -/
@[reducible] def gam0 (ts : List (Addr × Str)) : Gam := ⟨fun _ _ _ _ => False, fun k => ts.getD k (0, "")⟩
theorem kd_of {g0 : Gam} {tab : Nat → Option LT} {own : OwnT} {n : Nat} (h1 : ∀ i, i < n → (tab i).isSome = (own i).isSome) (h2 : ∀ i, tab (i + n) = none) (h3 : ∀ i, own (i + n) = none) (hd : ∀ i f hs us, g0.is i f hs us → own i = none) : Kinds g0 tab own := by
  refine ⟨fun i => ?_, hd⟩
  by_cases hi : i < n
  · exact h1 i hi
  · obtain ⟨j, rfl⟩ : ∃ j, i = j + n := ⟨i - n, by omega⟩
    rw [h2, h3] <;> rfl
/-- the store at the law's beginning: its tables -/
theorem relR_tabs {K : PySem.W.Frag} {cls : Nat → Addr} {H : Hp} : ∀ {ts : List (Addr × Str)}, (ts.map (·.1)).Nodup → (∀ p ∈ ts, H p.1 = some (.tbl #[])) → @RelR (gam0 ts) K cls (ts.map (·.1)) (fun _ => False) H ((List.range ts.length).map .tb) := fun {ts} hn hT => by
  letI : Gam := gam0 ts
  refine ⟨hn, by rw [List.length_map, List.length_map, List.length_range], fun n c a h1 h2 => ?_, fun a h => ?_, fun a _ h => h⟩
  · rw [List.getElem?_map] at h1 h2
    cases e : ts[n]? with
    | none => rw [e] at h2; cases h2
    | some p =>
      rw [e] at h2
      cases h2
      have hl : n < ts.length := (List.getElem?_eq_some_iff.mp e).1
      rw [List.getElem?_range hl] at h1
      cases h1
      refine ⟨?_, #[], hT p (List.mem_of_getElem? e), trivial, fun pos cv h => by cases h⟩
      show p.1 = (ts.getD n (0, "")).1
      rw [List.getD_eq_getElem?_getD, e] <;> rfl
  · rcases h with h | h
    · obtain ⟨p, hp, rfl⟩ := List.mem_map.mp h
      rw [hT p hp]
      simp
    · exact h.elim
end Mi

set_option Elab.async false
set_option linter.all false
set_option maxRecDepth 100000
set_option maxHeartbeats 2000000
/-! Mi: isinstance of two classes, tuple of a list, extend of a place; makers where nothing is being shown; a statement upon the tables alone. -/
namespace Mi
open PySem PySem.Spec PyProof.Rows L2 LamX NdefX

section
variable [Gam] {K : PySem.W.Frag} {cls : Nat → Addr} {m m' : Bool} {ta te to : TE} {fa fe fo : E} {f : L}
/-! ### isinstance(x, (list, tuple)) -/
def oIsLT : Sto → Val → Option Val := fun st x => (tyOf st x).bind fun t => if t < 7 then some (.bl (t == 3 || t == 4)) else none
theorem any_LT : ∀ t < 7, PySem.W.kitAny K (.type (tyN t)) [.type "list", .type "tuple"] = some (t == 3 || t == 4) := fun t ht => by
  have e3 := kit_ty (K := K) (kit_tab t ht 3 (by decide))
  have e4 := kit_ty (K := K) (kit_tab t ht 4 (by decide))
  show (match PySem.W.kitOne K (.type (tyN t)) (.type (tyN 3)) with
    | some true => some true
    | some false => PySem.W.kitAny K (.type (tyN t)) [.type (tyN 4)]
    | none => none) = _
  rw [e3]
  match t, ht with
  | 3, _ => rfl
  | 0, _ => show (match PySem.W.kitOne K (.type (tyN 0)) (.type (tyN 4)) with | some true => some true | some false => some false | none => none) = _; rw [e4]; rfl
  | 1, _ => show (match PySem.W.kitOne K (.type (tyN 1)) (.type (tyN 4)) with | some true => some true | some false => some false | none => none) = _; rw [e4]; rfl
  | 2, _ => show (match PySem.W.kitOne K (.type (tyN 2)) (.type (tyN 4)) with | some true => some true | some false => some false | none => none) = _; rw [e4]; rfl
  | 4, _ => show (match PySem.W.kitOne K (.type (tyN 4)) (.type (tyN 4)) with | some true => some true | some false => some false | none => none) = _; rw [e4]; rfl
  | 5, _ => show (match PySem.W.kitOne K (.type (tyN 5)) (.type (tyN 4)) with | some true => some true | some false => some false | none => none) = _; rw [e4]; rfl
  | 6, _ => show (match PySem.W.kitOne K (.type (tyN 6)) (.type (tyN 4)) with | some true => some true | some false => some false | none => none) = _; rw [e4]; rfl
theorem snd_isLT (ha : Snd K cls m' ta fa) : Snd K cls m (tCB (rIsiT K) (tCons ta (tCons (tTup (tCons (tC (.ty "list")) (tCons (tC (.ty "tuple")) tNil))) tNil))) (e1 oIsLT fa) := ⟨fun ρ Z σ H sl st d st' R e Q q => by
  obtain ⟨p, e1, e⟩ := bind_some e
  obtain ⟨z, e2, e⟩ := bind_some e
  cases e
  obtain ⟨t, e3, e2⟩ := bind_some e2
  split at e2
  · rename_i ht
    cases e2
    refine ha.run ρ Z σ H sl st p.1 p.2 R e1 _ fun u ρ1 H1 R1 x1 r1 => ⟨by decide, fun w hw => ?_⟩
    have R2 := R1.new (o := .tup [.ty "list", .ty "tuple"]) hw
    exact ⟨u, w, _, _, [.type "list", .type "tuple"], _, rfl, upd_same, .cons (.ty _) (.cons (.ty _) .nil), ty_of R2 (r1.ext (.new hw)) e3, any_LT t ht, q _ ρ1 _ R2 (x1.trans (.new hw)) (.of (.bl _))⟩
  · cases e2⟩
/-! ### tuple(..) of a new list -/
def eTupOf (l : L) : E := fun sl st => (l sl st).bind fun p => some (.tup p.1, p.2)
theorem snd_tupOf (h : SndL K cls ta f) : Snd K cls m (tThen ta (kTup K)) (eTupOf f) := ⟨fun ρ Z σ H sl st d st' R e Q q => by
  obtain ⟨p, e1, e⟩ := bind_some e
  cases e
  refine h.run ρ Z σ H sl st p.1 p.2 R e1 _ fun w us ρ1 H1 R1 x1 hp rl => .inl ⟨w, us, rfl, .of upd_same, fun y hy => ?_⟩
  have R2 := R1.new (o := .lst us) hp
  have R3 := R2.new (o := .tup us) hy
  exact q _ ρ1 _ R3 ((x1.trans (.new hp)).trans (.new hy)) (.of (.tup (.inl ⟨fun z => R2.s.dom _ z hy, upd_same⟩) (Ext.repL (.new hy) (Ext.repL (.new hp) rl))))⟩
/-! ### o.extend(e), both places of the store -/
def sExtK (o e : E) : S := fun sl st => (o sl st).bind fun p => match p.1 with
  | .ref n => match p.2[n]? with
    | some (.lst _) => (e sl p.2).bind fun q => match q.1 with
      | .ref k => match q.2[n]? with
        | some (.lst xs) => match q.2[k]? with
          | some (.lst zs) => if xs.length + zs.length ≤ 100000 then some (.nx, sl, q.2.set n (.lst (xs ++ zs))) else none
          | _ => none
        | _ => none
      | _ => none
    | _ => none
  | _ => none
theorem s_extK (ho : Snd K cls m to fo) (ha : Snd K cls false ta fa) : SndS K cls (tDrop (tBM K "list" rExtend to (tCons ta tNil))) (sExtK fo fa) := ⟨fun ρ Z σ H sl st r R e D q => by
  obtain ⟨p, e1, e⟩ := bind_some e
  split at e
  · rename_i n hn
    split at e
    · rename_i xs0 hx0
      obtain ⟨p2, e2, e⟩ := bind_some e
      split at e
      · rename_i k hk
        split at e
        · rename_i xs hx
          split at e
          · rename_i zs hz
            split at e
            · rename_i hl
              cases e
              refine ho.run ρ Z σ H sl st p.1 p.2 R e1 _ fun u ρ1 H1 R1 x1 r1 => ?_
              rw [hn] at r1
              obtain ⟨a, rfl, hρ⟩ := ref_inv r1
              obtain ⟨us0, w1, w2⟩ := R1.s.cells n _ a hx0 hρ
              refine ⟨.inl ⟨rfl, us0, .of w1⟩, ?_⟩
              refine ha.run ρ1 Z σ H1 sl p.2 p2.1 p2.2 R1 e2 _ fun v ρ2 H2 R2 x2 r2 => ?_
              rw [hk] at r2
              obtain ⟨b, rfl, hb⟩ := ref_inv r2
              obtain ⟨us, v1, v2⟩ := R2.s.cells n _ a hx (x2.at hρ)
              obtain ⟨ws, v3, v4⟩ := R2.s.cells k _ b hz hb
              refine ⟨a, b, us, ws, rfl, rfl, v1, v3, by rw [← v2.length, ← v4.length]; exact Nat.le_trans hl (by decide), ?_⟩
              have x3 : Ext ρ2 H2 ρ2 (upd H2 a (.lst (us ++ ws))) := .set (x2.at hρ)
              exact q σ ρ2 _ (R2.set (x2.at hρ) ⟨us ++ ws, upd_same, (x3.repL v2).append (x3.repL v4)⟩) ((x1.trans x2).trans x3).pre ((x1.trans x2).trans x3).wo
            · cases e
          · cases e
        · cases e
      · cases e
    · cases e
  · cases e⟩
end
section
variable [Gam] {X : Cx} {K : PySem.W.Frag} [hK : KX X K] {cls : Nat → Addr} {m : Bool} {a o e : Expr} {es : List Expr} {ta to te : TE} {fa fo fe : E} {fl : L} {p p2 pos apos cpos tpos : Pos}
theorem se_isLT {k : Nat} {q1 q2 : Pos} (bt : Bt X.mg) (ha : SE X K cls true a ta fa) (hg : Gl X "isinstance" := by rfl) (hg2 : Gl X "list" := by rfl) (hg3 : Gl X "tuple" := by rfl)
    (hs : starEach [a, .Tuple [.Name "list" q1, .Name "tuple" q2] k tpos] X.env = (false, eval a X.env) :: starEach [.Tuple [.Name "list" q1, .Name "tuple" q2] k tpos] X.env := by rfl) (hs2 : starEach [.Tuple [.Name "list" q1, .Name "tuple" q2] k tpos] X.env = (false, eval (.Tuple [.Name "list" q1, .Name "tuple" q2] k tpos) X.env) :: starEach [] X.env := by rfl)
    (hs3 : starEach [.Name "list" q1, .Name "tuple" q2] X.env = (false, eval (.Name "list" q1) X.env) :: starEach [.Name "tuple" q2] X.env := by rfl) (hs4 : starEach [.Name "tuple" q2] X.env = (false, eval (.Name "tuple" q2) X.env) :: starEach [] X.env := by rfl)
    (hpl : (backTo pos (starEach [.Tuple [.Name "list" q1, .Name "tuple" q2] k tpos] X.env)).any (·.1) = false := by rfl) :
    SE X K cls m (.Call (.Name "isinstance" p) [a, .Tuple [.Name "list" q1, .Name "tuple" q2] k tpos] [] pos) (tCB (rIsiT K) (tCons ta (tCons (tTup (tCons (tC (.ty "list")) (tCons (tC (.ty "tuple")) tNil))) tNil))) (e1 oIsLT fa) := by
  obtain ⟨rfl⟩ := hK
  refine ⟨L2.pe_callB call_isiT hg bt.isinstance (by decide +kernel) (pa_cons ha.1 (pa_cons (pe_tup (pa_cons (pe_bltn hg2 bt.list (by decide +kernel) rfl) (pa_cons (pe_bltn hg3 bt.tuple (by decide +kernel) rfl) pa_nil hs4) hs3)) pa_nil hs2) hs) (he := hs) (hpl := hpl), snd_isLT ha.2⟩
theorem se_tupOf (bt : Bt X.mg) (ha : SL X K cls a ta fl) (hg : Gl X "tuple" := by rfl) (na : starEach [a] X.env = (false, eval a X.env) :: starEach [] X.env := by rfl) : SE X K cls m (.Call (.Name "tuple" p) [a] [] pos) (tThen ta (kTup K)) (eTupOf fl) := by
  obtain ⟨rfl⟩ := hK
  exact ⟨pe_tupleOf hg bt.tuple ha.1 na, snd_tupOf ha.2⟩
theorem ss_extK (ho : SE X K cls true o to fo) (he : SE X K cls false e te fe) (hs : starEach [e] X.env = (false, eval e X.env) :: starEach [] X.env := by rfl)
    (hbase : attributeBase o "extend" X.env (eval o X.env) = eval o X.env := by rfl)
    (hfew : ((backTo cpos (starEach [e] X.env)).all (fun x => !x.1) && (backToKw cpos (keywordEach [] X.env)).all (fun x => x.1.isSome) && decide ([e].length + ([] : List Keyword).length + (if ([] : List Keyword).isEmpty then 0 else 1) < 30)) = true := by rfl)
    (hline : (apos.endLine == cpos.line) = true := by rfl) (hplain : (backTo cpos (starEach [] X.env)).any (·.1) = false := by rfl)
    (hsw : swapsWith (.Call (.Attribute o "extend" apos) [e] [] cpos) none pos.line X.env = pure false := by rfl) :
    SS X K cls (.Expr (.Call (.Attribute o "extend" apos) [e] [] cpos) pos) (tDrop (tBM K "list" rExtend to (tCons te tNil))) (sExtK fo fe) := by
  obtain ⟨rfl⟩ := hK
  exact ⟨ps_expr (pe_bm PySem.F.plainAttrs_list PySem.F.slot_list_extend PySem.F.type_list_extend mt_extend ho.1 (pa_cons he.1 pa_nil hs) hbase hfew hline hs hplain) hsw, s_extK ho.2 he.2⟩
end
end Mi

set_option Elab.async false
set_option linter.all false
set_option maxRecDepth 100000
set_option maxHeartbeats 2000000
/-! Mi: makers where nothing is being shown; a statement upon the tables alone; the law's call. -/
namespace Mi
open PySem PySem.Spec PyProof.Rows L2 LamX NdefX

/-! ### lambdas handed on, nothing being shown -/
section
variable {X : Cx}
theorem pe_callBG {k j : Nat} {sp : L2.St → Sp} {x : Str} {p pos : Pos} {t : TA} {e : Expr} {es : List Expr} (hx : ∃ f, X.mg x = some (.ref f) ∧ PySem.W.keepIn X.K (.ref f) = true) (F : ∀ σ b', BaseX X σ b' → CalG X.prog X.w X.K X.mg b' k x (sp σ)) (hgd : X.A.guards = some []) (hr : Room j X.A) (hk : k ≤ j) (hfn : ∀ pins σ H s, Inv X pins σ H s → ∀ y c, X.env.cells.lookup y = some c → c ∉ X.fs)
    (hg : Gl X x) (ha : PA X (e :: es) t) (hdb : (x == ("__debug__" : Str)) = false) (he : starEach (e :: es) X.env = (false, eval e X.env) :: starEach es X.env) (hpl : (backTo pos (starEach es X.env)).any (·.1) = false) :
    PE X (.Call (.Name x p) (e :: es) [] pos) (fun σ H Q => t σ H fun vs H1 => sp σ vs H1 Q E0) := by
  obtain ⟨f, hm, kp⟩ := hx
  refine ⟨fun pins s σ H Q I h => ?_⟩
  refine wpAny_Call_Name_kw (ld_glob I hg hm ?_ hdb)
  refine PySem.W.callWith_K (h₀ := X.base) I.ok.mod.kin kp (thn (ha.run pos pins s σ H _ I h) fun us s1 ⟨vs, H1, I1, r, q⟩ => ⟨I1.kIn, ?_⟩) he hpl
  obtain ⟨b', B, e0⟩ := baseX I1 (hfn _ _ _ _ I1)
  obtain ⟨f', fd, ps, F', hm', _, hb⟩ := (F σ b' B).ex
  cases hm.symm.trans hm'
  have hl : us.length = ps.length := by rw [← r.length]; exact F'.len _ _ _ _ q
  have bd := hb s1 us I1.kIn (by rw [List.append_nil]; exact hl)
  rw [List.append_nil] at bd
  refine wpAny_call (codeAny_mono (F'.run X.A X.stack s1 H1 ⟨us, []⟩ us vs Q E0 hgd (hr.mono hk) e0 bd r q) fun r s' hq => ?_)
  cases r with
  | error e => exact hq.elim
  | ok fl =>
    cases fl with
    | ret u => exact I1.after hq
    | next => exact False.elim hq
    | brk => exact False.elim hq
    | cont => exact False.elim hq
variable {K : PySem.W.Frag} [hK : KX X K] {cls : Nat → Addr} {g0 : Gam} {tab : Nat → Option LT} {own : OwnT} {m : Bool}
theorem se_callBG {k j : Nat} {x : Str} {p pos : Pos} {t : TA} {f : L} {e : Expr} {es : List Expr} {mm : F} (kd : Kinds g0 tab own) (hx : ∃ f, X.mg x = some (.ref f) ∧ PySem.W.keepIn K (.ref f) = true) (F : ∀ σ b', BaseX X σ b' → CalG X.prog X.w K X.mg b' k x (@spM (gamC g0 X.env.cells tab own σ) K cls mm)) (hgd : X.A.guards = some []) (hr : Room j X.A)
    (hfn : ∀ pins σ H s, Inv X pins σ H s → ∀ y c, X.env.cells.lookup y = some c → c ∉ X.fs) (ha : @SA (gamM g0 X.env.cells tab) X K cls false (e :: es) t f) (hk : k ≤ j := by decide) (hg : Gl X x := by rfl) (hdb : (x == ("__debug__" : Str)) = false := by decide)
    (he : starEach (e :: es) X.env = (false, eval e X.env) :: starEach es X.env := by rfl) (hpl : (backTo pos (starEach es X.env)).any (·.1) = false := by rfl) :
    @SE (gamM g0 X.env.cells tab) X K cls m (.Call (.Name x p) (e :: es) [] pos) (tCallB K cls g0 X.env.cells tab own mm t) (eCallB mm own f) := by
  obtain ⟨rfl⟩ := hK
  exact ⟨pe_callBG hx F hgd hr hk hfn hg ha.1 hdb he hpl, snd_callB kd ha.2⟩
end
theorem fnG_ofC {P : Program} {w : World} {K : PySem.W.Frag} {mg : Str → Option Value} {base : Heap} {x qual : Str} {st : Stmt} {f c : Addr} {fd : FuncData} {N ps : List Str} {k : Nat} {sp : Sp} (F : L2.Fun K x qual st f fd) (hcode : fd.code = .ref c) (Sc : FnScope N ps (defScope st)) (len : ∀ vs H Q E, sp vs H Q E → vs.length = ps.length)
    (hbody : ∀ (A : Around) (outer : List Env) (s : Shared) (H : Hp) (vs : List V) (Q : VK) (E : XK), (A.deeper (envOfC qual (defScope st) s.heap.objs.size f (.ref c))).guards = some [] → Room k (A.deeper (envOfC qual (defScope st) s.heap.objs.size f (.ref c))) → sp vs H Q E →
      ∃ t, PSs (cxOf CX0 P w K mg base N qual (defScope st) f (.ref c) A outer s H E).nox (defBody st) t ∧ t { nx := fun _ H' => Q .non H', rt := Q } (L2.start N vs) H) : FnG P w K mg base (k + 1) f fd ps sp := by
  obtain ⟨oc, od, kV, doc, pm, an, cdv, ct, osl, rfl, lk, hcd⟩ := F.ex
  obtain rfl : cdv = .ref c := hcode
  refine ⟨len, fun A outer s H args us vs Q E hg hr e0 hb r hsp => ?_⟩
  have hl := len _ _ _ _ hsp
  have kin : K.In s.heap := e0.mod.kin.keeps fun b o e => (e0.bs b o e).1
  have lim : s.heap.NoLimit := e0.mod.nolimit.keeps fun b o e => (e0.bs b o e).1
  have kinds : ∀ y ∈ ps.zip us, (defScope st).names.lookup y.1 = some .local ∨ ((defScope st).names.lookup y.1 = some .cell ∧ ((cellsFrom (s.heap.objs.size + 1) (defScope st).names []).lookup y.1).isSome = true) := fun ⟨n, v⟩ hy =>
    (Sc.par n (List.of_mem_zip hy).1).imp id fun q => ⟨q, PySem.W.cellsFrom_some _ _ _ (.inl q)⟩
  refine codeAny_call_function hr.depth (kin _ _ lk) rfl Sc.co Sc.gen rfl (PySem.W.codeRec_of kin hcd) (hb _ _ _ _ ?_)
  refine wpAny_newFunctionEnv_cells Sc.kind kinds fun env he s1 z => ?_
  subst he
  refine ⟨lim.keeps z.toInCall.keep, codeAny_func ?_⟩
  obtain ⟨t, ht, hq⟩ := hbody A outer s H vs Q E hg (hr.deeper _) hsp
  have I := inv_start (CX := CX0) (P := P) (w := w) (mg := mg) (base := base) (A := A) (outer := outer) (H := H) (E := E) Sc hr.hd e0 hl r z
  refine wpAny_mono (ht.nox.run [] s1 (L2.start N vs) H _ I hq) (fun fl s' hs => ?_) fun e s' hs => hs
  cases fl with
  | ret u =>
    obtain ⟨v, σ', H', J, rv, q⟩ := hs
    exact ⟨v, H', J.os, J.bare, J.base, J.hok, rv, q⟩
  | next =>
    obtain ⟨σ', H', J, q⟩ := hs
    exact ⟨V.non, H', J.os, J.bare, J.base, J.hok, rfl, q⟩
  | brk => obtain ⟨_, _, _, q⟩ := hs; exact False.elim q
  | cont => obtain ⟨_, _, _, q⟩ := hs; exact False.elim q
/-- a maker's promise where nothing is being shown -/
theorem def_okMG {P : Program} {w : World} {K : PySem.W.Frag} {cls : Nat → Addr} {mg : Str → Option Value} {base : Heap} {x qual : Str} {sd : Stmt} {fA c : Addr} {fd : FuncData} {N ps : List Str} {lv k n : Nat} {b : S} {g0 : Gam} {tab : Nat → Option LT} {own : OwnT} (kd : Kinds g0 tab own) (F0 : L2.Fun K x qual sd fA fd) (hcode : fd.code = .ref c) (Sc : FnScope N ps (defScope sd)) (hk : ps.length = k) (hn : N.length = n)
    (body : ∀ (A : Around) (outer : List Env) (s : Shared) (H : Hp) (E : XK), (A.deeper (envOfC qual (defScope sd) s.heap.objs.size fA (.ref c))).guards = some [] → Room lv (A.deeper (envOfC qual (defScope sd) s.heap.objs.size fA (.ref c))) → KX (cxOf CX0 P w K mg base N qual (defScope sd) fA (.ref c) A outer s H E).nox K → ∃ t, @SSs (gamM g0 (envOfC qual (defScope sd) s.heap.objs.size fA (.ref c)).cells tab) (cxOf CX0 P w K mg base N qual (defScope sd) fA (.ref c) A outer s H E).nox K cls (defBody sd) t b) :
    FnG P w K mg base (lv + 1) fA fd ps (@spM g0 K cls (fnOfM own k n b)) := by
  refine fnG_ofC F0 hcode Sc (fun vs H Q E h => ?_) fun A outer s H vs Q E hg hr h => ?_
  · obtain ⟨ρ, Z, ds, st, d, st', R, r, e, _⟩ := h
    obtain ⟨p, e1, _⟩ := Option.bind_eq_some_iff.mp e
    unfold fnOf at e1
    split at e1
    · rename_i hl
      rw [← @RepL.length g0 _ _ _ _ _ _ r, hl, hk]
    · cases e1
  · obtain ⟨t, ht, sn⟩ := body A outer s H E hg hr ⟨rfl⟩
    letI : Gam := gamM g0 (envOfC qual (defScope sd) s.heap.objs.size fA (.ref c)).cells tab
    exact ⟨t, ht, body_sp sn hk hn (spM_made (cells := (envOfC qual (defScope sd) s.heap.objs.size fA (.ref c)).cells) kd h)⟩

/-! ### a statement upon the tables alone: what it keeps of the slots names no place, the store stays -/
def noref (v : Val) : Bool := (pd [] deep v).isSome
def keepS : Slot → Slot
  | .val v => if noref v = true then .val v else .no
  | _ => .no
def tbs : Sto → Option (List Nat)
  | [] => some []
  | .tb k :: r => (tbs r).map (k :: ·)
  | _ => none
def sAlone (n : Nat) (f : S) : S := fun sl st => (tbs (st.take n)).bind fun ks => (f (sl.map keepS) (st.take n)).bind fun r => match r with
  | (.nx, sl1, st1) => if tbs (st1.take n) = some ks ∧ n ≤ st1.length then some (.nx, sl1.map keepS, st) else none
  | _ => none
theorem tbs_at : ∀ {st : Sto} {ks : List Nat}, tbs st = some ks → ∀ {i : Nat} {c : Cell}, st[i]? = some c → ∃ k, ks[i]? = some k ∧ c = .tb k
  | [], _, _, i, c, h => by simp at h
  | .tb k :: r, ks, e, i, c, h => by
    obtain ⟨ks', e', rfl⟩ := Option.map_eq_some_iff.mp e
    cases i with
    | zero => simp at h; exact ⟨k, rfl, h.symm⟩
    | succ i =>
      simp at h
      obtain ⟨j, h1, h2⟩ := tbs_at e' h
      exact ⟨j, by simpa using h1, h2⟩
  | .lst _ :: _, _, e, _, _, _ => by cases e
  | .ins _ _ :: _, _, e, _, _, _ => by cases e
  | .dk _ :: _, _, e, _, _, _ => by cases e
  | .dt _ :: _, _, e, _, _, _ => by cases e
theorem keep_of {w : Val} : keepS (.val w) = if noref w = true then .val w else .no := rfl
theorem keep_val {s : Slot} {v : Val} (h : keepS s = .val v) : s = .val v ∧ noref v = true := by
  cases s with
  | val w =>
    rw [keep_of] at h
    by_cases hn : noref w = true
    · rw [if_pos hn] at h
      cases h
      exact ⟨rfl, hn⟩
    · rw [if_neg hn] at h
      cases h
  | no => cases h
  | own xs => cases h
theorem keep_own {s : Slot} {xs : List Val} (h : keepS s = .own xs) : False := by
  cases s with
  | val w =>
    rw [keep_of] at h
    by_cases hn : noref w = true
    · rw [if_pos hn] at h
      cases h
    · rw [if_neg hn] at h
      cases h
  | no => cases h
  | own xs => cases h
theorem map_keep {sl : Sl} {i : Nat} {s : Slot} (h : (sl.map keepS)[i]? = some s) : ∃ s', sl[i]? = some s' ∧ keepS s' = s := by
  rw [List.getElem?_map] at h
  exact Option.map_eq_some_iff.mp h
theorem no_own {sl : Sl} {σ : L2.St} {a : Addr} (h : Own (sl.map keepS) σ a) : False := by
  obtain ⟨i, xs, h1, _⟩ := h
  obtain ⟨s, _, h2⟩ := map_keep h1
  exact keep_own h2
section
variable [Gam] {K : PySem.W.Frag} {cls : Nat → Addr}
theorem s_alone {n : Nat} {t : TS} {f : S} (h : SndS K cls t f) : SndS K cls t (sAlone n f) := ⟨fun ρ Z σ H sl st r R e D q => by
  obtain ⟨ks, e0, e⟩ := bind_some e
  obtain ⟨⟨o, sl1, st1⟩, e1, e⟩ := bind_some e
  cases o <;> first | cases e | skip
  have e : (if tbs (st1.take n) = some ks ∧ n ≤ st1.length then some (Out.nx, sl1.map keepS, st) else none) = some r := e
  split at e
  · rename_i ht
    cases e
    have nd : (ρ.take n ++ ρ.drop n).Nodup := by rw [List.take_append_drop]; exact R.s.nd
    have hsplit : ∀ a, a ∈ ρ → a ∈ ρ.take n ∨ a ∈ ρ.drop n := fun a ha => by
      rw [← List.take_append_drop n ρ] at ha
      exact List.mem_append.mp ha
    have hapart : ∀ a, a ∈ ρ.take n → a ∈ ρ.drop n → False := fun a h1 h2 => (List.nodup_append.mp nd).2.2 a h1 a h2 rfl
    have hsub : ∀ a, a ∈ ρ.take n → a ∈ ρ := fun a ha => List.mem_of_mem_take ha
    have hsub2 : ∀ a, a ∈ ρ.drop n → a ∈ ρ := fun a ha => List.mem_of_mem_drop ha
    -- what is apart
    let Z0 : Addr → Prop := fun a => Z a ∨ a ∈ ρ.drop n ∨ Own sl σ a
    have hA : AR (ρ.take n) (ZO Z0 (sl.map keepS) σ) = AR ρ (ZO Z sl σ) := by
      funext a
      refine propext ⟨fun z => ?_, fun z => ?_⟩
      · rcases z with z | (z | z | z) | z
        · exact .inl (hsub a z)
        · exact .inr (.inl z)
        · exact .inl (hsub2 a z)
        · exact .inr (.inr z)
        · exact (no_own z).elim
      · rcases z with z | z | z
        · exact (hsplit a z).imp id fun z => .inl (.inr (.inl z))
        · exact .inr (.inl (.inl z))
        · exact .inr (.inl (.inr (.inr z)))
    have R0 : Rel K cls (ρ.take n) Z0 σ H (sl.map keepS) (st.take n) := by
      refine ⟨⟨(List.nodup_append.mp nd).1, by rw [List.length_take, List.length_take, R.s.len], fun i c a h1 h2 => ?_, fun a ha => ?_, fun a ha z => ?_⟩, by rw [List.length_map]; exact R.slen, fun i v hv => ?_, fun i xs hx => ?_, fun i j xs ys a h1 _ _ _ => ?_⟩
      · rw [hA]
        obtain ⟨k, _, rfl⟩ := tbs_at e0 h1
        have h1' : st[i]? = some (.tb k) := by
          rw [List.getElem?_take] at h1
          split at h1
          · exact h1
          · cases h1
        have h2' : ρ[i]? = some a := by
          rw [List.getElem?_take] at h2
          split at h2
          · exact h2
          · cases h2
        exact R.s.cells i _ a h1' h2'
      · rw [hA] at ha
        exact R.s.dom a ha
      · rcases z with (z | z | z) | z
        · exact R.s.dis a (hsub a ha) (.inl z)
        · exact hapart a ha z
        · exact R.s.dis a (hsub a ha) (.inr z)
        · exact no_own z
      · obtain ⟨s, hs, hk⟩ := map_keep hv
        obtain ⟨rfl, hn⟩ := keep_val hk
        obtain ⟨u, h1, h2⟩ := R.slots i v hs
        obtain ⟨d, hd⟩ := Option.isSome_iff_exists.mp hn
        exact ⟨u, h1, rep_noref (fun b hb => by rw [hA] at hb; exact hb) deep hd h2⟩
      · obtain ⟨s, _, hk⟩ := map_keep hx
        exact (keep_own hk).elim
      · obtain ⟨s, _, hk⟩ := map_keep h1
        exact (keep_own hk).elim
    refine h.run (ρ.take n) Z0 σ H (sl.map keepS) (st.take n) _ R0 e1 D ?_
    intro σ' ρ' H' R' p' f'
    have hW : ∀ a, WO (ρ.take n) (sl.map keepS) σ a → WO ρ sl σ a := fun a z => z.elim (fun z => .inl (hsub a z)) fun z => (no_own z).elim
    have hA2 : ∀ a, AR ρ (ZO Z (sl1.map keepS) σ') a → AR ρ' (ZO Z0 sl1 σ') a := fun a z => by
      rcases z with z | z | z
      · exact (hsplit a z).elim (fun z => .inl (p'.mem z)) fun z => .inr (.inl (.inr (.inl z)))
      · exact .inr (.inl (.inl z))
      · exact (no_own z).elim
    have hA3 : ∀ a, AR ρ (ZO Z (sl1.map keepS) σ') a → AR ρ (ZO Z sl σ) a := fun a z => by
      rcases z with z | z | z
      · exact .inl z
      · exact .inr (.inl z)
      · exact (no_own z).elim
    have keepH : ∀ a o, ¬ AR ρ (ZO Z sl σ) a → H a = some o → H' a = some o := fun a o hn ho => f'.keep a o (fun z => hn ((hW a z).imp id .inr)) ho
    refine q σ' ρ H' ⟨⟨R.s.nd, R.s.len, fun i c a h1 h2 => ?_, fun a ha => R'.s.dom a (hA2 a ha), fun a ha z => z.elim (fun z => R.s.dis a ha (.inl z)) fun z => no_own z⟩, by rw [List.length_map]; exact R'.slen, fun i v hv => ?_, fun i xs hx => ?_, fun i j xs ys a h1 _ _ _ => ?_⟩ List.prefix_rfl ⟨fun a o hn ho => f'.keep a o (fun z => hn (hW a z)) ho, fun a z => .inl (z.elim .inl fun z => (no_own z).elim)⟩
    · by_cases hi : i < n
      · have h1' : (st.take n)[i]? = some c := by rw [List.getElem?_take, if_pos hi]; exact h1
        have h2' : (ρ.take n)[i]? = some a := by rw [List.getElem?_take, if_pos hi]; exact h2
        obtain ⟨k, hk, rfl⟩ := tbs_at e0 h1'
        have hl1 : i < st1.length := Nat.lt_of_lt_of_le hi ht.2
        have hs1 : (st1.take n)[i]? = some st1[i] := by rw [List.getElem?_take, if_pos hi, List.getElem?_eq_getElem hl1]
        obtain ⟨k', hk', ek⟩ := tbs_at ht.1 hs1
        rw [hk] at hk'
        cases hk'
        have hp : ρ'[i]? = some a := by
          obtain ⟨tt, rfl⟩ := p'
          rw [List.getElem?_append_left (List.getElem?_eq_some_iff.mp h2').1]
          exact h2'
        have hc := R'.s.cells i (.tb k) a (by rw [List.getElem?_eq_getElem hl1, ek]) hp
        obtain ⟨c1, ps, c2, c3, c4⟩ := hc
        refine ⟨c1, ps, c2, c3, fun pos cv hcv => ?_⟩
        obtain ⟨b, b1, b2, b3⟩ := c4 pos cv hcv
        exact ⟨b, b1, fun z => b2 (hA2 b z), b3⟩
      · have ha : a ∈ ρ.drop n := by
          have : (ρ.drop n)[i - n]? = some a := by rw [List.getElem?_drop, Nat.add_sub_cancel' (by omega)]; exact h2
          exact List.mem_of_getElem? this
        have hna : ¬ WO (ρ.take n) (sl.map keepS) σ a := fun z => z.elim (fun z => hapart a z ha) no_own
        have same : H' a = H a := by
          cases ho : H a with
          | none => exact absurd ho (R.s.dom a (.inl (hsub2 a ha)))
          | some o => exact f'.keep a o hna ho
        exact (R.s.cells i c a h1 h2).mono ⟨keepH, fun b z => .inl (hA3 b z)⟩ List.prefix_rfl same
    · obtain ⟨s, hs, hk⟩ := map_keep hv
      obtain ⟨rfl, hn⟩ := keep_val hk
      obtain ⟨u, h1, h2⟩ := R'.slots i v hs
      obtain ⟨d, hd⟩ := Option.isSome_iff_exists.mp hn
      exact ⟨u, h1, rep_noref hA2 deep hd h2⟩
    · obtain ⟨s, _, hk⟩ := map_keep hx
      exact (keep_own hk).elim
    · obtain ⟨s, _, hk⟩ := map_keep h1
      exact (keep_own hk).elim
  · cases e⟩
theorem sss_alone {X : Cx} {ss : List Stmt} {t : TS} {f : S} (n : Nat) (h : SSs X K cls ss t f) : SSs X K cls ss t (sAlone n f) := ⟨h.1, s_alone h.2⟩
end
end Mi

set_option Elab.async false
set_option linter.all false
set_option maxRecDepth 100000
set_option maxHeartbeats 2000000
/-! Mi: the law that makes lambdas, called where nothing is being shown. -/
namespace Mi
open PySem PySem.Spec PyProof.Rows L2 LamX NdefX

/-- which places are tables -/
def isTab (cs : List (Addr × Addr)) (b : Addr) : Prop := ∃ p ∈ cs, p.2 = b
/-- what the walk is told of at first: the script, unless it is the module's own, and the tables -/
structure Told (K : PySem.W.Frag) (P : Program) (w : World) (cs : List (Addr × Addr)) (a : Addr) (ns : List Int) (h : Heap) (H : Hp) : Prop where
  tab : ∀ p ∈ cs, H p.2 = some (.tbl #[])
  only : ∀ b, H b = none ∨ isTab cs b ∨ ∃ o xs, H b = some (.frz o (.lst xs))
  scr : SqL K H a (ns.map V.int)
  ok : HOk P w H h
  dom : ∀ b, H b ≠ none → b = a ∨ isTab cs b
  out : H a ≠ none → K.lookup a = none
section
variable {P : Program} {w : World} {K : PySem.W.Frag} {mg mb : Str → Option Value} {a : Addr} {cs : List (Addr × Addr)} {s₁ : Shared} {vs : List Value} {ns : List Int}
open Classical in
theorem told_of (KX : K.In s₁.heap) (tabs : ∀ p ∈ cs, s₁.heap.get? p.2 = some { cls := .none, data := .fields #[] }) (scr : s₁.heap.get? a = some { cls := .type "list", data := .seq vs.toArray }) (hi : IntsAre vs ns) (hl : ns.length ≤ sizeLine) : ∃ H, Told K P w cs a ns s₁.heap H := by
  have rv := vals_ints hi
  have atT : ∀ b, isTab cs b → s₁.heap.get? b = some { cls := .none, data := .fields #[] } := fun b ⟨p, hp, e⟩ => e ▸ tabs p hp
  have notT : ¬ isTab cs a := fun z => by
    have q := (atT a z).symm.trans scr
    cases q
  by_cases hk : ∃ o, K.lookup a = some o
  · obtain ⟨o, hk⟩ := hk
    obtain rfl : o = { cls := .type "list", data := .seq vs.toArray } := Option.some.inj ((KX a o hk).symm.trans scr)
    refine ⟨fun b => if isTab cs b then some (.tbl #[]) else none, fun p hp => if_pos ⟨p, hp, rfl⟩, fun b => ?_, .inr ⟨_, vs.toArray, _, hk, rfl, rfl, rfl, by rw [List.size_toArray, hi.length]; exact hl, by simpa using rv⟩, fun b u z => ?_, fun b z => ?_, fun z => absurd (if_neg notT) z⟩
    · by_cases q : isTab cs b
      · exact .inr (.inl q)
      · exact .inl (if_neg q)
    · by_cases q : isTab cs b
      · cases (if_pos q).symm.trans z
        exact atT b q
      · cases (if_neg q).symm.trans z
    · by_cases q : isTab cs b
      · exact .inr q
      · exact absurd (if_neg q) z
  · have hk : K.lookup a = none := by
      cases e : K.lookup a with
      | none => rfl
      | some o => exact absurd ⟨o, e⟩ hk
    let G : Hp := fun b => if b = a then some (.frz { cls := .type "list", data := .seq vs.toArray } (.lst (ns.map V.int))) else if isTab cs b then some (.tbl #[]) else none
    have Ga : G a = some (.frz { cls := .type "list", data := .seq vs.toArray } (.lst (ns.map V.int))) := if_pos rfl
    have Gt : ∀ b, b ≠ a → isTab cs b → G b = some (.tbl #[]) := fun b n q => (if_neg n).trans (if_pos q)
    have Gn : ∀ b, b ≠ a → ¬ isTab cs b → G b = none := fun b n q => (if_neg n).trans (if_neg q)
    refine ⟨G, fun p hp => Gt _ (fun z => notT ⟨p, hp, z⟩) ⟨p, hp, rfl⟩, fun b => ?_, .inl (.inr ⟨_, Ga⟩), fun b u z => ?_, fun b z => ?_, fun _ => hk⟩
    · by_cases e : b = a
      · exact .inr (.inr ⟨_, _, e ▸ Ga⟩)
      · by_cases q : isTab cs b
        · exact .inr (.inl q)
        · exact .inl (Gn b e q)
    · by_cases e : b = a
      · subst e
        cases Ga.symm.trans z
        exact ⟨scr, by rw [List.length_map]; exact hl, vs, _, rv, scr⟩
      · by_cases q : isTab cs b
        · cases (Gt b e q).symm.trans z
          exact atT b q
        · cases (Gn b e q).symm.trans z
    · by_cases e : b = a
      · exact .inl e
      · by_cases q : isTab cs b
        · exact .inr q
        · exact absurd (Gn b e q) z
/-- what is not told of stands in the base -/
theorem Told.base {H : Hp} (t : Told K P w cs a ns s₁.heap H) (tabs : ∀ p ∈ cs, s₁.heap.get? p.2 = some { cls := .none, data := .fields #[] }) (scr : s₁.heap.get? a = some { cls := .type "list", data := .seq vs.toArray }) {b : Addr} {o : Obj} (e : s₁.heap.get? b = some o) (h1 : ∀ xs n, o.data ≠ .seq xs n) (h2 : o.data ≠ .fields #[]) : (hidT s₁.heap H).get? b = some o := hidT_get e (by
  cases q : H b with
  | none => rfl
  | some u =>
    rcases t.dom b (by rw [q]; exact fun z => nomatch z) with z | ⟨p, hp, z⟩
    · subst z
      cases scr.symm.trans e
      exact (h1 _ _ rfl).elim
    · subst z
      cases (tabs p hp).symm.trans e
      exact (h2 rfl).elim)
theorem law_callTG {k : Nat} {fa : Addr} {fd : FuncData} {x : Str} {sp : Sp} (KX : K.In s₁.heap) (hns : s₁.heap.Ns mainGlobals mg) (hb : s₁.heap.Ns builtinsNs mb) (hbb : ∀ x : Str, x ≠ "__name__" → mb x = bootBuiltins x) (hlim : s₁.heap.NoLimit) (hg : s₁.gens = #[])
    (tabs : ∀ p ∈ cs, s₁.heap.get? p.2 = some { cls := .none, data := .fields #[] }) (nT : ∀ p ∈ cs, K.lookup p.2 = none) (heads : ∀ p ∈ cs, PySem.W.CodeHd s₁.heap p.1 p.2)
    (hbm : ∃ (bm : Addr) (ob : Obj), mg "__builtins__" = some (.ref bm) ∧ bm ≠ builtinsNs ∧ s₁.heap.get? bm = some ob ∧ ob.cls = .type "module" ∧ ob.dict = some builtinsNs ∧ ob.data = .plain)
    (scr : s₁.heap.get? a = some { cls := .type "list", data := .seq vs.toArray }) (hi : IntsAre vs ns) (hl : ns.length ≤ sizeLine) (hr : Room k callerA)
    (F : ∀ base : Heap, K.In base → base.Ns mainGlobals mg → (∀ p ∈ cs, TabB base mg p.1 p.2) → FnG P w K mg base k fa fd [x] sp) (hbind : ∀ (s : Shared) (u : Value), BindsTo s fd ⟨[u], []⟩ [(x, u)])
    (hsp : ∀ H : Hp, (∀ p ∈ cs, H p.2 = some (.tbl #[])) → SqL K H a (ns.map V.int) → sp [.ref a] H (fun v _ => v = .bl true) fun _ _ _ => False) :
    codeAny (model P w) callerA (.call (.ref fa) ⟨[.ref a], []⟩) (fun r s' => r = .ok (.ret (.bool true)) ∧ PySem.OldK s₁.heap s'.heap ∧ s'.os = s₁.os ∧ AllBare s'.gens) s₁ := by
  obtain ⟨H, t⟩ := told_of (P := P) (w := w) KX tabs scr hi hl
  have bs := fun {b : Addr} {o : Obj} => t.base (b := b) (o := o) tabs scr
  have nsB : ∀ {b : Addr} {m : Str → Option Value}, s₁.heap.Ns b m → (hidT s₁.heap H).Ns b m := fun ⟨o, es, ep, e, d, r⟩ => ⟨o, es, ep, bs e (fun xs n z => by rw [d] at z; cases z) (fun z => by rw [d] at z; cases z), d, r⟩
  have inB : K.In (hidT s₁.heap H) := fun b o e => hidT_get (KX b o e) (by
    cases q : H b with
    | none => rfl
    | some u =>
      rcases t.dom b (by rw [q]; exact fun z => nomatch z) with z | ⟨p, hp, z⟩
      · subst z
        have := t.out (by rw [q]; exact fun z => nomatch z)
        rw [this] at e
        cases e
      · subst z
        rw [nT p hp] at e
        cases e)
  have md : L2.Mod K mg (hidT s₁.heap H) := ⟨inB, nsB hns, ⟨mb, nsB hb, hbb⟩, hlim.imp fun mc z => ⟨nsB z.1, z.2⟩⟩
  have gP : ∀ p ∈ cs, mainGlobals ≠ p.2 := fun p hp z => by
    obtain ⟨o, es, ep, e, d, _⟩ := hns
    rw [z] at e
    cases (tabs p hp).symm.trans e
    cases d
  have tB : ∀ p ∈ cs, TabB (hidT s₁.heap H) mg p.1 p.2 := fun p hp => by
    refine ⟨?_, ?_, gP p hp⟩
    · obtain ⟨o, us, file, tf, flags, tg, inF, text, tt, e1, r1, r2, r3, r⟩ := heads p hp
      refine ⟨o, us, file, tf, flags, tg, inF, text, tt, bs e1 (fun xs n z => ?_) (fun z => ?_), r1, r2, r3, r⟩
      · rw [r2] at z
        cases z
      · rw [r2] at z
        cases z
        simp at r3
    · obtain ⟨bm, ob, b1, b2, b3, b4, b5, b6⟩ := hbm
      refine ⟨bm, ob, b1, b2, fun z => ?_, fun z => ?_, bs b3 (fun xs n z => by rw [b6] at z; cases z) (fun z => by rw [b6] at z; cases z), b4, b5, b6⟩
      · obtain ⟨o, es, ep, e, d, _⟩ := hns
        rw [z] at b3
        cases b3.symm.trans e
        cases b6.symm.trans d
      · rw [z] at b3
        cases (tabs p hp).symm.trans b3
        cases b6
  have env : Env0 P w K mg (hidT s₁.heap H) callerA [] s₁ H := ⟨rfl, md, fun b o e => of_hidT e, Nat.le_of_eq (hidT_size _ _), trivial, fun b hb => absurd (show b ∈ ([] : List Addr) from hb) (by simp), t.ok, .of_eq hg⟩
  have Fn := F _ inB (nsB hns) tB
  refine codeAny_mono (Fn.run callerA [] s₁ H ⟨[.ref a], []⟩ [.ref a] [.ref a] _ _ rfl hr env (hbind s₁ (.ref a)) (.cons rfl .nil) (hsp H t.tab t.scr)) fun r s' h => ?_
  cases r with
  | error e => exact False.elim h
  | ok fl =>
    cases fl with
    | next => exact False.elim h
    | brk => exact False.elim h
    | cont => exact False.elim h
    | ret u =>
      obtain ⟨v, H', os, bare, un, ok', r', q⟩ := h
      obtain rfl : v = V.bl true := q
      obtain rfl : u = Value.bool true := r'
      have same : ∀ b o, ¬ isTab cs b → s₁.heap.get? b = some o → s'.heap.get? b = some o := fun b o nb e => by
        rcases t.only b with z | z | ⟨ob, xs, z⟩
        · exact un.keep b o e z (by intro z; exact absurd (show b ∈ ([] : List Addr) from z) (by simp)) (by simp)
        · exact absurd z nb
        · obtain ⟨e1, _⟩ := t.ok b _ z
          obtain ⟨e2, _⟩ := ok' b _ (un.frzs b ob _ z)
          cases e.symm.trans e1
          exact e2
      have more : ∀ p ∈ cs, ∃ ps : Array Value, s'.heap.get? p.2 = some { cls := .none, data := .fields ps } := fun p hp => (un.tbls p.2 #[] (t.tab p hp)).elim fun ps z => ⟨_, ok' p.2 _ z⟩
      refine ⟨rfl, ⟨fun b o e => ?_, fun b o e => ?_⟩, os, bare⟩
      · by_cases q : isTab cs b
        · obtain ⟨p, hp, rfl⟩ := q
          obtain ⟨ps, hm⟩ := more p hp
          cases (tabs p hp).symm.trans e
          exact .inr (.inl ⟨((heads p hp).tab (tabs p hp)).isCodeTable, rfl, #[], ps, rfl, by rw [Array.empty_append]; exact hm⟩)
        · exact .inl (same b o q e)
      · by_cases q : isTab cs b
        · obtain ⟨p, hp, rfl⟩ := q
          exact (more p hp).elim fun ps z => ⟨_, z⟩
        · exact ⟨o, same b o q e⟩
end
theorem walk_ofTG {l : PySem.W.OpenLaw} {n k : Nat} {q : Program} {loose : List Str} {XP : (Str → Option Value) → Heap → Prop} {YP : World → Heap → Prop} {d : DefRec} {K : Params → PySem.W.Frag} {x : Str}
    (hn : l.most = some n) (hn2 : n ≤ sizeLine) (hdf : d.params.defaults = []) (hr : Room k callerA) (hY : ∀ (w : World) (h : Heap), YP w h → (K w.params).In h)
    (F : ∀ (w : World) (mg : Str → Option Value) (fa : Addr) (h : Heap), YP w h → (K w.params).In h → h.Ns mainGlobals mg → mg d.name = some (.ref fa) →
      ∃ (fd : FuncData) (cs : List (Addr × Addr)) (sp : Sp), (∀ p ∈ cs, h.get? p.2 = some { cls := .none, data := .fields #[] }) ∧ (∀ p ∈ cs, (K w.params).lookup p.2 = none) ∧ (∀ p ∈ cs, PySem.W.CodeHd h p.1 p.2) ∧ (∀ (s : Shared) (u : Value), BindsTo s fd ⟨[u], []⟩ [(x, u)]) ∧
        (∀ (H : Hp) (a : Addr) (ns : List Int), ns.length ≤ n → (∀ p ∈ cs, H p.2 = some (.tbl #[])) → SqL (K w.params) H a (ns.map V.int) → sp [.ref a] H (fun v _ => v = .bl true) fun _ _ _ => False) ∧
        ∀ base : Heap, (K w.params).In base → base.Ns mainGlobals mg → (∀ p ∈ cs, TabB base mg p.1 p.2) → FnG l.prog w (K w.params) mg base k fa fd [x] sp) :
    PySem.W.WalkO q loose XP YP l.row.toRowW d [] (fun f vs => PySem.call f vs) := by
  refine Att.attach_callB hn hdf fun w s₀ s₁ mg mb fa o pm cd doc a vs ns G Y ho hd hcd hmg hobj hints hlen hbits hg => ?_
  have kin := hY w _ Y
  obtain ⟨fd, cs, sp, h1, h2, h3, h4, h5, h6⟩ := F w mg fa _ Y kin G.T.g hmg
  exact law_callTG kin G.T.g G.T.b G.T.builtins G.T.nolimit hg h1 h2 h3 G.T.bmain hobj hints (Nat.le_trans hlen hn2) hr h6 h4 fun H a1 a2 => h5 H a ns hlen a1 a2
/-- nothing is promised -/
theorem fnOk_none [Gam] {P : Program} {w : World} {K : PySem.W.Frag} {cls : Nat → Addr} {mg : Str → Option Value} {base : Heap} {CX : CXT} {k : Nat} {f : Addr} {fd : FuncData} {ps : List Str} : FnOk P w K mg base CX k f fd ps (spM K cls fun _ _ => none) :=
  ⟨fun vs H Q E h => (by obtain ⟨_, _, _, _, _, _, _, _, e, _⟩ := h; cases e), fun A outer s H args us vs Q E _ _ _ _ h => (by obtain ⟨_, _, _, _, _, _, _, _, e, _⟩ := h; cases e)⟩
end Mi

set_option Elab.async false
set_option linter.all false
set_option maxRecDepth 100000
set_option maxHeartbeats 1000000
/-! Mi: a call, a statement whose new places are let go: what it leaves names the old ones alone. -/
namespace Mi
open PySem PySem.Spec PyProof.Rows L2
/-- .. names places below n alone -/
def lowV (n : Nat) : Nat → Val → Bool
  | _, .non => true
  | _, .bl _ => true
  | _, .int _ => true
  | _, .str _ => true
  | _, .ref m => Nat.blt m n
  | 0, _ => false
  | k + 1, .lst xs => xs.all (lowV n k)
  | k + 1, .tup xs => xs.all (lowV n k)
  | k + 1, .fn _ cs => cs.all (lowV n k)
def lowC (n : Nat) : Cell → Bool
  | .lst xs => xs.all (lowV n 20)
  | .ins _ vs => vs.all (lowV n 20)
  | .dk kvs => (kvs.map (·.2)).all (lowV n 20)
  | .dt kvs => (kvs.map (·.2)).all (lowV n 20)
  | .tb _ => true
def cutS (n : Nat) (st : Sto) : Option Sto := if (st.take n).all (lowC n) = true then some (st.take n) else none
def keepF (f : F) : F := fun vs st => (f vs st).bind fun p => if lowV st.length 20 p.1 = true then (cutS st.length p.2).map fun s => (p.1, s) else none
def keepL (n : Nat) : Slot → Slot
  | .val v => if lowV n 20 v = true then .val v else .no
  | _ => .no
def sKeep (f : S) : S := fun sl st => (f sl st).bind fun r => match r with
  | (.nx, sl1, st1) => (cutS st.length st1).map fun s => (.nx, sl1.map (keepL st.length), s)
  | (.rt v, sl1, st1) => if lowV st.length 20 v = true then (cutS st.length st1).map fun s => (.rt v, sl1, s) else none
  | _ => none
theorem keepL_of {n : Nat} {w : Val} : keepL n (.val w) = if lowV n 20 w = true then .val w else .no := rfl
theorem keepL_own {n : Nat} {s : Slot} {xs : List Val} (h : keepL n s = .own xs) : False := by
  cases s with
  | val w =>
    rw [keepL_of] at h
    by_cases hn : lowV n 20 w = true
    · rw [if_pos hn] at h
      cases h
    · rw [if_neg hn] at h
      cases h
  | no => cases h
  | own xs => cases h
theorem keepL_val {n : Nat} {s : Slot} {v : Val} (h : keepL n s = .val v) : s = .val v ∧ lowV n 20 v = true := by
  cases s with
  | val w =>
    rw [keepL_of] at h
    by_cases hn : lowV n 20 w = true
    · rw [if_pos hn] at h
      cases h
      exact ⟨rfl, hn⟩
    · rw [if_neg hn] at h
      cases h
  | no => cases h
  | own xs => cases h
theorem keepL_map {n : Nat} {sl : Sl} {i : Nat} {xs : List Val} (h : (sl.map (keepL n))[i]? = some (.own xs)) : False := by
  rw [List.getElem?_map] at h
  obtain ⟨s, _, hs⟩ := Option.map_eq_some_iff.mp h
  exact keepL_own hs
variable [Gam]
section
variable {K : PySem.W.Frag} {cls : Nat → Addr} {ρ ρ' : List Addr} {Z Z' : Addr → Prop} {σ σ' : L2.St} {H H' : Hp} {sl : Sl} {st st' : Sto} {A A' : Addr → Prop}
theorem repL_low {n k : Nat} (ih : ∀ {x : Val} {u : V}, lowV n k x = true → Rep K ρ' A' H x u → Rep K ρ A H x u) : ∀ {xs : List Val} {us : List V}, xs.all (lowV n k) = true → RepL K ρ' A' H xs us → RepL K ρ A H xs us
  | [], us, _, r => by cases r; exact .nil
  | x :: xs, us, e, r => by
    cases r with
    | cons r rs =>
      rw [List.all_cons, Bool.and_eq_true] at e
      exact .cons (ih e.1 r) (repL_low ih e.2 rs)
theorem low_ref (hp : ρ <+: ρ') {m : Nat} {a : Addr} (h : Nat.blt m ρ.length = true) (e : ρ'[m]? = some a) : ρ[m]? = some a := by
  obtain ⟨t, rfl⟩ := hp
  have hl : m < ρ.length := by
    unfold Nat.blt at h
    exact Nat.le_of_ble_eq_true h
  rw [List.getElem?_append_left hl] at e
  exact e
theorem rep_low (hp : ρ <+: ρ') (hA : ∀ a, A a → A' a) : ∀ (k : Nat) {x : Val} {u : V}, lowV ρ.length k x = true → Rep K ρ' A' H x u → Rep K ρ A H x u
  | 0, x, u, e, r => by
    cases r with
    | non => exact .non
    | bl b => exact .bl b
    | int i => exact .int i
    | str i => exact .str i
    | fn _ _ _ => cases e
    | ref h => exact .ref (low_ref hp (by simpa [lowV] using e) h)
    | lst _ _ => cases e
    | tup _ _ => cases e
  | k + 1, x, u, e, r => by
    cases r with
    | non => exact .non
    | bl b => exact .bl b
    | int i => exact .int i
    | str i => exact .str i
    | ref h => exact .ref (low_ref hp (by simpa [lowV] using e) h)
    | fn h1 h2 r => exact .fn h1 (fun p hp => ⟨fun z => (h2 p hp).1 (hA _ z), (h2 p hp).2⟩) (repL_low (rep_low hp hA k) e r)
    | lst h r => exact .lst (h.imp (fun h => ⟨fun z => h.1 (hA _ z), h.2⟩) id) (repL_low (rep_low hp hA k) e r)
    | tup h r => exact .tup (h.imp (fun h => ⟨fun z => h.1 (hA _ z), h.2⟩) id) (repL_low (rep_low hp hA k) e r)
theorem repC_low (hp : ρ <+: ρ') (hA : ∀ a, A a → A' a) {a : Addr} {c : Cell} (e : lowC ρ.length c = true) (r : RepC K cls ρ' A' H a c) : RepC K cls ρ A H a c := by
  cases c with
  | lst xs => obtain ⟨us, h, r⟩ := r; exact ⟨us, h, repL_low (rep_low hp hA 20) e r⟩
  | ins C vs => obtain ⟨dx, us, h, l, r⟩ := r; exact ⟨dx, us, h, l, repL_low (rep_low hp hA 20) e r⟩
  | dk kvs => obtain ⟨us, h, l, r⟩ := r; exact ⟨us, h, l, repL_low (rep_low hp hA 20) e r⟩
  | dt kvs => obtain ⟨us, h, l, r⟩ := r; exact ⟨us, h, l, repL_low (rep_low hp hA 20) e r⟩
  | tb k =>
    obtain ⟨e0, ps, h, t, n⟩ := r
    refine ⟨e0, ps, h, t, fun pos cv hc => ?_⟩
    obtain ⟨c, e1, e2, e3⟩ := n pos cv hc
    exact ⟨c, e1, fun z => e2 (hA _ z), e3⟩
theorem relR_cut {s : Sto} (R : RelR K cls ρ Z H st) (R' : RelR K cls ρ' Z' H' st') (hZ : ∀ a, Z' a ↔ Z a) (hp : ρ <+: ρ') (e : cutS st.length st' = some s) : RelR K cls ρ Z H' s := by
  unfold cutS at e
  split at e
  · rename_i ha
    cases e
    have hl : st.length ≤ st'.length := by rw [← R.len, ← R'.len]; exact hp.length_le
    have hA : ∀ a, AR ρ Z a → AR ρ' Z' a := fun a z => z.imp (fun z => hp.mem z) fun z => (hZ a).mpr z
    refine ⟨R.nd, by rw [R.len, List.length_take]; omega, fun n c a h1 h2 => ?_, fun a h => R'.dom a (hA a h), R.dis⟩
    have hn : n < st.length := by rw [← R.len]; exact (List.getElem?_eq_some_iff.mp h2).1
    have hm : c ∈ st'.take st.length := List.mem_of_getElem? h1
    rw [List.getElem?_take, if_pos hn] at h1
    have h3 : ρ'[n]? = some a := by
      obtain ⟨t, rfl⟩ := hp
      rw [List.getElem?_append_left (by rw [R.len]; exact hn)]
      exact h2
    have hc : lowC ρ.length c = true := by rw [R.len]; exact List.all_eq_true.mp ha c hm
    exact repC_low hp hA hc (R'.cells n c a h1 h3)
  · cases e
theorem spM_keep {f : F} {vs : List V} {Q : VK} {E : XK} (h : spM K cls (keepF f) vs H Q E) : spM K cls f vs H Q E := by
  obtain ⟨ρ, Z, ds, st, d, st', R, r, e, q⟩ := h
  obtain ⟨p, e1, e⟩ := bind_some e
  split at e
  · rename_i hv
    obtain ⟨s, e2, e3⟩ := Option.map_eq_some_iff.mp e
    cases e3
    refine ⟨ρ, Z, ds, st, p.1, p.2, R, r, e1, fun u ρ' H' R' x' r' => q u ρ H' (relR_cut R R' (fun _ => .rfl) x'.pre e2) ⟨List.prefix_rfl, ⟨x'.fr.keep, fun a w => .inl w⟩⟩ ?_⟩
    exact rep_low x'.pre (fun a z => z.imp (fun z => x'.pre.mem z) id) 20 (by rw [R.len]; exact hv) r'
  · cases e
theorem fn_keep {P : Program} {w : World} {mg : Str → Option Value} {base : Heap} {k : Nat} {f : Addr} {fd : FuncData} {ps : List Str} {m : F} (h : FnG P w K mg base k f fd ps (spM K cls m)) : FnG P w K mg base k f fd ps (spM K cls (keepF m)) := h.imp fun _ _ _ _ q => spM_keep q
theorem fn_keepO {P : Program} {w : World} {mg : Str → Option Value} {base : Heap} {CX : CXT} {k : Nat} {f : Addr} {fd : FuncData} {ps : List Str} {m : F} (h : FnOk P w K mg base CX k f fd ps (spM K cls m)) : FnOk P w K mg base CX k f fd ps (spM K cls (keepF m)) := h.imp fun _ _ _ _ q => spM_keep q
theorem s_keep {t : TS} {f : S} (h : SndS K cls t f) : SndS K cls t (sKeep f) := ⟨fun ρ Z σ H sl st r R e D q => by
  obtain ⟨⟨o, sl1, st1⟩, e1, e⟩ := bind_some e
  cases o with
  | bk => cases e
  | ct => cases e
  | rt v =>
    have e : (if lowV st.length 20 v = true then (cutS st.length st1).map fun s => (Out.rt v, sl1, s) else none) = some r := e
    split at e
    · rename_i hv
      obtain ⟨s, e2, e3⟩ := Option.map_eq_some_iff.mp e
      cases e3
      refine h.run ρ Z σ H sl st _ R e1 D fun u ρ' H' R' p' f' r' => ?_
      have hA : ∀ a, AR ρ Z a → AR ρ' Z a := fun a z => z.imp (fun z => p'.mem z) id
      have R0 : RelR K cls ρ Z H' s := by
        refine relR_cut (Z := Z) ⟨R.s.nd, R.s.len, fun n c a h1 h2 => ?_, fun a h => R.s.dom a (h.imp id .inl), fun a ha z => R.s.dis a ha (.inl z)⟩ R' (fun _ => .rfl) p' e2
        exact (R.s.cells n c a h1 h2).mono (Fr.less fun a z => z.imp id .inl) List.prefix_rfl rfl
      exact q u ρ H' R0 List.prefix_rfl ⟨f'.keep, fun a z => .inl (.inl z)⟩ (rep_low p' hA 20 (by rw [R.s.len]; exact hv) r')
    · cases e
  | nx =>
    have e : ((cutS st.length st1).map fun s => (Out.nx, sl1.map (keepL st.length), s)) = some r := e
    obtain ⟨s, e2, e3⟩ := Option.map_eq_some_iff.mp e
    cases e3
    refine h.run ρ Z σ H sl st _ R e1 D fun σ' ρ' H' R' p' f' => ?_
    have no : ∀ a, ¬ Own (sl1.map (keepL st.length)) σ' a := fun a ⟨i, xs, h1, _⟩ => keepL_map h1
    have hA : ∀ a, AR ρ (ZO Z (sl1.map (keepL st.length)) σ') a → AR ρ' (ZO Z sl1 σ') a := fun a z => by
      rcases z with z | z | z
      · exact .inl (p'.mem z)
      · exact .inr (.inl z)
      · exact (no a z).elim
    have hA0 : ∀ a, AR ρ (ZO Z (sl1.map (keepL st.length)) σ') a → AR ρ (ZO Z sl σ) a := fun a z => by
      rcases z with z | z | z
      · exact .inl z
      · exact .inr (.inl z)
      · exact (no a z).elim
    refine q σ' ρ H' ⟨?_, by rw [List.length_map]; exact R'.slen, fun i v hv => ?_, fun i xs hx => ?_, fun i j xs ys a h1 _ h3 _ => ?_⟩ List.prefix_rfl ⟨f'.keep, fun a z => .inl (z.elim .inl fun z => (no a z).elim)⟩
    · have R0 : RelR K cls ρ (ZO Z (sl1.map (keepL st.length)) σ') H st := ⟨R.s.nd, R.s.len, fun n c a h1 h2 => (R.s.cells n c a h1 h2).mono (Fr.less fun a z => hA0 a z) List.prefix_rfl rfl, fun a h => R.s.dom a (hA0 a h), fun a ha z => R.s.dis a ha (z.elim .inl fun z => (no a z).elim)⟩
      have R1 : RelR K cls ρ' (ZO Z (sl1.map (keepL st.length)) σ') H' st1 := ⟨R'.s.nd, R'.s.len, fun n c a h1 h2 => (R'.s.cells n c a h1 h2).mono (Fr.less fun a z => z.imp id fun z => z.elim .inl fun z => (no a z).elim) List.prefix_rfl rfl, fun a h => R'.s.dom a (h.imp id fun z => z.elim .inl fun z => (no a z).elim), fun a ha z => R'.s.dis a ha (z.elim .inl fun z => (no a z).elim)⟩
      exact relR_cut R0 R1 (fun _ => .rfl) p' e2
    · rw [List.getElem?_map] at hv
      obtain ⟨s', hs, hk⟩ := Option.map_eq_some_iff.mp hv
      obtain ⟨rfl, hl⟩ := keepL_val hk
      obtain ⟨u, h1, h2⟩ := R'.slots i v hs
      exact ⟨u, h1, rep_low p' hA 20 (by rw [R.s.len]; exact hl) h2⟩
    · exact (keepL_map hx).elim
    · exact (no a ⟨i, xs, h1, h3⟩).elim⟩
end
section
variable {X : Cx} {K : PySem.W.Frag} [hK : KX X K] {cls : Nat → Addr} {s1 s2 : Stmt} {ss : List Stmt} {t1 t2 t3 : TS} {f1 f2 f3 : S}
theorem ss_keep (h : SS X K cls s1 t1 f1) : SS X K cls s1 t1 (sKeep f1) := ⟨h.1, s_keep h.2⟩
theorem sss_k1 (h1 : SS X K cls s1 t1 f1) (h2 : SSs X K cls ss t2 f2) : SSs X K cls (s1 :: ss) (tSeq t1 t2) (sSeq (sKeep f1) f2) := sss_c (ss_keep h1) h2
theorem sss_k2 (h1 : SS X K cls s1 t1 f1) (h2 : SS X K cls s2 t2 f2) (h3 : SSs X K cls ss t3 f3) : SSs X K cls (s1 :: s2 :: ss) (tSeq t1 (tSeq t2 t3)) (sSeq (sKeep (sSeq f1 f2)) f3) := by
  obtain ⟨rfl⟩ := hK
  exact ⟨pss_cons h1.1 (pss_cons h2.1 h3.1), s_seq (t := tSeq t1 t2) (s_keep (s_seq h1.2 h2.2)) h3.2⟩
end
/-! evaluation, statement by statement -/
theorem seq_nx {a b : S} {sl sl1 : Sl} {st st1 : Sto} (h : a sl st = some (.nx, sl1, st1)) : sSeq a b sl st = b sl1 st1 := by
  show (a sl st).bind _ = _
  rw [h]
  rfl
end Mi

set_option Elab.async false
set_option linter.all false
set_option maxRecDepth 100000
set_option maxHeartbeats 4000000
namespace Mi
open PySem PySem.Spec PyProof.Rows L2 LamX NdefX
def excD (c : Nat) : Bool := Nat.ble 20 c && Nat.ble c 29
def own_law : OwnT := fun i => if i = 0 then some [4] else if i = 1 then some [4] else if i = 2 then some [] else if i = 3 then some [4] else if i = 4 then some [4, 5] else if i = 5 then some [4, 6] else if i = 6 then some [7] else if i = 7 then some [] else if i = 8 then some [] else if i = 9 then some [] else if i = 10 then some [] else none
def b_is_whole : S :=
  sRet (eAnd (e1 (oIsi 0) (eVar 0)) (eNot (e1 (oIsi 1) (eVar 0))))
def m_is_whole : F := fnOf 1 1 b_is_whole
def b_is_between : S :=
  sRet (eAnd (eCall m_is_whole (aCons (eVar 0) (aNil))) (eCh oLe oLe (eVar 1) (eVar 0) (eVar 2)))
def m_is_between : F := fnOf 3 3 b_is_between
def b_are_rising : S :=
  sRet (eAll (lComp (iZip (eVar 0) (eSl (eVar 0) (pS (eC (.int 1))) (pN))) [1, 2] (gTup 2 (gCons (gName 1) (gCons (gName 2) (gNil)))) (tTrue) (e2 oLt (eVar 1) (eVar 2))))
def m_are_rising : F := fnOf 1 3 b_are_rising
def b_are_boxes : S :=
  sSeq (sIf (tOr (tNot (tE (e1 (oIsi 3) (eVar 0)))) (tE (e2 oGt (e1 oLen (eVar 0)) (eVar 1)))) (sRet (eC (.bl false)))
  (sSkip))
  (sRet (eAnd (eAll (lComp (iSeq (eVar 0)) [2] (gName 2) (tTrue) (eCall m_is_between (aCons (eVar 2) (aCons (eC (.int 0)) (aCons (e2 oSub (eC (.int 8)) (eC (.int 1))) (aNil))))))) (eCall m_are_rising (aCons (eVar 0) (aNil)))))
def m_are_boxes : F := fnOf 2 3 b_are_boxes
def b_is_account : S :=
  sSeq (sIf (tOr (tNot (tE (e1 (oIsi 4) (eVar 0)))) (tE (e2 oNe (e1 oLen (eVar 0)) (eC (.int 2))))) (sRet (eC (.bl false)))
  (sSkip))
  (sRet (eAnd (eCall m_are_boxes (aCons (e2 oIx (eVar 0) (eC (.int 0))) (aCons (eC (.int 3)) (aNil)))) (eCall m_are_boxes (aCons (e2 oIx (eVar 0) (eC (.int 1))) (aCons (eC (.int 3)) (aNil))))))
def m_is_account : F := fnOf 1 1 b_is_account
def b_check_house : S :=
  sSeq (sIf (tOr (tNot (tE (e1 (oIsi 3) (eVar 0)))) (tNot (tE (eCh oLe oLe (eC (.int 1)) (e1 oLen (eVar 0)) (eC (.int 6)))))) (sFail)
  (sSkip))
  (sIf (tNot (tE (eAll (lComp (iSeq (eVar 0)) [1] (gName 1) (tTrue) (eCall m_is_account (aCons (eVar 1) (aNil))))))) (sFail)
  (sSkip))
def m_check_house : F := fnOf 1 2 b_check_house
def b_check_boxes : S :=
  sIf (tNot (tE (eCall m_are_boxes (aCons (eVar 0) (aCons (eC (.int 8)) (aNil)))))) (sFail)
  (sSkip)
def m_check_boxes : F := fnOf 1 1 b_check_boxes
def b_check_wanted : S :=
  sIf (tNot (tE (eCall m_is_between (aCons (eVar 1) (aCons (eC (.int 0)) (aCons (e2 oSub (e1 oLen (eVar 0)) (eC (.int 1))) (aNil))))))) (sFail)
  (sSkip)
def m_check_wanted : F := fnOf 2 2 b_check_wanted
def b_come_to : S :=
  sSeq (sParVO 3 4 (eD (lComp (iSeq (eVar 1)) [5] (gName 5) (tE (e2 oNin (eVar 5) (eVar 2))) (eVar 5))) (lDisp (aNil)))
  (sSeq (sAsg (eC (.bl true)) (gName 6))
  (sSeq (sWhile 20 (tE (eVar 6))
  (sSeq (sAsg (eC (.bl false)) (gName 6))
  (sFor (iEnum (eVar 0)) (gTup 2 (gCons (gName 7) (gCons (gTup 2 (gCons (gName 8) (gCons (gName 9) (gNil)))) (gNil))))
  (sIf (tAnd (tE (e2 oNin (eVar 7) (eVarO 4))) (tE (eAny (lComp (iSeq (eVar 8)) [5] (gName 5) (tTrue) (e2 oIn (eVar 5) (eVar 3)))))) (sSeq (sApp 4 (eVar 7))
  (sSeq (sAsg (e2 oAdd (eVar 3) (eD (lComp (iSeq (eVar 9)) [5] (gName 5) (tAnd (tE (e2 oNin (eVar 5) (eVar 3))) (tE (e2 oNin (eVar 5) (eVar 2)))) (eVar 5)))) (gName 3))
  (sAsg (eC (.bl true)) (gName 6))))
  (sSkip)))))
  (sRet (eTup (aCons (eD (l1 oSort (eVar 3))) (aCons (eVarO 4) (aNil)))))))
def m_come_to : F := fnOf 3 10 b_come_to
def b_Never___init__ : S :=
  sFld 5 0 (eVar 0) (eK (l1 oList (eVar 1)))
def m_Never___init__ : F := fnOf 2 2 b_Never___init__
def b_Way___init__ : S :=
  sFld 4 0 (eVar 0) (eK (l1 oList (eVar 1)))
def m_Way___init__ : F := fnOf 2 2 b_Way___init__
def b_way_in : S :=
  sSeq (sDrop (eCall m_check_house (aCons (eVar 0) (aNil))))
  (sSeq (sDrop (eCall m_check_boxes (aCons (eVar 1) (aNil))))
  (sSeq (sDrop (eCall m_check_wanted (aCons (eVar 0) (aCons (eVar 2) (aNil)))))
  (sSeq (sAsg (eCall m_come_to (aCons (eVar 0) (aCons (eVar 1) (aCons (eD (lDisp (aNil))) (aNil))))) (gTup 2 (gCons (gName 3) (gCons (gName 4) (gNil)))))
  (sSeq (sIf (tE (e2 oNin (eVar 2) (eVar 4))) (sRet (eNew 5 m_Never___init__ (aCons (eVar 3) (aNil))))
  (sSkip))
  (sRet (eNew 4 m_Way___init__ (aCons (eSl (eVar 4) (pN) (pS (e2 oAdd (eIndex (eVar 4) (eVar 2)) (eC (.int 1))))) (aNil))))))))
def m_way_in : F := fnOf 3 5 b_way_in
def b__law_deep (mm : F) : S :=
  sSeq (sIf (tE (e1 (oIsi 3) (eVar 0))) (sRet (eK (lComp (iSeq (eVar 0)) [1] (gName 1) (tTrue) (eCall mm (aCons (eVar 1) (aNil))))))
  (sSkip))
  (sRet (eIf (tE (e1 (oIsi 4) (eVar 0))) (eTupOf (lComp (iSeq (eVar 0)) [1] (gName 1) (tTrue) (eCall mm (aCons (eVar 1) (aNil))))) (eVar 0)))
def m__law_deep_ : Nat → F
  | 0 => fun _ _ => none
  | n + 1 => fnOf 1 2 (b__law_deep (m__law_deep_ n))
def m__law_deep : F := m__law_deep_ 6
def b_Way_shows : S :=
  sSeq (sAsg (eD (l1 oList (eVar 2))) (gName 4))
  (sSeq (sFor (iSeq (e1 (oFld 4 0) (eVar 0))) (gName 5)
  (sSeq (sIf (tOr (tNot (tE (eCh oLe oLt (eC (.int 0)) (eVar 5) (e1 oLen (eVar 1))))) (tNot (tE (eAny (lComp (iSeq (e2 oIx (e2 oIx (eVar 1) (eVar 5)) (eC (.int 0)))) [6] (gName 6) (tTrue) (e2 oIn (eVar 6) (eVar 4))))))) (sRet (eC (.bl false)))
  (sSkip))
  (sAsg (e2 oAdd (eVar 4) (e2 oIx (e2 oIx (eVar 1) (eVar 5)) (eC (.int 1)))) (gName 4))))
  (sRet (e2 oEq (eSl (e1 (oFld 4 0) (eVar 0)) (pS (e1 oNeg (eC (.int 1)))) (pN)) (eD (lDisp (aCons (eVar 3) (aNil)))))))
def m_Way_shows : F := fnOf 4 7 b_Way_shows
def b_Never_shows : S :=
  sSeq (sIf (tOr (tE (eAny (lComp (iSeq (eVar 2)) [4] (gName 4) (tTrue) (e2 oNin (eVar 4) (e1 (oFld 5 0) (eVar 0)))))) (tE (eAny (lComp (iSeq (e2 oIx (e2 oIx (eVar 1) (eVar 3)) (eC (.int 0)))) [4] (gName 4) (tTrue) (e2 oIn (eVar 4) (e1 (oFld 5 0) (eVar 0))))))) (sRet (eC (.bl false)))
  (sSkip))
  (sSeq (sFor (iSeq (eVar 1)) (gTup 2 (gCons (gName 5) (gCons (gName 6) (gNil))))
  (sIf (tAnd (tE (eAny (lComp (iSeq (eVar 5)) [4] (gName 4) (tTrue) (e2 oIn (eVar 4) (e1 (oFld 5 0) (eVar 0)))))) (tE (eAny (lComp (iSeq (eVar 6)) [4] (gName 4) (tTrue) (e2 oNin (eVar 4) (e1 (oFld 5 0) (eVar 0))))))) (sRet (eC (.bl false)))
  (sSkip)))
  (sRet (eC (.bl true))))
def m_Never_shows : F := fnOf 4 7 b_Never_shows
def b__law_way : S :=
  sSeq (sAsg (eCall m_way_in (aCons (eVar 0) (aCons (eVar 1) (aCons (eVar 2) (aNil))))) (gName 3))
  (sSeq (sAsg (eIf (tE (e1 (oIsc [2, 3, 4, 5] 4) (eVar 3))) (e1 (oFld 4 0) (eVar 3)) (e1 (oFld 5 0) (eVar 3))) (gName 4))
  (sRet (eTup (aCons (eK (lDisp (aCons (e1 (oIsc [2, 3, 4, 5] 4) (eVar 3)) (aCons (eMeth2 4 m_Way_shows 5 m_Never_shows (eVar 3) (aCons (eCall m__law_deep (aCons (eVar 0) (aNil))) (aCons (eK (l1 oList (eVar 1))) (aCons (eVar 2) (aNil))))) (aNil))))) (aCons (eVar 4) (aNil))))))
def m__law_way : F := fnOf 3 5 b__law_way
def b_lam_0 : EX :=
  xE (eCall m__law_way (aCons (e2 oIx (eVar 0) (eC (.int 0))) (aCons (e2 oIx (eVar 0) (eC (.int 1))) (aCons (eVar 1) (aNil)))))
def lam_0 : List Val → FX := lamFn 1 1 b_lam_0
def b_met_from : S :=
  sSeq (sAsg (eTup (aCons (eC (.str "begin")) (aCons (eC (.int 0)) (aNil)))) (gName 2))
  (sSeq (sPar 3 4 (eDisp1T (eVar 2) (eVar 2)) (eK (lDisp (aCons (eVar 2) (aNil)))))
  (sSeq (sWhile 40 (tE (e2 oNe (eVar 4) (eD (lDisp (aNil)))))
  (sSeq (sAsg (ePop0 (eVar 4) (eC (.int 0))) (gName 5))
  (sSeq (sAsg (eD (lComp (iSeq (eTGet2 (eVar 0) (eVar 5) (eD (lDisp (aNil))))) [7] (gName 7) (tOr (tE (e2 oNin (eTup (aCons (eVar 5) (aCons (eVar 7) (aNil)))) (eVar 1))) (tE (e2 oNe (e2 oIx (eVar 5) (eC (.int 0))) (eC (.str "in"))))) (eVar 7))) (gName 6))
  (sSeq (sAsg (e2 oAdd (eVar 6) (eD (lComp (iSeq (eVar 1)) [7, 8] (gTup 2 (gCons (gName 7) (gCons (gName 8) (gNil)))) (tE (e2 oEq (eVar 8) (eVar 5))) (eVar 7)))) (gName 6))
  (sFor (iSeq (eVar 6)) (gName 7)
  (sIf (tE (e2 oTNin (eVar 7) (eVar 3))) (sSeq (sTSet (eVar 3) (eVar 7) (eVar 5))
  (sAppK (eVar 4) (eVar 7)))
  (sSkip)))))))
  (sRet (eVar 3))))
def m_met_from : F := fnOf 2 9 b_met_from
def b_used_edges : S :=
  sSeq (sPar 1 2 (eD (lDisp (aNil))) (eTup (aCons (eC (.str "end")) (aCons (eC (.int 0)) (aNil)))))
  (sSeq (sAsg (eCall m_met_from (aCons (eVar 0) (aCons (eVar 1) (aNil)))) (gName 3))
  (sSeq (sWhile 12 (tE (e2 oTIn (eVar 2) (eVar 3)))
  (sSeq (sAsg (eVar 2) (gName 4))
  (sSeq (sWhile 40 (tE (e2 oNe (eVar 4) (eTup (aCons (eC (.str "begin")) (aCons (eC (.int 0)) (aNil))))))
  (sSeq (sAsg (e2 oTGet (eVar 3) (eVar 4)) (gName 5))
  (sSeq (sIf (tE (e2 oIn (eTup (aCons (eVar 4) (aCons (eVar 5) (aNil)))) (eVar 1))) (sAsg (eD (lComp (iSeq (eVar 1)) [6] (gName 6) (tE (e2 oNe (eVar 6) (eTup (aCons (eVar 4) (aCons (eVar 5) (aNil)))))) (eVar 6))) (gName 1))
  (sAsg (e2 oAdd (eVar 1) (eD (lDisp (aCons (eTup (aCons (eVar 5) (aCons (eVar 4) (aNil)))) (aNil))))) (gName 1)))
  (sAsg (eVar 5) (gName 4)))))
  (sAsg (eCall m_met_from (aCons (eVar 0) (aCons (eVar 1) (aNil)))) (gName 3)))))
  (sRet (eTup (aCons (eVar 1) (aCons (eVar 3) (aNil)))))))
def m_used_edges : F := fnOf 1 7 b_used_edges
def b_next_boxes : S :=
  sSeq (sOwn 2 (lDisp (aNil)))
  (sSeq (sFor (iSeq (eVar 0)) (gTup 2 (gCons (gName 3) (gCons (gName 4) (gNil))))
  (sIf (tE (e2 oIn (eVar 1) (eVar 3))) (sExt 2 (lComp (iSeq (eVar 4)) [5] (gName 5) (tAnd (tE (e2 oNe (eVar 5) (eVar 1))) (tE (e2 oNin (eVar 5) (eVarO 2)))) (eVar 5)))
  (sSkip)))
  (sRet (eVarO 2)))
def m_next_boxes : F := fnOf 2 6 b_next_boxes
def b_edges_of : S :=
  sSeq (sAsg (eDisp1T (eTup (aCons (eC (.str "begin")) (aCons (eC (.int 0)) (aNil)))) (eK (lComp (iSeq (eVar 1)) [4] (gName 4) (tTrue) (eTup (aCons (eC (.str "in")) (aCons (eVar 4) (aNil))))))) (gName 3))
  (sSeq (sFor (iRg1 (eC (.int 8))) (gName 4)
  (sSeq (sTSet (eVar 3) (eTup (aCons (eC (.str "in")) (aCons (eVar 4) (aNil)))) (eK (lDisp (aCons (eTup (aCons (eC (.str "out")) (aCons (eVar 4) (aNil)))) (aNil)))))
  (sSeq (sTSet (eVar 3) (eTup (aCons (eC (.str "out")) (aCons (eVar 4) (aNil)))) (eK (lComp (iSeq (eCall m_next_boxes (aCons (eVar 0) (aCons (eVar 4) (aNil))))) [5] (gName 5) (tTrue) (eTup (aCons (eC (.str "in")) (aCons (eVar 5) (aNil)))))))
  (sIf (tE (e2 oIn (eVar 4) (e2 oIx (e2 oIx (eVar 0) (eVar 2)) (eC (.int 0))))) (sAppK (e2 oTGet (eVar 3) (eTup (aCons (eC (.str "out")) (aCons (eVar 4) (aNil))))) (eTup (aCons (eC (.str "end")) (aCons (eC (.int 0)) (aNil)))))
  (sSkip)))))
  (sRet (eVar 3)))
def m_edges_of : F := fnOf 3 6 b_edges_of
def b_Bars___init__ : S :=
  sSeq (sFld 6 0 (eVar 0) (eK (l1 oList (eVar 1))))
  (sFld 6 1 (eVar 0) (eK (lComp (iSeq (eVar 2)) [3] (gName 3) (tTrue) (eK (l1 oList (eVar 3))))))
def m_Bars___init__ : F := fnOf 3 4 b_Bars___init__
def b_led_on : S :=
  sSeq (sAsg (eTup (aCons (eD (lDisp (aCons (eVar 1) (aNil)))) (aCons (eVar 1) (aNil)))) (gTup 2 (gCons (gName 2) (gCons (gName 3) (gNil)))))
  (sSeq (sWhile 12 (tE (e1 oNotN (eVar 3)))
  (sSeq (sAsg (eD (lComp (iSeq (eVar 0)) [5, 6] (gTup 2 (gCons (gName 5) (gCons (gName 6) (gNil)))) (tAnd (tE (e2 oEq (eVar 5) (eTup (aCons (eC (.str "out")) (aCons (eVar 3) (aNil)))))) (tE (e2 oEq (e2 oIx (eVar 6) (eC (.int 0))) (eC (.str "in"))))) (e2 oIx (eVar 6) (eC (.int 1))))) (gName 4))
  (sSeq (sAsg (eIf (tE (e2 oNe (eVar 4) (eD (lDisp (aNil))))) (e2 oIx (eVar 4) (eC (.int 0))) (eC .non)) (gName 3))
  (sAsg (e2 oAdd (eVar 2) (eVar 4)) (gName 2)))))
  (sRet (eVar 2)))
def m_led_on : F := fnOf 2 7 b_led_on
def b_bars : S :=
  sSeq (sDrop (eCall m_check_house (aCons (eVar 0) (aNil))))
  (sSeq (sDrop (eCall m_check_boxes (aCons (eVar 1) (aNil))))
  (sSeq (sDrop (eCall m_check_wanted (aCons (eVar 0) (aCons (eVar 2) (aNil)))))
  (sSeq (sAsg (eCall m_used_edges (aCons (eCall m_edges_of (aCons (eVar 0) (aCons (eVar 1) (aCons (eVar 2) (aNil))))) (aNil))) (gTup 2 (gCons (gName 3) (gCons (gName 4) (gNil)))))
  (sSeq (sAsg (eD (lComp (iRg1 (eC (.int 8))) [6] (gName 6) (tAnd (tE (e2 oTIn (eTup (aCons (eC (.str "in")) (aCons (eVar 6) (aNil)))) (eVar 4))) (tE (e2 oTNin (eTup (aCons (eC (.str "out")) (aCons (eVar 6) (aNil)))) (eVar 4)))) (eVar 6))) (gName 5))
  (sSeq (sAsg (eD (l1 oSort (eD (lComp (iSeq (eVar 3)) [8, 9] (gTup 2 (gCons (gName 8) (gCons (gName 9) (gNil)))) (tE (e2 oEq (eVar 8) (eTup (aCons (eC (.str "begin")) (aCons (eC (.int 0)) (aNil)))))) (e2 oIx (eVar 9) (eC (.int 1))))))) (gName 7))
  (sRet (eNew 6 m_Bars___init__ (aCons (eVar 5) (aCons (eD (lComp (iSeq (eVar 7)) [6] (gName 6) (tTrue) (eCall m_led_on (aCons (eVar 3) (aCons (eVar 6) (aNil)))))) (aNil))))))))))
def m_bars : F := fnOf 3 10 b_bars
def b_is_way : S :=
  sSeq (sIf (tOr (tE (e2 oEq (eVar 3) (eD (lDisp (aNil))))) (tOr (tE (e2 oNin (e2 oIx (eVar 3) (eC (.int 0))) (eVar 1))) (tE (e2 oNin (e2 oIx (eVar 3) (e1 oNeg (eC (.int 1)))) (e2 oIx (e2 oIx (eVar 0) (eVar 2)) (eC (.int 0))))))) (sRet (eC (.bl false)))
  (sSkip))
  (sSeq (sFor (iZip (eVar 3) (eSl (eVar 3) (pS (eC (.int 1))) (pN))) (gTup 2 (gCons (gName 4) (gCons (gName 5) (gNil))))
  (sIf (tNot (tE (eAny (lComp (iSeq (eVar 0)) [6, 7] (gTup 2 (gCons (gName 6) (gCons (gName 7) (gNil)))) (tTrue) (eAnd (e2 oIn (eVar 4) (eVar 6)) (e2 oIn (eVar 5) (eVar 7))))))) (sRet (eC (.bl false)))
  (sSkip)))
  (sRet (eC (.bl true))))
def m_is_way : F := fnOf 4 8 b_is_way
def b_Bars_shows : S :=
  sSeq (sAsg (eD (lDisp (aNil))) (gName 4))
  (sSeq (sFor (iSeq (e1 (oFld 6 1) (eVar 0))) (gName 5)
  (sSeq (sIf (tNot (tE (eCall m_is_way (aCons (eVar 1) (aCons (eVar 2) (aCons (eVar 3) (aCons (eVar 5) (aNil)))))))) (sRet (eC (.bl false)))
  (sSkip))
  (sAsg (e2 oAdd (eVar 4) (eVar 5)) (gName 4))))
  (sSeq (sIf (tE (e2 oLt (e1 oLenU (eVar 4)) (e1 oLen (eVar 4)))) (sRet (eC (.bl false)))
  (sSkip))
  (sSeq (sIf (tOr (tE (e2 oNe (e1 (oFld 6 0) (eVar 0)) (eD (l1 oSortU (e1 (oFld 6 0) (eVar 0)))))) (tE (e2 oNe (e1 oLen (e1 (oFld 6 0) (eVar 0))) (e1 oLen (e1 (oFld 6 1) (eVar 0)))))) (sRet (eC (.bl false)))
  (sSkip))
  (sRet (e2 oNin (eVar 3) (e2 oIx (eCall m_come_to (aCons (eVar 1) (aCons (eVar 2) (aCons (e1 (oFld 6 0) (eVar 0)) (aNil))))) (eC (.int 1))))))))
def m_Bars_shows : F := fnOf 4 6 b_Bars_shows
def b__law_bars : S :=
  sSeq (sAsg (eCall m_bars (aCons (eVar 0) (aCons (eVar 1) (aCons (eVar 2) (aNil))))) (gName 3))
  (sRet (eTup (aCons (eK (lDisp (aCons (e1 oLen (e1 (oFld 6 0) (eVar 3))) (aCons (eMeth 6 m_Bars_shows (eVar 3) (aCons (eCall m__law_deep (aCons (eVar 0) (aNil))) (aCons (eK (l1 oList (eVar 1))) (aCons (eVar 2) (aNil))))) (aNil))))) (aCons (eK (lDisp (aCons (e1 (oFld 6 0) (eVar 3)) (aCons (e1 (oFld 6 1) (eVar 3)) (aNil))))) (aNil)))))
def m__law_bars : F := fnOf 3 4 b__law_bars
def b_lam_1 : EX :=
  xE (eCall m__law_bars (aCons (e2 oIx (eVar 0) (eC (.int 0))) (aCons (e2 oIx (eVar 0) (eC (.int 1))) (aCons (eVar 1) (aNil)))))
def lam_1 : List Val → FX := lamFn 1 1 b_lam_1
def b__law_two : S :=
  sRet (eTup (aCons (eVar 0) (aCons (eVar 0) (aNil))))
def m__law_two : F := fnOf 1 1 b__law_two
def b_inside : S :=
  sSeq (sDrop (eCall m_check_house (aCons (eVar 0) (aNil))))
  (sSeq (sDrop (eCall m_check_boxes (aCons (eVar 1) (aNil))))
  (sRet (eK (l1 oSort (e2 oIx (eCall m_come_to (aCons (eVar 0) (aCons (eVar 1) (aCons (eD (lDisp (aNil))) (aNil))))) (eC (.int 1)))))))
def m_inside : F := fnOf 2 2 b_inside
def b_lam_2 : EX :=
  xE (eCall m__law_two (aCons (eCall m_inside (aCons (e2 oIx (eVar 0) (eC (.int 0))) (aCons (e2 oIx (eVar 0) (eC (.int 1))) (aNil)))) (aNil)))
def lam_2 : List Val → FX := lamFn 1 0 b_lam_2
def b_many_bars : S :=
  sRet (e1 oLen (e1 (oFld 6 0) (eCall m_bars (aCons (eVar 0) (aCons (eVar 1) (aCons (eVar 2) (aNil)))))))
def m_many_bars : F := keepF (fnOf 3 3 b_many_bars)
def b_lam_3 : EX :=
  xE (eCall m__law_two (aCons (eK (lDisp (aCons (eCall m_many_bars (aCons (e2 oIx (eVar 0) (eC (.int 0))) (aCons (e2 oIx (eVar 0) (eC (.int 1))) (aCons (eVar 1) (aNil))))) (aNil)))) (aNil)))
def lam_3 : List Val → FX := lamFn 1 1 b_lam_3
def b_lam_4 : EX :=
  xE (eCall m__law_two (aCons (eK (lDisp (aCons (eMeth2 4 m_Way_shows 5 m_Never_shows (eVar 2) (aCons (e2 oIx (eVar 0) (eC (.int 0))) (aCons (e2 oIx (eVar 0) (eC (.int 1))) (aCons (eVar 1) (aNil))))) (aNil)))) (aNil)))
def lam_4 : List Val → FX := lamFn 1 2 b_lam_4
def b_lam_5 : EX :=
  xE (eCall m__law_two (aCons (eK (lDisp (aCons (eMeth 6 m_Bars_shows (eVar 2) (aCons (e2 oIx (eVar 0) (eC (.int 0))) (aCons (e2 oIx (eVar 0) (eC (.int 1))) (aCons (eVar 1) (aNil))))) (aNil)))) (aNil)))
def lam_5 : List Val → FX := lamFn 1 2 b_lam_5
def b_lam_6 : EX :=
  xE (eCall m__law_two (aCons (eK (lDisp (aCons (eMeth2 4 m_Way_shows 5 m_Never_shows (eVar 1) (aCons (e2 oIx (eVar 0) (eC (.int 0))) (aCons (e2 oIx (eVar 0) (eC (.int 1))) (aCons (eC (.int 1)) (aNil))))) (aNil)))) (aNil)))
def lam_6 : List Val → FX := lamFn 1 1 b_lam_6
def b_check_settings : S :=
  sSeq (sIf (tNot (tE (eCall m_is_between (aCons (eVar 0) (aCons (eC (.int 1)) (aCons (eC (.int 4)) (aNil))))))) (sFail)
  (sSkip))
  (sSeq (sIf (tOr (tNot (tE (e1 (oIsi 2) (eVar 1)))) (tE (e2 oNin (eVar 1) (eC (.tup [.str "newest", .str "any"]))))) (sFail)
  (sSkip))
  (sSeq (sIf (tNot (tE (eCall m_is_between (aCons (eVar 2) (aCons (eC (.int 1)) (aCons (eC (.int 5)) (aNil))))))) (sFail)
  (sSkip))
  (sIf (tNot (tE (eCall m_is_between (aCons (eVar 3) (aCons (eC (.int 1)) (aCons (eC (.int 4)) (aNil))))))) (sFail)
  (sSkip))))
def m_check_settings : F := fnOf 4 4 b_check_settings
def b_is_line : S :=
  sSeq (sIf (tOr (tNot (tE (e1 (oIsi 4) (eVar 0)))) (tOr (tE (e2 oEq (eVar 0) (eTup (aNil)))) (tOr (tNot (tE (e1 (oIsi 2) (e2 oIx (eVar 0) (eC (.int 0)))))) (tE (e1 (oKnin [("ask", 2), ("bring", 1), ("in", 2), ("wrong", 2), ("tick", 0)]) (e2 oIx (eVar 0) (eC (.int 0)))))))) (sRet (eC (.bl false)))
  (sSkip))
  (sRet (eAnd (e2 oEq (e1 oLen (eVar 0)) (e2 oAdd (e1 (oKix [("ask", 2), ("bring", 1), ("in", 2), ("wrong", 2), ("tick", 0)]) (e2 oIx (eVar 0) (eC (.int 0)))) (eC (.int 1)))) (eAll (lComp (iSeq (eSl (eVar 0) (pS (eC (.int 1))) (pN))) [1] (gName 1) (tTrue) (eCall m_is_whole (aCons (eVar 1) (aNil)))))))
def m_is_line : F := fnOf 1 2 b_is_line
def b_State___init__ : S :=
  sSeq (sFld 0 0 (eVar 0) (eVar 1))
  (sSeq (sFld 0 1 (eVar 0) (eVar 2))
  (sSeq (sFld 0 2 (eVar 0) (eVar 3))
  (sSeq (sFld 0 3 (eVar 0) (eVar 4))
  (sSeq (sFld 0 4 (eVar 0) (eC (.int 0)))
  (sSeq (sFld 0 5 (eVar 0) (eK (lDisp (aNil))))
  (sSeq (sFld 0 6 (eVar 0) (eK (l2 oRep (eD (lDisp (aCons (eC (.int 0)) (aNil)))) (eVar 1))))
  (sFld 0 7 (eVar 0) (eK (lComp (iRg1 (eVar 1)) [5] (gName 5) (tTrue) (eK (lDisp (aNil))))))))))))
def m_State___init__ : F := fnOf 5 6 b_State___init__
def b_State_brought : S :=
  sSeq (sAsg (e2 oIx (e2 oIx (e1 (oFld 0 5) (eVar 0)) (eVar 1)) (eC (.int 0))) (gName 2))
  (sSeq (sAppK (e2 oIx (e1 (oFld 0 7) (eVar 0)) (eVar 2)) (eVar 1))
  (sRet (e1 oLen (e2 oIx (e1 (oFld 0 7) (eVar 0)) (eVar 2)))))
def m_State_brought : F := fnOf 2 3 b_State_brought
def b_State_asked : S :=
  sSeq (sAppK (e1 (oFld 0 5) (eVar 0)) (eK (lDisp (aCons (eVar 1) (aCons (e1 (oFld 0 4) (eVar 0)) (aCons (eC (.bl true)) (aNil)))))))
  (sSeq (sSub (e1 (oFld 0 6) (eVar 0)) (eVar 1) (eC (.int 0)))
  (sRet (e2 oSub (e1 oLen (e1 (oFld 0 5) (eVar 0))) (eC (.int 1)))))
def m_State_asked : F := fnOf 2 2 b_State_asked
def b_State_newest : S :=
  sSeq (sAsg (eD (lComp (iEnum (e1 (oFld 0 5) (eVar 0))) [3, 4] (gTup 2 (gCons (gName 3) (gCons (gName 4) (gNil)))) (tE (e2 oEq (e2 oIx (eVar 4) (eC (.int 0))) (eVar 1))) (eVar 3))) (gName 2))
  (sRet (eIf (tE (e2 oNe (eVar 2) (eD (lDisp (aNil))))) (e2 oIx (eVar 2) (e1 oNeg (eC (.int 1)))) (e1 oNeg (eC (.int 1)))))
def m_State_newest : F := fnOf 2 5 b_State_newest
def b_State_is_good : S :=
  sSeq (sIf (tNot (tE (eCh oLe oLt (eC (.int 0)) (eVar 2) (e1 oLen (e1 (oFld 0 5) (eVar 0)))))) (sRet (eC (.bl false)))
  (sSkip))
  (sSeq (sAsg (e2 oIx (e1 (oFld 0 5) (eVar 0)) (eVar 2)) (gUnl 3 (gCons (gName 3) (gCons (gName 4) (gCons (gName 5) (gNil))))))
  (sSeq (sIf (tOr (tE (e2 oNe (eVar 3) (eVar 1))) (tOr (tNot (tE (eVar 5))) (tE (e2 oGe (e2 oSub (e1 (oFld 0 4) (eVar 0)) (eVar 4)) (e1 (oFld 0 2) (eVar 0)))))) (sRet (eC (.bl false)))
  (sSkip))
  (sRet (eOr (e2 oEq (e1 (oFld 0 1) (eVar 0)) (eC (.str "any"))) (e2 oEq (eMeth 0 m_State_newest (eVar 0) (aCons (eVar 1) (aNil))) (eVar 2))))))
def m_State_is_good : F := fnOf 3 6 b_State_is_good
def b_State_tried : S :=
  sSeq (sIf (tE (eMeth 0 m_State_is_good (eVar 0) (aCons (eVar 1) (aCons (eVar 2) (aNil))))) (sSeq (sSub (e2 oIx (e1 (oFld 0 5) (eVar 0)) (eVar 2)) (eC (.int 2)) (eC (.bl false)))
  (sSeq (sSub (e1 (oFld 0 6) (eVar 0)) (eVar 1) (eC (.int 0)))
  (sRet (eC (.bl true)))))
  (sSkip))
  (sSeq (sSubA (e1 (oFld 0 6) (eVar 0)) (eVar 1) (eC (.int 1)))
  (sSeq (sIf (tE (e2 oEq (e2 oIx (e1 (oFld 0 6) (eVar 0)) (eVar 1)) (e1 (oFld 0 3) (eVar 0)))) (sSeq (sFor (iSeq (e1 (oFld 0 5) (eVar 0))) (gName 3)
  (sIf (tE (e2 oEq (e2 oIx (eVar 3) (eC (.int 0))) (eVar 1))) (sSub (eVar 3) (eC (.int 2)) (eC (.bl false)))
  (sSkip)))
  (sSub (e1 (oFld 0 6) (eVar 0)) (eVar 1) (eC (.int 0))))
  (sSkip))
  (sRet (eC (.bl false)))))
def m_State_tried : F := fnOf 3 4 b_State_tried
def b_can_come : S :=
  sSeq (sIf (tE (e2 oEq (e2 oIx (eVar 1) (eC (.int 0))) (eC (.str "tick")))) (sSeq (sFldA 0 4 (eVar 0) (eC (.int 1)))
  (sRet (eC (.bl true))))
  (sSkip))
  (sSeq (sIf (tE (e2 oEq (e2 oIx (eVar 1) (eC (.int 0))) (eC (.str "bring")))) (sSeq (sIf (tNot (tE (eCh oLe oLt (eC (.int 0)) (e2 oIx (eVar 1) (eC (.int 1))) (e1 oLen (e1 (oFld 0 5) (eVar 0)))))) (sRet (eC (.bl false)))
  (sSkip))
  (sSeq (sDrop (eMeth 0 m_State_brought (eVar 0) (aCons (e2 oIx (eVar 1) (eC (.int 1))) (aNil))))
  (sRet (eC (.bl true)))))
  (sSkip))
  (sSeq (sIf (tNot (tE (eCh oLe oLt (eC (.int 0)) (e2 oIx (eVar 1) (eC (.int 1))) (e1 (oFld 0 0) (eVar 0))))) (sRet (eC (.bl false)))
  (sSkip))
  (sSeq (sIf (tE (e2 oEq (e2 oIx (eVar 1) (eC (.int 0))) (eC (.str "ask")))) (sRet (e2 oEq (eMeth 0 m_State_asked (eVar 0) (aCons (e2 oIx (eVar 1) (eC (.int 1))) (aNil))) (e2 oIx (eVar 1) (eC (.int 2)))))
  (sSkip))
  (sRet (e2 oEq (eMeth 0 m_State_tried (eVar 0) (aCons (e2 oIx (eVar 1) (eC (.int 1))) (aCons (e2 oIx (eVar 1) (eC (.int 2))) (aNil)))) (e2 oEq (e2 oIx (eVar 1) (eC (.int 0))) (eC (.str "in"))))))))
def m_can_come : F := fnOf 2 2 b_can_come
def b_wrong_of : S :=
  sSeq (sAsg (eNew 0 m_State___init__ (aCons (eVar 0) (aCons (eVar 1) (aCons (eVar 2) (aCons (eVar 3) (aNil)))))) (gName 5))
  (sSeq (sFor (iEnum (eVar 4)) (gTup 2 (gCons (gName 6) (gCons (gName 7) (gNil))))
  (sIf (tNot (tE (eCall m_can_come (aCons (eVar 5) (aCons (eVar 7) (aNil)))))) (sRet (eVar 6))
  (sSkip)))
  (sRet (e1 oNeg (eC (.int 1)))))
def m_wrong_of : F := fnOf 5 8 b_wrong_of
def b_Wrong___init__ : S :=
  sFld 3 0 (eVar 0) (eVar 1)
def m_Wrong___init__ : F := fnOf 2 2 b_Wrong___init__
def b_judged : S :=
  sSeq (sDrop (eCall m_check_settings (aCons (eVar 0) (aCons (eVar 1) (aCons (eVar 2) (aCons (eVar 3) (aNil)))))))
  (sSeq (sIf (tOr (tNot (tE (e1 (oIsi 3) (eVar 4)))) (tOr (tE (e2 oGt (e1 oLen (eVar 4)) (eC (.int 40)))) (tNot (tE (eAll (lComp (iSeq (eVar 4)) [5] (gName 5) (tTrue) (eCall m_is_line (aCons (eVar 5) (aNil))))))))) (sFail)
  (sSkip))
  (sSeq (sAsg (eCall m_wrong_of (aCons (eVar 0) (aCons (eVar 1) (aCons (eVar 2) (aCons (eVar 3) (aCons (eVar 4) (aNil))))))) (gName 6))
  (sRet (eIf (tE (e2 oLt (eVar 6) (eC (.int 0)))) (eNew0 2) (eNew 3 m_Wrong___init__ (aCons (eVar 6) (aNil)))))))
def m_judged : F := fnOf 5 7 b_judged
def b__law_judged : S :=
  sSeq (sAsg (eCall m_judged (aCons (eC (.int 1)) (aCons (eC (.str "any")) (aCons (eC (.int 1)) (aCons (eC (.int 1)) (aCons (eVar 0) (aNil))))))) (gName 1))
  (sRet (eCall m__law_two (aCons (eIf (tE (e1 (oIsc [2, 3, 4, 5] 2) (eVar 1))) (eK (lDisp (aNil))) (eK (lDisp (aCons (e1 (oFld 3 0) (eVar 1)) (aNil))))) (aNil))))
def m__law_judged : F := fnOf 1 2 b__law_judged
def b_lam_7 : EX :=
  xE (eCall m__law_judged (aCons (e2 oIx (eVar 0) (eC (.int 0))) (aNil)))
def lam_7 : List Val → FX := lamFn 1 0 b_lam_7
def b_Right_shows : S :=
  sRet (e2 oLt (eCall m_wrong_of (aCons (eVar 1) (aCons (eVar 2) (aCons (eVar 3) (aCons (eVar 4) (aCons (eVar 5) (aNil))))))) (eC (.int 0)))
def m_Right_shows : F := fnOf 6 6 b_Right_shows
def b_lam_8 : EX :=
  xE (eCall m__law_two (aCons (eK (lDisp (aCons (eMeth 2 m_Right_shows (eNew0 2) (aCons (eC (.int 1)) (aCons (eC (.str "any")) (aCons (eC (.int 1)) (aCons (eC (.int 1)) (aCons (e2 oIx (eVar 0) (eC (.int 0))) (aNil))))))) (aNil)))) (aNil)))
def lam_8 : List Val → FX := lamFn 1 0 b_lam_8
def b_Wrong_shows : S :=
  sRet (eAnd (e2 oGe (e1 (oFld 3 0) (eVar 0)) (eC (.int 0))) (e2 oEq (eCall m_wrong_of (aCons (eVar 1) (aCons (eVar 2) (aCons (eVar 3) (aCons (eVar 4) (aCons (eVar 5) (aNil))))))) (e1 (oFld 3 0) (eVar 0))))
def m_Wrong_shows : F := fnOf 6 6 b_Wrong_shows
def b_lam_9 : EX :=
  xE (eCall m__law_two (aCons (eK (lDisp (aCons (eMeth 3 m_Wrong_shows (eNew 3 m_Wrong___init__ (aCons (eC (.int 1)) (aNil))) (aCons (eC (.int 1)) (aCons (eC (.str "any")) (aCons (eC (.int 1)) (aCons (eC (.int 1)) (aCons (e2 oIx (eVar 0) (eC (.int 0))) (aNil))))))) (aNil)))) (aNil)))
def lam_9 : List Val → FX := lamFn 1 0 b_lam_9
def b_Door___init__ : S :=
  sSeq (sDrop (eCall m_check_settings (aCons (eVar 1) (aCons (eVar 2) (aCons (eVar 3) (aCons (eVar 4) (aNil)))))))
  (sSeq (sFld 1 0 (eVar 0) (eNew 0 m_State___init__ (aCons (eVar 1) (aCons (eVar 2) (aCons (eVar 3) (aCons (eVar 4) (aNil)))))))
  (sFld 1 1 (eVar 0) (eK (lDisp (aNil)))))
def m_Door___init__ : F := fnOf 5 5 b_Door___init__
def b_Door_check_account : S :=
  sIf (tNot (tE (eCall m_is_between (aCons (eVar 1) (aCons (eC (.int 0)) (aCons (e2 oSub (e1 (oFld 0 0) (e1 (oFld 1 0) (eVar 0))) (eC (.int 1))) (aNil))))))) (sFail)
  (sSkip)
def m_Door_check_account : F := fnOf 2 2 b_Door_check_account
def b_Door_ask : S :=
  sSeq (sDrop (eMeth 1 m_Door_check_account (eVar 0) (aCons (eVar 1) (aNil))))
  (sSeq (sAsg (eMeth 0 m_State_asked (e1 (oFld 1 0) (eVar 0)) (aCons (eVar 1) (aNil))) (gName 2))
  (sSeq (sAppK (e1 (oFld 1 1) (eVar 0)) (eTup (aCons (eC (.str "ask")) (aCons (eVar 1) (aCons (eVar 2) (aNil))))))
  (sRet (eVar 2))))
def m_Door_ask : F := fnOf 2 3 b_Door_ask
def b_State_good_ones : S :=
  sRet (eK (lComp (iRg1 (e1 oLen (e1 (oFld 0 5) (eVar 0)))) [2] (gName 2) (tE (eMeth 0 m_State_is_good (eVar 0) (aCons (eVar 1) (aCons (eVar 2) (aNil))))) (eVar 2)))
def m_State_good_ones : F := fnOf 2 3 b_State_good_ones
def b_Door_open_to : S :=
  sSeq (sIf (tOr (tNot (tE (e1 (oIsi 3) (eVar 1)))) (tNot (tE (eAll (lComp (iSeq (eVar 1)) [2] (gName 2) (tTrue) (eCall m_is_between (aCons (eVar 2) (aCons (eC (.int 0)) (aCons (e2 oSub (e1 (oFld 0 0) (e1 (oFld 1 0) (eVar 0))) (eC (.int 1))) (aNil)))))))))) (sFail)
  (sSkip))
  (sSeq (sIf (tNot (tE (eAll (lComp (iZip (eVar 1) (eSl (eVar 1) (pS (eC (.int 1))) (pN))) [2, 3] (gTup 2 (gCons (gName 2) (gCons (gName 3) (gNil)))) (tTrue) (e2 oLt (eVar 2) (eVar 3)))))) (sFail)
  (sSkip))
  (sSeq (sAsg (eK (lDisp (aNil))) (gName 4))
  (sSeq (sFor (iSeq (eVar 1)) (gName 5)
  (sSeq (sAsg (e2 oIx (e1 (oFld 0 7) (e1 (oFld 1 0) (eVar 0))) (eVar 5)) (gName 6))
  (sExtK (eVar 4) (eK (lComp (iSeq (eMeth 0 m_State_good_ones (e1 (oFld 1 0) (eVar 0)) (aCons (eVar 5) (aNil)))) [7] (gName 7) (tE (e2 oIn (eVar 7) (eVar 6))) (eTup (aCons (eVar 5) (aCons (eVar 7) (aNil)))))))))
  (sRet (eVar 4)))))
def m_Door_open_to : F := fnOf 2 8 b_Door_open_to
def b_Door_box : S :=
  sSeq (sDrop (eMeth 1 m_Door_check_account (eVar 0) (aCons (eVar 1) (aNil))))
  (sRet (eK (l1 oList (e2 oIx (e1 (oFld 0 7) (e1 (oFld 1 0) (eVar 0))) (eVar 1)))))
def m_Door_box : F := fnOf 2 2 b_Door_box
def b_Door_good : S :=
  sSeq (sDrop (eMeth 1 m_Door_check_account (eVar 0) (aCons (eVar 1) (aNil))))
  (sRet (eMeth 0 m_State_good_ones (e1 (oFld 1 0) (eVar 0)) (aCons (eVar 1) (aNil))))
def m_Door_good : F := fnOf 2 2 b_Door_good
def b_Door_tale : S :=
  sRet (eK (l1 oList (e1 (oFld 1 1) (eVar 0))))
def m_Door_tale : F := fnOf 1 1 b_Door_tale
def b__law_open : S :=
  sSeq (sAsg (eNew 1 m_Door___init__ (aCons (eC (.int 4)) (aCons (eC (.str "any")) (aCons (eC (.int 5)) (aCons (eC (.int 4)) (aNil)))))) (gName 1))
  (sSeq (sAsg (eK (lDisp (aCons (eMeth 1 m_Door_ask (eVar 1) (aCons (eC (.int 0)) (aNil))) (aCons (eMeth 1 m_Door_ask (eVar 1) (aCons (eC (.int 2)) (aNil))) (aCons (eMeth 1 m_Door_open_to (eVar 1) (aCons (eVar 0) (aNil))) (aCons (eMeth 1 m_Door_box (eVar 1) (aCons (eC (.int 0)) (aNil))) (aCons (eMeth 1 m_Door_good (eVar 1) (aCons (eC (.int 2)) (aNil))) (aCons (eMeth 1 m_Door_tale (eVar 1) (aNil)) (aNil))))))))) (gName 2))
  (sRet (eCall m__law_two (aCons (eK (l2 oCat (eVar 2) (eK (lDisp (aCons (eMeth 1 m_Door_open_to (eVar 1) (aCons (eVar 0) (aNil))) (aCons (eMeth 1 m_Door_box (eVar 1) (aCons (eC (.int 0)) (aNil))) (aCons (eMeth 1 m_Door_good (eVar 1) (aCons (eC (.int 2)) (aNil))) (aCons (eMeth 1 m_Door_tale (eVar 1) (aNil)) (aNil))))))))) (aNil)))))
def m__law_open : F := fnOf 1 3 b__law_open
def b_lam_10 : EX :=
  xE (eCall m__law_open (aCons (e2 oIx (eVar 0) (eC (.int 0))) (aNil)))
def lam_10 : List Val → FX := lamFn 1 0 b_lam_10
def domA : Nat → Bool := fun i => if i = 0 then true else if i = 1 then true else if i = 2 then true else if i = 3 then true else if i = 4 then true else if i = 5 then true else if i = 6 then true else if i = 7 then true else if i = 8 then true else if i = 9 then true else if i = 10 then true else false
def lamA : Nat → List Val → FX := fun i => if i = 0 then lam_0 else if i = 1 then lam_1 else if i = 2 then lam_2 else if i = 3 then lam_3 else if i = 4 then lam_4 else if i = 5 then lam_5 else if i = 6 then lam_6 else if i = 7 then lam_7 else if i = 8 then lam_8 else if i = 9 then lam_9 else if i = 10 then lam_10 else fun _ _ _ => none
def domF : Nat → Bool := fun i => Nat.blt i 11
def lamF : Nat → List Val → FX := fun i => if i = 0 then lam_0 else if i = 1 then lam_1 else if i = 2 then lam_2 else if i = 3 then lam_3 else if i = 4 then lam_4 else if i = 5 then lam_5 else if i = 6 then lam_6 else if i = 7 then lam_7 else if i = 8 then lam_8 else if i = 9 then lam_9 else if i = 10 then lam_10 else fun _ _ _ => none
def b__law_cell_at : S :=
  sSeq (sIf (tE (e2 oLt (eVar 1) (e1 oLen (eVar 0)))) (sRet (e2 oIx (eVar 0) (eVar 1)))
  (sSkip))
  (sRet (eC (.int 0)))
def m__law_cell_at : F := fnOf 2 2 b__law_cell_at
def b__law_draw : S :=
  sSeq (sAsg (eTup (aCons (eC (.int 1000003)) (aCons (eC (.int 1000033)) (aCons (eC (.int 1000037)) (aCons (eC (.int 1000039)) (aCons (eC (.int 1000081)) (aCons (eC (.int 1000099)) (aCons (eC (.int 1000117)) (aCons (eC (.int 1000121)) (aCons (eC (.int 1000133)) (aCons (eC (.int 1000151)) (aCons (eC (.int 1000159)) (aCons (eC (.int 1000171)) (aCons (eC (.int 1000183)) (aCons (eC (.int 1000187)) (aCons (eC (.int 1000193)) (aCons (eC (.int 1000199)) (aNil)))))))))))))))))) (gName 3))
  (sRet (e2 oMod (e2 oMod (e2 oAdd (e2 oMul (eVar 0) (eC (.int 48271))) (e2 oMul (eVar 1) (eC (.int 69621)))) (e2 oIx (eVar 3) (e2 oMod (eVar 1) (eC (.int 16))))) (eVar 2)))
def m__law_draw : F := fnOf 3 4 b__law_draw
def b__law_number : S :=
  sSeq (sIf (tE (e2 oGe (eVar 0) (e2 oPow (eC (.int 10)) (eC (.int 18))))) (sRet (e2 oMod (e2 oDiv (e2 oSub (eVar 0) (e2 oPow (eC (.int 10)) (eC (.int 18)))) (e2 oIx (eTup (aCons (eC (.int 1)) (aCons (eC (.int 7)) (aCons (eC (.int 49)) (aCons (eC (.int 343)) (aCons (eC (.int 2401)) (aNil))))))) (e2 oMod (eVar 1) (eC (.int 5))))) (eVar 2)))
  (sSkip))
  (sSeq (sAsg (e2 oMod (eVar 0) (eC (.int 1000003))) (gName 3))
  (sRet (e2 oMod (eCall m__law_draw (aCons (e2 oMul (e2 oAdd (eVar 3) (e2 oMul (eC (.int 977)) (eVar 1))) (e2 oAdd (e2 oAdd (eVar 3) (e2 oMul (eC (.int 31)) (eVar 1))) (eC (.int 5)))) (aCons (e2 oAdd (e2 oMod (eVar 1) (eC (.int 9))) (eC (.int 1))) (aCons (eC (.int 999983)) (aNil))))) (eVar 2))))
def m__law_number : F := fnOf 3 4 b__law_number
def b__law_spoilt (mm : F) : S :=
  sSeq (sIf (tE (e1 oIsLT (eVar 0))) (sFor (iSeq (eVar 0)) (gName 1)
  (sDrop (eCall mm (aCons (eVar 1) (aNil)))))
  (sSkip))
  (sIf (tE (e1 (oIsi 3) (eVar 0))) (sAppK (eVar 0) (eTup (aNil)))
  (sSkip))
def m__law_spoilt_ : Nat → F
  | 0 => fun _ _ => none
  | n + 1 => fnOf 1 2 (b__law_spoilt (m__law_spoilt_ n))
def m__law_spoilt : F := m__law_spoilt_ 6
def b__law_put : S :=
  sFor (iZip (eVar 0) (eVar 1)) (gTup 2 (gCons (gName 2) (gCons (gName 3) (gNil))))
  (sSeq (sWhile 12 (tE (e2 oNe (eVar 2) (eD (lDisp (aNil)))))
  (sPopK (eVar 2)))
  (sExtK (eVar 2) (eCall m__law_deep (aCons (eVar 3) (aNil)))))
def m__law_put : F := fnOf 2 4 b__law_put
def b__law_door_right : S :=
  sSeq (sAsg (eCall m__law_deep (aCons (eVar 1) (aNil))) (gName 3))
  (sSeq (sAsg (eCallV lamF domF 0 (aCons (eVar 3) (aNil))) (gTup 2 (gCons (gName 4) (gCons (gName 5) (gNil)))))
  (sSeq (sPar 6 7 (e1 oStr (eVar 4)) (e1 oStr (e2 oIx (eCallV lamF domF 0 (aCons (eCall m__law_deep (aCons (eVar 2) (aNil))) (aNil))) (eC (.int 0)))))
  (sSeq (sIf (tE (e2 oNe (eVar 3) (eVar 1))) (sRet (eC (.bl false)))
  (sSkip))
  (sSeq (sDrop (eCall m__law_spoilt (aCons (eVar 5) (aNil))))
  (sSeq (sIf (tOr (tE (e2 oNe (e1 oStr (e2 oIx (eCallV lamF domF 0 (aCons (eVar 3) (aNil))) (eC (.int 0)))) (eVar 6))) (tE (e2 oNe (eVar 3) (eVar 1)))) (sRet (eC (.bl false)))
  (sSkip))
  (sSeq (sFor (iSeq (eTup (aCons (eTup (aCons (eVar 2) (aCons (eVar 7) (aNil)))) (aCons (eTup (aCons (eVar 1) (aCons (eVar 6) (aNil)))) (aNil))))) (gTup 2 (gCons (gName 8) (gCons (gName 9) (gNil))))
  (sSeq (sDrop (eCall m__law_put (aCons (eVar 3) (aCons (eVar 8) (aNil)))))
  (sIf (tOr (tE (e2 oNe (e1 oStr (e2 oIx (eCallV lamF domF 0 (aCons (eVar 3) (aNil))) (eC (.int 0)))) (eVar 9))) (tE (e2 oNe (eVar 3) (eVar 8)))) (sRet (eC (.bl false)))
  (sSkip))))
  (sRet (eC (.bl true)))))))))
def m__law_door_right : F := keepF (fnOf 3 10 b__law_door_right)
def b__law_doors_right : S :=
  sRet (eAll (lComp (iSeq (eVar 0)) [3] (gName 3) (tTrue) (eCall m__law_door_right (aCons (eVar 3) (aCons (eVar 1) (aCons (eVar 2) (aNil)))))))
def m__law_doors_right : F := fnOf 3 4 b__law_doors_right
def b_law_rest : S :=
  sSeq (sAsg (eTup (aCons (eCall m_way_in (aCons (eVar 1) (aCons (eD (lDisp (aCons (eC (.int 0)) (aCons (eC (.int 1)) (aNil))))) (aCons (eVar 4) (aNil))))) (aCons (eCall m_bars (aCons (eVar 1) (aCons (eD (lDisp (aCons (eC (.int 0)) (aCons (eC (.int 1)) (aNil))))) (aCons (eVar 4) (aNil))))) (aCons (eCall m_way_in (aCons (eVar 1) (aCons (eD (lDisp (aCons (eC (.int 5)) (aNil)))) (aCons (eC (.int 1)) (aNil))))) (aNil))))) (gTup 3 (gCons (gName 5) (gCons (gName 6) (gCons (gName 7) (gNil))))))
  (sSeq (sAsg (eD (lDisp (aCons (eLam 0 0 0) (aCons (eLam 0 0 1) (aNil))))) (gName 8))
  (sSeq (sAsg (e2 oAdd (eVar 8) (eD (lDisp (aCons (eLam 0 0 2) (aNil))))) (gName 8))
  (sSeq (sAsg (e2 oAdd (eVar 8) (eD (lDisp (aCons (eLam 0 0 3) (aNil))))) (gName 8))
  (sSeq (sAsg (e2 oAdd (eVar 8) (eD (lDisp (aCons (eLam 0 0 4) (aNil))))) (gName 8))
  (sSeq (sAsg (e2 oAdd (eVar 8) (eD (lDisp (aCons (eLam 0 0 5) (aNil))))) (gName 8))
  (sSeq (sAsg (e2 oAdd (eVar 8) (eD (lDisp (aCons (eLam 0 0 6) (aNil))))) (gName 8))
  (sSeq (sIf (tNot (tE (eCallB m__law_doors_right own_law (aCons (eVar 8) (aCons (eD (lDisp (aCons (eVar 1) (aCons (eD (lDisp (aCons (eC (.int 0)) (aCons (eC (.int 1)) (aNil))))) (aNil))))) (aCons (eD (lDisp (aCons (eVar 2) (aCons (eD (lDisp (aCons (eC (.int 0)) (aCons (eC (.int 1)) (aNil))))) (aNil))))) (aNil))))))) (sRet (eC (.bl false)))
  (sSkip))
  (sIf (tNot (tE (eCallB m__law_doors_right own_law (aCons (eVar 8) (aCons (eD (lDisp (aCons (eVar 1) (aCons (eD (lDisp (aCons (eC (.int 0)) (aCons (eC (.int 1)) (aNil))))) (aNil))))) (aCons (eD (lDisp (aCons (eVar 1) (aCons (eD (lDisp (aCons (eC (.int 4)) (aCons (eC (.int 5)) (aNil))))) (aNil))))) (aNil))))))) (sRet (eC (.bl false)))
  (sSkip)))))))))
def b_law_tail : S :=
  sSeq (sAsg (eD (lDisp (aCons (eLam 0 0 7) (aCons (eLam 0 0 8) (aNil))))) (gName 8))
  (sSeq (sAsg (e2 oAdd (eVar 8) (eD (lDisp (aCons (eLam 0 0 9) (aNil))))) (gName 8))
  (sSeq (sIf (tNot (tE (eCallB m__law_doors_right own_law (aCons (eVar 8) (aCons (eD (lDisp (aCons (eD (lDisp (aCons (eTup (aCons (eC (.str "ask")) (aCons (eC (.int 0)) (aCons (eC (.int 0)) (aNil))))) (aCons (eTup (aCons (eC (.str "in")) (aCons (eC (.int 0)) (aCons (eC (.int 0)) (aNil))))) (aNil))))) (aNil)))) (aCons (eD (lDisp (aCons (eD (lDisp (aCons (eTup (aCons (eC (.str "tick")) (aNil))) (aCons (eTup (aCons (eC (.str "in")) (aCons (eC (.int 0)) (aCons (eC (.int 0)) (aNil))))) (aNil))))) (aNil)))) (aNil))))))) (sRet (eC (.bl false)))
  (sSkip))
  (sRet (eCallB m__law_doors_right own_law (aCons (eD (lDisp (aCons (eLam 0 0 10) (aNil)))) (aCons (eD (lDisp (aCons (eD (lDisp (aCons (eC (.int 0)) (aCons (eC (.int 2)) (aNil))))) (aNil)))) (aCons (eD (lDisp (aCons (eD (lDisp (aCons (eC (.int 1)) (aCons (eC (.int 3)) (aNil))))) (aNil)))) (aNil))))))))
def b_law : S :=
  sSeq (sPar 1 2 (eD (lDisp (aCons (eTup (aCons (eD (lDisp (aCons (eC (.int 0)) (aCons (eC (.int 1)) (aNil))))) (aCons (eD (lDisp (aCons (eC (.int 3)) (aNil)))) (aNil)))) (aCons (eTup (aCons (eD (lDisp (aCons (eC (.int 3)) (aNil)))) (aCons (eD (lDisp (aCons (eC (.int 4)) (aCons (eC (.int 5)) (aNil))))) (aNil)))) (aCons (eTup (aCons (eD (lDisp (aCons (eC (.int 4)) (aNil)))) (aCons (eD (lDisp (aNil))) (aNil)))) (aNil)))))) (eD (lDisp (aCons (eTup (aCons (eD (lDisp (aCons (eC (.int 0)) (aCons (eC (.int 4)) (aNil))))) (aCons (eD (lDisp (aCons (eC (.int 3)) (aNil)))) (aNil)))) (aCons (eTup (aCons (eD (lDisp (aCons (eC (.int 5)) (aNil)))) (aCons (eD (lDisp (aCons (eC (.int 4)) (aNil)))) (aNil)))) (aCons (eTup (aCons (eD (lDisp (aCons (eC (.int 4)) (aNil)))) (aCons (eD (lDisp (aCons (eC (.int 0)) (aNil)))) (aNil)))) (aNil)))))))
  (sSeq (sFor (iRg1 (eC (.int 2))) (gName 3)
  (sAlone 1 (sSeq (sAsg (eCall m__law_number (aCons (eCall m__law_cell_at (aCons (eVar 0) (aCons (eVar 3) (aNil)))) (aCons (e2 oAdd (eVar 3) (eC (.int 1))) (aCons (eC (.int 3)) (aNil))))) (gName 4))
  (b_law_rest))))
  (b_law_tail))
def m_law : F := fnOfM own_law 1 9 b_law
end Mi

set_option Elab.async false
set_option linter.all false
set_option maxRecDepth 100000
set_option maxHeartbeats 1000000
/-! Mi, words for the plain law: what a mirror is asked to bring. -/
namespace Mi.Y
open PySem L2

def WO {α : Type} (o : Option α) (Q : α → Prop) : Prop := ∃ z, o = some z ∧ Q z
def WE (e : E) (sl : Sl) (st : Sto) (Q : Val → Sto → Prop) : Prop := WO (e sl st) fun p => Q p.1 p.2
def WT (t : T) (sl : Sl) (st : Sto) (Q : Bool → Sto → Prop) : Prop := WO (t sl st) fun p => Q p.1 p.2
def WL (l : L) (sl : Sl) (st : Sto) (Q : List Val → Sto → Prop) : Prop := WO (l sl st) fun p => Q p.1 p.2
def WP (l : P) (sl : Sl) (st : Sto) (Q : Option Int → Sto → Prop) : Prop := WO (l sl st) fun p => Q p.1 p.2
def WI (l : I) (sl : Sl) (st : Sto) (Q : Src → Sto → Prop) : Prop := WO (l sl st) fun p => Q p.1 p.2
def WG (g : G) (v : Val) (sl : Sl) (st : Sto) (Q : Sl → Prop) : Prop := WO (g v sl st) Q
def WGs (g : Gs) (v : List Val) (sl : Sl) (st : Sto) (Q : Sl → Prop) : Prop := WO (g v sl st) Q
def WF (f : F) (vs : List Val) (st : Sto) (Q : Val → Sto → Prop) : Prop := WO (f vs st) fun p => Q p.1 p.2
def ends (N : Sl → Sto → Prop) (R : Val → Sto → Prop) : Out × Sl × Sto → Prop
  | (.nx, sl, st) => N sl st
  | (.rt v, _, st) => R v st
  | _ => False
def WS (s : S) (sl : Sl) (st : Sto) (N : Sl → Sto → Prop) (R : Val → Sto → Prop) : Prop := WO (s sl st) (ends N R)

section
variable {α β : Type} {sl : Sl} {st : Sto} {Q : Val → Sto → Prop} {QT : Bool → Sto → Prop} {QL : List Val → Sto → Prop} {QP : Option Int → Sto → Prop} {QI : Src → Sto → Prop} {QG : Sl → Prop} {N : Sl → Sto → Prop} {R : Val → Sto → Prop}
  {a b c o : E} {t t' : T} {f f' : L} {p p' : P} {s s' : S} {m : F} {g : G} {gs : Gs} {op op' : Sto → Val → Val → Option Val} {i j k n : Nat} {v : Val}
theorem wo_some {x : α} {Q : α → Prop} (h : Q x) : WO (some x) Q := ⟨x, rfl, h⟩
theorem wo_bind {o : Option α} {h : α → Option β} {Q : β → Prop} (w : WO o fun x => WO (h x) Q) : WO (o.bind h) Q := by
  obtain ⟨x, rfl, z, e, q⟩ := w
  exact ⟨z, e, q⟩
theorem wo_if {c : Prop} [Decidable c] {o : Option α} {Q : α → Prop} (hc : c) (w : WO o Q) : WO (if c then o else none) Q := by rw [if_pos hc]; exact w
theorem wo_mono {o : Option α} {Q Q' : α → Prop} (h : WO o Q) (i : ∀ x, Q x → Q' x) : WO o Q' := h.elim fun x z => ⟨x, z.1, i x z.2⟩
theorem we_mono {e : E} {Q' : Val → Sto → Prop} (h : WE e sl st Q) (i : ∀ v st, Q v st → Q' v st) : WE e sl st Q' := wo_mono h fun _ => i _ _
theorem wl_mono {e : L} {Q' : List Val → Sto → Prop} (h : WL e sl st QL) (i : ∀ v st, QL v st → Q' v st) : WL e sl st Q' := wo_mono h fun _ => i _ _
theorem wf_mono {e : F} {vs : List Val} {Q' : Val → Sto → Prop} (h : WF e vs st Q) (i : ∀ v st, Q v st → Q' v st) : WF e vs st Q' := wo_mono h fun _ => i _ _
theorem ws_mono {N' : Sl → Sto → Prop} {R' : Val → Sto → Prop} (h : WS s sl st N R) (i : ∀ sl st, N sl st → N' sl st) (i' : ∀ v st, R v st → R' v st) : WS s sl st N' R' := wo_mono h fun x => by
  obtain ⟨o, sl, st⟩ := x
  cases o <;> first | exact i _ _ | exact i' _ _ | exact id
theorem we_c (h : Q v st) : WE (eC v) sl st Q := ⟨_, rfl, h⟩
theorem we_v (e : sl[i]? = some (.val v)) (h : Q v st) : WE (eVar i) sl st Q := ⟨(v, st), by unfold eVar; rw [e], h⟩
theorem we_vo {xs : List Val} (e : sl[i]? = some (.own xs)) (h : Q (.lst xs) st) : WE (eVarO i) sl st Q := ⟨(.lst xs, st), by unfold eVarO; rw [e], h⟩
theorem we_1 {op : Sto → Val → Option Val} (h : WE a sl st fun x st => WO (op st x) fun z => Q z st) : WE (e1 op a) sl st Q := wo_bind (wo_mono h fun _ h => wo_bind (wo_mono h fun _ h => wo_some h))
theorem we_2 (h : WE a sl st fun x st => WE b sl st fun y st => WO (op st x y) fun z => Q z st) : WE (e2 op a b) sl st Q := wo_bind (wo_mono h fun _ h => wo_bind (wo_mono h fun _ h => wo_bind (wo_mono h fun _ h => wo_some h)))
theorem wt_e (h : WE a sl st fun v st => ∃ x, v = .bl x ∧ QT x st) : WT (tE a) sl st QT := wo_bind (wo_mono h fun y h => by
  obtain ⟨x, e, h⟩ := h
  rw [e]
  exact wo_some h)
theorem wt_and (h : WT t sl st fun x st => if x then WT t' sl st QT else QT false st) : WT (tAnd t t') sl st QT := wo_bind (wo_mono h fun y h => by
  obtain ⟨x, st⟩ := y
  cases x with
  | true => exact h
  | false => exact wo_some h)
theorem wt_or (h : WT t sl st fun x st => if x then QT true st else WT t' sl st QT) : WT (tOr t t') sl st QT := wo_bind (wo_mono h fun y h => by
  obtain ⟨x, st⟩ := y
  cases x with
  | true => exact wo_some h
  | false => exact h)
theorem wt_not (h : WT t sl st fun x st => QT (!x) st) : WT (tNot t) sl st QT := wo_bind (wo_mono h fun _ h => wo_some h)
theorem we_if (h : WT t sl st fun x st => if x then WE a sl st Q else WE b sl st Q) : WE (eIf t a b) sl st Q := wo_bind (wo_mono h fun y h => by
  obtain ⟨x, st⟩ := y
  cases x <;> exact h)
theorem we_and (h : WE a sl st fun v st => ∃ x, v = .bl x ∧ if x then WE b sl st Q else Q (.bl false) st) : WE (eAnd a b) sl st Q := wo_bind (wo_mono h fun y h => by
  obtain ⟨x, e, h⟩ := h
  rw [e]
  cases x with
  | true => exact h
  | false => exact wo_some h)
theorem we_or (h : WE a sl st fun v st => ∃ x, v = .bl x ∧ if x then Q (.bl true) st else WE b sl st Q) : WE (eOr a b) sl st Q := wo_bind (wo_mono h fun y h => by
  obtain ⟨x, e, h⟩ := h
  rw [e]
  cases x with
  | true => exact wo_some h
  | false => exact h)
theorem we_not (h : WE a sl st fun v st => ∃ x, v = .bl x ∧ Q (.bl (!x)) st) : WE (eNot a) sl st Q := wo_bind (wo_mono h fun y h => by
  obtain ⟨x, e, h⟩ := h
  rw [e]
  exact wo_some h)
theorem we_ch (h : WE a sl st fun x st => WE b sl st fun y st => WO (op st x y) fun z => ∃ q, z = .bl q ∧ if q then WE c sl st fun w st => WO (op' st y w) fun z => ∃ q, z = .bl q ∧ Q (.bl q) st else Q (.bl false) st) : WE (eCh op op' a b c) sl st Q :=
  wo_bind (wo_mono h fun _ h => wo_bind (wo_mono h fun _ h => wo_bind (wo_mono h fun z h => by
    obtain ⟨q, e, h⟩ := h
    rw [e]
    cases q with
    | true => exact wo_bind (wo_mono h fun _ h => wo_bind (wo_mono h fun z h => by
        obtain ⟨q, e, h⟩ := h
        rw [e]
        exact wo_some h))
    | false => exact wo_some h)))
theorem wl_n (h : QL [] st) : WL aNil sl st QL := wo_some h
theorem wl_c (h : WE a sl st fun x st => WL f sl st fun xs st => QL (x :: xs) st) : WL (aCons a f) sl st QL := wo_bind (wo_mono h fun _ h => wo_bind (wo_mono h fun _ h => wo_some h))
theorem we_tup (h : WL f sl st fun xs st => xs.length ≤ 100000 ∧ Q (.tup xs) st) : WE (eTup f) sl st Q := wo_bind (wo_mono h fun _ h => wo_if h.1 (wo_some h.2))
theorem we_d (h : WL f sl st fun xs st => Q (.lst xs) st) : WE (eD f) sl st Q := wo_bind (wo_mono h fun _ h => wo_some h)
theorem we_k (h : WL f sl st fun xs st => Q (.ref st.length) (st ++ [.lst xs])) : WE (eK f) sl st Q := wo_bind (wo_mono h fun _ h => wo_some h)
theorem wl_disp (h : WL f sl st fun xs st => xs.length ≤ 100000 ∧ QL xs st) : WL (lDisp f) sl st QL := wo_bind (wo_mono h fun _ h => wo_if h.1 (wo_some h.2))
theorem wl_1 {op : Sto → Val → Option (List Val)} (h : WE a sl st fun x st => WO (op st x) fun z => QL z st) : WL (l1 op a) sl st QL := wo_bind (wo_mono h fun _ h => wo_bind (wo_mono h fun _ h => wo_some h))
theorem wl_2 {op : Sto → Val → Val → Option (List Val)} (h : WE a sl st fun x st => WE b sl st fun y st => WO (op st x y) fun z => QL z st) : WL (l2 op a b) sl st QL := wo_bind (wo_mono h fun _ h => wo_bind (wo_mono h fun _ h => wo_bind (wo_mono h fun _ h => wo_some h)))
theorem wp_n (h : QP none st) : WP pN sl st QP := wo_some h
theorem wp_s (h : WE a sl st fun v st => ∃ i, v = .int i ∧ QP (some i) st) : WP (pS a) sl st QP := wo_bind (wo_mono h fun y h => by
  obtain ⟨x, e, h⟩ := h
  rw [e]
  exact wo_some h)
theorem wl_sl (h : WE a sl st fun x st => WP p sl st fun lo st => WP p' sl st fun hi st => ∃ xs, x = .lst xs ∧ QL (cut xs lo hi) st) : WL (lSl a p p') sl st QL := wo_bind (wo_mono h fun _ h => wo_bind (wo_mono h fun _ h => wo_bind (wo_mono h fun _ h => by
  obtain ⟨xs, e, h⟩ := h
  rw [e]
  exact wo_some h)))
theorem we_sl (h : WE a sl st fun x st => WP p sl st fun lo st => WP p' sl st fun hi st => ∃ xs, x = .lst xs ∧ Q (.lst (cut xs lo hi)) st) : WE (eSl a p p') sl st Q := wo_bind (wo_mono h fun _ h => wo_bind (wo_mono h fun _ h => wo_bind (wo_mono h fun _ h => by
  obtain ⟨xs, e, h⟩ := h
  rw [e]
  exact wo_some h)))
theorem if_t {A B : Prop} (h : A) : if (true = true) then A else B := h
theorem if_f {A B : Prop} (h : B) : if (false = true) then A else B := h
theorem if_nt {A B : Prop} (h : A) : if ((!false) = true) then A else B := h
theorem if_nf {A B : Prop} (h : B) : if ((!true) = true) then A else B := h
theorem if_dec {P : Prop} [Decidable P] {A B : Prop} (h : P → A) (h' : ¬ P → B) : if (decide P = true) then A else B := by
  by_cases p : P
  · rw [if_pos (decide_eq_true p)]; exact h p
  · rw [if_neg (by rw [decide_eq_false p]; exact Bool.false_ne_true)]; exact h' p
theorem if_ndec {P : Prop} [Decidable P] {A B : Prop} (h : ¬ P → A) (h' : P → B) : if ((!decide P) = true) then A else B := by
  by_cases p : P
  · rw [if_neg (by rw [decide_eq_true p]; exact Bool.false_ne_true)]; exact h' p
  · rw [if_pos (by rw [decide_eq_false p]; rfl)]; exact h p
theorem if_b {b : Bool} {A B : Prop} (h : b = true → A) (h' : b = false → B) : if (b = true) then A else B := by
  cases b
  · exact h' rfl
  · exact h rfl
theorem if_nb {b : Bool} {A B : Prop} (h : b = false → A) (h' : b = true → B) : if ((!b) = true) then A else B := by
  cases b
  · exact h rfl
  · exact h' rfl
/-! calls -/
theorem we_call (h : WL f sl st fun vs st => WF m vs st Q) : WE (eCall m f) sl st Q := wo_bind h
theorem wf_fn {vs : List Val} {b : S} (hl : vs.length = k) (h : WS b (vs.map .val ++ List.replicate (n - k) .no) st (fun _ st => Q .non st) Q) : WF (fnOf k n b) vs st Q := by
  show WO (if vs.length = k then _ else none) _
  refine wo_if hl (wo_bind (wo_mono h fun y h => ?_))
  obtain ⟨o, sl, st⟩ := y
  cases o with
  | nx => exact wo_some h
  | rt v => exact wo_some h
  | bk => exact h.elim
  | ct => exact h.elim
theorem isIns_of {r C : Nat} {as : List Val} (h : st[r]? = some (.ins C as)) : isIns st C (.ref r) = true := by
  show (match st[r]? with | some (.ins D _) => D == C | _ => false) = true
  rw [h]
  exact beq_self_eq_true _
theorem we_meth {C : Nat} (h : WE o sl st fun x st => ∃ r as, x = .ref r ∧ st[r]? = some (.ins C as) ∧ WL f sl st fun vs st => WF m (x :: vs) st Q) : WE (eMeth C m o f) sl st Q := wo_bind (wo_mono h fun y h => by
  obtain ⟨r, as, e, h1, h⟩ := h
  have : isIns y.2 C y.1 = true := by rw [e]; exact isIns_of h1
  rw [if_pos this]
  exact wo_bind h)
theorem we_meth2 {C C' : Nat} {m' : F} (h : WE o sl st fun x st => ∃ r as, x = .ref r ∧ ((st[r]? = some (.ins C as) ∧ WL f sl st fun vs st => WF m (x :: vs) st Q) ∨ (C ≠ C' ∧ st[r]? = some (.ins C' as) ∧ WL f sl st fun vs st => WF m' (x :: vs) st Q))) : WE (eMeth2 C m C' m' o f) sl st Q := wo_bind (wo_mono h fun y h => by
  obtain ⟨r, as, e, h⟩ := h
  rcases h with ⟨h1, h⟩ | ⟨hn, h1, h⟩
  · have : isIns y.2 C y.1 = true := by rw [e]; exact isIns_of h1
    rw [if_pos this]
    exact wo_bind h
  · have t : isIns y.2 C' y.1 = true := by rw [e]; exact isIns_of h1
    have t' : ¬ isIns y.2 C y.1 = true := by
      rw [e]
      show ¬ (match y.2[r]? with | some (.ins D _) => D == C | _ => false) = true
      rw [h1]
      exact fun z => hn (beq_iff_eq.mp z).symm
    rw [if_neg t', if_pos t]
    exact wo_bind h)
theorem we_new {C : Nat} (h : WL f sl st fun vs st => WF m (.ref st.length :: vs) (st ++ [.ins C []]) fun v st' => v = .non ∧ Q (.ref st.length) st') : WE (eNew C m f) sl st Q := wo_bind (wo_mono h fun y h => wo_bind (wo_mono h fun z h => by
  rw [h.1]
  exact wo_some h.2))
theorem wo_fld {C k r : Nat} {vs : List Val} {v : Val} {Q : Val → Prop} (h : st[r]? = some (.ins C vs)) (hv : vs[k]? = some v) (q : Q v) : WO (oFld C k st (.ref r)) Q := ⟨v, by
  show (match st[r]? with | some (.ins D vs) => if D = C then vs[k]? else none | _ => none) = _
  rw [h]
  exact (if_pos rfl).trans hv, q⟩
/-! targets -/
theorem wg_n (hi : i < sl.length) (h : QG (sl.set i (.val v))) : WG (gName i) v sl st QG := by
  show WO (if _ then _ else none) _
  exact wo_if hi (wo_some h)
theorem wg_t {xs : List Val} (hl : xs.length = n) (h : WGs gs xs sl st QG) : WG (gTup n gs) (.tup xs) sl st QG := by
  show WO (if _ then _ else none) _
  exact wo_if hl h
theorem wgs_n (h : QG sl) : WGs gNil [] sl st QG := wo_some h
theorem wgs_c {vs : List Val} (h : WG g v sl st fun sl => WGs gs vs sl st QG) : WGs (gCons g gs) (v :: vs) sl st QG := wo_bind h
/-! statements -/
theorem ws_skip (h : N sl st) : WS sSkip sl st N R := wo_some h
theorem ws_seq (h : WS s sl st (fun sl st => WS s' sl st N R) R) : WS (sSeq s s') sl st N R := wo_bind (wo_mono h fun y h => by
  obtain ⟨o, sl, st⟩ := y
  cases o with
  | nx => exact h
  | rt v => exact wo_some h
  | bk => exact h.elim
  | ct => exact h.elim)
theorem ws_drop (h : WE a sl st fun _ st => N sl st) : WS (sDrop a) sl st N R := wo_bind (wo_mono h fun _ h => wo_some h)
theorem ws_ret (h : WE a sl st R) : WS (sRet a) sl st N R := wo_bind (wo_mono h fun _ h => wo_some h)
theorem ws_asg (h : WE a sl st fun v st => WG g v sl st fun sl => N sl st) : WS (sAsg a g) sl st N R := wo_bind (wo_mono h fun _ h => wo_bind (wo_mono h fun _ h => wo_some h))
theorem ws_own (h : WL f sl st fun xs st => i < sl.length ∧ N (sl.set i (.own xs)) st) : WS (sOwn i f) sl st N R := wo_bind (wo_mono h fun _ h => wo_if h.1 (wo_some h.2))
theorem ws_par (h : WE a sl st fun x st => WE b sl st fun y st => (i < sl.length ∧ j < sl.length) ∧ N ((sl.set i (.val x)).set j (.val y)) st) : WS (sPar i j a b) sl st N R := wo_bind (wo_mono h fun _ h => wo_bind (wo_mono h fun _ h => wo_if h.1 (wo_some h.2)))
theorem ws_parvo (h : WE a sl st fun x st => WL f sl st fun y st => (i < sl.length ∧ j < sl.length) ∧ N ((sl.set i (.val x)).set j (.own y)) st) : WS (sParVO i j a f) sl st N R := wo_bind (wo_mono h fun _ h => wo_bind (wo_mono h fun _ h => wo_if h.1 (wo_some h.2)))
theorem ws_paroo (h : WL f sl st fun x st => WL f' sl st fun y st => (i < sl.length ∧ j < sl.length) ∧ N ((sl.set i (.own x)).set j (.own y)) st) : WS (sParOO i j f f') sl st N R := wo_bind (wo_mono h fun _ h => wo_bind (wo_mono h fun _ h => wo_if h.1 (wo_some h.2)))
theorem ws_if (h : WT t sl st fun x st => if x then WS s sl st N R else WS s' sl st N R) : WS (sIf t s s') sl st N R := wo_bind (wo_mono h fun y h => by
  obtain ⟨x, st⟩ := y
  cases x <;> exact h)
theorem ws_app {xs : List Val} (e : sl[i]? = some (.own xs)) (h : WE a sl st fun v st => xs.length < 100000 ∧ N (sl.set i (.own (xs ++ [v]))) st) : WS (sApp i a) sl st N R := by
  show WO (match sl[i]? with | some (.own xs) => _ | _ => none) _
  rw [e]
  exact wo_bind (wo_mono h fun _ h => wo_if h.1 (wo_some h.2))
theorem ws_ext {xs : List Val} (e : sl[i]? = some (.own xs)) (h : WL f sl st fun v st => xs.length + v.length ≤ 100000 ∧ N (sl.set i (.own (xs ++ v))) st) : WS (sExt i f) sl st N R := by
  show WO (match sl[i]? with | some (.own xs) => _ | _ => none) _
  rw [e]
  exact wo_bind (wo_mono h fun _ h => wo_if h.1 (wo_some h.2))
theorem ws_appK (h : WE o sl st fun x st => ∃ r ys, x = .ref r ∧ st[r]? = some (.lst ys) ∧ WE a sl st fun v st => ∃ xs, st[r]? = some (.lst xs) ∧ xs.length < 100000 ∧ N sl (st.set r (.lst (xs ++ [v])))) : WS (sAppK o a) sl st N R := wo_bind (wo_mono h fun y h => by
  obtain ⟨r, ys, e, h1, h⟩ := h
  rw [e]
  show WO (match y.2[r]? with | some (.lst _) => _ | _ => none) _
  rw [h1]
  refine wo_bind (wo_mono h fun z h => ?_)
  obtain ⟨xs, h2, h3, h⟩ := h
  show WO (match z.2[r]? with | some (.lst _) => _ | _ => none) _
  rw [h2]
  exact wo_if h3 (wo_some h))
theorem ws_fld {C : Nat} (h : WE a sl st fun v st => WE o sl st fun x st => ∃ r vs, x = .ref r ∧ st[r]? = some (.ins C vs) ∧ WO (putA vs k v) fun vs => N sl (st.set r (.ins C vs))) : WS (sFld C k o a) sl st N R := wo_bind (wo_mono h fun _ h => wo_bind (wo_mono h fun y h => by
  obtain ⟨r, vs, e, h1, h⟩ := h
  rw [e]
  show WO (match y.2[r]? with | some (.ins D vs) => _ | _ => none) _
  rw [h1]
  exact wo_if rfl (wo_bind (wo_mono h fun _ h => wo_some h))))
theorem ws_fld_mid {C : Nat} (h : WE a sl st fun v st1 => WE o sl st1 fun x st2 => ∃ (st0 : Sto) (vs : List Val) (rest : List Cell), x = .ref st0.length ∧ st2 = st0 ++ .ins C vs :: rest ∧ k = vs.length ∧ N sl (st0 ++ .ins C (vs ++ [v]) :: rest)) : WS (sFld C k o a) sl st N R :=
  ws_fld (wo_mono h fun p h => wo_mono h fun q h => by
    obtain ⟨st0, vs, rest, e, e2, hk, h⟩ := h
    refine ⟨_, vs, e, ?_, vs ++ [p.1], ?_, ?_⟩
    · rw [e2, List.getElem?_append_right (Nat.le_refl _), Nat.sub_self]; rfl
    · unfold putA
      rw [if_neg (by omega), if_pos hk]
    · show N sl (List.set q.2 st0.length (.ins C (vs ++ [p.1])))
      rw [e2, List.set_append_right _ _ (Nat.le_refl _), Nat.sub_self]
      exact h)
/-! walks -/
/-- what a source gives, whatever the store -/
def SrcIs (src : Src) (xs : List Val) : Prop := (∀ st i, src.item st i = some xs[i]?) ∧ ∀ st, xs.length ≤ src.len st
/-- .. in this store -/
def SrcAt (st : Sto) (src : Src) (xs : List Val) : Prop := (∀ i, src.item st i = some xs[i]?) ∧ xs.length ≤ src.len st
theorem SrcIs.at {src : Src} {xs : List Val} (h : SrcIs src xs) : SrcAt st src xs := ⟨h.1 st, h.2 st⟩
theorem view_ref {r : Nat} {xs : List Val} (h : st[r]? = some (.lst xs)) : viewQ st (.ref r) = some xs := by
  show (match st[r]? with | some (.lst xs) => some xs | _ => none) = _
  rw [h]
theorem view_refL {r : Nat} {xs : List Val} (h : st[r]? = some (.lst xs)) : viewL st (.ref r) = some xs := by
  show (match st[r]? with | some (.lst xs) => some xs | _ => none) = _
  rw [h]
theorem src_seqR {r : Nat} {xs : List Val} (h : st[r]? = some (.lst xs)) : SrcAt st (.seq (.ref r)) xs := ⟨fun i => by
  show (viewL st (.ref r)).bind _ = _
  rw [view_refL h] <;> rfl, by
  show _ ≤ ((viewL st (.ref r)).getD []).length
  rw [view_refL h]
  exact Nat.le_refl _⟩
theorem src_enumR {r : Nat} {xs : List Val} (h : st[r]? = some (.lst xs)) : SrcAt st (.enum (.ref r)) (xs.zipIdx.map fun p => .tup [.int (p.2 : Nat), p.1]) := ⟨fun i => by
  show (viewQ st (.ref r)).bind _ = _
  rw [view_ref h, List.getElem?_map, List.getElem?_zipIdx, Option.map_map, Nat.zero_add] <;> rfl, by
  show _ ≤ ((viewQ st (.ref r)).getD []).length
  rw [view_ref h, List.length_map, List.length_zipIdx]
  exact Nat.le_refl _⟩
theorem src_lst (xs : List Val) : SrcIs (.seq (.lst xs)) xs := ⟨fun _ _ => rfl, fun _ => Nat.le_refl _⟩
theorem src_tup (xs : List Val) : SrcIs (.seq (.tup xs)) xs := ⟨fun _ _ => rfl, fun _ => Nat.le_refl _⟩
theorem src_rng (lo : Int) (n : Nat) : SrcIs (.rng lo n) ((List.range n).map fun i => .int (lo + (i : Nat))) := ⟨fun _ i => by
  show some _ = some _
  congr 1
  rw [List.getElem?_map]
  by_cases h : i < n
  · rw [if_pos h, List.getElem?_range h] <;> rfl
  · rw [if_neg h, List.getElem?_eq_none (by rw [List.length_range]; omega)] <;> rfl, fun _ => by rw [List.length_map, List.length_range]; exact Nat.le_refl _⟩
theorem src_enum (xs : List Val) : SrcIs (.enum (.lst xs)) (xs.zipIdx.map fun p => .tup [.int (p.2 : Nat), p.1]) := ⟨fun _ i => by
  show some _ = some _
  congr 1
  rw [List.getElem?_map, List.getElem?_zipIdx, Option.map_map, Nat.zero_add] <;> rfl, fun _ => by rw [List.length_map, List.length_zipIdx]; exact Nat.le_refl _⟩
theorem wi_seq (h : WE a sl st fun v st => ∃ xs, v = .lst xs ∧ QI (.seq (.lst xs)) st) : WI (iSeq a) sl st QI := wo_bind (wo_mono h fun y h => by
  obtain ⟨xs, e, h⟩ := h
  obtain ⟨y, st⟩ := y
  cases e
  exact wo_some h)
theorem wi_seqT (h : WE a sl st fun v st => ∃ xs, v = .tup xs ∧ QI (.seq (.tup xs)) st) : WI (iSeq a) sl st QI := wo_bind (wo_mono h fun y h => by
  obtain ⟨xs, e, h⟩ := h
  obtain ⟨y, st⟩ := y
  cases e
  exact wo_some h)
theorem wi_seqR (h : WE a sl st fun v st => ∃ r xs, v = .ref r ∧ st[r]? = some (.lst xs) ∧ QI (.seq (.ref r)) st) : WI (iSeq a) sl st QI := wo_bind (wo_mono h fun y h => by
  obtain ⟨r, xs, e, h1, h⟩ := h
  obtain ⟨y, st⟩ := y
  cases e
  show WO ((viewL st (.ref r)).bind _) _
  rw [view_refL h1]
  exact wo_some h)
theorem wi_enumR (h : WE a sl st fun v st => ∃ r xs, v = .ref r ∧ st[r]? = some (.lst xs) ∧ QI (.enum (.ref r)) st) : WI (iEnum a) sl st QI := wo_bind (wo_mono h fun y h => by
  obtain ⟨r, xs, e, h1, h⟩ := h
  obtain ⟨y, st⟩ := y
  cases e
  show WO ((viewQ st (.ref r)).bind _) _
  rw [view_ref h1]
  exact wo_some h)
theorem wi_rg1 (h : WE a sl st fun v st => ∃ n, v = .int n ∧ (-1000000 ≤ n ∧ n ≤ 1000000) ∧ QI (.rng 0 n.toNat) st) : WI (iRg1 a) sl st QI := wo_bind (wo_mono h fun y h => by
  obtain ⟨n, e, h1, h⟩ := h
  obtain ⟨y, st⟩ := y
  cases e
  exact wo_if h1 (wo_some h))
theorem wi_rg2 (h : WE a sl st fun v st => WE b sl st fun w st => ∃ i j, v = .int i ∧ w = .int j ∧ (-1000000 ≤ i ∧ i ≤ 1000000 ∧ -1000000 ≤ j ∧ j ≤ 1000000) ∧ QI (.rng i (j - i).toNat) st) : WI (iRg2 a b) sl st QI := wo_bind (wo_mono h fun y h => wo_bind (wo_mono h fun z h => by
  obtain ⟨i, j, e, e', h1, h⟩ := h
  obtain ⟨y, st⟩ := y
  obtain ⟨z, st'⟩ := z
  cases e
  cases e'
  exact wo_if h1 (wo_some h)))
theorem wi_enum (h : WE a sl st fun v st => ∃ xs, v = .lst xs ∧ QI (.enum (.lst xs)) st) : WI (iEnum a) sl st QI := wo_bind (wo_mono h fun y h => by
  obtain ⟨xs, e, h⟩ := h
  obtain ⟨y, st⟩ := y
  cases e
  exact wo_some h)
theorem forLoop_ok {src : Src} {xs : List Val} (hs : SrcIs src xs) (Iv : Nat → Sl → Sto → Prop) (step : ∀ i x, xs[i]? = some x → ∀ sl st, Iv i sl st → WG g x sl st fun sl1 => WS s sl1 st (fun sl st => Iv (i + 1) sl st) R) (done : ∀ sl st, Iv xs.length sl st → N sl st) :
    ∀ (n i : Nat) (sl : Sl) (st : Sto), i ≤ xs.length → xs.length ≤ n + i → Iv i sl st → WO (forLoop src g s n i sl st) (ends N R)
  | n, i, sl, st, hi, hn, h => by
    unfold forLoop
    rw [hs.1 st i]
    by_cases hlt : i < xs.length
    · rw [List.getElem?_eq_getElem hlt]
      cases n with
      | zero => omega
      | succ n =>
        refine wo_bind (wo_mono (step i _ (List.getElem?_eq_getElem hlt) sl st h) fun sl1 h1 => wo_bind (wo_mono h1 fun y h2 => ?_))
        obtain ⟨o, sl2, st2⟩ := y
        cases o with
        | nx => exact forLoop_ok hs Iv step done n (i + 1) sl2 st2 hlt (by omega) h2
        | rt v => exact wo_some h2
        | bk => exact h2.elim
        | ct => exact h2.elim
    · rw [List.getElem?_eq_none (by omega)]
      have : i = xs.length := by omega
      subst this
      exact wo_some (done sl st h)
theorem ws_for {w : I} (Iv : Nat → Sl → Sto → Prop) (h : WI w sl st fun src st => ∃ xs, SrcIs src xs ∧ Iv 0 sl st ∧ (∀ i x, xs[i]? = some x → ∀ sl st, Iv i sl st → WG g x sl st fun sl1 => WS s sl1 st (fun sl st => Iv (i + 1) sl st) R) ∧ ∀ sl st, Iv xs.length sl st → N sl st) : WS (sFor w g s) sl st N R := wo_bind (wo_mono h fun y h => by
  obtain ⟨xs, hs, h0, h1, h2⟩ := h
  exact forLoop_ok hs Iv h1 h2 _ 0 sl y.2 (Nat.zero_le _) (by have := hs.2 y.2; omega) h0)
theorem whLoop_ok (Iv : Nat → Sl → Sto → Prop) (step : ∀ k sl st, Iv k sl st → WT t sl st fun x st => if x then WS s sl st (fun sl st => ∃ k', k' < k ∧ Iv k' sl st) R else N sl st) :
    ∀ (n k : Nat) (sl : Sl) (st : Sto), k < n → Iv k sl st → WO (whLoop t s n sl st) (ends N R)
  | 0, k, sl, st, hk, h => by omega
  | n + 1, k, sl, st, hk, h => by
    refine wo_bind (wo_mono (step k sl st h) fun y h1 => ?_)
    obtain ⟨x, st1⟩ := y
    cases x with
    | false => exact wo_some h1
    | true =>
      refine wo_bind (wo_mono h1 fun z h2 => ?_)
      obtain ⟨o, sl2, st2⟩ := z
      cases o with
      | nx =>
        obtain ⟨k', hk', h2⟩ := h2
        exact whLoop_ok Iv step n k' sl2 st2 (by omega) h2
      | rt v => exact wo_some h2
      | bk => exact h2.elim
      | ct => exact h2.elim
theorem ws_while {n : Nat} (Iv : Nat → Sl → Sto → Prop) (k : Nat) (hk : k < n) (h0 : Iv k sl st) (step : ∀ k sl st, Iv k sl st → WT t sl st fun x st => if x then WS s sl st (fun sl st => ∃ k', k' < k ∧ Iv k' sl st) R else N sl st) : WS (sWhile n t s) sl st N R := whLoop_ok Iv step n k sl st hk h0
/-! comprehensions that leave the store -/
theorem lcLoop_ok {A : Type} {as : List A} {enc : A → Val} {src : Src} (hs : SrcAt st src (as.map enc)) {vs : List Nat} (pp : A → Bool) (ff : A → Val)
    (step : ∀ x, x ∈ as → WG g (enc x) (wipe sl vs) st fun sl1 => WT t sl1 st fun y st' => y = pp x ∧ st' = st ∧ (pp x = true → WE a sl1 st fun v st' => v = ff x ∧ st' = st)) :
    ∀ (n i : Nat) (acc : List Val), i ≤ as.length → as.length ≤ n + i → acc.length ≤ i → as.length ≤ 100000 → lcLoop src vs g t a sl n i acc st = some (acc ++ ((as.drop i).filter pp).map ff, st)
  | n, i, acc, hi, hn, ha, hx => by
    unfold lcLoop
    rw [hs.1 i, List.getElem?_map]
    by_cases hlt : i < as.length
    · rw [List.getElem?_eq_getElem hlt]
      cases n with
      | zero => omega
      | succ n =>
        have ih := fun acc' h => lcLoop_ok hs pp ff step n (i + 1) acc' hlt (by omega) h hx
        obtain ⟨sl1, e1, ⟨y, st'⟩, e2, e3, e4, e5⟩ := step as[i] (List.getElem_mem hlt)
        have e2 : t sl1 st = some (pp as[i], st) := e2.trans (congrArg some (Prod.ext e3 e4))
        have hd : as.drop i = as[i] :: as.drop (i + 1) := by rw [List.getElem_cons_drop]
        simp only [Option.map_some, e1, e2, Option.bind_some]
        rw [hd]
        by_cases hp : pp as[i] = true
        · obtain ⟨⟨v, st'⟩, e6, e7, e8⟩ := e5 hp
          cases e7
          cases e8
          rw [if_pos hp, e6, List.filter_cons_of_pos hp]
          simp only [Option.bind_some]
          rw [if_pos (by omega), ih _ (by simp; omega)]
          simp
        · rw [if_neg hp, List.filter_cons_of_neg hp]
          exact ih acc (by omega)
    · rw [List.getElem?_eq_none (by omega), List.drop_eq_nil_of_le (by omega)]
      simp
/-- over a list that stands for another -/
theorem wl_lcA {w : I} {vs : List Nat} {A : Type} (as : List A) (enc : A → Val) (pp : A → Bool) (ff : A → Val) (hn : noOwn sl vs = true)
    (h : WI w sl st fun src st => SrcAt st src (as.map enc) ∧ as.length ≤ 100000 ∧ (∀ x, x ∈ as → WG g (enc x) (wipe sl vs) st fun sl1 => WT t sl1 st fun y st' => y = pp x ∧ st' = st ∧ (pp x = true → WE a sl1 st fun v st' => v = ff x ∧ st' = st)) ∧ QL ((as.filter pp).map ff) st) :
    WL (lComp w vs g t a) sl st QL := by
  show WO (if _ then _ else none) _
  refine wo_if hn (wo_bind (wo_mono h fun y h => ?_))
  obtain ⟨hs, hx, h1, h2⟩ := h
  refine ⟨_, lcLoop_ok hs pp ff h1 (y.1.len y.2) 0 [] (Nat.zero_le _) (by have := hs.2; rw [List.length_map] at this; omega) (Nat.le_refl _) hx, ?_⟩
  simpa using h2
/-- over a list that stands for another -/
theorem wl_lc {w : I} {vs : List Nat} {A : Type} (as : List A) (enc : A → Val) (pp : A → Bool) (ff : A → Val) (hn : noOwn sl vs = true)
    (h : WI w sl st fun src st => SrcIs src (as.map enc) ∧ as.length ≤ 100000 ∧ (∀ x, x ∈ as → WG g (enc x) (wipe sl vs) st fun sl1 => WT t sl1 st fun y st' => y = pp x ∧ st' = st ∧ (pp x = true → WE a sl1 st fun v st' => v = ff x ∧ st' = st)) ∧ QL ((as.filter pp).map ff) st) :
    WL (lComp w vs g t a) sl st QL := wl_lcA as enc pp ff hn (wo_mono h fun y h => ⟨h.1.at, h.2⟩)
theorem lcLoopS_ok {A : Type} {as : List A} {enc : A → Val} {src : Src} (hs : SrcIs src (as.map enc)) {vs : List Nat} (pp : A → Bool) (ff : A → Val)
    (step : ∀ x, x ∈ as → ∀ st, WG g (enc x) (wipe sl vs) st fun sl1 => WT t sl1 st fun y st' => y = pp x ∧ (pp x = true → WE a sl1 st' fun v _ => v = ff x)) :
    ∀ (n i : Nat) (acc : List Val) (st : Sto), i ≤ as.length → as.length ≤ n + i → acc.length ≤ i → as.length ≤ 100000 → ∃ st', lcLoop src vs g t a sl n i acc st = some (acc ++ ((as.drop i).filter pp).map ff, st')
  | n, i, acc, st, hi, hn, ha, hx => by
    unfold lcLoop
    rw [hs.1 st i, List.getElem?_map]
    by_cases hlt : i < as.length
    · rw [List.getElem?_eq_getElem hlt]
      cases n with
      | zero => omega
      | succ n =>
        have ih := fun acc' st h => lcLoopS_ok hs pp ff step n (i + 1) acc' st hlt (by omega) h hx
        obtain ⟨sl1, e1, ⟨y, st'⟩, e2, e3, e5⟩ := step as[i] (List.getElem_mem hlt) st
        have e2 : t sl1 st = some (pp as[i], st') := e2.trans (congrArg some (Prod.ext e3 rfl))
        have hd : as.drop i = as[i] :: as.drop (i + 1) := by rw [List.getElem_cons_drop]
        simp only [Option.map_some, e1, e2, Option.bind_some]
        rw [hd]
        by_cases hp : pp as[i] = true
        · obtain ⟨⟨v, st2⟩, e6, e7⟩ := e5 hp
          have e6 : a sl1 st' = some (ff as[i], st2) := e6.trans (congrArg some (Prod.ext e7 rfl))
          rw [if_pos hp, e6, List.filter_cons_of_pos hp]
          simp only [Option.bind_some]
          obtain ⟨st3, e8⟩ := ih (acc ++ [ff as[i]]) st2 (by simp; omega)
          rw [if_pos (by omega), e8]
          exact ⟨st3, by simp⟩
        · rw [if_neg hp, List.filter_cons_of_neg hp]
          exact ih acc st' (by omega)
    · rw [List.getElem?_eq_none (by omega), List.drop_eq_nil_of_le (by omega)]
      exact ⟨st, by simp⟩
/-- .. where the store may grow -/
theorem wl_lcS {w : I} {vs : List Nat} {A : Type} (as : List A) (enc : A → Val) (pp : A → Bool) (ff : A → Val) (hn : noOwn sl vs = true)
    (h : WI w sl st fun src st => SrcIs src (as.map enc) ∧ as.length ≤ 100000 ∧ (∀ x, x ∈ as → ∀ st, WG g (enc x) (wipe sl vs) st fun sl1 => WT t sl1 st fun y st' => y = pp x ∧ (pp x = true → WE a sl1 st' fun v _ => v = ff x)) ∧ ∀ st, QL ((as.filter pp).map ff) st) :
    WL (lComp w vs g t a) sl st QL := by
  show WO (if _ then _ else none) _
  refine wo_if hn (wo_bind (wo_mono h fun y h => ?_))
  obtain ⟨hs, hx, h1, h2⟩ := h
  obtain ⟨st', e⟩ := lcLoopS_ok hs pp ff h1 (y.1.len y.2) 0 [] y.2 (Nat.zero_le _) (by have := hs.2 y.2; rw [List.length_map] at this; omega) (Nat.le_refl _) hx
  refine ⟨_, e, ?_⟩
  simpa using h2 st'
theorem wl_lc0 {w : I} {vs : List Nat} (hn : noOwn sl vs = true) (h : WI w sl st fun src st => WO (lcLoop src vs g t a sl (src.len st) 0 [] st) fun p => QL p.1 p.2) : WL (lComp w vs g t a) sl st QL := by
  show WO (if _ then _ else none) _
  exact wo_if hn (wo_bind h)
theorem allBl_map {A : Type} (f : A → Bool) : ∀ as : List A, allBl (as.map fun x => .bl (f x)) = some (as.map f)
  | [] => rfl
  | x :: r => by
    show (allBl (r.map _)).bind _ = _
    rw [allBl_map f r] <;> rfl
/-- any([c for x in ..]), all(..) -/
theorem we_any {w : I} {vs : List Nat} {A : Type} (as : List A) (enc : A → Val) (ff : A → Bool) (hn : noOwn sl vs = true)
    (h : WI w sl st fun src st => SrcIs src (as.map enc) ∧ as.length ≤ 100000 ∧ (∀ x, x ∈ as → WG g (enc x) (wipe sl vs) st fun sl1 => WE a sl1 st fun v st' => v = .bl (ff x) ∧ st' = st) ∧ Q (.bl (as.any ff)) st) :
    WE (eAny (lComp w vs g tTrue a)) sl st Q := wo_bind (wo_mono (wl_lc (QL := fun xs st => xs = (as.filter fun _ => true).map (fun x => .bl (ff x)) ∧ Q (.bl (as.any ff)) st) as enc (fun _ => true) (fun x => .bl (ff x)) hn (wo_mono h fun y h => ⟨h.1, h.2.1, fun x hx => wo_mono (h.2.2.1 x hx) fun sl1 h => wo_some ⟨rfl, rfl, fun _ => h⟩, rfl, h.2.2.2⟩)) fun y h => by
    rw [h.1, List.filter_eq_self.mpr fun _ _ => rfl, allBl_map]
    exact wo_some (by simpa using h.2))
theorem we_all {w : I} {vs : List Nat} {A : Type} (as : List A) (enc : A → Val) (ff : A → Bool) (hn : noOwn sl vs = true)
    (h : WI w sl st fun src st => SrcIs src (as.map enc) ∧ as.length ≤ 100000 ∧ (∀ x, x ∈ as → WG g (enc x) (wipe sl vs) st fun sl1 => WE a sl1 st fun v st' => v = .bl (ff x) ∧ st' = st) ∧ Q (.bl (as.all ff)) st) :
    WE (eAll (lComp w vs g tTrue a)) sl st Q := wo_bind (wo_mono (wl_lc (QL := fun xs st => xs = (as.filter fun _ => true).map (fun x => .bl (ff x)) ∧ Q (.bl (as.all ff)) st) as enc (fun _ => true) (fun x => .bl (ff x)) hn (wo_mono h fun y h => ⟨h.1, h.2.1, fun x hx => wo_mono (h.2.2.1 x hx) fun sl1 h => wo_some ⟨rfl, rfl, fun _ => h⟩, rfl, h.2.2.2⟩)) fun y h => by
    rw [h.1, List.filter_eq_self.mpr fun _ _ => rfl, allBl_map]
    exact wo_some (by simpa using h.2))
theorem wt_yes (h : QT true st) : WT tTrue sl st QT := wo_some h
end
end Mi.Y

set_option Elab.async false
set_option linter.all false
set_option maxRecDepth 100000
set_option maxHeartbeats 1000000
/-! Mi, what the operations bring; lists of numbers. -/
namespace Mi.Y
open PySem L2

/-- a list of numbers; an account; a house -/
abbrev vI (ns : List Int) : Val := .lst (ns.map .int)
abbrev Acc := List Int × List Int
abbrev vA (p : Acc) : Val := .tup [vI p.1, vI p.2]
abbrev vH (h : List Acc) : Val := .lst (h.map vA)

section
variable {sl : Sl} {st : Sto} {Q : Val → Prop} {QL : List Val → Prop} {i j : Int} {x y : Val} {xs ys : List Val} {ns ms : List Int}
theorem wo_add (h : Q (.int (i + j))) : WO (oAdd st (.int i) (.int j)) Q := wo_some h
theorem wo_sub (h : Q (.int (i - j))) : WO (oSub st (.int i) (.int j)) Q := wo_some h
theorem wo_mod (hj : 0 < j) (h : Q (.int (i % j))) : WO (oMod st (.int i) (.int j)) Q := by
  show WO (if _ then _ else none) _
  exact wo_if (by simpa using hj) (wo_some h)
theorem wo_div (hj : 0 < j) (hk : j < 1073741824) (h : Q (.int (i / j))) : WO (oDiv st (.int i) (.int j)) Q := by
  show WO (if _ then _ else none) _
  exact wo_if (by simpa using ⟨hj, hk⟩) (wo_some h)
theorem wo_mul (hi : i.natAbs < big) (hj : j.natAbs < big) (h : Q (.int (i * j))) : WO (oMul st (.int i) (.int j)) Q := by
  show WO (if _ then _ else none) _
  exact wo_if (by rw [Bool.and_eq_true]; exact ⟨decide_eq_true hi, decide_eq_true hj⟩) (wo_some h)
theorem wo_pow (hj : 0 ≤ j) (hk : j ≤ 1000) (hi : i.natAbs < 2 ^ 64) (h : Q (.int (i ^ j.toNat))) : WO (oPow st (.int i) (.int j)) Q := by
  show WO (if _ then _ else none) _
  refine wo_if ?_ (wo_some h)
  rw [Bool.and_eq_true, Bool.and_eq_true]
  exact ⟨⟨decide_eq_true hj, decide_eq_true hk⟩, decide_eq_true hi⟩
theorem wo_lt (h : Q (.bl (decide (i < j)))) : WO (oLt st (.int i) (.int j)) Q := wo_some (by rw [ltB_eq i j]; exact h)
theorem wo_le (h : Q (.bl (decide (i ≤ j)))) : WO (oLe st (.int i) (.int j)) Q := wo_some (by rw [leB_eq i j]; exact h)
theorem wo_gt (h : Q (.bl (decide (j < i)))) : WO (oGt st (.int i) (.int j)) Q := wo_some (by show Q (.bl (ltB j i)); rw [ltB_eq]; exact h)
theorem wo_ge (h : Q (.bl (decide (j ≤ i)))) : WO (oGe st (.int i) (.int j)) Q := wo_some (by show Q (.bl (leB j i)); rw [leB_eq]; exact h)
theorem wo_neg (h : Q (.int (-i))) : WO (oNeg st (.int i)) Q := wo_some h
theorem wo_len (h : Q (.int (xs.length : Nat))) : WO (oLen st (.lst xs)) Q := wo_some h
theorem wo_lenI (h : Q (.int (ns.length : Nat))) : WO (oLen st (vI ns)) Q := by
  refine wo_len (xs := ns.map .int) ?_
  rw [List.length_map]
  exact h
theorem wo_lenH {hs : List Acc} (h : Q (.int (hs.length : Nat))) : WO (oLen st (vH hs)) Q := by
  refine wo_len (xs := hs.map vA) ?_
  rw [List.length_map]
  exact h
theorem wo_is {a b : Bool} (h : Q (.bl (a == b))) : WO (oIs st (.bl a) (.bl b)) Q := wo_some h
theorem wo_isn {a b : Bool} (h : Q (.bl (!(a == b)))) : WO (oIsn st (.bl a) (.bl b)) Q := wo_some h
theorem wo_addI (hl : ns.length + ms.length ≤ 100000) (h : Q (vI (ns ++ ms))) : WO (oAdd st (vI ns) (vI ms)) Q := by
  show WO (if _ then _ else none) _
  refine wo_if (by simpa using hl) (wo_some ?_)
  rw [← List.map_append]
  exact h
theorem wo_addL (hl : xs.length + ys.length ≤ 100000) (h : Q (.lst (xs ++ ys))) : WO (oAdd st (.lst xs) (.lst ys)) Q := by
  show WO (if _ then _ else none) _
  exact wo_if hl (wo_some h)
theorem wo_addI_of {zs : List Val} (e : zs = ns.map .int) (hl : ns.length + ms.length ≤ 100000) (h : Q (vI (ns ++ ms))) : WO (oAdd st (.lst zs) (vI ms)) Q := by
  subst e; exact wo_addI hl h
/-- a place by its number -/
theorem atI_nat {α : Type} {l : List α} {k : Nat} {a : α} (h : l[k]? = some a) : atI l (k : Nat) = some a := by
  have hk : k < l.length := (List.getElem?_eq_some_iff.mp h).1
  unfold atI ixN
  rw [if_pos (by omega), if_pos (by omega)]
  simpa using h
theorem atI_int {α : Type} {l : List α} {i : Int} {a : α} (h0 : 0 ≤ i) (h : l[i.toNat]? = some a) : atI l i = some a := by
  have := atI_nat h
  rwa [Int.toNat_of_nonneg h0] at this
theorem wo_ix {v : Val} (h0 : atI xs i = some v) (h : Q v) : WO (oIx st (.lst xs) (.int i)) Q := ⟨v, h0, h⟩
theorem wo_ixT {v : Val} (h0 : atI xs i = some v) (h : Q v) : WO (oIx st (.tup xs) (.int i)) Q := ⟨v, h0, h⟩
theorem wo_ixI (h0 : 0 ≤ i) {n : Int} (hn : ns[i.toNat]? = some n) (h : Q (.int n)) : WO (oIx st (vI ns) (.int i)) Q := wo_ix (atI_int h0 (by rw [List.getElem?_map, hn] <;> rfl)) h
theorem wo_ixH {hs : List Acc} (h0 : 0 ≤ i) {n : Acc} (hn : hs[i.toNat]? = some n) (h : Q (vA n)) : WO (oIx st (vH hs) (.int i)) Q := wo_ix (atI_int h0 (by rw [List.getElem?_map, hn] <;> rfl)) h
theorem wo_ixA0 {p : Acc} (h : Q (vI p.1)) : WO (oIx st (vA p) (.int 0)) Q := wo_ixT rfl h
theorem wo_ixA1 {p : Acc} (h : Q (vI p.2)) : WO (oIx st (vA p) (.int 1)) Q := wo_ixT rfl h
theorem wo_ixTI (ds : List Int) (h0 : 0 ≤ i) (h1 : i < (ds.length : Nat)) (h : ∀ d ∈ ds, Q (.int d)) : WO (oIx st (.tup (ds.map .int)) (.int i)) Q := by
  have : i.toNat < ds.length := by omega
  exact wo_ixT (atI_int h0 (by rw [List.getElem?_map, List.getElem?_eq_getElem this] <;> rfl)) (h _ (List.getElem_mem this))
theorem wo_lenR {r : Nat} (e : st[r]? = some (.lst xs)) (h : Q (.int (xs.length : Nat))) : WO (oLen st (.ref r)) Q := ⟨_, by unfold oLen; rw [view_refL e] <;> rfl, h⟩
theorem wo_ixR {r : Nat} {v : Val} (e : st[r]? = some (.lst xs)) (h0 : atI xs i = some v) (h : Q v) : WO (oIx st (.ref r) (.int i)) Q := ⟨v, by
  show (viewL st (.ref r)).bind _ = _
  rw [view_refL e]
  exact h0, h⟩
/-! in, == of numbers -/
theorem fin_int (i : Int) (ns : List Int) : fin (.int i) (ns.map .int) = decide (i ∈ ns) := by
  induction ns with
  | nil => rfl
  | cons n r ih =>
    show ((n == i) || fin (.int i) (r.map .int)) = _
    rw [ih, Bool.eq_iff_iff, Bool.or_eq_true, beq_iff_eq, decide_eq_true_eq, decide_eq_true_eq, List.mem_cons]
    exact or_congr_left eq_comm
theorem flats (ns : List Int) : (ns.map Val.int).all flat = true := by rw [List.all_map]; exact List.all_eq_true.mpr fun _ _ => rfl
theorem vin_int : vin st (.int i) (vI ns) = some (decide (i ∈ ns)) := by
  show (if _ then _ else _) = _
  rw [if_pos (by rw [flats]; rfl), fin_int]
theorem wo_in (h : Q (.bl (decide (i ∈ ns)))) : WO (oIn st (.int i) (vI ns)) Q := ⟨_, by unfold oIn; rw [vin_int] <;> rfl, h⟩
theorem wo_nin (h : Q (.bl (!decide (i ∈ ns)))) : WO (oNin st (.int i) (vI ns)) Q := ⟨_, by unfold oNin; rw [vin_int] <;> rfl, h⟩
theorem pd_ints {n : Nat} : ∀ ns : List Int, (ns.map Val.int).mapM (pd st (n + 1)) = some (ns.map PyData.int)
  | [] => rfl
  | m :: r => by
    rw [List.map_cons, List.mapM_cons, pd_ints r] <;> rfl
theorem eqvAll_ints : ∀ ns ms : List Int, PyData.eqvAll (ns.map PyData.int) (ms.map PyData.int) = decide (ns = ms)
  | [], [] => by rw [List.map_nil, PyData.eqvAll] <;> rfl
  | [], m :: r => by rw [List.map_nil, List.map_cons, PyData.eqvAll] <;> rfl
  | m :: r, [] => by rw [List.map_nil, List.map_cons, PyData.eqvAll] <;> rfl
  | n :: r, m :: r' => by
    rw [List.map_cons, List.map_cons, PyData.eqvAll, eqvAll_ints r r', PyData.eqv, Bool.eq_iff_iff]
    simp
theorem veq_ints : veq st (vI ns) (vI ms) = some (decide (ns = ms)) := by
  unfold veq
  have h : ∀ ns, pd st deep (vI ns) = some (.list (ns.map PyData.int)) := fun ns => by
    show ((ns.map Val.int).mapM (pd st 19)).map _ = _
    rw [pd_ints] <;> rfl
  rw [h, h]
  show some (PyData.eqv (.list _) (.list _)) = _
  rw [PyData.eqv, eqvAll_ints]
theorem wo_eqI (h : Q (.bl (decide (ns = ms)))) : WO (oEq st (vI ns) (vI ms)) Q := ⟨_, by unfold oEq; rw [veq_ints] <;> rfl, h⟩
theorem wo_neI (h : Q (.bl (!decide (ns = ms)))) : WO (oNe st (vI ns) (vI ms)) Q := ⟨_, by unfold oNe; rw [veq_ints] <;> rfl, h⟩
theorem veq_int : veq st (.int i) (.int j) = some (decide (i = j)) := by
  show some (PyData.eqv (.int i) (.int j)) = _
  rw [PyData.eqv] <;> rfl
theorem wo_eq (h : Q (.bl (decide (i = j)))) : WO (oEq st (.int i) (.int j)) Q := ⟨_, by unfold oEq; rw [veq_int] <;> rfl, h⟩
theorem wo_ne (h : Q (.bl (!decide (i = j)))) : WO (oNe st (.int i) (.int j)) Q := ⟨_, by unfold oNe; rw [veq_int] <;> rfl, h⟩
theorem veq_bl {a b : Bool} : veq st (.bl a) (.bl b) = some (a == b) := by
  show some (PyData.eqv (.bool a) (.bool b)) = _
  rw [PyData.eqv] <;> rfl
theorem wo_eqB {a b : Bool} (h : Q (.bl (a == b))) : WO (oEq st (.bl a) (.bl b)) Q := ⟨_, by unfold oEq; rw [veq_bl] <;> rfl, h⟩
theorem wo_neB {a b : Bool} (h : Q (.bl (!(a == b)))) : WO (oNe st (.bl a) (.bl b)) Q := ⟨_, by unfold oNe; rw [veq_bl] <;> rfl, h⟩
theorem pd_bls {n : Nat} : ∀ ns : List Bool, (ns.map Val.bl).mapM (pd st (n + 1)) = some (ns.map PyData.bool)
  | [] => rfl
  | m :: r => by
    rw [List.map_cons, List.mapM_cons, pd_bls r] <;> rfl
theorem eqvAll_bls : ∀ ns ms : List Bool, PyData.eqvAll (ns.map PyData.bool) (ms.map PyData.bool) = decide (ns = ms)
  | [], [] => by rw [List.map_nil, PyData.eqvAll] <;> rfl
  | [], m :: r => by rw [List.map_nil, List.map_cons, PyData.eqvAll] <;> rfl
  | m :: r, [] => by rw [List.map_nil, List.map_cons, PyData.eqvAll] <;> rfl
  | n :: r, m :: r' => by
    rw [List.map_cons, List.map_cons, PyData.eqvAll, eqvAll_bls r r', PyData.eqv, Bool.eq_iff_iff]
    simp
theorem veq_bls {bs cs : List Bool} : veq st (.lst (bs.map .bl)) (.lst (cs.map .bl)) = some (decide (bs = cs)) := by
  unfold veq
  have h : ∀ ns : List Bool, pd st deep (.lst (ns.map .bl)) = some (.list (ns.map PyData.bool)) := fun ns => by
    show ((ns.map Val.bl).mapM (pd st 19)).map _ = _
    rw [pd_bls] <;> rfl
  rw [h, h]
  show some (PyData.eqv (.list _) (.list _)) = _
  rw [PyData.eqv, eqvAll_bls]
theorem wo_neBs_of {ys zs : List Val} {bs cs : List Bool} (e : ys = bs.map .bl) (e' : zs = cs.map .bl) (h : Q (.bl (!decide (bs = cs)))) : WO (oNe st (.lst ys) (.lst zs)) Q := by
  subst e; subst e'
  exact ⟨_, by unfold oNe; rw [veq_bls] <;> rfl, h⟩
theorem wo_rep {k : Nat} (hl : xs.length * k ≤ 100000) (hk : k ≤ 1000000) (h : QL (List.replicate k xs).flatten) : WO (oRep st (.lst xs) (.int (k : Nat))) QL := by
  show WO (if _ then _ else none) _
  exact wo_if ⟨by omega, by omega, by simpa using hl⟩ (wo_some (by simpa using h))
/-! new lists -/
theorem allInt_ints : ∀ ns : List Int, allInt (ns.map .int) = some ns
  | [] => rfl
  | n :: r => by
    show (allInt (r.map .int)).bind _ = _
    rw [allInt_ints r] <;> rfl
theorem wo_list (h : QL (ns.map .int)) : WO (oList st (vI ns)) QL := wo_some h
theorem wo_rev (h : QL (ns.reverse.map .int)) : WO (oRev st (vI ns)) QL := wo_some (by rw [← List.map_reverse]; exact h)
theorem wo_sort (h : QL ((sortI ns).map .int)) : WO (oSort st (vI ns)) QL := ⟨_, by show (allInt (ns.map .int)).bind _ = _; rw [allInt_ints] <;> rfl, h⟩
theorem wo_sortU (hl : ns.length < 64) (h : QL ((sortU ns).map .int)) : WO (oSortU st (vI ns)) QL := ⟨_, by
  show (allInt (ns.map .int)).bind _ = _
  rw [allInt_ints]
  exact if_pos hl, h⟩
theorem wo_rg1 (hi : -1000000 ≤ i ∧ i ≤ 100000) (h : QL (((List.range i.toNat).map fun n => ((n : Nat) : Int)).map .int)) : WO (oRg1 st (.int i)) QL := by
  show WO (if _ then _ else none) _
  refine wo_if hi (wo_some ?_)
  rw [List.map_map] at h
  exact h
theorem cut_map {α β : Type} (f : α → β) (l : List α) (a b : Option Int) : cut (l.map f) a b = (cut l a b).map f := by
  unfold cut
  rw [List.length_map, List.map_take, List.map_drop]
theorem cut_length {α : Type} (l : List α) (a b : Option Int) : (cut l a b).length ≤ l.length := by
  unfold cut
  rw [List.length_take, List.length_drop]
  omega
theorem rng_at {lo : Int} {n k : Nat} {x : Val} (h : ((List.range n).map fun i => Val.int (lo + (i : Nat)))[k]? = some x) : x = .int (lo + (k : Nat)) ∧ k < n := by
  rw [List.getElem?_map] at h
  by_cases hk : k < n
  · rw [List.getElem?_range hk] at h
    cases h
    exact ⟨rfl, hk⟩
  · rw [List.getElem?_eq_none (by rw [List.length_range]; omega)] at h
    cases h
theorem rng_len {lo : Int} {n : Nat} : ((List.range n).map fun i => Val.int (lo + (i : Nat))).length = n := by rw [List.length_map, List.length_range]
theorem map_at {A : Type} {f : A → Val} {l : List A} {k : Nat} {x : Val} (h : (l.map f)[k]? = some x) : ∃ a, x = f a ∧ l[k]? = some a ∧ a ∈ l := by
  rw [List.getElem?_map] at h
  cases e : l[k]? with
  | none => rw [e] at h; cases h
  | some a => rw [e] at h; cases h; exact ⟨a, rfl, rfl, List.mem_of_getElem? e⟩
/-! sorting -/
theorem insI_perm (i : Int) : ∀ l, (insI i l).Perm (i :: l)
  | [] => .refl _
  | j :: r => by
    unfold insI
    split
    · exact .refl _
    · exact ((insI_perm i r).cons j).trans (.swap i j r)
theorem sortI_perm : ∀ l, (sortI l).Perm l
  | [] => .refl _
  | i :: r => (insI_perm i _).trans ((sortI_perm r).cons i)
theorem mem_insU {i k : Int} : ∀ {l : List Int}, k ∈ insU i l ↔ k = i ∨ k ∈ l
  | [] => by unfold insU; simp
  | j :: r => by
    unfold insU
    split
    · simp
    · split
      · rename_i h
        subst h
        simp
      · rw [List.mem_cons, mem_insU, List.mem_cons]
        constructor <;> rintro (h | h | h) <;> simp [h]
theorem mem_sortU {k : Int} : ∀ {l : List Int}, k ∈ sortU l ↔ k ∈ l
  | [] => .rfl
  | i :: r => by unfold sortU; rw [mem_insU, mem_sortU, List.mem_cons]
theorem insU_lt (i : Int) : ∀ {l : List Int}, l.Pairwise (· < ·) → (insU i l).Pairwise (· < ·)
  | [], _ => by unfold insU; exact List.pairwise_singleton _ _
  | j :: r, h => by
    unfold insU
    rw [List.pairwise_cons] at h
    split
    · rename_i hl
      refine List.pairwise_cons.mpr ⟨fun k hk => ?_, List.pairwise_cons.mpr h⟩
      rcases List.mem_cons.mp hk with z | z
      · rw [z]; exact hl
      · exact Int.lt_trans hl (h.1 k z)
    · split
      · exact List.pairwise_cons.mpr h
      · refine List.pairwise_cons.mpr ⟨fun k hk => ?_, insU_lt i h.2⟩
        rcases mem_insU.mp hk with z | z
        · rw [z]; omega
        · exact h.1 k z
theorem sortU_lt : ∀ l : List Int, (sortU l).Pairwise (· < ·)
  | [] => .nil
  | i :: r => insU_lt i (sortU_lt r)
theorem sortU_nodup (l : List Int) : (sortU l).Nodup := (sortU_lt l).imp fun h => Int.ne_of_lt h
theorem insU_len (i : Int) : ∀ l, (insU i l).length ≤ l.length + 1
  | [] => by unfold insU; simp
  | j :: r => by
    have := insU_len i r
    unfold insU
    split
    · simp
    · split <;> simp <;> omega
theorem sortU_len : ∀ l : List Int, (sortU l).length ≤ l.length
  | [] => Nat.le_refl _
  | i :: r => by
    have := sortU_len r
    have := insU_len i (sortU r)
    unfold sortU
    simp
    omega
/-- numbers in a range, none twice: so many at most -/
theorem few : ∀ {n : Nat} {l : List Int}, l.Nodup → (∀ x ∈ l, 0 ≤ x ∧ x < (n : Nat)) → l.length ≤ n
  | 0, [], _, _ => Nat.le_refl _
  | 0, x :: r, _, h => by have := h x (List.mem_cons_self ..); omega
  | n + 1, l, hn, h => by
    have h1 : (l.erase (n : Nat)).length ≤ n := few (hn.erase _) fun x hx => by
      have h2 := (hn.mem_erase_iff).mp hx
      have := h x h2.2
      have := h2.1
      omega
    have h3 := List.length_erase (a := ((n : Nat) : Int)) (l := l)
    rw [h3] at h1
    split at h1 <;> omega
/-- numbers below eight, each once -/
def Good (bs : List Int) : Prop := bs.Nodup ∧ ∀ x ∈ bs, 0 ≤ x ∧ x < 8
theorem Good.few {bs : List Int} (h : Good bs) : bs.length ≤ 8 := Y.few (n := 8) h.1 h.2
theorem Good.nil : Good [] := ⟨.nil, fun x h => by cases h⟩
theorem Good.sort {bs : List Int} (h : Good bs) : Good (sortI bs) := ⟨(sortI_perm bs).nodup_iff.mpr h.1, fun x hx => h.2 x ((sortI_perm bs).mem_iff.mp hx)⟩
theorem Good.sortU {bs : List Int} (h : ∀ x ∈ bs, 0 ≤ x ∧ x < 8) : Good (sortU bs) := ⟨sortU_nodup bs, fun x hx => h x (mem_sortU.mp hx)⟩
theorem Good.snoc {bs : List Int} (h : Good bs) {r : Int} (hn : r ∉ bs) (h0 : 0 ≤ r) (h8 : r < 8) : Good (bs ++ [r]) := ⟨List.nodup_append.mpr ⟨h.1, List.pairwise_singleton _ _, fun a ha b hb e => by
  rw [List.mem_singleton] at hb
  exact hn (hb ▸ e ▸ ha)⟩, fun x hx => by
  rcases List.mem_append.mp hx with z | z
  · exact h.2 x z
  · rw [List.mem_singleton] at z
    rw [z]; exact ⟨h0, h8⟩⟩
theorem decide_congr_eq {p q : Prop} [Decidable p] [Decidable q] (h : p = q) : decide p = decide q := decide_eq_decide.mpr (iff_of_eq h)
theorem atI_neg1 {α : Type} {l : List α} {a : α} (h0 : 0 < l.length) (h : l[l.length - 1]? = some a) : atI l (-1) = some a := by
  unfold atI ixN
  rw [if_neg (by omega), if_pos (by omega)]
  show l[_]? = _
  rw [← h]
  congr 1
  omega
theorem cut_last (l : List Int) : cut (l.map Val.int) (some (-1)) none = (l.drop (l.length - 1)).map .int := by
  rw [cut_map]
  congr 1
  have e : HT.sIx l.length 0 (some (-1)) = l.length - 1 := by
    show (if (-1 : Int) < 0 then ((-1 : Int) + (l.length : Int)).toNat else min (-1 : Int).toNat l.length) = _
    rw [if_pos (by decide)]
    omega
  unfold cut
  rw [e]
  exact List.take_of_length_le (by rw [List.length_drop, HT.sIx_none]; omega)
theorem last_one {l : List Int} {a : Int} : decide (l.drop (l.length - 1) = [a]) = decide (l.getLast? = some a) := by
  refine decide_eq_decide.mpr ?_
  cases h : l.length with
  | zero => rw [List.length_eq_zero_iff.mp h]; simp
  | succ n =>
    have hn : n < l.length := by omega
    rw [List.getLast?_eq_getElem?, h, Nat.add_sub_cancel, List.getElem?_eq_getElem hn, List.drop_eq_getElem_cons hn, List.drop_eq_nil_of_le (by omega)]
    simp
theorem wo_eqI_of {ys : List Val} (e : ys = ns.map .int) (h : Q (.bl (decide (ns = ms)))) : WO (oEq st (.lst ys) (vI ms)) Q := by
  subst e; exact wo_eqI h
end
end Mi.Y

set_option Elab.async false
set_option linter.all false
set_option maxRecDepth 100000
set_option maxHeartbeats 1000000
/-! Mi: a door as it stands in the store. -/
namespace Mi.Y
open PySem L2

/-- a code: whose, when it was asked, whether it is open still -/
structure Code where
  own : Int
  born : Int
  op : Bool
def vC (c : Code) : List Val := [.int c.own, .int c.born, .bl c.op]
/-- what a door holds -/
structure DS where
  many : Int
  kind : Str
  life : Int
  tries : Int
  gone : Int
  codes : List Code
  wrong : List Int
  boxes : List (List Int)
  lines : List Val
/-- where its parts stand -/
structure DA where
  d : Nat
  s : Nat
  c : Nat
  w : Nat
  b : Nat
  l : Nat
  cr : List Nat
  br : List Nat
def DA.foot (A : DA) : List Nat := [A.d, A.s, A.c, A.w, A.b, A.l] ++ (A.cr ++ A.br)
/-- places that hold these -/
def Holds (st : Sto) : List Nat → List (List Val) → Prop
  | [], [] => True
  | r :: rs, x :: xs => st[r]? = some (.lst x) ∧ Holds st rs xs
  | _, _ => False
def insS (A : DA) (D : DS) : Cell := .ins 0 [.int D.many, .str D.kind, .int D.life, .int D.tries, .int D.gone, .ref A.c, .ref A.w, .ref A.b]
structure DoorAt (st : Sto) (A : DA) (D : DS) : Prop where
  d : st[A.d]? = some (.ins 1 [.ref A.s, .ref A.l])
  s : st[A.s]? = some (insS A D)
  c : st[A.c]? = some (.lst (A.cr.map .ref))
  w : st[A.w]? = some (.lst (D.wrong.map .int))
  b : st[A.b]? = some (.lst (A.br.map .ref))
  l : st[A.l]? = some (.lst D.lines)
  cs : Holds st A.cr (D.codes.map vC)
  bs : Holds st A.br (D.boxes.map fun x => x.map .int)
  nd : A.foot.Nodup
section
variable {st st' : Sto} {A : DA} {D : DS}
theorem Holds.len : ∀ {rs : List Nat} {xs : List (List Val)}, Holds st rs xs → rs.length = xs.length
  | [], [], _ => rfl
  | r :: rs, x :: xs, h => by simp [Holds.len h.2]
  | [], _ :: _, h => h.elim
  | _ :: _, [], h => h.elim
theorem Holds.at : ∀ {rs : List Nat} {xs : List (List Val)} {i r : Nat} {x : List Val}, Holds st rs xs → rs[i]? = some r → xs[i]? = some x → st[r]? = some (.lst x)
  | [], [], _, _, _, _, h, _ => by cases h
  | r :: rs, x :: xs, 0, _, _, h, h1, h2 => by cases h1; cases h2; exact h.1
  | r :: rs, x :: xs, i + 1, _, _, h, h1, h2 => Holds.at h.2 h1 h2
  | [], _ :: _, _, _, _, h, _, _ => h.elim
  | _ :: _, [], _, _, _, h, _, _ => h.elim
theorem Holds.same : ∀ {rs : List Nat} {xs : List (List Val)}, Holds st rs xs → (∀ r ∈ rs, st'[r]? = st[r]?) → Holds st' rs xs
  | [], [], h, _ => h
  | r :: rs, x :: xs, h, e => ⟨(e r (List.mem_cons_self ..)).trans h.1, Holds.same h.2 fun q hq => e q (List.mem_cons_of_mem _ hq)⟩
  | [], _ :: _, h, _ => h.elim
  | _ :: _, [], h, _ => h.elim
theorem Holds.lt : ∀ {rs : List Nat} {xs : List (List Val)}, Holds st rs xs → ∀ r ∈ rs, r < st.length
  | [], [], _, _, hr => by cases hr
  | r :: rs, x :: xs, h, q, hq => by
    rcases List.mem_cons.mp hq with e | e
    · rw [e]; exact (List.getElem?_eq_some_iff.mp h.1).1
    · exact Holds.lt h.2 q e
  | [], _ :: _, h, _, _ => h.elim
  | _ :: _, [], h, _, _ => h.elim
theorem Holds.snoc {r : Nat} {x : List Val} (hx : st[r]? = some (.lst x)) : ∀ {rs : List Nat} {xs : List (List Val)}, Holds st rs xs → Holds st (rs ++ [r]) (xs ++ [x])
  | [], [], _ => ⟨hx, trivial⟩
  | _ :: _, _ :: _, h => ⟨h.1, Holds.snoc hx h.2⟩
  | [], _ :: _, h => h.elim
  | _ :: _, [], h => h.elim
/-- the door reads its own places alone -/
theorem DoorAt.same (h : DoorAt st A D) (e : ∀ r ∈ A.foot, st'[r]? = st[r]?) : DoorAt st' A D where
  d := (e _ (by simp [DA.foot])).trans h.d
  s := (e _ (by simp [DA.foot])).trans h.s
  c := (e _ (by simp [DA.foot])).trans h.c
  w := (e _ (by simp [DA.foot])).trans h.w
  b := (e _ (by simp [DA.foot])).trans h.b
  l := (e _ (by simp [DA.foot])).trans h.l
  cs := h.cs.same fun r hr => e r (by simp [DA.foot, hr])
  bs := h.bs.same fun r hr => e r (by simp [DA.foot, hr])
  nd := h.nd
theorem lt_of_some {r : Nat} {c : Cell} (h : st[r]? = some c) : r < st.length := (List.getElem?_eq_some_iff.mp h).1
theorem DoorAt.lt (h : DoorAt st A D) : ∀ r ∈ A.foot, r < st.length := by
  intro r hr
  simp only [DA.foot, List.cons_append, List.nil_append, List.mem_cons, List.mem_append] at hr
  rcases hr with e | e | e | e | e | e | e | e
  · rw [e]; exact lt_of_some h.d
  · rw [e]; exact lt_of_some h.s
  · rw [e]; exact lt_of_some h.c
  · rw [e]; exact lt_of_some h.w
  · rw [e]; exact lt_of_some h.b
  · rw [e]; exact lt_of_some h.l
  · exact h.cs.lt r e
  · exact h.bs.lt r e
theorem DoorAt.push (h : DoorAt st A D) (c : Cell) : DoorAt (st ++ [c]) A D := h.same fun r hr => by rw [List.getElem?_append_left (h.lt r hr)]
theorem set_ne {r q : Nat} {c : Cell} (h : r ≠ q) : (st.set q c)[r]? = st[r]? := List.getElem?_set_ne (Ne.symm h)
theorem set_at {r : Nat} {c : Cell} (h : r < st.length) : (st.set r c)[r]? = some c := List.getElem?_set_self h
theorem DoorAt.else (h : DoorAt st A D) {q : Nat} {c : Cell} (hq : q ∉ A.foot) : DoorAt (st.set q c) A D := h.same fun r hr => set_ne fun e => hq (e ▸ hr)
/-- what Nodup says of the parts -/
theorem DoorAt.ne (h : DoorAt st A D) : (A.d ≠ A.s ∧ A.d ≠ A.c ∧ A.d ≠ A.w ∧ A.d ≠ A.b ∧ A.d ≠ A.l) ∧ (A.s ≠ A.c ∧ A.s ≠ A.w ∧ A.s ≠ A.b ∧ A.s ≠ A.l) ∧ (A.c ≠ A.w ∧ A.c ≠ A.b ∧ A.c ≠ A.l) ∧ (A.w ≠ A.b ∧ A.w ≠ A.l) ∧ A.b ≠ A.l := by
  have := h.nd
  simp only [DA.foot, List.cons_append, List.nil_append, List.nodup_cons, List.mem_cons, not_or] at this
  obtain ⟨⟨a1, a2, a3, a4, a5, _⟩, ⟨b1, b2, b3, b4, _⟩, ⟨c1, c2, c3, _⟩, ⟨d1, d2, _⟩, ⟨e1, _⟩, _⟩ := this
  exact ⟨⟨a1, a2, a3, a4, a5⟩, ⟨b1, b2, b3, b4⟩, ⟨c1, c2, c3⟩, ⟨d1, d2⟩, e1⟩
theorem DoorAt.nc (h : DoorAt st A D) : ∀ r ∈ A.cr, r ≠ A.d ∧ r ≠ A.s ∧ r ≠ A.c ∧ r ≠ A.w ∧ r ≠ A.b ∧ r ≠ A.l := by
  intro r hr
  have := h.nd
  simp only [DA.foot, List.cons_append, List.nil_append, List.nodup_cons, List.mem_cons, List.mem_append, not_or] at this
  obtain ⟨⟨_, _, _, _, _, a, _⟩, ⟨_, _, _, _, b, _⟩, ⟨_, _, _, c, _⟩, ⟨_, _, d, _⟩, ⟨_, e, _⟩, ⟨f, _⟩, _⟩ := this
  exact ⟨fun z => a (z ▸ hr), fun z => b (z ▸ hr), fun z => c (z ▸ hr), fun z => d (z ▸ hr), fun z => e (z ▸ hr), fun z => f (z ▸ hr)⟩
theorem DoorAt.nb (h : DoorAt st A D) : ∀ r ∈ A.br, r ≠ A.d ∧ r ≠ A.s ∧ r ≠ A.c ∧ r ≠ A.w ∧ r ≠ A.b ∧ r ≠ A.l := by
  intro r hr
  have := h.nd
  simp only [DA.foot, List.cons_append, List.nil_append, List.nodup_cons, List.mem_cons, List.mem_append, not_or] at this
  obtain ⟨⟨_, _, _, _, _, _, a⟩, ⟨_, _, _, _, _, b⟩, ⟨_, _, _, _, c⟩, ⟨_, _, _, d⟩, ⟨_, _, e⟩, ⟨_, f⟩, _⟩ := this
  exact ⟨fun z => a (z ▸ hr), fun z => b (z ▸ hr), fun z => c (z ▸ hr), fun z => d (z ▸ hr), fun z => e (z ▸ hr), fun z => f (z ▸ hr)⟩
/-! one part is written -/
theorem DoorAt.setS (h : DoorAt st A D) (g : Int) : DoorAt (st.set A.s (insS A { D with gone := g })) A { D with gone := g } := by
  obtain ⟨⟨a1, a2, a3, a4, a5⟩, ⟨b1, b2, b3, b4⟩, _⟩ := h.ne
  exact ⟨by rw [set_ne a1]; exact h.d, set_at (lt_of_some h.s), by rw [set_ne b1.symm]; exact h.c, by rw [set_ne b2.symm]; exact h.w, by rw [set_ne b3.symm]; exact h.b, by rw [set_ne b4.symm]; exact h.l,
    h.cs.same fun r hr => set_ne (h.nc r hr).2.1, h.bs.same fun r hr => set_ne (h.nb r hr).2.1, h.nd⟩
theorem DoorAt.setW (h : DoorAt st A D) (g : List Int) : DoorAt (st.set A.w (.lst (g.map .int))) A { D with wrong := g } := by
  obtain ⟨⟨a1, a2, a3, a4, a5⟩, ⟨b1, b2, b3, b4⟩, ⟨c1, c2, c3⟩, ⟨d1, d2⟩, e1⟩ := h.ne
  exact ⟨by rw [set_ne a3]; exact h.d, by rw [set_ne b2]; exact h.s, by rw [set_ne c1]; exact h.c, set_at (lt_of_some h.w), by rw [set_ne d1.symm]; exact h.b, by rw [set_ne d2.symm]; exact h.l,
    h.cs.same fun r hr => set_ne (h.nc r hr).2.2.2.1, h.bs.same fun r hr => set_ne (h.nb r hr).2.2.2.1, h.nd⟩
theorem DoorAt.setL (h : DoorAt st A D) (g : List Val) : DoorAt (st.set A.l (.lst g)) A { D with lines := g } := by
  obtain ⟨⟨a1, a2, a3, a4, a5⟩, ⟨b1, b2, b3, b4⟩, ⟨c1, c2, c3⟩, ⟨d1, d2⟩, e1⟩ := h.ne
  exact ⟨by rw [set_ne a5]; exact h.d, by rw [set_ne b4]; exact h.s, by rw [set_ne c3]; exact h.c, by rw [set_ne d2]; exact h.w, by rw [set_ne e1]; exact h.b, set_at (lt_of_some h.l),
    h.cs.same fun r hr => set_ne (h.nc r hr).2.2.2.2.2, h.bs.same fun r hr => set_ne (h.nb r hr).2.2.2.2.2, h.nd⟩
/-- a new code, at the end of the store -/
theorem DoorAt.addC (h : DoorAt st A D) (q : Code) : DoorAt (List.set (α := Cell) (st ++ [Cell.lst (vC q)]) A.c (.lst (A.cr.map Val.ref ++ [Val.ref st.length]))) { A with cr := A.cr ++ [st.length] } { D with codes := D.codes ++ [q] } := by
  obtain ⟨⟨a1, a2, a3, a4, a5⟩, ⟨b1, b2, b3, b4⟩, ⟨c1, c2, c3⟩, ⟨d1, d2⟩, e1⟩ := h.ne
  have p := h.push (.lst (vC q))
  have hl : st.length ∉ A.foot := fun z => Nat.lt_irrefl _ (h.lt _ z)
  have hc := lt_of_some h.c
  refine ⟨by rw [set_ne a2]; exact p.d, by rw [set_ne b1]; exact p.s, by rw [set_at (by simp; omega)]; simp, by rw [set_ne c1.symm]; exact p.w, by rw [set_ne c2.symm]; exact p.b, by rw [set_ne c3.symm]; exact p.l, ?_, p.bs.same fun r hr => set_ne (h.nb r hr).2.2.1, ?_⟩
  · show Holds _ (A.cr ++ [st.length]) ((D.codes ++ [q]).map vC)
    rw [List.map_append]
    exact (p.cs.same fun r hr => set_ne (h.nc r hr).2.2.1).snoc (by rw [set_ne (by omega), List.getElem?_append_right (Nat.le_refl _), Nat.sub_self]; rfl)
  · have e : ({ A with cr := A.cr ++ [st.length] } : DA).foot = [A.d, A.s, A.c, A.w, A.b, A.l] ++ ((A.cr ++ [st.length]) ++ A.br) := rfl
    have pe : ([A.d, A.s, A.c, A.w, A.b, A.l] ++ ((A.cr ++ [st.length]) ++ A.br)).Perm (st.length :: A.foot) := by
      unfold DA.foot
      have h1 : ((A.cr ++ [st.length]) ++ A.br).Perm (st.length :: (A.cr ++ A.br)) := by
        rw [List.append_assoc]
        exact List.perm_middle
      exact (h1.append_left _).trans List.perm_middle
    rw [e]
    exact pe.nodup_iff.mpr (List.nodup_cons.mpr ⟨hl, h.nd⟩)
end
end Mi.Y

set_option Elab.async false
set_option linter.all false
set_option maxRecDepth 100000
set_option maxHeartbeats 1000000
/-! Mi: words for stores at a place; how a door goes on; what a door tells, plainly. -/
namespace Mi.Y
open PySem L2
section
variable {sl : Sl} {st : Sto} {N : Sl → Sto → Prop} {R : Val → Sto → Prop} {QG : Sl → Prop} {o i a : E} {gs : Gs} {C k n : Nat}
theorem ws_sub (h : WE a sl st fun v st => WE o sl st fun x st => WE i sl st fun y st => ∃ r xs k j, x = .ref r ∧ y = .int k ∧ st[r]? = some (.lst xs) ∧ ixN xs.length k = some j ∧ N sl (st.set r (.lst (xs.set j v)))) : WS (sSub o i a) sl st N R :=
  wo_bind (wo_mono h fun _ h => wo_bind (wo_mono h fun x h => wo_bind (wo_mono h fun y h => by
    obtain ⟨r, xs, k, j, e1, e2, e3, e4, h⟩ := h
    obtain ⟨x, st1⟩ := x
    obtain ⟨y, st2⟩ := y
    cases e1; cases e2
    show WO (match st2[r]? with | some (.lst xs) => _ | _ => none) _
    rw [e3]
    show WO (match ixN xs.length k with | some j => _ | none => none) _
    rw [e4]
    exact wo_some h)))
theorem ws_subA (h : WE o sl st fun x st => WE i sl st fun y st => ∃ r xs k n, x = .ref r ∧ y = .int k ∧ st[r]? = some (.lst xs) ∧ atI xs k = some (.int n) ∧ WE a sl st fun v st => ∃ m ys j, v = .int m ∧ st[r]? = some (.lst ys) ∧ ixN ys.length k = some j ∧ N sl (st.set r (.lst (ys.set j (.int (n + m)))))) : WS (sSubA o i a) sl st N R :=
  wo_bind (wo_mono h fun x h => wo_bind (wo_mono h fun y h => by
    obtain ⟨r, xs, k, n, e1, e2, e3, e4, h⟩ := h
    obtain ⟨x, st1⟩ := x
    obtain ⟨y, st2⟩ := y
    cases e1; cases e2
    show WO (match st2[r]? with | some (.lst xs) => _ | _ => none) _
    rw [e3]
    show WO (match atI xs k with | some (.int x) => _ | _ => none) _
    rw [e4]
    refine wo_bind (wo_mono h fun z h => ?_)
    obtain ⟨m, ys, j, e5, e6, e7, h⟩ := h
    obtain ⟨z, st3⟩ := z
    cases e5
    show WO (match st3[r]? with | some (.lst ys) => _ | _ => none) _
    rw [e6]
    show WO (match ixN ys.length k with | some j => _ | none => none) _
    rw [e7]
    exact wo_some h))
theorem ws_fldA (h : WE o sl st fun x st => ∃ r vs n, x = .ref r ∧ st[r]? = some (.ins C vs) ∧ vs[k]? = some (.int n) ∧ WE a sl st fun v st => ∃ m ws, v = .int m ∧ st[r]? = some (.ins C ws) ∧ k < ws.length ∧ N sl (st.set r (.ins C (ws.set k (.int (n + m)))))) : WS (sFldA C k o a) sl st N R :=
  wo_bind (wo_mono h fun x h => by
    obtain ⟨r, vs, n, e1, e2, e3, h⟩ := h
    obtain ⟨x, st1⟩ := x
    cases e1
    show WO (match st1[r]? with | some (.ins D vs) => _ | _ => none) _
    rw [e2]
    show WO (if C = C then match vs[k]? with | some (.int x) => _ | _ => none else none) _
    rw [if_pos rfl, e3]
    refine wo_bind (wo_mono h fun z h => ?_)
    obtain ⟨m, ws, e4, e5, e6, h⟩ := h
    obtain ⟨z, st2⟩ := z
    cases e4
    show WO (match st2[r]? with | some (.ins D' ws) => _ | _ => none) _
    rw [e5]
    exact wo_if ⟨rfl, e6⟩ (wo_some h))
theorem wg_unl {xs : List Val} {r : Nat} (e : st[r]? = some (.lst xs)) (hl : xs.length = n) (h : WGs gs xs sl st QG) : WG (gUnl n gs) (.ref r) sl st QG := by
  show WO (match st[r]? with | some (.lst xs) => _ | _ => none) _
  rw [e]
  exact wo_if hl h
theorem wg_unlV {xs : List Val} (hl : xs.length = n) (h : WGs gs xs sl st QG) : WG (gUnl n gs) (.lst xs) sl st QG := by
  show WO (if _ then _ else none) _
  exact wo_if hl h
theorem forLoop_okR {src : Src} {g : G} {s : S} {xs : List Val} (Iv : Nat → Sl → Sto → Prop) (hs : ∀ i sl st, Iv i sl st → ∀ j, src.item st j = some xs[j]?) (step : ∀ i x, xs[i]? = some x → ∀ sl st, Iv i sl st → WG g x sl st fun sl1 => WS s sl1 st (fun sl st => Iv (i + 1) sl st) R) (done : ∀ sl st, Iv xs.length sl st → N sl st) :
    ∀ (n i : Nat) (sl : Sl) (st : Sto), i ≤ xs.length → xs.length ≤ n + i → Iv i sl st → WO (forLoop src g s n i sl st) (ends N R)
  | n, i, sl, st, hi, hn, h => by
    unfold forLoop
    rw [hs i sl st h i]
    by_cases hlt : i < xs.length
    · rw [List.getElem?_eq_getElem hlt]
      cases n with
      | zero => omega
      | succ n =>
        refine wo_bind (wo_mono (step i _ (List.getElem?_eq_getElem hlt) sl st h) fun sl1 h1 => wo_bind (wo_mono h1 fun y h2 => ?_))
        obtain ⟨o, sl2, st2⟩ := y
        cases o with
        | nx => exact forLoop_okR Iv hs step done n (i + 1) sl2 st2 hlt (by omega) h2
        | rt v => exact wo_some h2
        | bk => exact h2.elim
        | ct => exact h2.elim
    · rw [List.getElem?_eq_none (by omega)]
      have : i = xs.length := by omega
      subst this
      exact wo_some (done sl st h)
/-- a walk over a list of the store that stays -/
theorem ws_forR {w : I} {g : G} {s : S} (Iv : Nat → Sl → Sto → Prop) (h : WI w sl st fun src st => ∃ xs : List Val, xs.length ≤ src.len st ∧ (∀ i sl st, Iv i sl st → ∀ j, src.item st j = some xs[j]?) ∧ Iv 0 sl st ∧ (∀ i x, xs[i]? = some x → ∀ sl st, Iv i sl st → WG g x sl st fun sl1 => WS s sl1 st (fun sl st => Iv (i + 1) sl st) R) ∧ ∀ sl st, Iv xs.length sl st → N sl st) : WS (sFor w g s) sl st N R := wo_bind (wo_mono h fun y h => by
  obtain ⟨xs, hl, hs, h0, h1, h2⟩ := h
  exact forLoop_okR Iv hs h1 h2 _ 0 sl y.2 (Nat.zero_le _) (by omega) h0)
theorem ws_cut {s : S} (N' : Sl → Sto → Prop) (h : WS s sl st N' R) (i : ∀ sl st, N' sl st → N sl st) : WS s sl st N R := ws_mono h i fun _ _ h => h
theorem wo_rep3 {v : Val} {QL : List Val → Prop} (h : QL [v, v, v]) : WO (oRep st (.lst [v]) (.int 3)) QL := ⟨_, rfl, h⟩
theorem wo_ne_same {xs ys : List Val} {ns : List Int} {Q : Val → Prop} (e : xs = ns.map .int) (e' : ys = ns.map .int) (h : Q (.bl false)) : WO (oNe st (.lst xs) (.lst ys)) Q := by
  subst e; subst e'
  refine wo_neI ?_
  rw [decide_eq_true rfl]
  exact h
end
theorem veq_str {st : Sto} {a b : Str} (ha : PyData.canLay0 (.str a) = true) (hb : PyData.canLay0 (.str b) = true) : veq st (.str a) (.str b) = some (a == b) := by
  show (if PyData.canLay0 (.str a) = true then some (PyData.str a) else none).bind (fun x => (if PyData.canLay0 (.str b) = true then some (PyData.str b) else none).bind fun y => some (PyData.eqv x y)) = _
  rw [if_pos ha, if_pos hb]
  show some (PyData.eqv (.str a) (.str b)) = _
  rw [PyData.eqv] <;> rfl
theorem wo_eqS {st : Sto} {a b : Str} {Q : Val → Prop} (h : Q (.bl (a == b))) (ha : PyData.canLay0 (.str a) = true := by decide +kernel) (hb : PyData.canLay0 (.str b) = true := by decide +kernel) : WO (oEq st (.str a) (.str b)) Q := ⟨_, by unfold oEq; rw [veq_str ha hb] <;> rfl, h⟩
theorem wo_neS {st : Sto} {a b : Str} {Q : Val → Prop} (h : Q (.bl (!(a == b)))) (ha : PyData.canLay0 (.str a) = true := by decide +kernel) (hb : PyData.canLay0 (.str b) = true := by decide +kernel) : WO (oNe st (.str a) (.str b)) Q := ⟨_, by unfold oNe; rw [veq_str ha hb] <;> rfl, h⟩
/-- from one state of the store to a later one, where a door's places alone were written -/
structure Step (st : Sto) (A : DA) (st' : Sto) (A' : DA) : Prop where
  len : st.length ≤ st'.length
  fr : ∀ r, r < st.length → r ∉ A.foot → st'[r]? = st[r]?
  ft : ∀ r ∈ A'.foot, r ∈ A.foot ∨ st.length ≤ r
  id : A'.d = A.d
  is : A'.s = A.s
section
variable {st st' st2 : Sto} {A A' A2 B : DA} {D E : DS}
theorem Step.refl : Step st A st A := ⟨Nat.le_refl _, fun _ _ _ => rfl, fun _ h => .inl h, rfl, rfl⟩
theorem Step.trans (h : Step st A st' A') (h' : Step st' A' st2 A2) : Step st A st2 A2 :=
  ⟨Nat.le_trans h.len h'.len, fun r hr hn => (h'.fr r (Nat.lt_of_lt_of_le hr h.len) fun z => (h.ft r z).elim hn fun z => by omega).trans (h.fr r hr hn),
   fun r hr => (h'.ft r hr).elim (fun z => h.ft r z) fun z => .inr (Nat.le_trans h.len z), h'.id.trans h.id, h'.is.trans h.is⟩
theorem Step.set {r : Nat} {c : Cell} (hr : r ∈ A.foot) : Step st A (st.set r c) A := ⟨by rw [List.length_set]; exact Nat.le_refl _, fun q _ hq => List.getElem?_set_ne fun e => hq (by rw [← e]; exact hr), fun _ h => .inl h, rfl, rfl⟩
theorem Step.push (cs : List Cell) : Step st A (st ++ cs) A := ⟨by simp, fun q hq _ => List.getElem?_append_left hq, fun _ h => .inl h, rfl, rfl⟩
/-- two doors that share no place -/
def Dj (A B : DA) : Prop := ∀ r ∈ A.foot, r ∉ B.foot
theorem Dj.symm (h : Dj A B) : Dj B A := fun r hr hb => h r hb hr
theorem Dj.step (h : Dj A B) (hB : DoorAt st B E) (hs : Step st A st' A') : Dj A' B := fun r hr hb => (hs.ft r hr).elim (fun z => h r z hb) fun z => by have := hB.lt r hb; omega
theorem DoorAt.step (hB : DoorAt st B E) (hd : Dj A B) (hs : Step st A st' A') : DoorAt st' B E := hB.same fun r hr => hs.fr r (hB.lt r hr) fun z => hd r z hr
theorem Step.at {r : Nat} {c : Cell} (hs : Step st A st' A') (h : st[r]? = some c) (hn : r ∉ A.foot) : st'[r]? = some c := (hs.fr r (lt_of_some h) hn).trans h
end
/-! what a door tells -/
def DS.mine (D : DS) (a : Int) : List (Code × Nat) := D.codes.zipIdx.filter fun q => decide (q.1.own = a)
def DS.newest (D : DS) (a : Int) : Int := match (D.mine a).getLast? with
  | some q => (q.2 : Nat)
  | none => -1
def DS.ok (D : DS) (a : Int) (q : Code × Nat) : Bool := decide (q.1.own = a) && (q.1.op && (decide (D.gone - q.1.born < D.life) && (decide (D.kind = "any") || decide (D.newest a = (q.2 : Nat)))))
/-- whether a number leads into an account -/
def DS.isGood (D : DS) (a n : Int) : Bool := decide (0 ≤ n) && match D.codes[n.toNat]? with
  | some c => D.ok a (c, n.toNat)
  | none => false
def nums (l : List (Code × Nat)) : List Int := l.map fun q => ((q.2 : Nat) : Int)
def DS.goods (D : DS) (a : Int) : List Int := nums (D.codes.zipIdx.filter fun q => D.ok a q)
end Mi.Y

set_option Elab.async false
set_option linter.all false
set_option maxRecDepth 100000
set_option maxHeartbeats 4000000
namespace Mi.Y
open PySem L2
local macro_rules
  | `(tactic| infer_instance) => `(tactic| first
    | with_reducible first
      | refine we_c ?_
      | refine we_v (by with_unfolding_all rfl) ?_
      | refine we_2 ?_
      | refine we_1 ?_
      | refine ws_seq ?_
      | refine if_t ?_
      | refine if_f ?_
      | refine if_nt ?_
      | refine if_nf ?_
      | refine ws_asg ?_
      | (refine wg_n (by with_unfolding_all exact Nat.le_of_ble_eq_true rfl) ?_; dsimp only [List.set])
      | refine ws_if ?_
      | refine ws_ret ?_
      | refine ws_skip ?_
      | refine wt_e ?_
      | refine wt_and ?_
      | refine wt_or ?_
      | refine wt_not ?_
      | refine we_call ?_
      | refine wl_c ?_
      | refine wl_n ?_
      | refine wo_lt ?_
      | refine wo_le ?_
      | refine wo_gt ?_
      | refine wo_ge ?_
      | refine wo_add ?_
      | refine wo_sub ?_
      | refine wo_neg ?_
      | refine we_tup ?_
      | refine we_d ?_
      | refine we_k ?_
      | refine wl_disp ?_
      | refine wl_1 ?_
      | refine wl_2 ?_
      | refine we_and ?_
      | refine we_or ?_
      | refine we_not ?_
      | refine we_if ?_
      | refine we_ch ?_
      | refine wp_n ?_
      | refine wp_s ?_
      | refine wl_sl ?_
      | refine we_new ?_
      | refine we_vo (by with_unfolding_all rfl) ?_
      | refine ws_own ?_
      | refine ws_par ?_
      | refine ws_parvo ?_
      | refine ws_paroo ?_
      | refine ws_drop ?_
      | refine ws_app (by with_unfolding_all rfl) ?_
      | refine ws_ext (by with_unfolding_all rfl) ?_
      | refine ws_fld ?_
      | refine wi_rg1 ?_
      | refine wi_enum ?_
      | refine wi_seq ?_
      | refine wt_yes ?_
      | refine wgs_c ?_
      | refine wgs_n ?_
      | refine wo_list ?_
      | refine wo_lenI ?_
      | refine wo_lenH ?_
      | refine wo_in ?_
      | refine wo_nin ?_
      | refine wo_is ?_
      | refine wo_isn ?_
      | refine wo_eqI ?_
      | refine wo_neI ?_
      | refine wo_eq ?_
      | refine wo_ne ?_
      | refine wo_ixA0 ?_
      | refine wo_ixA1 ?_
      | refine wo_rev ?_
      | refine wo_sort ?_
      | refine wo_len ?_
      | refine And.intro (by simp only [List.length_cons, List.length_nil]; omega) ?_
      | (refine And.intro (And.intro (by simp only [List.length_cons, List.length_nil]; omega) (by simp only [List.length_cons, List.length_nil]; omega)) ?_; dsimp only [List.set])
    | with_reducible refine Exists.intro _ (And.intro (by with_unfolding_all rfl) ?_)
    | (show WG (gTup _ _) (.tup _) _ _ _; refine wg_t (by with_unfolding_all rfl) ?_))
/-- a place of the script, 0 behind it -/
theorem w_cell_at {ns : List Int} {k : Int} {st : Sto} {Q : Val → Sto → Prop} (h0 : 0 ≤ k) (h : ∀ c, Q (.int c) st) : WF m__law_cell_at [vI ns, .int k] st Q := by
  refine wf_fn rfl ?_
  unfold b__law_cell_at
  dsimp only [List.map, List.replicate, List.append, HAppend.hAppend, Append.append, Nat.reduceSub]
  repeat infer_instance
  by_cases hk : k < (ns.length : Nat)
  · rw [if_pos (decide_eq_true hk)]
    repeat infer_instance
    have : k.toNat < ns.length := by omega
    exact wo_ixI h0 (List.getElem?_eq_getElem this) (h _)
  · rw [if_neg (by rw [decide_eq_false hk]; decide)]
    repeat infer_instance
    exact h _
theorem w_draw {c k most : Int} {st : Sto} {Q : Val → Sto → Prop} (h0 : 0 ≤ k) (hk : k < 2 ^ 64) (hc : c.natAbs < big) (hm : 0 < most) (h : ∀ r, 0 ≤ r → r < most → Q (.int r) st) : WF m__law_draw [.int c, .int k, .int most] st Q := by
  refine wf_fn rfl ?_
  unfold b__law_draw
  dsimp only [List.map, List.replicate, List.append, HAppend.hAppend, Append.append, Nat.reduceSub]
  repeat infer_instance
  repeat infer_instance
  refine wo_mul hc (by decide +kernel) ?_
  repeat infer_instance
  refine wo_mul (Nat.lt_of_lt_of_le (m := 2 ^ 64) (by omega) (by decide +kernel)) (by decide +kernel) ?_
  repeat infer_instance
  refine wo_mod (by decide) ?_
  refine wo_ixTI [1000003, 1000033, 1000037, 1000039, 1000081, 1000099, 1000117, 1000121, 1000133, 1000151, 1000159, 1000171, 1000183, 1000187, 1000193, 1000199] (Int.emod_nonneg _ (by decide)) (by have := Int.emod_lt_of_pos k (show (0 : Int) < 16 by decide); exact this) fun d hd => ?_
  have hd' : 0 < d := (show ∀ d ∈ ([1000003, 1000033, 1000037, 1000039, 1000081, 1000099, 1000117, 1000121, 1000133, 1000151, 1000159, 1000171, 1000183, 1000187, 1000193, 1000199] : List Int), 0 < d by decide) d hd
  refine wo_mod hd' ?_
  repeat infer_instance
  exact wo_mod hm (h _ (Int.emod_nonneg _ (by omega)) (Int.emod_lt_of_pos _ hm))
theorem natAbs_lt_of {a : Int} {n : Nat} (h1 : -(n : Int) < a) (h2 : a < n) : a.natAbs < n := by omega
theorem w_number {c k l : Int} {st : Sto} {Q : Val → Sto → Prop} (h0 : 0 ≤ k) (hk : k < 1000) (hl : 0 < l) (hl2 : l < 1000) (h : ∀ r, 0 ≤ r → r < l → Q (.int r) st) : WF m__law_number [.int c, .int k, .int l] st Q := by
  refine wf_fn rfl ?_
  unfold b__law_number
  dsimp only [List.map, List.replicate, List.append, HAppend.hAppend, Append.append, Nat.reduceSub]
  repeat infer_instance
  refine wo_pow (by decide) (by decide) (by decide) ?_
  repeat infer_instance
  by_cases h1 : (10 : Int) ^ (18 : Int).toNat ≤ c
  · rw [if_pos (decide_eq_true h1)]
    repeat infer_instance
    refine wo_pow (by decide) (by decide) (by decide) ?_
    repeat infer_instance
    refine wo_mod (by decide) ?_
    refine wo_ixTI [1, 7, 49, 343, 2401] (Int.emod_nonneg _ (by decide)) (by have := Int.emod_lt_of_pos k (show (0 : Int) < 5 by decide); exact this) fun d hd => ?_
    have hd' : 0 < d ∧ d ≤ 2401 := (show ∀ d ∈ ([1, 7, 49, 343, 2401] : List Int), 0 < d ∧ d ≤ 2401 by decide) d hd
    refine wo_div hd'.1 (by omega) ?_
    repeat infer_instance
    exact wo_mod hl (h _ (Int.emod_nonneg _ (by omega)) (Int.emod_lt_of_pos _ hl))
  · rw [if_neg (by rw [decide_eq_false h1]; decide)]
    repeat infer_instance
    refine wo_mod (by decide) ?_
    repeat infer_instance
    have s0 : 0 ≤ c % 1000003 := Int.emod_nonneg c (by decide)
    have s1 : c % 1000003 < 1000003 := Int.emod_lt_of_pos c (by decide)
    refine wo_mul (by decide +kernel) (Nat.lt_of_lt_of_le (m := 2 ^ 64) (by omega) (by decide +kernel)) ?_
    repeat infer_instance
    refine wo_mul (by decide +kernel) (Nat.lt_of_lt_of_le (m := 2 ^ 64) (by omega) (by decide +kernel)) ?_
    repeat infer_instance
    have b1 : (c % 1000003 + 977 * k).natAbs < 2 ^ 64 := by omega
    have b2 : (c % 1000003 + 31 * k + 5).natAbs < 2 ^ 64 := by omega
    refine wo_mul (Nat.lt_of_lt_of_le b1 (by decide +kernel)) (Nat.lt_of_lt_of_le b2 (by decide +kernel)) ?_
    repeat infer_instance
    refine wo_mod (by decide) ?_
    repeat infer_instance
    have hm := Int.emod_nonneg k (show (9 : Int) ≠ 0 by decide)
    have hm2 := Int.emod_lt_of_pos k (show (0 : Int) < 9 by decide)
    refine w_draw (by omega) (by omega) ?_ (by decide) fun r hr1 hr2 => ?_
    · rw [Int.natAbs_mul]
      refine Nat.lt_of_lt_of_le (Nat.mul_lt_mul'' b1 b2) ?_
      decide +kernel
    · repeat infer_instance
      exact wo_mod hl (h _ (Int.emod_nonneg _ (by omega)) (Int.emod_lt_of_pos _ hl))
/-! no lambda stands within -/
def tt : Nat → Bool := fun _ => true
theorem okV_own {own : Nat → Bool} : ∀ (n : Nat) {x : Val}, okV tt n x = true → okV own n x = true
  | 0, x, h => by
    cases x <;> first | rfl | exact h
  | n + 1, x, h => by
    cases x with
    | lst xs =>
      have h : xs.all (okV tt n) = true := h
      show xs.all (okV own n) = true
      exact List.all_eq_true.mpr fun y hy => okV_own n (List.all_eq_true.mp h y hy)
    | tup xs =>
      have h : xs.all (okV tt n) = true := h
      show xs.all (okV own n) = true
      exact List.all_eq_true.mpr fun y hy => okV_own n (List.all_eq_true.mp h y hy)
    | fn i cs => cases h
    | _ => rfl
theorem okV_up {own : Nat → Bool} : ∀ (n : Nat) {x : Val}, okV own n x = true → okV own (n + 1) x = true
  | 0, x, h => by
    cases x <;> first | rfl | cases h
  | n + 1, x, h => by
    cases x with
    | lst xs =>
      have h : xs.all (okV own n) = true := h
      show xs.all (okV own (n + 1)) = true
      exact List.all_eq_true.mpr fun y hy => okV_up n (List.all_eq_true.mp h y hy)
    | tup xs =>
      have h : xs.all (okV own n) = true := h
      show xs.all (okV own (n + 1)) = true
      exact List.all_eq_true.mpr fun y hy => okV_up n (List.all_eq_true.mp h y hy)
    | fn i cs =>
      have h : (!own i && cs.all (okV own n)) = true := h
      show (!own i && cs.all (okV own (n + 1))) = true
      rw [Bool.and_eq_true] at h ⊢
      exact ⟨h.1, List.all_eq_true.mpr fun y hy => okV_up n (List.all_eq_true.mp h.2 y hy)⟩
    | _ => rfl
theorem okV_le {own : Nat → Bool} {n m : Nat} {x : Val} (h : okV own n x = true) (hm : n ≤ m) : okV own m x = true := by
  induction m with
  | zero => rw [show n = 0 by omega] at h; exact h
  | succ m ih =>
    by_cases e : n = m + 1
    · rw [← e]; exact h
    · exact okV_up m (ih (by omega))
theorem clo_id {own : OwnT} {sl : Sl} : ∀ (n : Nat) {x : Val}, okV tt 8 x = true → clo own sl n x = some x
  | 0, x, h => if_pos (okV_own 8 h)
  | n + 1, x, h => by
    have p : ∀ {y : Val}, okV tt 8 y = true → (if okV (ownB own) 8 y = true then some y else none) = some y := fun h => if_pos (okV_own 8 h)
    cases x with
    | lst xs =>
      have h : xs.all (okV tt 7) = true := h
      show (xs.mapM (clo own sl n)).map Val.lst = _
      have e : ∀ ys : List Val, (∀ y ∈ ys, okV tt 7 y = true) → ys.mapM (clo own sl n) = some ys := by
        intro ys
        induction ys with
        | nil => intro _; rfl
        | cons y ys ih =>
          intro hy
          rw [List.mapM_cons, clo_id n (okV_up 7 (hy y List.mem_cons_self)), ih fun z hz => hy z (List.mem_cons_of_mem _ hz)]
          rfl
      rw [e xs (List.all_eq_true.mp h)]
      rfl
    | fn i cs => cases h
    | non => exact p h
    | bl b => exact p h
    | int b => exact p h
    | str b => exact p h
    | ref b => exact p h
    | tup b => exact p h
theorem okC_own {own : Nat → Bool} {c : Cell} (h : okC tt c = true) : okC own c = true := by
  cases c with
  | lst xs => exact List.all_eq_true.mpr fun y hy => okV_own 8 (List.all_eq_true.mp h y hy)
  | ins C xs => exact List.all_eq_true.mpr fun y hy => okV_own 8 (List.all_eq_true.mp h y hy)
  | dk xs => exact List.all_eq_true.mpr fun y hy => okV_own 8 (List.all_eq_true.mp h y hy)
  | dt xs => exact List.all_eq_true.mpr fun y hy => okV_own 8 (List.all_eq_true.mp h y hy)
  | tb k => rfl
theorem okS_own {own : Nat → Bool} {st : Sto} (h : st.all (okC tt) = true) : st.all (okC own) = true := List.all_eq_true.mpr fun c hc => okC_own (List.all_eq_true.mp h c hc)
theorem we_lam {n k i : Nat} {sl : Sl} {st : Sto} {Q : Val → Sto → Prop} (h : st[n]? = some (.tb k)) (q : Q (.fn i []) st) : WE (eLam n k i) sl st Q := by
  refine ⟨(.fn i [], st), ?_, q⟩
  unfold eLam
  rw [h]
  exact if_pos rfl
theorem we_callBW {mm : F} {own : OwnT} {a : L} {sl : Sl} {st : Sto} {Q : Val → Sto → Prop} (h : WL a sl st fun vs st' => st'.all (okC tt) = true ∧ ∃ ds, vs.mapM (clo own sl 2) = some ds ∧ WF mm ds st' Q) : WE (eCallB mm own a) sl st Q := wo_bind (wo_mono h fun y h => by
  obtain ⟨h1, ds, h2, h3⟩ := h
  rw [if_pos (okS_own h1), h2]
  exact wo_bind (wo_some h3))
theorem we_allA {w : I} {g : G} {a : E} {sl : Sl} {st : Sto} {Q : Val → Sto → Prop} {vs : List Nat} {A : Type} (as : List A) (enc : A → Val) (ff : A → Bool) (hn : noOwn sl vs = true)
    (h : WI w sl st fun src st => SrcAt st src (as.map enc) ∧ as.length ≤ 100000 ∧ (∀ x, x ∈ as → WG g (enc x) (wipe sl vs) st fun sl1 => WE a sl1 st fun v st' => v = .bl (ff x) ∧ st' = st) ∧ Q (.bl (as.all ff)) st) :
    WE (eAll (lComp w vs g tTrue a)) sl st Q := wo_bind (wo_mono (wl_lcA (QL := fun xs st => xs = (as.filter fun _ => true).map (fun x => .bl (ff x)) ∧ Q (.bl (as.all ff)) st) as enc (fun _ => true) (fun x => .bl (ff x)) hn (wo_mono h fun y h => ⟨h.1, h.2.1, fun x hx => wo_mono (h.2.2.1 x hx) fun sl1 h => wo_some ⟨rfl, rfl, fun _ => h⟩, rfl, h.2.2.2⟩)) fun y h => by
    rw [h.1, List.filter_eq_self.mpr fun _ _ => rfl, allBl_map]
    exact wo_some (by simpa using h.2))
/-! k17: what each door is asked: closed evaluations -/
def hs17 : Val := .lst [.tup [.lst [.int 0, .int 1], .lst [.int 3]], .tup [.lst [.int 3], .lst [.int 4, .int 5]], .tup [.lst [.int 4], .lst []]]
def ot17 : Val := .lst [.tup [.lst [.int 0, .int 4], .lst [.int 3]], .tup [.lst [.int 5], .lst [.int 4]], .tup [.lst [.int 4], .lst [.int 0]]]
def bx17 : Val := .lst [.int 0, .int 1]
def bz17 : Val := .lst [.int 4, .int 5]
def gv (o : Option (Val × Sto)) : Val := match o with
  | some p => p.1
  | none => .non
def gs (o : Option (Val × Sto)) : Sto := match o with
  | some p => p.2
  | none => []
theorem got {o : Option (Val × Sto)} (h : o.isSome = true) : o = some (gv o, gs o) := by
  cases o with
  | none => cases h
  | some p => rfl
def L17 : Val := .lst [hs17, bx17]
def M17 : Val := .lst [ot17, bx17]
def N17 : Val := .lst [hs17, bz17]
def p1_0 : Option (Val × Sto) := m_way_in [hs17, bx17, .int 0] [.tb 0]
def p2_0 : Option (Val × Sto) := m_bars [hs17, bx17, .int 0] (gs p1_0)
def p3_0 : Option (Val × Sto) := m_way_in [hs17, .lst [.int 5], .int 1] (gs p2_0)
def S17_0 : Sto := gs p3_0
theorem p1_ok_0 : p1_0.isSome = true := by kernel_rfl
theorem p2_ok_0 : p2_0.isSome = true := by kernel_rfl
theorem p3_ok_0 : p3_0.isSome = true := by kernel_rfl
theorem S_ok_0 : S17_0.all (okC tt) = true ∧ S17_0[0]? = some (.tb 0) := ⟨by kernel_rfl, by kernel_rfl⟩
theorem v_ok_0 : okV tt 2 (gv p1_0) = true ∧ okV tt 2 (gv p2_0) = true ∧ okV tt 2 (gv p3_0) = true := ⟨by kernel_rfl, by kernel_rfl, by kernel_rfl⟩
theorem door_0_0M : m__law_door_right [.fn 0 [.int 0], L17, M17] S17_0 = some (.bl true, S17_0) := by kernel_rfl
theorem door_0_0N : m__law_door_right [.fn 0 [.int 0], L17, N17] S17_0 = some (.bl true, S17_0) := by kernel_rfl
theorem door_0_1M : m__law_door_right [.fn 1 [.int 0], L17, M17] S17_0 = some (.bl true, S17_0) := by kernel_rfl
theorem door_0_1N : m__law_door_right [.fn 1 [.int 0], L17, N17] S17_0 = some (.bl true, S17_0) := by kernel_rfl
theorem door_0_2M : m__law_door_right [.fn 2 [], L17, M17] S17_0 = some (.bl true, S17_0) := by kernel_rfl
theorem door_0_2N : m__law_door_right [.fn 2 [], L17, N17] S17_0 = some (.bl true, S17_0) := by kernel_rfl
theorem door_0_3M : m__law_door_right [.fn 3 [.int 0], L17, M17] S17_0 = some (.bl true, S17_0) := by kernel_rfl
theorem door_0_3N : m__law_door_right [.fn 3 [.int 0], L17, N17] S17_0 = some (.bl true, S17_0) := by kernel_rfl
theorem door_0_4M : m__law_door_right [.fn 4 [.int 0, gv p1_0], L17, M17] S17_0 = some (.bl true, S17_0) := by kernel_rfl
theorem door_0_4N : m__law_door_right [.fn 4 [.int 0, gv p1_0], L17, N17] S17_0 = some (.bl true, S17_0) := by kernel_rfl
theorem door_0_5M : m__law_door_right [.fn 5 [.int 0, gv p2_0], L17, M17] S17_0 = some (.bl true, S17_0) := by kernel_rfl
theorem door_0_5N : m__law_door_right [.fn 5 [.int 0, gv p2_0], L17, N17] S17_0 = some (.bl true, S17_0) := by kernel_rfl
theorem door_0_6M : m__law_door_right [.fn 6 [gv p3_0], L17, M17] S17_0 = some (.bl true, S17_0) := by kernel_rfl
theorem door_0_6N : m__law_door_right [.fn 6 [gv p3_0], L17, N17] S17_0 = some (.bl true, S17_0) := by kernel_rfl
def p1_1 : Option (Val × Sto) := m_way_in [hs17, bx17, .int 1] [.tb 0]
def p2_1 : Option (Val × Sto) := m_bars [hs17, bx17, .int 1] (gs p1_1)
def p3_1 : Option (Val × Sto) := m_way_in [hs17, .lst [.int 5], .int 1] (gs p2_1)
def S17_1 : Sto := gs p3_1
theorem p1_ok_1 : p1_1.isSome = true := by kernel_rfl
theorem p2_ok_1 : p2_1.isSome = true := by kernel_rfl
theorem p3_ok_1 : p3_1.isSome = true := by kernel_rfl
theorem S_ok_1 : S17_1.all (okC tt) = true ∧ S17_1[0]? = some (.tb 0) := ⟨by kernel_rfl, by kernel_rfl⟩
theorem v_ok_1 : okV tt 2 (gv p1_1) = true ∧ okV tt 2 (gv p2_1) = true ∧ okV tt 2 (gv p3_1) = true := ⟨by kernel_rfl, by kernel_rfl, by kernel_rfl⟩
theorem door_1_0M : m__law_door_right [.fn 0 [.int 1], L17, M17] S17_1 = some (.bl true, S17_1) := by kernel_rfl
theorem door_1_0N : m__law_door_right [.fn 0 [.int 1], L17, N17] S17_1 = some (.bl true, S17_1) := by kernel_rfl
theorem door_1_1M : m__law_door_right [.fn 1 [.int 1], L17, M17] S17_1 = some (.bl true, S17_1) := by kernel_rfl
theorem door_1_1N : m__law_door_right [.fn 1 [.int 1], L17, N17] S17_1 = some (.bl true, S17_1) := by kernel_rfl
theorem door_1_2M : m__law_door_right [.fn 2 [], L17, M17] S17_1 = some (.bl true, S17_1) := by kernel_rfl
theorem door_1_2N : m__law_door_right [.fn 2 [], L17, N17] S17_1 = some (.bl true, S17_1) := by kernel_rfl
theorem door_1_3M : m__law_door_right [.fn 3 [.int 1], L17, M17] S17_1 = some (.bl true, S17_1) := by kernel_rfl
theorem door_1_3N : m__law_door_right [.fn 3 [.int 1], L17, N17] S17_1 = some (.bl true, S17_1) := by kernel_rfl
theorem door_1_4M : m__law_door_right [.fn 4 [.int 1, gv p1_1], L17, M17] S17_1 = some (.bl true, S17_1) := by kernel_rfl
theorem door_1_4N : m__law_door_right [.fn 4 [.int 1, gv p1_1], L17, N17] S17_1 = some (.bl true, S17_1) := by kernel_rfl
theorem door_1_5M : m__law_door_right [.fn 5 [.int 1, gv p2_1], L17, M17] S17_1 = some (.bl true, S17_1) := by kernel_rfl
theorem door_1_5N : m__law_door_right [.fn 5 [.int 1, gv p2_1], L17, N17] S17_1 = some (.bl true, S17_1) := by kernel_rfl
theorem door_1_6M : m__law_door_right [.fn 6 [gv p3_1], L17, M17] S17_1 = some (.bl true, S17_1) := by kernel_rfl
theorem door_1_6N : m__law_door_right [.fn 6 [gv p3_1], L17, N17] S17_1 = some (.bl true, S17_1) := by kernel_rfl
def p1_2 : Option (Val × Sto) := m_way_in [hs17, bx17, .int 2] [.tb 0]
def p2_2 : Option (Val × Sto) := m_bars [hs17, bx17, .int 2] (gs p1_2)
def p3_2 : Option (Val × Sto) := m_way_in [hs17, .lst [.int 5], .int 1] (gs p2_2)
def S17_2 : Sto := gs p3_2
theorem p1_ok_2 : p1_2.isSome = true := by kernel_rfl
theorem p2_ok_2 : p2_2.isSome = true := by kernel_rfl
theorem p3_ok_2 : p3_2.isSome = true := by kernel_rfl
theorem S_ok_2 : S17_2.all (okC tt) = true ∧ S17_2[0]? = some (.tb 0) := ⟨by kernel_rfl, by kernel_rfl⟩
theorem v_ok_2 : okV tt 2 (gv p1_2) = true ∧ okV tt 2 (gv p2_2) = true ∧ okV tt 2 (gv p3_2) = true := ⟨by kernel_rfl, by kernel_rfl, by kernel_rfl⟩
theorem door_2_0M : m__law_door_right [.fn 0 [.int 2], L17, M17] S17_2 = some (.bl true, S17_2) := by kernel_rfl
theorem door_2_0N : m__law_door_right [.fn 0 [.int 2], L17, N17] S17_2 = some (.bl true, S17_2) := by kernel_rfl
theorem door_2_1M : m__law_door_right [.fn 1 [.int 2], L17, M17] S17_2 = some (.bl true, S17_2) := by kernel_rfl
theorem door_2_1N : m__law_door_right [.fn 1 [.int 2], L17, N17] S17_2 = some (.bl true, S17_2) := by kernel_rfl
theorem door_2_2M : m__law_door_right [.fn 2 [], L17, M17] S17_2 = some (.bl true, S17_2) := by kernel_rfl
theorem door_2_2N : m__law_door_right [.fn 2 [], L17, N17] S17_2 = some (.bl true, S17_2) := by kernel_rfl
theorem door_2_3M : m__law_door_right [.fn 3 [.int 2], L17, M17] S17_2 = some (.bl true, S17_2) := by kernel_rfl
theorem door_2_3N : m__law_door_right [.fn 3 [.int 2], L17, N17] S17_2 = some (.bl true, S17_2) := by kernel_rfl
theorem door_2_4M : m__law_door_right [.fn 4 [.int 2, gv p1_2], L17, M17] S17_2 = some (.bl true, S17_2) := by kernel_rfl
theorem door_2_4N : m__law_door_right [.fn 4 [.int 2, gv p1_2], L17, N17] S17_2 = some (.bl true, S17_2) := by kernel_rfl
theorem door_2_5M : m__law_door_right [.fn 5 [.int 2, gv p2_2], L17, M17] S17_2 = some (.bl true, S17_2) := by kernel_rfl
theorem door_2_5N : m__law_door_right [.fn 5 [.int 2, gv p2_2], L17, N17] S17_2 = some (.bl true, S17_2) := by kernel_rfl
theorem door_2_6M : m__law_door_right [.fn 6 [gv p3_2], L17, M17] S17_2 = some (.bl true, S17_2) := by kernel_rfl
theorem door_2_6N : m__law_door_right [.fn 6 [gv p3_2], L17, N17] S17_2 = some (.bl true, S17_2) := by kernel_rfl
def J17 : Val := .lst [.lst [.tup [.str "ask", .int 0, .int 0], .tup [.str "in", .int 0, .int 0]]]
def K17 : Val := .lst [.lst [.tup [.str "tick"], .tup [.str "in", .int 0, .int 0]]]
def G17 : Val := .lst [.lst [.int 0, .int 2]]
def H17 : Val := .lst [.lst [.int 1, .int 3]]
theorem door_7 : m__law_door_right [.fn 7 [], J17, K17] [.tb 0] = some (.bl true, [.tb 0]) := by kernel_rfl
theorem door_8 : m__law_door_right [.fn 8 [], J17, K17] [.tb 0] = some (.bl true, [.tb 0]) := by kernel_rfl
theorem door_9 : m__law_door_right [.fn 9 [], J17, K17] [.tb 0] = some (.bl true, [.tb 0]) := by kernel_rfl
theorem door_10 : m__law_door_right [.fn 10 [], G17, H17] [.tb 0] = some (.bl true, [.tb 0]) := by kernel_rfl
/-! k17: the law walked -/
def refN : Val → Option Nat
  | .ref n => some n
  | _ => none
theorem ref_of {v : Val} (h : (refN v).isSome = true) : ∃ n, v = .ref n := by
  cases v <;> first | exact ⟨_, rfl⟩ | cases h
def fs17 (a : Int) (w h n : Nat) : List Val := [.fn 0 [.int a], .fn 1 [.int a], .fn 2 [], .fn 3 [.int a], .fn 4 [.int a, .ref w], .fn 5 [.int a, .ref h], .fn 6 [.ref n]]
structure Doors (a : Int) (w h n : Nat) (S : Sto) : Prop where
  e : ∃ T1 T2, m_way_in [hs17, bx17, .int a] [.tb 0] = some (.ref w, T1) ∧ m_bars [hs17, bx17, .int a] T1 = some (.ref h, T2) ∧ m_way_in [hs17, .lst [.int 5], .int 1] T2 = some (.ref n, S)
  ok : S.all (okC tt) = true
  t0 : S[0]? = some (.tb 0)
  d1 : ∀ p ∈ fs17 a w h n, m__law_door_right [p, L17, M17] S = some (.bl true, S)
  d2 : ∀ p ∈ fs17 a w h n, m__law_door_right [p, L17, N17] S = some (.bl true, S)
theorem seven {p0 p1 p2 p3 p4 p5 p6 : Val} {P : Val → Prop} (h0 : P p0) (h1 : P p1) (h2 : P p2) (h3 : P p3) (h4 : P p4) (h5 : P p5) (h6 : P p6) : ∀ p ∈ [p0, p1, p2, p3, p4, p5, p6], P p := fun p hp => by
  simp only [List.mem_cons, List.not_mem_nil, or_false] at hp
  rcases hp with e | e | e | e | e | e | e <;> subst e <;> assumption
theorem r_ok_0 : (refN (gv p1_0)).isSome = true ∧ (refN (gv p2_0)).isSome = true ∧ (refN (gv p3_0)).isSome = true := ⟨by kernel_rfl, by kernel_rfl, by kernel_rfl⟩
theorem doors_0 : ∃ w h n S, Doors 0 w h n S := by
  obtain ⟨w, hw⟩ := ref_of r_ok_0.1
  obtain ⟨h, hh⟩ := ref_of r_ok_0.2.1
  obtain ⟨n, hn⟩ := ref_of r_ok_0.2.2
  refine ⟨w, h, n, S17_0, ⟨gs p1_0, gs p2_0, ?_, ?_, ?_⟩, S_ok_0.1, S_ok_0.2, ?_, ?_⟩
  · rw [← hw]; exact got p1_ok_0
  · rw [← hh]; exact got p2_ok_0
  · rw [← hn]; exact got p3_ok_0
  · refine seven door_0_0M door_0_1M door_0_2M door_0_3M ?_ ?_ ?_
    · rw [← hw]; exact door_0_4M
    · rw [← hh]; exact door_0_5M
    · rw [← hn]; exact door_0_6M
  · refine seven door_0_0N door_0_1N door_0_2N door_0_3N ?_ ?_ ?_
    · rw [← hw]; exact door_0_4N
    · rw [← hh]; exact door_0_5N
    · rw [← hn]; exact door_0_6N
theorem r_ok_1 : (refN (gv p1_1)).isSome = true ∧ (refN (gv p2_1)).isSome = true ∧ (refN (gv p3_1)).isSome = true := ⟨by kernel_rfl, by kernel_rfl, by kernel_rfl⟩
theorem doors_1 : ∃ w h n S, Doors 1 w h n S := by
  obtain ⟨w, hw⟩ := ref_of r_ok_1.1
  obtain ⟨h, hh⟩ := ref_of r_ok_1.2.1
  obtain ⟨n, hn⟩ := ref_of r_ok_1.2.2
  refine ⟨w, h, n, S17_1, ⟨gs p1_1, gs p2_1, ?_, ?_, ?_⟩, S_ok_1.1, S_ok_1.2, ?_, ?_⟩
  · rw [← hw]; exact got p1_ok_1
  · rw [← hh]; exact got p2_ok_1
  · rw [← hn]; exact got p3_ok_1
  · refine seven door_1_0M door_1_1M door_1_2M door_1_3M ?_ ?_ ?_
    · rw [← hw]; exact door_1_4M
    · rw [← hh]; exact door_1_5M
    · rw [← hn]; exact door_1_6M
  · refine seven door_1_0N door_1_1N door_1_2N door_1_3N ?_ ?_ ?_
    · rw [← hw]; exact door_1_4N
    · rw [← hh]; exact door_1_5N
    · rw [← hn]; exact door_1_6N
theorem r_ok_2 : (refN (gv p1_2)).isSome = true ∧ (refN (gv p2_2)).isSome = true ∧ (refN (gv p3_2)).isSome = true := ⟨by kernel_rfl, by kernel_rfl, by kernel_rfl⟩
theorem doors_2 : ∃ w h n S, Doors 2 w h n S := by
  obtain ⟨w, hw⟩ := ref_of r_ok_2.1
  obtain ⟨h, hh⟩ := ref_of r_ok_2.2.1
  obtain ⟨n, hn⟩ := ref_of r_ok_2.2.2
  refine ⟨w, h, n, S17_2, ⟨gs p1_2, gs p2_2, ?_, ?_, ?_⟩, S_ok_2.1, S_ok_2.2, ?_, ?_⟩
  · rw [← hw]; exact got p1_ok_2
  · rw [← hh]; exact got p2_ok_2
  · rw [← hn]; exact got p3_ok_2
  · refine seven door_2_0M door_2_1M door_2_2M door_2_3M ?_ ?_ ?_
    · rw [← hw]; exact door_2_4M
    · rw [← hh]; exact door_2_5M
    · rw [← hn]; exact door_2_6M
  · refine seven door_2_0N door_2_1N door_2_2N door_2_3N ?_ ?_ ?_
    · rw [← hw]; exact door_2_4N
    · rw [← hh]; exact door_2_5N
    · rw [← hn]; exact door_2_6N
theorem doors_right {fs : List Val} {L O : Val} {st : Sto} {Q : Val → Sto → Prop} (hl : fs.length ≤ 100000) (h : ∀ p ∈ fs, m__law_door_right [p, L, O] st = some (.bl true, st)) (q : Q (.bl true) st) : WF m__law_doors_right [.lst fs, L, O] st Q := by
  refine wf_fn rfl ?_
  unfold b__law_doors_right
  dsimp only [List.map, List.replicate, List.append, HAppend.hAppend, Append.append, Nat.reduceSub]
  refine ws_ret (we_allA fs id (fun _ => true) rfl (wi_seq (we_v rfl ⟨fs, rfl, by rw [List.map_id]; exact (src_lst fs).at, hl, fun x hx => ?_, ?_⟩)))
  · exact wg_n (Nat.le_of_ble_eq_true rfl) (we_call (wl_c (we_v rfl (wl_c (we_v rfl (wl_c (we_v rfl (wl_n ⟨_, h x hx, rfl, rfl⟩))))))))
  · rw [show (fs.all fun _ => true) = true from List.all_eq_true.mpr fun _ _ => rfl]
    exact q
theorem clo17 (x c : Val) (a : Int) (w h n : Nat) (z : Slot) : ([.lst [.fn 0 [], .fn 1 [], .fn 2 [], .fn 3 [], .fn 4 [], .fn 5 [], .fn 6 []], L17, M17] : List Val).mapM (clo own_law [.val x, .val hs17, .val ot17, .val c, .val (.int a), .val (.ref w), .val (.ref h), .val (.ref n), z] 2) = some [.lst (fs17 a w h n), L17, M17] := by kernel_rfl
theorem clo17' (x c : Val) (a : Int) (w h n : Nat) (z : Slot) : ([.lst [.fn 0 [], .fn 1 [], .fn 2 [], .fn 3 [], .fn 4 [], .fn 5 [], .fn 6 []], L17, N17] : List Val).mapM (clo own_law [.val x, .val hs17, .val ot17, .val c, .val (.int a), .val (.ref w), .val (.ref h), .val (.ref n), z] 2) = some [.lst (fs17 a w h n), L17, N17] := by kernel_rfl
theorem clo17t (sl : Sl) : ([.lst [.fn 7 [], .fn 8 [], .fn 9 []], J17, K17] : List Val).mapM (clo own_law sl 2) = some [.lst [.fn 7 [], .fn 8 [], .fn 9 []], J17, K17] := by kernel_rfl
theorem clo17u (sl : Sl) : ([.lst [.fn 10 []], G17, H17] : List Val).mapM (clo own_law sl 2) = some [.lst [.fn 10 []], G17, H17] := by kernel_rfl
theorem w_rest {a : Int} {w h n : Nat} {S : Sto} (k : Doors a w h n S) {x c : Val} {y5 y6 y7 y8 : Slot} {N : Sl → Sto → Prop} {R : Val → Sto → Prop} (q : ∀ z, N [.val x, .val hs17, .val ot17, .val c, .val (.int a), .val (.ref w), .val (.ref h), .val (.ref n), z] S) :
    WS b_law_rest [.val x, .val hs17, .val ot17, .val c, .val (.int a), y5, y6, y7, y8] [.tb 0] N R := by
  unfold b_law_rest
  obtain ⟨T1, T2, e1, e2, e3⟩ := k.e
  refine ws_seq (ws_asg (we_tup (wl_c (we_call ?_))))
  refine wl_c (we_v rfl (wl_c (we_d (wl_disp (wl_c (we_c (wl_c (we_c (wl_n ⟨Nat.le_of_ble_eq_true rfl, wl_c (we_v rfl (wl_n ⟨_, e1, ?_⟩))⟩)))))))))
  refine wl_c (we_call (wl_c (we_v rfl (wl_c (we_d (wl_disp (wl_c (we_c (wl_c (we_c (wl_n ⟨Nat.le_of_ble_eq_true rfl, wl_c (we_v rfl (wl_n ⟨_, e2, ?_⟩))⟩)))))))))))
  refine wl_c (we_call (wl_c (we_v rfl (wl_c (we_d (wl_disp (wl_c (we_c (wl_n ⟨Nat.le_of_ble_eq_true rfl, wl_c (we_c (wl_n ⟨_, e3, ?_⟩))⟩)))))))))
  refine wl_n ⟨Nat.le_of_ble_eq_true rfl, wg_t rfl (wgs_c (wg_n (Nat.le_of_ble_eq_true rfl) (wgs_c (wg_n (Nat.le_of_ble_eq_true rfl) (wgs_c (wg_n (Nat.le_of_ble_eq_true rfl) (wgs_n ?_)))))))⟩
  dsimp only [List.set]
  refine ws_seq (ws_asg (we_d (wl_disp (wl_c (we_lam k.t0 (wl_c (we_lam k.t0 (wl_n ⟨Nat.le_of_ble_eq_true rfl, wg_n (Nat.le_of_ble_eq_true rfl) ?_⟩))))))))
  dsimp only [List.set]
  iterate 5
    refine ws_seq (ws_asg (we_2 (we_v rfl (we_d (wl_disp (wl_c (we_lam k.t0 (wl_n ⟨Nat.le_of_ble_eq_true rfl, wo_addL (Nat.le_of_ble_eq_true rfl) (wg_n (Nat.le_of_ble_eq_true rfl) ?_)⟩))))))))
    dsimp only [List.set]
  refine ws_seq (ws_if (wt_not (wt_e (we_callBW (wl_c (we_v rfl (wl_c (we_d (wl_disp (wl_c (we_v rfl (wl_c (we_d (wl_disp (wl_c (we_c (wl_c (we_c (wl_n ⟨Nat.le_of_ble_eq_true rfl, wl_n ⟨Nat.le_of_ble_eq_true rfl, ?_⟩⟩)))))))))))))))))))
  refine wl_c (we_d (wl_disp (wl_c (we_v rfl (wl_c (we_d (wl_disp (wl_c (we_c (wl_c (we_c (wl_n ⟨Nat.le_of_ble_eq_true rfl, wl_n ⟨Nat.le_of_ble_eq_true rfl, ?_⟩⟩))))))))))))
  refine wl_n ⟨k.ok, _, clo17 x c a w h n _, doors_right (Nat.le_of_ble_eq_true rfl) k.d1 ⟨true, rfl, if_nf (ws_skip ?_)⟩⟩
  refine ws_if (wt_not (wt_e (we_callBW (wl_c (we_v rfl (wl_c (we_d (wl_disp (wl_c (we_v rfl (wl_c (we_d (wl_disp (wl_c (we_c (wl_c (we_c (wl_n ⟨Nat.le_of_ble_eq_true rfl, wl_n ⟨Nat.le_of_ble_eq_true rfl, ?_⟩⟩))))))))))))))))))
  refine wl_c (we_d (wl_disp (wl_c (we_v rfl (wl_c (we_d (wl_disp (wl_c (we_c (wl_c (we_c (wl_n ⟨Nat.le_of_ble_eq_true rfl, wl_n ⟨Nat.le_of_ble_eq_true rfl, ?_⟩⟩))))))))))))
  exact wl_n ⟨k.ok, _, clo17' x c a w h n _, doors_right (Nat.le_of_ble_eq_true rfl) k.d2 ⟨true, rfl, if_nf (ws_skip (q _))⟩⟩
theorem ws_alone {n : Nat} {f : S} {sl : Sl} {st : Sto} {ks : List Nat} {N : Sl → Sto → Prop} {R : Val → Sto → Prop} (h : tbs (st.take n) = some ks) (w : WS f (sl.map keepS) (st.take n) (fun sl1 st1 => tbs (st1.take n) = some ks ∧ n ≤ st1.length ∧ N (sl1.map keepS) st) fun _ _ => False) : WS (sAlone n f) sl st N R := by
  obtain ⟨⟨o, sl1, st1⟩, e, q⟩ := w
  cases o with
  | nx =>
    obtain ⟨h1, h2, h3⟩ := q
    refine ⟨(.nx, sl1.map keepS, st), ?_, h3⟩
    show (tbs (st.take n)).bind _ = _
    rw [h]
    show (f (sl.map keepS) (st.take n)).bind _ = _
    rw [e]
    exact if_pos ⟨h1, h2⟩
  | rt v => exact q.elim
  | bk => exact q.elim
  | ct => exact q.elim
theorem pd_int17 (n : Nat) (i : Int) : pd [] n (.int i) = some (.int i) := by cases n <;> rfl
theorem pd_ints17 (n : Nat) : ∀ ns : List Int, (ns.map Val.int).mapM (pd [] n) = some (ns.map PyData.int)
  | [] => rfl
  | i :: ns => by
    rw [List.map_cons, List.mapM_cons, pd_int17, pd_ints17 n ns]
    rfl
theorem noref_ints (ns : List Int) : noref (.lst (ns.map .int)) = true := by
  show (((ns.map Val.int).mapM (pd [] 19)).map PyData.list).isSome = true
  rw [pd_ints17]
  rfl
theorem keep_hs : keepS (.val hs17) = .val hs17 := by kernel_rfl
theorem keep_ot : keepS (.val ot17) = .val ot17 := by kernel_rfl
theorem keep_sl {x : Val} (hx : noref x = true) (c : Int) (y4 y5 y6 y7 y8 : Slot) : ([.val x, .val hs17, .val ot17, .val (.int c), y4, y5, y6, y7, y8] : Sl).map keepS = [.val x, .val hs17, .val ot17, .val (.int c), keepS y4, keepS y5, keepS y6, keepS y7, keepS y8] := by
  have e1 : keepS (.val x) = .val x := if_pos hx
  have e2 : keepS (.val (.int c)) = .val (.int c) := rfl
  show [keepS (.val x), keepS (.val hs17), keepS (.val ot17), keepS (.val (.int c)), keepS y4, keepS y5, keepS y6, keepS y7, keepS y8] = _
  rw [e1, e2, keep_hs, keep_ot]
theorem w_turn (ns : List Int) (c : Int) (h0 : 0 ≤ c) (h1 : c < 2) (y4 y5 y6 y7 y8 : Slot) {N : Sl → Sto → Prop} {R : Val → Sto → Prop} (q : ∀ z4 z5 z6 z7 z8, N [.val (vI ns), .val hs17, .val ot17, .val (.int c), z4, z5, z6, z7, z8] [.tb 0]) :
    WS (sAlone 1 (sSeq (sAsg (eCall m__law_number (aCons (eCall m__law_cell_at (aCons (eVar 0) (aCons (eVar 3) (aNil)))) (aCons (e2 oAdd (eVar 3) (eC (.int 1))) (aCons (eC (.int 3)) (aNil))))) (gName 4)) b_law_rest)) [.val (vI ns), .val hs17, .val ot17, .val (.int c), y4, y5, y6, y7, y8] [.tb 0] N R := by
  refine ws_alone (ks := [0]) rfl ?_
  rw [keep_sl (noref_ints ns)]
  refine ws_seq (ws_asg (we_call (wl_c (we_call (wl_c (we_v rfl (wl_c (we_v rfl (wl_n (w_cell_at h0 fun d => ?_))))))))))
  refine wl_c (we_2 (we_v rfl (we_c (wo_add (wl_c (we_c (wl_n (w_number (by omega) (by omega) (by decide) (by decide) fun r g0 g3 => ?_))))))))
  refine wg_n (Nat.le_of_ble_eq_true rfl) ?_
  dsimp only [List.set]
  have fin : ∀ (a : Int) (w h n : Nat) (S : Sto), Doors a w h n S → WS b_law_rest [.val (vI ns), .val hs17, .val ot17, .val (.int c), .val (.int a), keepS y5, keepS y6, keepS y7, keepS y8] [.tb 0] (fun sl1 st1 => tbs (st1.take 1) = some [0] ∧ 1 ≤ st1.length ∧ N (sl1.map keepS) [.tb 0]) fun _ _ => False := fun a w h n S k => w_rest k fun z => by
    have ht := k.t0
    cases S with
    | nil => cases ht
    | cons s0 S =>
      have ht : some s0 = some (.tb 0) := ht
      cases ht
      refine ⟨rfl, by rw [List.length_cons]; omega, ?_⟩
      rw [keep_sl (noref_ints ns)]
      exact q _ _ _ _ _
  obtain rfl | rfl | rfl : r = 0 ∨ r = 1 ∨ r = 2 := by omega
  · obtain ⟨w, h, n, S, k⟩ := doors_0
    exact fin 0 w h n S k
  · obtain ⟨w, h, n, S, k⟩ := doors_1
    exact fin 1 w h n S k
  · obtain ⟨w, h, n, S, k⟩ := doors_2
    exact fin 2 w h n S k
theorem three17 : ∀ p ∈ ([.fn 7 [], .fn 8 [], .fn 9 []] : List Val), m__law_door_right [p, J17, K17] [.tb 0] = some (.bl true, [.tb 0]) := fun p hp => by
  simp only [List.mem_cons, List.not_mem_nil, or_false] at hp
  rcases hp with e | e | e <;> subst e
  · exact door_7
  · exact door_8
  · exact door_9
theorem one17 : ∀ p ∈ ([.fn 10 []] : List Val), m__law_door_right [p, G17, H17] [.tb 0] = some (.bl true, [.tb 0]) := fun p hp => by
  rw [List.mem_singleton.mp hp]
  exact door_10
theorem w_tail {x : Val} {y3 y4 y5 y6 y7 y8 : Slot} {N : Sl → Sto → Prop} {R : Val → Sto → Prop} (q : R (.bl true) [.tb 0]) : WS b_law_tail [.val x, .val hs17, .val ot17, y3, y4, y5, y6, y7, y8] [.tb 0] N R := by
  unfold b_law_tail
  refine ws_seq (ws_asg (we_d (wl_disp (wl_c (we_lam rfl (wl_c (we_lam rfl (wl_n ⟨Nat.le_of_ble_eq_true rfl, wg_n (Nat.le_of_ble_eq_true rfl) ?_⟩))))))))
  dsimp only [List.set]
  refine ws_seq (ws_asg (we_2 (we_v rfl (we_d (wl_disp (wl_c (we_lam rfl (wl_n ⟨Nat.le_of_ble_eq_true rfl, wo_addL (Nat.le_of_ble_eq_true rfl) (wg_n (Nat.le_of_ble_eq_true rfl) ?_)⟩))))))))
  dsimp only [List.set]
  refine ws_seq (ws_if (wt_not (wt_e (we_callBW ?_))))
  refine wl_c (we_v rfl (wl_c (we_d (wl_disp (wl_c (we_d (wl_disp (wl_c (we_tup (wl_c (we_c (wl_c (we_c (wl_c (we_c (wl_n ⟨Nat.le_of_ble_eq_true rfl, ?_⟩))))))))))))))))
  refine wl_c (we_tup (wl_c (we_c (wl_c (we_c (wl_c (we_c (wl_n ⟨Nat.le_of_ble_eq_true rfl, wl_n ⟨Nat.le_of_ble_eq_true rfl, wl_n ⟨Nat.le_of_ble_eq_true rfl, ?_⟩⟩⟩))))))))
  refine wl_c (we_d (wl_disp (wl_c (we_d (wl_disp (wl_c (we_tup (wl_c (we_c (wl_n ⟨Nat.le_of_ble_eq_true rfl, ?_⟩))))))))))
  refine wl_c (we_tup (wl_c (we_c (wl_c (we_c (wl_c (we_c (wl_n ⟨Nat.le_of_ble_eq_true rfl, wl_n ⟨Nat.le_of_ble_eq_true rfl, wl_n ⟨Nat.le_of_ble_eq_true rfl, ?_⟩⟩⟩))))))))
  refine wl_n ⟨rfl, _, clo17t _, doors_right (Nat.le_of_ble_eq_true rfl) three17 ⟨true, rfl, if_nf (ws_skip ?_)⟩⟩
  refine ws_ret (we_callBW ?_)
  refine wl_c (we_d (wl_disp (wl_c (we_lam rfl (wl_n ⟨Nat.le_of_ble_eq_true rfl, ?_⟩)))))
  refine wl_c (we_d (wl_disp (wl_c (we_d (wl_disp (wl_c (we_c (wl_c (we_c (wl_n ⟨Nat.le_of_ble_eq_true rfl, wl_n ⟨Nat.le_of_ble_eq_true rfl, ?_⟩⟩))))))))))
  refine wl_c (we_d (wl_disp (wl_c (we_d (wl_disp (wl_c (we_c (wl_c (we_c (wl_n ⟨Nat.le_of_ble_eq_true rfl, wl_n ⟨Nat.le_of_ble_eq_true rfl, ?_⟩⟩))))))))))
  exact wl_n ⟨rfl, _, clo17u _, doors_right (Nat.le_of_ble_eq_true rfl) one17 q⟩
theorem law_ws (ns : List Int) : WS b_law [.val (vI ns), .no, .no, .no, .no, .no, .no, .no, .no] [.tb 0] (fun _ _ => False) fun v st => v = .bl true ∧ st = [.tb 0] := by
  unfold b_law
  refine ws_seq (ws_par ?_)
  repeat infer_instance
  refine (ws_for (fun i sl st => st = [.tb 0] ∧ ∃ y3 y4 y5 y6 y7 y8, sl = [.val (vI ns), .val hs17, .val ot17, y3, y4, y5, y6, y7, y8]) ?_)
  refine wi_rg1 (we_c ⟨2, rfl, by decide, _, src_rng 0 2, ⟨rfl, _, _, _, _, _, _, rfl⟩, ?_, ?_⟩)
  · intro i x hx sl st hI
    obtain ⟨rfl, y3, y4, y5, y6, y7, y8, rfl⟩ := hI
    have : ∃ c : Int, x = .int c ∧ 0 ≤ c ∧ c < 2 := by
      match i, hx with
      | 0, hx => cases hx; exact ⟨_, rfl, by decide, by decide⟩
      | 1, hx => cases hx; exact ⟨_, rfl, by decide, by decide⟩
      | i + 2, hx => simp at hx
    obtain ⟨c, rfl, h0, h1⟩ := this
    refine wg_n (Nat.le_of_ble_eq_true rfl) ?_
    dsimp only [List.set]
    exact w_turn ns c h0 h1 _ _ _ _ _ fun z4 z5 z6 z7 z8 => ⟨rfl, _, _, _, _, _, _, rfl⟩
  · intro sl st hI
    obtain ⟨rfl, y3, y4, y5, y6, y7, y8, rfl⟩ := hI
    exact w_tail ⟨rfl, rfl⟩
end Mi.Y
namespace Mi
open PySem L2
def LawHolds : Prop := ∀ ns : List Int, ns.length ≤ 63 → ∃ st' : Sto, m_law [.lst (ns.map .int)] ((List.range 1).map .tb) = some (.bl true, st')
theorem law_holds : LawHolds := fun ns hn => by
  obtain ⟨⟨v, st⟩, e, rfl, rfl⟩ := Y.wf_fn (k := 1) (n := 9) (vs := [.lst (ns.map .int)]) rfl (Y.ws_mono (Y.law_ws ns) (fun _ _ z => z.elim) fun v st h => h)
  refine ⟨[.tb 0], ?_⟩
  show ((fnOf 1 9 b_law) [.lst (ns.map .int)] ((List.range 1).map .tb)).bind _ = _
  have e : fnOf 1 9 b_law [.lst (ns.map .int)] ((List.range 1).map .tb) = some (.bl true, [.tb 0]) := e
  rw [e]
  show (if okV (ownB own_law) 8 (.bl true) = true ∧ ([.tb 0] : Sto).all (okC (ownB own_law)) = true then some (Val.bl true, ([.tb 0] : Sto)) else none) = _
  exact if_pos ⟨rfl, rfl⟩
end Mi
namespace Mi.Y
open PySem L2
end Mi.Y

set_option Elab.async false
set_option linter.all false
set_option maxRecDepth 100000
set_option maxHeartbeats 4000000
namespace Mi
open PySem PySem.Spec PyProof.Rows L2 LamX NdefX
def top (i : Nat) : Stmt := PySem.Challenge.pw_codemail_k17_whole_anew.main.body.getD i (.Pass ⟨0, 0, 0, 0⟩)
abbrev s_is_whole : Stmt := top 17
abbrev s_is_between : Stmt := top 18
abbrev s_are_rising : Stmt := top 26
abbrev s_are_boxes : Stmt := top 25
abbrev s_is_account : Stmt := top 27
abbrev s_check_house : Stmt := top 28
abbrev s_check_boxes : Stmt := top 29
abbrev s_check_wanted : Stmt := top 30
abbrev s_come_to : Stmt := top 31
abbrev s_Never___init__ : Stmt := inClass (top 40) 0
abbrev s_Way___init__ : Stmt := inClass (top 39) 0
abbrev s_way_in : Stmt := top 51
abbrev s__law_deep : Stmt := top 63
abbrev s_Way_shows : Stmt := inClass (top 39) 1
abbrev s_Never_shows : Stmt := inClass (top 40) 1
abbrev s__law_way : Stmt := top 69
abbrev s_met_from : Stmt := top 54
abbrev s_used_edges : Stmt := top 55
abbrev s_next_boxes : Stmt := top 52
abbrev s_edges_of : Stmt := top 53
abbrev s_Bars___init__ : Stmt := inClass (top 42) 0
abbrev s_led_on : Stmt := top 56
abbrev s_bars : Stmt := top 57
abbrev s_is_way : Stmt := top 41
abbrev s_Bars_shows : Stmt := inClass (top 42) 1
abbrev s__law_bars : Stmt := top 70
abbrev s__law_two : Stmt := top 67
abbrev s_inside : Stmt := top 32
abbrev s_many_bars : Stmt := top 58
abbrev s_check_settings : Stmt := top 19
abbrev s_is_line : Stmt := top 48
abbrev s_State___init__ : Stmt := inClass (top 20) 0
abbrev s_State_brought : Stmt := inClass (top 20) 5
abbrev s_State_asked : Stmt := inClass (top 20) 1
abbrev s_State_newest : Stmt := inClass (top 20) 2
abbrev s_State_is_good : Stmt := inClass (top 20) 3
abbrev s_State_tried : Stmt := inClass (top 20) 4
abbrev s_can_come : Stmt := top 35
abbrev s_wrong_of : Stmt := top 36
abbrev s_Wrong___init__ : Stmt := inClass (top 38) 0
abbrev s_judged : Stmt := top 49
abbrev s__law_judged : Stmt := top 71
abbrev s_Right_shows : Stmt := inClass (top 37) 0
abbrev s_Wrong_shows : Stmt := inClass (top 38) 1
abbrev s_Door___init__ : Stmt := inClass (top 44) 0
abbrev s_Door_check_account : Stmt := inClass (top 44) 1
abbrev s_Door_ask : Stmt := inClass (top 44) 2
abbrev s_State_good_ones : Stmt := inClass (top 20) 6
abbrev s_Door_open_to : Stmt := inClass (top 44) 9
abbrev s_Door_box : Stmt := inClass (top 44) 6
abbrev s_Door_good : Stmt := inClass (top 44) 7
abbrev s_Door_tale : Stmt := inClass (top 44) 10
abbrev s__law_open : Stmt := top 72
abbrev s__law_cell_at : Stmt := top 60
abbrev s__law_draw : Stmt := top 61
abbrev s__law_number : Stmt := top 62
abbrev s__law_spoilt : Stmt := top 64
abbrev s__law_put : Stmt := top 65
abbrev s__law_door_right : Stmt := top 66
abbrev s__law_doors_right : Stmt := top 68
abbrev s_law : Stmt := top 73
abbrev L_lam_0 : LT := lamT "law.<locals>.<lambda>" (eltE (asgV (atS (bodyB (atS (defBody s_law) 1)) 2)) 0)
abbrev L_lam_1 : LT := lamT "law.<locals>.<lambda>" (eltE (asgV (atS (bodyB (atS (defBody s_law) 1)) 2)) 1)
abbrev L_lam_2 : LT := lamT "law.<locals>.<lambda>" (eltE (binR (asgV (atS (bodyB (atS (defBody s_law) 1)) 3))) 0)
abbrev L_lam_3 : LT := lamT "law.<locals>.<lambda>" (eltE (binR (asgV (atS (bodyB (atS (defBody s_law) 1)) 4))) 0)
abbrev L_lam_4 : LT := lamT "law.<locals>.<lambda>" (eltE (binR (asgV (atS (bodyB (atS (defBody s_law) 1)) 5))) 0)
abbrev L_lam_5 : LT := lamT "law.<locals>.<lambda>" (eltE (binR (asgV (atS (bodyB (atS (defBody s_law) 1)) 6))) 0)
abbrev L_lam_6 : LT := lamT "law.<locals>.<lambda>" (eltE (binR (asgV (atS (bodyB (atS (defBody s_law) 1)) 7))) 0)
abbrev L_lam_7 : LT := lamT "law.<locals>.<lambda>" (eltE (asgV (atS (defBody s_law) 2)) 0)
abbrev L_lam_8 : LT := lamT "law.<locals>.<lambda>" (eltE (asgV (atS (defBody s_law) 2)) 1)
abbrev L_lam_9 : LT := lamT "law.<locals>.<lambda>" (eltE (binR (asgV (atS (defBody s_law) 3))) 0)
abbrev L_lam_10 : LT := lamT "law.<locals>.<lambda>" (eltE (argE (retV (atS (defBody s_law) 5)) 0) 0)
def tab_law : Nat → Option LT := fun i => if i = 0 then some L_lam_0 else if i = 1 then some L_lam_1 else if i = 2 then some L_lam_2 else if i = 3 then some L_lam_3 else if i = 4 then some L_lam_4 else if i = 5 then some L_lam_5 else if i = 6 then some L_lam_6 else if i = 7 then some L_lam_7 else if i = 8 then some L_lam_8 else if i = 9 then some L_lam_9 else if i = 10 then some L_lam_10 else none
structure Tx [Gam] (K : PySem.W.Frag) (w : World) (mg : Str → Option Value) (cls : Nat → Addr) : Prop where
  bt : Bt mg
  a_0_0 : At K cls 0 0 "many"
  a_0_1 : At K cls 0 1 "kind"
  a_0_2 : At K cls 0 2 "life"
  a_0_3 : At K cls 0 3 "tries"
  a_0_4 : At K cls 0 4 "gone"
  a_0_5 : At K cls 0 5 "codes"
  a_0_6 : At K cls 0 6 "wrong"
  a_0_7 : At K cls 0 7 "boxes"
  a_1_0 : At K cls 1 0 "state"
  a_1_1 : At K cls 1 1 "lines"
  a_3_0 : At K cls 3 0 "line"
  a_4_0 : At K cls 4 0 "accounts"
  a_5_0 : At K cls 5 0 "boxes"
  a_6_0 : At K cls 6 0 "barred"
  a_6_1 : At K cls 6 1 "ways"
  g_MOST_ACCOUNTS_states : ∃ t, mg "MOST_ACCOUNTS_states" = some (.int 4 t)
  g_LONGEST_LIFE : ∃ t, mg "LONGEST_LIFE" = some (.int 5 t)
  g_MOST_TRIES : ∃ t, mg "MOST_TRIES" = some (.int 4 t)
  g_MOST_BOXES : ∃ t, mg "MOST_BOXES" = some (.int 8 t)
  g_MOST_AT_ONCE : ∃ t, mg "MOST_AT_ONCE" = some (.int 3 t)
  g_MOST_ACCOUNTS_houses : ∃ t, mg "MOST_ACCOUNTS_houses" = some (.int 6 t)
  g_LONGEST : ∃ t, mg "LONGEST" = some (.int 40 t)
  gt_KINDS : ∃ a, mg "KINDS" = some (.ref a) ∧ ∀ (ρ : List Addr) (A : Addr → Prop) (H : Hp), Rep K ρ A H (.tup [.str "newest", .str "any"]) (.ref a)
  ins : InsT K cls [2, 3, 4, 5]
  isc_2 : IsC K mg cls "Right" [2, 3, 4, 5] 2
  isc_4 : IsC K mg cls "Way" [2, 3, 4, 5] 4
  kt_FORMS : KTab K w mg "FORMS" [("ask", 2), ("bring", 1), ("in", 2), ("wrong", 2), ("tick", 0)]
structure Rx [Gam] (P : Program) (w : World) (K : PySem.W.Frag) (mg : Str → Option Value) (base : Heap) (cls : Nat → Addr) : Prop where
  c_is_whole : C8.Cal P w K mg base 2 "is_whole" (spM K cls m_is_whole) []
  c_is_between : C8.Cal P w K mg base 3 "is_between" (spM K cls m_is_between) []
  c_are_rising : C8.Cal P w K mg base 2 "are_rising" (spM K cls m_are_rising) []
  c_are_boxes : C8.Cal P w K mg base 4 "are_boxes" (spM K cls m_are_boxes) []
  c_is_account : C8.Cal P w K mg base 5 "is_account" (spM K cls m_is_account) []
  c_check_house : C8.Cal P w K mg base 6 "check_house" (spM K cls m_check_house) []
  c_check_boxes : C8.Cal P w K mg base 5 "check_boxes" (spM K cls m_check_boxes) []
  c_check_wanted : C8.Cal P w K mg base 4 "check_wanted" (spM K cls m_check_wanted) []
  c_come_to : C8.Cal P w K mg base 2 "come_to" (spM K cls m_come_to) []
  k_Never : C8.Mak P w K mg base 2 "Never" (cls 5) (spM K cls m_Never___init__) []
  k_Way : C8.Mak P w K mg base 2 "Way" (cls 4) (spM K cls m_Way___init__) []
  c_way_in : C8.Cal P w K mg base 7 "way_in" (spM K cls m_way_in) []
  c__law_deep : C8.Cal P w K mg base 7 "_law_deep" (spM K cls m__law_deep) []
  t_Way_shows : C8.Met P w K mg base 2 (cls 4) "shows" (spM K cls m_Way_shows) []
  t_Never_shows : C8.Met P w K mg base 2 (cls 5) "shows" (spM K cls m_Never_shows) []
  c__law_way : C8.Cal P w K mg base 8 "_law_way" (spM K cls m__law_way) []
  c_met_from : C8.Cal P w K mg base 2 "met_from" (spM K cls m_met_from) []
  c_next_boxes : C8.Cal P w K mg base 2 "next_boxes" (spM K cls m_next_boxes) []
  c_used_edges : C8.Cal P w K mg base 3 "used_edges" (spM K cls m_used_edges) []
  c_edges_of : C8.Cal P w K mg base 3 "edges_of" (spM K cls m_edges_of) []
  k_Bars : C8.Mak P w K mg base 2 "Bars" (cls 6) (spM K cls m_Bars___init__) []
  c_led_on : C8.Cal P w K mg base 2 "led_on" (spM K cls m_led_on) []
  c_is_way : C8.Cal P w K mg base 2 "is_way" (spM K cls m_is_way) []
  c_bars : C8.Cal P w K mg base 7 "bars" (spM K cls m_bars) []
  t_Bars_shows : C8.Met P w K mg base 3 (cls 6) "shows" (spM K cls m_Bars_shows) []
  c__law_bars : C8.Cal P w K mg base 8 "_law_bars" (spM K cls m__law_bars) []
  c__law_two : C8.Cal P w K mg base 2 "_law_two" (spM K cls m__law_two) []
  c_inside : C8.Cal P w K mg base 7 "inside" (spM K cls m_inside) []
  c_many_bars : C8.Cal P w K mg base 8 "many_bars" (spM K cls m_many_bars) []
  t_State_newest : C8.Met P w K mg base 2 (cls 0) "newest" (spM K cls m_State_newest) []
  t_State_is_good : C8.Met P w K mg base 3 (cls 0) "is_good" (spM K cls m_State_is_good) []
  t_State_brought : C8.Met P w K mg base 2 (cls 0) "brought" (spM K cls m_State_brought) []
  t_State_asked : C8.Met P w K mg base 2 (cls 0) "asked" (spM K cls m_State_asked) []
  t_State_tried : C8.Met P w K mg base 4 (cls 0) "tried" (spM K cls m_State_tried) []
  k_State : C8.Mak P w K mg base 2 "State" (cls 0) (spM K cls m_State___init__) []
  c_can_come : C8.Cal P w K mg base 5 "can_come" (spM K cls m_can_come) []
  c_check_settings : C8.Cal P w K mg base 4 "check_settings" (spM K cls m_check_settings) []
  c_is_line : C8.Cal P w K mg base 3 "is_line" (spM K cls m_is_line) []
  c_wrong_of : C8.Cal P w K mg base 6 "wrong_of" (spM K cls m_wrong_of) []
  k_Right : Mk0 K mg "Right" (cls 2)
  k_Wrong : C8.Mak P w K mg base 2 "Wrong" (cls 3) (spM K cls m_Wrong___init__) []
  c_judged : C8.Cal P w K mg base 7 "judged" (spM K cls m_judged) []
  c__law_judged : C8.Cal P w K mg base 8 "_law_judged" (spM K cls m__law_judged) []
  t_Right_shows : C8.Met P w K mg base 7 (cls 2) "shows" (spM K cls m_Right_shows) []
  t_Wrong_shows : C8.Met P w K mg base 7 (cls 3) "shows" (spM K cls m_Wrong_shows) []
  t_Door_check_account : C8.Met P w K mg base 4 (cls 1) "check_account" (spM K cls m_Door_check_account) []
  t_State_good_ones : C8.Met P w K mg base 4 (cls 0) "good_ones" (spM K cls m_State_good_ones) []
  k_Door : C8.Mak P w K mg base 5 "Door" (cls 1) (spM K cls m_Door___init__) []
  t_Door_ask : C8.Met P w K mg base 5 (cls 1) "ask" (spM K cls m_Door_ask) []
  t_Door_open_to : C8.Met P w K mg base 5 (cls 1) "open_to" (spM K cls m_Door_open_to) []
  t_Door_box : C8.Met P w K mg base 5 (cls 1) "box" (spM K cls m_Door_box) []
  t_Door_good : C8.Met P w K mg base 5 (cls 1) "good" (spM K cls m_Door_good) []
  t_Door_tale : C8.Met P w K mg base 2 (cls 1) "tale" (spM K cls m_Door_tale) []
  c__law_open : C8.Cal P w K mg base 7 "_law_open" (spM K cls m__law_open) []
  c__law_draw : C8.Cal P w K mg base 2 "_law_draw" (spM K cls m__law_draw) []
  c__law_spoilt : C8.Cal P w K mg base 7 "_law_spoilt" (spM K cls m__law_spoilt) []
  c__law_put : C8.Cal P w K mg base 8 "_law_put" (spM K cls m__law_put) []
  c__law_number : C8.Cal P w K mg base 3 "_law_number" (spM K cls m__law_number) []
  c__law_cell_at : C8.Cal P w K mg base 2 "_law_cell_at" (spM K cls m__law_cell_at) []
section
variable [gm : Gam] {P : Program} {w : World} {K : PySem.W.Frag} {mg : Str → Option Value} {base : Heap} {cls : Nat → Addr}
theorem sc_is_whole : FnScope ["thing"] ["thing"] (defScope s_is_whole) := ⟨rfl, rfl, rfl, by decide +kernel, rfl, by decide +kernel, by decide +kernel⟩
theorem ok_is_whole {fA : Addr} {fd : FuncData} (F0 : L2.Fun K "is_whole" "is_whole" s_is_whole fA fd) (T : Tx K w mg cls)  : FnOk P w K mg base CX0 2 fA fd ["thing"] (spM K cls m_is_whole) := 
  have sc := sc_is_whole
  def_ok F0 sc rfl rfl fun cdv A outer s H E hr hK => ⟨_, sss_1 (ss_ret (se_and (se_isi 0 T.bt T.bt.int (by decide +kernel) (se_v 0)) (se_b1 (se_not (se_isi 1 T.bt T.bt.bool (by decide +kernel) (se_v 0))))))⟩
theorem sc_is_between : FnScope ["thing", "least", "most"] ["thing", "least", "most"] (defScope s_is_between) := ⟨rfl, rfl, rfl, by decide +kernel, rfl, by decide +kernel, by decide +kernel⟩
theorem ok_is_between {fA : Addr} {fd : FuncData} (F0 : L2.Fun K "is_between" "is_between" s_is_between fA fd) (T : Tx K w mg cls) (c_is_whole : C8.Cal P w K mg base 2 "is_whole" (spM K cls m_is_whole) []) : FnOk P w K mg base CX0 3 fA fd ["thing", "least", "most"] (spM K cls m_is_between) := 
  have sc := sc_is_between
  def_ok F0 sc rfl rfl fun cdv A outer s H E hr hK => ⟨_, sss_1 (ss_ret (se_and (se_call c_is_whole hr (sa_c (se_v 0) (sa_n))) (se_b1 (se_ch c_le c_le (se_v 1) (se_v 0) (se_v 2)))))⟩
theorem sc_are_rising : FnScope ["line", "one", "other"] ["line"] (defScope s_are_rising) := ⟨rfl, rfl, rfl, by decide +kernel, rfl, by decide +kernel, by decide +kernel⟩
theorem ok_are_rising {fA : Addr} {fd : FuncData} (F0 : L2.Fun K "are_rising" "are_rising" s_are_rising fA fd) (T : Tx K w mg cls)  : FnOk P w K mg base CX0 2 fA fd ["line"] (spM K cls m_are_rising) := 
  have sc := sc_are_rising
  def_ok F0 sc rfl rfl fun cdv A outer s H E hr hK => ⟨_, sss_1 (ss_ret (se_all T.bt (sl_lc [("one", 1), ("other", 2)] sc.nd (si_zip T.bt (se_v 0) (se_sl (se_v 0) (so_s (se_int)) (so_n))) (by first | decide +kernel | rfl) (by decide) (fun _ _ _ _ _ _ => sg_t (sgs_c (sg_n 1 sc.nd) (sgs_c (sg_n 2 sc.nd) (sgs_n)))) (fun _ _ _ _ _ _ => sts_n) (fun _ _ _ _ _ _ => se_c c_lt (se_v 1) (se_v 2)))))⟩
theorem sc_are_boxes : FnScope ["thing", "most", "box"] ["thing", "most"] (defScope s_are_boxes) := ⟨rfl, rfl, rfl, by decide +kernel, rfl, by decide +kernel, by decide +kernel⟩
theorem ok_are_boxes {fA : Addr} {fd : FuncData} (F0 : L2.Fun K "are_boxes" "are_boxes" s_are_boxes fA fd) (T : Tx K w mg cls) (c_is_between : C8.Cal P w K mg base 3 "is_between" (spM K cls m_is_between) []) (c_are_rising : C8.Cal P w K mg base 2 "are_rising" (spM K cls m_are_rising) []) : FnOk P w K mg base CX0 4 fA fd ["thing", "most"] (spM K cls m_are_boxes) := 
  have sc := sc_are_boxes
  def_ok F0 sc rfl rfl fun cdv A outer s H E hr hK => ⟨_, sss_c (ss_if (st_w (sw_or (st_not (st_e (m := true) (se_isi 3 T.bt T.bt.list (by decide +kernel) (se_v 0)))) (sw_or1 (st_c c_gt (se_len T.bt (se_v 0)) (se_v 1))))) (sss_1 (ss_ret (se_bl)))
    (sss_n))
    (sss_1 (ss_ret (se_and (se_all T.bt (sl_lc [("box", 2)] sc.nd (si_seq (se_v 0)) (by first | decide +kernel | rfl) (by decide) (fun _ _ _ _ _ _ => sg_n 2 sc.nd) (fun _ _ _ _ _ _ => sts_n) (fun _ _ _ _ _ _ => se_call c_is_between hr (sa_c (se_v 2) (sa_c (se_int) (sa_c (se_sub (se_gi T.g_MOST_BOXES) (se_int)) (sa_n))))))) (se_b1 (se_call c_are_rising hr (sa_c (se_v 0) (sa_n)))))))⟩
theorem sc_is_account : FnScope ["thing"] ["thing"] (defScope s_is_account) := ⟨rfl, rfl, rfl, by decide +kernel, rfl, by decide +kernel, by decide +kernel⟩
theorem ok_is_account {fA : Addr} {fd : FuncData} (F0 : L2.Fun K "is_account" "is_account" s_is_account fA fd) (T : Tx K w mg cls) (c_are_boxes : C8.Cal P w K mg base 4 "are_boxes" (spM K cls m_are_boxes) []) : FnOk P w K mg base CX0 5 fA fd ["thing"] (spM K cls m_is_account) := 
  have sc := sc_is_account
  def_ok F0 sc rfl rfl fun cdv A outer s H E hr hK => ⟨_, sss_c (ss_if (st_w (sw_or (st_not (st_e (m := true) (se_isi 4 T.bt T.bt.tuple (by decide +kernel) (se_v 0)))) (sw_or1 (st_c (c_ne hr.units) (se_len T.bt (se_v 0)) (se_int))))) (sss_1 (ss_ret (se_bl)))
    (sss_n))
    (sss_1 (ss_ret (se_and (se_call c_are_boxes hr (sa_c (se_ix (se_v 0) (se_int)) (sa_c (se_gi T.g_MOST_AT_ONCE) (sa_n)))) (se_b1 (se_call c_are_boxes hr (sa_c (se_ix (se_v 0) (se_int)) (sa_c (se_gi T.g_MOST_AT_ONCE) (sa_n))))))))⟩
theorem sc_check_house : FnScope ["house", "account"] ["house"] (defScope s_check_house) := ⟨rfl, rfl, rfl, by decide +kernel, rfl, by decide +kernel, by decide +kernel⟩
theorem ok_check_house {fA : Addr} {fd : FuncData} (F0 : L2.Fun K "check_house" "check_house" s_check_house fA fd) (T : Tx K w mg cls) (c_is_account : C8.Cal P w K mg base 5 "is_account" (spM K cls m_is_account) []) : FnOk P w K mg base CX0 6 fA fd ["house"] (spM K cls m_check_house) := 
  have sc := sc_check_house
  def_ok F0 sc rfl rfl fun cdv A outer s H E hr hK => ⟨_, sss_c (ss_if (st_w (sw_or (st_not (st_e (m := true) (se_isi 3 T.bt T.bt.list (by decide +kernel) (se_v 0)))) (sw_or1 (st_not (st_ch c_le c_le (se_int) (se_len T.bt (se_v 0)) (se_gi T.g_MOST_ACCOUNTS_houses)))))) (sss_1 (ss_raise))
    (sss_n))
    (sss_1 (ss_if (st_not (st_e (m := true) (se_all T.bt (sl_lc [("account", 1)] sc.nd (si_seq (se_v 0)) (by first | decide +kernel | rfl) (by decide) (fun _ _ _ _ _ _ => sg_n 1 sc.nd) (fun _ _ _ _ _ _ => sts_n) (fun _ _ _ _ _ _ => se_call c_is_account hr (sa_c (se_v 1) (sa_n))))))) (sss_1 (ss_raise))
    (sss_n)))⟩
theorem sc_check_boxes : FnScope ["boxes"] ["boxes"] (defScope s_check_boxes) := ⟨rfl, rfl, rfl, by decide +kernel, rfl, by decide +kernel, by decide +kernel⟩
theorem ok_check_boxes {fA : Addr} {fd : FuncData} (F0 : L2.Fun K "check_boxes" "check_boxes" s_check_boxes fA fd) (T : Tx K w mg cls) (c_are_boxes : C8.Cal P w K mg base 4 "are_boxes" (spM K cls m_are_boxes) []) : FnOk P w K mg base CX0 5 fA fd ["boxes"] (spM K cls m_check_boxes) := 
  have sc := sc_check_boxes
  def_ok F0 sc rfl rfl fun cdv A outer s H E hr hK => ⟨_, sss_1 (ss_if (st_not (st_e (m := true) (se_call c_are_boxes hr (sa_c (se_v 0) (sa_c (se_gi T.g_MOST_BOXES) (sa_n)))))) (sss_1 (ss_raise))
    (sss_n))⟩
theorem sc_check_wanted : FnScope ["house", "account"] ["house", "account"] (defScope s_check_wanted) := ⟨rfl, rfl, rfl, by decide +kernel, rfl, by decide +kernel, by decide +kernel⟩
theorem ok_check_wanted {fA : Addr} {fd : FuncData} (F0 : L2.Fun K "check_wanted" "check_wanted" s_check_wanted fA fd) (T : Tx K w mg cls) (c_is_between : C8.Cal P w K mg base 3 "is_between" (spM K cls m_is_between) []) : FnOk P w K mg base CX0 4 fA fd ["house", "account"] (spM K cls m_check_wanted) := 
  have sc := sc_check_wanted
  def_ok F0 sc rfl rfl fun cdv A outer s H E hr hK => ⟨_, sss_1 (ss_if (st_not (st_e (m := true) (se_call c_is_between hr (sa_c (se_v 1) (sa_c (se_int) (sa_c (se_sub (se_len T.bt (se_v 0)) (se_int)) (sa_n))))))) (sss_1 (ss_raise))
    (sss_n))⟩
theorem sc_come_to : FnScope ["house", "boxes", "barred", "found", "way", "box", "more", "account", "sent", "opened"] ["house", "boxes", "barred"] (defScope s_come_to) := ⟨rfl, rfl, rfl, by decide +kernel, rfl, by decide +kernel, by decide +kernel⟩
theorem ok_come_to {fA : Addr} {fd : FuncData} (F0 : L2.Fun K "come_to" "come_to" s_come_to fA fd) (T : Tx K w mg cls)  : FnOk P w K mg base CX0 2 fA fd ["house", "boxes", "barred"] (spM K cls m_come_to) := 
  have sc := sc_come_to
  def_ok F0 sc rfl rfl fun cdv A outer s H E hr hK => ⟨_, sss_c (ss_parvo_t 3 4 sc.nd (se_d (sl_lc [("box", 5)] sc.nd (si_seq (se_v 1)) (by first | decide +kernel | rfl) (by decide) (fun _ _ _ _ _ _ => sg_n 5 sc.nd) (fun _ _ _ _ _ _ => sts_c (st_c (c_nin (hu65 hr)) (se_v 5) (se_v 2))) (fun _ _ _ _ _ _ => se_v 5))) (sl_disp (sa_n)))
    (sss_c (ss_set 6 sc.nd (se_bl))
    (sss_c (ss_while 20 (st_e (m := true) (se_v 6))
    (sss_c (ss_set 6 sc.nd (se_bl))
    (sss_1 (ss_for (si_enum T.bt (se_v 0)) (sg_t (sgs_c (sg_n 7 sc.nd) (sgs_c (sg_t (sgs_c (sg_n 8 sc.nd) (sgs_c (sg_n 9 sc.nd) (sgs_n)))) (sgs_n))))
    (sss_1 (ss_if (st_w (sw_and (st_c (c_nin (hu65 hr)) (se_v 7) (se_o 4)) (sw_and1 (st_e (m := true) (se_any T.bt (sl_lc [("box", 5)] sc.nd (si_seq (se_v 8)) (by first | decide +kernel | rfl) (by decide) (fun _ _ _ _ _ _ => sg_n 5 sc.nd) (fun _ _ _ _ _ _ => sts_n) (fun _ _ _ _ _ _ => se_c (c_in (hu65 hr)) (se_v 5) (se_v 3)))))))) (sss_c (ss_app 4 (se_v 7))
    (sss_c (ss_set 3 sc.nd (se_add (se_v 3) (se_d (sl_lc [("box", 5)] sc.nd (si_seq (se_v 9)) (by first | decide +kernel | rfl) (by decide) (fun _ _ _ _ _ _ => sg_n 5 sc.nd) (fun _ _ _ _ _ _ => sts_c (st_w (sw_and (st_c (c_nin (hu65 hr)) (se_v 5) (se_v 3)) (sw_and1 (st_c (c_nin (hu65 hr)) (se_v 5) (se_v 2)))))) (fun _ _ _ _ _ _ => se_v 5)))))
    (sss_1 (ss_set 6 sc.nd (se_bl)))))
    (sss_n)))))))
    (sss_1 (ss_retT (sa_c (se_d (sl_sorted T.bt (se_v 3))) (sa_c (se_o 4) (sa_n)))))))⟩
theorem sc_Never___init__ : FnScope ["self", "boxes"] ["self", "boxes"] (defScope s_Never___init__) := ⟨rfl, rfl, rfl, by decide +kernel, rfl, by decide +kernel, by decide +kernel⟩
theorem ok_Never___init__ {fA : Addr} {fd : FuncData} (F0 : L2.Fun K "__init__" "Never.__init__" s_Never___init__ fA fd) (T : Tx K w mg cls)  : FnOk P w K mg base CX0 2 fA fd ["self", "boxes"] (spM K cls m_Never___init__) := 
  have sc := sc_Never___init__
  def_ok F0 sc rfl rfl fun cdv A outer s H E hr hK => ⟨_, sss_1 (ss_fld T.a_5_0 (se_v 0) (se_k (sl_list T.bt (se_v 1))))⟩
theorem sc_Way___init__ : FnScope ["self", "accounts"] ["self", "accounts"] (defScope s_Way___init__) := ⟨rfl, rfl, rfl, by decide +kernel, rfl, by decide +kernel, by decide +kernel⟩
theorem ok_Way___init__ {fA : Addr} {fd : FuncData} (F0 : L2.Fun K "__init__" "Way.__init__" s_Way___init__ fA fd) (T : Tx K w mg cls)  : FnOk P w K mg base CX0 2 fA fd ["self", "accounts"] (spM K cls m_Way___init__) := 
  have sc := sc_Way___init__
  def_ok F0 sc rfl rfl fun cdv A outer s H E hr hK => ⟨_, sss_1 (ss_fld T.a_4_0 (se_v 0) (se_k (sl_list T.bt (se_v 1))))⟩
theorem sc_way_in : FnScope ["house", "boxes", "account", "found", "way"] ["house", "boxes", "account"] (defScope s_way_in) := ⟨rfl, rfl, rfl, by decide +kernel, rfl, by decide +kernel, by decide +kernel⟩
theorem ok_way_in {fA : Addr} {fd : FuncData} (F0 : L2.Fun K "way_in" "way_in" s_way_in fA fd) (T : Tx K w mg cls) (c_check_house : C8.Cal P w K mg base 6 "check_house" (spM K cls m_check_house) []) (c_check_boxes : C8.Cal P w K mg base 5 "check_boxes" (spM K cls m_check_boxes) []) (c_check_wanted : C8.Cal P w K mg base 4 "check_wanted" (spM K cls m_check_wanted) []) (c_come_to : C8.Cal P w K mg base 2 "come_to" (spM K cls m_come_to) []) (k_Never : C8.Mak P w K mg base 2 "Never" (cls 5) (spM K cls m_Never___init__) []) (k_Way : C8.Mak P w K mg base 2 "Way" (cls 4) (spM K cls m_Way___init__) []) : FnOk P w K mg base CX0 7 fA fd ["house", "boxes", "account"] (spM K cls m_way_in) := 
  have sc := sc_way_in
  def_ok F0 sc rfl rfl fun cdv A outer s H E hr hK => ⟨_, sss_c (ss_drop (se_call c_check_house hr (sa_c (se_v 0) (sa_n))))
    (sss_c (ss_drop (se_call c_check_boxes hr (sa_c (se_v 1) (sa_n))))
    (sss_c (ss_drop (se_call c_check_wanted hr (sa_c (se_v 0) (sa_c (se_v 2) (sa_n)))))
    (sss_c (ss_asg (se_call c_come_to hr (sa_c (se_v 0) (sa_c (se_v 1) (sa_c (se_d (sl_disp (sa_n))) (sa_n))))) (sg_t (sgs_c (sg_n 3 sc.nd) (sgs_c (sg_n 4 sc.nd) (sgs_n)))))
    (sss_c (ss_if (st_c (c_nin (hu65 hr)) (se_v 2) (se_v 4)) (sss_1 (ss_ret (se_new k_Never hr (sa_c (se_v 3) (sa_n)))))
    (sss_n))
    (sss_1 (ss_ret (se_new k_Way hr (sa_c (se_sl (se_v 4) (so_n) (so_s (se_add (se_index (se_v 4) (se_v 2)) (se_int)))) (sa_n)))))))))⟩
theorem sc__law_deep : FnScope ["_law_thing", "_law_one"] ["_law_thing"] (defScope s__law_deep) := ⟨rfl, rfl, rfl, by decide +kernel, rfl, by decide +kernel, by decide +kernel⟩
theorem ok__law_deep {mm : F} {k : Nat} {fA : Addr} {fd : FuncData} (F0 : L2.Fun K "_law_deep" "_law_deep" s__law_deep fA fd) (T : Tx K w mg cls) (c__law_deep : C8.Cal P w K mg base k "_law_deep" (spM K cls mm) [])  : FnOk P w K mg base CX0 (k + 1) fA fd ["_law_thing"] (spM K cls (fnOf 1 2 (b__law_deep mm))) := 
  have sc := sc__law_deep
  def_ok F0 sc rfl rfl fun cdv A outer s H E hr hK => ⟨_, sss_c (ss_if (st_e (m := true) (se_isi 3 T.bt T.bt.list (by decide +kernel) (se_v 0))) (sss_1 (ss_ret (se_k (sl_lc [("_law_one", 1)] sc.nd (si_seq (se_v 0)) (by first | decide +kernel | rfl) (by decide) (fun _ _ _ _ _ _ => sg_n 1 sc.nd) (fun _ _ _ _ _ _ => sts_n) (fun _ _ _ _ _ _ => se_call c__law_deep hr (sa_c (se_v 1) (sa_n)) (hk := Nat.le_refl _))))))
    (sss_n))
    (sss_1 (ss_ret (se_if (st_e (m := true) (se_isi 4 T.bt T.bt.tuple (by decide +kernel) (se_v 0))) (se_tupOf T.bt (sl_lc [("_law_one", 1)] sc.nd (si_seq (se_v 0)) (by first | decide +kernel | rfl) (by decide) (fun _ _ _ _ _ _ => sg_n 1 sc.nd) (fun _ _ _ _ _ _ => sts_n) (fun _ _ _ _ _ _ => se_call c__law_deep hr (sa_c (se_v 1) (sa_n)) (hk := Nat.le_refl _)))) (se_v 0))))⟩
theorem sc_Way_shows : FnScope ["self", "house", "boxes", "account", "found", "one", "box"] ["self", "house", "boxes", "account"] (defScope s_Way_shows) := ⟨rfl, rfl, rfl, by decide +kernel, rfl, by decide +kernel, by decide +kernel⟩
theorem ok_Way_shows {fA : Addr} {fd : FuncData} (F0 : L2.Fun K "shows" "Way.shows" s_Way_shows fA fd) (T : Tx K w mg cls)  : FnOk P w K mg base CX0 2 fA fd ["self", "house", "boxes", "account"] (spM K cls m_Way_shows) := 
  have sc := sc_Way_shows
  def_ok F0 sc rfl rfl fun cdv A outer s H E hr hK => ⟨_, sss_c (ss_set 4 sc.nd (se_d (sl_list T.bt (se_v 2))))
    (sss_c (ss_for (si_seq (se_fld T.a_4_0 (se_v 0))) (sg_n 5 sc.nd)
    (sss_c (ss_if (st_w (sw_or (st_not (st_ch c_le c_lt (se_int) (se_v 5) (se_len T.bt (se_v 1)))) (sw_or1 (st_not (st_e (m := true) (se_any T.bt (sl_lc [("box", 6)] sc.nd (si_seq (se_ix (se_ix (se_v 1) (se_v 5)) (se_int))) (by first | decide +kernel | rfl) (by decide) (fun _ _ _ _ _ _ => sg_n 6 sc.nd) (fun _ _ _ _ _ _ => sts_n) (fun _ _ _ _ _ _ => se_c (c_in (hu65 hr)) (se_v 6) (se_v 4))))))))) (sss_1 (ss_ret (se_bl)))
    (sss_n))
    (sss_1 (ss_set 4 sc.nd (se_add (se_v 4) (se_ix (se_ix (se_v 1) (se_v 5)) (se_int)))))))
    (sss_1 (ss_ret (se_c (c_eq hr.units) (se_sl (se_fld T.a_4_0 (se_v 0)) (so_s (se_neg (se_int))) (so_n)) (se_d (sl_disp (sa_c (se_v 3) (sa_n))))))))⟩
theorem sc_Never_shows : FnScope ["self", "house", "boxes", "account", "box", "sent", "opened"] ["self", "house", "boxes", "account"] (defScope s_Never_shows) := ⟨rfl, rfl, rfl, by decide +kernel, rfl, by decide +kernel, by decide +kernel⟩
theorem ok_Never_shows {fA : Addr} {fd : FuncData} (F0 : L2.Fun K "shows" "Never.shows" s_Never_shows fA fd) (T : Tx K w mg cls)  : FnOk P w K mg base CX0 2 fA fd ["self", "house", "boxes", "account"] (spM K cls m_Never_shows) := 
  have sc := sc_Never_shows
  def_ok F0 sc rfl rfl fun cdv A outer s H E hr hK => ⟨_, sss_c (ss_if (st_w (sw_or (st_e (m := true) (se_any T.bt (sl_lc [("box", 4)] sc.nd (si_seq (se_v 2)) (by first | decide +kernel | rfl) (by decide) (fun _ _ _ _ _ _ => sg_n 4 sc.nd) (fun _ _ _ _ _ _ => sts_n) (fun _ _ _ _ _ _ => se_c (c_nin (hu65 hr)) (se_v 4) (se_fld T.a_5_0 (se_v 0)))))) (sw_or1 (st_e (m := true) (se_any T.bt (sl_lc [("box", 4)] sc.nd (si_seq (se_ix (se_ix (se_v 1) (se_v 3)) (se_int))) (by first | decide +kernel | rfl) (by decide) (fun _ _ _ _ _ _ => sg_n 4 sc.nd) (fun _ _ _ _ _ _ => sts_n) (fun _ _ _ _ _ _ => se_c (c_in (hu65 hr)) (se_v 4) (se_fld T.a_5_0 (se_v 0))))))))) (sss_1 (ss_ret (se_bl)))
    (sss_n))
    (sss_c (ss_for (si_seq (se_v 1)) (sg_t (sgs_c (sg_n 5 sc.nd) (sgs_c (sg_n 6 sc.nd) (sgs_n))))
    (sss_1 (ss_if (st_w (sw_and (st_e (m := true) (se_any T.bt (sl_lc [("box", 4)] sc.nd (si_seq (se_v 5)) (by first | decide +kernel | rfl) (by decide) (fun _ _ _ _ _ _ => sg_n 4 sc.nd) (fun _ _ _ _ _ _ => sts_n) (fun _ _ _ _ _ _ => se_c (c_in (hu65 hr)) (se_v 4) (se_fld T.a_5_0 (se_v 0)))))) (sw_and1 (st_e (m := true) (se_any T.bt (sl_lc [("box", 4)] sc.nd (si_seq (se_v 6)) (by first | decide +kernel | rfl) (by decide) (fun _ _ _ _ _ _ => sg_n 4 sc.nd) (fun _ _ _ _ _ _ => sts_n) (fun _ _ _ _ _ _ => se_c (c_nin (hu65 hr)) (se_v 4) (se_fld T.a_5_0 (se_v 0))))))))) (sss_1 (ss_ret (se_bl)))
    (sss_n))))
    (sss_1 (ss_ret (se_bl))))⟩
theorem sc__law_way : FnScope ["_law_house", "_law_boxes", "_law_account", "_law_found", "_law_some"] ["_law_house", "_law_boxes", "_law_account"] (defScope s__law_way) := ⟨rfl, rfl, rfl, by decide +kernel, rfl, by decide +kernel, by decide +kernel⟩
theorem ok__law_way {fA : Addr} {fd : FuncData} (F0 : L2.Fun K "_law_way" "_law_way" s__law_way fA fd) (T : Tx K w mg cls) (c_way_in : C8.Cal P w K mg base 7 "way_in" (spM K cls m_way_in) []) (c__law_deep : C8.Cal P w K mg base 7 "_law_deep" (spM K cls m__law_deep) []) (t_Way_shows : C8.Met P w K mg base 2 (cls 4) "shows" (spM K cls m_Way_shows) []) (t_Never_shows : C8.Met P w K mg base 2 (cls 5) "shows" (spM K cls m_Never_shows) []) : FnOk P w K mg base CX0 8 fA fd ["_law_house", "_law_boxes", "_law_account"] (spM K cls m__law_way) := 
  have sc := sc__law_way
  def_ok F0 sc rfl rfl fun cdv A outer s H E hr hK => ⟨_, sss_c (ss_set 3 sc.nd (se_call c_way_in hr (sa_c (se_v 0) (sa_c (se_v 1) (sa_c (se_v 2) (sa_n))))))
    (sss_c (ss_set 4 sc.nd (se_if (st_e (m := true) (se_isc T.isc_4 T.ins T.bt (se_v 3))) (se_fld T.a_4_0 (se_v 3)) (se_fld T.a_5_0 (se_v 3))))
    (sss_1 (ss_retT (sa_c (se_k (sl_disp (sa_c (se_isc T.isc_4 T.ins T.bt (se_v 3)) (sa_c (se_alt (se_meth (C := 4) t_Way_shows hr (se_v 3) (sa_c (se_call c__law_deep hr (sa_c (se_v 0) (sa_n))) (sa_c (se_k (sl_list T.bt (se_v 1))) (sa_c (se_v 2) (sa_n)))) (by decide)) (se_meth (C := 5) t_Never_shows hr (se_v 3) (sa_c (se_call c__law_deep hr (sa_c (se_v 0) (sa_n))) (sa_c (se_k (sl_list T.bt (se_v 1))) (sa_c (se_v 2) (sa_n)))) (by decide))) (sa_n))))) (sa_c (se_v 4) (sa_n))))))⟩
theorem sc_lam_0 : NScope ["_law_some", "_law_account"] ["_law_some"] ["_law_account"] L_lam_0.scope := nscope_by (by decide +kernel)
theorem fr_lam_0 : ∀ y ∈ L_lam_0.scope.names, y.2 = .free → (defScope s_law).names.lookup y.1 = some .cell ∨ (defScope s_law).names.lookup y.1 = some .free := by decide +kernel
theorem fs_lam_0 : ∀ y ∈ (["_law_account"] : List Str), (y, NameKind.free) ∈ L_lam_0.scope.names := by decide +kernel
theorem ok_lam_0 (T : Tx K w mg cls) (c__law_way : C8.Cal P w K mg base 8 "_law_way" (spM K cls m__law_way) []) : LamOk P w K cls mg base 9 L_lam_0 ["_law_account"] lam_0 :=
  lam_ok sc_lam_0 rfl rfl rfl (fun cl c' pm ctv us hl => match us, hl with | [_], _ => rfl) fun A outer s H E f c' cl hr hK tk => ⟨_, sx_lift (se_call c__law_way hr (sa_c (se_ix (se_v 0) (se_int)) (sa_c (se_ix (se_v 0) (se_int)) (sa_c (se_v 1) (sa_n)))))⟩
theorem sc_met_from : FnScope ["edges", "used", "begin", "known", "line", "here", "some", "there", "other"] ["edges", "used"] (defScope s_met_from) := ⟨rfl, rfl, rfl, by decide +kernel, rfl, by decide +kernel, by decide +kernel⟩
theorem ok_met_from {fA : Addr} {fd : FuncData} (F0 : L2.Fun K "met_from" "met_from" s_met_from fA fd) (T : Tx K w mg cls)  : FnOk P w K mg base CX0 2 fA fd ["edges", "used"] (spM K cls m_met_from) := 
  have sc := sc_met_from
  def_ok F0 sc rfl rfl fun cdv A outer s H E hr hK => ⟨_, sss_c (ss_set 2 sc.nd (se_tup (sa_c (se_str) (sa_c (se_int) (sa_n)))))
    (sss_c (ss_par 3 4 sc.nd (se_disp1T (Nat.lt_of_succ_lt (hu1 hr)) (se_v 2) (se_v 2)) (se_k (sl_disp (sa_c (se_v 2) (sa_n)))))
    (sss_c (ss_while 40 (st_c (c_ne hr.units) (se_v 4) (se_d (sl_disp (sa_n))))
    (sss_c (ss_set 5 sc.nd (se_pop0 (se_v 4) (se_int)))
    (sss_c (ss_lcV 6 [("there", 7)] sc.nd (si_seq (se_tget2 (se_v 0) (se_v 5) (se_d (sl_disp (sa_n))) (hu1 hr))) (by first | decide +kernel | rfl) (by decide) (fun _ _ _ _ _ _ => sg_n 7 sc.nd) (fun _ _ _ _ _ _ => sts_c (st_w (sw_or (st_c (c_nin (hu65 hr)) (se_tup (sa_c (se_v 5) (sa_c (se_v 7) (sa_n)))) (se_v 1)) (sw_or1 (st_c (c_ne hr.units) (se_ix (se_v 5) (se_int)) (se_str)))))) (fun _ _ _ _ _ _ => se_v 7) (sw_true rfl rfl rfl (by decide +kernel)))
    (sss_c (ss_set 6 sc.nd (se_add (se_v 6) (se_d (sl_lc [("there", 7), ("other", 8)] sc.nd (si_seq (se_v 1)) (by first | decide +kernel | rfl) (by decide) (fun _ _ _ _ _ _ => sg_t (sgs_c (sg_n 7 sc.nd) (sgs_c (sg_n 8 sc.nd) (sgs_n)))) (fun _ _ _ _ _ _ => sts_c (st_c (c_eq hr.units) (se_v 8) (se_v 5))) (fun _ _ _ _ _ _ => se_v 7)))))
    (sss_1 (ss_for (si_seq (se_v 6)) (sg_n 7 sc.nd)
    (sss_1 (ss_if (st_tnin (se_v 7) (se_v 3) (hu1 hr)) (sss_c (ss_tset (se_v 3) (se_v 7) (se_v 5) (hu1 hr))
    (sss_1 (ss_appK (se_v 4) (se_v 7))))
    (sss_n)))))))))
    (sss_1 (ss_ret (se_v 3)))))⟩
theorem sc_used_edges : FnScope ["edges", "used", "end", "known", "here", "before", "pair"] ["edges"] (defScope s_used_edges) := ⟨rfl, rfl, rfl, by decide +kernel, rfl, by decide +kernel, by decide +kernel⟩
theorem ok_used_edges {fA : Addr} {fd : FuncData} (F0 : L2.Fun K "used_edges" "used_edges" s_used_edges fA fd) (T : Tx K w mg cls) (c_met_from : C8.Cal P w K mg base 2 "met_from" (spM K cls m_met_from) []) : FnOk P w K mg base CX0 3 fA fd ["edges"] (spM K cls m_used_edges) := 
  have sc := sc_used_edges
  def_ok F0 sc rfl rfl fun cdv A outer s H E hr hK => ⟨_, sss_c (ss_par 1 2 sc.nd (se_d (sl_disp (sa_n))) (se_tup (sa_c (se_str) (sa_c (se_int) (sa_n)))))
    (sss_c (ss_set 3 sc.nd (se_call c_met_from hr (sa_c (se_v 0) (sa_c (se_v 1) (sa_n)))))
    (sss_c (ss_while 12 (st_tin (se_v 2) (se_v 3) (hu1 hr))
    (sss_c (ss_set 4 sc.nd (se_v 2))
    (sss_c (ss_while 40 (st_c (c_ne hr.units) (se_v 4) (se_tup (sa_c (se_str) (sa_c (se_int) (sa_n)))))
    (sss_c (ss_set 5 sc.nd (se_tget (se_v 3) (se_v 4) (hu1 hr)))
    (sss_c (ss_if (st_c (c_in (hu65 hr)) (se_tup (sa_c (se_v 4) (sa_c (se_v 5) (sa_n)))) (se_v 1)) (sss_1 (ss_lcV 1 [("pair", 6)] sc.nd (si_seq (se_v 1)) (by first | decide +kernel | rfl) (by decide) (fun _ _ _ _ _ _ => sg_n 6 sc.nd) (fun _ _ _ _ _ _ => sts_c (st_c (c_ne hr.units) (se_v 6) (se_tup (sa_c (se_v 4) (sa_c (se_v 5) (sa_n)))))) (fun _ _ _ _ _ _ => se_v 6) (sw_true rfl rfl rfl (by decide +kernel))))
    (sss_1 (ss_set 1 sc.nd (se_add (se_v 1) (se_d (sl_disp (sa_c (se_tup (sa_c (se_v 5) (sa_c (se_v 4) (sa_n)))) (sa_n))))))))
    (sss_1 (ss_set 4 sc.nd (se_v 5))))))
    (sss_1 (ss_set 3 sc.nd (se_call c_met_from hr (sa_c (se_v 0) (sa_c (se_v 1) (sa_n)))))))))
    (sss_1 (ss_retT (sa_c (se_v 1) (sa_c (se_v 3) (sa_n)))))))⟩
theorem sc_next_boxes : FnScope ["house", "box", "found", "sent", "opened", "other"] ["house", "box"] (defScope s_next_boxes) := ⟨rfl, rfl, rfl, by decide +kernel, rfl, by decide +kernel, by decide +kernel⟩
theorem ok_next_boxes {fA : Addr} {fd : FuncData} (F0 : L2.Fun K "next_boxes" "next_boxes" s_next_boxes fA fd) (T : Tx K w mg cls)  : FnOk P w K mg base CX0 2 fA fd ["house", "box"] (spM K cls m_next_boxes) := 
  have sc := sc_next_boxes
  def_ok F0 sc rfl rfl fun cdv A outer s H E hr hK => ⟨_, sss_c (ss_own 2 sc.nd (sl_disp (sa_n)))
    (sss_c (ss_for (si_seq (se_v 0)) (sg_t (sgs_c (sg_n 3 sc.nd) (sgs_c (sg_n 4 sc.nd) (sgs_n))))
    (sss_1 (ss_if (st_c (c_in (hu65 hr)) (se_v 1) (se_v 3)) (sss_1 (ss_ext 2 (sl_lc [("other", 5)] sc.nd (si_seq (se_v 4)) (by first | decide +kernel | rfl) (by decide) (fun _ _ _ _ _ _ => sg_n 5 sc.nd) (fun _ _ _ _ _ _ => sts_c (st_w (sw_and (st_c (c_ne hr.units) (se_v 5) (se_v 1)) (sw_and1 (st_c (c_nin (hu65 hr)) (se_v 5) (se_o 2)))))) (fun _ _ _ _ _ _ => se_v 5))))
    (sss_n))))
    (sss_1 (ss_ret (se_o 2))))⟩
theorem sc_edges_of : FnScope ["house", "boxes", "account", "found", "box", "other"] ["house", "boxes", "account"] (defScope s_edges_of) := ⟨rfl, rfl, rfl, by decide +kernel, rfl, by decide +kernel, by decide +kernel⟩
theorem ok_edges_of {fA : Addr} {fd : FuncData} (F0 : L2.Fun K "edges_of" "edges_of" s_edges_of fA fd) (T : Tx K w mg cls) (c_next_boxes : C8.Cal P w K mg base 2 "next_boxes" (spM K cls m_next_boxes) []) : FnOk P w K mg base CX0 3 fA fd ["house", "boxes", "account"] (spM K cls m_edges_of) := 
  have sc := sc_edges_of
  def_ok F0 sc rfl rfl fun cdv A outer s H E hr hK => ⟨_, sss_c (ss_set 3 sc.nd (se_disp1T (Nat.lt_of_succ_lt (hu1 hr)) (se_tup (sa_c (se_str) (sa_c (se_int) (sa_n)))) (se_k (sl_lc [("box", 4)] sc.nd (si_seq (se_v 1)) (by first | decide +kernel | rfl) (by decide) (fun _ _ _ _ _ _ => sg_n 4 sc.nd) (fun _ _ _ _ _ _ => sts_n) (fun _ _ _ _ _ _ => se_tup (sa_c (se_str) (sa_c (se_v 4) (sa_n))))))))
    (sss_c (ss_for (si_rg1 T.bt (se_gi T.g_MOST_BOXES)) (sg_n 4 sc.nd)
    (sss_c (ss_tset (se_v 3) (se_tup (sa_c (se_str) (sa_c (se_v 4) (sa_n)))) (se_k (sl_disp (sa_c (se_tup (sa_c (se_str) (sa_c (se_v 4) (sa_n)))) (sa_n)))) (hu1 hr))
    (sss_c (ss_tset (se_v 3) (se_tup (sa_c (se_str) (sa_c (se_v 4) (sa_n)))) (se_k (sl_lc [("other", 5)] sc.nd (si_seq (se_call c_next_boxes hr (sa_c (se_v 0) (sa_c (se_v 4) (sa_n))))) (by first | decide +kernel | rfl) (by decide) (fun _ _ _ _ _ _ => sg_n 5 sc.nd) (fun _ _ _ _ _ _ => sts_n) (fun _ _ _ _ _ _ => se_tup (sa_c (se_str) (sa_c (se_v 5) (sa_n)))))) (hu1 hr))
    (sss_1 (ss_if (st_c (c_in (hu65 hr)) (se_v 4) (se_ix (se_ix (se_v 0) (se_v 2)) (se_int))) (sss_1 (ss_appK (se_tget (se_v 3) (se_tup (sa_c (se_str) (sa_c (se_v 4) (sa_n)))) (hu1 hr)) (se_tup (sa_c (se_str) (sa_c (se_int) (sa_n))))))
    (sss_n))))))
    (sss_1 (ss_ret (se_v 3))))⟩
theorem sc_Bars___init__ : FnScope ["self", "barred", "ways", "way"] ["self", "barred", "ways"] (defScope s_Bars___init__) := ⟨rfl, rfl, rfl, by decide +kernel, rfl, by decide +kernel, by decide +kernel⟩
theorem ok_Bars___init__ {fA : Addr} {fd : FuncData} (F0 : L2.Fun K "__init__" "Bars.__init__" s_Bars___init__ fA fd) (T : Tx K w mg cls)  : FnOk P w K mg base CX0 2 fA fd ["self", "barred", "ways"] (spM K cls m_Bars___init__) := 
  have sc := sc_Bars___init__
  def_ok F0 sc rfl rfl fun cdv A outer s H E hr hK => ⟨_, sss_c (ss_fld T.a_6_0 (se_v 0) (se_k (sl_list T.bt (se_v 1))))
    (sss_1 (ss_fld T.a_6_1 (se_v 0) (se_k (sl_lc [("way", 3)] sc.nd (si_seq (se_v 2)) (by first | decide +kernel | rfl) (by decide) (fun _ _ _ _ _ _ => sg_n 3 sc.nd) (fun _ _ _ _ _ _ => sts_n) (fun _ _ _ _ _ _ => se_k (sl_list T.bt (se_v 3)))))))⟩
theorem sc_led_on : FnScope ["used", "box", "found", "here", "after", "one", "other"] ["used", "box"] (defScope s_led_on) := ⟨rfl, rfl, rfl, by decide +kernel, rfl, by decide +kernel, by decide +kernel⟩
theorem ok_led_on {fA : Addr} {fd : FuncData} (F0 : L2.Fun K "led_on" "led_on" s_led_on fA fd) (T : Tx K w mg cls)  : FnOk P w K mg base CX0 2 fA fd ["used", "box"] (spM K cls m_led_on) := 
  have sc := sc_led_on
  def_ok F0 sc rfl rfl fun cdv A outer s H E hr hK => ⟨_, sss_c (ss_asg (se_tup (sa_c (se_d (sl_disp (sa_c (se_v 1) (sa_n)))) (sa_c (se_v 1) (sa_n)))) (sg_t (sgs_c (sg_n 2 sc.nd) (sgs_c (sg_n 3 sc.nd) (sgs_n)))))
    (sss_c (ss_while 12 (st_notN (se_v 3))
    (sss_c (ss_lcV 4 [("one", 5), ("other", 6)] sc.nd (si_seq (se_v 0)) (by first | decide +kernel | rfl) (by decide) (fun _ _ _ _ _ _ => sg_t (sgs_c (sg_n 5 sc.nd) (sgs_c (sg_n 6 sc.nd) (sgs_n)))) (fun _ _ _ _ _ _ => sts_c (st_w (sw_and (st_c (c_eq hr.units) (se_v 5) (se_tup (sa_c (se_str) (sa_c (se_v 3) (sa_n))))) (sw_and1 (st_c (c_eq hr.units) (se_ix (se_v 6) (se_int)) (se_str)))))) (fun _ _ _ _ _ _ => se_ix (se_v 6) (se_int)) (sw_true rfl rfl rfl (by decide +kernel)))
    (sss_c (ss_set 3 sc.nd (se_if (st_c (c_ne hr.units) (se_v 4) (se_d (sl_disp (sa_n)))) (se_ix (se_v 4) (se_int)) (se_non)))
    (sss_1 (ss_set 2 sc.nd (se_add (se_v 2) (se_v 4)))))))
    (sss_1 (ss_ret (se_v 2))))⟩
theorem sc_bars : FnScope ["house", "boxes", "account", "used", "known", "barred", "box", "firsts", "one", "other"] ["house", "boxes", "account"] (defScope s_bars) := ⟨rfl, rfl, rfl, by decide +kernel, rfl, by decide +kernel, by decide +kernel⟩
theorem ok_bars {fA : Addr} {fd : FuncData} (F0 : L2.Fun K "bars" "bars" s_bars fA fd) (T : Tx K w mg cls) (c_check_house : C8.Cal P w K mg base 6 "check_house" (spM K cls m_check_house) []) (c_check_boxes : C8.Cal P w K mg base 5 "check_boxes" (spM K cls m_check_boxes) []) (c_check_wanted : C8.Cal P w K mg base 4 "check_wanted" (spM K cls m_check_wanted) []) (c_used_edges : C8.Cal P w K mg base 3 "used_edges" (spM K cls m_used_edges) []) (c_edges_of : C8.Cal P w K mg base 3 "edges_of" (spM K cls m_edges_of) []) (k_Bars : C8.Mak P w K mg base 2 "Bars" (cls 6) (spM K cls m_Bars___init__) []) (c_led_on : C8.Cal P w K mg base 2 "led_on" (spM K cls m_led_on) []) : FnOk P w K mg base CX0 7 fA fd ["house", "boxes", "account"] (spM K cls m_bars) := 
  have sc := sc_bars
  def_ok F0 sc rfl rfl fun cdv A outer s H E hr hK => ⟨_, sss_c (ss_drop (se_call c_check_house hr (sa_c (se_v 0) (sa_n))))
    (sss_c (ss_drop (se_call c_check_boxes hr (sa_c (se_v 1) (sa_n))))
    (sss_c (ss_drop (se_call c_check_wanted hr (sa_c (se_v 0) (sa_c (se_v 2) (sa_n)))))
    (sss_c (ss_asg (se_call c_used_edges hr (sa_c (se_call c_edges_of hr (sa_c (se_v 0) (sa_c (se_v 1) (sa_c (se_v 2) (sa_n))))) (sa_n))) (sg_t (sgs_c (sg_n 3 sc.nd) (sgs_c (sg_n 4 sc.nd) (sgs_n)))))
    (sss_c (ss_lcV 5 [("box", 6)] sc.nd (si_rg1 T.bt (se_gi T.g_MOST_BOXES)) (by first | decide +kernel | rfl) (by decide) (fun _ _ _ _ _ _ => sg_n 6 sc.nd) (fun _ _ _ _ _ _ => sts_c (st_w (sw_and (st_tin (se_tup (sa_c (se_str) (sa_c (se_v 6) (sa_n)))) (se_v 4) (hu1 hr)) (sw_and1 (st_tnin (se_tup (sa_c (se_str) (sa_c (se_v 6) (sa_n)))) (se_v 4) (hu1 hr)))))) (fun _ _ _ _ _ _ => se_v 6) (sw_true rfl rfl rfl (by decide +kernel)))
    (sss_c (ss_set 7 sc.nd (se_d (sl_sorted T.bt (se_d (sl_lc [("one", 8), ("other", 9)] sc.nd (si_seq (se_v 3)) (by first | decide +kernel | rfl) (by decide) (fun _ _ _ _ _ _ => sg_t (sgs_c (sg_n 8 sc.nd) (sgs_c (sg_n 9 sc.nd) (sgs_n)))) (fun _ _ _ _ _ _ => sts_c (st_c (c_eq hr.units) (se_v 8) (se_tup (sa_c (se_str) (sa_c (se_int) (sa_n)))))) (fun _ _ _ _ _ _ => se_ix (se_v 9) (se_int)))))))
    (sss_1 (ss_ret (se_new k_Bars hr (sa_c (se_v 5) (sa_c (se_d (sl_lc [("box", 6)] sc.nd (si_seq (se_v 7)) (by first | decide +kernel | rfl) (by decide) (fun _ _ _ _ _ _ => sg_n 6 sc.nd) (fun _ _ _ _ _ _ => sts_n) (fun _ _ _ _ _ _ => se_call c_led_on hr (sa_c (se_v 3) (sa_c (se_v 6) (sa_n)))))) (sa_n)))))))))))⟩
theorem sc_is_way : FnScope ["house", "boxes", "account", "way", "one", "other", "sent", "opened"] ["house", "boxes", "account", "way"] (defScope s_is_way) := ⟨rfl, rfl, rfl, by decide +kernel, rfl, by decide +kernel, by decide +kernel⟩
theorem ok_is_way {fA : Addr} {fd : FuncData} (F0 : L2.Fun K "is_way" "is_way" s_is_way fA fd) (T : Tx K w mg cls)  : FnOk P w K mg base CX0 2 fA fd ["house", "boxes", "account", "way"] (spM K cls m_is_way) := 
  have sc := sc_is_way
  def_ok F0 sc rfl rfl fun cdv A outer s H E hr hK => ⟨_, sss_c (ss_if (st_w (sw_or (st_c (c_eq hr.units) (se_v 3) (se_d (sl_disp (sa_n)))) (sw_or (st_c (c_nin (hu65 hr)) (se_ix (se_v 3) (se_int)) (se_v 1)) (sw_or1 (st_c (c_nin (hu65 hr)) (se_ix (se_v 3) (se_neg (se_int))) (se_ix (se_ix (se_v 0) (se_v 2)) (se_int))))))) (sss_1 (ss_ret (se_bl)))
    (sss_n))
    (sss_c (ss_for (si_zip T.bt (se_v 3) (se_sl (se_v 3) (so_s (se_int)) (so_n))) (sg_t (sgs_c (sg_n 4 sc.nd) (sgs_c (sg_n 5 sc.nd) (sgs_n))))
    (sss_1 (ss_if (st_not (st_e (m := true) (se_any T.bt (sl_lc [("sent", 6), ("opened", 7)] sc.nd (si_seq (se_v 0)) (by first | decide +kernel | rfl) (by decide) (fun _ _ _ _ _ _ => sg_t (sgs_c (sg_n 6 sc.nd) (sgs_c (sg_n 7 sc.nd) (sgs_n)))) (fun _ _ _ _ _ _ => sts_n) (fun _ _ _ _ _ _ => se_and (se_c (c_in (hu65 hr)) (se_v 4) (se_v 6)) (se_b1 (se_c (c_in (hu65 hr)) (se_v 5) (se_v 7)))))))) (sss_1 (ss_ret (se_bl)))
    (sss_n))))
    (sss_1 (ss_ret (se_bl))))⟩
theorem sc_Bars_shows : FnScope ["self", "house", "boxes", "account", "met", "way"] ["self", "house", "boxes", "account"] (defScope s_Bars_shows) := ⟨rfl, rfl, rfl, by decide +kernel, rfl, by decide +kernel, by decide +kernel⟩
theorem ok_Bars_shows {fA : Addr} {fd : FuncData} (F0 : L2.Fun K "shows" "Bars.shows" s_Bars_shows fA fd) (T : Tx K w mg cls) (c_is_way : C8.Cal P w K mg base 2 "is_way" (spM K cls m_is_way) []) (c_come_to : C8.Cal P w K mg base 2 "come_to" (spM K cls m_come_to) []) : FnOk P w K mg base CX0 3 fA fd ["self", "house", "boxes", "account"] (spM K cls m_Bars_shows) := 
  have sc := sc_Bars_shows
  def_ok F0 sc rfl rfl fun cdv A outer s H E hr hK => ⟨_, sss_c (ss_set 4 sc.nd (se_d (sl_disp (sa_n))))
    (sss_c (ss_for (si_seq (se_fld T.a_6_1 (se_v 0))) (sg_n 5 sc.nd)
    (sss_c (ss_if (st_not (st_e (m := true) (se_call c_is_way hr (sa_c (se_v 1) (sa_c (se_v 2) (sa_c (se_v 3) (sa_c (se_v 5) (sa_n)))))))) (sss_1 (ss_ret (se_bl)))
    (sss_n))
    (sss_1 (ss_set 4 sc.nd (se_add (se_v 4) (se_v 5))))))
    (sss_c (ss_if (st_c c_lt (se_lenU T.bt (se_v 4)) (se_len T.bt (se_v 4))) (sss_1 (ss_ret (se_bl)))
    (sss_n))
    (sss_c (ss_if (st_w (sw_or (st_c (c_ne hr.units) (se_fld T.a_6_0 (se_v 0)) (se_d (sl_sortU T.bt (se_fld T.a_6_0 (se_v 0))))) (sw_or1 (st_c (c_ne hr.units) (se_len T.bt (se_fld T.a_6_0 (se_v 0))) (se_len T.bt (se_fld T.a_6_1 (se_v 0))))))) (sss_1 (ss_ret (se_bl)))
    (sss_n))
    (sss_1 (ss_ret (se_c (c_nin (hu65 hr)) (se_v 3) (se_ix (se_call c_come_to hr (sa_c (se_v 1) (sa_c (se_v 2) (sa_c (se_fld T.a_6_0 (se_v 0)) (sa_n))))) (se_int))))))))⟩
theorem sc__law_bars : FnScope ["_law_house", "_law_boxes", "_law_account", "_law_found"] ["_law_house", "_law_boxes", "_law_account"] (defScope s__law_bars) := ⟨rfl, rfl, rfl, by decide +kernel, rfl, by decide +kernel, by decide +kernel⟩
theorem ok__law_bars {fA : Addr} {fd : FuncData} (F0 : L2.Fun K "_law_bars" "_law_bars" s__law_bars fA fd) (T : Tx K w mg cls) (c_bars : C8.Cal P w K mg base 7 "bars" (spM K cls m_bars) []) (c__law_deep : C8.Cal P w K mg base 7 "_law_deep" (spM K cls m__law_deep) []) (t_Bars_shows : C8.Met P w K mg base 3 (cls 6) "shows" (spM K cls m_Bars_shows) []) : FnOk P w K mg base CX0 8 fA fd ["_law_house", "_law_boxes", "_law_account"] (spM K cls m__law_bars) := 
  have sc := sc__law_bars
  def_ok F0 sc rfl rfl fun cdv A outer s H E hr hK => ⟨_, sss_c (ss_set 3 sc.nd (se_call c_bars hr (sa_c (se_v 0) (sa_c (se_v 1) (sa_c (se_v 2) (sa_n))))))
    (sss_1 (ss_retT (sa_c (se_k (sl_disp (sa_c (se_len T.bt (se_fld T.a_6_0 (se_v 3))) (sa_c (se_meth (C := 6) t_Bars_shows hr (se_v 3) (sa_c (se_call c__law_deep hr (sa_c (se_v 0) (sa_n))) (sa_c (se_k (sl_list T.bt (se_v 1))) (sa_c (se_v 2) (sa_n)))) (by decide)) (sa_n))))) (sa_c (se_k (sl_disp (sa_c (se_fld T.a_6_0 (se_v 3)) (sa_c (se_fld T.a_6_1 (se_v 3)) (sa_n))))) (sa_n)))))⟩
theorem sc_lam_1 : NScope ["_law_one", "_law_account"] ["_law_one"] ["_law_account"] L_lam_1.scope := nscope_by (by decide +kernel)
theorem fr_lam_1 : ∀ y ∈ L_lam_1.scope.names, y.2 = .free → (defScope s_law).names.lookup y.1 = some .cell ∨ (defScope s_law).names.lookup y.1 = some .free := by decide +kernel
theorem fs_lam_1 : ∀ y ∈ (["_law_account"] : List Str), (y, NameKind.free) ∈ L_lam_1.scope.names := by decide +kernel
theorem ok_lam_1 (T : Tx K w mg cls) (c__law_bars : C8.Cal P w K mg base 8 "_law_bars" (spM K cls m__law_bars) []) : LamOk P w K cls mg base 9 L_lam_1 ["_law_account"] lam_1 :=
  lam_ok sc_lam_1 rfl rfl rfl (fun cl c' pm ctv us hl => match us, hl with | [_], _ => rfl) fun A outer s H E f c' cl hr hK tk => ⟨_, sx_lift (se_call c__law_bars hr (sa_c (se_ix (se_v 0) (se_int)) (sa_c (se_ix (se_v 0) (se_int)) (sa_c (se_v 1) (sa_n)))))⟩
theorem sc__law_two : FnScope ["_law_found"] ["_law_found"] (defScope s__law_two) := ⟨rfl, rfl, rfl, by decide +kernel, rfl, by decide +kernel, by decide +kernel⟩
theorem ok__law_two {fA : Addr} {fd : FuncData} (F0 : L2.Fun K "_law_two" "_law_two" s__law_two fA fd) (T : Tx K w mg cls)  : FnOk P w K mg base CX0 2 fA fd ["_law_found"] (spM K cls m__law_two) := 
  have sc := sc__law_two
  def_ok F0 sc rfl rfl fun cdv A outer s H E hr hK => ⟨_, sss_1 (ss_retT (sa_c (se_v 0) (sa_c (se_v 0) (sa_n))))⟩
theorem sc_inside : FnScope ["house", "boxes"] ["house", "boxes"] (defScope s_inside) := ⟨rfl, rfl, rfl, by decide +kernel, rfl, by decide +kernel, by decide +kernel⟩
theorem ok_inside {fA : Addr} {fd : FuncData} (F0 : L2.Fun K "inside" "inside" s_inside fA fd) (T : Tx K w mg cls) (c_check_house : C8.Cal P w K mg base 6 "check_house" (spM K cls m_check_house) []) (c_check_boxes : C8.Cal P w K mg base 5 "check_boxes" (spM K cls m_check_boxes) []) (c_come_to : C8.Cal P w K mg base 2 "come_to" (spM K cls m_come_to) []) : FnOk P w K mg base CX0 7 fA fd ["house", "boxes"] (spM K cls m_inside) := 
  have sc := sc_inside
  def_ok F0 sc rfl rfl fun cdv A outer s H E hr hK => ⟨_, sss_c (ss_drop (se_call c_check_house hr (sa_c (se_v 0) (sa_n))))
    (sss_c (ss_drop (se_call c_check_boxes hr (sa_c (se_v 1) (sa_n))))
    (sss_1 (ss_ret (se_k (sl_sorted T.bt (se_ix (se_call c_come_to hr (sa_c (se_v 0) (sa_c (se_v 1) (sa_c (se_d (sl_disp (sa_n))) (sa_n))))) (se_int)))))))⟩
theorem sc_lam_2 : NScope ["_law_some"] ["_law_some"] [] L_lam_2.scope := nscope_by (by decide +kernel)
theorem fr_lam_2 : ∀ y ∈ L_lam_2.scope.names, y.2 = .free → (defScope s_law).names.lookup y.1 = some .cell ∨ (defScope s_law).names.lookup y.1 = some .free := by decide +kernel
theorem fs_lam_2 : ∀ y ∈ ([] : List Str), (y, NameKind.free) ∈ L_lam_2.scope.names := by decide +kernel
theorem ok_lam_2 (T : Tx K w mg cls) (c__law_two : C8.Cal P w K mg base 2 "_law_two" (spM K cls m__law_two) []) (c_inside : C8.Cal P w K mg base 7 "inside" (spM K cls m_inside) []) : LamOk P w K cls mg base 8 L_lam_2 [] lam_2 :=
  lam_ok sc_lam_2 rfl rfl rfl (fun cl c' pm ctv us hl => match us, hl with | [_], _ => rfl) fun A outer s H E f c' cl hr hK tk => ⟨_, sx_lift (se_call c__law_two hr (sa_c (se_call c_inside hr (sa_c (se_ix (se_v 0) (se_int)) (sa_c (se_ix (se_v 0) (se_int)) (sa_n)))) (sa_n)))⟩
theorem sc_many_bars : FnScope ["house", "boxes", "account"] ["house", "boxes", "account"] (defScope s_many_bars) := ⟨rfl, rfl, rfl, by decide +kernel, rfl, by decide +kernel, by decide +kernel⟩
theorem ok_many_bars {fA : Addr} {fd : FuncData} (F0 : L2.Fun K "many_bars" "many_bars" s_many_bars fA fd) (T : Tx K w mg cls) (c_bars : C8.Cal P w K mg base 7 "bars" (spM K cls m_bars) []) : FnOk P w K mg base CX0 8 fA fd ["house", "boxes", "account"] (spM K cls m_many_bars) := 
  have sc := sc_many_bars
  fn_keepO (def_ok F0 sc rfl rfl fun cdv A outer s H E hr hK => ⟨_, sss_1 (ss_ret (se_len T.bt (se_fld T.a_6_0 (se_call c_bars hr (sa_c (se_v 0) (sa_c (se_v 1) (sa_c (se_v 2) (sa_n))))))))⟩)
theorem sc_lam_3 : NScope ["_law_some", "_law_account"] ["_law_some"] ["_law_account"] L_lam_3.scope := nscope_by (by decide +kernel)
theorem fr_lam_3 : ∀ y ∈ L_lam_3.scope.names, y.2 = .free → (defScope s_law).names.lookup y.1 = some .cell ∨ (defScope s_law).names.lookup y.1 = some .free := by decide +kernel
theorem fs_lam_3 : ∀ y ∈ (["_law_account"] : List Str), (y, NameKind.free) ∈ L_lam_3.scope.names := by decide +kernel
theorem ok_lam_3 (T : Tx K w mg cls) (c__law_two : C8.Cal P w K mg base 2 "_law_two" (spM K cls m__law_two) []) (c_many_bars : C8.Cal P w K mg base 8 "many_bars" (spM K cls m_many_bars) []) : LamOk P w K cls mg base 9 L_lam_3 ["_law_account"] lam_3 :=
  lam_ok sc_lam_3 rfl rfl rfl (fun cl c' pm ctv us hl => match us, hl with | [_], _ => rfl) fun A outer s H E f c' cl hr hK tk => ⟨_, sx_lift (se_call c__law_two hr (sa_c (se_k (sl_disp (sa_c (se_call c_many_bars hr (sa_c (se_ix (se_v 0) (se_int)) (sa_c (se_ix (se_v 0) (se_int)) (sa_c (se_v 1) (sa_n))))) (sa_n)))) (sa_n)))⟩
theorem sc_lam_4 : NScope ["_law_some", "_law_account", "_law_way_here"] ["_law_some"] ["_law_account", "_law_way_here"] L_lam_4.scope := nscope_by (by decide +kernel)
theorem fr_lam_4 : ∀ y ∈ L_lam_4.scope.names, y.2 = .free → (defScope s_law).names.lookup y.1 = some .cell ∨ (defScope s_law).names.lookup y.1 = some .free := by decide +kernel
theorem fs_lam_4 : ∀ y ∈ (["_law_account", "_law_way_here"] : List Str), (y, NameKind.free) ∈ L_lam_4.scope.names := by decide +kernel
theorem ok_lam_4 (T : Tx K w mg cls) (c__law_two : C8.Cal P w K mg base 2 "_law_two" (spM K cls m__law_two) []) (t_Way_shows : C8.Met P w K mg base 2 (cls 4) "shows" (spM K cls m_Way_shows) []) (t_Never_shows : C8.Met P w K mg base 2 (cls 5) "shows" (spM K cls m_Never_shows) []) : LamOk P w K cls mg base 3 L_lam_4 ["_law_account", "_law_way_here"] lam_4 :=
  lam_ok sc_lam_4 rfl rfl rfl (fun cl c' pm ctv us hl => match us, hl with | [_], _ => rfl) fun A outer s H E f c' cl hr hK tk => ⟨_, sx_lift (se_call c__law_two hr (sa_c (se_k (sl_disp (sa_c (se_alt (se_meth (C := 4) t_Way_shows hr (se_v 2) (sa_c (se_ix (se_v 0) (se_int)) (sa_c (se_ix (se_v 0) (se_int)) (sa_c (se_v 1) (sa_n)))) (by decide)) (se_meth (C := 5) t_Never_shows hr (se_v 2) (sa_c (se_ix (se_v 0) (se_int)) (sa_c (se_ix (se_v 0) (se_int)) (sa_c (se_v 1) (sa_n)))) (by decide))) (sa_n)))) (sa_n)))⟩
theorem sc_lam_5 : NScope ["_law_some", "_law_account", "_law_held"] ["_law_some"] ["_law_account", "_law_held"] L_lam_5.scope := nscope_by (by decide +kernel)
theorem fr_lam_5 : ∀ y ∈ L_lam_5.scope.names, y.2 = .free → (defScope s_law).names.lookup y.1 = some .cell ∨ (defScope s_law).names.lookup y.1 = some .free := by decide +kernel
theorem fs_lam_5 : ∀ y ∈ (["_law_account", "_law_held"] : List Str), (y, NameKind.free) ∈ L_lam_5.scope.names := by decide +kernel
theorem ok_lam_5 (T : Tx K w mg cls) (c__law_two : C8.Cal P w K mg base 2 "_law_two" (spM K cls m__law_two) []) (t_Bars_shows : C8.Met P w K mg base 3 (cls 6) "shows" (spM K cls m_Bars_shows) []) : LamOk P w K cls mg base 4 L_lam_5 ["_law_account", "_law_held"] lam_5 :=
  lam_ok sc_lam_5 rfl rfl rfl (fun cl c' pm ctv us hl => match us, hl with | [_], _ => rfl) fun A outer s H E f c' cl hr hK tk => ⟨_, sx_lift (se_call c__law_two hr (sa_c (se_k (sl_disp (sa_c (se_meth (C := 6) t_Bars_shows hr (se_v 2) (sa_c (se_ix (se_v 0) (se_int)) (sa_c (se_ix (se_v 0) (se_int)) (sa_c (se_v 1) (sa_n)))) (by decide)) (sa_n)))) (sa_n)))⟩
theorem sc_lam_6 : NScope ["_law_some", "_law_no"] ["_law_some"] ["_law_no"] L_lam_6.scope := nscope_by (by decide +kernel)
theorem fr_lam_6 : ∀ y ∈ L_lam_6.scope.names, y.2 = .free → (defScope s_law).names.lookup y.1 = some .cell ∨ (defScope s_law).names.lookup y.1 = some .free := by decide +kernel
theorem fs_lam_6 : ∀ y ∈ (["_law_no"] : List Str), (y, NameKind.free) ∈ L_lam_6.scope.names := by decide +kernel
theorem ok_lam_6 (T : Tx K w mg cls) (c__law_two : C8.Cal P w K mg base 2 "_law_two" (spM K cls m__law_two) []) (t_Way_shows : C8.Met P w K mg base 2 (cls 4) "shows" (spM K cls m_Way_shows) []) (t_Never_shows : C8.Met P w K mg base 2 (cls 5) "shows" (spM K cls m_Never_shows) []) : LamOk P w K cls mg base 3 L_lam_6 ["_law_no"] lam_6 :=
  lam_ok sc_lam_6 rfl rfl rfl (fun cl c' pm ctv us hl => match us, hl with | [_], _ => rfl) fun A outer s H E f c' cl hr hK tk => ⟨_, sx_lift (se_call c__law_two hr (sa_c (se_k (sl_disp (sa_c (se_alt (se_meth (C := 4) t_Way_shows hr (se_v 1) (sa_c (se_ix (se_v 0) (se_int)) (sa_c (se_ix (se_v 0) (se_int)) (sa_c (se_int) (sa_n)))) (by decide)) (se_meth (C := 5) t_Never_shows hr (se_v 1) (sa_c (se_ix (se_v 0) (se_int)) (sa_c (se_ix (se_v 0) (se_int)) (sa_c (se_int) (sa_n)))) (by decide))) (sa_n)))) (sa_n)))⟩
theorem sc_check_settings : FnScope ["many", "kind", "life", "tries"] ["many", "kind", "life", "tries"] (defScope s_check_settings) := ⟨rfl, rfl, rfl, by decide +kernel, rfl, by decide +kernel, by decide +kernel⟩
theorem ok_check_settings {fA : Addr} {fd : FuncData} (F0 : L2.Fun K "check_settings" "check_settings" s_check_settings fA fd) (T : Tx K w mg cls) (c_is_between : C8.Cal P w K mg base 3 "is_between" (spM K cls m_is_between) []) : FnOk P w K mg base CX0 4 fA fd ["many", "kind", "life", "tries"] (spM K cls m_check_settings) := 
  have sc := sc_check_settings
  def_ok F0 sc rfl rfl fun cdv A outer s H E hr hK => ⟨_, sss_c (ss_if (st_not (st_e (m := true) (se_call c_is_between hr (sa_c (se_v 0) (sa_c (se_int) (sa_c (se_gi T.g_MOST_ACCOUNTS_states) (sa_n))))))) (sss_1 (ss_raise))
    (sss_n))
    (sss_c (ss_if (st_w (sw_or (st_not (st_e (m := true) (se_isi 2 T.bt T.bt.str (by decide +kernel) (se_v 1)))) (sw_or1 (st_c (c_nin (hu65 hr)) (se_v 1) (se_gt T.gt_KINDS))))) (sss_1 (ss_raise))
    (sss_n))
    (sss_c (ss_if (st_not (st_e (m := true) (se_call c_is_between hr (sa_c (se_v 2) (sa_c (se_int) (sa_c (se_gi T.g_LONGEST_LIFE) (sa_n))))))) (sss_1 (ss_raise))
    (sss_n))
    (sss_1 (ss_if (st_not (st_e (m := true) (se_call c_is_between hr (sa_c (se_v 3) (sa_c (se_int) (sa_c (se_gi T.g_MOST_TRIES) (sa_n))))))) (sss_1 (ss_raise))
    (sss_n)))))⟩
theorem sc_is_line : FnScope ["thing", "one"] ["thing"] (defScope s_is_line) := ⟨rfl, rfl, rfl, by decide +kernel, rfl, by decide +kernel, by decide +kernel⟩
theorem ok_is_line {fA : Addr} {fd : FuncData} (F0 : L2.Fun K "is_line" "is_line" s_is_line fA fd) (T : Tx K w mg cls) (c_is_whole : C8.Cal P w K mg base 2 "is_whole" (spM K cls m_is_whole) []) : FnOk P w K mg base CX0 3 fA fd ["thing"] (spM K cls m_is_line) := 
  have sc := sc_is_line
  def_ok F0 sc rfl rfl fun cdv A outer s H E hr hK => ⟨_, sss_c (ss_if (st_w (sw_or (st_not (st_e (m := true) (se_isi 4 T.bt T.bt.tuple (by decide +kernel) (se_v 0)))) (sw_or (st_c (c_eq hr.units) (se_v 0) (se_tup (sa_n))) (sw_or (st_not (st_e (m := true) (se_isi 2 T.bt T.bt.str (by decide +kernel) (se_ix (se_v 0) (se_int))))) (sw_or1 ((st_knin T.kt_FORMS (se_ix (se_v 0) (se_int))).choose_spec)))))) (sss_1 (ss_ret (se_bl)))
    (sss_n))
    (sss_1 (ss_ret (se_and (se_c (c_eq hr.units) (se_len T.bt (se_v 0)) (se_add ((se_kix T.kt_FORMS (se_ix (se_v 0) (se_int))).choose_spec) (se_int))) (se_b1 (se_all T.bt (sl_lc [("one", 1)] sc.nd (si_seq (se_sl (se_v 0) (so_s (se_int)) (so_n))) (by first | decide +kernel | rfl) (by decide) (fun _ _ _ _ _ _ => sg_n 1 sc.nd) (fun _ _ _ _ _ _ => sts_n) (fun _ _ _ _ _ _ => se_call c_is_whole hr (sa_c (se_v 1) (sa_n)))))))))⟩
theorem sc_State___init__ : FnScope ["self", "many", "kind", "life", "tries", "account"] ["self", "many", "kind", "life", "tries"] (defScope s_State___init__) := ⟨rfl, rfl, rfl, by decide +kernel, rfl, by decide +kernel, by decide +kernel⟩
theorem ok_State___init__ {fA : Addr} {fd : FuncData} (F0 : L2.Fun K "__init__" "State.__init__" s_State___init__ fA fd) (T : Tx K w mg cls)  : FnOk P w K mg base CX0 2 fA fd ["self", "many", "kind", "life", "tries"] (spM K cls m_State___init__) := 
  have sc := sc_State___init__
  def_ok F0 sc rfl rfl fun cdv A outer s H E hr hK => ⟨_, sss_c (ss_fld T.a_0_0 (se_v 0) (se_v 1))
    (sss_c (ss_fld T.a_0_1 (se_v 0) (se_v 2))
    (sss_c (ss_fld T.a_0_2 (se_v 0) (se_v 3))
    (sss_c (ss_fld T.a_0_3 (se_v 0) (se_v 4))
    (sss_c (ss_fld T.a_0_4 (se_v 0) (se_int))
    (sss_c (ss_fld T.a_0_5 (se_v 0) (se_k (sl_disp (sa_n))))
    (sss_c (ss_fld T.a_0_6 (se_v 0) (se_k (sl_rep (se_d (sl_disp (sa_c (se_int) (sa_n)))) (se_v 1))))
    (sss_1 (ss_fld T.a_0_7 (se_v 0) (se_k (sl_lc [("account", 5)] sc.nd (si_rg1 T.bt (se_v 1)) (by first | decide +kernel | rfl) (by decide) (fun _ _ _ _ _ _ => sg_n 5 sc.nd) (fun _ _ _ _ _ _ => sts_n) (fun _ _ _ _ _ _ => se_k (sl_disp (sa_n)))))))))))))⟩
theorem sc_State_brought : FnScope ["self", "letter", "account"] ["self", "letter"] (defScope s_State_brought) := ⟨rfl, rfl, rfl, by decide +kernel, rfl, by decide +kernel, by decide +kernel⟩
theorem ok_State_brought {fA : Addr} {fd : FuncData} (F0 : L2.Fun K "brought" "State.brought" s_State_brought fA fd) (T : Tx K w mg cls)  : FnOk P w K mg base CX0 2 fA fd ["self", "letter"] (spM K cls m_State_brought) := 
  have sc := sc_State_brought
  def_ok F0 sc rfl rfl fun cdv A outer s H E hr hK => ⟨_, sss_c (ss_set 2 sc.nd (se_ix (se_ix (se_fld T.a_0_5 (se_v 0)) (se_v 1)) (se_int)))
    (sss_c (ss_appK (se_ix (se_fld T.a_0_7 (se_v 0)) (se_v 2)) (se_v 1))
    (sss_1 (ss_ret (se_len T.bt (se_ix (se_fld T.a_0_7 (se_v 0)) (se_v 2))))))⟩
theorem sc_State_asked : FnScope ["self", "account"] ["self", "account"] (defScope s_State_asked) := ⟨rfl, rfl, rfl, by decide +kernel, rfl, by decide +kernel, by decide +kernel⟩
theorem ok_State_asked {fA : Addr} {fd : FuncData} (F0 : L2.Fun K "asked" "State.asked" s_State_asked fA fd) (T : Tx K w mg cls)  : FnOk P w K mg base CX0 2 fA fd ["self", "account"] (spM K cls m_State_asked) := 
  have sc := sc_State_asked
  def_ok F0 sc rfl rfl fun cdv A outer s H E hr hK => ⟨_, sss_c (ss_appK (se_fld T.a_0_5 (se_v 0)) (se_k (sl_disp (sa_c (se_v 1) (sa_c (se_fld T.a_0_4 (se_v 0)) (sa_c (se_bl) (sa_n)))))))
    (sss_c (ss_sub (se_fld T.a_0_6 (se_v 0)) (se_v 1) (se_int))
    (sss_1 (ss_ret (se_sub (se_len T.bt (se_fld T.a_0_5 (se_v 0))) (se_int)))))⟩
theorem sc_State_newest : FnScope ["self", "account", "some", "number", "code"] ["self", "account"] (defScope s_State_newest) := ⟨rfl, rfl, rfl, by decide +kernel, rfl, by decide +kernel, by decide +kernel⟩
theorem ok_State_newest {fA : Addr} {fd : FuncData} (F0 : L2.Fun K "newest" "State.newest" s_State_newest fA fd) (T : Tx K w mg cls)  : FnOk P w K mg base CX0 2 fA fd ["self", "account"] (spM K cls m_State_newest) := 
  have sc := sc_State_newest
  def_ok F0 sc rfl rfl fun cdv A outer s H E hr hK => ⟨_, sss_c (ss_lcV 2 [("number", 3), ("code", 4)] sc.nd (si_enum T.bt (se_fld T.a_0_5 (se_v 0))) (by first | decide +kernel | rfl) (by decide) (fun _ _ _ _ _ _ => sg_t (sgs_c (sg_n 3 sc.nd) (sgs_c (sg_n 4 sc.nd) (sgs_n)))) (fun _ _ _ _ _ _ => sts_c (st_c (c_eq hr.units) (se_ix (se_v 4) (se_int)) (se_v 1))) (fun _ _ _ _ _ _ => se_v 3) (sw_true rfl rfl rfl (by decide +kernel)))
    (sss_1 (ss_ret (se_if (st_c (c_ne hr.units) (se_v 2) (se_d (sl_disp (sa_n)))) (se_ix (se_v 2) (se_neg (se_int))) (se_neg (se_int)))))⟩
theorem sc_State_is_good : FnScope ["self", "account", "number", "owner", "born", "open_still"] ["self", "account", "number"] (defScope s_State_is_good) := ⟨rfl, rfl, rfl, by decide +kernel, rfl, by decide +kernel, by decide +kernel⟩
theorem ok_State_is_good {fA : Addr} {fd : FuncData} (F0 : L2.Fun K "is_good" "State.is_good" s_State_is_good fA fd) (T : Tx K w mg cls) (t_State_newest : C8.Met P w K mg base 2 (cls 0) "newest" (spM K cls m_State_newest) []) : FnOk P w K mg base CX0 3 fA fd ["self", "account", "number"] (spM K cls m_State_is_good) := 
  have sc := sc_State_is_good
  def_ok F0 sc rfl rfl fun cdv A outer s H E hr hK => ⟨_, sss_c (ss_if (st_not (st_ch c_le c_lt (se_int) (se_v 2) (se_len T.bt (se_fld T.a_0_5 (se_v 0))))) (sss_1 (ss_ret (se_bl)))
    (sss_n))
    (sss_c (ss_asg (se_ix (se_fld T.a_0_5 (se_v 0)) (se_v 2)) (sg_unl (sgs_c (sg_n 3 sc.nd) (sgs_c (sg_n 4 sc.nd) (sgs_c (sg_n 5 sc.nd) (sgs_n))))))
    (sss_c (ss_if (st_w (sw_or (st_c (c_ne hr.units) (se_v 3) (se_v 1)) (sw_or (st_not (st_e (m := true) (se_v 5))) (sw_or1 (st_c c_ge (se_sub (se_fld T.a_0_4 (se_v 0)) (se_v 4)) (se_fld T.a_0_2 (se_v 0))))))) (sss_1 (ss_ret (se_bl)))
    (sss_n))
    (sss_1 (ss_ret (se_or (se_c (c_eq hr.units) (se_fld T.a_0_1 (se_v 0)) (se_str)) (se_b1 (se_c (c_eq hr.units) (se_meth (C := 0) t_State_newest hr (se_v 0) (sa_c (se_v 1) (sa_n)) (by decide)) (se_v 2))))))))⟩
theorem sc_State_tried : FnScope ["self", "account", "number", "code"] ["self", "account", "number"] (defScope s_State_tried) := ⟨rfl, rfl, rfl, by decide +kernel, rfl, by decide +kernel, by decide +kernel⟩
theorem ok_State_tried {fA : Addr} {fd : FuncData} (F0 : L2.Fun K "tried" "State.tried" s_State_tried fA fd) (T : Tx K w mg cls) (t_State_is_good : C8.Met P w K mg base 3 (cls 0) "is_good" (spM K cls m_State_is_good) []) : FnOk P w K mg base CX0 4 fA fd ["self", "account", "number"] (spM K cls m_State_tried) := 
  have sc := sc_State_tried
  def_ok F0 sc rfl rfl fun cdv A outer s H E hr hK => ⟨_, sss_c (ss_if (st_e (m := true) (se_meth (C := 0) t_State_is_good hr (se_v 0) (sa_c (se_v 1) (sa_c (se_v 2) (sa_n))) (by decide))) (sss_c (ss_sub (se_ix (se_fld T.a_0_5 (se_v 0)) (se_v 2)) (se_int) (se_bl))
    (sss_c (ss_sub (se_fld T.a_0_6 (se_v 0)) (se_v 1) (se_int))
    (sss_1 (ss_ret (se_bl)))))
    (sss_n))
    (sss_c (ss_subA (se_fld T.a_0_6 (se_v 0)) (se_v 1) (se_int))
    (sss_c (ss_if (st_c (c_eq hr.units) (se_ix (se_fld T.a_0_6 (se_v 0)) (se_v 1)) (se_fld T.a_0_3 (se_v 0))) (sss_c (ss_for (si_seq (se_fld T.a_0_5 (se_v 0))) (sg_n 3 sc.nd)
    (sss_1 (ss_if (st_c (c_eq hr.units) (se_ix (se_v 3) (se_int)) (se_v 1)) (sss_1 (ss_sub (se_v 3) (se_int) (se_bl)))
    (sss_n))))
    (sss_1 (ss_sub (se_fld T.a_0_6 (se_v 0)) (se_v 1) (se_int))))
    (sss_n))
    (sss_1 (ss_ret (se_bl)))))⟩
theorem sc_can_come : FnScope ["state", "line"] ["state", "line"] (defScope s_can_come) := ⟨rfl, rfl, rfl, by decide +kernel, rfl, by decide +kernel, by decide +kernel⟩
theorem ok_can_come {fA : Addr} {fd : FuncData} (F0 : L2.Fun K "can_come" "can_come" s_can_come fA fd) (T : Tx K w mg cls) (t_State_brought : C8.Met P w K mg base 2 (cls 0) "brought" (spM K cls m_State_brought) []) (t_State_asked : C8.Met P w K mg base 2 (cls 0) "asked" (spM K cls m_State_asked) []) (t_State_tried : C8.Met P w K mg base 4 (cls 0) "tried" (spM K cls m_State_tried) []) : FnOk P w K mg base CX0 5 fA fd ["state", "line"] (spM K cls m_can_come) := 
  have sc := sc_can_come
  def_ok F0 sc rfl rfl fun cdv A outer s H E hr hK => ⟨_, sss_c (ss_if (st_c (c_eq hr.units) (se_ix (se_v 1) (se_int)) (se_str)) (sss_c (ss_fldA T.a_0_4 (se_v 0) (se_int))
    (sss_1 (ss_ret (se_bl))))
    (sss_n))
    (sss_c (ss_if (st_c (c_eq hr.units) (se_ix (se_v 1) (se_int)) (se_str)) (sss_c (ss_if (st_not (st_ch c_le c_lt (se_int) (se_ix (se_v 1) (se_int)) (se_len T.bt (se_fld T.a_0_5 (se_v 0))))) (sss_1 (ss_ret (se_bl)))
    (sss_n))
    (sss_c (ss_drop (se_meth (C := 0) t_State_brought hr (se_v 0) (sa_c (se_ix (se_v 1) (se_int)) (sa_n)) (by decide)))
    (sss_1 (ss_ret (se_bl)))))
    (sss_n))
    (sss_c (ss_if (st_not (st_ch c_le c_lt (se_int) (se_ix (se_v 1) (se_int)) (se_fld T.a_0_0 (se_v 0)))) (sss_1 (ss_ret (se_bl)))
    (sss_n))
    (sss_c (ss_if (st_c (c_eq hr.units) (se_ix (se_v 1) (se_int)) (se_str)) (sss_1 (ss_ret (se_c (c_eq hr.units) (se_meth (C := 0) t_State_asked hr (se_v 0) (sa_c (se_ix (se_v 1) (se_int)) (sa_n)) (by decide)) (se_ix (se_v 1) (se_int)))))
    (sss_n))
    (sss_1 (ss_ret (se_c (c_eq hr.units) (se_meth (C := 0) t_State_tried hr (se_v 0) (sa_c (se_ix (se_v 1) (se_int)) (sa_c (se_ix (se_v 1) (se_int)) (sa_n))) (by decide)) (se_c (c_eq hr.units) (se_ix (se_v 1) (se_int)) (se_str))))))))⟩
theorem sc_wrong_of : FnScope ["many", "kind", "life", "tries", "tale", "state", "place", "line"] ["many", "kind", "life", "tries", "tale"] (defScope s_wrong_of) := ⟨rfl, rfl, rfl, by decide +kernel, rfl, by decide +kernel, by decide +kernel⟩
theorem ok_wrong_of {fA : Addr} {fd : FuncData} (F0 : L2.Fun K "wrong_of" "wrong_of" s_wrong_of fA fd) (T : Tx K w mg cls) (k_State : C8.Mak P w K mg base 2 "State" (cls 0) (spM K cls m_State___init__) []) (c_can_come : C8.Cal P w K mg base 5 "can_come" (spM K cls m_can_come) []) : FnOk P w K mg base CX0 6 fA fd ["many", "kind", "life", "tries", "tale"] (spM K cls m_wrong_of) := 
  have sc := sc_wrong_of
  def_ok F0 sc rfl rfl fun cdv A outer s H E hr hK => ⟨_, sss_c (ss_set 5 sc.nd (se_new k_State hr (sa_c (se_v 0) (sa_c (se_v 1) (sa_c (se_v 2) (sa_c (se_v 3) (sa_n)))))))
    (sss_c (ss_for (si_enum T.bt (se_v 4)) (sg_t (sgs_c (sg_n 6 sc.nd) (sgs_c (sg_n 7 sc.nd) (sgs_n))))
    (sss_1 (ss_if (st_not (st_e (m := true) (se_call c_can_come hr (sa_c (se_v 5) (sa_c (se_v 7) (sa_n)))))) (sss_1 (ss_ret (se_v 6)))
    (sss_n))))
    (sss_1 (ss_ret (se_neg (se_int)))))⟩
theorem sc_Wrong___init__ : FnScope ["self", "line"] ["self", "line"] (defScope s_Wrong___init__) := ⟨rfl, rfl, rfl, by decide +kernel, rfl, by decide +kernel, by decide +kernel⟩
theorem ok_Wrong___init__ {fA : Addr} {fd : FuncData} (F0 : L2.Fun K "__init__" "Wrong.__init__" s_Wrong___init__ fA fd) (T : Tx K w mg cls)  : FnOk P w K mg base CX0 2 fA fd ["self", "line"] (spM K cls m_Wrong___init__) := 
  have sc := sc_Wrong___init__
  def_ok F0 sc rfl rfl fun cdv A outer s H E hr hK => ⟨_, sss_1 (ss_fld T.a_3_0 (se_v 0) (se_v 1))⟩
theorem sc_judged : FnScope ["many", "kind", "life", "tries", "tale", "line", "place"] ["many", "kind", "life", "tries", "tale"] (defScope s_judged) := ⟨rfl, rfl, rfl, by decide +kernel, rfl, by decide +kernel, by decide +kernel⟩
theorem ok_judged {fA : Addr} {fd : FuncData} (F0 : L2.Fun K "judged" "judged" s_judged fA fd) (T : Tx K w mg cls) (c_check_settings : C8.Cal P w K mg base 4 "check_settings" (spM K cls m_check_settings) []) (c_is_line : C8.Cal P w K mg base 3 "is_line" (spM K cls m_is_line) []) (c_wrong_of : C8.Cal P w K mg base 6 "wrong_of" (spM K cls m_wrong_of) []) (k_Right : Mk0 K mg "Right" (cls 2)) (k_Wrong : C8.Mak P w K mg base 2 "Wrong" (cls 3) (spM K cls m_Wrong___init__) []) : FnOk P w K mg base CX0 7 fA fd ["many", "kind", "life", "tries", "tale"] (spM K cls m_judged) := 
  have sc := sc_judged
  def_ok F0 sc rfl rfl fun cdv A outer s H E hr hK => ⟨_, sss_c (ss_drop (se_call c_check_settings hr (sa_c (se_v 0) (sa_c (se_v 1) (sa_c (se_v 2) (sa_c (se_v 3) (sa_n)))))))
    (sss_c (ss_if (st_w (sw_or (st_not (st_e (m := true) (se_isi 3 T.bt T.bt.list (by decide +kernel) (se_v 4)))) (sw_or (st_c c_gt (se_len T.bt (se_v 4)) (se_gi T.g_LONGEST)) (sw_or1 (st_not (st_e (m := true) (se_all T.bt (sl_lc [("line", 5)] sc.nd (si_seq (se_v 4)) (by first | decide +kernel | rfl) (by decide) (fun _ _ _ _ _ _ => sg_n 5 sc.nd) (fun _ _ _ _ _ _ => sts_n) (fun _ _ _ _ _ _ => se_call c_is_line hr (sa_c (se_v 5) (sa_n))))))))))) (sss_1 (ss_raise))
    (sss_n))
    (sss_c (ss_set 6 sc.nd (se_call c_wrong_of hr (sa_c (se_v 0) (sa_c (se_v 1) (sa_c (se_v 2) (sa_c (se_v 3) (sa_c (se_v 4) (sa_n))))))))
    (sss_1 (ss_ret (se_if (st_c c_lt (se_v 6) (se_int)) (se_new0 k_Right) (se_new k_Wrong hr (sa_c (se_v 6) (sa_n))))))))⟩
theorem sc__law_judged : FnScope ["_law_tale", "_law_found"] ["_law_tale"] (defScope s__law_judged) := ⟨rfl, rfl, rfl, by decide +kernel, rfl, by decide +kernel, by decide +kernel⟩
theorem ok__law_judged {fA : Addr} {fd : FuncData} (F0 : L2.Fun K "_law_judged" "_law_judged" s__law_judged fA fd) (T : Tx K w mg cls) (c_judged : C8.Cal P w K mg base 7 "judged" (spM K cls m_judged) []) (c__law_two : C8.Cal P w K mg base 2 "_law_two" (spM K cls m__law_two) []) : FnOk P w K mg base CX0 8 fA fd ["_law_tale"] (spM K cls m__law_judged) := 
  have sc := sc__law_judged
  def_ok F0 sc rfl rfl fun cdv A outer s H E hr hK => ⟨_, sss_c (ss_set 1 sc.nd (se_call c_judged hr (sa_c (se_int) (sa_c (se_str) (sa_c (se_int) (sa_c (se_int) (sa_c (se_v 0) (sa_n))))))))
    (sss_1 (ss_ret (se_call c__law_two hr (sa_c (se_if (st_e (m := true) (se_isc T.isc_2 T.ins T.bt (se_v 1))) (se_k (sl_disp (sa_n))) (se_k (sl_disp (sa_c (se_fld T.a_3_0 (se_v 1)) (sa_n))))) (sa_n)))))⟩
theorem sc_lam_7 : NScope ["_law_some"] ["_law_some"] [] L_lam_7.scope := nscope_by (by decide +kernel)
theorem fr_lam_7 : ∀ y ∈ L_lam_7.scope.names, y.2 = .free → (defScope s_law).names.lookup y.1 = some .cell ∨ (defScope s_law).names.lookup y.1 = some .free := by decide +kernel
theorem fs_lam_7 : ∀ y ∈ ([] : List Str), (y, NameKind.free) ∈ L_lam_7.scope.names := by decide +kernel
theorem ok_lam_7 (T : Tx K w mg cls) (c__law_judged : C8.Cal P w K mg base 8 "_law_judged" (spM K cls m__law_judged) []) : LamOk P w K cls mg base 9 L_lam_7 [] lam_7 :=
  lam_ok sc_lam_7 rfl rfl rfl (fun cl c' pm ctv us hl => match us, hl with | [_], _ => rfl) fun A outer s H E f c' cl hr hK tk => ⟨_, sx_lift (se_call c__law_judged hr (sa_c (se_ix (se_v 0) (se_int)) (sa_n)))⟩
theorem sc_Right_shows : FnScope ["self", "many", "kind", "life", "tries", "tale"] ["self", "many", "kind", "life", "tries", "tale"] (defScope s_Right_shows) := ⟨rfl, rfl, rfl, by decide +kernel, rfl, by decide +kernel, by decide +kernel⟩
theorem ok_Right_shows {fA : Addr} {fd : FuncData} (F0 : L2.Fun K "shows" "Right.shows" s_Right_shows fA fd) (T : Tx K w mg cls) (c_wrong_of : C8.Cal P w K mg base 6 "wrong_of" (spM K cls m_wrong_of) []) : FnOk P w K mg base CX0 7 fA fd ["self", "many", "kind", "life", "tries", "tale"] (spM K cls m_Right_shows) := 
  have sc := sc_Right_shows
  def_ok F0 sc rfl rfl fun cdv A outer s H E hr hK => ⟨_, sss_1 (ss_ret (se_c c_lt (se_call c_wrong_of hr (sa_c (se_v 1) (sa_c (se_v 2) (sa_c (se_v 3) (sa_c (se_v 4) (sa_c (se_v 5) (sa_n))))))) (se_int)))⟩
theorem sc_lam_8 : NScope ["_law_one"] ["_law_one"] [] L_lam_8.scope := nscope_by (by decide +kernel)
theorem fr_lam_8 : ∀ y ∈ L_lam_8.scope.names, y.2 = .free → (defScope s_law).names.lookup y.1 = some .cell ∨ (defScope s_law).names.lookup y.1 = some .free := by decide +kernel
theorem fs_lam_8 : ∀ y ∈ ([] : List Str), (y, NameKind.free) ∈ L_lam_8.scope.names := by decide +kernel
theorem ok_lam_8 (T : Tx K w mg cls) (c__law_two : C8.Cal P w K mg base 2 "_law_two" (spM K cls m__law_two) []) (k_Right : Mk0 K mg "Right" (cls 2)) (t_Right_shows : C8.Met P w K mg base 7 (cls 2) "shows" (spM K cls m_Right_shows) []) : LamOk P w K cls mg base 8 L_lam_8 [] lam_8 :=
  lam_ok sc_lam_8 rfl rfl rfl (fun cl c' pm ctv us hl => match us, hl with | [_], _ => rfl) fun A outer s H E f c' cl hr hK tk => ⟨_, sx_lift (se_call c__law_two hr (sa_c (se_k (sl_disp (sa_c (se_meth (C := 2) t_Right_shows hr (se_new0 k_Right) (sa_c (se_int) (sa_c (se_str) (sa_c (se_int) (sa_c (se_int) (sa_c (se_ix (se_v 0) (se_int)) (sa_n)))))) (by decide)) (sa_n)))) (sa_n)))⟩
theorem sc_Wrong_shows : FnScope ["self", "many", "kind", "life", "tries", "tale"] ["self", "many", "kind", "life", "tries", "tale"] (defScope s_Wrong_shows) := ⟨rfl, rfl, rfl, by decide +kernel, rfl, by decide +kernel, by decide +kernel⟩
theorem ok_Wrong_shows {fA : Addr} {fd : FuncData} (F0 : L2.Fun K "shows" "Wrong.shows" s_Wrong_shows fA fd) (T : Tx K w mg cls) (c_wrong_of : C8.Cal P w K mg base 6 "wrong_of" (spM K cls m_wrong_of) []) : FnOk P w K mg base CX0 7 fA fd ["self", "many", "kind", "life", "tries", "tale"] (spM K cls m_Wrong_shows) := 
  have sc := sc_Wrong_shows
  def_ok F0 sc rfl rfl fun cdv A outer s H E hr hK => ⟨_, sss_1 (ss_ret (se_and (se_c c_ge (se_fld T.a_3_0 (se_v 0)) (se_int)) (se_b1 (se_c (c_eq hr.units) (se_call c_wrong_of hr (sa_c (se_v 1) (sa_c (se_v 2) (sa_c (se_v 3) (sa_c (se_v 4) (sa_c (se_v 5) (sa_n))))))) (se_fld T.a_3_0 (se_v 0))))))⟩
theorem sc_lam_9 : NScope ["_law_some"] ["_law_some"] [] L_lam_9.scope := nscope_by (by decide +kernel)
theorem fr_lam_9 : ∀ y ∈ L_lam_9.scope.names, y.2 = .free → (defScope s_law).names.lookup y.1 = some .cell ∨ (defScope s_law).names.lookup y.1 = some .free := by decide +kernel
theorem fs_lam_9 : ∀ y ∈ ([] : List Str), (y, NameKind.free) ∈ L_lam_9.scope.names := by decide +kernel
theorem ok_lam_9 (T : Tx K w mg cls) (c__law_two : C8.Cal P w K mg base 2 "_law_two" (spM K cls m__law_two) []) (k_Wrong : C8.Mak P w K mg base 2 "Wrong" (cls 3) (spM K cls m_Wrong___init__) []) (t_Wrong_shows : C8.Met P w K mg base 7 (cls 3) "shows" (spM K cls m_Wrong_shows) []) : LamOk P w K cls mg base 8 L_lam_9 [] lam_9 :=
  lam_ok sc_lam_9 rfl rfl rfl (fun cl c' pm ctv us hl => match us, hl with | [_], _ => rfl) fun A outer s H E f c' cl hr hK tk => ⟨_, sx_lift (se_call c__law_two hr (sa_c (se_k (sl_disp (sa_c (se_meth (C := 3) t_Wrong_shows hr (se_new k_Wrong hr (sa_c (se_int) (sa_n))) (sa_c (se_int) (sa_c (se_str) (sa_c (se_int) (sa_c (se_int) (sa_c (se_ix (se_v 0) (se_int)) (sa_n)))))) (by decide)) (sa_n)))) (sa_n)))⟩
theorem sc_Door___init__ : FnScope ["self", "many", "kind", "life", "tries"] ["self", "many", "kind", "life", "tries"] (defScope s_Door___init__) := ⟨rfl, rfl, rfl, by decide +kernel, rfl, by decide +kernel, by decide +kernel⟩
theorem ok_Door___init__ {fA : Addr} {fd : FuncData} (F0 : L2.Fun K "__init__" "Door.__init__" s_Door___init__ fA fd) (T : Tx K w mg cls) (c_check_settings : C8.Cal P w K mg base 4 "check_settings" (spM K cls m_check_settings) []) (k_State : C8.Mak P w K mg base 2 "State" (cls 0) (spM K cls m_State___init__) []) : FnOk P w K mg base CX0 5 fA fd ["self", "many", "kind", "life", "tries"] (spM K cls m_Door___init__) := 
  have sc := sc_Door___init__
  def_ok F0 sc rfl rfl fun cdv A outer s H E hr hK => ⟨_, sss_c (ss_drop (se_call c_check_settings hr (sa_c (se_v 1) (sa_c (se_v 2) (sa_c (se_v 3) (sa_c (se_v 4) (sa_n)))))))
    (sss_c (ss_fld T.a_1_0 (se_v 0) (se_new k_State hr (sa_c (se_v 1) (sa_c (se_v 2) (sa_c (se_v 3) (sa_c (se_v 4) (sa_n)))))))
    (sss_1 (ss_fld T.a_1_1 (se_v 0) (se_k (sl_disp (sa_n))))))⟩
theorem sc_Door_check_account : FnScope ["self", "account"] ["self", "account"] (defScope s_Door_check_account) := ⟨rfl, rfl, rfl, by decide +kernel, rfl, by decide +kernel, by decide +kernel⟩
theorem ok_Door_check_account {fA : Addr} {fd : FuncData} (F0 : L2.Fun K "check_account" "Door.check_account" s_Door_check_account fA fd) (T : Tx K w mg cls) (c_is_between : C8.Cal P w K mg base 3 "is_between" (spM K cls m_is_between) []) : FnOk P w K mg base CX0 4 fA fd ["self", "account"] (spM K cls m_Door_check_account) := 
  have sc := sc_Door_check_account
  def_ok F0 sc rfl rfl fun cdv A outer s H E hr hK => ⟨_, sss_1 (ss_if (st_not (st_e (m := true) (se_call c_is_between hr (sa_c (se_v 1) (sa_c (se_int) (sa_c (se_sub (se_fld T.a_0_0 (se_fld T.a_1_0 (se_v 0))) (se_int)) (sa_n))))))) (sss_1 (ss_raise))
    (sss_n))⟩
theorem sc_Door_ask : FnScope ["self", "account", "number"] ["self", "account"] (defScope s_Door_ask) := ⟨rfl, rfl, rfl, by decide +kernel, rfl, by decide +kernel, by decide +kernel⟩
theorem ok_Door_ask {fA : Addr} {fd : FuncData} (F0 : L2.Fun K "ask" "Door.ask" s_Door_ask fA fd) (T : Tx K w mg cls) (t_Door_check_account : C8.Met P w K mg base 4 (cls 1) "check_account" (spM K cls m_Door_check_account) []) (t_State_asked : C8.Met P w K mg base 2 (cls 0) "asked" (spM K cls m_State_asked) []) : FnOk P w K mg base CX0 5 fA fd ["self", "account"] (spM K cls m_Door_ask) := 
  have sc := sc_Door_ask
  def_ok F0 sc rfl rfl fun cdv A outer s H E hr hK => ⟨_, sss_c (ss_drop (se_meth (C := 1) t_Door_check_account hr (se_v 0) (sa_c (se_v 1) (sa_n)) (by decide)))
    (sss_c (ss_set 2 sc.nd (se_meth (C := 0) t_State_asked hr (se_fld T.a_1_0 (se_v 0)) (sa_c (se_v 1) (sa_n)) (by decide)))
    (sss_c (ss_appK (se_fld T.a_1_1 (se_v 0)) (se_tup (sa_c (se_str) (sa_c (se_v 1) (sa_c (se_v 2) (sa_n))))))
    (sss_1 (ss_ret (se_v 2)))))⟩
theorem sc_State_good_ones : FnScope ["self", "account", "number"] ["self", "account"] (defScope s_State_good_ones) := ⟨rfl, rfl, rfl, by decide +kernel, rfl, by decide +kernel, by decide +kernel⟩
theorem ok_State_good_ones {fA : Addr} {fd : FuncData} (F0 : L2.Fun K "good_ones" "State.good_ones" s_State_good_ones fA fd) (T : Tx K w mg cls) (t_State_is_good : C8.Met P w K mg base 3 (cls 0) "is_good" (spM K cls m_State_is_good) []) : FnOk P w K mg base CX0 4 fA fd ["self", "account"] (spM K cls m_State_good_ones) := 
  have sc := sc_State_good_ones
  def_ok F0 sc rfl rfl fun cdv A outer s H E hr hK => ⟨_, sss_1 (ss_ret (se_k (sl_lc [("number", 2)] sc.nd (si_rg1 T.bt (se_len T.bt (se_fld T.a_0_5 (se_v 0)))) (by first | decide +kernel | rfl) (by decide) (fun _ _ _ _ _ _ => sg_n 2 sc.nd) (fun _ _ _ _ _ _ => sts_c (st_e (m := true) (se_meth (C := 0) t_State_is_good hr (se_v 0) (sa_c (se_v 1) (sa_c (se_v 2) (sa_n))) (by decide)))) (fun _ _ _ _ _ _ => se_v 2))))⟩
theorem sc_Door_open_to : FnScope ["self", "accounts", "one", "other", "found", "account", "lying", "number"] ["self", "accounts"] (defScope s_Door_open_to) := ⟨rfl, rfl, rfl, by decide +kernel, rfl, by decide +kernel, by decide +kernel⟩
theorem ok_Door_open_to {fA : Addr} {fd : FuncData} (F0 : L2.Fun K "open_to" "Door.open_to" s_Door_open_to fA fd) (T : Tx K w mg cls) (c_is_between : C8.Cal P w K mg base 3 "is_between" (spM K cls m_is_between) []) (t_State_good_ones : C8.Met P w K mg base 4 (cls 0) "good_ones" (spM K cls m_State_good_ones) []) : FnOk P w K mg base CX0 5 fA fd ["self", "accounts"] (spM K cls m_Door_open_to) := 
  have sc := sc_Door_open_to
  def_ok F0 sc rfl rfl fun cdv A outer s H E hr hK => ⟨_, sss_c (ss_if (st_w (sw_or (st_not (st_e (m := true) (se_isi 3 T.bt T.bt.list (by decide +kernel) (se_v 1)))) (sw_or1 (st_not (st_e (m := true) (se_all T.bt (sl_lc [("one", 2)] sc.nd (si_seq (se_v 1)) (by first | decide +kernel | rfl) (by decide) (fun _ _ _ _ _ _ => sg_n 2 sc.nd) (fun _ _ _ _ _ _ => sts_n) (fun _ _ _ _ _ _ => se_call c_is_between hr (sa_c (se_v 2) (sa_c (se_int) (sa_c (se_sub (se_fld T.a_0_0 (se_fld T.a_1_0 (se_v 0))) (se_int)) (sa_n)))))))))))) (sss_1 (ss_raise))
    (sss_n))
    (sss_c (ss_if (st_not (st_e (m := true) (se_all T.bt (sl_lc [("one", 2), ("other", 3)] sc.nd (si_zip T.bt (se_v 1) (se_sl (se_v 1) (so_s (se_int)) (so_n))) (by first | decide +kernel | rfl) (by decide) (fun _ _ _ _ _ _ => sg_t (sgs_c (sg_n 2 sc.nd) (sgs_c (sg_n 3 sc.nd) (sgs_n)))) (fun _ _ _ _ _ _ => sts_n) (fun _ _ _ _ _ _ => se_c c_lt (se_v 2) (se_v 3)))))) (sss_1 (ss_raise))
    (sss_n))
    (sss_c (ss_set 4 sc.nd (se_k (sl_disp (sa_n))))
    (sss_c (ss_for (si_seq (se_v 1)) (sg_n 5 sc.nd)
    (sss_c (ss_set 6 sc.nd (se_ix (se_fld T.a_0_7 (se_fld T.a_1_0 (se_v 0))) (se_v 5)))
    (sss_1 (ss_extK (se_v 4) (se_k (sl_lc [("number", 7)] sc.nd (si_seq (se_meth (C := 0) t_State_good_ones hr (se_fld T.a_1_0 (se_v 0)) (sa_c (se_v 5) (sa_n)) (by decide))) (by first | decide +kernel | rfl) (by decide) (fun _ _ _ _ _ _ => sg_n 7 sc.nd) (fun _ _ _ _ _ _ => sts_c (st_c (c_in (hu65 hr)) (se_v 7) (se_v 6))) (fun _ _ _ _ _ _ => se_tup (sa_c (se_v 5) (sa_c (se_v 7) (sa_n))))))))))
    (sss_1 (ss_ret (se_v 4))))))⟩
theorem sc_Door_box : FnScope ["self", "account"] ["self", "account"] (defScope s_Door_box) := ⟨rfl, rfl, rfl, by decide +kernel, rfl, by decide +kernel, by decide +kernel⟩
theorem ok_Door_box {fA : Addr} {fd : FuncData} (F0 : L2.Fun K "box" "Door.box" s_Door_box fA fd) (T : Tx K w mg cls) (t_Door_check_account : C8.Met P w K mg base 4 (cls 1) "check_account" (spM K cls m_Door_check_account) []) : FnOk P w K mg base CX0 5 fA fd ["self", "account"] (spM K cls m_Door_box) := 
  have sc := sc_Door_box
  def_ok F0 sc rfl rfl fun cdv A outer s H E hr hK => ⟨_, sss_c (ss_drop (se_meth (C := 1) t_Door_check_account hr (se_v 0) (sa_c (se_v 1) (sa_n)) (by decide)))
    (sss_1 (ss_ret (se_k (sl_list T.bt (se_ix (se_fld T.a_0_7 (se_fld T.a_1_0 (se_v 0))) (se_v 1))))))⟩
theorem sc_Door_good : FnScope ["self", "account"] ["self", "account"] (defScope s_Door_good) := ⟨rfl, rfl, rfl, by decide +kernel, rfl, by decide +kernel, by decide +kernel⟩
theorem ok_Door_good {fA : Addr} {fd : FuncData} (F0 : L2.Fun K "good" "Door.good" s_Door_good fA fd) (T : Tx K w mg cls) (t_Door_check_account : C8.Met P w K mg base 4 (cls 1) "check_account" (spM K cls m_Door_check_account) []) (t_State_good_ones : C8.Met P w K mg base 4 (cls 0) "good_ones" (spM K cls m_State_good_ones) []) : FnOk P w K mg base CX0 5 fA fd ["self", "account"] (spM K cls m_Door_good) := 
  have sc := sc_Door_good
  def_ok F0 sc rfl rfl fun cdv A outer s H E hr hK => ⟨_, sss_c (ss_drop (se_meth (C := 1) t_Door_check_account hr (se_v 0) (sa_c (se_v 1) (sa_n)) (by decide)))
    (sss_1 (ss_ret (se_meth (C := 0) t_State_good_ones hr (se_fld T.a_1_0 (se_v 0)) (sa_c (se_v 1) (sa_n)) (by decide))))⟩
theorem sc_Door_tale : FnScope ["self"] ["self"] (defScope s_Door_tale) := ⟨rfl, rfl, rfl, by decide +kernel, rfl, by decide +kernel, by decide +kernel⟩
theorem ok_Door_tale {fA : Addr} {fd : FuncData} (F0 : L2.Fun K "tale" "Door.tale" s_Door_tale fA fd) (T : Tx K w mg cls)  : FnOk P w K mg base CX0 2 fA fd ["self"] (spM K cls m_Door_tale) := 
  have sc := sc_Door_tale
  def_ok F0 sc rfl rfl fun cdv A outer s H E hr hK => ⟨_, sss_1 (ss_ret (se_k (sl_list T.bt (se_fld T.a_1_1 (se_v 0)))))⟩
theorem sc__law_open : FnScope ["_law_accounts", "_law_door", "_law_found"] ["_law_accounts"] (defScope s__law_open) := ⟨rfl, rfl, rfl, by decide +kernel, rfl, by decide +kernel, by decide +kernel⟩
theorem ok__law_open {fA : Addr} {fd : FuncData} (F0 : L2.Fun K "_law_open" "_law_open" s__law_open fA fd) (T : Tx K w mg cls) (k_Door : C8.Mak P w K mg base 5 "Door" (cls 1) (spM K cls m_Door___init__) []) (t_Door_ask : C8.Met P w K mg base 5 (cls 1) "ask" (spM K cls m_Door_ask) []) (t_Door_open_to : C8.Met P w K mg base 5 (cls 1) "open_to" (spM K cls m_Door_open_to) []) (t_Door_box : C8.Met P w K mg base 5 (cls 1) "box" (spM K cls m_Door_box) []) (t_Door_good : C8.Met P w K mg base 5 (cls 1) "good" (spM K cls m_Door_good) []) (t_Door_tale : C8.Met P w K mg base 2 (cls 1) "tale" (spM K cls m_Door_tale) []) (c__law_two : C8.Cal P w K mg base 2 "_law_two" (spM K cls m__law_two) []) : FnOk P w K mg base CX0 7 fA fd ["_law_accounts"] (spM K cls m__law_open) := 
  have sc := sc__law_open
  def_ok F0 sc rfl rfl fun cdv A outer s H E hr hK => ⟨_, sss_c (ss_set 1 sc.nd (se_new k_Door hr (sa_c (se_int) (sa_c (se_str) (sa_c (se_int) (sa_c (se_int) (sa_n)))))))
    (sss_c (ss_set 2 sc.nd (se_k (sl_disp (sa_c (se_meth (C := 1) t_Door_ask hr (se_v 1) (sa_c (se_int) (sa_n)) (by decide)) (sa_c (se_meth (C := 1) t_Door_ask hr (se_v 1) (sa_c (se_int) (sa_n)) (by decide)) (sa_c (se_meth (C := 1) t_Door_open_to hr (se_v 1) (sa_c (se_v 0) (sa_n)) (by decide)) (sa_c (se_meth (C := 1) t_Door_box hr (se_v 1) (sa_c (se_int) (sa_n)) (by decide)) (sa_c (se_meth (C := 1) t_Door_good hr (se_v 1) (sa_c (se_int) (sa_n)) (by decide)) (sa_c (se_meth0 (C := 1) t_Door_tale hr (se_v 1) (by decide)) (sa_n))))))))))
    (sss_1 (ss_ret (se_call c__law_two hr (sa_c (se_k (sl_cat (se_v 2) (se_k (sl_disp (sa_c (se_meth (C := 1) t_Door_open_to hr (se_v 1) (sa_c (se_v 0) (sa_n)) (by decide)) (sa_c (se_meth (C := 1) t_Door_box hr (se_v 1) (sa_c (se_int) (sa_n)) (by decide)) (sa_c (se_meth (C := 1) t_Door_good hr (se_v 1) (sa_c (se_int) (sa_n)) (by decide)) (sa_c (se_meth0 (C := 1) t_Door_tale hr (se_v 1) (by decide)) (sa_n))))))))) (sa_n))))))⟩
theorem sc_lam_10 : NScope ["_law_some"] ["_law_some"] [] L_lam_10.scope := nscope_by (by decide +kernel)
theorem fr_lam_10 : ∀ y ∈ L_lam_10.scope.names, y.2 = .free → (defScope s_law).names.lookup y.1 = some .cell ∨ (defScope s_law).names.lookup y.1 = some .free := by decide +kernel
theorem fs_lam_10 : ∀ y ∈ ([] : List Str), (y, NameKind.free) ∈ L_lam_10.scope.names := by decide +kernel
theorem ok_lam_10 (T : Tx K w mg cls) (c__law_open : C8.Cal P w K mg base 7 "_law_open" (spM K cls m__law_open) []) : LamOk P w K cls mg base 8 L_lam_10 [] lam_10 :=
  lam_ok sc_lam_10 rfl rfl rfl (fun cl c' pm ctv us hl => match us, hl with | [_], _ => rfl) fun A outer s H E f c' cl hr hK tk => ⟨_, sx_lift (se_call c__law_open hr (sa_c (se_ix (se_v 0) (se_int)) (sa_n)))⟩
theorem sc__law_cell_at : FnScope ["_law_script", "_law_k"] ["_law_script", "_law_k"] (defScope s__law_cell_at) := ⟨rfl, rfl, rfl, by decide +kernel, rfl, by decide +kernel, by decide +kernel⟩
theorem ok__law_cell_at {fA : Addr} {fd : FuncData} (F0 : L2.Fun K "_law_cell_at" "_law_cell_at" s__law_cell_at fA fd) (T : Tx K w mg cls)  : FnOk P w K mg base CX0 2 fA fd ["_law_script", "_law_k"] (spM K cls m__law_cell_at) := 
  have sc := sc__law_cell_at
  def_ok F0 sc rfl rfl fun cdv A outer s H E hr hK => ⟨_, sss_c (ss_if (st_c c_lt (se_v 1) (se_len T.bt (se_v 0))) (sss_1 (ss_ret (se_ix (se_v 0) (se_v 1))))
    (sss_n))
    (sss_1 (ss_ret (se_int)))⟩
theorem sc__law_draw : FnScope ["_law_cell", "_law_k", "_law_most", "_law_primes"] ["_law_cell", "_law_k", "_law_most"] (defScope s__law_draw) := ⟨rfl, rfl, rfl, by decide +kernel, rfl, by decide +kernel, by decide +kernel⟩
theorem ok__law_draw {fA : Addr} {fd : FuncData} (F0 : L2.Fun K "_law_draw" "_law_draw" s__law_draw fA fd) (T : Tx K w mg cls)  : FnOk P w K mg base CX0 2 fA fd ["_law_cell", "_law_k", "_law_most"] (spM K cls m__law_draw) := 
  have sc := sc__law_draw
  def_ok F0 sc rfl rfl fun cdv A outer s H E hr hK => ⟨_, sss_c (ss_set 3 sc.nd (se_tup (sa_c (se_int) (sa_c (se_int) (sa_c (se_int) (sa_c (se_int) (sa_c (se_int) (sa_c (se_int) (sa_c (se_int) (sa_c (se_int) (sa_c (se_int) (sa_c (se_int) (sa_c (se_int) (sa_c (se_int) (sa_c (se_int) (sa_c (se_int) (sa_c (se_int) (sa_c (se_int) (sa_n)))))))))))))))))))
    (sss_1 (ss_ret (se_mod (se_mod (se_add (se_mul (se_v 0) (se_int)) (se_mul (se_v 1) (se_int))) (se_ix (se_v 3) (se_mod (se_v 1) (se_int)))) (se_v 2))))⟩
theorem sc__law_number : FnScope ["_law_cell", "_law_k", "_law_limit", "_law_small"] ["_law_cell", "_law_k", "_law_limit"] (defScope s__law_number) := ⟨rfl, rfl, rfl, by decide +kernel, rfl, by decide +kernel, by decide +kernel⟩
theorem ok__law_number {fA : Addr} {fd : FuncData} (F0 : L2.Fun K "_law_number" "_law_number" s__law_number fA fd) (T : Tx K w mg cls) (c__law_draw : C8.Cal P w K mg base 2 "_law_draw" (spM K cls m__law_draw) []) : FnOk P w K mg base CX0 3 fA fd ["_law_cell", "_law_k", "_law_limit"] (spM K cls m__law_number) := 
  have sc := sc__law_number
  def_ok F0 sc rfl rfl fun cdv A outer s H E hr hK => ⟨_, sss_c (ss_if (st_c c_ge (se_v 0) (se_pow (se_int) (se_int))) (sss_1 (ss_ret (se_mod (se_div (se_sub (se_v 0) (se_pow (se_int) (se_int))) (se_ix (se_tup (sa_c (se_int) (sa_c (se_int) (sa_c (se_int) (sa_c (se_int) (sa_c (se_int) (sa_n))))))) (se_mod (se_v 1) (se_int)))) (se_v 2))))
    (sss_n))
    (sss_c (ss_set 3 sc.nd (se_mod (se_v 0) (se_int)))
    (sss_1 (ss_ret (se_mod (se_call c__law_draw hr (sa_c (se_mul (se_add (se_v 3) (se_mul (se_int) (se_v 1))) (se_add (se_add (se_v 3) (se_mul (se_int) (se_v 1))) (se_int))) (sa_c (se_add (se_mod (se_v 1) (se_int)) (se_int)) (sa_c (se_int) (sa_n))))) (se_v 2)))))⟩
theorem sc__law_spoilt : FnScope ["_law_found", "_law_one"] ["_law_found"] (defScope s__law_spoilt) := ⟨rfl, rfl, rfl, by decide +kernel, rfl, by decide +kernel, by decide +kernel⟩
theorem ok__law_spoilt {mm : F} {k : Nat} {fA : Addr} {fd : FuncData} (F0 : L2.Fun K "_law_spoilt" "_law_spoilt" s__law_spoilt fA fd) (T : Tx K w mg cls) (c__law_spoilt : C8.Cal P w K mg base k "_law_spoilt" (spM K cls mm) [])  : FnOk P w K mg base CX0 (k + 1) fA fd ["_law_found"] (spM K cls (fnOf 1 2 (b__law_spoilt mm))) := 
  have sc := sc__law_spoilt
  def_ok F0 sc rfl rfl fun cdv A outer s H E hr hK => ⟨_, sss_c (ss_if (st_e (m := true) (se_isLT T.bt (se_v 0))) (sss_1 (ss_for (si_seq (se_v 0)) (sg_n 1 sc.nd)
    (sss_1 (ss_drop (se_call c__law_spoilt hr (sa_c (se_v 1) (sa_n)) (hk := Nat.le_refl _))))))
    (sss_n))
    (sss_1 (ss_if (st_e (m := true) (se_isi 3 T.bt T.bt.list (by decide +kernel) (se_v 0))) (sss_1 (ss_appK (se_v 0) (se_tup (sa_n))))
    (sss_n)))⟩
theorem sc__law_put : FnScope ["_law_handed", "_law_some", "_law_row", "_law_other"] ["_law_handed", "_law_some"] (defScope s__law_put) := ⟨rfl, rfl, rfl, by decide +kernel, rfl, by decide +kernel, by decide +kernel⟩
theorem ok__law_put {fA : Addr} {fd : FuncData} (F0 : L2.Fun K "_law_put" "_law_put" s__law_put fA fd) (T : Tx K w mg cls) (c__law_deep : C8.Cal P w K mg base 7 "_law_deep" (spM K cls m__law_deep) []) : FnOk P w K mg base CX0 8 fA fd ["_law_handed", "_law_some"] (spM K cls m__law_put) := 
  have sc := sc__law_put
  def_ok F0 sc rfl rfl fun cdv A outer s H E hr hK => ⟨_, sss_1 (ss_for (si_zip T.bt (se_v 0) (se_v 1)) (sg_t (sgs_c (sg_n 2 sc.nd) (sgs_c (sg_n 3 sc.nd) (sgs_n))))
    (sss_c (ss_while 12 (st_c (c_ne hr.units) (se_v 2) (se_d (sl_disp (sa_n))))
    (sss_1 (ss_popK (se_v 2))))
    (sss_1 (ss_extK (se_v 2) (se_call c__law_deep hr (sa_c (se_v 3) (sa_n)))))))⟩
theorem sc__law_door_right : FnScope ["_law_ask", "_law_lists", "_law_others", "_law_handed", "_law_fixed", "_law_told_lists", "_law_text", "_law_due", "_law_some", "_law_again"] ["_law_ask", "_law_lists", "_law_others"] (defScope s__law_door_right) := ⟨rfl, rfl, rfl, by decide +kernel, rfl, by decide +kernel, by decide +kernel⟩
theorem ok__law_door_right {fA : Addr} {fd : FuncData} (F0 : L2.Fun K "_law_door_right" "_law_door_right" s__law_door_right fA fd) (T : Tx K w mg cls) (c__law_deep : C8.Cal P w K mg base 7 "_law_deep" (spM K cls m__law_deep) []) (clo : CloP P w K cls mg base 9 lamF domF) (c__law_spoilt : C8.Cal P w K mg base 7 "_law_spoilt" (spM K cls m__law_spoilt) []) (c__law_put : C8.Cal P w K mg base 8 "_law_put" (spM K cls m__law_put) []) : FnG P w K mg base 10 fA fd ["_law_ask", "_law_lists", "_law_others"] (spM K cls m__law_door_right) := 
  have sc := sc__law_door_right
  fn_keep (defG_ok F0 sc rfl rfl fun cdv A outer s H E hgd hr hK => ⟨_, sss_c (ss_set 3 sc.nd (se_call c__law_deep hr (sa_c (se_v 1) (sa_n))))
    (sss_c (ss_asg (se_callV clo hr (sa_c (se_v 3) (sa_n))) (sg_t (sgs_c (sg_n 4 sc.nd) (sgs_c (sg_n 5 sc.nd) (sgs_n)))))
    (sss_c (ss_par 6 7 sc.nd (se_strD T.bt hgd (hu80 hr) (se_v 4)) (se_strD T.bt hgd (hu80 hr) (se_ix (se_callV clo hr (sa_c (se_call c__law_deep hr (sa_c (se_v 2) (sa_n))) (sa_n))) (se_int))))
    (sss_c (ss_if (st_c (c_ne hr.units) (se_v 3) (se_v 1)) (sss_1 (ss_ret (se_bl)))
    (sss_n))
    (sss_c (ss_drop (se_call c__law_spoilt hr (sa_c (se_v 5) (sa_n))))
    (sss_c (ss_if (st_w (sw_or (st_c (c_ne hr.units) (se_strD T.bt hgd (hu80 hr) (se_ix (se_callV clo hr (sa_c (se_v 3) (sa_n))) (se_int))) (se_v 6)) (sw_or1 (st_c (c_ne hr.units) (se_v 3) (se_v 1))))) (sss_1 (ss_ret (se_bl)))
    (sss_n))
    (sss_c (ss_for (si_seq (se_tup (sa_c (se_tup (sa_c (se_v 2) (sa_c (se_v 7) (sa_n)))) (sa_c (se_tup (sa_c (se_v 1) (sa_c (se_v 6) (sa_n)))) (sa_n))))) (sg_t (sgs_c (sg_n 8 sc.nd) (sgs_c (sg_n 9 sc.nd) (sgs_n))))
    (sss_c (ss_drop (se_call c__law_put hr (sa_c (se_v 3) (sa_c (se_v 8) (sa_n)))))
    (sss_1 (ss_if (st_w (sw_or (st_c (c_ne hr.units) (se_strD T.bt hgd (hu80 hr) (se_ix (se_callV clo hr (sa_c (se_v 3) (sa_n))) (se_int))) (se_v 9)) (sw_or1 (st_c (c_ne hr.units) (se_v 3) (se_v 8))))) (sss_1 (ss_ret (se_bl)))
    (sss_n)))))
    (sss_1 (ss_ret (se_bl)))))))))⟩)
theorem sc__law_doors_right : FnScope ["_law_asks", "_law_lists", "_law_others", "_law_ask"] ["_law_asks", "_law_lists", "_law_others"] (defScope s__law_doors_right) := ⟨rfl, rfl, rfl, by decide +kernel, rfl, by decide +kernel, by decide +kernel⟩
theorem ok__law_doors_right {fA : Addr} {fd : FuncData} (F0 : L2.Fun K "_law_doors_right" "_law_doors_right" s__law_doors_right fA fd) (T : Tx K w mg cls) (c__law_door_right : CalG P w K mg base 10 "_law_door_right" (spM K cls m__law_door_right)) : FnG P w K mg base 11 fA fd ["_law_asks", "_law_lists", "_law_others"] (spM K cls m__law_doors_right) := 
  have sc := sc__law_doors_right
  defG_ok F0 sc rfl rfl fun cdv A outer s H E hgd hr hK => ⟨_, sss_1 (ss_ret (se_all T.bt (sl_lc [("_law_ask", 3)] sc.nd (si_seq (se_v 0)) (by first | decide +kernel | rfl) (by decide) (fun _ _ _ _ _ _ => sg_n 3 sc.nd) (fun _ _ _ _ _ _ => sts_n) (fun _ _ _ _ _ _ => se_callG c__law_door_right hgd hr (sa_c (se_v 3) (sa_c (se_v 1) (sa_c (se_v 2) (sa_n))))))))⟩
theorem sc_law : FnScope ["_law_script", "_law_house", "_law_other", "_law_by", "_law_account", "_law_way_here", "_law_held", "_law_no", "_law_asks"] ["_law_script"] (defScope s_law) := ⟨rfl, rfl, rfl, by decide +kernel, rfl, by decide +kernel, by decide +kernel⟩
end
section
variable {P : Program} {w : World} {K : PySem.W.Frag} {mg : Str → Option Value} {base : Heap} {cls : Nat → Addr}
theorem ok_law {g0 : Gam} {fA cc PP : Addr} {fd : FuncData} (F0 : L2.Fun K "law" "law" s_law fA fd) (hcode : fd.code = .ref cc) (T : ∀ g : Gam, @Tx g K w mg cls) (R : ∀ g : Gam, @Rx g P w K mg base cls) (kd : Kinds g0 tab_law own_law) (TB : TabB base mg cc PP) (htb : g0.tb 0 = (PP, ("law.<locals>.<lambda>" : Str))) (hx__law_doors_right : ∃ f, mg "_law_doors_right" = some (.ref f) ∧ PySem.W.keepIn K (.ref f) = true) (cb__law_doors_right : ∀ (A : Around) (outer : List Env) (s : Shared) (H : Hp) (E : XK) (σ : L2.St) (b' : Heap), BaseX (cxOf CX0 P w K mg base ["_law_script", "_law_house", "_law_other", "_law_by", "_law_account", "_law_way_here", "_law_held", "_law_no", "_law_asks"] "law" (defScope s_law) fA (.ref cc) A outer s H E).nox σ b' → CalG P w K mg b' 11 "_law_doors_right" (@spM (gamC g0 (envOfC "law" (defScope s_law) s.heap.objs.size fA (.ref cc)).cells tab_law own_law σ) K cls m__law_doors_right)) : FnG P w K mg base 12 fA fd ["_law_script"] (@spM g0 K cls m_law) := 
  have sc := sc_law
  def_okMG kd F0 hcode sc rfl rfl fun A outer s H E hgd hr hK => by
    letI G : Gam := gamM g0 (envOfC "law" (defScope s_law) s.heap.objs.size fA (.ref cc)).cells tab_law
    have T := T G
    have R := R G
    have c__law_number := R.c__law_number
    have c__law_cell_at := R.c__law_cell_at
    have c_way_in := R.c_way_in
    have c_bars := R.c_bars
    have cb__law_doors_right := cb__law_doors_right A outer s H E
    exact ⟨_, sss_c (ss_par 1 2 sc.nd (se_d (sl_disp (sa_c (se_tup (sa_c (se_d (sl_disp (sa_c (se_int) (sa_c (se_int) (sa_n))))) (sa_c (se_d (sl_disp (sa_c (se_int) (sa_n)))) (sa_n)))) (sa_c (se_tup (sa_c (se_d (sl_disp (sa_c (se_int) (sa_n)))) (sa_c (se_d (sl_disp (sa_c (se_int) (sa_c (se_int) (sa_n))))) (sa_n)))) (sa_c (se_tup (sa_c (se_d (sl_disp (sa_c (se_int) (sa_n)))) (sa_c (se_d (sl_disp (sa_n))) (sa_n)))) (sa_n)))))) (se_d (sl_disp (sa_c (se_tup (sa_c (se_d (sl_disp (sa_c (se_int) (sa_c (se_int) (sa_n))))) (sa_c (se_d (sl_disp (sa_c (se_int) (sa_n)))) (sa_n)))) (sa_c (se_tup (sa_c (se_d (sl_disp (sa_c (se_int) (sa_n)))) (sa_c (se_d (sl_disp (sa_c (se_int) (sa_n)))) (sa_n)))) (sa_c (se_tup (sa_c (se_d (sl_disp (sa_c (se_int) (sa_n)))) (sa_c (se_d (sl_disp (sa_c (se_int) (sa_n)))) (sa_n)))) (sa_n)))))))
    (sss_c (ss_for (si_rg1 T.bt (se_int)) (sg_n 3 sc.nd)
    (sss_alone 1 (sss_c (ss_set 4 sc.nd (se_call c__law_number hr (sa_c (se_call c__law_cell_at hr (sa_c (se_v 0) (sa_c (se_v 3) (sa_n)))) (sa_c (se_add (se_v 3) (se_int)) (sa_c (se_int) (sa_n))))))
    (sss_c (ss_asg (se_tup (sa_c (se_call c_way_in hr (sa_c (se_v 1) (sa_c (se_d (sl_disp (sa_c (se_int) (sa_c (se_int) (sa_n))))) (sa_c (se_v 4) (sa_n))))) (sa_c (se_call c_bars hr (sa_c (se_v 1) (sa_c (se_d (sl_disp (sa_c (se_int) (sa_c (se_int) (sa_n))))) (sa_c (se_v 4) (sa_n))))) (sa_c (se_call c_way_in hr (sa_c (se_v 1) (sa_c (se_d (sl_disp (sa_c (se_int) (sa_n)))) (sa_c (se_int) (sa_n))))) (sa_n))))) (sg_t (sgs_c (sg_n 5 sc.nd) (sgs_c (sg_n 6 sc.nd) (sgs_c (sg_n 7 sc.nd) (sgs_n))))))
    (sss_c (ss_set 8 sc.nd (se_d (sl_disp (sa_c (se_lam 0 0 0 TB rfl htb rfl (hfree := fr_lam_0)) (sa_c (se_lam 1 0 0 TB rfl htb rfl (hfree := fr_lam_1)) (sa_n))))))
    (sss_c (ss_set 8 sc.nd (se_add (se_v 8) (se_d (sl_disp (sa_c (se_lam 2 0 0 TB rfl htb rfl (hfree := fr_lam_2)) (sa_n))))))
    (sss_c (ss_set 8 sc.nd (se_add (se_v 8) (se_d (sl_disp (sa_c (se_lam 3 0 0 TB rfl htb rfl (hfree := fr_lam_3)) (sa_n))))))
    (sss_c (ss_set 8 sc.nd (se_add (se_v 8) (se_d (sl_disp (sa_c (se_lam 4 0 0 TB rfl htb rfl (hfree := fr_lam_4)) (sa_n))))))
    (sss_c (ss_set 8 sc.nd (se_add (se_v 8) (se_d (sl_disp (sa_c (se_lam 5 0 0 TB rfl htb rfl (hfree := fr_lam_5)) (sa_n))))))
    (sss_c (ss_set 8 sc.nd (se_add (se_v 8) (se_d (sl_disp (sa_c (se_lam 6 0 0 TB rfl htb rfl (hfree := fr_lam_6)) (sa_n))))))
    (sss_c (ss_if (st_not (st_e (m := true) (se_callBG kd hx__law_doors_right cb__law_doors_right hgd hr (fun _ _ _ _ I => cells_nofs I) (sa_c (se_v 8) (sa_c (se_d (sl_disp (sa_c (se_v 1) (sa_c (se_d (sl_disp (sa_c (se_int) (sa_c (se_int) (sa_n))))) (sa_n))))) (sa_c (se_d (sl_disp (sa_c (se_v 2) (sa_c (se_d (sl_disp (sa_c (se_int) (sa_c (se_int) (sa_n))))) (sa_n))))) (sa_n))))))) (sss_1 (ss_ret (se_bl)))
    (sss_n))
    (sss_1 (ss_if (st_not (st_e (m := true) (se_callBG kd hx__law_doors_right cb__law_doors_right hgd hr (fun _ _ _ _ I => cells_nofs I) (sa_c (se_v 8) (sa_c (se_d (sl_disp (sa_c (se_v 1) (sa_c (se_d (sl_disp (sa_c (se_int) (sa_c (se_int) (sa_n))))) (sa_n))))) (sa_c (se_d (sl_disp (sa_c (se_v 1) (sa_c (se_d (sl_disp (sa_c (se_int) (sa_c (se_int) (sa_n))))) (sa_n))))) (sa_n))))))) (sss_1 (ss_ret (se_bl)))
    (sss_n))))))))))))))
    (sss_c (ss_set 8 sc.nd (se_d (sl_disp (sa_c (se_lam 7 0 0 TB rfl htb rfl (hfree := fr_lam_7)) (sa_c (se_lam 8 0 0 TB rfl htb rfl (hfree := fr_lam_8)) (sa_n))))))
    (sss_c (ss_set 8 sc.nd (se_add (se_v 8) (se_d (sl_disp (sa_c (se_lam 9 0 0 TB rfl htb rfl (hfree := fr_lam_9)) (sa_n))))))
    (sss_c (ss_if (st_not (st_e (m := true) (se_callBG kd hx__law_doors_right cb__law_doors_right hgd hr (fun _ _ _ _ I => cells_nofs I) (sa_c (se_v 8) (sa_c (se_d (sl_disp (sa_c (se_d (sl_disp (sa_c (se_tup (sa_c (se_str) (sa_c (se_int) (sa_c (se_int) (sa_n))))) (sa_c (se_tup (sa_c (se_str) (sa_c (se_int) (sa_c (se_int) (sa_n))))) (sa_n))))) (sa_n)))) (sa_c (se_d (sl_disp (sa_c (se_d (sl_disp (sa_c (se_tup (sa_c (se_str) (sa_n))) (sa_c (se_tup (sa_c (se_str) (sa_c (se_int) (sa_c (se_int) (sa_n))))) (sa_n))))) (sa_n)))) (sa_n))))))) (sss_1 (ss_ret (se_bl)))
    (sss_n))
    (sss_1 (ss_ret (se_callBG kd hx__law_doors_right cb__law_doors_right hgd hr (fun _ _ _ _ I => cells_nofs I) (sa_c (se_d (sl_disp (sa_c (se_lam 10 0 0 TB rfl htb rfl (hfree := fr_lam_10)) (sa_n)))) (sa_c (se_d (sl_disp (sa_c (se_d (sl_disp (sa_c (se_int) (sa_c (se_int) (sa_n))))) (sa_n)))) (sa_c (se_d (sl_disp (sa_c (se_d (sl_disp (sa_c (se_int) (sa_c (se_int) (sa_n))))) (sa_n)))) (sa_n)))))))))))⟩
end
section
variable [gm : Gam] {P : Program} {w : World} {K : PySem.W.Frag} {mg : Str → Option Value} {base : Heap} {cls : Nat → Addr}
end
theorem hl_law_F {gam : Gam} {X : Cx} {K : PySem.W.Frag} {b2 : Heap} {cls : Nat → Addr} (hsc : X.env.scope = defScope s_law) (hN : X.N = (["_law_script", "_law_house", "_law_other", "_law_by", "_law_account", "_law_way_here", "_law_held", "_law_no", "_law_asks"] : List Str)) (LO0 : @LamOk gam X.prog X.w K cls X.mg b2 9 L_lam_0 ["_law_account"] lam_0) (LO1 : @LamOk gam X.prog X.w K cls X.mg b2 9 L_lam_1 ["_law_account"] lam_1) (LO2 : @LamOk gam X.prog X.w K cls X.mg b2 9 L_lam_2 [] lam_2) (LO3 : @LamOk gam X.prog X.w K cls X.mg b2 9 L_lam_3 ["_law_account"] lam_3) (LO4 : @LamOk gam X.prog X.w K cls X.mg b2 9 L_lam_4 ["_law_account", "_law_way_here"] lam_4) (LO5 : @LamOk gam X.prog X.w K cls X.mg b2 9 L_lam_5 ["_law_account", "_law_held"] lam_5) (LO6 : @LamOk gam X.prog X.w K cls X.mg b2 9 L_lam_6 ["_law_no"] lam_6) (LO7 : @LamOk gam X.prog X.w K cls X.mg b2 9 L_lam_7 [] lam_7) (LO8 : @LamOk gam X.prog X.w K cls X.mg b2 9 L_lam_8 [] lam_8) (LO9 : @LamOk gam X.prog X.w K cls X.mg b2 9 L_lam_9 [] lam_9) (LO10 : @LamOk gam X.prog X.w K cls X.mg b2 9 L_lam_10 [] lam_10) : ∀ (i : Nat) (L : LT) (js : List Nat), domF i = true → tab_law i = some L → own_law i = some js → ∃ fr : List Str, (∀ y ∈ L.scope.names, y.2 = .free → X.env.scope.names.lookup y.1 = some .cell ∨ X.env.scope.names.lookup y.1 = some .free) ∧ (∀ y ∈ fr, (y, NameKind.free) ∈ L.scope.names) ∧ js.map (fun j => X.N[j]?) = fr.map some ∧ @LamOk gam X.prog X.w K cls X.mg b2 9 L fr (lamF i) := by
  intro i L js hd h1 h2
  rw [hsc, hN]
  by_cases e0 : i = 0
  · subst e0; cases h1; cases h2; exact ⟨["_law_account"], fr_lam_0, fs_lam_0, rfl, LO0⟩
  by_cases e1 : i = 1
  · subst e1; cases h1; cases h2; exact ⟨["_law_account"], fr_lam_1, fs_lam_1, rfl, LO1⟩
  by_cases e2 : i = 2
  · subst e2; cases h1; cases h2; exact ⟨[], fr_lam_2, fs_lam_2, rfl, LO2⟩
  by_cases e3 : i = 3
  · subst e3; cases h1; cases h2; exact ⟨["_law_account"], fr_lam_3, fs_lam_3, rfl, LO3⟩
  by_cases e4 : i = 4
  · subst e4; cases h1; cases h2; exact ⟨["_law_account", "_law_way_here"], fr_lam_4, fs_lam_4, rfl, LO4⟩
  by_cases e5 : i = 5
  · subst e5; cases h1; cases h2; exact ⟨["_law_account", "_law_held"], fr_lam_5, fs_lam_5, rfl, LO5⟩
  by_cases e6 : i = 6
  · subst e6; cases h1; cases h2; exact ⟨["_law_no"], fr_lam_6, fs_lam_6, rfl, LO6⟩
  by_cases e7 : i = 7
  · subst e7; cases h1; cases h2; exact ⟨[], fr_lam_7, fs_lam_7, rfl, LO7⟩
  by_cases e8 : i = 8
  · subst e8; cases h1; cases h2; exact ⟨[], fr_lam_8, fs_lam_8, rfl, LO8⟩
  by_cases e9 : i = 9
  · subst e9; cases h1; cases h2; exact ⟨[], fr_lam_9, fs_lam_9, rfl, LO9⟩
  by_cases e10 : i = 10
  · subst e10; cases h1; cases h2; exact ⟨[], fr_lam_10, fs_lam_10, rfl, LO10⟩
  unfold tab_law at h1
  rw [if_neg e0, if_neg e1, if_neg e2, if_neg e3, if_neg e4, if_neg e5, if_neg e6, if_neg e7, if_neg e8, if_neg e9, if_neg e10] at h1
  cases h1
theorem ti_law : ∀ i, i < 11 → (tab_law i).isSome = (own_law i).isSome := fun i hi => match i, hi with | 0, _ => rfl | 1, _ => rfl | 2, _ => rfl | 3, _ => rfl | 4, _ => rfl | 5, _ => rfl | 6, _ => rfl | 7, _ => rfl | 8, _ => rfl | 9, _ => rfl | 10, _ => rfl | j + 11, h => absurd h (by omega)
theorem tn_law : ∀ i, tab_law (i + 11) = none := fun i => by
  unfold tab_law
  rw [if_neg (by omega), if_neg (by omega), if_neg (by omega), if_neg (by omega), if_neg (by omega), if_neg (by omega), if_neg (by omega), if_neg (by omega), if_neg (by omega), if_neg (by omega), if_neg (by omega)]
theorem on_law : ∀ i, own_law (i + 11) = none := fun i => by
  unfold own_law
  rw [if_neg (by omega), if_neg (by omega), if_neg (by omega), if_neg (by omega), if_neg (by omega), if_neg (by omega), if_neg (by omega), if_neg (by omega), if_neg (by omega), if_neg (by omega), if_neg (by omega)]
end Mi

set_option Elab.async false
set_option linter.all false
set_option maxRecDepth 100000
set_option maxHeartbeats 4000000
namespace Mi
open PySem PySem.Spec PyProof.Rows L2 LamX NdefX
/-- what is known of the law at the head's heap -/
def AtL (l : PySem.W.OpenLaw) (w : World) (K : PySem.W.Frag) (mg : Str → Option Value) (fa : Addr) (h : Heap) : Prop :=
  ∃ (fd : FuncData) (cs : List (Addr × Addr)) (ts : List (Addr × Str)), ts.length = 1 ∧ cs.map (·.2) = ts.map (·.1) ∧ (ts.map (·.1)).Nodup ∧ (∀ p ∈ cs, h.get? p.2 = some { cls := .none, data := .fields #[] }) ∧ (∀ p ∈ cs, K.lookup p.2 = none) ∧ (∀ p ∈ cs, PySem.W.CodeHd h p.1 p.2) ∧ (∀ (s : Shared) (v : Value), BindsTo s fd ⟨[v], []⟩ [("_law_script", v)]) ∧
    ∀ base : Heap, K.In base → base.Ns mainGlobals mg → (∀ p ∈ cs, TabB base mg p.1 p.2) → ∃ cls, FnG l.prog w K mg base 12 fa fd ["_law_script"] (@spM (gam0 ts) K cls m_law)
theorem all_mk {l : PySem.W.OpenLaw} {w : World} {K : PySem.W.Frag} {h : Heap} {mg : Str → Option Value} {fa f0 f1 f2 f3 f4 f5 f6 f7 f8 f9 f10 f11 f12 f13 f14 f15 f16 f17 f18 f19 f20 f21 f22 f23 f24 f25 f26 f27 f28 f29 f30 f31 f32 f33 f34 f35 f36 f37 f38 f39 f40 f41 f42 f43 f44 f45 f46 f47 f48 f49 f50 f51 f52 f53 f54 f55 f56 f57 f58 f59 f60 C_State C_Door C_Right C_Wrong C_Way C_Never C_Bars cc60 PP60 : Addr} (X : K.In h) (G : h.Ns mainGlobals mg) (hfa : mg "law" = some (.ref fa)) {od0 an0 od1 an1 od2 an2 od3 an3 od4 an4 od5 an5 od6 an6 od7 an7 od8 an8 od9 an9 od10 an10 od11 an11 od12 an12 od13 an13 od14 an14 od15 an15 od16 an16 od17 an17 od18 an18 od19 an19 od20 an20 od21 an21 od22 an22 od23 an23 od24 an24 od25 an25 od26 an26 od27 an27 od28 an28 od29 an29 od30 an30 od31 an31 od32 an32 od33 an33 od34 an34 od35 an35 od36 an36 od37 an37 od38 an38 od39 an39 od40 an40 od41 an41 od42 an42 od43 an43 od44 an44 od45 an45 od46 an46 od47 an47 od48 an48 od49 an49 od50 an50 od51 an51 od52 an52 od53 an53 od54 an54 od55 an55 od56 an56 od57 an57 od58 an58 od59 an59 od60 an60 odc60 : Option Addr} {sl0 sl1 sl2 sl3 sl4 sl5 sl6 sl7 sl8 sl9 sl10 sl11 sl12 sl13 sl14 sl15 sl16 sl17 sl18 sl19 sl20 sl21 sl22 sl23 sl24 sl25 sl26 sl27 sl28 sl29 sl30 sl31 sl32 sl33 sl34 sl35 sl36 sl37 sl38 sl39 sl40 sl41 sl42 sl43 sl44 sl45 sl46 sl47 sl48 sl49 sl50 sl51 sl52 sl53 sl54 sl55 sl56 sl57 sl58 sl59 sl60 slc60 : Array (Option Value)} {vsc60 : Array Value} {oc0 kV0 dc0 pm0 cd0 ct0 oc1 kV1 dc1 pm1 cd1 ct1 oc2 kV2 dc2 pm2 cd2 ct2 oc3 kV3 dc3 pm3 cd3 ct3 oc4 kV4 dc4 pm4 cd4 ct4 oc5 kV5 dc5 pm5 cd5 ct5 oc6 kV6 dc6 pm6 cd6 ct6 oc7 kV7 dc7 pm7 cd7 ct7 oc8 kV8 dc8 pm8 cd8 ct8 oc9 kV9 dc9 pm9 cd9 ct9 oc10 kV10 dc10 pm10 cd10 ct10 oc11 kV11 dc11 pm11 cd11 ct11 oc12 kV12 dc12 pm12 cd12 ct12 oc13 kV13 dc13 pm13 cd13 ct13 oc14 kV14 dc14 pm14 cd14 ct14 oc15 kV15 dc15 pm15 cd15 ct15 oc16 kV16 dc16 pm16 cd16 ct16 oc17 kV17 dc17 pm17 cd17 ct17 oc18 kV18 dc18 pm18 cd18 ct18 oc19 kV19 dc19 pm19 cd19 ct19 oc20 kV20 dc20 pm20 cd20 ct20 oc21 kV21 dc21 pm21 cd21 ct21 oc22 kV22 dc22 pm22 cd22 ct22 oc23 kV23 dc23 pm23 cd23 ct23 oc24 kV24 dc24 pm24 cd24 ct24 oc25 kV25 dc25 pm25 cd25 ct25 oc26 kV26 dc26 pm26 cd26 ct26 oc27 kV27 dc27 pm27 cd27 ct27 oc28 kV28 dc28 pm28 cd28 ct28 oc29 kV29 dc29 pm29 cd29 ct29 oc30 kV30 dc30 pm30 cd30 ct30 oc31 kV31 dc31 pm31 cd31 ct31 oc32 kV32 dc32 pm32 cd32 ct32 oc33 kV33 dc33 pm33 cd33 ct33 oc34 kV34 dc34 pm34 cd34 ct34 oc35 kV35 dc35 pm35 cd35 ct35 oc36 kV36 dc36 pm36 cd36 ct36 oc37 kV37 dc37 pm37 cd37 ct37 oc38 kV38 dc38 pm38 cd38 ct38 oc39 kV39 dc39 pm39 cd39 ct39 oc40 kV40 dc40 pm40 cd40 ct40 oc41 kV41 dc41 pm41 cd41 ct41 oc42 kV42 dc42 pm42 cd42 ct42 oc43 kV43 dc43 pm43 cd43 ct43 oc44 kV44 dc44 pm44 cd44 ct44 oc45 kV45 dc45 pm45 cd45 ct45 oc46 kV46 dc46 pm46 cd46 ct46 oc47 kV47 dc47 pm47 cd47 ct47 oc48 kV48 dc48 pm48 cd48 ct48 oc49 kV49 dc49 pm49 cd49 ct49 oc50 kV50 dc50 pm50 cd50 ct50 oc51 kV51 dc51 pm51 cd51 ct51 oc52 kV52 dc52 pm52 cd52 ct52 oc53 kV53 dc53 pm53 cd53 ct53 oc54 kV54 dc54 pm54 cd54 ct54 oc55 kV55 dc55 pm55 cd55 ct55 oc56 kV56 dc56 pm56 cd56 ct56 oc57 kV57 dc57 pm57 cd57 ct57 oc58 kV58 dc58 pm58 cd58 ct58 oc59 kV59 dc59 pm59 cd59 ct59 oc60 kV60 dc60 pm60 ct60 : Value} {A_KINDS : Addr} {td_KINDS : Option Addr} {tn_KINDS : Nat} {ts_KINDS : Array (Option Value)} {tt_KINDS0 tt_KINDS1 : Tok} {A_FORMS : Addr} {tn_FORMS : Nat} {tt_FORMS0 tk_FORMS0 tt_FORMS1 tk_FORMS1 tt_FORMS2 tk_FORMS2 tt_FORMS3 tk_FORMS3 tt_FORMS4 tk_FORMS4 : Tok}
    (aC_State : PySem.W.nsIn K mainGlobals "State" = some (some (.ref C_State)))
    (aC_Door : PySem.W.nsIn K mainGlobals "Door" = some (some (.ref C_Door)))
    (aC_Right : PySem.W.nsIn K mainGlobals "Right" = some (some (.ref C_Right)))
    (aC_Wrong : PySem.W.nsIn K mainGlobals "Wrong" = some (some (.ref C_Wrong)))
    (aC_Way : PySem.W.nsIn K mainGlobals "Way" = some (some (.ref C_Way)))
    (aC_Never : PySem.W.nsIn K mainGlobals "Never" = some (some (.ref C_Never)))
    (aC_Bars : PySem.W.nsIn K mainGlobals "Bars" = some (some (.ref C_Bars)))
    (a0 : PySem.W.nsIn K mainGlobals "is_whole" = some (some (.ref f0)))
    (l0 : K.lookup f0 = some ⟨oc0, od0, .func (PySem.W.fnOf "is_whole" "is_whole" (defArgs s_is_whole) (defBody s_is_whole) (defScope s_is_whole) .none kV0 dc0 pm0 an0 cd0 ct0), sl0⟩)
    (c0 : PySem.W.codeIn K cd0 "is_whole" = true)
    (k0 : PySem.W.keepIn K (.ref f0) = true)
    (a1 : PySem.W.nsIn K mainGlobals "is_between" = some (some (.ref f1)))
    (l1 : K.lookup f1 = some ⟨oc1, od1, .func (PySem.W.fnOf "is_between" "is_between" (defArgs s_is_between) (defBody s_is_between) (defScope s_is_between) .none kV1 dc1 pm1 an1 cd1 ct1), sl1⟩)
    (c1 : PySem.W.codeIn K cd1 "is_between" = true)
    (k1 : PySem.W.keepIn K (.ref f1) = true)
    (a2 : PySem.W.nsIn K mainGlobals "are_rising" = some (some (.ref f2)))
    (l2 : K.lookup f2 = some ⟨oc2, od2, .func (PySem.W.fnOf "are_rising" "are_rising" (defArgs s_are_rising) (defBody s_are_rising) (defScope s_are_rising) .none kV2 dc2 pm2 an2 cd2 ct2), sl2⟩)
    (c2 : PySem.W.codeIn K cd2 "are_rising" = true)
    (k2 : PySem.W.keepIn K (.ref f2) = true)
    (a3 : PySem.W.nsIn K mainGlobals "are_boxes" = some (some (.ref f3)))
    (l3 : K.lookup f3 = some ⟨oc3, od3, .func (PySem.W.fnOf "are_boxes" "are_boxes" (defArgs s_are_boxes) (defBody s_are_boxes) (defScope s_are_boxes) .none kV3 dc3 pm3 an3 cd3 ct3), sl3⟩)
    (c3 : PySem.W.codeIn K cd3 "are_boxes" = true)
    (k3 : PySem.W.keepIn K (.ref f3) = true)
    (a4 : PySem.W.nsIn K mainGlobals "is_account" = some (some (.ref f4)))
    (l4 : K.lookup f4 = some ⟨oc4, od4, .func (PySem.W.fnOf "is_account" "is_account" (defArgs s_is_account) (defBody s_is_account) (defScope s_is_account) .none kV4 dc4 pm4 an4 cd4 ct4), sl4⟩)
    (c4 : PySem.W.codeIn K cd4 "is_account" = true)
    (k4 : PySem.W.keepIn K (.ref f4) = true)
    (a5 : PySem.W.nsIn K mainGlobals "check_house" = some (some (.ref f5)))
    (l5 : K.lookup f5 = some ⟨oc5, od5, .func (PySem.W.fnOf "check_house" "check_house" (defArgs s_check_house) (defBody s_check_house) (defScope s_check_house) .none kV5 dc5 pm5 an5 cd5 ct5), sl5⟩)
    (c5 : PySem.W.codeIn K cd5 "check_house" = true)
    (k5 : PySem.W.keepIn K (.ref f5) = true)
    (a6 : PySem.W.nsIn K mainGlobals "check_boxes" = some (some (.ref f6)))
    (l6 : K.lookup f6 = some ⟨oc6, od6, .func (PySem.W.fnOf "check_boxes" "check_boxes" (defArgs s_check_boxes) (defBody s_check_boxes) (defScope s_check_boxes) .none kV6 dc6 pm6 an6 cd6 ct6), sl6⟩)
    (c6 : PySem.W.codeIn K cd6 "check_boxes" = true)
    (k6 : PySem.W.keepIn K (.ref f6) = true)
    (a7 : PySem.W.nsIn K mainGlobals "check_wanted" = some (some (.ref f7)))
    (l7 : K.lookup f7 = some ⟨oc7, od7, .func (PySem.W.fnOf "check_wanted" "check_wanted" (defArgs s_check_wanted) (defBody s_check_wanted) (defScope s_check_wanted) .none kV7 dc7 pm7 an7 cd7 ct7), sl7⟩)
    (c7 : PySem.W.codeIn K cd7 "check_wanted" = true)
    (k7 : PySem.W.keepIn K (.ref f7) = true)
    (a8 : PySem.W.nsIn K mainGlobals "come_to" = some (some (.ref f8)))
    (l8 : K.lookup f8 = some ⟨oc8, od8, .func (PySem.W.fnOf "come_to" "come_to" (defArgs s_come_to) (defBody s_come_to) (defScope s_come_to) .none kV8 dc8 pm8 an8 cd8 ct8), sl8⟩)
    (c8 : PySem.W.codeIn K cd8 "come_to" = true)
    (k8 : PySem.W.keepIn K (.ref f8) = true)
    (a9 : PySem.W.findIn K (.ref C_Never) "__init__" = some (some (.ref f9)))
    (i9 : PySem.W.isFn K (.ref f9) = true)
    (l9 : K.lookup f9 = some ⟨oc9, od9, .func (PySem.W.fnOf "__init__" "Never.__init__" (defArgs s_Never___init__) (defBody s_Never___init__) (defScope s_Never___init__) .none kV9 dc9 pm9 an9 cd9 ct9), sl9⟩)
    (c9 : PySem.W.codeIn K cd9 "Never.__init__" = true)
    (k9 : PySem.W.keepIn K (.ref f9) = true)
    (a10 : PySem.W.findIn K (.ref C_Way) "__init__" = some (some (.ref f10)))
    (i10 : PySem.W.isFn K (.ref f10) = true)
    (l10 : K.lookup f10 = some ⟨oc10, od10, .func (PySem.W.fnOf "__init__" "Way.__init__" (defArgs s_Way___init__) (defBody s_Way___init__) (defScope s_Way___init__) .none kV10 dc10 pm10 an10 cd10 ct10), sl10⟩)
    (c10 : PySem.W.codeIn K cd10 "Way.__init__" = true)
    (k10 : PySem.W.keepIn K (.ref f10) = true)
    (a11 : PySem.W.nsIn K mainGlobals "way_in" = some (some (.ref f11)))
    (l11 : K.lookup f11 = some ⟨oc11, od11, .func (PySem.W.fnOf "way_in" "way_in" (defArgs s_way_in) (defBody s_way_in) (defScope s_way_in) .none kV11 dc11 pm11 an11 cd11 ct11), sl11⟩)
    (c11 : PySem.W.codeIn K cd11 "way_in" = true)
    (k11 : PySem.W.keepIn K (.ref f11) = true)
    (a12 : PySem.W.nsIn K mainGlobals "_law_deep" = some (some (.ref f12)))
    (l12 : K.lookup f12 = some ⟨oc12, od12, .func (PySem.W.fnOf "_law_deep" "_law_deep" (defArgs s__law_deep) (defBody s__law_deep) (defScope s__law_deep) .none kV12 dc12 pm12 an12 cd12 ct12), sl12⟩)
    (c12 : PySem.W.codeIn K cd12 "_law_deep" = true)
    (k12 : PySem.W.keepIn K (.ref f12) = true)
    (a13 : PySem.W.findIn K (.ref C_Way) "shows" = some (some (.ref f13)))
    (i13 : PySem.W.isFn K (.ref f13) = true)
    (l13 : K.lookup f13 = some ⟨oc13, od13, .func (PySem.W.fnOf "shows" "Way.shows" (defArgs s_Way_shows) (defBody s_Way_shows) (defScope s_Way_shows) .none kV13 dc13 pm13 an13 cd13 ct13), sl13⟩)
    (c13 : PySem.W.codeIn K cd13 "Way.shows" = true)
    (k13 : PySem.W.keepIn K (.ref f13) = true)
    (a14 : PySem.W.findIn K (.ref C_Never) "shows" = some (some (.ref f14)))
    (i14 : PySem.W.isFn K (.ref f14) = true)
    (l14 : K.lookup f14 = some ⟨oc14, od14, .func (PySem.W.fnOf "shows" "Never.shows" (defArgs s_Never_shows) (defBody s_Never_shows) (defScope s_Never_shows) .none kV14 dc14 pm14 an14 cd14 ct14), sl14⟩)
    (c14 : PySem.W.codeIn K cd14 "Never.shows" = true)
    (k14 : PySem.W.keepIn K (.ref f14) = true)
    (a15 : PySem.W.nsIn K mainGlobals "_law_way" = some (some (.ref f15)))
    (l15 : K.lookup f15 = some ⟨oc15, od15, .func (PySem.W.fnOf "_law_way" "_law_way" (defArgs s__law_way) (defBody s__law_way) (defScope s__law_way) .none kV15 dc15 pm15 an15 cd15 ct15), sl15⟩)
    (c15 : PySem.W.codeIn K cd15 "_law_way" = true)
    (k15 : PySem.W.keepIn K (.ref f15) = true)
    (a16 : PySem.W.nsIn K mainGlobals "met_from" = some (some (.ref f16)))
    (l16 : K.lookup f16 = some ⟨oc16, od16, .func (PySem.W.fnOf "met_from" "met_from" (defArgs s_met_from) (defBody s_met_from) (defScope s_met_from) .none kV16 dc16 pm16 an16 cd16 ct16), sl16⟩)
    (c16 : PySem.W.codeIn K cd16 "met_from" = true)
    (k16 : PySem.W.keepIn K (.ref f16) = true)
    (a17 : PySem.W.nsIn K mainGlobals "used_edges" = some (some (.ref f17)))
    (l17 : K.lookup f17 = some ⟨oc17, od17, .func (PySem.W.fnOf "used_edges" "used_edges" (defArgs s_used_edges) (defBody s_used_edges) (defScope s_used_edges) .none kV17 dc17 pm17 an17 cd17 ct17), sl17⟩)
    (c17 : PySem.W.codeIn K cd17 "used_edges" = true)
    (k17 : PySem.W.keepIn K (.ref f17) = true)
    (a18 : PySem.W.nsIn K mainGlobals "next_boxes" = some (some (.ref f18)))
    (l18 : K.lookup f18 = some ⟨oc18, od18, .func (PySem.W.fnOf "next_boxes" "next_boxes" (defArgs s_next_boxes) (defBody s_next_boxes) (defScope s_next_boxes) .none kV18 dc18 pm18 an18 cd18 ct18), sl18⟩)
    (c18 : PySem.W.codeIn K cd18 "next_boxes" = true)
    (k18 : PySem.W.keepIn K (.ref f18) = true)
    (a19 : PySem.W.nsIn K mainGlobals "edges_of" = some (some (.ref f19)))
    (l19 : K.lookup f19 = some ⟨oc19, od19, .func (PySem.W.fnOf "edges_of" "edges_of" (defArgs s_edges_of) (defBody s_edges_of) (defScope s_edges_of) .none kV19 dc19 pm19 an19 cd19 ct19), sl19⟩)
    (c19 : PySem.W.codeIn K cd19 "edges_of" = true)
    (k19 : PySem.W.keepIn K (.ref f19) = true)
    (a20 : PySem.W.findIn K (.ref C_Bars) "__init__" = some (some (.ref f20)))
    (i20 : PySem.W.isFn K (.ref f20) = true)
    (l20 : K.lookup f20 = some ⟨oc20, od20, .func (PySem.W.fnOf "__init__" "Bars.__init__" (defArgs s_Bars___init__) (defBody s_Bars___init__) (defScope s_Bars___init__) .none kV20 dc20 pm20 an20 cd20 ct20), sl20⟩)
    (c20 : PySem.W.codeIn K cd20 "Bars.__init__" = true)
    (k20 : PySem.W.keepIn K (.ref f20) = true)
    (a21 : PySem.W.nsIn K mainGlobals "led_on" = some (some (.ref f21)))
    (l21 : K.lookup f21 = some ⟨oc21, od21, .func (PySem.W.fnOf "led_on" "led_on" (defArgs s_led_on) (defBody s_led_on) (defScope s_led_on) .none kV21 dc21 pm21 an21 cd21 ct21), sl21⟩)
    (c21 : PySem.W.codeIn K cd21 "led_on" = true)
    (k21 : PySem.W.keepIn K (.ref f21) = true)
    (a22 : PySem.W.nsIn K mainGlobals "bars" = some (some (.ref f22)))
    (l22 : K.lookup f22 = some ⟨oc22, od22, .func (PySem.W.fnOf "bars" "bars" (defArgs s_bars) (defBody s_bars) (defScope s_bars) .none kV22 dc22 pm22 an22 cd22 ct22), sl22⟩)
    (c22 : PySem.W.codeIn K cd22 "bars" = true)
    (k22 : PySem.W.keepIn K (.ref f22) = true)
    (a23 : PySem.W.nsIn K mainGlobals "is_way" = some (some (.ref f23)))
    (l23 : K.lookup f23 = some ⟨oc23, od23, .func (PySem.W.fnOf "is_way" "is_way" (defArgs s_is_way) (defBody s_is_way) (defScope s_is_way) .none kV23 dc23 pm23 an23 cd23 ct23), sl23⟩)
    (c23 : PySem.W.codeIn K cd23 "is_way" = true)
    (k23 : PySem.W.keepIn K (.ref f23) = true)
    (a24 : PySem.W.findIn K (.ref C_Bars) "shows" = some (some (.ref f24)))
    (i24 : PySem.W.isFn K (.ref f24) = true)
    (l24 : K.lookup f24 = some ⟨oc24, od24, .func (PySem.W.fnOf "shows" "Bars.shows" (defArgs s_Bars_shows) (defBody s_Bars_shows) (defScope s_Bars_shows) .none kV24 dc24 pm24 an24 cd24 ct24), sl24⟩)
    (c24 : PySem.W.codeIn K cd24 "Bars.shows" = true)
    (k24 : PySem.W.keepIn K (.ref f24) = true)
    (a25 : PySem.W.nsIn K mainGlobals "_law_bars" = some (some (.ref f25)))
    (l25 : K.lookup f25 = some ⟨oc25, od25, .func (PySem.W.fnOf "_law_bars" "_law_bars" (defArgs s__law_bars) (defBody s__law_bars) (defScope s__law_bars) .none kV25 dc25 pm25 an25 cd25 ct25), sl25⟩)
    (c25 : PySem.W.codeIn K cd25 "_law_bars" = true)
    (k25 : PySem.W.keepIn K (.ref f25) = true)
    (a26 : PySem.W.nsIn K mainGlobals "_law_two" = some (some (.ref f26)))
    (l26 : K.lookup f26 = some ⟨oc26, od26, .func (PySem.W.fnOf "_law_two" "_law_two" (defArgs s__law_two) (defBody s__law_two) (defScope s__law_two) .none kV26 dc26 pm26 an26 cd26 ct26), sl26⟩)
    (c26 : PySem.W.codeIn K cd26 "_law_two" = true)
    (k26 : PySem.W.keepIn K (.ref f26) = true)
    (a27 : PySem.W.nsIn K mainGlobals "inside" = some (some (.ref f27)))
    (l27 : K.lookup f27 = some ⟨oc27, od27, .func (PySem.W.fnOf "inside" "inside" (defArgs s_inside) (defBody s_inside) (defScope s_inside) .none kV27 dc27 pm27 an27 cd27 ct27), sl27⟩)
    (c27 : PySem.W.codeIn K cd27 "inside" = true)
    (k27 : PySem.W.keepIn K (.ref f27) = true)
    (a28 : PySem.W.nsIn K mainGlobals "many_bars" = some (some (.ref f28)))
    (l28 : K.lookup f28 = some ⟨oc28, od28, .func (PySem.W.fnOf "many_bars" "many_bars" (defArgs s_many_bars) (defBody s_many_bars) (defScope s_many_bars) .none kV28 dc28 pm28 an28 cd28 ct28), sl28⟩)
    (c28 : PySem.W.codeIn K cd28 "many_bars" = true)
    (k28 : PySem.W.keepIn K (.ref f28) = true)
    (a29 : PySem.W.nsIn K mainGlobals "check_settings" = some (some (.ref f29)))
    (l29 : K.lookup f29 = some ⟨oc29, od29, .func (PySem.W.fnOf "check_settings" "check_settings" (defArgs s_check_settings) (defBody s_check_settings) (defScope s_check_settings) .none kV29 dc29 pm29 an29 cd29 ct29), sl29⟩)
    (c29 : PySem.W.codeIn K cd29 "check_settings" = true)
    (k29 : PySem.W.keepIn K (.ref f29) = true)
    (a30 : PySem.W.nsIn K mainGlobals "is_line" = some (some (.ref f30)))
    (l30 : K.lookup f30 = some ⟨oc30, od30, .func (PySem.W.fnOf "is_line" "is_line" (defArgs s_is_line) (defBody s_is_line) (defScope s_is_line) .none kV30 dc30 pm30 an30 cd30 ct30), sl30⟩)
    (c30 : PySem.W.codeIn K cd30 "is_line" = true)
    (k30 : PySem.W.keepIn K (.ref f30) = true)
    (a31 : PySem.W.findIn K (.ref C_State) "__init__" = some (some (.ref f31)))
    (i31 : PySem.W.isFn K (.ref f31) = true)
    (l31 : K.lookup f31 = some ⟨oc31, od31, .func (PySem.W.fnOf "__init__" "State.__init__" (defArgs s_State___init__) (defBody s_State___init__) (defScope s_State___init__) .none kV31 dc31 pm31 an31 cd31 ct31), sl31⟩)
    (c31 : PySem.W.codeIn K cd31 "State.__init__" = true)
    (k31 : PySem.W.keepIn K (.ref f31) = true)
    (a32 : PySem.W.findIn K (.ref C_State) "brought" = some (some (.ref f32)))
    (i32 : PySem.W.isFn K (.ref f32) = true)
    (l32 : K.lookup f32 = some ⟨oc32, od32, .func (PySem.W.fnOf "brought" "State.brought" (defArgs s_State_brought) (defBody s_State_brought) (defScope s_State_brought) .none kV32 dc32 pm32 an32 cd32 ct32), sl32⟩)
    (c32 : PySem.W.codeIn K cd32 "State.brought" = true)
    (k32 : PySem.W.keepIn K (.ref f32) = true)
    (a33 : PySem.W.findIn K (.ref C_State) "asked" = some (some (.ref f33)))
    (i33 : PySem.W.isFn K (.ref f33) = true)
    (l33 : K.lookup f33 = some ⟨oc33, od33, .func (PySem.W.fnOf "asked" "State.asked" (defArgs s_State_asked) (defBody s_State_asked) (defScope s_State_asked) .none kV33 dc33 pm33 an33 cd33 ct33), sl33⟩)
    (c33 : PySem.W.codeIn K cd33 "State.asked" = true)
    (k33 : PySem.W.keepIn K (.ref f33) = true)
    (a34 : PySem.W.findIn K (.ref C_State) "newest" = some (some (.ref f34)))
    (i34 : PySem.W.isFn K (.ref f34) = true)
    (l34 : K.lookup f34 = some ⟨oc34, od34, .func (PySem.W.fnOf "newest" "State.newest" (defArgs s_State_newest) (defBody s_State_newest) (defScope s_State_newest) .none kV34 dc34 pm34 an34 cd34 ct34), sl34⟩)
    (c34 : PySem.W.codeIn K cd34 "State.newest" = true)
    (k34 : PySem.W.keepIn K (.ref f34) = true)
    (a35 : PySem.W.findIn K (.ref C_State) "is_good" = some (some (.ref f35)))
    (i35 : PySem.W.isFn K (.ref f35) = true)
    (l35 : K.lookup f35 = some ⟨oc35, od35, .func (PySem.W.fnOf "is_good" "State.is_good" (defArgs s_State_is_good) (defBody s_State_is_good) (defScope s_State_is_good) .none kV35 dc35 pm35 an35 cd35 ct35), sl35⟩)
    (c35 : PySem.W.codeIn K cd35 "State.is_good" = true)
    (k35 : PySem.W.keepIn K (.ref f35) = true)
    (a36 : PySem.W.findIn K (.ref C_State) "tried" = some (some (.ref f36)))
    (i36 : PySem.W.isFn K (.ref f36) = true)
    (l36 : K.lookup f36 = some ⟨oc36, od36, .func (PySem.W.fnOf "tried" "State.tried" (defArgs s_State_tried) (defBody s_State_tried) (defScope s_State_tried) .none kV36 dc36 pm36 an36 cd36 ct36), sl36⟩)
    (c36 : PySem.W.codeIn K cd36 "State.tried" = true)
    (k36 : PySem.W.keepIn K (.ref f36) = true)
    (a37 : PySem.W.nsIn K mainGlobals "can_come" = some (some (.ref f37)))
    (l37 : K.lookup f37 = some ⟨oc37, od37, .func (PySem.W.fnOf "can_come" "can_come" (defArgs s_can_come) (defBody s_can_come) (defScope s_can_come) .none kV37 dc37 pm37 an37 cd37 ct37), sl37⟩)
    (c37 : PySem.W.codeIn K cd37 "can_come" = true)
    (k37 : PySem.W.keepIn K (.ref f37) = true)
    (a38 : PySem.W.nsIn K mainGlobals "wrong_of" = some (some (.ref f38)))
    (l38 : K.lookup f38 = some ⟨oc38, od38, .func (PySem.W.fnOf "wrong_of" "wrong_of" (defArgs s_wrong_of) (defBody s_wrong_of) (defScope s_wrong_of) .none kV38 dc38 pm38 an38 cd38 ct38), sl38⟩)
    (c38 : PySem.W.codeIn K cd38 "wrong_of" = true)
    (k38 : PySem.W.keepIn K (.ref f38) = true)
    (a39 : PySem.W.findIn K (.ref C_Wrong) "__init__" = some (some (.ref f39)))
    (i39 : PySem.W.isFn K (.ref f39) = true)
    (l39 : K.lookup f39 = some ⟨oc39, od39, .func (PySem.W.fnOf "__init__" "Wrong.__init__" (defArgs s_Wrong___init__) (defBody s_Wrong___init__) (defScope s_Wrong___init__) .none kV39 dc39 pm39 an39 cd39 ct39), sl39⟩)
    (c39 : PySem.W.codeIn K cd39 "Wrong.__init__" = true)
    (k39 : PySem.W.keepIn K (.ref f39) = true)
    (a40 : PySem.W.nsIn K mainGlobals "judged" = some (some (.ref f40)))
    (l40 : K.lookup f40 = some ⟨oc40, od40, .func (PySem.W.fnOf "judged" "judged" (defArgs s_judged) (defBody s_judged) (defScope s_judged) .none kV40 dc40 pm40 an40 cd40 ct40), sl40⟩)
    (c40 : PySem.W.codeIn K cd40 "judged" = true)
    (k40 : PySem.W.keepIn K (.ref f40) = true)
    (a41 : PySem.W.nsIn K mainGlobals "_law_judged" = some (some (.ref f41)))
    (l41 : K.lookup f41 = some ⟨oc41, od41, .func (PySem.W.fnOf "_law_judged" "_law_judged" (defArgs s__law_judged) (defBody s__law_judged) (defScope s__law_judged) .none kV41 dc41 pm41 an41 cd41 ct41), sl41⟩)
    (c41 : PySem.W.codeIn K cd41 "_law_judged" = true)
    (k41 : PySem.W.keepIn K (.ref f41) = true)
    (a42 : PySem.W.findIn K (.ref C_Right) "shows" = some (some (.ref f42)))
    (i42 : PySem.W.isFn K (.ref f42) = true)
    (l42 : K.lookup f42 = some ⟨oc42, od42, .func (PySem.W.fnOf "shows" "Right.shows" (defArgs s_Right_shows) (defBody s_Right_shows) (defScope s_Right_shows) .none kV42 dc42 pm42 an42 cd42 ct42), sl42⟩)
    (c42 : PySem.W.codeIn K cd42 "Right.shows" = true)
    (k42 : PySem.W.keepIn K (.ref f42) = true)
    (a43 : PySem.W.findIn K (.ref C_Wrong) "shows" = some (some (.ref f43)))
    (i43 : PySem.W.isFn K (.ref f43) = true)
    (l43 : K.lookup f43 = some ⟨oc43, od43, .func (PySem.W.fnOf "shows" "Wrong.shows" (defArgs s_Wrong_shows) (defBody s_Wrong_shows) (defScope s_Wrong_shows) .none kV43 dc43 pm43 an43 cd43 ct43), sl43⟩)
    (c43 : PySem.W.codeIn K cd43 "Wrong.shows" = true)
    (k43 : PySem.W.keepIn K (.ref f43) = true)
    (a44 : PySem.W.findIn K (.ref C_Door) "__init__" = some (some (.ref f44)))
    (i44 : PySem.W.isFn K (.ref f44) = true)
    (l44 : K.lookup f44 = some ⟨oc44, od44, .func (PySem.W.fnOf "__init__" "Door.__init__" (defArgs s_Door___init__) (defBody s_Door___init__) (defScope s_Door___init__) .none kV44 dc44 pm44 an44 cd44 ct44), sl44⟩)
    (c44 : PySem.W.codeIn K cd44 "Door.__init__" = true)
    (k44 : PySem.W.keepIn K (.ref f44) = true)
    (a45 : PySem.W.findIn K (.ref C_Door) "check_account" = some (some (.ref f45)))
    (i45 : PySem.W.isFn K (.ref f45) = true)
    (l45 : K.lookup f45 = some ⟨oc45, od45, .func (PySem.W.fnOf "check_account" "Door.check_account" (defArgs s_Door_check_account) (defBody s_Door_check_account) (defScope s_Door_check_account) .none kV45 dc45 pm45 an45 cd45 ct45), sl45⟩)
    (c45 : PySem.W.codeIn K cd45 "Door.check_account" = true)
    (k45 : PySem.W.keepIn K (.ref f45) = true)
    (a46 : PySem.W.findIn K (.ref C_Door) "ask" = some (some (.ref f46)))
    (i46 : PySem.W.isFn K (.ref f46) = true)
    (l46 : K.lookup f46 = some ⟨oc46, od46, .func (PySem.W.fnOf "ask" "Door.ask" (defArgs s_Door_ask) (defBody s_Door_ask) (defScope s_Door_ask) .none kV46 dc46 pm46 an46 cd46 ct46), sl46⟩)
    (c46 : PySem.W.codeIn K cd46 "Door.ask" = true)
    (k46 : PySem.W.keepIn K (.ref f46) = true)
    (a47 : PySem.W.findIn K (.ref C_State) "good_ones" = some (some (.ref f47)))
    (i47 : PySem.W.isFn K (.ref f47) = true)
    (l47 : K.lookup f47 = some ⟨oc47, od47, .func (PySem.W.fnOf "good_ones" "State.good_ones" (defArgs s_State_good_ones) (defBody s_State_good_ones) (defScope s_State_good_ones) .none kV47 dc47 pm47 an47 cd47 ct47), sl47⟩)
    (c47 : PySem.W.codeIn K cd47 "State.good_ones" = true)
    (k47 : PySem.W.keepIn K (.ref f47) = true)
    (a48 : PySem.W.findIn K (.ref C_Door) "open_to" = some (some (.ref f48)))
    (i48 : PySem.W.isFn K (.ref f48) = true)
    (l48 : K.lookup f48 = some ⟨oc48, od48, .func (PySem.W.fnOf "open_to" "Door.open_to" (defArgs s_Door_open_to) (defBody s_Door_open_to) (defScope s_Door_open_to) .none kV48 dc48 pm48 an48 cd48 ct48), sl48⟩)
    (c48 : PySem.W.codeIn K cd48 "Door.open_to" = true)
    (k48 : PySem.W.keepIn K (.ref f48) = true)
    (a49 : PySem.W.findIn K (.ref C_Door) "box" = some (some (.ref f49)))
    (i49 : PySem.W.isFn K (.ref f49) = true)
    (l49 : K.lookup f49 = some ⟨oc49, od49, .func (PySem.W.fnOf "box" "Door.box" (defArgs s_Door_box) (defBody s_Door_box) (defScope s_Door_box) .none kV49 dc49 pm49 an49 cd49 ct49), sl49⟩)
    (c49 : PySem.W.codeIn K cd49 "Door.box" = true)
    (k49 : PySem.W.keepIn K (.ref f49) = true)
    (a50 : PySem.W.findIn K (.ref C_Door) "good" = some (some (.ref f50)))
    (i50 : PySem.W.isFn K (.ref f50) = true)
    (l50 : K.lookup f50 = some ⟨oc50, od50, .func (PySem.W.fnOf "good" "Door.good" (defArgs s_Door_good) (defBody s_Door_good) (defScope s_Door_good) .none kV50 dc50 pm50 an50 cd50 ct50), sl50⟩)
    (c50 : PySem.W.codeIn K cd50 "Door.good" = true)
    (k50 : PySem.W.keepIn K (.ref f50) = true)
    (a51 : PySem.W.findIn K (.ref C_Door) "tale" = some (some (.ref f51)))
    (i51 : PySem.W.isFn K (.ref f51) = true)
    (l51 : K.lookup f51 = some ⟨oc51, od51, .func (PySem.W.fnOf "tale" "Door.tale" (defArgs s_Door_tale) (defBody s_Door_tale) (defScope s_Door_tale) .none kV51 dc51 pm51 an51 cd51 ct51), sl51⟩)
    (c51 : PySem.W.codeIn K cd51 "Door.tale" = true)
    (k51 : PySem.W.keepIn K (.ref f51) = true)
    (a52 : PySem.W.nsIn K mainGlobals "_law_open" = some (some (.ref f52)))
    (l52 : K.lookup f52 = some ⟨oc52, od52, .func (PySem.W.fnOf "_law_open" "_law_open" (defArgs s__law_open) (defBody s__law_open) (defScope s__law_open) .none kV52 dc52 pm52 an52 cd52 ct52), sl52⟩)
    (c52 : PySem.W.codeIn K cd52 "_law_open" = true)
    (k52 : PySem.W.keepIn K (.ref f52) = true)
    (a53 : PySem.W.nsIn K mainGlobals "_law_cell_at" = some (some (.ref f53)))
    (l53 : K.lookup f53 = some ⟨oc53, od53, .func (PySem.W.fnOf "_law_cell_at" "_law_cell_at" (defArgs s__law_cell_at) (defBody s__law_cell_at) (defScope s__law_cell_at) .none kV53 dc53 pm53 an53 cd53 ct53), sl53⟩)
    (c53 : PySem.W.codeIn K cd53 "_law_cell_at" = true)
    (k53 : PySem.W.keepIn K (.ref f53) = true)
    (a54 : PySem.W.nsIn K mainGlobals "_law_draw" = some (some (.ref f54)))
    (l54 : K.lookup f54 = some ⟨oc54, od54, .func (PySem.W.fnOf "_law_draw" "_law_draw" (defArgs s__law_draw) (defBody s__law_draw) (defScope s__law_draw) .none kV54 dc54 pm54 an54 cd54 ct54), sl54⟩)
    (c54 : PySem.W.codeIn K cd54 "_law_draw" = true)
    (k54 : PySem.W.keepIn K (.ref f54) = true)
    (a55 : PySem.W.nsIn K mainGlobals "_law_number" = some (some (.ref f55)))
    (l55 : K.lookup f55 = some ⟨oc55, od55, .func (PySem.W.fnOf "_law_number" "_law_number" (defArgs s__law_number) (defBody s__law_number) (defScope s__law_number) .none kV55 dc55 pm55 an55 cd55 ct55), sl55⟩)
    (c55 : PySem.W.codeIn K cd55 "_law_number" = true)
    (k55 : PySem.W.keepIn K (.ref f55) = true)
    (a56 : PySem.W.nsIn K mainGlobals "_law_spoilt" = some (some (.ref f56)))
    (l56 : K.lookup f56 = some ⟨oc56, od56, .func (PySem.W.fnOf "_law_spoilt" "_law_spoilt" (defArgs s__law_spoilt) (defBody s__law_spoilt) (defScope s__law_spoilt) .none kV56 dc56 pm56 an56 cd56 ct56), sl56⟩)
    (c56 : PySem.W.codeIn K cd56 "_law_spoilt" = true)
    (k56 : PySem.W.keepIn K (.ref f56) = true)
    (a57 : PySem.W.nsIn K mainGlobals "_law_put" = some (some (.ref f57)))
    (l57 : K.lookup f57 = some ⟨oc57, od57, .func (PySem.W.fnOf "_law_put" "_law_put" (defArgs s__law_put) (defBody s__law_put) (defScope s__law_put) .none kV57 dc57 pm57 an57 cd57 ct57), sl57⟩)
    (c57 : PySem.W.codeIn K cd57 "_law_put" = true)
    (k57 : PySem.W.keepIn K (.ref f57) = true)
    (a58 : PySem.W.nsIn K mainGlobals "_law_door_right" = some (some (.ref f58)))
    (l58 : K.lookup f58 = some ⟨oc58, od58, .func (PySem.W.fnOf "_law_door_right" "_law_door_right" (defArgs s__law_door_right) (defBody s__law_door_right) (defScope s__law_door_right) .none kV58 dc58 pm58 an58 cd58 ct58), sl58⟩)
    (c58 : PySem.W.codeIn K cd58 "_law_door_right" = true)
    (k58 : PySem.W.keepIn K (.ref f58) = true)
    (a59 : PySem.W.nsIn K mainGlobals "_law_doors_right" = some (some (.ref f59)))
    (l59 : K.lookup f59 = some ⟨oc59, od59, .func (PySem.W.fnOf "_law_doors_right" "_law_doors_right" (defArgs s__law_doors_right) (defBody s__law_doors_right) (defScope s__law_doors_right) .none kV59 dc59 pm59 an59 cd59 ct59), sl59⟩)
    (c59 : PySem.W.codeIn K cd59 "_law_doors_right" = true)
    (k59 : PySem.W.keepIn K (.ref f59) = true)
    (a60 : PySem.W.nsIn K mainGlobals "law" = some (some (.ref f60)))
    (l60 : K.lookup f60 = some ⟨oc60, od60, .func (PySem.W.fnOf "law" "law" (defArgs s_law) (defBody s_law) (defScope s_law) .none kV60 dc60 pm60 an60 (.ref cc60) ct60), sl60⟩)
    (c60 : PySem.W.codeIn K (.ref cc60) "law" = true)
    (k60 : PySem.W.keepIn K (.ref f60) = true)
    (oc_60 : K.lookup cc60 = some ⟨.type "code", odc60, .fields vsc60, slc60⟩)
    (tb_60 : vsc60[11]? = some (.ref PP60))
    (ch_60 : PySem.W.codeHdIn K cc60 PP60 = true)
    (np_60 : K.lookup PP60 = none)
    (ht_60 : h.get? PP60 = some { cls := .none, data := .fields #[] })
    (nd_T : ([PP60] : List Addr).Nodup)
    (pg_State : PySem.W.plainGet K C_State Str.empty = true)
    (hd_State : PySem.W.hasDictIn K C_State = true)
    (po_State : PySem.W.plainOver K C_State = true)
    (sa_State : PySem.W.findIn K (.ref C_State) "__setattr__" = some (some (.builtin "object.__setattr__")))
    (mk_State : PySem.W.makesIn K C_State = true)
    (kc_State : PySem.W.keepIn K (.ref C_State) = true)
    (pg_Door : PySem.W.plainGet K C_Door Str.empty = true)
    (hd_Door : PySem.W.hasDictIn K C_Door = true)
    (po_Door : PySem.W.plainOver K C_Door = true)
    (sa_Door : PySem.W.findIn K (.ref C_Door) "__setattr__" = some (some (.builtin "object.__setattr__")))
    (mk_Door : PySem.W.makesIn K C_Door = true)
    (kc_Door : PySem.W.keepIn K (.ref C_Door) = true)
    (pg_Right : PySem.W.plainGet K C_Right Str.empty = true)
    (hd_Right : PySem.W.hasDictIn K C_Right = true)
    (po_Right : PySem.W.plainOver K C_Right = true)
    (sa_Right : PySem.W.findIn K (.ref C_Right) "__setattr__" = some (some (.builtin "object.__setattr__")))
    (mk_Right : PySem.W.makesIn K C_Right = true)
    (kc_Right : PySem.W.keepIn K (.ref C_Right) = true)
    (pg_Wrong : PySem.W.plainGet K C_Wrong Str.empty = true)
    (hd_Wrong : PySem.W.hasDictIn K C_Wrong = true)
    (po_Wrong : PySem.W.plainOver K C_Wrong = true)
    (sa_Wrong : PySem.W.findIn K (.ref C_Wrong) "__setattr__" = some (some (.builtin "object.__setattr__")))
    (mk_Wrong : PySem.W.makesIn K C_Wrong = true)
    (kc_Wrong : PySem.W.keepIn K (.ref C_Wrong) = true)
    (pg_Way : PySem.W.plainGet K C_Way Str.empty = true)
    (hd_Way : PySem.W.hasDictIn K C_Way = true)
    (po_Way : PySem.W.plainOver K C_Way = true)
    (sa_Way : PySem.W.findIn K (.ref C_Way) "__setattr__" = some (some (.builtin "object.__setattr__")))
    (mk_Way : PySem.W.makesIn K C_Way = true)
    (kc_Way : PySem.W.keepIn K (.ref C_Way) = true)
    (pg_Never : PySem.W.plainGet K C_Never Str.empty = true)
    (hd_Never : PySem.W.hasDictIn K C_Never = true)
    (po_Never : PySem.W.plainOver K C_Never = true)
    (sa_Never : PySem.W.findIn K (.ref C_Never) "__setattr__" = some (some (.builtin "object.__setattr__")))
    (mk_Never : PySem.W.makesIn K C_Never = true)
    (kc_Never : PySem.W.keepIn K (.ref C_Never) = true)
    (pg_Bars : PySem.W.plainGet K C_Bars Str.empty = true)
    (hd_Bars : PySem.W.hasDictIn K C_Bars = true)
    (po_Bars : PySem.W.plainOver K C_Bars = true)
    (sa_Bars : PySem.W.findIn K (.ref C_Bars) "__setattr__" = some (some (.builtin "object.__setattr__")))
    (mk_Bars : PySem.W.makesIn K C_Bars = true)
    (kc_Bars : PySem.W.keepIn K (.ref C_Bars) = true)
    (n_0_0 : PySem.W.findIn K (.ref C_State) "many" = some none)
    (n_0_1 : PySem.W.findIn K (.ref C_State) "kind" = some none)
    (n_0_2 : PySem.W.findIn K (.ref C_State) "life" = some none)
    (n_0_3 : PySem.W.findIn K (.ref C_State) "tries" = some none)
    (n_0_4 : PySem.W.findIn K (.ref C_State) "gone" = some none)
    (n_0_5 : PySem.W.findIn K (.ref C_State) "codes" = some none)
    (n_0_6 : PySem.W.findIn K (.ref C_State) "wrong" = some none)
    (n_0_7 : PySem.W.findIn K (.ref C_State) "boxes" = some none)
    (n_1_0 : PySem.W.findIn K (.ref C_Door) "state" = some none)
    (n_1_1 : PySem.W.findIn K (.ref C_Door) "lines" = some none)
    (n_3_0 : PySem.W.findIn K (.ref C_Wrong) "line" = some none)
    (n_4_0 : PySem.W.findIn K (.ref C_Way) "accounts" = some none)
    (n_5_0 : PySem.W.findIn K (.ref C_Never) "boxes" = some none)
    (n_6_0 : PySem.W.findIn K (.ref C_Bars) "barred" = some none)
    (n_6_1 : PySem.W.findIn K (.ref C_Bars) "ways" = some none)
    (z_len : PySem.W.nsIn K mainGlobals "len" = some none)
    (z_list : PySem.W.nsIn K mainGlobals "list" = some none)
    (z_sorted : PySem.W.nsIn K mainGlobals "sorted" = some none)
    (z_set : PySem.W.nsIn K mainGlobals "set" = some none)
    (z_any : PySem.W.nsIn K mainGlobals "any" = some none)
    (z_all : PySem.W.nsIn K mainGlobals "all" = some none)
    (z_range : PySem.W.nsIn K mainGlobals "range" = some none)
    (z_enumerate : PySem.W.nsIn K mainGlobals "enumerate" = some none)
    (z_zip : PySem.W.nsIn K mainGlobals "zip" = some none)
    (z_isinstance : PySem.W.nsIn K mainGlobals "isinstance" = some none)
    (z_abs : PySem.W.nsIn K mainGlobals "abs" = some none)
    (z_int : PySem.W.nsIn K mainGlobals "int" = some none)
    (z_bool : PySem.W.nsIn K mainGlobals "bool" = some none)
    (z_str : PySem.W.nsIn K mainGlobals "str" = some none)
    (z_tuple : PySem.W.nsIn K mainGlobals "tuple" = some none)
    (g_MOST_ACCOUNTS_states : ∃ t, PySem.W.nsIn K mainGlobals "MOST_ACCOUNTS_states" = some (some (.int 4 t)))
    (g_LONGEST_LIFE : ∃ t, PySem.W.nsIn K mainGlobals "LONGEST_LIFE" = some (some (.int 5 t)))
    (g_MOST_TRIES : ∃ t, PySem.W.nsIn K mainGlobals "MOST_TRIES" = some (some (.int 4 t)))
    (g_MOST_BOXES : ∃ t, PySem.W.nsIn K mainGlobals "MOST_BOXES" = some (some (.int 8 t)))
    (g_MOST_AT_ONCE : ∃ t, PySem.W.nsIn K mainGlobals "MOST_AT_ONCE" = some (some (.int 3 t)))
    (g_MOST_ACCOUNTS_houses : ∃ t, PySem.W.nsIn K mainGlobals "MOST_ACCOUNTS_houses" = some (some (.int 6 t)))
    (g_LONGEST : ∃ t, PySem.W.nsIn K mainGlobals "LONGEST" = some (some (.int 40 t)))
    (b_KINDS : PySem.W.nsIn K mainGlobals "KINDS" = some (some (.ref A_KINDS)))
    (e_KINDS : K.lookup A_KINDS = some ⟨.type "tuple", td_KINDS, .seq #[.str "newest" tt_KINDS0, .str "any" tt_KINDS1] tn_KINDS, ts_KINDS⟩)
    (oi_Right : PySem.W.findIn K (.ref C_Right) "__init__" = some (some (.builtin "object.__init__")))
    (ihn : PySem.W.specialIn K (.builtin "object.__class__") "__get__" = some (some (.builtin "getset_descriptor.__get__")))
    (itk : PySem.W.takesIn K (.builtin "object.__class__") = some true)
    (ihc_2 : PySem.W.findIn K (.ref C_Right) "__class__" = some (some (.builtin "object.__class__")))
    (imr_2 : PySem.W.mroIn K C_Right (.type "object") = some true)
    (ik_2_4 : PySem.W.subIn K (.ref C_Right) (.ref C_Way) = some false)
    (low_2_4 : (C_Right == C_Way) = false)
    (ihc_3 : PySem.W.findIn K (.ref C_Wrong) "__class__" = some (some (.builtin "object.__class__")))
    (imr_3 : PySem.W.mroIn K C_Wrong (.type "object") = some true)
    (ik_3_2 : PySem.W.subIn K (.ref C_Wrong) (.ref C_Right) = some false)
    (low_3_2 : (C_Wrong == C_Right) = false)
    (ik_3_4 : PySem.W.subIn K (.ref C_Wrong) (.ref C_Way) = some false)
    (low_3_4 : (C_Wrong == C_Way) = false)
    (ihc_4 : PySem.W.findIn K (.ref C_Way) "__class__" = some (some (.builtin "object.__class__")))
    (imr_4 : PySem.W.mroIn K C_Way (.type "object") = some true)
    (ik_4_2 : PySem.W.subIn K (.ref C_Way) (.ref C_Right) = some false)
    (low_4_2 : (C_Way == C_Right) = false)
    (ihc_5 : PySem.W.findIn K (.ref C_Never) "__class__" = some (some (.builtin "object.__class__")))
    (imr_5 : PySem.W.mroIn K C_Never (.type "object") = some true)
    (ik_5_2 : PySem.W.subIn K (.ref C_Never) (.ref C_Right) = some false)
    (low_5_2 : (C_Never == C_Right) = false)
    (ik_5_4 : PySem.W.subIn K (.ref C_Never) (.ref C_Way) = some false)
    (low_5_4 : (C_Never == C_Way) = false)
    (g_c2 : ∃ x, PySem.W.clsIn K C_Right = some x)
    (ity_2 : PySem.W.typeIn K (.ref C_Right) = some (.type "type"))
    (g_c4 : ∃ x, PySem.W.clsIn K C_Way = some x)
    (ity_4 : PySem.W.typeIn K (.ref C_Way) = some (.type "type"))
    (b_FORMS : PySem.W.nsIn K mainGlobals "FORMS" = some (some (.ref A_FORMS)))
    (e_FORMS : K.lookup A_FORMS = some ⟨.type "dict", none, .dict #[⟨PyData.keyHash w.params "ask", .str "ask" tk_FORMS0, .int 2 tt_FORMS0⟩, ⟨PyData.keyHash w.params "bring", .str "bring" tk_FORMS1, .int 1 tt_FORMS1⟩, ⟨PyData.keyHash w.params "in", .str "in" tk_FORMS2, .int 2 tt_FORMS2⟩, ⟨PyData.keyHash w.params "wrong", .str "wrong" tk_FORMS3, .int 2 tt_FORMS3⟩, ⟨PyData.keyHash w.params "tick", .str "tick" tk_FORMS4, .int 0 tt_FORMS4⟩] tn_FORMS, #[]⟩)
    (low_FORMS : (A_FORMS == sysModules) = false)
    (m_FORMS0 : PySem.W.nsIn K A_FORMS "ask" = some (some (.int 2 tt_FORMS0)))
    (m_FORMS1 : PySem.W.nsIn K A_FORMS "bring" = some (some (.int 1 tt_FORMS1)))
    (m_FORMS2 : PySem.W.nsIn K A_FORMS "in" = some (some (.int 2 tt_FORMS2)))
    (m_FORMS3 : PySem.W.nsIn K A_FORMS "wrong" = some (some (.int 2 tt_FORMS3)))
    (m_FORMS4 : PySem.W.nsIn K A_FORMS "tick" = some (some (.int 0 tt_FORMS4)))
    : AtL l w K mg fa h := by
  have e := hfa.symm.trans (PySem.W.mg_of X G a60)
  cases e
  obtain ⟨cls, hcls⟩ : ∃ cls : Nat → Addr, cls = (fun n => if n = 0 then C_State else if n = 1 then C_Door else if n = 2 then C_Right else if n = 3 then C_Wrong else if n = 4 then C_Way else if n = 5 then C_Never else if n = 6 then C_Bars else 0) := ⟨_, rfl⟩
  have e_State : cls 0 = C_State := by rw [hcls] <;> rfl
  have e_Door : cls 1 = C_Door := by rw [hcls] <;> rfl
  have e_Right : cls 2 = C_Right := by rw [hcls] <;> rfl
  have e_Wrong : cls 3 = C_Wrong := by rw [hcls] <;> rfl
  have e_Way : cls 4 = C_Way := by rw [hcls] <;> rfl
  have e_Never : cls 5 = C_Never := by rw [hcls] <;> rfl
  have e_Bars : cls 6 = C_Bars := by rw [hcls] <;> rfl
  have L_State : Cls K (cls 0) := by rw [e_State]; exact ⟨pg_State, hd_State, po_State, sa_State⟩
  have L_Door : Cls K (cls 1) := by rw [e_Door]; exact ⟨pg_Door, hd_Door, po_Door, sa_Door⟩
  have L_Right : Cls K (cls 2) := by rw [e_Right]; exact ⟨pg_Right, hd_Right, po_Right, sa_Right⟩
  have L_Wrong : Cls K (cls 3) := by rw [e_Wrong]; exact ⟨pg_Wrong, hd_Wrong, po_Wrong, sa_Wrong⟩
  have L_Way : Cls K (cls 4) := by rw [e_Way]; exact ⟨pg_Way, hd_Way, po_Way, sa_Way⟩
  have L_Never : Cls K (cls 5) := by rw [e_Never]; exact ⟨pg_Never, hd_Never, po_Never, sa_Never⟩
  have L_Bars : Cls K (cls 6) := by rw [e_Bars]; exact ⟨pg_Bars, hd_Bars, po_Bars, sa_Bars⟩
  have TIj : ∀ j ∈ ([2, 3, 4, 5] : List Nat), Cls K (cls j) ∧ PySem.W.findIn K (.ref (cls j)) "__class__" = some (some (.builtin "object.__class__")) ∧ PySem.W.mroIn K (cls j) (.type "object") = some true := by
    intro j hj
    simp only [List.mem_cons, List.not_mem_nil, or_false] at hj
    rcases hj with e | e | e | e
    · subst e
      exact ⟨L_Right, by rw [e_Right]; exact ihc_2, by rw [e_Right]; exact imr_2⟩
    · subst e
      exact ⟨L_Wrong, by rw [e_Wrong]; exact ihc_3, by rw [e_Wrong]; exact imr_3⟩
    · subst e
      exact ⟨L_Way, by rw [e_Way]; exact ihc_4, by rw [e_Way]; exact imr_4⟩
    · subst e
      exact ⟨L_Never, by rw [e_Never]; exact ihc_5, by rw [e_Never]; exact imr_5⟩
  have TI : InsT K cls [2, 3, 4, 5] := ⟨TIj, ihn, itk⟩
  have TCj_Right : ∀ j ∈ ([2, 3, 4, 5] : List Nat), PySem.W.kitOne K (.ref (cls j)) (.ref (cls 2)) = some (subC j 2) := by
    intro j hj
    simp only [List.mem_cons, List.not_mem_nil, or_false] at hj
    rcases hj with e | e | e | e
    · subst e
      letI : Gam := gam0 []; exact kit_self
    · subst e
      letI : Gam := gam0 []; rw [e_Wrong, e_Right]; exact kit_own low_3_2 g_c2 ity_2 ik_3_2
    · subst e
      letI : Gam := gam0 []; rw [e_Way, e_Right]; exact kit_own low_4_2 g_c2 ity_2 ik_4_2
    · subst e
      letI : Gam := gam0 []; rw [e_Never, e_Right]; exact kit_own low_5_2 g_c2 ity_2 ik_5_2
  have TC_Right : IsC K mg cls "Right" [2, 3, 4, 5] 2 := ⟨by rw [e_Right]; exact PySem.W.mg_of X G aC_Right, TCj_Right⟩
  have TCj_Way : ∀ j ∈ ([2, 3, 4, 5] : List Nat), PySem.W.kitOne K (.ref (cls j)) (.ref (cls 4)) = some (subC j 4) := by
    intro j hj
    simp only [List.mem_cons, List.not_mem_nil, or_false] at hj
    rcases hj with e | e | e | e
    · subst e
      letI : Gam := gam0 []; rw [e_Right, e_Way]; exact kit_own low_2_4 g_c4 ity_4 ik_2_4
    · subst e
      letI : Gam := gam0 []; rw [e_Wrong, e_Way]; exact kit_own low_3_4 g_c4 ity_4 ik_3_4
    · subst e
      letI : Gam := gam0 []; exact kit_self
    · subst e
      letI : Gam := gam0 []; rw [e_Never, e_Way]; exact kit_own low_5_4 g_c4 ity_4 ik_5_4
  have TC_Way : IsC K mg cls "Way" [2, 3, 4, 5] 4 := ⟨by rw [e_Way]; exact PySem.W.mg_of X G aC_Way, TCj_Way⟩
  have TK_FORMS : KTab K w mg "FORMS" [("ask", 2), ("bring", 1), ("in", 2), ("wrong", 2), ("tick", 0)] := ⟨A_FORMS, _, _, PySem.W.mg_of X G b_FORMS, ⟨e_FORMS, ⟨⟨_, _, rfl, rfl⟩, ⟨_, _, rfl, rfl⟩, ⟨_, _, rfl, rfl⟩, ⟨_, _, rfl, rfl⟩, ⟨_, _, rfl, rfl⟩, trivial⟩, low_FORMS⟩, fun z i hz => by
      simp only [List.mem_cons, List.not_mem_nil, or_false, Prod.mk.injEq] at hz
      rcases hz with ⟨e1, e2⟩ | ⟨e1, e2⟩ | ⟨e1, e2⟩ | ⟨e1, e2⟩ | ⟨e1, e2⟩
      · subst e1; subst e2; exact ⟨_, m_FORMS0⟩
      · subst e1; subst e2; exact ⟨_, m_FORMS1⟩
      · subst e1; subst e2; exact ⟨_, m_FORMS2⟩
      · subst e1; subst e2; exact ⟨_, m_FORMS3⟩
      · subst e1; subst e2; exact ⟨_, m_FORMS4⟩⟩
  have k_Right : Mk0 K mg "Right" (cls 2) := by rw [e_Right]; exact ⟨PySem.W.mg_of X G aC_Right, mk_Right, oi_Right, kc_Right⟩
  have T : ∀ g : Gam, @Tx g K w mg cls := fun g => by
    letI := g
    exact ⟨⟨PySem.W.mg_none_of X G z_len, PySem.W.mg_none_of X G z_list, PySem.W.mg_none_of X G z_sorted, PySem.W.mg_none_of X G z_set, PySem.W.mg_none_of X G z_any, PySem.W.mg_none_of X G z_all, PySem.W.mg_none_of X G z_range, PySem.W.mg_none_of X G z_enumerate, PySem.W.mg_none_of X G z_zip, PySem.W.mg_none_of X G z_isinstance, PySem.W.mg_none_of X G z_abs, PySem.W.mg_none_of X G z_int, PySem.W.mg_none_of X G z_bool, PySem.W.mg_none_of X G z_str, PySem.W.mg_none_of X G z_tuple⟩, ⟨L_State, by show PySem.W.findIn K (.ref (cls 0)) _ = _; rw [e_State]; exact n_0_0, by decide +kernel, rfl⟩, ⟨L_State, by show PySem.W.findIn K (.ref (cls 0)) _ = _; rw [e_State]; exact n_0_1, by decide +kernel, rfl⟩, ⟨L_State, by show PySem.W.findIn K (.ref (cls 0)) _ = _; rw [e_State]; exact n_0_2, by decide +kernel, rfl⟩, ⟨L_State, by show PySem.W.findIn K (.ref (cls 0)) _ = _; rw [e_State]; exact n_0_3, by decide +kernel, rfl⟩, ⟨L_State, by show PySem.W.findIn K (.ref (cls 0)) _ = _; rw [e_State]; exact n_0_4, by decide +kernel, rfl⟩, ⟨L_State, by show PySem.W.findIn K (.ref (cls 0)) _ = _; rw [e_State]; exact n_0_5, by decide +kernel, rfl⟩, ⟨L_State, by show PySem.W.findIn K (.ref (cls 0)) _ = _; rw [e_State]; exact n_0_6, by decide +kernel, rfl⟩, ⟨L_State, by show PySem.W.findIn K (.ref (cls 0)) _ = _; rw [e_State]; exact n_0_7, by decide +kernel, rfl⟩, ⟨L_Door, by show PySem.W.findIn K (.ref (cls 1)) _ = _; rw [e_Door]; exact n_1_0, by decide +kernel, rfl⟩, ⟨L_Door, by show PySem.W.findIn K (.ref (cls 1)) _ = _; rw [e_Door]; exact n_1_1, by decide +kernel, rfl⟩, ⟨L_Wrong, by show PySem.W.findIn K (.ref (cls 3)) _ = _; rw [e_Wrong]; exact n_3_0, by decide +kernel, rfl⟩, ⟨L_Way, by show PySem.W.findIn K (.ref (cls 4)) _ = _; rw [e_Way]; exact n_4_0, by decide +kernel, rfl⟩, ⟨L_Never, by show PySem.W.findIn K (.ref (cls 5)) _ = _; rw [e_Never]; exact n_5_0, by decide +kernel, rfl⟩, ⟨L_Bars, by show PySem.W.findIn K (.ref (cls 6)) _ = _; rw [e_Bars]; exact n_6_0, by decide +kernel, rfl⟩, ⟨L_Bars, by show PySem.W.findIn K (.ref (cls 6)) _ = _; rw [e_Bars]; exact n_6_1, by decide +kernel, rfl⟩, g_MOST_ACCOUNTS_states.imp fun t ht => PySem.W.mg_of X G ht, g_LONGEST_LIFE.imp fun t ht => PySem.W.mg_of X G ht, g_MOST_TRIES.imp fun t ht => PySem.W.mg_of X G ht, g_MOST_BOXES.imp fun t ht => PySem.W.mg_of X G ht, g_MOST_AT_ONCE.imp fun t ht => PySem.W.mg_of X G ht, g_MOST_ACCOUNTS_houses.imp fun t ht => PySem.W.mg_of X G ht, g_LONGEST.imp fun t ht => PySem.W.mg_of X G ht, ⟨_, PySem.W.mg_of X G b_KINDS, fun _ _ _ => .tup (.inr ⟨fun H' => .inr ⟨_, _, _, e_KINDS, rfl, rfl, Nat.le_of_ble_eq_true rfl, .cons (a := V.str "newest") ⟨_, rfl⟩ (.cons (a := V.str "any") ⟨_, rfl⟩ (.nil))⟩, rfl⟩) (.cons (.str "newest") (.cons (.str "any") (.nil)))⟩, TI, TC_Right, TC_Way, TK_FORMS⟩
  have F0 := fun_mk (st := s_is_whole) l0 c0 k0
  have F1 := fun_mk (st := s_is_between) l1 c1 k1
  have F2 := fun_mk (st := s_are_rising) l2 c2 k2
  have F3 := fun_mk (st := s_are_boxes) l3 c3 k3
  have F4 := fun_mk (st := s_is_account) l4 c4 k4
  have F5 := fun_mk (st := s_check_house) l5 c5 k5
  have F6 := fun_mk (st := s_check_boxes) l6 c6 k6
  have F7 := fun_mk (st := s_check_wanted) l7 c7 k7
  have F8 := fun_mk (st := s_come_to) l8 c8 k8
  have F9 := fun_mk (st := s_Never___init__) l9 c9 k9
  have F10 := fun_mk (st := s_Way___init__) l10 c10 k10
  have F11 := fun_mk (st := s_way_in) l11 c11 k11
  have F12 := fun_mk (st := s__law_deep) l12 c12 k12
  have F13 := fun_mk (st := s_Way_shows) l13 c13 k13
  have F14 := fun_mk (st := s_Never_shows) l14 c14 k14
  have F15 := fun_mk (st := s__law_way) l15 c15 k15
  have F16 := fun_mk (st := s_met_from) l16 c16 k16
  have F17 := fun_mk (st := s_used_edges) l17 c17 k17
  have F18 := fun_mk (st := s_next_boxes) l18 c18 k18
  have F19 := fun_mk (st := s_edges_of) l19 c19 k19
  have F20 := fun_mk (st := s_Bars___init__) l20 c20 k20
  have F21 := fun_mk (st := s_led_on) l21 c21 k21
  have F22 := fun_mk (st := s_bars) l22 c22 k22
  have F23 := fun_mk (st := s_is_way) l23 c23 k23
  have F24 := fun_mk (st := s_Bars_shows) l24 c24 k24
  have F25 := fun_mk (st := s__law_bars) l25 c25 k25
  have F26 := fun_mk (st := s__law_two) l26 c26 k26
  have F27 := fun_mk (st := s_inside) l27 c27 k27
  have F28 := fun_mk (st := s_many_bars) l28 c28 k28
  have F29 := fun_mk (st := s_check_settings) l29 c29 k29
  have F30 := fun_mk (st := s_is_line) l30 c30 k30
  have F31 := fun_mk (st := s_State___init__) l31 c31 k31
  have F32 := fun_mk (st := s_State_brought) l32 c32 k32
  have F33 := fun_mk (st := s_State_asked) l33 c33 k33
  have F34 := fun_mk (st := s_State_newest) l34 c34 k34
  have F35 := fun_mk (st := s_State_is_good) l35 c35 k35
  have F36 := fun_mk (st := s_State_tried) l36 c36 k36
  have F37 := fun_mk (st := s_can_come) l37 c37 k37
  have F38 := fun_mk (st := s_wrong_of) l38 c38 k38
  have F39 := fun_mk (st := s_Wrong___init__) l39 c39 k39
  have F40 := fun_mk (st := s_judged) l40 c40 k40
  have F41 := fun_mk (st := s__law_judged) l41 c41 k41
  have F42 := fun_mk (st := s_Right_shows) l42 c42 k42
  have F43 := fun_mk (st := s_Wrong_shows) l43 c43 k43
  have F44 := fun_mk (st := s_Door___init__) l44 c44 k44
  have F45 := fun_mk (st := s_Door_check_account) l45 c45 k45
  have F46 := fun_mk (st := s_Door_ask) l46 c46 k46
  have F47 := fun_mk (st := s_State_good_ones) l47 c47 k47
  have F48 := fun_mk (st := s_Door_open_to) l48 c48 k48
  have F49 := fun_mk (st := s_Door_box) l49 c49 k49
  have F50 := fun_mk (st := s_Door_good) l50 c50 k50
  have F51 := fun_mk (st := s_Door_tale) l51 c51 k51
  have F52 := fun_mk (st := s__law_open) l52 c52 k52
  have F53 := fun_mk (st := s__law_cell_at) l53 c53 k53
  have F54 := fun_mk (st := s__law_draw) l54 c54 k54
  have F55 := fun_mk (st := s__law_number) l55 c55 k55
  have F56 := fun_mk (st := s__law_spoilt) l56 c56 k56
  have F57 := fun_mk (st := s__law_put) l57 c57 k57
  have F58 := fun_mk (st := s__law_door_right) l58 c58 k58
  have F59 := fun_mk (st := s__law_doors_right) l59 c59 k59
  have F60 := fun_mk (st := s_law) l60 c60 k60
  have R : ∀ (g : Gam) (base : Heap), @Rx g l.prog w K mg base cls := fun g base => by
    letI := g
    have T := T g
    have O0 : FnOk l.prog w K mg base CX0 2 f0 _ ["thing"] (spM K cls m_is_whole) := ok_is_whole F0 T 
    have c_is_whole : C8.Cal l.prog w K mg base 2 "is_whole" (spM K cls m_is_whole) [] := ⟨f0, _, _, [], O0, PySem.W.mg_of X G a0, k0, (F0.binds (ps := ["thing"]) fun _ _ _ _ _ _ us hl => match us, hl with | [_], _ => rfl), .nil⟩
    have O1 : FnOk l.prog w K mg base CX0 3 f1 _ ["thing", "least", "most"] (spM K cls m_is_between) := ok_is_between F1 T c_is_whole
    have c_is_between : C8.Cal l.prog w K mg base 3 "is_between" (spM K cls m_is_between) [] := ⟨f1, _, _, [], O1, PySem.W.mg_of X G a1, k1, (F1.binds (ps := ["thing", "least", "most"]) fun _ _ _ _ _ _ us hl => match us, hl with | [_, _, _], _ => rfl), .nil⟩
    have O2 : FnOk l.prog w K mg base CX0 2 f2 _ ["line"] (spM K cls m_are_rising) := ok_are_rising F2 T 
    have c_are_rising : C8.Cal l.prog w K mg base 2 "are_rising" (spM K cls m_are_rising) [] := ⟨f2, _, _, [], O2, PySem.W.mg_of X G a2, k2, (F2.binds (ps := ["line"]) fun _ _ _ _ _ _ us hl => match us, hl with | [_], _ => rfl), .nil⟩
    have O3 : FnOk l.prog w K mg base CX0 4 f3 _ ["thing", "most"] (spM K cls m_are_boxes) := ok_are_boxes F3 T c_is_between c_are_rising
    have c_are_boxes : C8.Cal l.prog w K mg base 4 "are_boxes" (spM K cls m_are_boxes) [] := ⟨f3, _, _, [], O3, PySem.W.mg_of X G a3, k3, (F3.binds (ps := ["thing", "most"]) fun _ _ _ _ _ _ us hl => match us, hl with | [_, _], _ => rfl), .nil⟩
    have O4 : FnOk l.prog w K mg base CX0 5 f4 _ ["thing"] (spM K cls m_is_account) := ok_is_account F4 T c_are_boxes
    have c_is_account : C8.Cal l.prog w K mg base 5 "is_account" (spM K cls m_is_account) [] := ⟨f4, _, _, [], O4, PySem.W.mg_of X G a4, k4, (F4.binds (ps := ["thing"]) fun _ _ _ _ _ _ us hl => match us, hl with | [_], _ => rfl), .nil⟩
    have O5 : FnOk l.prog w K mg base CX0 6 f5 _ ["house"] (spM K cls m_check_house) := ok_check_house F5 T c_is_account
    have c_check_house : C8.Cal l.prog w K mg base 6 "check_house" (spM K cls m_check_house) [] := ⟨f5, _, _, [], O5, PySem.W.mg_of X G a5, k5, (F5.binds (ps := ["house"]) fun _ _ _ _ _ _ us hl => match us, hl with | [_], _ => rfl), .nil⟩
    have O6 : FnOk l.prog w K mg base CX0 5 f6 _ ["boxes"] (spM K cls m_check_boxes) := ok_check_boxes F6 T c_are_boxes
    have c_check_boxes : C8.Cal l.prog w K mg base 5 "check_boxes" (spM K cls m_check_boxes) [] := ⟨f6, _, _, [], O6, PySem.W.mg_of X G a6, k6, (F6.binds (ps := ["boxes"]) fun _ _ _ _ _ _ us hl => match us, hl with | [_], _ => rfl), .nil⟩
    have O7 : FnOk l.prog w K mg base CX0 4 f7 _ ["house", "account"] (spM K cls m_check_wanted) := ok_check_wanted F7 T c_is_between
    have c_check_wanted : C8.Cal l.prog w K mg base 4 "check_wanted" (spM K cls m_check_wanted) [] := ⟨f7, _, _, [], O7, PySem.W.mg_of X G a7, k7, (F7.binds (ps := ["house", "account"]) fun _ _ _ _ _ _ us hl => match us, hl with | [_, _], _ => rfl), .nil⟩
    have O8 : FnOk l.prog w K mg base CX0 2 f8 _ ["house", "boxes", "barred"] (spM K cls m_come_to) := ok_come_to F8 T 
    have c_come_to : C8.Cal l.prog w K mg base 2 "come_to" (spM K cls m_come_to) [] := ⟨f8, _, _, [], O8, PySem.W.mg_of X G a8, k8, (F8.binds (ps := ["house", "boxes", "barred"]) fun _ _ _ _ _ _ us hl => match us, hl with | [_, _, _], _ => rfl), .nil⟩
    have O9 : FnOk l.prog w K mg base CX0 2 f9 _ ["self", "boxes"] (spM K cls m_Never___init__) := ok_Never___init__ F9 T 
    have k_Never : C8.Mak l.prog w K mg base 2 "Never" (cls 5) (spM K cls m_Never___init__) [] := by rw [e_Never]; exact ⟨f9, _, _, [], ⟨mk_Never, a9, i9, kc_Never⟩, O9, PySem.W.mg_of X G aC_Never, (F9.binds (ps := ["self", "boxes"]) fun _ _ _ _ _ _ us hl => match us, hl with | [_, _], _ => rfl), .nil⟩
    have O10 : FnOk l.prog w K mg base CX0 2 f10 _ ["self", "accounts"] (spM K cls m_Way___init__) := ok_Way___init__ F10 T 
    have k_Way : C8.Mak l.prog w K mg base 2 "Way" (cls 4) (spM K cls m_Way___init__) [] := by rw [e_Way]; exact ⟨f10, _, _, [], ⟨mk_Way, a10, i10, kc_Way⟩, O10, PySem.W.mg_of X G aC_Way, (F10.binds (ps := ["self", "accounts"]) fun _ _ _ _ _ _ us hl => match us, hl with | [_, _], _ => rfl), .nil⟩
    have O11 : FnOk l.prog w K mg base CX0 7 f11 _ ["house", "boxes", "account"] (spM K cls m_way_in) := ok_way_in F11 T c_check_house c_check_boxes c_check_wanted c_come_to k_Never k_Way
    have c_way_in : C8.Cal l.prog w K mg base 7 "way_in" (spM K cls m_way_in) [] := ⟨f11, _, _, [], O11, PySem.W.mg_of X G a11, k11, (F11.binds (ps := ["house", "boxes", "account"]) fun _ _ _ _ _ _ us hl => match us, hl with | [_, _, _], _ => rfl), .nil⟩
    have c__law_deep_ : ∀ n, C8.Cal l.prog w K mg base (n + 1) "_law_deep" (spM K cls (m__law_deep_ n)) [] := fun n => by
      induction n with
      | zero => exact ⟨f12, _, _, [], fnOk_none, PySem.W.mg_of X G a12, k12, (F12.binds (ps := ["_law_thing"]) fun _ _ _ _ _ _ us hl => match us, hl with | [_], _ => rfl), .nil⟩
      | succ n ih => exact ⟨f12, _, _, [], ok__law_deep F12 T ih , PySem.W.mg_of X G a12, k12, (F12.binds (ps := ["_law_thing"]) fun _ _ _ _ _ _ us hl => match us, hl with | [_], _ => rfl), .nil⟩
    have c__law_deep : C8.Cal l.prog w K mg base 7 "_law_deep" (spM K cls m__law_deep) [] := c__law_deep_ 6
    have O13 : FnOk l.prog w K mg base CX0 2 f13 _ ["self", "house", "boxes", "account"] (spM K cls m_Way_shows) := ok_Way_shows F13 T 
    have t_Way_shows : C8.Met l.prog w K mg base 2 (cls 4) "shows" (spM K cls m_Way_shows) [] := ⟨f13, _, _, [], L_Way, by rw [e_Way]; exact ⟨a13, i13, k13⟩, O13, (F13.binds (ps := ["self", "house", "boxes", "account"]) fun _ _ _ _ _ _ us hl => match us, hl with | [_, _, _, _], _ => rfl), .nil⟩
    have O14 : FnOk l.prog w K mg base CX0 2 f14 _ ["self", "house", "boxes", "account"] (spM K cls m_Never_shows) := ok_Never_shows F14 T 
    have t_Never_shows : C8.Met l.prog w K mg base 2 (cls 5) "shows" (spM K cls m_Never_shows) [] := ⟨f14, _, _, [], L_Never, by rw [e_Never]; exact ⟨a14, i14, k14⟩, O14, (F14.binds (ps := ["self", "house", "boxes", "account"]) fun _ _ _ _ _ _ us hl => match us, hl with | [_, _, _, _], _ => rfl), .nil⟩
    have O15 : FnOk l.prog w K mg base CX0 8 f15 _ ["_law_house", "_law_boxes", "_law_account"] (spM K cls m__law_way) := ok__law_way F15 T c_way_in c__law_deep t_Way_shows t_Never_shows
    have c__law_way : C8.Cal l.prog w K mg base 8 "_law_way" (spM K cls m__law_way) [] := ⟨f15, _, _, [], O15, PySem.W.mg_of X G a15, k15, (F15.binds (ps := ["_law_house", "_law_boxes", "_law_account"]) fun _ _ _ _ _ _ us hl => match us, hl with | [_, _, _], _ => rfl), .nil⟩
    have O16 : FnOk l.prog w K mg base CX0 2 f16 _ ["edges", "used"] (spM K cls m_met_from) := ok_met_from F16 T 
    have c_met_from : C8.Cal l.prog w K mg base 2 "met_from" (spM K cls m_met_from) [] := ⟨f16, _, _, [], O16, PySem.W.mg_of X G a16, k16, (F16.binds (ps := ["edges", "used"]) fun _ _ _ _ _ _ us hl => match us, hl with | [_, _], _ => rfl), .nil⟩
    have O17 : FnOk l.prog w K mg base CX0 3 f17 _ ["edges"] (spM K cls m_used_edges) := ok_used_edges F17 T c_met_from
    have c_used_edges : C8.Cal l.prog w K mg base 3 "used_edges" (spM K cls m_used_edges) [] := ⟨f17, _, _, [], O17, PySem.W.mg_of X G a17, k17, (F17.binds (ps := ["edges"]) fun _ _ _ _ _ _ us hl => match us, hl with | [_], _ => rfl), .nil⟩
    have O18 : FnOk l.prog w K mg base CX0 2 f18 _ ["house", "box"] (spM K cls m_next_boxes) := ok_next_boxes F18 T 
    have c_next_boxes : C8.Cal l.prog w K mg base 2 "next_boxes" (spM K cls m_next_boxes) [] := ⟨f18, _, _, [], O18, PySem.W.mg_of X G a18, k18, (F18.binds (ps := ["house", "box"]) fun _ _ _ _ _ _ us hl => match us, hl with | [_, _], _ => rfl), .nil⟩
    have O19 : FnOk l.prog w K mg base CX0 3 f19 _ ["house", "boxes", "account"] (spM K cls m_edges_of) := ok_edges_of F19 T c_next_boxes
    have c_edges_of : C8.Cal l.prog w K mg base 3 "edges_of" (spM K cls m_edges_of) [] := ⟨f19, _, _, [], O19, PySem.W.mg_of X G a19, k19, (F19.binds (ps := ["house", "boxes", "account"]) fun _ _ _ _ _ _ us hl => match us, hl with | [_, _, _], _ => rfl), .nil⟩
    have O20 : FnOk l.prog w K mg base CX0 2 f20 _ ["self", "barred", "ways"] (spM K cls m_Bars___init__) := ok_Bars___init__ F20 T 
    have k_Bars : C8.Mak l.prog w K mg base 2 "Bars" (cls 6) (spM K cls m_Bars___init__) [] := by rw [e_Bars]; exact ⟨f20, _, _, [], ⟨mk_Bars, a20, i20, kc_Bars⟩, O20, PySem.W.mg_of X G aC_Bars, (F20.binds (ps := ["self", "barred", "ways"]) fun _ _ _ _ _ _ us hl => match us, hl with | [_, _, _], _ => rfl), .nil⟩
    have O21 : FnOk l.prog w K mg base CX0 2 f21 _ ["used", "box"] (spM K cls m_led_on) := ok_led_on F21 T 
    have c_led_on : C8.Cal l.prog w K mg base 2 "led_on" (spM K cls m_led_on) [] := ⟨f21, _, _, [], O21, PySem.W.mg_of X G a21, k21, (F21.binds (ps := ["used", "box"]) fun _ _ _ _ _ _ us hl => match us, hl with | [_, _], _ => rfl), .nil⟩
    have O22 : FnOk l.prog w K mg base CX0 7 f22 _ ["house", "boxes", "account"] (spM K cls m_bars) := ok_bars F22 T c_check_house c_check_boxes c_check_wanted c_used_edges c_edges_of k_Bars c_led_on
    have c_bars : C8.Cal l.prog w K mg base 7 "bars" (spM K cls m_bars) [] := ⟨f22, _, _, [], O22, PySem.W.mg_of X G a22, k22, (F22.binds (ps := ["house", "boxes", "account"]) fun _ _ _ _ _ _ us hl => match us, hl with | [_, _, _], _ => rfl), .nil⟩
    have O23 : FnOk l.prog w K mg base CX0 2 f23 _ ["house", "boxes", "account", "way"] (spM K cls m_is_way) := ok_is_way F23 T 
    have c_is_way : C8.Cal l.prog w K mg base 2 "is_way" (spM K cls m_is_way) [] := ⟨f23, _, _, [], O23, PySem.W.mg_of X G a23, k23, (F23.binds (ps := ["house", "boxes", "account", "way"]) fun _ _ _ _ _ _ us hl => match us, hl with | [_, _, _, _], _ => rfl), .nil⟩
    have O24 : FnOk l.prog w K mg base CX0 3 f24 _ ["self", "house", "boxes", "account"] (spM K cls m_Bars_shows) := ok_Bars_shows F24 T c_is_way c_come_to
    have t_Bars_shows : C8.Met l.prog w K mg base 3 (cls 6) "shows" (spM K cls m_Bars_shows) [] := ⟨f24, _, _, [], L_Bars, by rw [e_Bars]; exact ⟨a24, i24, k24⟩, O24, (F24.binds (ps := ["self", "house", "boxes", "account"]) fun _ _ _ _ _ _ us hl => match us, hl with | [_, _, _, _], _ => rfl), .nil⟩
    have O25 : FnOk l.prog w K mg base CX0 8 f25 _ ["_law_house", "_law_boxes", "_law_account"] (spM K cls m__law_bars) := ok__law_bars F25 T c_bars c__law_deep t_Bars_shows
    have c__law_bars : C8.Cal l.prog w K mg base 8 "_law_bars" (spM K cls m__law_bars) [] := ⟨f25, _, _, [], O25, PySem.W.mg_of X G a25, k25, (F25.binds (ps := ["_law_house", "_law_boxes", "_law_account"]) fun _ _ _ _ _ _ us hl => match us, hl with | [_, _, _], _ => rfl), .nil⟩
    have O26 : FnOk l.prog w K mg base CX0 2 f26 _ ["_law_found"] (spM K cls m__law_two) := ok__law_two F26 T 
    have c__law_two : C8.Cal l.prog w K mg base 2 "_law_two" (spM K cls m__law_two) [] := ⟨f26, _, _, [], O26, PySem.W.mg_of X G a26, k26, (F26.binds (ps := ["_law_found"]) fun _ _ _ _ _ _ us hl => match us, hl with | [_], _ => rfl), .nil⟩
    have O27 : FnOk l.prog w K mg base CX0 7 f27 _ ["house", "boxes"] (spM K cls m_inside) := ok_inside F27 T c_check_house c_check_boxes c_come_to
    have c_inside : C8.Cal l.prog w K mg base 7 "inside" (spM K cls m_inside) [] := ⟨f27, _, _, [], O27, PySem.W.mg_of X G a27, k27, (F27.binds (ps := ["house", "boxes"]) fun _ _ _ _ _ _ us hl => match us, hl with | [_, _], _ => rfl), .nil⟩
    have O28 : FnOk l.prog w K mg base CX0 8 f28 _ ["house", "boxes", "account"] (spM K cls m_many_bars) := ok_many_bars F28 T c_bars
    have c_many_bars : C8.Cal l.prog w K mg base 8 "many_bars" (spM K cls m_many_bars) [] := ⟨f28, _, _, [], O28, PySem.W.mg_of X G a28, k28, (F28.binds (ps := ["house", "boxes", "account"]) fun _ _ _ _ _ _ us hl => match us, hl with | [_, _, _], _ => rfl), .nil⟩
    have O29 : FnOk l.prog w K mg base CX0 4 f29 _ ["many", "kind", "life", "tries"] (spM K cls m_check_settings) := ok_check_settings F29 T c_is_between
    have c_check_settings : C8.Cal l.prog w K mg base 4 "check_settings" (spM K cls m_check_settings) [] := ⟨f29, _, _, [], O29, PySem.W.mg_of X G a29, k29, (F29.binds (ps := ["many", "kind", "life", "tries"]) fun _ _ _ _ _ _ us hl => match us, hl with | [_, _, _, _], _ => rfl), .nil⟩
    have O30 : FnOk l.prog w K mg base CX0 3 f30 _ ["thing"] (spM K cls m_is_line) := ok_is_line F30 T c_is_whole
    have c_is_line : C8.Cal l.prog w K mg base 3 "is_line" (spM K cls m_is_line) [] := ⟨f30, _, _, [], O30, PySem.W.mg_of X G a30, k30, (F30.binds (ps := ["thing"]) fun _ _ _ _ _ _ us hl => match us, hl with | [_], _ => rfl), .nil⟩
    have O31 : FnOk l.prog w K mg base CX0 2 f31 _ ["self", "many", "kind", "life", "tries"] (spM K cls m_State___init__) := ok_State___init__ F31 T 
    have k_State : C8.Mak l.prog w K mg base 2 "State" (cls 0) (spM K cls m_State___init__) [] := by rw [e_State]; exact ⟨f31, _, _, [], ⟨mk_State, a31, i31, kc_State⟩, O31, PySem.W.mg_of X G aC_State, (F31.binds (ps := ["self", "many", "kind", "life", "tries"]) fun _ _ _ _ _ _ us hl => match us, hl with | [_, _, _, _, _], _ => rfl), .nil⟩
    have O32 : FnOk l.prog w K mg base CX0 2 f32 _ ["self", "letter"] (spM K cls m_State_brought) := ok_State_brought F32 T 
    have t_State_brought : C8.Met l.prog w K mg base 2 (cls 0) "brought" (spM K cls m_State_brought) [] := ⟨f32, _, _, [], L_State, by rw [e_State]; exact ⟨a32, i32, k32⟩, O32, (F32.binds (ps := ["self", "letter"]) fun _ _ _ _ _ _ us hl => match us, hl with | [_, _], _ => rfl), .nil⟩
    have O33 : FnOk l.prog w K mg base CX0 2 f33 _ ["self", "account"] (spM K cls m_State_asked) := ok_State_asked F33 T 
    have t_State_asked : C8.Met l.prog w K mg base 2 (cls 0) "asked" (spM K cls m_State_asked) [] := ⟨f33, _, _, [], L_State, by rw [e_State]; exact ⟨a33, i33, k33⟩, O33, (F33.binds (ps := ["self", "account"]) fun _ _ _ _ _ _ us hl => match us, hl with | [_, _], _ => rfl), .nil⟩
    have O34 : FnOk l.prog w K mg base CX0 2 f34 _ ["self", "account"] (spM K cls m_State_newest) := ok_State_newest F34 T 
    have t_State_newest : C8.Met l.prog w K mg base 2 (cls 0) "newest" (spM K cls m_State_newest) [] := ⟨f34, _, _, [], L_State, by rw [e_State]; exact ⟨a34, i34, k34⟩, O34, (F34.binds (ps := ["self", "account"]) fun _ _ _ _ _ _ us hl => match us, hl with | [_, _], _ => rfl), .nil⟩
    have O35 : FnOk l.prog w K mg base CX0 3 f35 _ ["self", "account", "number"] (spM K cls m_State_is_good) := ok_State_is_good F35 T t_State_newest
    have t_State_is_good : C8.Met l.prog w K mg base 3 (cls 0) "is_good" (spM K cls m_State_is_good) [] := ⟨f35, _, _, [], L_State, by rw [e_State]; exact ⟨a35, i35, k35⟩, O35, (F35.binds (ps := ["self", "account", "number"]) fun _ _ _ _ _ _ us hl => match us, hl with | [_, _, _], _ => rfl), .nil⟩
    have O36 : FnOk l.prog w K mg base CX0 4 f36 _ ["self", "account", "number"] (spM K cls m_State_tried) := ok_State_tried F36 T t_State_is_good
    have t_State_tried : C8.Met l.prog w K mg base 4 (cls 0) "tried" (spM K cls m_State_tried) [] := ⟨f36, _, _, [], L_State, by rw [e_State]; exact ⟨a36, i36, k36⟩, O36, (F36.binds (ps := ["self", "account", "number"]) fun _ _ _ _ _ _ us hl => match us, hl with | [_, _, _], _ => rfl), .nil⟩
    have O37 : FnOk l.prog w K mg base CX0 5 f37 _ ["state", "line"] (spM K cls m_can_come) := ok_can_come F37 T t_State_brought t_State_asked t_State_tried
    have c_can_come : C8.Cal l.prog w K mg base 5 "can_come" (spM K cls m_can_come) [] := ⟨f37, _, _, [], O37, PySem.W.mg_of X G a37, k37, (F37.binds (ps := ["state", "line"]) fun _ _ _ _ _ _ us hl => match us, hl with | [_, _], _ => rfl), .nil⟩
    have O38 : FnOk l.prog w K mg base CX0 6 f38 _ ["many", "kind", "life", "tries", "tale"] (spM K cls m_wrong_of) := ok_wrong_of F38 T k_State c_can_come
    have c_wrong_of : C8.Cal l.prog w K mg base 6 "wrong_of" (spM K cls m_wrong_of) [] := ⟨f38, _, _, [], O38, PySem.W.mg_of X G a38, k38, (F38.binds (ps := ["many", "kind", "life", "tries", "tale"]) fun _ _ _ _ _ _ us hl => match us, hl with | [_, _, _, _, _], _ => rfl), .nil⟩
    have O39 : FnOk l.prog w K mg base CX0 2 f39 _ ["self", "line"] (spM K cls m_Wrong___init__) := ok_Wrong___init__ F39 T 
    have k_Wrong : C8.Mak l.prog w K mg base 2 "Wrong" (cls 3) (spM K cls m_Wrong___init__) [] := by rw [e_Wrong]; exact ⟨f39, _, _, [], ⟨mk_Wrong, a39, i39, kc_Wrong⟩, O39, PySem.W.mg_of X G aC_Wrong, (F39.binds (ps := ["self", "line"]) fun _ _ _ _ _ _ us hl => match us, hl with | [_, _], _ => rfl), .nil⟩
    have O40 : FnOk l.prog w K mg base CX0 7 f40 _ ["many", "kind", "life", "tries", "tale"] (spM K cls m_judged) := ok_judged F40 T c_check_settings c_is_line c_wrong_of k_Right k_Wrong
    have c_judged : C8.Cal l.prog w K mg base 7 "judged" (spM K cls m_judged) [] := ⟨f40, _, _, [], O40, PySem.W.mg_of X G a40, k40, (F40.binds (ps := ["many", "kind", "life", "tries", "tale"]) fun _ _ _ _ _ _ us hl => match us, hl with | [_, _, _, _, _], _ => rfl), .nil⟩
    have O41 : FnOk l.prog w K mg base CX0 8 f41 _ ["_law_tale"] (spM K cls m__law_judged) := ok__law_judged F41 T c_judged c__law_two
    have c__law_judged : C8.Cal l.prog w K mg base 8 "_law_judged" (spM K cls m__law_judged) [] := ⟨f41, _, _, [], O41, PySem.W.mg_of X G a41, k41, (F41.binds (ps := ["_law_tale"]) fun _ _ _ _ _ _ us hl => match us, hl with | [_], _ => rfl), .nil⟩
    have O42 : FnOk l.prog w K mg base CX0 7 f42 _ ["self", "many", "kind", "life", "tries", "tale"] (spM K cls m_Right_shows) := ok_Right_shows F42 T c_wrong_of
    have t_Right_shows : C8.Met l.prog w K mg base 7 (cls 2) "shows" (spM K cls m_Right_shows) [] := ⟨f42, _, _, [], L_Right, by rw [e_Right]; exact ⟨a42, i42, k42⟩, O42, (F42.binds (ps := ["self", "many", "kind", "life", "tries", "tale"]) fun _ _ _ _ _ _ us hl => match us, hl with | [_, _, _, _, _, _], _ => rfl), .nil⟩
    have O43 : FnOk l.prog w K mg base CX0 7 f43 _ ["self", "many", "kind", "life", "tries", "tale"] (spM K cls m_Wrong_shows) := ok_Wrong_shows F43 T c_wrong_of
    have t_Wrong_shows : C8.Met l.prog w K mg base 7 (cls 3) "shows" (spM K cls m_Wrong_shows) [] := ⟨f43, _, _, [], L_Wrong, by rw [e_Wrong]; exact ⟨a43, i43, k43⟩, O43, (F43.binds (ps := ["self", "many", "kind", "life", "tries", "tale"]) fun _ _ _ _ _ _ us hl => match us, hl with | [_, _, _, _, _, _], _ => rfl), .nil⟩
    have O44 : FnOk l.prog w K mg base CX0 5 f44 _ ["self", "many", "kind", "life", "tries"] (spM K cls m_Door___init__) := ok_Door___init__ F44 T c_check_settings k_State
    have k_Door : C8.Mak l.prog w K mg base 5 "Door" (cls 1) (spM K cls m_Door___init__) [] := by rw [e_Door]; exact ⟨f44, _, _, [], ⟨mk_Door, a44, i44, kc_Door⟩, O44, PySem.W.mg_of X G aC_Door, (F44.binds (ps := ["self", "many", "kind", "life", "tries"]) fun _ _ _ _ _ _ us hl => match us, hl with | [_, _, _, _, _], _ => rfl), .nil⟩
    have O45 : FnOk l.prog w K mg base CX0 4 f45 _ ["self", "account"] (spM K cls m_Door_check_account) := ok_Door_check_account F45 T c_is_between
    have t_Door_check_account : C8.Met l.prog w K mg base 4 (cls 1) "check_account" (spM K cls m_Door_check_account) [] := ⟨f45, _, _, [], L_Door, by rw [e_Door]; exact ⟨a45, i45, k45⟩, O45, (F45.binds (ps := ["self", "account"]) fun _ _ _ _ _ _ us hl => match us, hl with | [_, _], _ => rfl), .nil⟩
    have O46 : FnOk l.prog w K mg base CX0 5 f46 _ ["self", "account"] (spM K cls m_Door_ask) := ok_Door_ask F46 T t_Door_check_account t_State_asked
    have t_Door_ask : C8.Met l.prog w K mg base 5 (cls 1) "ask" (spM K cls m_Door_ask) [] := ⟨f46, _, _, [], L_Door, by rw [e_Door]; exact ⟨a46, i46, k46⟩, O46, (F46.binds (ps := ["self", "account"]) fun _ _ _ _ _ _ us hl => match us, hl with | [_, _], _ => rfl), .nil⟩
    have O47 : FnOk l.prog w K mg base CX0 4 f47 _ ["self", "account"] (spM K cls m_State_good_ones) := ok_State_good_ones F47 T t_State_is_good
    have t_State_good_ones : C8.Met l.prog w K mg base 4 (cls 0) "good_ones" (spM K cls m_State_good_ones) [] := ⟨f47, _, _, [], L_State, by rw [e_State]; exact ⟨a47, i47, k47⟩, O47, (F47.binds (ps := ["self", "account"]) fun _ _ _ _ _ _ us hl => match us, hl with | [_, _], _ => rfl), .nil⟩
    have O48 : FnOk l.prog w K mg base CX0 5 f48 _ ["self", "accounts"] (spM K cls m_Door_open_to) := ok_Door_open_to F48 T c_is_between t_State_good_ones
    have t_Door_open_to : C8.Met l.prog w K mg base 5 (cls 1) "open_to" (spM K cls m_Door_open_to) [] := ⟨f48, _, _, [], L_Door, by rw [e_Door]; exact ⟨a48, i48, k48⟩, O48, (F48.binds (ps := ["self", "accounts"]) fun _ _ _ _ _ _ us hl => match us, hl with | [_, _], _ => rfl), .nil⟩
    have O49 : FnOk l.prog w K mg base CX0 5 f49 _ ["self", "account"] (spM K cls m_Door_box) := ok_Door_box F49 T t_Door_check_account
    have t_Door_box : C8.Met l.prog w K mg base 5 (cls 1) "box" (spM K cls m_Door_box) [] := ⟨f49, _, _, [], L_Door, by rw [e_Door]; exact ⟨a49, i49, k49⟩, O49, (F49.binds (ps := ["self", "account"]) fun _ _ _ _ _ _ us hl => match us, hl with | [_, _], _ => rfl), .nil⟩
    have O50 : FnOk l.prog w K mg base CX0 5 f50 _ ["self", "account"] (spM K cls m_Door_good) := ok_Door_good F50 T t_Door_check_account t_State_good_ones
    have t_Door_good : C8.Met l.prog w K mg base 5 (cls 1) "good" (spM K cls m_Door_good) [] := ⟨f50, _, _, [], L_Door, by rw [e_Door]; exact ⟨a50, i50, k50⟩, O50, (F50.binds (ps := ["self", "account"]) fun _ _ _ _ _ _ us hl => match us, hl with | [_, _], _ => rfl), .nil⟩
    have O51 : FnOk l.prog w K mg base CX0 2 f51 _ ["self"] (spM K cls m_Door_tale) := ok_Door_tale F51 T 
    have t_Door_tale : C8.Met l.prog w K mg base 2 (cls 1) "tale" (spM K cls m_Door_tale) [] := ⟨f51, _, _, [], L_Door, by rw [e_Door]; exact ⟨a51, i51, k51⟩, O51, (F51.binds (ps := ["self"]) fun _ _ _ _ _ _ us hl => match us, hl with | [_], _ => rfl), .nil⟩
    have O52 : FnOk l.prog w K mg base CX0 7 f52 _ ["_law_accounts"] (spM K cls m__law_open) := ok__law_open F52 T k_Door t_Door_ask t_Door_open_to t_Door_box t_Door_good t_Door_tale c__law_two
    have c__law_open : C8.Cal l.prog w K mg base 7 "_law_open" (spM K cls m__law_open) [] := ⟨f52, _, _, [], O52, PySem.W.mg_of X G a52, k52, (F52.binds (ps := ["_law_accounts"]) fun _ _ _ _ _ _ us hl => match us, hl with | [_], _ => rfl), .nil⟩
    have O53 : FnOk l.prog w K mg base CX0 2 f53 _ ["_law_script", "_law_k"] (spM K cls m__law_cell_at) := ok__law_cell_at F53 T 
    have c__law_cell_at : C8.Cal l.prog w K mg base 2 "_law_cell_at" (spM K cls m__law_cell_at) [] := ⟨f53, _, _, [], O53, PySem.W.mg_of X G a53, k53, (F53.binds (ps := ["_law_script", "_law_k"]) fun _ _ _ _ _ _ us hl => match us, hl with | [_, _], _ => rfl), .nil⟩
    have O54 : FnOk l.prog w K mg base CX0 2 f54 _ ["_law_cell", "_law_k", "_law_most"] (spM K cls m__law_draw) := ok__law_draw F54 T 
    have c__law_draw : C8.Cal l.prog w K mg base 2 "_law_draw" (spM K cls m__law_draw) [] := ⟨f54, _, _, [], O54, PySem.W.mg_of X G a54, k54, (F54.binds (ps := ["_law_cell", "_law_k", "_law_most"]) fun _ _ _ _ _ _ us hl => match us, hl with | [_, _, _], _ => rfl), .nil⟩
    have O55 : FnOk l.prog w K mg base CX0 3 f55 _ ["_law_cell", "_law_k", "_law_limit"] (spM K cls m__law_number) := ok__law_number F55 T c__law_draw
    have c__law_number : C8.Cal l.prog w K mg base 3 "_law_number" (spM K cls m__law_number) [] := ⟨f55, _, _, [], O55, PySem.W.mg_of X G a55, k55, (F55.binds (ps := ["_law_cell", "_law_k", "_law_limit"]) fun _ _ _ _ _ _ us hl => match us, hl with | [_, _, _], _ => rfl), .nil⟩
    have c__law_spoilt_ : ∀ n, C8.Cal l.prog w K mg base (n + 1) "_law_spoilt" (spM K cls (m__law_spoilt_ n)) [] := fun n => by
      induction n with
      | zero => exact ⟨f56, _, _, [], fnOk_none, PySem.W.mg_of X G a56, k56, (F56.binds (ps := ["_law_found"]) fun _ _ _ _ _ _ us hl => match us, hl with | [_], _ => rfl), .nil⟩
      | succ n ih => exact ⟨f56, _, _, [], ok__law_spoilt F56 T ih , PySem.W.mg_of X G a56, k56, (F56.binds (ps := ["_law_found"]) fun _ _ _ _ _ _ us hl => match us, hl with | [_], _ => rfl), .nil⟩
    have c__law_spoilt : C8.Cal l.prog w K mg base 7 "_law_spoilt" (spM K cls m__law_spoilt) [] := c__law_spoilt_ 6
    have O57 : FnOk l.prog w K mg base CX0 8 f57 _ ["_law_handed", "_law_some"] (spM K cls m__law_put) := ok__law_put F57 T c__law_deep
    have c__law_put : C8.Cal l.prog w K mg base 8 "_law_put" (spM K cls m__law_put) [] := ⟨f57, _, _, [], O57, PySem.W.mg_of X G a57, k57, (F57.binds (ps := ["_law_handed", "_law_some"]) fun _ _ _ _ _ _ us hl => match us, hl with | [_, _], _ => rfl), .nil⟩
    exact ⟨c_is_whole, c_is_between, c_are_rising, c_are_boxes, c_is_account, c_check_house, c_check_boxes, c_check_wanted, c_come_to, k_Never, k_Way, c_way_in, c__law_deep, t_Way_shows, t_Never_shows, c__law_way, c_met_from, c_next_boxes, c_used_edges, c_edges_of, k_Bars, c_led_on, c_is_way, c_bars, t_Bars_shows, c__law_bars, c__law_two, c_inside, c_many_bars, t_State_newest, t_State_is_good, t_State_brought, t_State_asked, t_State_tried, k_State, c_can_come, c_check_settings, c_is_line, c_wrong_of, k_Right, k_Wrong, c_judged, c__law_judged, t_Right_shows, t_Wrong_shows, t_Door_check_account, t_State_good_ones, k_Door, t_Door_ask, t_Door_open_to, t_Door_box, t_Door_good, t_Door_tale, c__law_open, c__law_draw, c__law_spoilt, c__law_put, c__law_number, c__law_cell_at⟩
  have CL__law_door_right : ∀ (g : Gam) (base : Heap), @CloP g l.prog w K cls mg base 9 lamF domF → CalG l.prog w K mg base 10 "_law_door_right" (@spM g K cls m__law_door_right) := fun g base clo => by
    letI := g
    have c__law_deep := (R g base).c__law_deep
    have c__law_spoilt := (R g base).c__law_spoilt
    have c__law_put := (R g base).c__law_put
    exact ⟨f58, _, _, ok__law_door_right F58 (T g) c__law_deep clo c__law_spoilt c__law_put, PySem.W.mg_of X G a58, k58, (F58.binds (ps := ["_law_ask", "_law_lists", "_law_others"]) fun _ _ _ _ _ _ us hl => match us, hl with | [_, _, _], _ => rfl)⟩
  have CL__law_doors_right : ∀ (g : Gam) (base : Heap), @CloP g l.prog w K cls mg base 9 lamF domF → CalG l.prog w K mg base 11 "_law_doors_right" (@spM g K cls m__law_doors_right) := fun g base clo => by
    letI := g
    have c__law_door_right := CL__law_door_right g base clo
    exact ⟨f59, _, _, ok__law_doors_right F59 (T g) c__law_door_right, PySem.W.mg_of X G a59, k59, (F59.binds (ps := ["_law_asks", "_law_lists", "_law_others"]) fun _ _ _ _ _ _ us hl => match us, hl with | [_, _, _], _ => rfl)⟩
  have LO_0 : ∀ (g : Gam) (base : Heap), @LamOk g l.prog w K cls mg base 9 L_lam_0 ["_law_account"] lam_0 := fun g base => by
    letI := g
    exact ok_lam_0 (T g) (R g base).c__law_way
  have LO_1 : ∀ (g : Gam) (base : Heap), @LamOk g l.prog w K cls mg base 9 L_lam_1 ["_law_account"] lam_1 := fun g base => by
    letI := g
    exact ok_lam_1 (T g) (R g base).c__law_bars
  have LO_2 : ∀ (g : Gam) (base : Heap), @LamOk g l.prog w K cls mg base 8 L_lam_2 [] lam_2 := fun g base => by
    letI := g
    exact ok_lam_2 (T g) (R g base).c__law_two (R g base).c_inside
  have LO_3 : ∀ (g : Gam) (base : Heap), @LamOk g l.prog w K cls mg base 9 L_lam_3 ["_law_account"] lam_3 := fun g base => by
    letI := g
    exact ok_lam_3 (T g) (R g base).c__law_two (R g base).c_many_bars
  have LO_4 : ∀ (g : Gam) (base : Heap), @LamOk g l.prog w K cls mg base 3 L_lam_4 ["_law_account", "_law_way_here"] lam_4 := fun g base => by
    letI := g
    exact ok_lam_4 (T g) (R g base).c__law_two (R g base).t_Way_shows (R g base).t_Never_shows
  have LO_5 : ∀ (g : Gam) (base : Heap), @LamOk g l.prog w K cls mg base 4 L_lam_5 ["_law_account", "_law_held"] lam_5 := fun g base => by
    letI := g
    exact ok_lam_5 (T g) (R g base).c__law_two (R g base).t_Bars_shows
  have LO_6 : ∀ (g : Gam) (base : Heap), @LamOk g l.prog w K cls mg base 3 L_lam_6 ["_law_no"] lam_6 := fun g base => by
    letI := g
    exact ok_lam_6 (T g) (R g base).c__law_two (R g base).t_Way_shows (R g base).t_Never_shows
  have LO_7 : ∀ (g : Gam) (base : Heap), @LamOk g l.prog w K cls mg base 9 L_lam_7 [] lam_7 := fun g base => by
    letI := g
    exact ok_lam_7 (T g) (R g base).c__law_judged
  have LO_8 : ∀ (g : Gam) (base : Heap), @LamOk g l.prog w K cls mg base 8 L_lam_8 [] lam_8 := fun g base => by
    letI := g
    exact ok_lam_8 (T g) (R g base).c__law_two (R g base).k_Right (R g base).t_Right_shows
  have LO_9 : ∀ (g : Gam) (base : Heap), @LamOk g l.prog w K cls mg base 8 L_lam_9 [] lam_9 := fun g base => by
    letI := g
    exact ok_lam_9 (T g) (R g base).c__law_two (R g base).k_Wrong (R g base).t_Wrong_shows
  have LO_10 : ∀ (g : Gam) (base : Heap), @LamOk g l.prog w K cls mg base 8 L_lam_10 [] lam_10 := fun g base => by
    letI := g
    exact ok_lam_10 (T g) (R g base).c__law_open
  have kd_law : Kinds (gam0 [(PP60, ("law.<locals>.<lambda>" : Str))]) tab_law own_law := kd_of ti_law tn_law on_law (fun _ _ _ _ z => z.elim)
  refine ⟨PySem.W.fnOf "law" "law" (defArgs s_law) (defBody s_law) (defScope s_law) .none kV60 dc60 pm60 an60 (.ref cc60) ct60, [(cc60, PP60)], [(PP60, ("law.<locals>.<lambda>" : Str))], rfl, rfl, nd_T, ?_, ?_, ?_, fun s v => .of_eq rfl, fun base _ _ TBs => ⟨cls, ?_⟩⟩
  · intro p hp; simp only [List.mem_cons, List.not_mem_nil, or_false] at hp; subst hp
    · exact ht_60
  · intro p hp; simp only [List.mem_cons, List.not_mem_nil, or_false] at hp; subst hp
    · exact np_60
  · intro p hp; simp only [List.mem_cons, List.not_mem_nil, or_false] at hp; subst hp
    · exact PySem.W.codeHd_of_K X ch_60
  have TB60 : TabB base mg cc60 PP60 := TBs (cc60, PP60) (by simp)
  exact ok_law F60 rfl T (fun g => R g base) kd_law TB60 rfl
    ⟨_, PySem.W.mg_of X G a59, k59⟩ (fun A outer s H E σ b' B => CL__law_doors_right (gamC (gam0 [(PP60, ("law.<locals>.<lambda>" : Str))]) (envOfC "law" (defScope s_law) s.heap.objs.size fa (.ref cc60)).cells tab_law own_law σ) b' (clo_made2 B rfl (fun _ _ h => h) (hl_law_F rfl rfl (@LamOk.mono (gamC (gam0 [(PP60, ("law.<locals>.<lambda>" : Str))]) (envOfC "law" (defScope s_law) s.heap.objs.size fa (.ref cc60)).cells tab_law own_law σ) _ _ _ _ _ _ _ _ _ _ _ (LO_0 (gamC (gam0 [(PP60, ("law.<locals>.<lambda>" : Str))]) (envOfC "law" (defScope s_law) s.heap.objs.size fa (.ref cc60)).cells tab_law own_law σ) b') (by decide)) (@LamOk.mono (gamC (gam0 [(PP60, ("law.<locals>.<lambda>" : Str))]) (envOfC "law" (defScope s_law) s.heap.objs.size fa (.ref cc60)).cells tab_law own_law σ) _ _ _ _ _ _ _ _ _ _ _ (LO_1 (gamC (gam0 [(PP60, ("law.<locals>.<lambda>" : Str))]) (envOfC "law" (defScope s_law) s.heap.objs.size fa (.ref cc60)).cells tab_law own_law σ) b') (by decide)) (@LamOk.mono (gamC (gam0 [(PP60, ("law.<locals>.<lambda>" : Str))]) (envOfC "law" (defScope s_law) s.heap.objs.size fa (.ref cc60)).cells tab_law own_law σ) _ _ _ _ _ _ _ _ _ _ _ (LO_2 (gamC (gam0 [(PP60, ("law.<locals>.<lambda>" : Str))]) (envOfC "law" (defScope s_law) s.heap.objs.size fa (.ref cc60)).cells tab_law own_law σ) b') (by decide)) (@LamOk.mono (gamC (gam0 [(PP60, ("law.<locals>.<lambda>" : Str))]) (envOfC "law" (defScope s_law) s.heap.objs.size fa (.ref cc60)).cells tab_law own_law σ) _ _ _ _ _ _ _ _ _ _ _ (LO_3 (gamC (gam0 [(PP60, ("law.<locals>.<lambda>" : Str))]) (envOfC "law" (defScope s_law) s.heap.objs.size fa (.ref cc60)).cells tab_law own_law σ) b') (by decide)) (@LamOk.mono (gamC (gam0 [(PP60, ("law.<locals>.<lambda>" : Str))]) (envOfC "law" (defScope s_law) s.heap.objs.size fa (.ref cc60)).cells tab_law own_law σ) _ _ _ _ _ _ _ _ _ _ _ (LO_4 (gamC (gam0 [(PP60, ("law.<locals>.<lambda>" : Str))]) (envOfC "law" (defScope s_law) s.heap.objs.size fa (.ref cc60)).cells tab_law own_law σ) b') (by decide)) (@LamOk.mono (gamC (gam0 [(PP60, ("law.<locals>.<lambda>" : Str))]) (envOfC "law" (defScope s_law) s.heap.objs.size fa (.ref cc60)).cells tab_law own_law σ) _ _ _ _ _ _ _ _ _ _ _ (LO_5 (gamC (gam0 [(PP60, ("law.<locals>.<lambda>" : Str))]) (envOfC "law" (defScope s_law) s.heap.objs.size fa (.ref cc60)).cells tab_law own_law σ) b') (by decide)) (@LamOk.mono (gamC (gam0 [(PP60, ("law.<locals>.<lambda>" : Str))]) (envOfC "law" (defScope s_law) s.heap.objs.size fa (.ref cc60)).cells tab_law own_law σ) _ _ _ _ _ _ _ _ _ _ _ (LO_6 (gamC (gam0 [(PP60, ("law.<locals>.<lambda>" : Str))]) (envOfC "law" (defScope s_law) s.heap.objs.size fa (.ref cc60)).cells tab_law own_law σ) b') (by decide)) (@LamOk.mono (gamC (gam0 [(PP60, ("law.<locals>.<lambda>" : Str))]) (envOfC "law" (defScope s_law) s.heap.objs.size fa (.ref cc60)).cells tab_law own_law σ) _ _ _ _ _ _ _ _ _ _ _ (LO_7 (gamC (gam0 [(PP60, ("law.<locals>.<lambda>" : Str))]) (envOfC "law" (defScope s_law) s.heap.objs.size fa (.ref cc60)).cells tab_law own_law σ) b') (by decide)) (@LamOk.mono (gamC (gam0 [(PP60, ("law.<locals>.<lambda>" : Str))]) (envOfC "law" (defScope s_law) s.heap.objs.size fa (.ref cc60)).cells tab_law own_law σ) _ _ _ _ _ _ _ _ _ _ _ (LO_8 (gamC (gam0 [(PP60, ("law.<locals>.<lambda>" : Str))]) (envOfC "law" (defScope s_law) s.heap.objs.size fa (.ref cc60)).cells tab_law own_law σ) b') (by decide)) (@LamOk.mono (gamC (gam0 [(PP60, ("law.<locals>.<lambda>" : Str))]) (envOfC "law" (defScope s_law) s.heap.objs.size fa (.ref cc60)).cells tab_law own_law σ) _ _ _ _ _ _ _ _ _ _ _ (LO_9 (gamC (gam0 [(PP60, ("law.<locals>.<lambda>" : Str))]) (envOfC "law" (defScope s_law) s.heap.objs.size fa (.ref cc60)).cells tab_law own_law σ) b') (by decide)) (@LamOk.mono (gamC (gam0 [(PP60, ("law.<locals>.<lambda>" : Str))]) (envOfC "law" (defScope s_law) s.heap.objs.size fa (.ref cc60)).cells tab_law own_law σ) _ _ _ _ _ _ _ _ _ _ _ (LO_10 (gamC (gam0 [(PP60, ("law.<locals>.<lambda>" : Str))]) (envOfC "law" (defScope s_law) s.heap.objs.size fa (.ref cc60)).cells tab_law own_law σ) b') (by decide))) (cloI_none fun _ _ _ _ z => z)))
/-- the law's promise from its mirror -/
def spLaw (K : PySem.W.Frag) (ts : List (Addr × Str)) : Sp := fun vs H Q _ => ∃ (a : Addr) (ns : List Int), vs = [.ref a] ∧ SqL K H a (ns.map V.int) ∧ ns.length ≤ 63 ∧ (∀ p ∈ ts, H p.1 = some (.tbl #[])) ∧ ∀ H', Q (.bl true) H'
theorem law_sp {K : PySem.W.Frag} {cls : Nat → Addr} {ts : List (Addr × Str)} (hl : LawHolds) (hn : (ts.map (·.1)).Nodup) (ht : ts.length = 1) (vs : List V) (H : Hp) (Q : VK) (E : XK) (h : spLaw K ts vs H Q E) : @spM (gam0 ts) K cls m_law vs H Q E := by
  letI : Gam := gam0 ts
  obtain ⟨a, ns, rfl, hs, hlen, hT, q⟩ := h
  obtain ⟨st', e⟩ := hl ns hlen
  have R0 := relR_tabs (K := K) (cls := cls) (H := H) hn hT
  rw [ht] at R0
  refine ⟨ts.map (·.1), fun _ => False, [.lst (ns.map .int)], _, .bl true, st', R0, .cons (.lst ?_ (RepL.ints ns)) .nil, e, fun u ρ' H' _ _ r => ?_⟩
  · rcases hs with hs | hs
    · refine .inl ⟨fun z => ?_, hs⟩
      rcases z with z | z
      · obtain ⟨p, hp, rfl⟩ := List.mem_map.mp z
        have hT := hT p hp
        rcases hs with hs | ⟨o, hs⟩ <;> rw [hT] at hs <;> cases hs
      · exact z
    · exact .inr fun H' => .inr hs
  · cases r
    exact q H'
theorem walk (hl : LawHolds) {l : PySem.W.OpenLaw} {q : Program} {loose : List Str} {XP : (Str → Option Value) → Heap → Prop} {YP : World → Heap → Prop} {d : DefRec} {K : Params → PySem.W.Frag} (hn : l.most = some 63) (hdf : d.params.defaults = [])
    (hY : ∀ (w : World) (h : Heap), YP w h → (K w.params).In h)
    (F : ∀ (w : World) (mg : Str → Option Value) (fa : Addr) (h : Heap), YP w h → (K w.params).In h → h.Ns mainGlobals mg → mg d.name = some (.ref fa) → AtL l w (K w.params) mg fa h) :
    PySem.W.WalkO q loose XP YP l.row.toRowW d [] (fun f vs => PySem.call f vs) := by
  refine walk_ofTG (n := 63) (k := 12) (x := "_law_script") hn (by decide) hdf ⟨rfl, by decide, by decide⟩ hY (fun w mg fa h Y h1 h2 h3 => ?_)
  obtain ⟨fd, cs, ts, t1, t2, t3, t4, t5, t6, b, f⟩ := F w mg fa h Y h1 h2 h3
  refine ⟨fd, cs, spLaw (K w.params) ts, t4, t5, t6, b, fun H a ns hl hT hS => ⟨a, ns, rfl, hS, hl, fun p hp => ?_, fun _ => rfl⟩, fun base i1 i2 i3 => ?_⟩
  · have hp2 : p.1 ∈ cs.map (·.2) := by rw [t2]; exact List.mem_map.mpr ⟨p, hp, rfl⟩
    obtain ⟨z, hz, e⟩ := List.mem_map.mp hp2
    rw [← e]
    exact hT z hz
  · obtain ⟨cls, o⟩ := f base i1 i2 i3
    letI : Gam := gam0 []; exact o.imp (law_sp hl t3 t1)
end Mi
open PySem PySem.W PyProof.Rows in
set_option maxRecDepth 100000 in
set_option maxHeartbeats 0 in
theorem PySem.Challenge.cw_codemail_k17_whole_anew_holds : PySem.Challenge.rw_codemail_k17_whole_anew.Holds := by
  w_on; o_law; k_head; (case hw => w_witness2)
  k_fill
  refine Mi.walk Mi.law_holds (l := PySem.Challenge.rw_codemail_k17_whole_anew) rfl rfl (fun w h Y => PySem.W.km_in_of Y) ?F
  case F =>
    intro w mg fa h Y KX G hmg
    have hT := PySem.W.km_tabs_of Y
    refine' Mi.all_mk KX G hmg ?aC_State ?aC_Door ?aC_Right ?aC_Wrong ?aC_Way ?aC_Never ?aC_Bars ?a0 ?l0 ?c0 ?k0 ?a1 ?l1 ?c1 ?k1 ?a2 ?l2 ?c2 ?k2 ?a3 ?l3 ?c3 ?k3 ?a4 ?l4 ?c4 ?k4 ?a5 ?l5 ?c5 ?k5 ?a6 ?l6 ?c6 ?k6 ?a7 ?l7 ?c7 ?k7 ?a8 ?l8 ?c8 ?k8 ?a9 ?i9 ?l9 ?c9 ?k9 ?a10 ?i10 ?l10 ?c10 ?k10 ?a11 ?l11 ?c11 ?k11 ?a12 ?l12 ?c12 ?k12 ?a13 ?i13 ?l13 ?c13 ?k13 ?a14 ?i14 ?l14 ?c14 ?k14 ?a15 ?l15 ?c15 ?k15 ?a16 ?l16 ?c16 ?k16 ?a17 ?l17 ?c17 ?k17 ?a18 ?l18 ?c18 ?k18 ?a19 ?l19 ?c19 ?k19 ?a20 ?i20 ?l20 ?c20 ?k20 ?a21 ?l21 ?c21 ?k21 ?a22 ?l22 ?c22 ?k22 ?a23 ?l23 ?c23 ?k23 ?a24 ?i24 ?l24 ?c24 ?k24 ?a25 ?l25 ?c25 ?k25 ?a26 ?l26 ?c26 ?k26 ?a27 ?l27 ?c27 ?k27 ?a28 ?l28 ?c28 ?k28 ?a29 ?l29 ?c29 ?k29 ?a30 ?l30 ?c30 ?k30 ?a31 ?i31 ?l31 ?c31 ?k31 ?a32 ?i32 ?l32 ?c32 ?k32 ?a33 ?i33 ?l33 ?c33 ?k33 ?a34 ?i34 ?l34 ?c34 ?k34 ?a35 ?i35 ?l35 ?c35 ?k35 ?a36 ?i36 ?l36 ?c36 ?k36 ?a37 ?l37 ?c37 ?k37 ?a38 ?l38 ?c38 ?k38 ?a39 ?i39 ?l39 ?c39 ?k39 ?a40 ?l40 ?c40 ?k40 ?a41 ?l41 ?c41 ?k41 ?a42 ?i42 ?l42 ?c42 ?k42 ?a43 ?i43 ?l43 ?c43 ?k43 ?a44 ?i44 ?l44 ?c44 ?k44 ?a45 ?i45 ?l45 ?c45 ?k45 ?a46 ?i46 ?l46 ?c46 ?k46 ?a47 ?i47 ?l47 ?c47 ?k47 ?a48 ?i48 ?l48 ?c48 ?k48 ?a49 ?i49 ?l49 ?c49 ?k49 ?a50 ?i50 ?l50 ?c50 ?k50 ?a51 ?i51 ?l51 ?c51 ?k51 ?a52 ?l52 ?c52 ?k52 ?a53 ?l53 ?c53 ?k53 ?a54 ?l54 ?c54 ?k54 ?a55 ?l55 ?c55 ?k55 ?a56 ?l56 ?c56 ?k56 ?a57 ?l57 ?c57 ?k57 ?a58 ?l58 ?c58 ?k58 ?a59 ?l59 ?c59 ?k59 ?a60 ?l60 ?c60 ?k60 ?oc_60 ?tb_60 ?ch_60 ?np_60 ?ht_60 ?nd_T ?pg_State ?hd_State ?po_State ?sa_State ?mk_State ?kc_State ?pg_Door ?hd_Door ?po_Door ?sa_Door ?mk_Door ?kc_Door ?pg_Right ?hd_Right ?po_Right ?sa_Right ?mk_Right ?kc_Right ?pg_Wrong ?hd_Wrong ?po_Wrong ?sa_Wrong ?mk_Wrong ?kc_Wrong ?pg_Way ?hd_Way ?po_Way ?sa_Way ?mk_Way ?kc_Way ?pg_Never ?hd_Never ?po_Never ?sa_Never ?mk_Never ?kc_Never ?pg_Bars ?hd_Bars ?po_Bars ?sa_Bars ?mk_Bars ?kc_Bars ?n_0_0 ?n_0_1 ?n_0_2 ?n_0_3 ?n_0_4 ?n_0_5 ?n_0_6 ?n_0_7 ?n_1_0 ?n_1_1 ?n_3_0 ?n_4_0 ?n_5_0 ?n_6_0 ?n_6_1 ?z_len ?z_list ?z_sorted ?z_set ?z_any ?z_all ?z_range ?z_enumerate ?z_zip ?z_isinstance ?z_abs ?z_int ?z_bool ?z_str ?z_tuple ?g_MOST_ACCOUNTS_states ?g_LONGEST_LIFE ?g_MOST_TRIES ?g_MOST_BOXES ?g_MOST_AT_ONCE ?g_MOST_ACCOUNTS_houses ?g_LONGEST ?b_KINDS ?e_KINDS ?oi_Right ?ihn ?itk ?ihc_2 ?imr_2 ?ik_2_4 ?low_2_4 ?ihc_3 ?imr_3 ?ik_3_2 ?low_3_2 ?ik_3_4 ?low_3_4 ?ihc_4 ?imr_4 ?ik_4_2 ?low_4_2 ?ihc_5 ?imr_5 ?ik_5_2 ?low_5_2 ?ik_5_4 ?low_5_4 ?g_c2 ?ity_2 ?g_c4 ?ity_4 ?b_FORMS ?e_FORMS ?low_FORMS ?m_FORMS0 ?m_FORMS1 ?m_FORMS2 ?m_FORMS3 ?m_FORMS4
    (case aC_State => k_is)
    (case aC_Door => k_is)
    (case aC_Right => k_is)
    (case aC_Wrong => k_is)
    (case aC_Way => k_is)
    (case aC_Never => k_is)
    (case aC_Bars => k_is)
    (case a0 => k_is)
    (case l0 => k_is)
    (case c0 => k_is)
    (case k0 => k_is)
    (case a1 => k_is)
    (case l1 => k_is)
    (case c1 => k_is)
    (case k1 => k_is)
    (case a2 => k_is)
    (case l2 => k_is)
    (case c2 => k_is)
    (case k2 => k_is)
    (case a3 => k_is)
    (case l3 => k_is)
    (case c3 => k_is)
    (case k3 => k_is)
    (case a4 => k_is)
    (case l4 => k_is)
    (case c4 => k_is)
    (case k4 => k_is)
    (case a5 => k_is)
    (case l5 => k_is)
    (case c5 => k_is)
    (case k5 => k_is)
    (case a6 => k_is)
    (case l6 => k_is)
    (case c6 => k_is)
    (case k6 => k_is)
    (case a7 => k_is)
    (case l7 => k_is)
    (case c7 => k_is)
    (case k7 => k_is)
    (case a8 => k_is)
    (case l8 => k_is)
    (case c8 => k_is)
    (case k8 => k_is)
    (case a9 => k_is)
    (case i9 => k_is)
    (case l9 => k_is)
    (case c9 => k_is)
    (case k9 => k_is)
    (case a10 => k_is)
    (case i10 => k_is)
    (case l10 => k_is)
    (case c10 => k_is)
    (case k10 => k_is)
    (case a11 => k_is)
    (case l11 => k_is)
    (case c11 => k_is)
    (case k11 => k_is)
    (case a12 => k_is)
    (case l12 => k_is)
    (case c12 => k_is)
    (case k12 => k_is)
    (case a13 => k_is)
    (case i13 => k_is)
    (case l13 => k_is)
    (case c13 => k_is)
    (case k13 => k_is)
    (case a14 => k_is)
    (case i14 => k_is)
    (case l14 => k_is)
    (case c14 => k_is)
    (case k14 => k_is)
    (case a15 => k_is)
    (case l15 => k_is)
    (case c15 => k_is)
    (case k15 => k_is)
    (case a16 => k_is)
    (case l16 => k_is)
    (case c16 => k_is)
    (case k16 => k_is)
    (case a17 => k_is)
    (case l17 => k_is)
    (case c17 => k_is)
    (case k17 => k_is)
    (case a18 => k_is)
    (case l18 => k_is)
    (case c18 => k_is)
    (case k18 => k_is)
    (case a19 => k_is)
    (case l19 => k_is)
    (case c19 => k_is)
    (case k19 => k_is)
    (case a20 => k_is)
    (case i20 => k_is)
    (case l20 => k_is)
    (case c20 => k_is)
    (case k20 => k_is)
    (case a21 => k_is)
    (case l21 => k_is)
    (case c21 => k_is)
    (case k21 => k_is)
    (case a22 => k_is)
    (case l22 => k_is)
    (case c22 => k_is)
    (case k22 => k_is)
    (case a23 => k_is)
    (case l23 => k_is)
    (case c23 => k_is)
    (case k23 => k_is)
    (case a24 => k_is)
    (case i24 => k_is)
    (case l24 => k_is)
    (case c24 => k_is)
    (case k24 => k_is)
    (case a25 => k_is)
    (case l25 => k_is)
    (case c25 => k_is)
    (case k25 => k_is)
    (case a26 => k_is)
    (case l26 => k_is)
    (case c26 => k_is)
    (case k26 => k_is)
    (case a27 => k_is)
    (case l27 => k_is)
    (case c27 => k_is)
    (case k27 => k_is)
    (case a28 => k_is)
    (case l28 => k_is)
    (case c28 => k_is)
    (case k28 => k_is)
    (case a29 => k_is)
    (case l29 => k_is)
    (case c29 => k_is)
    (case k29 => k_is)
    (case a30 => k_is)
    (case l30 => k_is)
    (case c30 => k_is)
    (case k30 => k_is)
    (case a31 => k_is)
    (case i31 => k_is)
    (case l31 => k_is)
    (case c31 => k_is)
    (case k31 => k_is)
    (case a32 => k_is)
    (case i32 => k_is)
    (case l32 => k_is)
    (case c32 => k_is)
    (case k32 => k_is)
    (case a33 => k_is)
    (case i33 => k_is)
    (case l33 => k_is)
    (case c33 => k_is)
    (case k33 => k_is)
    (case a34 => k_is)
    (case i34 => k_is)
    (case l34 => k_is)
    (case c34 => k_is)
    (case k34 => k_is)
    (case a35 => k_is)
    (case i35 => k_is)
    (case l35 => k_is)
    (case c35 => k_is)
    (case k35 => k_is)
    (case a36 => k_is)
    (case i36 => k_is)
    (case l36 => k_is)
    (case c36 => k_is)
    (case k36 => k_is)
    (case a37 => k_is)
    (case l37 => k_is)
    (case c37 => k_is)
    (case k37 => k_is)
    (case a38 => k_is)
    (case l38 => k_is)
    (case c38 => k_is)
    (case k38 => k_is)
    (case a39 => k_is)
    (case i39 => k_is)
    (case l39 => k_is)
    (case c39 => k_is)
    (case k39 => k_is)
    (case a40 => k_is)
    (case l40 => k_is)
    (case c40 => k_is)
    (case k40 => k_is)
    (case a41 => k_is)
    (case l41 => k_is)
    (case c41 => k_is)
    (case k41 => k_is)
    (case a42 => k_is)
    (case i42 => k_is)
    (case l42 => k_is)
    (case c42 => k_is)
    (case k42 => k_is)
    (case a43 => k_is)
    (case i43 => k_is)
    (case l43 => k_is)
    (case c43 => k_is)
    (case k43 => k_is)
    (case a44 => k_is)
    (case i44 => k_is)
    (case l44 => k_is)
    (case c44 => k_is)
    (case k44 => k_is)
    (case a45 => k_is)
    (case i45 => k_is)
    (case l45 => k_is)
    (case c45 => k_is)
    (case k45 => k_is)
    (case a46 => k_is)
    (case i46 => k_is)
    (case l46 => k_is)
    (case c46 => k_is)
    (case k46 => k_is)
    (case a47 => k_is)
    (case i47 => k_is)
    (case l47 => k_is)
    (case c47 => k_is)
    (case k47 => k_is)
    (case a48 => k_is)
    (case i48 => k_is)
    (case l48 => k_is)
    (case c48 => k_is)
    (case k48 => k_is)
    (case a49 => k_is)
    (case i49 => k_is)
    (case l49 => k_is)
    (case c49 => k_is)
    (case k49 => k_is)
    (case a50 => k_is)
    (case i50 => k_is)
    (case l50 => k_is)
    (case c50 => k_is)
    (case k50 => k_is)
    (case a51 => k_is)
    (case i51 => k_is)
    (case l51 => k_is)
    (case c51 => k_is)
    (case k51 => k_is)
    (case a52 => k_is)
    (case l52 => k_is)
    (case c52 => k_is)
    (case k52 => k_is)
    (case a53 => k_is)
    (case l53 => k_is)
    (case c53 => k_is)
    (case k53 => k_is)
    (case a54 => k_is)
    (case l54 => k_is)
    (case c54 => k_is)
    (case k54 => k_is)
    (case a55 => k_is)
    (case l55 => k_is)
    (case c55 => k_is)
    (case k55 => k_is)
    (case a56 => k_is)
    (case l56 => k_is)
    (case c56 => k_is)
    (case k56 => k_is)
    (case a57 => k_is)
    (case l57 => k_is)
    (case c57 => k_is)
    (case k57 => k_is)
    (case a58 => k_is)
    (case l58 => k_is)
    (case c58 => k_is)
    (case k58 => k_is)
    (case a59 => k_is)
    (case l59 => k_is)
    (case c59 => k_is)
    (case k59 => k_is)
    (case a60 => k_is)
    (case l60 => k_is)
    (case c60 => k_is)
    (case k60 => k_is)
    (case oc_60 => k_is)
    (case tb_60 => rfl)
    (case ch_60 => kernel_rfl)
    (case np_60 => kernel_rfl)
    (case ht_60 => exact hT _ (by k_mem))
    (case nd_T => decide)
    (case pg_State => k_is)
    (case hd_State => k_is)
    (case po_State => k_is)
    (case sa_State => k_is)
    (case mk_State => k_is)
    (case kc_State => k_is)
    (case pg_Door => k_is)
    (case hd_Door => k_is)
    (case po_Door => k_is)
    (case sa_Door => k_is)
    (case mk_Door => k_is)
    (case kc_Door => k_is)
    (case pg_Right => k_is)
    (case hd_Right => k_is)
    (case po_Right => k_is)
    (case sa_Right => k_is)
    (case mk_Right => k_is)
    (case kc_Right => k_is)
    (case pg_Wrong => k_is)
    (case hd_Wrong => k_is)
    (case po_Wrong => k_is)
    (case sa_Wrong => k_is)
    (case mk_Wrong => k_is)
    (case kc_Wrong => k_is)
    (case pg_Way => k_is)
    (case hd_Way => k_is)
    (case po_Way => k_is)
    (case sa_Way => k_is)
    (case mk_Way => k_is)
    (case kc_Way => k_is)
    (case pg_Never => k_is)
    (case hd_Never => k_is)
    (case po_Never => k_is)
    (case sa_Never => k_is)
    (case mk_Never => k_is)
    (case kc_Never => k_is)
    (case pg_Bars => k_is)
    (case hd_Bars => k_is)
    (case po_Bars => k_is)
    (case sa_Bars => k_is)
    (case mk_Bars => k_is)
    (case kc_Bars => k_is)
    (case n_0_0 => k_is)
    (case n_0_1 => k_is)
    (case n_0_2 => k_is)
    (case n_0_3 => k_is)
    (case n_0_4 => k_is)
    (case n_0_5 => k_is)
    (case n_0_6 => k_is)
    (case n_0_7 => k_is)
    (case n_1_0 => k_is)
    (case n_1_1 => k_is)
    (case n_3_0 => k_is)
    (case n_4_0 => k_is)
    (case n_5_0 => k_is)
    (case n_6_0 => k_is)
    (case n_6_1 => k_is)
    (case z_len => k_is)
    (case z_list => k_is)
    (case z_sorted => k_is)
    (case z_set => k_is)
    (case z_any => k_is)
    (case z_all => k_is)
    (case z_range => k_is)
    (case z_enumerate => k_is)
    (case z_zip => k_is)
    (case z_isinstance => k_is)
    (case z_abs => k_is)
    (case z_int => k_is)
    (case z_bool => k_is)
    (case z_str => k_is)
    (case z_tuple => k_is)
    (case g_MOST_ACCOUNTS_states => exact ⟨_, by k_is⟩)
    (case g_LONGEST_LIFE => exact ⟨_, by k_is⟩)
    (case g_MOST_TRIES => exact ⟨_, by k_is⟩)
    (case g_MOST_BOXES => exact ⟨_, by k_is⟩)
    (case g_MOST_AT_ONCE => exact ⟨_, by k_is⟩)
    (case g_MOST_ACCOUNTS_houses => exact ⟨_, by k_is⟩)
    (case g_LONGEST => exact ⟨_, by k_is⟩)
    (case b_KINDS => k_is)
    (case e_KINDS => k_is)
    (case oi_Right => k_is)
    (case ihn => k_is)
    (case itk => k_is)
    (case ihc_2 => k_is)
    (case imr_2 => k_is)
    (case ik_2_4 => k_is)
    (case low_2_4 => first | rfl | decide | k_is)
    (case ihc_3 => k_is)
    (case imr_3 => k_is)
    (case ik_3_2 => k_is)
    (case low_3_2 => first | rfl | decide | k_is)
    (case ik_3_4 => k_is)
    (case low_3_4 => first | rfl | decide | k_is)
    (case ihc_4 => k_is)
    (case imr_4 => k_is)
    (case ik_4_2 => k_is)
    (case low_4_2 => first | rfl | decide | k_is)
    (case ihc_5 => k_is)
    (case imr_5 => k_is)
    (case ik_5_2 => k_is)
    (case low_5_2 => first | rfl | decide | k_is)
    (case ik_5_4 => k_is)
    (case low_5_4 => first | rfl | decide | k_is)
    (case g_c2 => exact ⟨_, by k_is⟩)
    (case ity_2 => k_is)
    (case g_c4 => exact ⟨_, by k_is⟩)
    (case ity_4 => k_is)
    (case b_FORMS => k_is)
    (case e_FORMS => k_is)
    (case low_FORMS => first | rfl | decide | k_is)
    (case m_FORMS0 => k_is)
    (case m_FORMS1 => k_is)
    (case m_FORMS2 => k_is)
    (case m_FORMS3 => k_is)
    (case m_FORMS4 => k_is)
