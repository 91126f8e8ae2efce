import PyProof.Rows.All
import Wide.All
import OpenK.AllK
import Wide.FinOn
import HandS.ForMost
import HandS.Exc
import HandS.Wide
import HandS.TupAny
import HandS.TupMul
import HandS.TupLe
import HandS.Conv
import HandS.Zip
import HandS.Walk
import HandS.Deep
import HandS.NoneIn
import KE.DataCmp
import KE.DataFind
import KE.SortData
import HandS.Lambda
import HandS.HeadHook1
import KE.DataEq
import KE.DataIsa
import HandS.Style
import KE.GoesEnum
import KE.DatumIndex
import KE.DataMinMax
import KE.DataAny
import HandS.ReCall
import KE.KTupSum
import HandS.TupLen
import PyProof.CallFns
import KE.KIndexOf
import HandS.Defaults
import HandS.HeadEnd
import HandS.WordsExc
import HandS.HeadHook4
import HandS.DictComp
import HandS.More
import HandS.SetFor
import PyProof.StrBlockL
import KE.DatumOrd
import KE.KStateDown
import HandS.Head0
import HandS.Head1
import HandS.Head2
import HandS.HeadHook2
import PyProof.SumWalkG
import PyProof.ListOps
import PyProof.Rows.SeqMore
import HandS.ExcValue
import HandS.Sort
import KE.KDictSum
import KE.KDictDisplayH
import KE.KDictCopyH
import KE.KDictWalk
import KE.KDictPairs
import KE.SortKeyHeap
import HandS.SortKw
import PySem.Challenge.RW_samelayout_k14_unlike_histories
set_option Elab.async false
set_option autoImplicit false
set_option linter.all false
set_option maxRecDepth 100000
set_option maxHeartbeats 4000000
section
namespace Mi
open PySem
inductive Cell where
  | lst (xs : List PyData)
  | flst (xs : List PyData)
  | dct (t : Bool) (kvs : List (PyData × PyData))
  | fdct (t : Bool) (kvs : List (PyData × PyData))
  | nst (n : Nat) (rs : List Nat)
  | tab (P : Nat) (q : Str)
  | tdc (ks : List (List Int))
  | tdv (b : Bool) (kvs : List (List Int × PyData))
  | dead
abbrev Store := List Cell
structure Exc where
  c : Str
  f : Option (Str × PyData)
inductive D where
  | p (d : PyData)
  | ref (i : Nat)
  | scr (ns : List Int)
  | rows (i n : Nat) (rs : List Nat)
  | fn (f c : Nat) (q : Str)
  | exn (e : Exc)
abbrev Env := List (Option D)
inductive R (α : Type) where
  | ok (a : α)
  | ex (e : Exc) (S : Store)
  | no
inductive Fl where
  | nx | bk | ct
  | rt (d : D)
def bx {α β : Type} (x : R α) (f : α → R β) : R β := match x with
  | .ok a => f a
  | .ex e S => .ex e S
  | .no => .no
def bd {α β : Type} (x : R (α × Store)) (f : α → Store → R β) : R β := match x with
  | .ok p => f p.1 p.2
  | .ex e S => .ex e S
  | .no => .no
def bs {β : Type} (x : R (Fl × Env × Store)) (f : Fl → Env → Store → R β) : R β := match x with
  | .ok p => f p.1 p.2.1 p.2.2
  | .ex e S => .ex e S
  | .no => .no
section
variable {α β : Type}
@[simp] theorem bx_ok (a : α) (f : α → R β) : bx (.ok a) f = f a := rfl
@[simp] theorem bd_ok (a : α) (S : Store) (f : α → Store → R β) : bd (.ok (a, S)) f = f a S := rfl
@[simp] theorem bs_ok (a : Fl) (σ : Env) (S : Store) (f : Fl → Env → Store → R β) : bs (.ok (a, σ, S)) f = f a σ S := rfl
end
abbrev Ex := Env → Store → R (D × Store)
abbrev As := Env → Store → R (List D × Store)
abbrev Bx := Env → Store → R (Bool × Store)
abbrev Sm := Env → Store → R (Fl × Env × Store)
abbrev Fn := List D → Store → R (D × Store)
abbrev Tg := PyData → Env → R Env
structure Src where
  items : List PyData
  g : List (Nat × Cell)
abbrev Is := Env → Store → R (Src × Store)
def dv (S : Store) : D → R PyData
  | .p d => .ok d
  | .ref i => match S[i]? with
    | some (.lst xs) => .ok (.list xs)
    | some (.flst xs) => .ok (.list xs)
    | some (.dct _ kvs) => .ok (.dict kvs)
    | some (.fdct _ kvs) => .ok (.dict kvs)
    | some (.nst _ _) => .no
    | some (.tab _ _) => .no
    | some (.tdc _) => .no
    | some (.tdv _ _) => .no
    | some .dead => .no
    | none => .no
  | .scr _ => .no
  | .rows _ _ _ => .no
  | .fn _ _ _ => .no
  | .exn _ => .no
def dvr (S : Store) : D → R PyData
  | .scr ns => .ok (.list (ns.map .int))
  | .p d => .ok d
  | .ref i => dv S (.ref i)
  | .rows _ _ _ => .no
  | .fn _ _ _ => .no
  | .exn _ => .no
def tvD (p : List Int × PyData) : PyData × PyData := (.tuple (p.1.map .int), p.2)
def fz (S : Store) : D → R (PyData × Store)
  | .p d => .ok (d, S)
  | .ref i => match S[i]? with
    | some (.lst xs) => .ok (.list xs, S.set i (.flst xs))
    | some (.flst xs) => .ok (.list xs, S)
    | some (.dct false (kv :: kvs)) => .ok (.dict (kv :: kvs), S.set i .dead)
    | some (.tdv _ (kv :: kvs)) => .ok (.dict ((kv :: kvs).map tvD), S.set i .dead)
    | _ => .no
  | .scr _ => .no
  | .rows _ _ _ => .no
  | .fn _ _ _ => .no
  | .exn _ => .no
def fzs : List D → Store → R (List PyData × Store)
  | [], S => .ok ([], S)
  | d :: ds, S => bd (fz S d) fun x S1 => bd (fzs ds S1) fun xs S2 => .ok (x :: xs, S2)
@[simp] theorem dv_p (S : Store) (d : PyData) : dv S (.p d) = .ok d := rfl
@[simp] theorem dvr_scr (S : Store) (ns : List Int) : dvr S (.scr ns) = .ok (.list (ns.map .int)) := rfl
@[simp] theorem dvr_p (S : Store) (d : PyData) : dvr S (.p d) = .ok d := rfl
@[simp] theorem dvr_ref (S : Store) (i : Nat) : dvr S (.ref i) = dv S (.ref i) := rfl
@[simp] theorem fz_p (S : Store) (d : PyData) : fz S (.p d) = .ok (d, S) := rfl
@[simp] theorem fzs_nil (S : Store) : fzs [] S = .ok ([], S) := rfl
@[simp] theorem fzs_cons (d : D) (ds : List D) (S : Store) : fzs (d :: ds) S = bd (fz S d) fun x S1 => bd (fzs ds S1) fun xs S2 => .ok (x :: xs, S2) := rfl
def b2i (b : Bool) : Int := if b then 1 else 0
abbrev Line : Nat := 16777216
def ints? : List PyData → Option (List Int)
  | [] => some []
  | .int i :: xs => (ints? xs).map (i :: ·)
  | _ :: _ => none
def bools? : List PyData → Option (List Bool)
  | [] => some []
  | .bool b :: xs => (bools? xs).map (b :: ·)
  | _ :: _ => none
def strs? : List PyData → Option (List Str)
  | [] => some []
  | .str b :: xs => (strs? xs).map (b :: ·)
  | _ :: _ => none
@[simp] theorem ints_map (xs : List Int) : ints? (xs.map .int) = some xs := by
  induction xs with
  | nil => rfl
  | cons x xs ih => simp [ints?, ih]
@[simp] theorem bools_map (xs : List Bool) : bools? (xs.map .bool) = some xs := by
  induction xs with
  | nil => rfl
  | cons x xs ih => simp [bools?, ih]
@[simp] theorem strs_map (xs : List Str) : strs? (xs.map .str) = some xs := by
  induction xs with
  | nil => rfl
  | cons x xs ih => simp [strs?, ih]
def items? : PyData → Option (List PyData)
  | .list xs => some xs
  | .tuple xs => some xs
  | _ => none
@[simp] theorem items_list (xs : List PyData) : items? (.list xs) = some xs := rfl
@[simp] theorem items_tuple (xs : List PyData) : items? (.tuple xs) = some xs := rfl
def orNo {α : Type} : Option α → R α
  | some a => .ok a
  | none => .no
@[simp] theorem orNo_some {α : Type} (a : α) : orNo (some a) = .ok a := rfl
def when_ {α : Type} (c : Bool) (r : R α) : R α := match c with
  | true => r
  | false => .no
@[simp] theorem when_true {α : Type} (r : R α) : when_ true r = r := rfl
def mulOk (i j : Int) : Bool := decide (i.natAbs.log2 + j.natAbs.log2 < 1000000)
def pAdd : PyData → PyData → R PyData
  | .int a, .int b => .ok (.int (a + b))
  | .str a, .str b => when_ (decide (a.length + b.length ≤ Line)) (.ok (.str (a ++ b)))
  | .tuple a, .tuple b => when_ (decide (a.length + b.length ≤ Line)) (.ok (.tuple (a ++ b)))
  | .list a, .list b => when_ (decide (a.length + b.length ≤ Line)) (.ok (.list (a ++ b)))
  | .int a, .bool b => .ok (.int (a + b2i b))
  | _, _ => .no
def pSub : PyData → PyData → R PyData
  | .int a, .int b => .ok (.int (a - b))
  | _, _ => .no
def pMul : PyData → PyData → R PyData
  | .int a, .int b => when_ (mulOk a b) (.ok (.int (a * b)))
  | .list a, .int k => when_ (decide (-(2 ^ 63) ≤ k ∧ k < 2 ^ 63 ∧ a.length * k.toNat ≤ Line)) (.ok (.list (List.replicate k.toNat a).flatten))
  | .tuple a, .int k => when_ (decide (a ≠ [] ∧ k ≤ 1000 ∧ 0 ≤ k ∧ a.length ≤ 1000)) (.ok (.tuple (List.replicate k.toNat a).flatten))
  | _, _ => .no
def pDiv : PyData → PyData → R PyData
  | .int a, .int b => when_ (decide (0 < b ∧ b.natAbs.log2 < 9000)) (.ok (.int (a / b)))
  | _, _ => .no
def pMod : PyData → PyData → R PyData
  | .int a, .int b => when_ (decide (0 < b)) (.ok (.int (a % b)))
  | _, _ => .no
def pPow : PyData → PyData → R PyData
  | .int a, .int b => when_ (decide (0 ≤ b ∧ b ≤ 1000 ∧ a.natAbs.log2 < 10000)) (.ok (.int (a ^ b.toNat)))
  | _, _ => .no
def pNeg : PyData → R PyData
  | .int a => .ok (.int (-a))
  | _ => .no
def pNot : PyData → R PyData
  | .bool a => .ok (.bool (!a))
  | _ => .no
def flat? (d : PyData) : Bool := d.plain && decide (d.depth ≤ 1000)
def pEq (x y : PyData) : R PyData := when_ (flat? x && flat? y) (.ok (.bool (PyData.eqv x y)))
def pNe (x y : PyData) : R PyData := when_ (flat? x && flat? y) (.ok (.bool (!PyData.eqv x y)))
def isNone : PyData → Bool
  | .none => true
  | _ => false
def cmp? (x y : PyData) : Bool := PySem.W.alike x y && !isNone x && flat? x && flat? y
def pLt (x y : PyData) : R PyData := match x, y with
  | .int a, .int b => .ok (.bool (decide (a < b)))
  | x, y => when_ (cmp? x y) (.ok (.bool (PySem.W.dataLt x y)))
def pGt (x y : PyData) : R PyData := match x, y with
  | .int a, .int b => .ok (.bool (decide (b < a)))
  | x, y => when_ (cmp? x y) (.ok (.bool (PySem.W.dataLt y x)))
def pLe (x y : PyData) : R PyData := match x, y with
  | .int a, .int b => .ok (.bool (decide (a ≤ b)))
  | x, y => when_ (cmp? x y) (.ok (.bool (!PySem.W.dataLt y x)))
def pGe (x y : PyData) : R PyData := match x, y with
  | .int a, .int b => .ok (.bool (decide (b ≤ a)))
  | x, y => when_ (cmp? x y) (.ok (.bool (!PySem.W.dataLt x y)))
def hasKey (kvs : List (PyData × PyData)) (k : PyData) : Bool := kvs.any fun kv => PyData.eqv kv.1 k
def look (kvs : List (PyData × PyData)) (k : PyData) : Option PyData := match kvs with
  | [] => none
  | (a, v) :: r => if PyData.eqv a k = true then some v else look r k
def put (kvs : List (PyData × PyData)) (k v : PyData) : List (PyData × PyData) :=
  if hasKey kvs k = true then kvs.map fun kv => if PyData.eqv kv.1 k = true then (kv.1, v) else kv else kvs ++ [(k, v)]
def flatKey : PyData → Bool
  | .int _ => true
  | .str _ => true
  | _ => false
def keyOk (t : Bool) : PyData → Bool
  | .int _ => !t
  | .str _ => !t
  | .tuple xs => t && xs.all flatKey
  | _ => false
def inItems (x : PyData) (xs : List PyData) : Bool := xs.any fun y => PyData.eqv y x
def pIn : PyData → PyData → R PyData
  | x, .list xs => when_ (flat? x && flat? (.list xs)) (.ok (.bool (inItems x xs)))
  | x, .tuple xs => when_ (flat? x && flat? (.tuple xs)) (.ok (.bool (inItems x xs)))
  | .str x, .str y => .ok (.bool (!(Builtin.Str.occurrences y x 0 y.length 1).isEmpty))
  | _, _ => .no
def pNotIn : PyData → PyData → R PyData
  | x, .list xs => when_ (flat? x && flat? (.list xs)) (.ok (.bool (!inItems x xs)))
  | x, .tuple xs => when_ (flat? x && flat? (.tuple xs)) (.ok (.bool (!inItems x xs)))
  | .str x, .str y => .ok (.bool (!(!(Builtin.Str.occurrences y x 0 y.length 1).isEmpty)))
  | _, _ => .no
def ixN (n : Nat) (i : Int) : Option Nat := if 0 ≤ i then (if i < n then some i.toNat else none) else if -(n : Int) ≤ i then some (i + n).toNat else none
def atD {α : Type} (xs : List α) (i : Int) : Option α := (ixN xs.length i).bind fun j => xs[j]?
def pIx : PyData → PyData → R PyData
  | .list xs, .int i => orNo (atD xs i)
  | .tuple xs, .int i => orNo (atD xs i)
  | .str z, .int i => when_ (decide (z.length ≤ Line)) (orNo ((atD z.cps.toList i).map fun c => .str ⟨#[c]⟩))
  | _, _ => .no
def sIx (n d : Nat) : Option Int → Nat
  | none => d
  | some v => (if v < 0 then max (v + (n : Int)) 0 else min v (n : Int)).toNat
def cut {α : Type} (xs : List α) (lo hi : Option Int) : List α := (xs.drop (sIx xs.length 0 lo)).take (sIx xs.length xs.length hi - sIx xs.length 0 lo)
def pCut (x : PyData) (lo hi : Option Int) : R PyData := match x with
  | .list xs => .ok (.list (cut xs lo hi))
  | .tuple xs => .ok (.tuple (cut xs lo hi))
  | _ => .no
def pLen : PyData → R PyData
  | .dict xs => .ok (.int xs.length)
  | .list xs => .ok (.int xs.length)
  | .tuple xs => .ok (.int xs.length)
  | .str z => when_ (decide (z.length ≤ Line)) (.ok (.int z.length))
  | _ => .no
def pAbs : PyData → R PyData
  | .int a => .ok (.int (if a < 0 then -a else a))
  | _ => .no
def pMax2 : PyData → PyData → R PyData
  | .int a, .int b => .ok (.int (if b > a then b else a))
  | _, _ => .no
def pMin2 : PyData → PyData → R PyData
  | .int a, .int b => .ok (.int (if b < a then b else a))
  | _, _ => .no
def pAll : PyData → R PyData
  | .list xs => orNo ((bools? xs).map fun bs => .bool (bs.all id))
  | _ => .no
def pInt : PyData → R PyData
  | .int a => .ok (.int a)
  | .bool b => .ok (.int (b2i b))
  | _ => .no
def pRepr (x : PyData) : R PyData := when_ (x.showable && !x.hasDict && x.plain && decide (x.depth ≤ 1000) && decide (x.shown.length ≤ Line)) (.ok (.str x.shown))
def isDict0 : PyData → Bool
  | .dict [] => true
  | _ => false
def pList : PyData → R PyData
  | .list xs => .ok (.list xs)
  | .tuple xs => .ok (.list xs)
  | _ => .no
def pTuple : PyData → R PyData
  | .list xs => .ok (.tuple xs)
  | .tuple xs => .ok (.tuple xs)
  | _ => .no
def tup1 : PyData → Bool
  | .tuple (_ :: _) => true
  | _ => false
def notTup : PyData → Bool
  | .none => false
  | .tuple _ => false
  | _ => true
def sortOk (xs : List PyData) : Bool := (xs.all fun x => xs.all fun y => PySem.W.alike x y) && (xs.all tup1 || xs.all notTup) && (xs.all fun x => decide (x.depth ≤ 1000))
def sortD (xs : List PyData) : List PyData := xs.mergeSort (PySem.W.dataLe false fun d => d)
def keyNT : List (PyData × PyData) → Bool
  | (.tuple _, _) :: _ => false
  | _ => true
def its? : PyData → Option (List PyData)
  | .list xs => some xs
  | .tuple xs => some xs
  | .dict kvs => if keyNT kvs = true then some (kvs.map (·.1)) else none
  | _ => none
def pSorted (x : PyData) : R PyData := orNo ((its? x).bind fun xs => if sortOk xs = true then some (.list (sortD xs)) else none)
def pIsa (T : String) (x : PyData) : R PyData := when_ (x.plain || isDict0 x) (match T with
  | "int" => .ok (.bool x.isInt)
  | "bool" => .ok (.bool x.isBool)
  | "str" => .ok (.bool x.isStr)
  | "tuple" => .ok (.bool x.isTuple)
  | "list" => .ok (.bool x.isList)
  | _ => .no)
def pIndex (a x : PyData) : R PyData := match x with
  | .int k => bx (orNo ((items? a).bind ints?)) fun ns => when_ (decide (k ∈ ns)) (.ok (.int (ns.idxOf k : Nat)))
  | .str k => bx (orNo ((items? a).bind strs?)) fun ns => when_ (decide (k ∈ ns)) (.ok (.int (ns.idxOf k : Nat)))
  | _ => .no
def mC (d : PyData) : Ex := fun _ S => .ok (.p d, S)
def mV (i : Nat) : Ex := fun σ S => match σ[i]? with
  | some (some d) => .ok (d, S)
  | _ => .no
def mO1 (f : PyData → R PyData) (a : Ex) : Ex := fun σ S => bd (a σ S) fun x S1 => bx (dv S1 x) fun u => bx (f u) fun z => .ok (.p z, S1)
def mO2 (f : PyData → PyData → R PyData) (a b : Ex) : Ex := fun σ S => bd (a σ S) fun x S1 => bd (b σ S1) fun y S2 => bx (dv S2 x) fun u => bx (dv S2 y) fun v => bx (f u v) fun z => .ok (.p z, S2)
def dictOf (S : Store) : D → Option (Bool × List (PyData × PyData))
  | .ref i => match S[i]? with
    | some (.dct t kvs) => some (t, kvs)
    | some (.fdct t kvs) => some (t, kvs)
    | _ => none
  | _ => none
@[simp] theorem dictOf_p (S : Store) (d : PyData) : dictOf S (.p d) = none := rfl
@[simp] theorem dictOf_scr (S : Store) (ns : List Int) : dictOf S (.scr ns) = none := rfl
def mIn (a b : Ex) : Ex := fun σ S => bd (a σ S) fun x S1 => bd (b σ S1) fun y S2 => bx (dv S2 x) fun u => match dictOf S2 y with
  | some (t, kvs) => when_ (!t && keyOk t u) (.ok (.p (.bool (hasKey kvs u)), S2))
  | none => bx (dv S2 y) fun v => bx (pIn u v) fun z => .ok (.p z, S2)
def mNotIn (a b : Ex) : Ex := fun σ S => bd (a σ S) fun x S1 => bd (b σ S1) fun y S2 => bx (dv S2 x) fun u => match dictOf S2 y with
  | some (t, kvs) => when_ (!t && keyOk t u) (.ok (.p (.bool (!hasKey kvs u)), S2))
  | none => bx (dv S2 y) fun v => bx (pNotIn u v) fun z => .ok (.p z, S2)
def mIx (a b : Ex) : Ex := fun σ S => bd (a σ S) fun x S1 => bd (b σ S1) fun y S2 => match dictOf S2 x with
  | some (t, kvs) => bx (dv S2 y) fun v => when_ (!t && keyOk t v) (bx (orNo (look kvs v)) fun z => .ok (.p z, S2))
  | none => bx (dvr S2 x) fun u => bx (dv S2 y) fun v => bx (pIx u v) fun z => .ok (.p z, S2)
def mLen (a : Ex) : Ex := fun σ S => bd (a σ S) fun x S1 => bx (dvr S1 x) fun u => bx (pLen u) fun z => .ok (.p z, S1)
def mCh (f g : PyData → PyData → R PyData) (a b c : Ex) : Ex := fun σ S => bd (a σ S) fun x S1 => bd (b σ S1) fun y S2 => bx (dv S2 x) fun u => bx (dv S2 y) fun v => bx (f u v) fun z => match z with
  | .bool true => bd (c σ S2) fun t S3 => bx (dv S3 y) fun v' => bx (dv S3 t) fun w => bx (g v' w) fun z' => .ok (.p z', S3)
  | .bool false => .ok (.p (.bool false), S2)
  | _ => .no
def tE (a : Ex) : Bx := fun σ S => bd (a σ S) fun x S1 => match x with
  | .p (.bool b) => .ok (b, S1)
  | _ => .no
def tAnd (a b : Bx) : Bx := fun σ S => bd (a σ S) fun x S1 => if x = true then b σ S1 else .ok (false, S1)
def tOr (a b : Bx) : Bx := fun σ S => bd (a σ S) fun x S1 => if x = true then .ok (true, S1) else b σ S1
def tNot (a : Bx) : Bx := fun σ S => bd (a σ S) fun x S1 => .ok (!x, S1)
def tYes : Bx := fun _ S => .ok (true, S)
def mAnd (a b : Ex) : Ex := fun σ S => bd (a σ S) fun x S1 => match x with
  | .p (.bool true) => b σ S1
  | .p (.bool false) => .ok (.p (.bool false), S1)
  | _ => .no
def mOr (a b : Ex) : Ex := fun σ S => bd (a σ S) fun x S1 => match x with
  | .p (.bool false) => b σ S1
  | .p (.bool true) => .ok (.p (.bool true), S1)
  | _ => .no
def mIf (t : Bx) (a b : Ex) : Ex := fun σ S => bd (t σ S) fun x S1 => if x = true then a σ S1 else b σ S1
def isN : D → Bool
  | .p .none => true
  | _ => false
def mIsN (a : Ex) : Ex := fun σ S => bd (a σ S) fun x S1 => .ok (.p (.bool (isN x)), S1)
def mNotN (a : Ex) : Ex := fun σ S => bd (a σ S) fun x S1 => .ok (.p (.bool (!isN x)), S1)
def pIsNotB : PyData → PyData → R PyData
  | .bool a, .bool b => .ok (.bool (!decide (a = b)))
  | _, _ => .no
def aNil : As := fun _ S => .ok ([], S)
def aCons (a : Ex) (r : As) : As := fun σ S => bd (a σ S) fun x S1 => bd (r σ S1) fun xs S2 => .ok (x :: xs, S2)
def mTup (as : As) : Ex := fun σ S => bd (as σ S) fun ds S1 => bd (fzs ds S1) fun xs S2 => when_ (decide (xs.length ≤ Line)) (.ok (.p (.tuple xs), S2))
def mLst (as : As) : Ex := fun σ S => bd (as σ S) fun ds S1 => bd (fzs ds S1) fun xs S2 => when_ (decide (xs.length ≤ Line)) (.ok (.p (.list xs), S2))
def mCall (f : Fn) (as : As) : Ex := fun σ S => bd (as σ S) fun ds S1 => f ds S1
def mNew (a : Ex) : Ex := fun σ S => bd (a σ S) fun x S1 => match x with
  | .p (.list xs) => .ok (.ref S1.length, S1 ++ [.lst xs])
  | _ => .no
def mDict (t : Bool) : Ex := fun _ S => .ok (.ref S.length, S ++ [.dct t []])
abbrev Po := Env → Store → R (Option Int × Store)
def oNo : Po := fun _ S => .ok (none, S)
def oE (a : Ex) : Po := fun σ S => bd (a σ S) fun x S1 => match x with
  | .p (.int i) => .ok (some i, S1)
  | _ => .no
def mCut (a : Ex) (lo hi : Po) : Ex := fun σ S => bd (a σ S) fun x S1 => bd (lo σ S1) fun l S2 => bd (hi σ S2) fun h S3 => bx (dv S3 x) fun u => bx (pCut u l h) fun z => .ok (.p z, S3)
def rgD (a b : Int) : List PyData := (List.range (b - a).toNat).map fun (i : Nat) => PyData.int (a + (i : Int))
def rgOk (a b : Int) : Bool := decide (-(2 ^ 62) ≤ a ∧ a.toNat < 2 ^ 62 ∧ -(2 ^ 62) ≤ b ∧ b.toNat < 2 ^ 62 ∧ (b - a).toNat ≤ 2 ^ 24)
def pRgL : PyData → PyData → R PyData
  | .int a, .int b => when_ (rgOk a b) (.ok (.list (rgD a b)))
  | _, _ => .no
def lstAt (S : Store) : D → Bool
  | .ref i => match S[i]? with
    | some (.lst _) => true
    | _ => false
  | _ => false
def mAppend (o a : Ex) : Ex := fun σ S => bd (o σ S) fun x S1 => when_ (lstAt S1 x) (bd (a σ S1) fun y S2 => bd (fz S2 y) fun d S3 => match x with
  | .ref i => match S3[i]? with
    | some (.lst xs) => when_ (decide (xs.length < Line)) (.ok (.p .none, S3.set i (.lst (xs ++ [d]))))
    | _ => .no
  | _ => .no)
def mExtend (o a : Ex) : Ex := fun σ S => bd (o σ S) fun x S1 => when_ (lstAt S1 x) (bd (a σ S1) fun y S2 => bx (dv S2 y) fun d => match x with
  | .ref i => match S2[i]?, d with
    | some (.lst xs), .list ys => when_ (decide (xs.length + ys.length ≤ Line)) (.ok (.p .none, S2.set i (.lst (xs ++ ys))))
    | _, _ => .no
  | _ => .no)
def mPop0 (o : Ex) : Ex := fun σ S => bd (o σ S) fun x S1 => match x with
  | .ref i => match S1[i]? with
    | some (.lst xs) => bx (orNo xs.getLast?) fun y => .ok (.p y, S1.set i (.lst xs.dropLast))
    | _ => .no
  | _ => .no
def mPop1 (o a : Ex) : Ex := fun σ S => bd (o σ S) fun x S1 => when_ (lstAt S1 x) (bd (a σ S1) fun y S2 => match x, y with
  | .ref i, .p (.int k) => match S2[i]? with
    | some (.lst xs) => when_ (decide (xs.length ≤ Line)) (bx (orNo (ixN xs.length k)) fun j => bx (orNo xs[j]?) fun z => .ok (.p z, S2.set i (.lst (xs.eraseIdx j))))
    | _ => .no
  | _, _ => .no)
def isTup : PyData → Bool
  | .tuple _ => true
  | _ => false
def mIndex (o a : Ex) : Ex := fun σ S => bd (o σ S) fun x S1 => bx (dv S1 x) fun u0 => when_ (items? u0).isSome (bd (a σ S1) fun y S2 => bx (dv S2 x) fun u => bx (dv S2 y) fun v => when_ (decide (isTup u0 = isTup u)) (bx (pIndex u v) fun z => .ok (.p z, S2)))
def srcOf (S : Store) : D → R Src
  | .p (.list xs) => .ok ⟨xs, []⟩
  | .p (.tuple xs) => .ok ⟨xs, []⟩
  | .ref i => match S[i]? with
    | some (.lst xs) => .ok ⟨xs, [(i, .lst xs)]⟩
    | some (.flst xs) => .ok ⟨xs, []⟩
    | _ => .no
  | _ => .no
def iE (a : Ex) : Is := fun σ S => bd (a σ S) fun x S1 => bx (srcOf S1 x) fun s => .ok (s, S1)
def iR1 (a : Ex) : Is := fun σ S => bd (a σ S) fun x S1 => match x with
  | .p (.int n) => when_ (decide (-(2 ^ 62) ≤ n ∧ n.toNat < 2 ^ 62)) (.ok (⟨rgD 0 n, []⟩, S1))
  | _ => .no
def iR2 (a b : Ex) : Is := fun σ S => bd (a σ S) fun x S1 => bd (b σ S1) fun y S2 => match x, y with
  | .p (.int m), .p (.int n) => when_ (decide (-(2 ^ 62) ≤ m ∧ m.toNat < 2 ^ 62 ∧ -(2 ^ 62) ≤ n ∧ n.toNat < 2 ^ 62)) (.ok (⟨rgD m n, []⟩, S2))
  | _, _ => .no
def numD (k : Nat) : List PyData → List PyData
  | [] => []
  | x :: xs => .tuple [.int k, x] :: numD (k + 1) xs
def iEnum (a : Ex) : Is := fun σ S => bd (a σ S) fun x S1 => bx (srcOf S1 x) fun s => .ok (⟨numD 0 s.items, s.g⟩, S1)
def tupD : D → Bool
  | .p (.tuple _) => true
  | _ => false
def zipD (xs ys : List PyData) : List PyData := (xs.zip ys).map fun p => .tuple [p.1, p.2]
def iZip (a b : Ex) : Is := fun σ S => bd (a σ S) fun x S1 => bd (b σ S1) fun y S2 => bx (srcOf S2 x) fun s => bx (srcOf S2 y) fun t => .ok (⟨zipD s.items t.items, s.g ++ t.g⟩, S2)
open Classical in
noncomputable def stand (g : List (Nat × Cell)) (S : Store) : Bool := decide (∀ p ∈ g, S[p.1]? = some p.2)
@[simp] theorem stand_nil (S : Store) : stand [] S = true := by unfold stand; simp
theorem stand_one {i : Nat} {c : Cell} {S : Store} (h : S[i]? = some c) : stand [(i, c)] S = true := by unfold stand; simp [h]
def gN (i : Nat) : Tg := fun x σ => .ok (σ.set i (some (.p x)))
def gAll : List Tg → List PyData → Env → R Env
  | [], [], σ => .ok σ
  | t :: ts, x :: xs, σ => bx (t x σ) fun σ1 => gAll ts xs σ1
  | _, _, _ => .no
def gT (ts : List Tg) : Tg := fun x σ => match x with
  | .tuple xs => gAll ts xs σ
  | .list xs => gAll ts xs σ
  | _ => .no
def wipe (σ : Env) : List Nat → Env
  | [] => σ
  | i :: r => (wipe σ r).set i none
section
variable (own : List Nat) (tg : Tg) (cond : Bx) (elt : Ex) (g : List (Nat × Cell)) (σ : Env)
noncomputable def compL : List PyData → List PyData → Store → R (D × Store)
  | [], acc, S => when_ (stand g (S ++ [.lst acc])) (.ok (.p (.list acc), S))
  | x :: xs, acc, S => when_ (stand g (S ++ [.lst acc])) (bx (tg x (wipe σ own)) fun σ1 => bd (cond σ1 (S ++ [.lst acc])) fun b S1 => if b = true then bd (elt σ1 S1) fun y S2 => bd (fz S2 y) fun d S3 => when_ (stand [(S.length, .lst acc)] S3) (compL xs (acc ++ [d]) (S3.take S.length))
      else when_ (stand [(S.length, .lst acc)] S1) (compL xs acc (S1.take S.length)))
end
noncomputable def mComp (own : List Nat) (src : Is) (tg : Tg) (cond : Bx) (elt : Ex) : Ex := fun σ S => bd (src σ S) fun s S1 => when_ (decide (s.items.length ≤ Line)) (compL own tg cond elt s.g σ s.items [] S1)
def sPass : Sm := fun σ S => .ok (.nx, σ, S)
def sSeq (a b : Sm) : Sm := fun σ S => bs (a σ S) fun f σ1 S1 => match f with
  | .nx => b σ1 S1
  | _ => .ok (f, σ1, S1)
def sAsg (i : Nat) (a : Ex) : Sm := fun σ S => bd (a σ S) fun x S1 => .ok (.nx, σ.set i (some x), S1)
def setAll : List Nat → List D → Env → Env
  | i :: is, d :: ds, σ => setAll is ds (σ.set i (some d))
  | _, _, σ => σ
def sPar (is : List Nat) (as : As) : Sm := fun σ S => bd (as σ S) fun ds S1 => when_ (decide (ds.length = is.length)) (.ok (.nx, setAll is ds σ, S1))
def pv : D → R PyData
  | .p d => .ok d
  | _ => .no
def sUnp (t : Tg) (a : Ex) : Sm := fun σ S => bd (a σ S) fun x S1 => bx (pv x) fun u => bx (t u σ) fun σ1 => .ok (.nx, σ1, S1)
def sDrop (a : Ex) : Sm := fun σ S => bd (a σ S) fun _ S1 => .ok (.nx, σ, S1)
def sRet (a : Ex) : Sm := fun σ S => bd (a σ S) fun x S1 => .ok (.rt x, σ, S1)
def sIf (t : Bx) (a b : Sm) : Sm := fun σ S => bd (t σ S) fun x S1 => if x = true then a σ S1 else b σ S1
def sBreak : Sm := fun σ S => .ok (.bk, σ, S)
def sCont : Sm := fun σ S => .ok (.ct, σ, S)
def sAug (i : Nat) (f : PyData → PyData → R PyData) (a : Ex) : Sm := fun σ S => match σ[i]? with
  | some (some (.p u)) => bd (a σ S) fun y S1 => bx (dv S1 y) fun v => bx (f u v) fun z => .ok (.nx, σ.set i (some (.p z)), S1)
  | _ => .no
def sSetL (o i a : Ex) : Sm := fun σ S => bd (a σ S) fun y S1 => bd (o σ S1) fun x S2 => bd (i σ S2) fun k S3 => bd (fz S3 y) fun d S4 => match x, k with
  | .ref j, .p (.int n) => match S4[j]? with
    | some (.lst xs) => bx (orNo (ixN xs.length n)) fun m => .ok (.nx, σ, S4.set j (.lst (xs.set m d)))
    | _ => .no
  | _, _ => .no
def sSetD (o i a : Ex) : Sm := fun σ S => bd (a σ S) fun y S1 => bd (o σ S1) fun x S2 => bd (i σ S2) fun k S3 => bd (fz S3 y) fun d S4 => bx (dv S4 k) fun kd => match x with
  | .ref j => match S4[j]? with
    | some (.dct t kvs) => when_ (!t && keyOk t kd && decide (kvs.length < Line)) (.ok (.nx, σ, S4.set j (.dct t (put kvs kd d))))
    | _ => .no
  | _ => .no
section
variable (tg : Tg) (g : List (Nat × Cell)) (body : Sm)
noncomputable def forL : List PyData → Sm
  | [], σ, S => when_ (stand g S) (.ok (.nx, σ, S))
  | x :: xs, σ, S => when_ (stand g S) (bx (tg x σ) fun σ1 => bs (body σ1 S) fun f σ2 S2 => match f with
    | .nx => forL xs σ2 S2
    | .ct => forL xs σ2 S2
    | .bk => .ok (.nx, σ2, S2)
    | .rt d => .ok (.rt d, σ2, S2))
end
noncomputable def sFor (src : Is) (tg : Tg) (body : Sm) : Sm := fun σ S => bd (src σ S) fun s S1 => forL tg s.g body s.items σ S1
section
variable (t : Bx) (body : Sm)
def whileF : Nat → Sm
  | 0, _, _ => .no
  | n + 1, σ, S => bd (t σ S) fun b S1 => if b = true then bs (body σ S1) fun f σ2 S2 => match f with
    | .nx => whileF n σ2 S2
    | .ct => whileF n σ2 S2
    | .bk => .ok (.nx, σ2, S2)
    | .rt d => .ok (.rt d, σ2, S2)
    else .ok (.nx, σ, S1)
end
def FUEL : Nat := 100000000
def sWhile (t : Bx) (body : Sm) : Sm := whileF t body FUEL
def sNever : Sm := fun _ _ => .no
def fin (n : Nat) (d : D) (S : Store) : R (D × Store) := match d with
  | .p x => .ok (.p x, S.take n)
  | .scr ns => .ok (.scr ns, S.take n)
  | .ref i => if i < n then .ok (.ref i, S.take n) else match S[i]? with
    | some (.lst xs) => .ok (.p (.list xs), S.take n)
    | some (.flst xs) => .ok (.p (.list xs), S.take n)
    | some c => .ok (.ref n, S.take n ++ [c])
    | none => .no
  | .rows _ _ _ => .no
  | .fn _ _ _ => .no
  | .exn _ => .no
def finM (n : Nat) (d : D) (S : Store) : R (D × Store) := match d with
  | .p x => .ok (.p x, S.take n)
  | .scr ns => .ok (.scr ns, S.take n)
  | .ref i => if i < n then .ok (.ref i, S.take n) else match S[i]? with
    | some c => .ok (.ref n, S.take n ++ [c])
    | none => .no
  | .rows _ _ _ => .no
  | .fn _ _ _ => .no
  | .exn _ => .no
def cutEx {α : Type} (n : Nat) : R α → R α
  | .ex e S => .ex e (S.take n)
  | r => r
def start (slots : Nat) (ds : List D) : Env := ds.map some ++ List.replicate (slots - ds.length) none
def fnOf (fi : Nat → D → Store → R (D × Store)) (np slots : Nat) (body : Sm) : Fn := fun ds S => when_ (decide (ds.length = np)) (cutEx S.length (bs (body (start slots ds) S) fun f _ S1 => match f with
  | .rt d => fi S.length d S1
  | .nx => fi S.length (.p .none) S1
  | _ => .no))
end Mi
end
section
namespace Mi
open PySem PySem.Spec PyProof.Rows L2
def Cell.free (c : Cell) : Bool := match c with
  | .lst _ => true
  | .dct _ _ => true
  | .nst _ _ => true
  | .tab _ _ => true
  | .tdc _ => true
  | .tdv b _ => b
  | _ => false
def Live (ρ : List Addr) (S : Store) (a : Addr) : Prop := ∃ (i : Nat) (c : Cell), ρ[i]? = some a ∧ S[i]? = some c ∧ c.free = true
def TupAt (H : Hp) (a : Addr) (xs : List V) : Prop := ∃ o : Obj, H a = some (.frz o (.tup xs)) ∧ o.dict = none ∧ o.cls = .type "tuple"
theorem TupAt.sq {K : PySem.W.Frag} {H : Hp} {a : Addr} {xs : List V} (h : TupAt H a xs) : SqT K H a xs := by
  obtain ⟨o, h, _⟩ := h
  exact .inl (.inr ⟨o, h⟩)
section
variable (K : PySem.W.Frag)
def keyD : Key → PyData
  | .inl i => .int i
  | .inr x => .str x
def DTfv (o : Obj) (xs : List (List Int × Addr × V)) (a : Addr) (h : Heap) : Prop := ∃ (P : Program) (w : World) (es : Array DictEntry) (ep : Nat) (us : List Value), Vals (xs.map fun x => x.2.2) us ∧ h.get? a = some o ∧ o.ExactDict ∧ o.data = .dict es ep ∧
  es.toList = ((xs.zip us).map fun p => (p.1.1, p.1.2.1, p.2)).map (entryOfKey (tupleKind (PySem.intKind P w)))
def DtOk (xs : List (List Int × Addr × V)) (a : Addr) : Prop := xs ≠ [] ∧ (xs.map (·.1)).Nodup ∧ (a == sysModules) = false ∧ xs.length ≤ sizeLine
mutual
inductive Pd (L : Addr → Prop) (H : Hp) : V → PyData → Prop
  | non : Pd L H .non .none
  | bl (b : Bool) : Pd L H (.bl b) (.bool b)
  | int (i : Int) : Pd L H (.int i) (.int i)
  | str (x : Str) : Pd L H (.str x) (.str x)
  | lst {a : Addr} {xs : List V} {ds : List PyData} : H a = some (.lst xs) → ¬ L a → Pds L H xs ds → Pd L H (.ref a) (.list ds)
  | tup {a : Addr} {xs : List V} {ds : List PyData} : TupAt H a xs → Pds L H xs ds → Pd L H (.ref a) (.tuple ds)
  | dct {a : Addr} : H a = some (.dK []) → ¬ L a → Pd L H (.ref a) (.dict [])
  | dk {a : Addr} {us : List (Key × V)} {kvs : List (PyData × PyData)} : H a = some (.dK us) → ¬ L a → Kvp L H us kvs → us ≠ [] → Pd L H (.ref a) (.dict kvs)
  | dt {a : Addr} {o : Obj} {xs : List (List Int × Addr × V)} {kvs : List (PyData × PyData)} : H a = some (.ext (DTfv o xs a)) → ¬ L a → Kvt L H xs kvs → DtOk xs a → Pd L H (.ref a) (.dict kvs)
inductive Pds (L : Addr → Prop) (H : Hp) : List V → List PyData → Prop
  | nil : Pds L H [] []
  | cons {v : V} {vs : List V} {d : PyData} {ds : List PyData} : Pd L H v d → Pds L H vs ds → Pds L H (v :: vs) (d :: ds)
inductive Kvp (L : Addr → Prop) (H : Hp) : List (Key × V) → List (PyData × PyData) → Prop
  | nil : Kvp L H [] []
  | cons {k : Key} {v : V} {d : PyData} {r : List (Key × V)} {s : List (PyData × PyData)} : Pd L H v d → Kvp L H r s → Kvp L H ((k, v) :: r) ((keyD k, d) :: s)
inductive Kvt (L : Addr → Prop) (H : Hp) : List (List Int × Addr × V) → List (PyData × PyData) → Prop
  | nil : Kvt L H [] []
  | cons {k : List Int} {b : Addr} {v : V} {d : PyData} {r : List (List Int × Addr × V)} {s : List (PyData × PyData)} : TupAt H b (k.map V.int) → Pd L H v d → Kvt L H r s → Kvt L H ((k, b, v) :: r) ((.tuple (k.map .int), d) :: s)
end
structure Gr (L L' : Addr → Prop) (H H' : Hp) : Prop where
  live : ∀ a, L' a → L a ∨ H a = none
  keep : ∀ a o, H a = some o → ¬ L a → H' a = some o
  there : ∀ a, H' a = none → H a = none
  frzs : ∀ a o u, H a = some (.frz o u) → H' a = some (.frz o u)
end
section
variable {K : PySem.W.Frag} {L L' L'' : Addr → Prop} {H H' H'' : Hp}
theorem Gr.refl : Gr L L H H := ⟨fun _ h => .inl h, fun _ _ h _ => h, fun _ h => h, fun _ _ _ h => h⟩
theorem Gr.trans (a : Gr L L' H H') (b : Gr L' L'' H' H'') : Gr L L'' H H'' where
  live := fun x h => by
    rcases b.live x h with h | h
    · exact a.live x h
    · exact .inr (a.there x h)
  keep := fun x o h n => by
    refine b.keep x o (a.keep x o h n) fun z => ?_
    rcases a.live x z with z | z
    · exact n z
    · rw [h] at z; cases z
  there := fun x h => a.there x (b.there x h)
  frzs := fun x o u h => b.frzs x o u (a.frzs x o u h)
theorem Gr.tup {a : Addr} {xs : List V} (g : Gr L L' H H') (h : TupAt H a xs) : TupAt H' a xs := by
  obtain ⟨o, h1, h2⟩ := h
  exact ⟨o, g.frzs a o _ h1, h2⟩
mutual
theorem Pd.mono (g : Gr L L' H H') : ∀ (d : PyData) (v : V), Pd L H v d → Pd L' H' v d
  | .none, _, .non => .non
  | .bool _, _, .bl b => .bl b
  | .int _, _, .int i => .int i
  | .str _, _, .str x => .str x
  | .list ds, _, .lst (a := a) h n r => .lst (g.keep _ _ h n) (fun z => by
      rcases g.live a z with z | z
      · exact n z
      · rw [h] at z; cases z) (Pds.mono g ds _ r)
  | .tuple ds, _, .tup h r => .tup (g.tup h) (Pds.mono g ds _ r)
  | .dict [], _, .dct (a := a) h n => .dct (g.keep _ _ h n) (fun z => by
      rcases g.live a z with z | z
      · exact n z
      · rw [h] at z; cases z)
  | .dict kvs, _, .dk (a := a) h n r ne => .dk (g.keep _ _ h n) (fun z => by
      rcases g.live a z with z | z
      · exact n z
      · rw [h] at z; cases z) (Kvp.mono g kvs _ r) ne
  | .dict kvs, _, .dt (a := a) h n r ne => .dt (g.keep _ _ h n) (fun z => by
      rcases g.live a z with z | z
      · exact n z
      · rw [h] at z; cases z) (Kvt.mono g kvs _ r) ne
theorem Pds.mono (g : Gr L L' H H') : ∀ (ds : List PyData) (vs : List V), Pds L H vs ds → Pds L' H' vs ds
  | [], _, .nil => .nil
  | d :: ds, _, .cons a b => .cons (Pd.mono g d _ a) (Pds.mono g ds _ b)
theorem Kvp.mono (g : Gr L L' H H') : ∀ (ds : List (PyData × PyData)) (vs : List (Key × V)), Kvp L H vs ds → Kvp L' H' vs ds
  | [], _, .nil => .nil
  | (_, d) :: ds, _, .cons a b => .cons (Pd.mono g d _ a) (Kvp.mono g ds _ b)
theorem Kvt.mono (g : Gr L L' H H') : ∀ (ds : List (PyData × PyData)) (vs : List (List Int × Addr × V)), Kvt L H vs ds → Kvt L' H' vs ds
  | [], _, .nil => .nil
  | (_, d) :: ds, _, .cons t a b => .cons (g.tup t) (Pd.mono g d _ a) (Kvt.mono g ds _ b)
end
mutual
theorem Pd.less (g : ∀ a, L' a → L a) : ∀ (d : PyData) (v : V), Pd L H v d → Pd L' H v d
  | .none, _, .non => .non
  | .bool _, _, .bl b => .bl b
  | .int _, _, .int i => .int i
  | .str _, _, .str x => .str x
  | .list ds, _, .lst h n r => .lst h (fun z => n (g _ z)) (Pds.less g ds _ r)
  | .tuple ds, _, .tup h r => .tup h (Pds.less g ds _ r)
  | .dict [], _, .dct h n => .dct h (fun z => n (g _ z))
  | .dict kvs, _, .dk h n r ne => .dk h (fun z => n (g _ z)) (Kvp.less g kvs _ r) ne
  | .dict kvs, _, .dt h n r ne => .dt h (fun z => n (g _ z)) (Kvt.less g kvs _ r) ne
theorem Pds.less (g : ∀ a, L' a → L a) : ∀ (ds : List PyData) (vs : List V), Pds L H vs ds → Pds L' H vs ds
  | [], _, .nil => .nil
  | d :: ds, _, .cons a b => .cons (Pd.less g d _ a) (Pds.less g ds _ b)
theorem Kvp.less (g : ∀ a, L' a → L a) : ∀ (ds : List (PyData × PyData)) (vs : List (Key × V)), Kvp L H vs ds → Kvp L' H vs ds
  | [], _, .nil => .nil
  | (_, d) :: ds, _, .cons a b => .cons (Pd.less g d _ a) (Kvp.less g ds _ b)
theorem Kvt.less (g : ∀ a, L' a → L a) : ∀ (ds : List (PyData × PyData)) (vs : List (List Int × Addr × V)), Kvt L H vs ds → Kvt L' H vs ds
  | [], _, .nil => .nil
  | (_, d) :: ds, _, .cons t a b => .cons t (Pd.less g d _ a) (Kvt.less g ds _ b)
end
theorem Pds.length : ∀ {vs : List V} {ds : List PyData}, Pds L H vs ds → vs.length = ds.length
  | _, _, .nil => rfl
  | _, _, .cons _ t => congrArg (· + 1) (Pds.length t)
theorem Pds.at : ∀ {vs : List V} {ds : List PyData}, Pds L H vs ds → ∀ {i : Nat} {d : PyData}, ds[i]? = some d → ∃ v, vs[i]? = some v ∧ Pd L H v d
  | _, _, .nil, i, d, h => by simp at h
  | _, _, .cons a t, 0, d, h => by
    simp at h
    subst h
    exact ⟨_, rfl, a⟩
  | _, _, .cons a t, i + 1, d, h => by
    obtain ⟨v, h1, h2⟩ := Pds.at t (i := i) (by simpa using h)
    exact ⟨v, by simpa using h1, h2⟩
theorem Pds.append : ∀ {vs ws : List V} {ds es : List PyData}, Pds L H vs ds → Pds L H ws es → Pds L H (vs ++ ws) (ds ++ es)
  | _, _, _, _, .nil, b => b
  | _, _, _, _, .cons a t, b => .cons a (Pds.append t b)
theorem Pds.take : ∀ {vs : List V} {ds : List PyData} (n : Nat), Pds L H vs ds → Pds L H (vs.take n) (ds.take n)
  | _, _, 0, _ => .nil
  | _, _, _ + 1, .nil => .nil
  | _, _, n + 1, .cons a t => .cons a (Pds.take n t)
theorem Pds.drop : ∀ {vs : List V} {ds : List PyData} (n : Nat), Pds L H vs ds → Pds L H (vs.drop n) (ds.drop n)
  | _, _, 0, r => r
  | _, _, _ + 1, .nil => .nil
  | _, _, n + 1, .cons a t => Pds.drop n t
theorem Pds.set {v : V} {d : PyData} (r : Pd L H v d) : ∀ {vs : List V} {ds : List PyData} (i : Nat), Pds L H vs ds → Pds L H (vs.set i v) (ds.set i d)
  | _, _, _, .nil => .nil
  | _, _, 0, .cons _ t => .cons r t
  | _, _, i + 1, .cons a t => .cons a (Pds.set r i t)
theorem Pds.erase : ∀ {vs : List V} {ds : List PyData} (i : Nat), Pds L H vs ds → Pds L H (vs.eraseIdx i) (ds.eraseIdx i)
  | _, _, _, .nil => .nil
  | _, _, 0, .cons _ t => t
  | _, _, i + 1, .cons a t => .cons a (Pds.erase i t)
theorem Pds.reverse {vs : List V} {ds : List PyData} (r : Pds L H vs ds) : Pds L H vs.reverse ds.reverse := by
  induction ds generalizing vs with
  | nil => cases r; exact .nil
  | cons d ds ih =>
    cases r with
    | cons a t =>
      rw [List.reverse_cons, List.reverse_cons]
      exact Pds.append (ih t) (.cons a .nil)
theorem Pds.rep {vs : List V} {ds : List PyData} (r : Pds L H vs ds) : ∀ k : Nat, Pds L H (List.replicate k vs).flatten (List.replicate k ds).flatten
  | 0 => .nil
  | k + 1 => by
    rw [List.replicate_succ, List.replicate_succ, List.flatten_cons, List.flatten_cons]
    exact Pds.append r (Pds.rep r k)
theorem Pds.dropLast {vs : List V} {ds : List PyData} (r : Pds L H vs ds) : Pds L H vs.dropLast ds.dropLast := by
  rw [List.dropLast_eq_take, List.dropLast_eq_take, r.length]
  exact Pds.take _ r
theorem Pds.ints : ∀ {ds : List PyData} {ns : List Int} {vs : List V}, Pds L H vs ds → ints? ds = some ns → vs = ns.map V.int
  | [], ns, _, .nil, h => by
    simp [ints?] at h
    subst h
    rfl
  | .int i :: ds, ns, _, .cons (.int _) t, h => by
    simp only [ints?, Option.map_eq_some_iff] at h
    obtain ⟨ms, h1, h2⟩ := h
    subst h2
    rw [Pds.ints t h1]
    rfl
  | .none :: ds, ns, _, _, h => by simp [ints?] at h
  | .bool _ :: ds, ns, _, _, h => by simp [ints?] at h
  | .str _ :: ds, ns, _, _, h => by simp [ints?] at h
  | .list _ :: ds, ns, _, _, h => by simp [ints?] at h
  | .tuple _ :: ds, ns, _, _, h => by simp [ints?] at h
  | .dict _ :: ds, ns, _, _, h => by simp [ints?] at h
theorem Pds.bools : ∀ {ds : List PyData} {ns : List Bool} {vs : List V}, Pds L H vs ds → bools? ds = some ns → vs = ns.map V.bl
  | [], ns, _, .nil, h => by
    simp [bools?] at h
    subst h
    rfl
  | .bool i :: ds, ns, _, .cons (.bl _) t, h => by
    simp only [bools?, Option.map_eq_some_iff] at h
    obtain ⟨ms, h1, h2⟩ := h
    subst h2
    rw [Pds.bools t h1]
    rfl
  | .none :: ds, ns, _, _, h => by simp [bools?] at h
  | .int _ :: ds, ns, _, _, h => by simp [bools?] at h
  | .str _ :: ds, ns, _, _, h => by simp [bools?] at h
  | .list _ :: ds, ns, _, _, h => by simp [bools?] at h
  | .tuple _ :: ds, ns, _, _, h => by simp [bools?] at h
  | .dict _ :: ds, ns, _, _, h => by simp [bools?] at h
theorem pds_ints : ∀ ns : List Int, Pds L H (ns.map V.int) (ns.map .int)
  | [] => .nil
  | n :: ns => .cons (.int n) (pds_ints ns)
mutual
theorem Pd.dp : ∀ (d : PyData) (v : V), d.plain = true → Pd L H v d → Dp K H v d
  | .none, _, _, .non => .non
  | .bool _, _, _, .bl b => .bl b
  | .int _, _, _, .int i => .int i
  | .str _, _, _, .str x => .str x
  | .list ds, _, p, .lst h _ r => .lst (.of h) (Pds.dp ds _ (by rwa [PyData.plain] at p) r)
  | .tuple ds, _, p, .tup h r => .tup h.sq (Pds.dp ds _ (by rwa [PyData.plain] at p) r)
  | .dict [], _, p, .dct _ _ => by simp [PyData.plain] at p
  | .dict _, _, p, .dk _ _ _ _ => by simp [PyData.plain] at p
  | .dict _, _, p, .dt _ _ _ _ => by simp [PyData.plain] at p
theorem Pds.dp : ∀ (ds : List PyData) (vs : List V), PyData.plainAll ds = true → Pds L H vs ds → DpAll K H vs ds
  | [], _, _, .nil => .nil
  | d :: ds, _, p, .cons a b => by
    rw [PyData.plainAll, Bool.and_eq_true] at p
    exact .cons (Pd.dp d _ p.1 a) (Pds.dp ds _ p.2 b)
end
end
section
variable (K : PySem.W.Frag)
inductive KvK (L : Addr → Prop) (H : Hp) : List (Key × V) → List (PyData × PyData) → Prop
  | nil : KvK L H [] []
  | cons {k : Key} {v : V} {d : PyData} {r : List (Key × V)} {s : List (PyData × PyData)} : Pd L H v d → KvK L H r s → KvK L H ((k, v) :: r) ((keyD k, d) :: s)
inductive KvT (L : Addr → Prop) (H : Hp) : List (List Key × V) → List (PyData × PyData) → Prop
  | nil : KvT L H [] []
  | cons {k : List Key} {v : V} {d : PyData} {r : List (List Key × V)} {s : List (PyData × PyData)} : Pd L H v d → KvT L H r s → KvT L H ((k, v) :: r) ((.tuple (k.map keyD), d) :: s)
def TabL (L : Addr → Prop) (H : Hp) (a : Addr) (q : Str) : Prop := ∃ ps : Array Value, H a = some (.tbl ps) ∧ TriplesOk ps.toList ∧ ∀ (pos : Pos) (cv : Value), codeAmong pos ps.toList = some cv → ∃ c, cv = .ref c ∧ H c = some (LamX.CodeO c q) ∧ ¬ L c
def DTfx (xs : List (List Int × Addr)) (a : Addr) (h : Heap) : Prop := ∃ (P : Program) (w : World) (o : Obj) (es : Array DictEntry) (ep : Nat), h.get? a = some o ∧ o.ExactDict ∧ o.data = .dict es ep ∧
  es.toList = (xs.map fun x => (x.1, x.2, Value.bool true)).map (entryOfKey (tupleKind (PySem.intKind P w)))
def TdAt (H : Hp) (a : Addr) (ks : List (List Int)) : Prop := ∃ xs : List (List Int × Addr), xs.map (·.1) = ks ∧ H a = some (.ext (DTfx xs a)) ∧ (∀ x ∈ xs, TupAt H x.2 (x.1.map V.int)) ∧ ks.Nodup ∧ (a == sysModules) = false ∧ ks.length ≤ sizeLine
def CellOk (L : Addr → Prop) (H : Hp) (a : Addr) : Cell → Prop
  | .lst xs => ∃ vs, H a = some (.lst vs) ∧ Pds L H vs xs
  | .flst xs => ∃ vs, H a = some (.lst vs) ∧ Pds L H vs xs
  | .dct false kvs => ∃ us, H a = some (.dK us) ∧ KvK L H us kvs
  | .dct true kvs => False
  | .fdct false kvs => ∃ o us, H a = some (.frz o (.dK us)) ∧ KvK L H us kvs
  | .fdct true kvs => False
  | .nst _ _ => ∃ vs, H a = some (.lst vs)
  | .tab P q => a = P ∧ TabL L H a q
  | .tdc ks => TdAt H a ks
  | .tdv _ kvs => ∃ (o : Obj) (xs : List (List Int × Addr × V)), H a = some (.ext (DTfv o xs a)) ∧ Kvt L H xs (kvs.map tvD) ∧ (xs.map (·.1)) = kvs.map (·.1) ∧ (kvs.map (·.1)).Nodup ∧ (a == sysModules) = false ∧ kvs.length ≤ sizeLine
  | .dead => ∃ o, H a = some o
structure Ok (ρ : List Addr) (S : Store) (H : Hp) : Prop where
  len : ρ.length = S.length
  nd : ρ.Nodup
  cell : ∀ (i : Nat) (a : Addr) (c : Cell), ρ[i]? = some a → S[i]? = some c → CellOk (Live ρ S) H a c
def Scr (H : Hp) (a : Addr) (ns : List Int) : Prop := (∃ o, H a = some (.frz o (.lst (ns.map V.int)))) ∨ ∀ H', SqL K H' a (ns.map V.int)
def RowsAt (ρ : List Addr) (rs : List Nat) (as : List Addr) : Prop := as.length = rs.length ∧ ∀ (k j : Nat), rs[k]? = some j → ∃ b, as[k]? = some b ∧ ρ[j]? = some b
def NstOk (ρ : List Addr) (S : Store) (H : Hp) (v : V) (i n : Nat) (rs : List Nat) : Prop :=
  ∃ a n' rs', v = .ref a ∧ ρ[i]? = some a ∧ S[i]? = some (.nst n' rs') ∧ n ≤ n' ∧ (n' = n → rs' = rs ∧ ∃ as, H a = some (.lst (as.map V.ref)) ∧ RowsAt ρ rs as)
def exnO (a : Addr) (C : Value) (d : Option Addr) : HO := .ext fun h => ∃ o : Obj, h.get? a = some o ∧ o.cls = C ∧ o.dict = d ∧ ∃ vs, o.data = .fields vs
def FldOk (ρ : List Addr) (S : Store) (H : Hp) (e : Exc) (C : Value) (d : Option Addr) : Prop := C = .ref (He.ga K e.c) ∧ match e.f with
  | none => d = none
  | some (n, x) => ∃ dd fs w, d = some dd ∧ H dd = some (.xd fs) ∧ ¬ Live ρ S dd ∧ fs.lookup n = some w ∧ Pd (Live ρ S) H w x
def DOk (ρ : List Addr) (S : Store) (H : Hp) (v : V) : D → Prop
  | .rows i n rs => NstOk ρ S H v i n rs
  | .fn f c q => v = .ref f ∧ H c = some (LamX.CodeO c q) ∧ ¬ Live ρ S c
  | .exn e => ∃ a C d, v = .ref a ∧ ¬ Live ρ S a ∧ H a = some (exnO a C d) ∧ FldOk K ρ S H e C d
  | .p d => Pd (Live ρ S) H v d
  | .ref i => ∃ a, ρ[i]? = some a ∧ v = .ref a
  | .scr ns => ∃ a, v = .ref a ∧ Scr K H a ns
inductive Dv (L : Addr → Prop) (H : Hp) : V → PyData → Prop
  | data {v : V} {d : PyData} : Pd L H v d → Dv L H v d
  | lst {a : Addr} {vs : List V} {xs : List PyData} : H a = some (.lst vs) → Pds L H vs xs → Dv L H (.ref a) (.list xs)
  | dK {a : Addr} {us : List (Key × V)} {kvs : List (PyData × PyData)} : Rd H a (.dK us) → KvK L H us kvs → Dv L H (.ref a) (.dict kvs)
inductive Dr (L : Addr → Prop) (H : Hp) : V → PyData → Prop
  | dv {v : V} {d : PyData} : Dv L H v d → Dr L H v d
  | scr {a : Addr} {ns : List Int} : SqL K H a (ns.map V.int) → Dr L H (.ref a) (.list (ns.map .int))
structure Xt (ρ : List Addr) (S : Store) (H : Hp) (ρ' : List Addr) (S' : Store) (H' : Hp) : Prop where
  pre : ∃ new, ρ' = ρ ++ new
  gr : Gr (Live ρ S) (Live ρ' S') H H'
  nst : ∀ (i : Nat) (a : Addr) (n : Nat) (rs : List Nat), ρ[i]? = some a → S[i]? = some (.nst n rs) → ∃ n' rs', S'[i]? = some (.nst n' rs') ∧ n ≤ n' ∧ (n' = n → rs' = rs ∧ ∀ o, H a = some o → H' a = some o)
structure EnvOk (ρ : List Addr) (S : Store) (H : Hp) (env : Env) (σ : L2.St) : Prop where
  len : σ.length = env.length
  slot : ∀ (i : Nat) (d : D), env[i]? = some (some d) → ∃ v, σ[i]? = some (some v) ∧ DOk K ρ S H v d
end
section
variable {K : PySem.W.Frag} {L L' L'' : Addr → Prop} {ρ ρ' ρ'' : List Addr} {S S' S'' : Store} {H H' H'' : Hp} {env env' : Env} {σ σ' : L2.St}
theorem KvK.mono (g : Gr L L' H H') : ∀ {us : List (Key × V)} {kvs : List (PyData × PyData)}, KvK L H us kvs → KvK L' H' us kvs
  | _, _, .nil => .nil
  | _, _, .cons a t => .cons (Pd.mono g _ _ a) (KvK.mono g t)
theorem KvT.mono (g : Gr L L' H H') : ∀ {us : List (List Key × V)} {kvs : List (PyData × PyData)}, KvT L H us kvs → KvT L' H' us kvs
  | _, _, .nil => .nil
  | _, _, .cons a t => .cons (Pd.mono g _ _ a) (KvT.mono g t)
theorem KvK.less (g : ∀ a, L' a → L a) : ∀ {us : List (Key × V)} {kvs : List (PyData × PyData)}, KvK L H us kvs → KvK L' H us kvs
  | _, _, .nil => .nil
  | _, _, .cons a t => .cons (Pd.less g _ _ a) (KvK.less g t)
theorem KvT.less (g : ∀ a, L' a → L a) : ∀ {us : List (List Key × V)} {kvs : List (PyData × PyData)}, KvT L H us kvs → KvT L' H us kvs
  | _, _, .nil => .nil
  | _, _, .cons a t => .cons (Pd.less g _ _ a) (KvT.less g t)
theorem CellOk.less {a : Addr} {c : Cell} (g : ∀ a, L' a → L a) (h : CellOk L H a c) : CellOk L' H a c := by
  cases c with
  | lst xs => obtain ⟨vs, h1, h2⟩ := h; exact ⟨vs, h1, Pds.less g _ _ h2⟩
  | flst xs => obtain ⟨vs, h1, h2⟩ := h; exact ⟨vs, h1, Pds.less g _ _ h2⟩
  | dct t xs =>
    cases t with
    | true => exact h.elim
    | false => obtain ⟨vs, h1, h2⟩ := h; exact ⟨vs, h1, KvK.less g h2⟩
  | fdct t xs =>
    cases t with
    | true => exact h.elim
    | false => obtain ⟨o, vs, h1, h2⟩ := h; exact ⟨o, vs, h1, KvK.less g h2⟩
  | nst n rs => exact h
  | tdc ks => exact h
  | tdv b kvs => obtain ⟨o, xs, h1, h2, h3⟩ := h; exact ⟨o, xs, h1, Kvt.less g _ _ h2, h3⟩
  | dead => exact h
  | tab P q =>
    obtain ⟨h0, ps, h1, h2, h3⟩ := h
    exact ⟨h0, ps, h1, h2, fun pos cv e => by
      obtain ⟨c, e1, e2, e3⟩ := h3 pos cv e
      exact ⟨c, e1, e2, fun z => e3 (g _ z)⟩⟩
theorem CellOk.mono {a : Addr} {c : Cell} (g : Gr L L' H H') (ha : H' a = H a) (h : CellOk L H a c) : CellOk L' H' a c := by
  cases c with
  | lst xs => obtain ⟨vs, h1, h2⟩ := h; exact ⟨vs, ha.trans h1, Pds.mono g _ _ h2⟩
  | flst xs => obtain ⟨vs, h1, h2⟩ := h; exact ⟨vs, ha.trans h1, Pds.mono g _ _ h2⟩
  | dct t xs =>
    cases t with
    | true => exact h.elim
    | false => obtain ⟨vs, h1, h2⟩ := h; exact ⟨vs, ha.trans h1, KvK.mono g h2⟩
  | fdct t xs =>
    cases t with
    | true => exact h.elim
    | false => obtain ⟨o, vs, h1, h2⟩ := h; exact ⟨o, vs, ha.trans h1, KvK.mono g h2⟩
  | nst n rs => obtain ⟨vs, h1⟩ := h; exact ⟨vs, ha.trans h1⟩
  | tdc ks => obtain ⟨xs, h1, h2, h3, h4⟩ := h; exact ⟨xs, h1, ha.trans h2, fun x hx => g.tup (h3 x hx), h4⟩
  | tdv b kvs => obtain ⟨o, xs, h1, h2, h3⟩ := h; exact ⟨o, xs, ha.trans h1, Kvt.mono g _ _ h2, h3⟩
  | dead => obtain ⟨o, h1⟩ := h; exact ⟨o, ha.trans h1⟩
  | tab P q =>
    obtain ⟨h0, ps, h1, h2, h3⟩ := h
    exact ⟨h0, ps, ha.trans h1, h2, fun pos cv e => by
      obtain ⟨c, e1, e2, e3⟩ := h3 pos cv e
      refine ⟨c, e1, g.keep _ _ e2 e3, fun z => ?_⟩
      rcases g.live c z with z | z
      · exact e3 z
      · rw [e2] at z; cases z⟩
theorem CellOk.some {a : Addr} {c : Cell} (h : CellOk L H a c) : ∃ o, H a = some o ∧ (c.free = true → ∀ (u1 : Obj) (u2 : HO), o ≠ .frz u1 u2) := by
  cases c with
  | lst xs => obtain ⟨vs, h1, h2⟩ := h; exact ⟨_, h1, fun _ _ _ z => by cases z⟩
  | flst xs => obtain ⟨vs, h1, h2⟩ := h; exact ⟨_, h1, fun _ _ _ z => by cases z⟩
  | dct t xs =>
    cases t with
    | true => exact h.elim
    | false => obtain ⟨vs, h1, h2⟩ := h; exact ⟨_, h1, fun _ _ _ z => by cases z⟩
  | fdct t xs =>
    cases t with
    | true => exact h.elim
    | false => obtain ⟨o, vs, h1, h2⟩ := h; exact ⟨_, h1, fun z => by cases z⟩
  | nst n rs => obtain ⟨vs, h1⟩ := h; exact ⟨_, h1, fun _ _ _ z => by cases z⟩
  | tab P q => obtain ⟨_, ps, h1, _⟩ := h; exact ⟨_, h1, fun _ _ _ z => by cases z⟩
  | tdc ks => obtain ⟨xs, _, h1, _⟩ := h; exact ⟨_, h1, fun _ _ _ z => by cases z⟩
  | tdv b kvs => obtain ⟨o, xs, h1, _⟩ := h; exact ⟨_, h1, fun _ _ _ z => by cases z⟩
  | dead => obtain ⟨o, h1⟩ := h; exact ⟨o, h1, fun z => by cases z⟩
theorem Xt.refl : Xt ρ S H ρ S H := ⟨⟨[], by simp⟩, Gr.refl, fun i a n rs _ h2 => ⟨n, rs, h2, Nat.le_refl _, fun _ => ⟨rfl, fun _ h => h⟩⟩⟩
theorem Xt.trans (a : Xt ρ S H ρ' S' H') (b : Xt ρ' S' H' ρ'' S'' H'') : Xt ρ S H ρ'' S'' H'' := by
  obtain ⟨n, hn⟩ := a.pre
  obtain ⟨m, hm⟩ := b.pre
  refine ⟨⟨n ++ m, by rw [hm, hn, List.append_assoc]⟩, a.gr.trans b.gr, fun i x k rs h1 h2 => ?_⟩
  obtain ⟨k1, r1, e1, l1, q1⟩ := a.nst i x k rs h1 h2
  obtain ⟨k2, r2, e2, l2, q2⟩ := b.nst i x k1 r1 (by rw [hn, List.getElem?_append_left (List.getElem?_eq_some_iff.mp h1).1]; exact h1) e1
  refine ⟨k2, r2, e2, Nat.le_trans l1 l2, fun e => ?_⟩
  have e1 : k1 = k := by omega
  have e2 : k2 = k1 := by omega
  obtain ⟨u1, w1⟩ := q1 e1
  obtain ⟨u2, w2⟩ := q2 e2
  exact ⟨u2.trans u1, fun o h => w2 o (w1 o h)⟩
theorem Xt.at {i : Nat} {a : Addr} (e : Xt ρ S H ρ' S' H') (h : ρ[i]? = some a) : ρ'[i]? = some a := by
  obtain ⟨n, hn⟩ := e.pre
  rw [hn, List.getElem?_append_left (List.getElem?_eq_some_iff.mp h).1]
  exact h
theorem RowsAt.mono {rs : List Nat} {as : List Addr} (e : Xt ρ S H ρ' S' H') (h : RowsAt ρ rs as) : RowsAt ρ' rs as := ⟨h.1, fun k j hk => by
  obtain ⟨b, h1, h2⟩ := h.2 k j hk
  exact ⟨b, h1, e.at h2⟩⟩
theorem Xt.stay (e : Xt ρ S H ρ' S' H') {a : Addr} {o : HO} (h : H a = some o) (n : ¬ Live ρ S a) : H' a = some o ∧ ¬ Live ρ' S' a :=
  ⟨e.gr.keep a o h n, fun z => (e.gr.live a z).elim n fun y => by rw [h] at y; cases y⟩
theorem FldOk.mono {x : Exc} {C : Value} {d : Option Addr} (e : Xt ρ S H ρ' S' H') (h : FldOk K ρ S H x C d) : FldOk K ρ' S' H' x C d := by
  obtain ⟨h1, h2⟩ := h
  refine ⟨h1, ?_⟩
  split at h2
  · exact h2
  · obtain ⟨dd, fs, w, q1, q2, q3, q4, q5⟩ := h2
    obtain ⟨r1, r2⟩ := e.stay q2 q3
    exact ⟨dd, fs, w, q1, r1, r2, q4, Pd.mono e.gr _ _ q5⟩
theorem DOk.mono {v : V} {d : D} (e : Xt ρ S H ρ' S' H') (h : DOk K ρ S H v d) : DOk K ρ' S' H' v d := by
  cases d with
  | fn f c q =>
    obtain ⟨h1, h2, h3⟩ := h
    exact ⟨h1, e.stay h2 h3⟩
  | exn x =>
    obtain ⟨a, C, d, h1, h2, h3, h4⟩ := h
    obtain ⟨r1, r2⟩ := e.stay h3 h2
    exact ⟨a, C, d, h1, r2, r1, h4.mono e⟩
  | p d => exact Pd.mono e.gr d v h
  | ref i =>
    obtain ⟨a, h1, h2⟩ := h
    exact ⟨a, e.at h1, h2⟩
  | rows i n rs =>
    obtain ⟨a, k, r, h1, h2, h3, h4, h5⟩ := h
    obtain ⟨k2, r2, e1, l1, q1⟩ := e.nst i a k r h2 h3
    refine ⟨a, k2, r2, h1, e.at h2, e1, Nat.le_trans h4 l1, fun z => ?_⟩
    have z1 : k2 = k := by omega
    obtain ⟨u1, w1⟩ := q1 z1
    obtain ⟨u2, as, w2, w3⟩ := h5 (by omega)
    exact ⟨u1.trans u2, as, w1 _ w2, w3.mono e⟩
  | scr ns =>
    obtain ⟨a, h1, h2⟩ := h
    refine ⟨a, h1, ?_⟩
    rcases h2 with ⟨o, h2⟩ | h2
    · exact .inl ⟨o, e.gr.frzs a o _ h2⟩
    · exact .inr h2
theorem EnvOk.mono (e : Xt ρ S H ρ' S' H') (h : EnvOk K ρ S H env σ) : EnvOk K ρ' S' H' env σ :=
  ⟨h.len, fun i d q => let ⟨v, h1, h2⟩ := h.slot i d q; ⟨v, h1, h2.mono e⟩⟩
theorem EnvOk.set {i : Nat} {d : D} {v : V} (h : EnvOk K ρ S H env σ) (r : DOk K ρ S H v d) : EnvOk K ρ S H (env.set i (some d)) (σ.set i (some v)) := by
  refine ⟨by simp [h.len], fun j d' q => ?_⟩
  by_cases hj : i = j
  · subst hj
    by_cases hl : i < env.length
    · rw [List.getElem?_set_self hl] at q
      cases q
      exact ⟨v, by rw [List.getElem?_set_self (by rw [h.len]; exact hl)], r⟩
    · rw [List.set_eq_of_length_le (by omega)] at q
      have := (List.getElem?_eq_some_iff.mp q).1
      omega
  · rw [List.getElem?_set_ne hj] at q ⊢
    exact h.slot j d' q
theorem EnvOk.none {i : Nat} (h : EnvOk K ρ S H env σ) : EnvOk K ρ S H (env.set i Option.none) (σ.set i Option.none) := by
  refine ⟨by simp [h.len], fun j d' q => ?_⟩
  by_cases hj : i = j
  · subst hj
    by_cases hl : i < env.length
    · rw [List.getElem?_set_self hl] at q
      cases q
    · rw [List.set_eq_of_length_le (by omega)] at q
      have := (List.getElem?_eq_some_iff.mp q).1
      omega
  · rw [List.getElem?_set_ne hj] at q ⊢
    exact h.slot j d' q
theorem EnvOk.wipe (h : EnvOk K ρ S H env σ) : ∀ own : List Nat, EnvOk K ρ S H (Mi.wipe env own) (L2.wipe σ own)
  | [] => h
  | i :: r => (EnvOk.wipe h r).none
theorem Ok.live {a : Addr} (ok : Ok ρ S H) (h : Live ρ S a) : ∃ o, H a = some o ∧ ∀ (u1 : Obj) (u2 : HO), o ≠ .frz u1 u2 := by
  obtain ⟨i, c, h1, h2, h3⟩ := h
  obtain ⟨o, q1, q2⟩ := (ok.cell i a c h1 h2).some
  exact ⟨o, q1, q2 h3⟩
theorem Ok.dv {v : V} {d : D} {u : PyData} (ok : Ok ρ S H) (h : DOk K ρ S H v d) (e : dv S d = .ok u) : Dv (Live ρ S) H v u := by
  cases d with
  | p d =>
    cases e
    exact .data h
  | ref i =>
    obtain ⟨a, h1, rfl⟩ := h
    cases hs : S[i]? with
    | none => simp only [Mi.dv, hs] at e; cases e
    | some c =>
      have q := ok.cell i a c h1 hs
      simp only [Mi.dv, hs] at e
      cases c with
      | lst xs => cases e; obtain ⟨vs, q1, q2⟩ := q; exact .lst q1 q2
      | flst xs => cases e; obtain ⟨vs, q1, q2⟩ := q; exact .lst q1 q2
      | dct t xs =>
        cases e
        cases t with
        | true => exact q.elim
        | false => obtain ⟨vs, q1, q2⟩ := q; exact .dK (.inl q1) q2
      | fdct t xs =>
        cases e
        cases t with
        | true => exact q.elim
        | false => obtain ⟨o, vs, q1, q2⟩ := q; exact .dK (.inr ⟨o, q1⟩) q2
      | nst n rs => cases e
      | tab P q => cases e
      | tdc ks => cases e
      | tdv b kvs => cases e
      | dead => cases e
  | scr ns => cases e
  | rows i n rs => cases e
  | fn f c q => cases e
  | exn x => cases e
theorem Ok.dr {v : V} {d : D} {u : PyData} (ok : Ok ρ S H) (h : DOk K ρ S H v d) (e : dvr S d = .ok u) : Dr K (Live ρ S) H v u := by
  cases d with
  | p d => exact .dv (ok.dv h e)
  | ref i => exact .dv (ok.dv (d := .ref i) h e)
  | scr ns =>
    cases e
    obtain ⟨a, rfl, h⟩ := h
    refine .scr ?_
    rcases h with ⟨o, h⟩ | h
    · exact .inl (.inr ⟨o, h⟩)
    · exact h H
  | rows i n rs => cases e
  | fn f c q => cases e
  | exn x => cases e
theorem Gr.new {p : Addr} {o : HO} (hp : H p = none) : Gr L L H (upd H p o) where
  live := fun a h => .inl h
  keep := fun a u h _ => by rw [upd_ne (ne_of_none h hp)]; exact h
  there := fun a h => by
    by_cases e : a = p
    · rw [e]; exact hp
    · rwa [upd_ne e] at h
  frzs := fun a o' u h => by rw [upd_ne (ne_of_none h hp)]; exact h
theorem nst_new {p : Addr} {o : HO} (hp : H p = none) : ∀ (i : Nat) (a : Addr) (n : Nat) (rs : List Nat), ρ[i]? = some a → S[i]? = some (.nst n rs) → ∃ n' rs', S[i]? = some (.nst n' rs') ∧ n ≤ n' ∧ (n' = n → rs' = rs ∧ ∀ u, H a = some u → upd H p o a = some u) :=
  fun i a n rs _ h2 => ⟨n, rs, h2, Nat.le_refl _, fun _ => ⟨rfl, fun u h => by rw [upd_ne (ne_of_none h hp)]; exact h⟩⟩
theorem Xt.new {p : Addr} {o : HO} (hp : H p = none) : Xt ρ S H ρ S (upd H p o) := ⟨⟨[], by simp⟩, Gr.new hp, nst_new hp⟩
theorem Ok.new {p : Addr} {o : HO} (ok : Ok ρ S H) (hp : H p = none) : Ok ρ S (upd H p o) :=
  ⟨ok.len, ok.nd, fun i a c h1 h2 => by
    have q := ok.cell i a c h1 h2
    obtain ⟨u, hu, _⟩ := q.some
    exact q.mono (Gr.new hp) (upd_ne (ne_of_none hu hp))⟩
theorem Live.ne {p : Addr} (ok : Ok ρ S H) (hp : H p = none) : ¬ Live ρ S p := fun h => by
  obtain ⟨o, h1, _⟩ := ok.live h
  rw [hp] at h1
  cases h1
end
section
variable (K : PySem.W.Frag)
def Aft {α : Type} (ρ : List Addr) (S : Store) (H : Hp) (r : R α) (st : α → Store) (k : α → List Addr → Hp → Prop) : Prop := match r with
  | .ok a => ∀ ρ' H', Xt ρ S H ρ' (st a) H' → Ok ρ' (st a) H' → k a ρ' H'
  | .ex _ _ => False
  | .no => False
def TX (f : Ex) : TE := fun σ H Q => ∃ ρ env S, EnvOk K ρ S H env σ ∧ Ok ρ S H ∧ Aft ρ S H (f env S) (fun p => p.2) fun p ρ' H' => ∀ v, DOk K ρ' p.2 H' v p.1 → Q v H'
def TBx (f : Bx) : TT := fun σ H Q => ∃ ρ env S, EnvOk K ρ S H env σ ∧ Ok ρ S H ∧ Aft ρ S H (f env S) (fun p => p.2) fun p _ H' => Q p.1 H'
inductive DsOk (ρ : List Addr) (S : Store) (H : Hp) : List V → List D → Prop
  | nil : DsOk ρ S H [] []
  | cons {v : V} {vs : List V} {d : D} {ds : List D} : DOk K ρ S H v d → DsOk ρ S H vs ds → DsOk ρ S H (v :: vs) (d :: ds)
def TAs (f : As) : TA := fun σ H Q => ∃ ρ env S, EnvOk K ρ S H env σ ∧ Ok ρ S H ∧ Aft ρ S H (f env S) (fun p => p.2) fun p ρ' H' => ∀ vs, DsOk K ρ' p.2 H' vs p.1 → Q vs H'
def TN (f : Ex) : TE := fun σ H Q => ∃ ρ env S, EnvOk K ρ S H env σ ∧ Ok ρ S H ∧ Aft ρ S H (f env S) (fun p => p.2) fun p ρ' H' => ∃ xs, p.1 = .p (.list xs) ∧ ∀ a vs, H' a = none → Pds (Live ρ' p.2) H' vs xs → Q (.ref a) (upd H' a (.lst vs))
def FlOk (D' : Ends) (ρ : List Addr) (S : Store) (H : Hp) (env : Env) : Fl → Prop
  | .nx => ∀ σ, EnvOk K ρ S H env σ → D'.nx σ H
  | .bk => ∀ σ, EnvOk K ρ S H env σ → D'.bk σ H
  | .ct => ∀ σ, EnvOk K ρ S H env σ → D'.ct σ H
  | .rt d => ∀ v, DOk K ρ S H v d → D'.rt v H
def TSm (f : Sm) : TS := fun D' σ H => ∃ ρ env S, EnvOk K ρ S H env σ ∧ Ok ρ S H ∧ Aft ρ S H (f env S) (fun p => p.2.2) fun p ρ' H' => FlOk K D' ρ' p.2.2 H' p.2.1 p.1
end
section
variable {K : PySem.W.Frag} {ρ ρ' : List Addr} {S S' : Store} {H H' : Hp} {env env' : Env} {σ σ' : L2.St}
theorem DsOk.mono {ρ' : List Addr} (e : Xt ρ S H ρ' S' H') : ∀ {vs : List V} {ds : List D}, DsOk K ρ S H vs ds → DsOk K ρ' S' H' vs ds
  | _, _, .nil => .nil
  | _, _, .cons a t => .cons (a.mono e) (DsOk.mono e t)
theorem Aft.mono {α : Type} {r : R α} {st : α → Store} {k k' : α → List Addr → Hp → Prop} (h : Aft ρ S H r st k) (g : ∀ a ρ' H', Xt ρ S H ρ' (st a) H' → Ok ρ' (st a) H' → k a ρ' H' → k' a ρ' H') : Aft ρ S H r st k' := by
  cases r with
  | ok a => exact fun ρ' H' e o => g a ρ' H' e o (h ρ' H' e o)
  | ex e S => exact h
  | no => exact h
theorem Aft.from {α : Type} {r : R α} {st : α → Store} {k : α → List Addr → Hp → Prop} (e : Xt ρ S H ρ' S' H') (h : Aft ρ S H r st k) : Aft ρ' S' H' r st k := by
  cases r with
  | ok a => exact fun ρ'' H'' e' o => h ρ'' H'' (e.trans e') o
  | ex e S => exact h
  | no => exact h
theorem Aft.bd {α β : Type} {r : R (α × Store)} {f : α → Store → R β} {st : β → Store} {k : β → List Addr → Hp → Prop} (h : Aft ρ S H (Mi.bd r f) st k) :
    Aft ρ S H r (fun p => p.2) fun p ρ' H' => Aft ρ' p.2 H' (f p.1 p.2) st k := by
  cases r with
  | ok a => exact fun ρ' H' e o => Aft.from e h
  | ex e S => exact h
  | no => exact h
theorem Aft.bs {β : Type} {r : R (Fl × Env × Store)} {f : Fl → Env → Store → R β} {st : β → Store} {k : β → List Addr → Hp → Prop} (h : Aft ρ S H (Mi.bs r f) st k) :
    Aft ρ S H r (fun p => p.2.2) fun p ρ' H' => Aft ρ' p.2.2 H' (f p.1 p.2.1 p.2.2) st k := by
  cases r with
  | ok a => exact fun ρ' H' e o => Aft.from e h
  | ex e S => exact h
  | no => exact h
theorem Aft.bx {α β : Type} {r : R α} {f : α → R β} {st : β → Store} {k : β → List Addr → Hp → Prop} (h : Aft ρ S H (Mi.bx r f) st k) :
    ∃ a, r = .ok a ∧ Aft ρ S H (f a) st k := by
  cases r with
  | ok a => exact ⟨a, rfl, h⟩
  | ex e S => exact False.elim h
  | no => exact False.elim h
theorem Aft.when {β : Type} {c : Bool} {r : R β} {st : β → Store} {k : β → List Addr → Hp → Prop} (h : Aft ρ S H (when_ c r) st k) : c = true ∧ Aft ρ S H r st k := by
  cases c with
  | true => exact ⟨rfl, h⟩
  | false => exact False.elim h
theorem Aft.orNo {α β : Type} {o : Option α} {f : α → R β} {st : β → Store} {k : β → List Addr → Hp → Prop} (h : Aft ρ S H (Mi.bx (Mi.orNo o) f) st k) :
    ∃ a, o = some a ∧ Aft ρ S H (f a) st k := by
  cases o with
  | some a => exact ⟨a, rfl, h⟩
  | none => exact False.elim h
theorem Aft.at {α : Type} {a : α} {st : α → Store} {k : α → List Addr → Hp → Prop} (h : Aft ρ S H (.ok a) st k) (e : Xt ρ S H ρ' (st a) H') (o : Ok ρ' (st a) H') : k a ρ' H' := h ρ' H' e o
theorem Aft.here {α : Type} {a : α} {st : α → Store} {k : α → List Addr → Hp → Prop} (h : Aft ρ S H (.ok a) st k) (hs : st a = S) (o : Ok ρ S H) : k a ρ H := h ρ H (by rw [hs]; exact Xt.refl) (by rw [hs]; exact o)
end
section
variable {X : Cx} {e : Expr}
theorem PE.up {t t' : TE} (h : PE X e t) (g : ∀ σ H Q, t' σ H Q → t σ H Q) : PE X e t' := ⟨fun pins s σ H Q I q => h.run pins s σ H Q I (g σ H Q q)⟩
theorem PT.up {t t' : TT} (h : PT X e t) (g : ∀ σ H Q, t' σ H Q → t σ H Q) : PT X e t' := ⟨fun pins s σ H Q I q => h.run pins s σ H Q I (g σ H Q q)⟩
theorem PW.up {t t' : TT} (h : PW X e t) (g : ∀ σ H Q, t' σ H Q → t σ H Q) : PW X e t' := ⟨fun wh pins s σ H Q I q => h.run wh pins s σ H Q I (g σ H Q q)⟩
theorem PA.up {es : List Expr} {t t' : TA} (h : PA X es t) (g : ∀ σ H Q, t' σ H Q → t σ H Q) : PA X es t' := ⟨fun pos pins s σ H Q I q => h.run pos pins s σ H Q I (g σ H Q q)⟩
theorem PS.up {st : Stmt} {t t' : TS} (h : PS X st t) (g : ∀ D' σ H, t' D' σ H → t D' σ H) : PS X st t' := ⟨fun pins s σ H D' I q => h.run pins s σ H D' I (g D' σ H q)⟩
theorem PSs.up {st : List Stmt} {t t' : TS} (h : PSs X st t) (g : ∀ D' σ H, t' D' σ H → t D' σ H) : PSs X st t' := ⟨fun pins s σ H D' I q => h.run pins s σ H D' I (g D' σ H q)⟩
end
section
variable {X : Cx} {e a b c : Expr} {pos p : Pos} {fa fb fc : Ex}
theorem x_c {v : V} {d : PyData} (h : PE X e (tC v)) (hd : ∀ H L, Pd L H v d) : PE X e (TX X.K (mC d)) := PE.up h fun σ H Q ⟨ρ, env, S, eo, ok, q⟩ => by
  exact (Aft.here q rfl ok) v (hd H _)
theorem x_int {i : Int} {j : Nat} : PE X (.Constant (.int i) j pos) (TX X.K (mC (.int i))) := x_c pe_int fun _ _ => .int i
theorem x_bool {i : Bool} {j : Nat} : PE X (.Constant (.bool i) j pos) (TX X.K (mC (.bool i))) := x_c pe_bl fun _ _ => .bl i
theorem x_none {j : Nat} : PE X (.Constant .none j pos) (TX X.K (mC .none)) := x_c pe_non fun _ _ => .non
theorem x_v (i : Nat) {x : Str} (hN : X.N[i]? = some x := by rfl) (hv : Vis X.env.scope x := by first | exact Or.inl rfl | exact Or.inr (Or.inl rfl) | exact Or.inr (Or.inr rfl)) (hd : (x == ("__debug__" : Str)) = false := by decide)
    (hcd : (x == ("__classdict__" : Str)) = false := by decide) : PE X (.Name x pos) (TX X.K (mV i)) := PE.up (pe_var hN hv hd hcd) fun σ H Q ⟨ρ, env, S, eo, ok, q⟩ => by
  unfold mV at q
  cases h : env[i]? with
  | none => rw [h] at q; exact False.elim q
  | some o =>
    cases o with
    | none => rw [h] at q; exact False.elim q
    | some d =>
      rw [h] at q
      obtain ⟨v, h1, h2⟩ := eo.slot i d h
      exact ⟨v, h1, (Aft.here q rfl ok) v h2⟩
def rD (K : PySem.W.Frag) (f : PyData → PyData → R PyData) : R2 := fun x y H Q => ∃ (ρ : List Addr) (S : Store) (u v z : PyData), Ok ρ S H ∧ Dv (Live ρ S) H x u ∧ Dv (Live ρ S) H y v ∧ f u v = .ok z ∧ ∀ H' w, Xt ρ S H ρ S H' → Ok ρ S H' → Pd (Live ρ S) H' w z → Q w H'
def rD1 (K : PySem.W.Frag) (f : PyData → R PyData) : V → Hp → VK → Prop := fun x H Q => ∃ (ρ : List Addr) (S : Store) (u z : PyData), Ok ρ S H ∧ Dv (Live ρ S) H x u ∧ f u = .ok z ∧ ∀ H' w, Xt ρ S H ρ S H' → Ok ρ S H' → Pd (Live ρ S) H' w z → Q w H'
theorem tO2 {K : PySem.W.Frag} {f : PyData → PyData → R PyData} {σ : L2.St} {H : Hp} {Q : VK} (h : TX K (mO2 f fa fb) σ H Q) : tOp (rD K f) (TX K fa) (TX K fb) σ H Q := by
  obtain ⟨ρ, env, S, eo, ok, q⟩ := h
  refine ⟨ρ, env, S, eo, ok, (Aft.bd q).mono fun p ρ1 H1 e1 o1 q1 v1 d1 => ?_⟩
  refine ⟨ρ1, env, p.2, eo.mono e1, o1, (Aft.bd q1).mono fun p2 ρ2 H2 e2 o2 q2 v2 d2 => ?_⟩
  obtain ⟨u, hu, q3⟩ := Aft.bx q2
  obtain ⟨w, hw, q4⟩ := Aft.bx q3
  obtain ⟨z, hz, q5⟩ := Aft.bx q4
  exact ⟨ρ2, p2.2, u, w, z, o2, o2.dv (d1.mono e2) hu, o2.dv d2 hw, hz, fun H' w' e' o' r' => q5 ρ2 H' e' o' w' r'⟩
theorem tO1 {K : PySem.W.Frag} {f : PyData → R PyData} {σ : L2.St} {H : Hp} {Q : VK} (h : TX K (mO1 f fa) σ H Q) : tUn (rD1 K f) (TX K fa) σ H Q := by
  obtain ⟨ρ, env, S, eo, ok, q⟩ := h
  refine ⟨ρ, env, S, eo, ok, (Aft.bd q).mono fun p ρ1 H1 e1 o1 q1 v1 d1 => ?_⟩
  obtain ⟨u, hu, q3⟩ := Aft.bx q1
  obtain ⟨z, hz, q5⟩ := Aft.bx q3
  exact ⟨ρ1, p.2, u, z, o1, o1.dv d1 hu, hz, fun H' w' e' o' r' => q5 ρ1 H' e' o' w' r'⟩
theorem x_op {op : Operator} {f : PyData → PyData → R PyData} (ho : OpR X (binaryOp op) (rD X.K f)) (ha : PE X a (TX X.K fa)) (hb : PE X b (TX X.K fb)) : PE X (.BinOp a op b pos) (TX X.K (mO2 f fa fb)) :=
  PE.up (pe_op ho ha hb) fun _ _ _ h => tO2 h
theorem x_un {op : UnaryOp} {f : PyData → R PyData} (ho : UnR X (unaryOp op) (rD1 X.K f)) (ha : PE X a (TX X.K fa)) : PE X (.UnaryOp op a pos) (TX X.K (mO1 f fa)) :=
  PE.up (pe_un ho ha) fun _ _ _ h => tO1 h
theorem x_cmp {op : CmpOp} {f : PyData → PyData → R PyData} (ho : OpR X (compareOp op) (rD X.K f)) (ha : PE X a (TX X.K fa)) (hb : PE X b (TX X.K fb)) (hm : behindInMarks op b = false := by first | exact nomark _ | rfl) :
    PE X (.Compare a [op] [b] pos) (TX X.K (mO2 f fa fb)) := PE.up (pe_cmpR ho ha hb hm) fun _ _ _ h => tO2 h
theorem t_of {σ : L2.St} {H : Hp} {K : PySem.W.Frag} {Q : Bool → Hp → Prop} (h : TBx K (tE fa) σ H Q) : TX K fa σ H fun x H' => ∃ k, x = .bl k ∧ Q k H' := by
  obtain ⟨ρ, env, S, eo, ok, q⟩ := h
  refine ⟨ρ, env, S, eo, ok, (Aft.bd q).mono fun p ρ1 H1 e1 o1 q1 v1 d1 => ?_⟩
  obtain ⟨d, S1⟩ := p
  cases d with
  | p d =>
    cases d with
    | bool k =>
      cases d1
      exact ⟨k, rfl, Aft.here q1 rfl o1⟩
    | _ => exact False.elim q1
  | _ => exact False.elim q1
theorem t_cmp {op : CmpOp} {f : PyData → PyData → R PyData} (ho : OpR X (compareOp op) (rD X.K f)) (ha : PE X a (TX X.K fa)) (hb : PE X b (TX X.K fb)) (hm : behindInMarks op b = false := by first | exact nomark _ | rfl) :
    PT X (.Compare a [op] [b] pos) (TBx X.K (tE (mO2 f fa fb))) := PT.up (pt_cmpR ho ha hb hm) fun _ _ _ h => tO2 (t_of h)
theorem t_val (ha : PE X e (TX X.K fa)) (he : ∀ whole, isTrue e X.env whole = (do let v ← whole; standAt e.pos; holding [v] (truthy v)) := by intro _; rfl) : PT X e (TBx X.K (tE fa)) :=
  PT.up (pt_val ha he) fun _ _ _ h => t_of h
end
section
variable {K : PySem.W.Frag} {L : Addr → Prop} {H : Hp} {v : V}
theorem Dv.int {i : Int} (h : Dv L H v (.int i)) : v = .int i := by
  cases h with
  | data h => cases h; rfl
theorem Dv.bool {i : Bool} (h : Dv L H v (.bool i)) : v = .bl i := by
  cases h with
  | data h => cases h; rfl
theorem Dv.str {i : Str} (h : Dv L H v (.str i)) : v = .str i := by
  cases h with
  | data h => cases h; rfl
theorem Dv.none (h : Dv L H v .none) : v = .non := by
  cases h with
  | data h => cases h; rfl
theorem Dv.tup {ds : List PyData} (h : Dv L H v (.tuple ds)) : ∃ a xs, v = .ref a ∧ TupAt H a xs ∧ Pds L H xs ds := by
  cases h with
  | data h => cases h with | tup h1 h2 => exact ⟨_, _, rfl, h1, h2⟩
theorem Dv.list {ds : List PyData} (h : Dv L H v (.list ds)) : ∃ a xs, v = .ref a ∧ H a = some (.lst xs) ∧ Pds L H xs ds := by
  cases h with
  | data h => cases h with | lst h1 _ h2 => exact ⟨_, _, rfl, h1, h2⟩
  | lst h1 h2 => exact ⟨_, _, rfl, h1, h2⟩
theorem Dv.seq {d : PyData} {ds : List PyData} (h : Dv L H v d) (e : items? d = some ds) : ∃ a xs, v = .ref a ∧ (H a = some (.lst xs) ∨ TupAt H a xs) ∧ Pds L H xs ds := by
  cases d with
  | list ys =>
    cases e
    obtain ⟨a, xs, h1, h2, h3⟩ := h.list
    exact ⟨a, xs, h1, .inl h2, h3⟩
  | tuple ys =>
    cases e
    obtain ⟨a, xs, h1, h2, h3⟩ := h.tup
    exact ⟨a, xs, h1, .inr h2, h3⟩
  | _ => cases e
theorem Dv.dp {d : PyData} (h : Dv L H v d) (p : d.plain = true) : Dp K H v d := by
  cases h with
  | data h => exact Pd.dp _ _ p h
  | lst h1 h2 => exact .lst (.of h1) (Pds.dp _ _ (by rwa [PyData.plain] at p) h2)
  | dK h1 h2 => simp [PyData.plain] at p
theorem flat_of {d : PyData} (h : flat? d = true) : d.plain = true ∧ d.depth ≤ 1000 := by
  unfold flat? at h
  rw [Bool.and_eq_true, decide_eq_true_eq] at h
  exact h
end
section
open HT
theorem tup_mul_same (l : Addr) (items : Array Value) (n : Nat) (dd : Option Addr) (sl : Array (Option Value)) (x : Int) (u : Tok) (c0 : (decide (x < -(2 ^ 63)) || decide (x ≥ 2 ^ 63)) = false) (c1 : (items.isEmpty || x == 1) = true) :
    Meets (Builtin.«tuple.__mul__» ⟨[.ref l, .int x u], []⟩) (fun _ R s => s.heap.get? l = some { cls := .type "tuple", dict := dd, data := .seq items n, slots := sl } ∧ R (.ok (.ret (Value.ref l))) s) :=
  .of_wp fun prog w A R s h => by
    obtain ⟨hp, g, d, tk, os⟩ := s
    obtain ⟨hl, h⟩ := h
    have f1 := AutoSeq1.idx_int
    wp_walk using wpAny_loadPart' hl
    repeat (first
      | (refine wpAny_ite_false (decide_eq_false (by rw [c0]; exact Bool.false_ne_true)) ?_; wp_walk using wpAny_loadPart' hl)
      | (refine wpAny_ite_true (decide_eq_true c1) ?_; wp_walk using wpAny_loadPart' hl))
    exact ⟨_, rfl, h⟩
theorem tup_mul_zero (l : Addr) (items : Array Value) (n : Nat) (dd : Option Addr) (sl : Array (Option Value)) (x : Int) (u : Tok) (c0 : (decide (x < -(2 ^ 63)) || decide (x ≥ 2 ^ 63)) = false) (c1 : (items.isEmpty || x == 1) = false) (c2 : (decide (x ≤ 0) || items.isEmpty) = true) :
    Meets (Builtin.«tuple.__mul__» ⟨[.ref l, .int x u], []⟩) (fun _ R s => s.heap.get? l = some { cls := .type "tuple", dict := dd, data := .seq items n, slots := sl } ∧
      R (.ok (.ret (Value.ref s.heap.objs.size))) { s with heap := s.heap.push { cls := Value.type "tuple", data := Data.seq #[] }, toks := s.toks }) :=
  .of_wp fun prog w A R s h => by
    obtain ⟨hp, g, d, tk, os⟩ := s
    obtain ⟨hl, h⟩ := h
    have f1 := AutoSeq1.idx_int
    wp_walk using wpAny_loadPart' hl
    repeat (first
      | (refine wpAny_ite_false (decide_eq_false (by rw [c0]; exact Bool.false_ne_true)) ?_; wp_walk using wpAny_loadPart' hl)
      | (refine wpAny_ite_false (decide_eq_false (by rw [c1]; exact Bool.false_ne_true)) ?_; wp_walk using wpAny_loadPart' hl)
      | (refine wpAny_ite_true (decide_eq_true c2) ?_; wp_walk using wpAny_loadPart' hl))
    exact ⟨_, rfl, h⟩
end
section
variable {X : Cx} {pins : List (Addr × Obj)} {s : Shared} {σ : L2.St} {H : Hp} {Q : VK} {ρ : List Addr} {S : Store}
theorem tup_made {ys : List V} {its : List Value} {tk : Nat} (I : L2.Inv X pins σ H s) (hv : Vals ys its) (hz : ys.length ≤ sizeLine)
    (q : ∀ (p : Addr) (H' : Hp), H p = none → (∃ o, H' = upd H p o ∧ TupAt H' p ys) → Q (.ref p) H') :
    EP X pins σ Q (.ref s.heap.objs.size) { s with heap := s.heap.push { cls := .type "tuple", data := .seq its.toArray }, toks := tk } := by
  have hf := I.hok.fresh (Nat.le_refl s.heap.objs.size)
  refine ⟨.ref s.heap.objs.size, upd H s.heap.objs.size (.frz { cls := .type "tuple", data := .seq its.toArray } (.tup ys)), I.laid (fun b ob z => Heap.get?_push_of_some _ z) (Nat.le_refl _) ?_, rfl, q _ _ hf ⟨_, rfl, _, upd_same, rfl, rfl⟩⟩
  exact ⟨Heap.get?_push_size _ rfl, hz, its, hv, IsTup.new _ _⟩
theorem tup_data {ys : List V} {ds : List PyData} {its : List Value} {tk : Nat} (I : L2.Inv X pins σ H s) (ok : Ok ρ S H) (hv : Vals ys its) (hz : ds.length ≤ Line) (r : Pds (Live ρ S) H ys ds)
    (q : ∀ H' w, Xt ρ S H ρ S H' → Ok ρ S H' → Pd (Live ρ S) H' w (.tuple ds) → Q w H') :
    EP X pins σ Q (.ref s.heap.objs.size) { s with heap := s.heap.push { cls := .type "tuple", data := .seq its.toArray }, toks := tk } := by
  refine tup_made I hv (by rw [r.length]; exact hz) fun p H' hp ⟨o, e, h⟩ => ?_
  subst e
  exact q _ _ (Xt.new hp) (ok.new hp) (.tup h (Pds.mono (Gr.new hp) _ _ r))
end
section
theorem tup_rep {X : Cx} {pins : List (Addr × Obj)} {s : Shared} {σ : L2.St} {H : Hp} {l : Addr} {k : Int} {xs : List V} {t : Tok} {Q : VK} (I : L2.Inv X pins σ H s) (hT : SqT X.K H l xs) (hx : xs ≠ []) (h0 : 0 ≤ k) (h1 : k ≤ 1000) (h2 : xs.length ≤ 1000)
    (q1 : k = 1 → EP X pins σ Q (.ref l) s) (q0 : k ≠ 1 → ∀ its tk, Vals (List.replicate k.toNat xs).flatten its → EP X pins σ Q (.ref s.heap.objs.size) { s with heap := s.heap.push { cls := .type "tuple", data := .seq its.toArray }, toks := tk }) : wpAny (model X.prog X.w) X.A (binaryOp .Mult (.ref l) (.int k t)) (EP X pins σ Q) X.xe s := by
  obtain ⟨its, r, ⟨⟨cls, dd, data, sl⟩, ho, hc, n, hd⟩, hs⟩ := I.tuple hT
  simp only at hc hd
  subst hc hd
  have hi : its.toArray.isEmpty = false := by
    cases r with
    | nil => exact absurd rfl hx
    | cons a b => rfl
  have c0 : (decide (k < -(2 ^ 63)) || decide (k ≥ 2 ^ 63)) = false := by
    have z1 : ¬ k < -(2 ^ 63) := by omega
    have z2 : ¬ k ≥ 2 ^ 63 := by omega
    rw [decide_eq_false z1, decide_eq_false z2]
    rfl
  have go := fun (Q' : Value → Shared → Prop) (z : wpAny (model X.prog X.w) X.A (call (.builtin "tuple.__mul__") [.ref l, .int k t]) Q' X.xe s) =>
    wpAny_binaryOp_repeat_ref (M := model X.prog X.w) (A := X.A) (E := X.xe) (s := s) (Q := Q') (T := "tuple") (U := "int") (a := .ref l) (n := .int k t) (by decide) ⟨_, ho, rfl⟩ (fun s' => typeIs_int s' k t) noFill_tuple_mul F.fills_int_mul F.slot_int_rmul repeat_tuple F.slot_int_index.lookup
      (call_meets F.slot_int_rmul (typeIs_int s k t) F.entry_int_rmul (F.args_int_rmul_2 _ _) (int_rmul_tuple k t l its.toArray n dd sl) ⟨ho, rfl, ⟨_, ho, rfl⟩, z⟩)
  refine go _ ?_
  by_cases e : k = 1
  · subst e
    exact call_meets F.slot_tuple_mul ⟨_, ho, rfl⟩ F.entry_tuple_mul (F.args_tuple_mul_2 _ _) (tup_mul_same l its.toArray n dd sl 1 t c0 (by rw [hi]; rfl)) ⟨ho, q1 rfl⟩
  · have c1 : (its.toArray.isEmpty || k == 1) = false := by
      rw [hi, Bool.false_or]
      exact beq_eq_false_iff_ne.mpr e
    by_cases e0 : k = 0
    · subst e0
      exact call_meets F.slot_tuple_mul ⟨_, ho, rfl⟩ F.entry_tuple_mul (F.args_tuple_mul_2 _ _) (tup_mul_zero l its.toArray n dd sl 0 t c0 c1 (by rfl)) ⟨ho, q0 (by decide) [] s.toks .nil⟩
    · have z0 : its.toArray.size = xs.length := by rw [List.size_toArray]; exact r.length.symm
      have z1 : ((xs.length : Nat) : Int) * k ≤ 1000 * k := Int.mul_le_mul_of_nonneg_right (by omega) h0
      have z2 : k.toNat * xs.length ≤ 1000 * 1000 := Nat.mul_le_mul (by omega) h2
      have c2 : (decide (k ≤ 0) || its.toArray.isEmpty) = false := by
        rw [hi, Bool.or_false]
        exact decide_eq_false (by omega)
      have c4 : Builtin.Tuple.tupleTooMany (((its.toArray.size : Nat) : Int) * k) = false := by
        unfold Builtin.Tuple.tupleTooMany
        rw [sizeLine_eq, z0]
        exact decide_eq_false (by omega)
      have w := tuple_mulW l its.toArray n dd sl k t c0 c1 c2 (by rw [z0]; omega) c4 (by rw [size_rep, List.size_toArray, PyProof.Rows.lm_len_rep_flat, sizeLine_eq, ← r.length]; omega)
      rw [size_rep] at w
      exact call_meets F.slot_tuple_mul ⟨_, ho, rfl⟩ F.entry_tuple_mul (F.args_tuple_mul_2 _ _) w ⟨ho, q0 e _ s.toks (r.rep k.toNat)⟩
end
section
variable {X : Cx}
theorem when_ok {α : Type} {c : Bool} {r : R α} {z : α} (h : when_ c r = .ok z) : c = true ∧ r = .ok z := by
  cases c with
  | true => exact ⟨rfl, h⟩
  | false => cases h
theorem op_pAdd : OpR X (binaryOp .Add) (rD X.K pAdd) := by
  intro pins s σ H x y v u Q I rx ry ⟨ρ, S, a, b, z, ok, da, db, hz, q⟩
  cases a with
  | int i =>
    cases b with
    | int j =>
      cases hz
      obtain rfl := da.int
      obtain rfl := db.int
      exact op_add pins s σ H _ _ v u Q I rx ry ⟨i, j, rfl, rfl, q H _ Xt.refl ok (.int _)⟩
    | bool k =>
      cases hz
      obtain rfl := da.int
      obtain rfl := db.bool
      exact op_add_ib pins s σ H _ _ v u Q I rx ry ⟨i, k, rfl, rfl, q H _ Xt.refl ok (by cases k <;> exact .int _)⟩
    | _ => cases hz
  | str i =>
    cases b with
    | str j =>
      obtain ⟨hc, hz⟩ := when_ok hz
      have hc : i.length + j.length ≤ Line := of_decide_eq_true hc
      cases hz
      obtain rfl := da.str
      obtain rfl := db.str
      exact op_add_str pins s σ H _ _ v u Q I rx ry ⟨i, j, rfl, rfl, hc, q H _ Xt.refl ok (.str _)⟩
    | _ => cases hz
  | tuple i =>
    cases b with
    | tuple j =>
      obtain ⟨hc, hz⟩ := when_ok hz
      have hc : i.length + j.length ≤ Line := of_decide_eq_true hc
      cases hz
      obtain ⟨a1, xs, rfl, h1, h2⟩ := da.tup
      obtain ⟨a2, ys, rfl, h3, h4⟩ := db.tup
      cases rx
      cases ry
      obtain ⟨its, r1, p1, _⟩ := I.tuple (h1.sq (K := X.K))
      obtain ⟨its2, r2, p2, _⟩ := I.tuple (h3.sq (K := X.K))
      by_cases e1 : its = []
      · subst e1
        cases r1
        cases h2
        exact cat_tup0 p1 p2 ⟨.ref a2, H, I, rfl, q H _ Xt.refl ok (.tup h3 h4)⟩
      · refine HT.cat_tup p1 p2 e1 (fun e => ?_) (fun _ => ?_) (by rw [← r1.length, ← r2.length, h2.length, h4.length]; exact hc)
        · subst e
          cases r2
          cases h4
          rw [List.append_nil] at q
          exact ⟨.ref a1, H, I, rfl, q H _ Xt.refl ok (.tup h1 h2)⟩
        · exact tup_data (tk := s.toks) I ok (r1.append r2) (by rw [List.length_append]; exact hc) (h2.append h4) q
    | _ => cases hz
  | list i =>
    cases b with
    | list j =>
      obtain ⟨hc, hz⟩ := when_ok hz
      have hc : i.length + j.length ≤ Line := of_decide_eq_true hc
      cases hz
      obtain ⟨a1, xs, rfl, h1, h2⟩ := da.list
      obtain ⟨a2, ys, rfl, h3, h4⟩ := db.list
      refine op_cat pins s σ H _ _ v u Q I rx ry ⟨a1, a2, xs, ys, rfl, rfl, h1, h3, by rw [h2.length, h4.length]; exact hc, fun p hp => ?_⟩
      exact q _ _ (Xt.new hp) (ok.new hp) (.lst upd_same (Live.ne ok hp) (Pds.mono (Gr.new hp) _ _ (h2.append h4)))
    | _ => cases hz
  | _ => cases hz
theorem op_pSub : OpR X (binaryOp .Sub) (rD X.K pSub) := by
  intro pins s σ H x y v u Q I rx ry ⟨ρ, S, a, b, z, ok, da, db, hz, q⟩
  cases a with
  | int i =>
    cases b with
    | int j =>
      cases hz
      obtain rfl := da.int
      obtain rfl := db.int
      exact op_sub pins s σ H _ _ v u Q I rx ry ⟨i, j, rfl, rfl, q H _ Xt.refl ok (.int _)⟩
    | _ => cases hz
  | _ => cases hz
theorem op_pDiv : OpR X (binaryOp .FloorDiv) (rD X.K pDiv) := by
  intro pins s σ H x y v u Q I rx ry ⟨ρ, S, a, b, z, ok, da, db, hz, q⟩
  cases a with
  | int i =>
    cases b with
    | int j =>
      obtain ⟨hc, hz⟩ := when_ok hz
      have hc := of_decide_eq_true hc
      cases hz
      obtain rfl := da.int
      obtain rfl := db.int
      exact op_fdivW pins s σ H _ _ v u Q I rx ry ⟨i, j, rfl, rfl, hc, q H _ Xt.refl ok (.int _)⟩
    | _ => cases hz
  | _ => cases hz
theorem op_pMod : OpR X (binaryOp .Mod) (rD X.K pMod) := by
  intro pins s σ H x y v u Q I rx ry ⟨ρ, S, a, b, z, ok, da, db, hz, q⟩
  cases a with
  | int i =>
    cases b with
    | int j =>
      obtain ⟨hc, hz⟩ := when_ok hz
      have hc := of_decide_eq_true hc
      cases hz
      obtain rfl := da.int
      obtain rfl := db.int
      exact op_mod pins s σ H _ _ v u Q I rx ry ⟨i, j, rfl, rfl, hc, q H _ Xt.refl ok (.int _)⟩
    | _ => cases hz
  | _ => cases hz
theorem intBits_log (x : Int) : Builtin.Int.intBits x ≤ x.natAbs.log2 + 1 := by
  unfold Builtin.Int.intBits
  split <;> omega
theorem op_pPow : OpR X (binaryOp .Pow) (rD X.K pPow) := by
  intro pins s σ H x y v u Q I rx ry ⟨ρ, S, a, b, z, ok, da, db, hz, q⟩
  cases a with
  | int i =>
    cases b with
    | int j =>
      obtain ⟨hc, hz⟩ := when_ok hz
      obtain ⟨h0, h1, h2⟩ := of_decide_eq_true hc
      cases hz
      obtain rfl := da.int
      obtain rfl := db.int
      obtain ⟨t, rfl⟩ := rx
      obtain ⟨t', rfl⟩ := ry
      refine pow_int h0 ?_ ⟨.int _, H, I.tok _, ⟨_, rfl⟩, q H _ Xt.refl ok (.int _)⟩
      have hb := intBits_log i
      have h3 : (Builtin.Int.intBits i : Int) ≤ 10000 := by omega
      have h4 : (Builtin.Int.intBits i : Int) * j ≤ 10000 * j := Int.mul_le_mul_of_nonneg_right h3 h0
      omega
    | _ => cases hz
  | _ => cases hz
theorem op_pMul : OpR X (binaryOp .Mult) (rD X.K pMul) := by
  intro pins s σ H x y v u Q I rx ry ⟨ρ, S, a, b, z, ok, da, db, hz, q⟩
  cases a with
  | int i =>
    cases b with
    | int j =>
      obtain ⟨hc, hz⟩ := when_ok hz
      have hc := of_decide_eq_true hc
      cases hz
      obtain rfl := da.int
      obtain rfl := db.int
      exact op_mulW pins s σ H _ _ v u Q I rx ry ⟨i, j, rfl, rfl, hc, q H _ Xt.refl ok (.int _)⟩
    | _ => cases hz
  | list i =>
    cases b with
    | int j =>
      obtain ⟨hc, hz⟩ := when_ok hz
      obtain ⟨h1, h2, h3⟩ := of_decide_eq_true hc
      cases hz
      obtain ⟨a1, xs, rfl, h4, h5⟩ := da.list
      obtain rfl := db.int
      refine op_rep pins s σ H _ _ v u Q I rx ry ⟨a1, j, xs, rfl, rfl, h4, h1, h2, by rw [h5.length]; exact h3, fun p hp => ?_⟩
      exact q _ _ (Xt.new hp) (ok.new hp) (.lst upd_same (Live.ne ok hp) (Pds.mono (Gr.new hp) _ _ (h5.rep _)))
    | _ => cases hz
  | tuple i =>
    cases b with
    | int j =>
      obtain ⟨hc, hz⟩ := when_ok hz
      obtain ⟨h0, h1, h2, h3⟩ := of_decide_eq_true hc
      cases hz
      obtain ⟨a1, xs, rfl, h4, h5⟩ := da.tup
      obtain rfl := db.int
      cases rx
      obtain ⟨t, rfl⟩ := ry
      refine tup_rep I (h4.sq (K := X.K)) (fun e => ?_) h2 h1 (by rw [h5.length]; exact h3) (fun e => ?_) fun e its tk hv => ?_
      · subst e
        cases h5
        exact h0 rfl
      · subst e
        have z : (List.replicate (1 : Int).toNat i).flatten = i := by simp
        rw [z] at q
        exact ⟨.ref a1, H, I, rfl, q H _ Xt.refl ok (.tup h4 h5)⟩
      · refine tup_data I ok hv ?_ (h5.rep _) q
        rw [PyProof.Rows.lm_len_rep_flat]
        have z2 : j.toNat * i.length ≤ 1000 * 1000 := Nat.mul_le_mul (by omega) h3
        show _ ≤ 16777216
        omega
    | _ => cases hz
  | _ => cases hz
theorem un_pNeg : UnR X (unaryOp .USub) (rD1 X.K pNeg) := by
  intro pins s σ H x v Q I rx ⟨ρ, S, a, z, ok, da, hz, q⟩
  cases a with
  | int i =>
    cases hz
    obtain rfl := da.int
    exact un_neg pins s σ H _ v Q I rx ⟨i, rfl, q H _ Xt.refl ok (.int _)⟩
  | _ => cases hz
variable (hr : X.A.units + 2000 < cLine)
include hr
theorem op_pEq : OpR X (compareOp .Eq) (rD X.K pEq) := by
  intro pins s σ H x y v u Q I rx ry ⟨ρ, S, a, b, z, ok, da, db, hz, q⟩
  obtain ⟨hc, hz⟩ := when_ok hz
  rw [Bool.and_eq_true] at hc
  obtain ⟨pa, la⟩ := flat_of hc.1
  obtain ⟨pb, lb⟩ := flat_of hc.2
  cases hz
  obtain ⟨as, r1⟩ := Dp.reads I a x v (da.dp pa) rx
  obtain ⟨bs, r2⟩ := Dp.reads I b y u (db.dp pb) ry
  exact PySem.SeqAt.eq_plain r1 r2 pa pb (by omega) ⟨.bl _, H, I, rfl, q H _ Xt.refl ok (.bl _)⟩
theorem op_pNe : OpR X (compareOp .NotEq) (rD X.K pNe) := by
  intro pins s σ H x y v u Q I rx ry ⟨ρ, S, a, b, z, ok, da, db, hz, q⟩
  obtain ⟨hc, hz⟩ := when_ok hz
  rw [Bool.and_eq_true] at hc
  obtain ⟨pa, la⟩ := flat_of hc.1
  obtain ⟨pb, lb⟩ := flat_of hc.2
  cases hz
  obtain ⟨as, r1⟩ := Dp.reads I a x v (da.dp pa) rx
  obtain ⟨bs, r2⟩ := Dp.reads I b y u (db.dp pb) ry
  exact PySem.SeqAt.ne_plain r1 r2 pa pb (by omega) ⟨.bl _, H, I, rfl, q H _ Xt.refl ok (.bl _)⟩
end
end Mi
end
section
namespace Mi
open PySem PySem.Spec PyProof.Rows L2
section
theorem cmp_of {x y : PyData} (h : cmp? x y = true) : PySem.W.alike x y = true ∧ x ≠ .none ∧ flat? x = true ∧ flat? y = true := by
  unfold cmp? at h
  simp only [Bool.and_eq_true] at h
  refine ⟨h.1.1.1, ?_, h.1.2, h.2⟩
  rintro rfl
  have := h.1.1.2
  simp [isNone] at this
theorem pLt_ok {a b z : PyData} (h : pLt a b = .ok z) : (∃ i j, a = .int i ∧ b = .int j ∧ z = .bool (decide (i < j))) ∨ (cmp? a b = true ∧ z = .bool (PySem.W.dataLt a b)) := by
  unfold pLt at h
  split at h
  · cases h
    exact .inl ⟨_, _, rfl, rfl, rfl⟩
  · obtain ⟨h1, h2⟩ := when_ok h
    cases h2
    exact .inr ⟨h1, rfl⟩
theorem pGt_ok {a b z : PyData} (h : pGt a b = .ok z) : (∃ i j, a = .int i ∧ b = .int j ∧ z = .bool (decide (j < i))) ∨ (cmp? a b = true ∧ z = .bool (PySem.W.dataLt b a)) := by
  unfold pGt at h
  split at h
  · cases h
    exact .inl ⟨_, _, rfl, rfl, rfl⟩
  · obtain ⟨h1, h2⟩ := when_ok h
    cases h2
    exact .inr ⟨h1, rfl⟩
theorem pLe_ok {a b z : PyData} (h : pLe a b = .ok z) : (∃ i j, a = .int i ∧ b = .int j ∧ z = .bool (decide (i ≤ j))) ∨ (cmp? a b = true ∧ z = .bool (!PySem.W.dataLt b a)) := by
  unfold pLe at h
  split at h
  · cases h
    exact .inl ⟨_, _, rfl, rfl, rfl⟩
  · obtain ⟨h1, h2⟩ := when_ok h
    cases h2
    exact .inr ⟨h1, rfl⟩
theorem pGe_ok {a b z : PyData} (h : pGe a b = .ok z) : (∃ i j, a = .int i ∧ b = .int j ∧ z = .bool (decide (j ≤ i))) ∨ (cmp? a b = true ∧ z = .bool (!PySem.W.dataLt a b)) := by
  unfold pGe at h
  split at h
  · cases h
    exact .inl ⟨_, _, rfl, rfl, rfl⟩
  · obtain ⟨h1, h2⟩ := when_ok h
    cases h2
    exact .inr ⟨h1, rfl⟩
end
structure Gd (X : Cx) : Prop where
  calm : X.calm = true
  hu : X.A.units + 2000 < cLine
  gs : X.A.guards = some []
  nd : X.N.Nodup
section
variable {X : Cx}
section
variable (G : Gd X)
include G
theorem op_pLt : OpR X (compareOp .Lt) (rD X.K pLt) := by
  intro pins s σ H x y v u Q I rx ry ⟨ρ, S, a, b, z, ok, da, db, hz, q⟩
  rcases pLt_ok hz with ⟨i, j, rfl, rfl, rfl⟩ | ⟨hc, rfl⟩
  · obtain rfl := da.int
    obtain rfl := db.int
    exact op_lt pins s σ H _ _ v u Q I rx ry ⟨i, j, rfl, rfl, q H _ Xt.refl ok (.bl _)⟩
  · obtain ⟨h1, h2, h3, h4⟩ := cmp_of hc
    obtain ⟨pa, la⟩ := flat_of h3
    obtain ⟨pb, lb⟩ := flat_of h4
    obtain ⟨as, r1⟩ := Dp.reads I a x v (da.dp pa) rx
    obtain ⟨bs, r2⟩ := Dp.reads I b y u (db.dp pb) ry
    exact PySem.W.lt_data r1 r2 h1 h2 (by have := G.hu; omega) ⟨.bl _, H, I, rfl, q H _ Xt.refl ok (.bl _)⟩
theorem op_pGt : OpR X (compareOp .Gt) (rD X.K pGt) := by
  intro pins s σ H x y v u Q I rx ry ⟨ρ, S, a, b, z, ok, da, db, hz, q⟩
  rcases pGt_ok hz with ⟨i, j, rfl, rfl, rfl⟩ | ⟨hc, rfl⟩
  · obtain rfl := da.int
    obtain rfl := db.int
    exact op_gt pins s σ H _ _ v u Q I rx ry ⟨i, j, rfl, rfl, q H _ Xt.refl ok (.bl _)⟩
  · obtain ⟨h1, h2, h3, h4⟩ := cmp_of hc
    obtain ⟨pa, la⟩ := flat_of h3
    obtain ⟨pb, lb⟩ := flat_of h4
    obtain ⟨as, r1⟩ := Dp.reads I a x v (da.dp pa) rx
    obtain ⟨bs, r2⟩ := Dp.reads I b y u (db.dp pb) ry
    exact PySem.W.gt_data r1 r2 h1 h2 (by have := G.hu; omega) ⟨.bl _, H, I, rfl, q H _ Xt.refl ok (.bl _)⟩
theorem op_pLe : OpR X (compareOp .LtE) (rD X.K pLe) := by
  intro pins s σ H x y v u Q I rx ry ⟨ρ, S, a, b, z, ok, da, db, hz, q⟩
  rcases pLe_ok hz with ⟨i, j, rfl, rfl, rfl⟩ | ⟨hc, rfl⟩
  · obtain rfl := da.int
    obtain rfl := db.int
    exact op_le pins s σ H _ _ v u Q I rx ry ⟨i, j, rfl, rfl, q H _ Xt.refl ok (.bl _)⟩
  · obtain ⟨h1, h2, h3, h4⟩ := cmp_of hc
    obtain ⟨pa, la⟩ := flat_of h3
    obtain ⟨pb, lb⟩ := flat_of h4
    obtain ⟨as, r1⟩ := Dp.reads I a x v (da.dp pa) rx
    obtain ⟨bs, r2⟩ := Dp.reads I b y u (db.dp pb) ry
    exact PySem.W.le_data r1 r2 h1 h2 (by have := G.hu; omega) ⟨.bl _, H, I, rfl, q H _ Xt.refl ok (.bl _)⟩
theorem op_pGe : OpR X (compareOp .GtE) (rD X.K pGe) := by
  intro pins s σ H x y v u Q I rx ry ⟨ρ, S, a, b, z, ok, da, db, hz, q⟩
  rcases pGe_ok hz with ⟨i, j, rfl, rfl, rfl⟩ | ⟨hc, rfl⟩
  · obtain rfl := da.int
    obtain rfl := db.int
    exact op_ge pins s σ H _ _ v u Q I rx ry ⟨i, j, rfl, rfl, q H _ Xt.refl ok (.bl _)⟩
  · obtain ⟨h1, h2, h3, h4⟩ := cmp_of hc
    obtain ⟨pa, la⟩ := flat_of h3
    obtain ⟨pb, lb⟩ := flat_of h4
    obtain ⟨as, r1⟩ := Dp.reads I a x v (da.dp pa) rx
    obtain ⟨bs, r2⟩ := Dp.reads I b y u (db.dp pb) ry
    exact PySem.W.ge_data r1 r2 h1 h2 (by have := G.hu; omega) ⟨.bl _, H, I, rfl, q H _ Xt.refl ok (.bl _)⟩
theorem op_eqG : OpR X (compareOp .Eq) (rD X.K pEq) := op_pEq G.hu
theorem op_neG : OpR X (compareOp .NotEq) (rD X.K pNe) := op_pNe G.hu
theorem flat_list {xs : List PyData} (h : flat? (.list xs) = true) : PyData.plainAll xs = true := by
  have := (flat_of h).1
  simpa [PyData.plain] using this
theorem flat_tuple {xs : List PyData} (h : flat? (.tuple xs) = true) : PyData.plainAll xs = true := by
  have := (flat_of h).1
  simpa [PyData.plain] using this
theorem op_pIn : OpR X (compareOp .In) (rD X.K pIn) := by
  intro pins s σ H x y v u Q I rx ry ⟨ρ, S, a, b, z, ok, da, db, hz, q⟩
  have hu := G.hu
  cases b with
  | list ys =>
    simp only [pIn] at hz
    obtain ⟨hc, hz⟩ := when_ok hz
    cases hz
    rw [Bool.and_eq_true] at hc
    obtain ⟨pa, la⟩ := flat_of hc.1
    obtain ⟨as, r1⟩ := Dp.reads I a x v (da.dp pa) rx
    obtain ⟨bs, r2⟩ := Dp.reads I (.list ys) y u (db.dp (flat_of hc.2).1) ry
    exact PySem.SeqAt.in_list_data r2 r1 (flat_list G hc.2) pa (by omega) ⟨.bl _, H, I, rfl, q H _ Xt.refl ok (.bl _)⟩
  | tuple ys =>
    simp only [pIn] at hz
    obtain ⟨hc, hz⟩ := when_ok hz
    cases hz
    rw [Bool.and_eq_true] at hc
    obtain ⟨pa, la⟩ := flat_of hc.1
    obtain ⟨as, r1⟩ := Dp.reads I a x v (da.dp pa) rx
    obtain ⟨bs, r2⟩ := Dp.reads I (.tuple ys) y u (db.dp (flat_of hc.2).1) ry
    exact PySem.SeqAt.in_tuple_data r2 r1 (flat_tuple G hc.2) pa (by omega) ⟨.bl _, H, I, rfl, q H _ Xt.refl ok (.bl _)⟩
  | str j =>
    cases a with
    | str i =>
      cases hz
      obtain rfl := da.str
      obtain rfl := db.str
      exact op_in_str pins s σ H _ _ v u Q I rx ry ⟨i, j, rfl, rfl, q H _ Xt.refl ok (.bl _)⟩
    | _ => cases hz
  | _ => cases a <;> cases hz
theorem op_pNotIn : OpR X (compareOp .NotIn) (rD X.K pNotIn) := by
  intro pins s σ H x y v u Q I rx ry ⟨ρ, S, a, b, z, ok, da, db, hz, q⟩
  have hu := G.hu
  cases b with
  | list ys =>
    simp only [pNotIn] at hz
    obtain ⟨hc, hz⟩ := when_ok hz
    cases hz
    rw [Bool.and_eq_true] at hc
    obtain ⟨pa, la⟩ := flat_of hc.1
    obtain ⟨as, r1⟩ := Dp.reads I a x v (da.dp pa) rx
    obtain ⟨bs, r2⟩ := Dp.reads I (.list ys) y u (db.dp (flat_of hc.2).1) ry
    exact PySem.SeqAt.notIn_list_data r2 r1 (flat_list G hc.2) pa (by omega) ⟨.bl _, H, I, rfl, q H _ Xt.refl ok (.bl _)⟩
  | tuple ys =>
    simp only [pNotIn] at hz
    obtain ⟨hc, hz⟩ := when_ok hz
    cases hz
    rw [Bool.and_eq_true] at hc
    obtain ⟨pa, la⟩ := flat_of hc.1
    obtain ⟨as, r1⟩ := Dp.reads I a x v (da.dp pa) rx
    obtain ⟨bs, r2⟩ := Dp.reads I (.tuple ys) y u (db.dp (flat_of hc.2).1) ry
    exact PySem.SeqAt.notIn_tuple_data r2 r1 (flat_tuple G hc.2) pa (by omega) ⟨.bl _, H, I, rfl, q H _ Xt.refl ok (.bl _)⟩
  | str j =>
    cases a with
    | str i =>
      cases hz
      obtain rfl := da.str
      obtain rfl := db.str
      exact op_notIn_str pins s σ H _ _ v u Q I rx ry ⟨i, j, rfl, rfl, q H _ Xt.refl ok (.bl _)⟩
    | _ => cases hz
  | _ => cases a <;> cases hz
end
section
variable {L : Addr → Prop} {H : Hp} {x : V} {d : PyData}
theorem key_K (h : Dv L H x d) (k : keyOk false d = true) : ∃ k : Key, x = kV k ∧ d = keyD k := by
  cases d with
  | int i => exact ⟨.inl i, h.int, rfl⟩
  | str i => exact ⟨.inr i, h.str, rfl⟩
  | _ => simp [keyOk] at k
theorem keyD_eqv (a b : Key) : PyData.eqv (keyD a) (keyD b) = decide (a = b) := by
  cases a with
  | inl i =>
    cases b with
    | inl j => rw [key_ll]; simp [keyD, PyData.eqv]
    | inr y => rw [key_lr]; simp [keyD, PyData.eqv]
  | inr x =>
    cases b with
    | inl j => rw [key_rl]; simp [keyD, PyData.eqv]
    | inr y =>
      rw [key_rr]
      simp only [keyD, PyData.eqv]
      exact (Bool.beq_eq_decide_eq x y)
theorem KvK.val : ∀ {us : List (Key × V)} {kvs : List (PyData × PyData)}, KvK L H us kvs → ∀ k : Key, (valV us k).isSome = hasKey kvs (keyD k)
  | _, _, .nil, k => rfl
  | _, _, .cons (k := k0) a t, k => by
    unfold hasKey
    rw [List.any_cons, keyD_eqv]
    by_cases e : k0 = k
    · rw [valV_pos (p := (k0, _)) e, decide_eq_true e]
      rfl
    · rw [valV_neg (p := (k0, _)) e, decide_eq_false e, Bool.false_or]
      exact KvK.val t k
theorem KvK.look : ∀ {us : List (Key × V)} {kvs : List (PyData × PyData)}, KvK L H us kvs → ∀ {k : Key} {z : PyData}, Mi.look kvs (keyD k) = some z → ∃ v, valV us k = some v ∧ Pd L H v z
  | _, _, .nil, k, z, h => by cases h
  | _, _, .cons (k := k0) (v := v0) a t, k, z, h => by
    unfold Mi.look at h
    rw [keyD_eqv] at h
    by_cases e : k0 = k
    · rw [decide_eq_true e, if_pos rfl] at h
      cases h
      exact ⟨v0, valV_pos (p := (k0, _)) e, a⟩
    · rw [decide_eq_false e, if_neg Bool.false_ne_true] at h
      rw [valV_neg (p := (k0, _)) e]
      exact KvK.look t h
end
theorem op_pIsNotB : OpR X (compareOp .IsNot) (rD X.K pIsNotB) := by
  intro pins s σ H x y v u Q I rx ry ⟨ρ, S, a, b, z, ok, da, db, hz, q⟩
  cases a with
  | bool i =>
    cases b with
    | bool j =>
      cases hz
      obtain rfl := da.bool
      obtain rfl := db.bool
      exact op_isnot_bl pins s σ H _ _ v u Q I rx ry ⟨i, j, rfl, rfl, q H _ Xt.refl ok (.bl _)⟩
    | _ => cases hz
  | _ => cases hz
end
end Mi
end
section
namespace Mi
open PySem PySem.Spec PyProof.Rows L2
section
variable {X : Cx} {e a b c : Expr} {pos p : Pos} {fa fb fc : Ex} {ga gb : Bx}
theorem Ok.dict {K : PySem.W.Frag} {ρ : List Addr} {S : Store} {H : Hp} {v : V} {d : D} {kvs : List (PyData × PyData)} (ok : Ok ρ S H) (h : DOk K ρ S H v d) (e : dictOf S d = some (false, kvs)) : ∃ a us, v = .ref a ∧ Rd H a (.dK us) ∧ KvK (Live ρ S) H us kvs := by
  cases d with
  | ref i =>
    obtain ⟨a, h1, rfl⟩ := h
    cases hs : S[i]? with
    | none => simp [Mi.dictOf, hs] at e
    | some c =>
      have q := ok.cell i a c h1 hs
      simp only [Mi.dictOf, hs] at e
      cases c with
      | dct t xs => cases e; obtain ⟨us, q1, q2⟩ := q; exact ⟨a, us, rfl, .inl q1, q2⟩
      | fdct t xs => cases e; obtain ⟨o, us, q1, q2⟩ := q; exact ⟨a, us, rfl, .inr ⟨o, q1⟩, q2⟩
      | _ => cases e
  | _ => cases e
def rInD (neg : Bool) : R2 := fun x y H Q => ∃ a o, y = .ref a ∧ DGet H a x o ∧ Q (.bl (if neg then !o.isSome else o.isSome)) H
theorem op_inD (G : Gd X) : OpR X (compareOp .In) (rInD false) := by
  intro pins s σ H x y v u Q I rx ry ⟨a, o, ey, g, q⟩
  subst ey
  cases ry
  exact d_in (by have := G.hu; omega) I g rx fun s3 I3 => ⟨.bl o.isSome, H, I3, rfl, q⟩
theorem op_notInD (G : Gd X) : OpR X (compareOp .NotIn) (rInD true) := by
  intro pins s σ H x y v u Q I rx ry ⟨a, o, ey, g, q⟩
  subst ey
  cases ry
  exact d_notIn (by have := G.hu; omega) I g rx fun s3 I3 => ⟨.bl (!o.isSome), H, I3, rfl, q⟩
def rIn' (K : PySem.W.Frag) : R2 := fun x y H Q => rD K pIn x y H Q ∨ rInD false x y H Q
def rNotIn' (K : PySem.W.Frag) : R2 := fun x y H Q => rD K pNotIn x y H Q ∨ rInD true x y H Q
theorem tIn {K : PySem.W.Frag} {σ : L2.St} {H : Hp} {Q : VK} (h : TX K (mIn fa fb) σ H Q) : tOp (rIn' K) (TX K fa) (TX K fb) σ H Q := by
  obtain ⟨ρ, env, S, eo, ok, q⟩ := h
  refine ⟨ρ, env, S, eo, ok, (Aft.bd q).mono fun p ρ1 H1 e1 o1 q1 v1 d1 => ?_⟩
  refine ⟨ρ1, env, p.2, eo.mono e1, o1, (Aft.bd q1).mono fun p2 ρ2 H2 e2 o2 q2 v2 d2 => ?_⟩
  obtain ⟨u, hu, q3⟩ := Aft.bx q2
  have du := o2.dv (d1.mono e2) hu
  cases hd : dictOf p2.2 p2.1 with
  | none =>
    simp only [hd] at q3
    obtain ⟨w, hw, q4⟩ := Aft.bx q3
    obtain ⟨z, hz, q5⟩ := Aft.bx q4
    exact .inl ⟨ρ2, p2.2, u, w, z, o2, du, o2.dv d2 hw, hz, fun H' w' e' o' r' => q5 ρ2 H' e' o' w' r'⟩
  | some tk =>
    obtain ⟨t, kvs⟩ := tk
    simp only [hd] at q3
    obtain ⟨hk, q4⟩ := Aft.when q3
    cases t with
    | true => cases hk
    | false =>
      obtain ⟨a, us, ea, ha, hr⟩ := o2.dict d2 hd
      obtain ⟨k, ek, rfl⟩ := key_K du hk
      refine .inr ⟨a, valV us k, ea, ?_, ?_⟩
      · rw [ek]
        exact .inl ⟨us, k, ha, rfl, rfl⟩
      · show Q (.bl (valV us k).isSome) H2
        rw [hr.val k]
        exact (Aft.here q4 rfl o2) _ (.bl _)
theorem tNotIn {K : PySem.W.Frag} {σ : L2.St} {H : Hp} {Q : VK} (h : TX K (mNotIn fa fb) σ H Q) : tOp (rNotIn' K) (TX K fa) (TX K fb) σ H Q := by
  obtain ⟨ρ, env, S, eo, ok, q⟩ := h
  refine ⟨ρ, env, S, eo, ok, (Aft.bd q).mono fun p ρ1 H1 e1 o1 q1 v1 d1 => ?_⟩
  refine ⟨ρ1, env, p.2, eo.mono e1, o1, (Aft.bd q1).mono fun p2 ρ2 H2 e2 o2 q2 v2 d2 => ?_⟩
  obtain ⟨u, hu, q3⟩ := Aft.bx q2
  have du := o2.dv (d1.mono e2) hu
  cases hd : dictOf p2.2 p2.1 with
  | none =>
    simp only [hd] at q3
    obtain ⟨w, hw, q4⟩ := Aft.bx q3
    obtain ⟨z, hz, q5⟩ := Aft.bx q4
    exact .inl ⟨ρ2, p2.2, u, w, z, o2, du, o2.dv d2 hw, hz, fun H' w' e' o' r' => q5 ρ2 H' e' o' w' r'⟩
  | some tk =>
    obtain ⟨t, kvs⟩ := tk
    simp only [hd] at q3
    obtain ⟨hk, q4⟩ := Aft.when q3
    cases t with
    | true => cases hk
    | false =>
      obtain ⟨a, us, ea, ha, hr⟩ := o2.dict d2 hd
      obtain ⟨k, ek, rfl⟩ := key_K du hk
      refine .inr ⟨a, valV us k, ea, ?_, ?_⟩
      · rw [ek]
        exact .inl ⟨us, k, ha, rfl, rfl⟩
      · show Q (.bl (!(valV us k).isSome)) H2
        rw [hr.val k]
        exact (Aft.here q4 rfl o2) _ (.bl _)
theorem t_in (G : Gd X) (ha : PE X a (TX X.K fa)) (hb : PE X b (TX X.K fb)) (hm : behindInMarks .In b = false := by rfl) : PT X (.Compare a [.In] [b] pos) (TBx X.K (tE (mIn fa fb))) :=
  PT.up (pt_cmpR (OpR.or (op_pIn G) (op_inD G)) ha hb hm) fun _ _ _ h => tIn (t_of h)
theorem t_notIn (G : Gd X) (ha : PE X a (TX X.K fa)) (hb : PE X b (TX X.K fb)) (hm : behindInMarks .NotIn b = false := by rfl) : PT X (.Compare a [.NotIn] [b] pos) (TBx X.K (tE (mNotIn fa fb))) :=
  PT.up (pt_cmpR (OpR.or (op_pNotIn G) (op_notInD G)) ha hb hm) fun _ _ _ h => tNotIn (t_of h)
theorem Pds.atI {L : Addr → Prop} {H : Hp} {vs : List V} {ds : List PyData} (r : Pds L H vs ds) {i : Int} {d : PyData} (h : Mi.atD ds i = some d) : ∃ v, L2.atI vs i = some v ∧ Pd L H v d := by
  unfold Mi.atD at h
  cases hj : Mi.ixN ds.length i with
  | none => rw [hj] at h; cases h
  | some j =>
    rw [hj] at h
    obtain ⟨v, h1, h2⟩ := r.at (i := j) h
    refine ⟨v, ?_, h2⟩
    unfold L2.atI
    rw [r.length]
    have : L2.ixN ds.length i = some j := hj
    rw [this]
    exact h1
def rIxD (K : PySem.W.Frag) : R2 := fun x y H Q => ∃ (ρ : List Addr) (S : Store) (u v z : PyData), Ok ρ S H ∧ Dr K (Live ρ S) H x u ∧ Dv (Live ρ S) H y v ∧ pIx u v = .ok z ∧ ∀ H' w, Xt ρ S H ρ S H' → Ok ρ S H' → Pd (Live ρ S) H' w z → Q w H'
theorem ix_pIx : IxR X (rIxD X.K) := by
  intro value slice pins s σ H x y v u Q I rx ry ⟨ρ, S, a, b, z, ok, da, db, hz, q⟩ hs
  cases da with
  | scr h =>
    cases b with
    | int i =>
      simp only [pIx] at hz
      obtain rfl := db.int
      cases ha : Mi.atD (List.map PyData.int _) i with
      | none => rw [ha] at hz; cases hz
      | some d =>
        rw [ha] at hz
        cases hz
        obtain ⟨w, h1, h2⟩ := Pds.atI (pds_ints (L := Live ρ S) (H := H) _) ha
        exact ix_list value slice pins s σ H _ _ v u Q I rx ry ⟨_, _, i, w, rfl, rfl, h, h1, q H w Xt.refl ok h2⟩ hs
    | _ => cases hz
  | dv da =>
    cases b with
    | int i =>
      obtain rfl := db.int
      cases a with
      | list xs =>
        simp only [pIx] at hz
        obtain ⟨p, vs, rfl, h1, h2⟩ := da.list
        cases ha : Mi.atD xs i with
        | none => rw [ha] at hz; cases hz
        | some d =>
          rw [ha] at hz
          cases hz
          obtain ⟨w, h3, h4⟩ := h2.atI ha
          exact ix_list value slice pins s σ H _ _ v u Q I rx ry ⟨_, _, i, w, rfl, rfl, .of h1, h3, q H w Xt.refl ok h4⟩ hs
      | tuple xs =>
        simp only [pIx] at hz
        obtain ⟨p, vs, rfl, h1, h2⟩ := da.tup
        cases ha : Mi.atD xs i with
        | none => rw [ha] at hz; cases hz
        | some d =>
          rw [ha] at hz
          cases hz
          obtain ⟨w, h3, h4⟩ := h2.atI ha
          exact ix_tup value slice pins s σ H _ _ v u Q I rx ry ⟨_, _, i, w, rfl, rfl, h1.sq, h3, q H w Xt.refl ok h4⟩ hs
      | str t =>
        simp only [pIx] at hz
        obtain ⟨hc, hz⟩ := when_ok hz
        have hc : t.length ≤ Line := of_decide_eq_true hc
        obtain rfl := da.str
        cases ha : Mi.atD t.cps.toList i with
        | none => rw [ha] at hz; cases hz
        | some d =>
          rw [ha] at hz
          cases hz
          exact ix_str value slice pins s σ H _ _ v u Q I rx ry ⟨t, i, d, rfl, rfl, hc, ha, q H _ Xt.refl ok (.str _)⟩ hs
      | _ => cases hz
    | _ => cases a <;> cases hz
def rIxDict : R2 := fun x y H Q => ∃ a v, x = .ref a ∧ DGet H a y (some v) ∧ Q v H
theorem ix_dict (G : Gd X) : IxR X rIxDict := by
  intro value slice pins s σ H x y v u Q I rx ry ⟨a, w, ex, g, q⟩ hs
  subst ex
  cases rx
  exact tail_any (dict_typeIs I g) PySem.F.slot_dict_getitem.lookup (d_getItem (by have := G.hu; omega) I g ry fun w' s3 I3 rw' => ⟨w, H, I3, rw', q⟩) hs
theorem tIx {K : PySem.W.Frag} {σ : L2.St} {H : Hp} {Q : VK} (h : TX K (mIx fa fb) σ H Q) : tOp (fun x y H Q => rIxD K x y H Q ∨ rIxDict x y H Q) (TX K fa) (TX K fb) σ H Q := by
  obtain ⟨ρ, env, S, eo, ok, q⟩ := h
  refine ⟨ρ, env, S, eo, ok, (Aft.bd q).mono fun p ρ1 H1 e1 o1 q1 v1 d1 => ?_⟩
  refine ⟨ρ1, env, p.2, eo.mono e1, o1, (Aft.bd q1).mono fun p2 ρ2 H2 e2 o2 q2 v2 d2 => ?_⟩
  cases hd : dictOf p2.2 p.1 with
  | none =>
    simp only [hd] at q2
    obtain ⟨u, hu, q3⟩ := Aft.bx q2
    obtain ⟨w, hw, q4⟩ := Aft.bx q3
    obtain ⟨z, hz, q5⟩ := Aft.bx q4
    exact .inl ⟨ρ2, p2.2, u, w, z, o2, o2.dr (d1.mono e2) hu, o2.dv d2 hw, hz, fun H' w' e' o' r' => q5 ρ2 H' e' o' w' r'⟩
  | some tk =>
    obtain ⟨t, kvs⟩ := tk
    simp only [hd] at q2
    obtain ⟨u, hu, q3⟩ := Aft.bx q2
    obtain ⟨hk, q4⟩ := Aft.when q3
    cases t with
    | true => cases hk
    | false =>
      obtain ⟨a, us, ea, ha, hr⟩ := o2.dict (d1.mono e2) hd
      obtain ⟨k, ek, rfl⟩ := key_K (o2.dv d2 hu) hk
      obtain ⟨z, hz, q5⟩ := Aft.orNo q4
      obtain ⟨w, h1, h2⟩ := hr.look hz
      refine .inr ⟨a, w, ea, ?_, (Aft.here q5 rfl o2) _ h2⟩
      rw [ek, ← h1]
      exact .inl ⟨us, k, ha, rfl, rfl⟩
theorem x_ix (G : Gd X) (ha : PE X a (TX X.K fa)) (hb : PE X b (TX X.K fb)) (hs : PlainIx b := by intro _ _; rfl) : PE X (.Subscript a b pos) (TX X.K (mIx fa fb)) :=
  PE.up (pe_ix (IxR.or ix_pIx (ix_dict G)) ha hb hs) fun _ _ _ h => tIx h
end
end Mi
end
section
namespace Mi
open PySem PySem.Spec PyProof.Rows L2
section
variable {X : Cx} {e a b c : Expr} {pos p : Pos} {fa fb fc : Ex} {ga gb : Bx} {rest : List Expr}
theorem isN_eq {K : PySem.W.Frag} {ρ : List Addr} {S : Store} {H : Hp} {v : V} {d : D} (h : DOk K ρ S H v d) : isN d = decide (v = .non) := by
  cases d with
  | p d => cases h <;> rfl
  | ref i =>
    obtain ⟨a, _, rfl⟩ := h
    rfl
  | scr ns =>
    obtain ⟨a, rfl, _⟩ := h
    rfl
  | rows i n rs =>
    obtain ⟨a, _, _, rfl, _⟩ := h
    rfl
  | fn f c q =>
    obtain ⟨rfl, _⟩ := h
    rfl
  | exn x =>
    obtain ⟨a, _, _, rfl, _⟩ := h
    rfl
theorem tIs {K : PySem.W.Frag} {σ : L2.St} {H : Hp} {Q : VK} (h : TX K (mIsN fa) σ H Q) : tIsN (TX K fa) σ H Q := by
  obtain ⟨ρ, env, S, eo, ok, q⟩ := h
  refine ⟨ρ, env, S, eo, ok, (Aft.bd q).mono fun p ρ1 H1 e1 o1 q1 v1 d1 => ?_⟩
  have z := (Aft.here q1 rfl o1) (.bl (isN p.1)) (.bl _)
  rw [isN_eq d1] at z
  exact z
theorem x_isN {j : Nat} {p2 : Pos} (ha : PE X a (TX X.K fa)) : PE X (.Compare a [.Is] [.Constant .none j p2] pos) (TX X.K (mIsN fa)) := PE.up (pe_cmp (pc_isN ha)) fun _ _ _ h => tIs h
theorem t_isN {j : Nat} {p2 : Pos} (ha : PE X a (TX X.K fa)) : PT X (.Compare a [.Is] [.Constant .none j p2] pos) (TBx X.K (tE (mIsN fa))) := PT.up (pt_cmp (pc_isN ha)) fun _ _ _ h => tIs (t_of h)
theorem tCh {K : PySem.W.Frag} {f g : PyData → PyData → R PyData} {σ : L2.St} {H : Hp} {Q : VK} (h : TX K (mCh f g fa fb fc) σ H Q) : tChain (rD K f) (rD K g) (TX K fa) (TX K fb) (TX K fc) σ H Q := by
  obtain ⟨ρ, env, S, eo, ok, q⟩ := h
  refine ⟨ρ, env, S, eo, ok, (Aft.bd q).mono fun p ρ1 H1 e1 o1 q1 v1 d1 => ?_⟩
  refine ⟨ρ1, env, p.2, eo.mono e1, o1, (Aft.bd q1).mono fun p2 ρ2 H2 e2 o2 q2 v2 d2 => ?_⟩
  obtain ⟨u, hu, q3⟩ := Aft.bx q2
  obtain ⟨w, hw, q4⟩ := Aft.bx q3
  obtain ⟨z, hz, q5⟩ := Aft.bx q4
  refine ⟨ρ2, p2.2, u, w, z, o2, o2.dv (d1.mono e2) hu, o2.dv d2 hw, hz, fun H' w' e' o' r' => ?_⟩
  cases z with
  | bool k =>
    cases r'
    refine ⟨k, rfl, ?_⟩
    cases k with
    | true =>
      rw [if_pos rfl]
      refine ⟨ρ2, env, p2.2, (eo.mono (e1.trans e2)).mono e', o', ((Aft.bd q5).from e').mono fun p3 ρ3 H3 e3 o3 q6 v3 d3 => ?_⟩
      obtain ⟨w2, hw2, q7⟩ := Aft.bx q6
      obtain ⟨t2, ht2, q8⟩ := Aft.bx q7
      obtain ⟨z2, hz2, q9⟩ := Aft.bx q8
      exact ⟨ρ3, p3.2, w2, t2, z2, o3, o3.dv ((d2.mono e').mono e3) hw2, o3.dv d3 ht2, hz2, fun H4 w4 e4 o4 r4 => q9 ρ3 H4 e4 o4 w4 r4⟩
    | false =>
      rw [if_neg Bool.false_ne_true]
      exact q5 ρ2 H' e' o' _ (.bl _)
  | _ => exact False.elim q5
theorem x_ch {op op' : CmpOp} {f g : PyData → PyData → R PyData} (ho : OpR X (compareOp op) (rD X.K f)) (ho' : OpR X (compareOp op') (rD X.K g)) (ha : PE X a (TX X.K fa)) (hb : PE X b (TX X.K fb)) (hc : PE X c (TX X.K fc)) (hm : lastMarks [op, op'] [b, c] = false := by with_unfolding_all rfl) :
    PE X (.Compare a [op, op'] [b, c] pos) (TX X.K (mCh f g fa fb fc)) := PE.up (pe_chain ho ho' ha hb hc hm) fun _ _ _ h => tCh h
theorem w_and1 (ha : PT X a (TBx X.K ga)) : PW X (.BoolOp .And [a] pos) (TBx X.K ga) := pw_and1 ha
theorem w_or1 (ha : PT X a (TBx X.K ga)) : PW X (.BoolOp .Or [a] pos) (TBx X.K ga) := pw_or1 ha
theorem w_and (ha : PT X a (TBx X.K ga)) (hb : PW X (.BoolOp .And (b :: rest) pos) (TBx X.K gb)) : PW X (.BoolOp .And (a :: b :: rest) pos) (TBx X.K (tAnd ga gb)) := PW.up (pw_and ha hb) fun σ H Q ⟨ρ, env, S, eo, ok, q⟩ => by
  refine ⟨ρ, env, S, eo, ok, (Aft.bd q).mono fun p ρ1 H1 e1 o1 q1 => ?_⟩
  obtain ⟨k, S1⟩ := p
  cases k with
  | true => exact ⟨ρ1, env, S1, eo.mono e1, o1, q1⟩
  | false => exact Aft.here q1 rfl o1
theorem w_or (ha : PT X a (TBx X.K ga)) (hb : PW X (.BoolOp .Or (b :: rest) pos) (TBx X.K gb)) : PW X (.BoolOp .Or (a :: b :: rest) pos) (TBx X.K (tOr ga gb)) := PW.up (pw_or ha hb) fun σ H Q ⟨ρ, env, S, eo, ok, q⟩ => by
  refine ⟨ρ, env, S, eo, ok, (Aft.bd q).mono fun p ρ1 H1 e1 o1 q1 => ?_⟩
  obtain ⟨k, S1⟩ := p
  cases k with
  | true => exact Aft.here q1 rfl o1
  | false => exact ⟨ρ1, env, S1, eo.mono e1, o1, q1⟩
theorem t_not (ha : PT X a (TBx X.K ga)) : PT X (.UnaryOp .Not a pos) (TBx X.K (Mi.tNot ga)) := PT.up (pt_not ha) fun σ H Q ⟨ρ, env, S, eo, ok, q⟩ =>
  ⟨ρ, env, S, eo, ok, (Aft.bd q).mono fun p ρ1 H1 e1 o1 q1 => Aft.here q1 rfl o1⟩
theorem x_one {op : BoolOp} (ha : PE X a (TX X.K fa)) : PE X (.BoolOp op [a] pos) (TX X.K fa) := pe_one ha
theorem x_and (ha : PE X a (TX X.K fa)) (hb : PE X (.BoolOp .And (b :: rest) pos) (TX X.K fb)) : PE X (.BoolOp .And (a :: b :: rest) pos) (TX X.K (mAnd fa fb)) := PE.up (pe_and ha hb) fun σ H Q ⟨ρ, env, S, eo, ok, q⟩ => by
  refine ⟨ρ, env, S, eo, ok, (Aft.bd q).mono fun p ρ1 H1 e1 o1 q1 v1 d1 => ?_⟩
  obtain ⟨d, S1⟩ := p
  cases d with
  | p d =>
    cases d with
    | bool k =>
      cases d1
      refine ⟨k, rfl, ?_⟩
      cases k with
      | true => exact ⟨ρ1, env, S1, eo.mono e1, o1, q1⟩
      | false => exact (Aft.here q1 rfl o1) _ (.bl _)
    | _ => exact False.elim q1
  | _ => exact False.elim q1
theorem x_not (ha : PE X a (TX X.K fa)) : PE X (.UnaryOp .Not a pos) (TX X.K (mO1 pNot fa)) := PE.up (pe_not ha) fun σ H Q h => by
  refine tO1 (f := pNot) h |> fun z => ?_
  obtain ⟨ρ, env, S, eo, ok, q⟩ := h
  refine ⟨ρ, env, S, eo, ok, (Aft.bd q).mono fun p ρ1 H1 e1 o1 q1 v1 d1 => ?_⟩
  obtain ⟨u, hu, q3⟩ := Aft.bx q1
  obtain ⟨z, hz, q5⟩ := Aft.bx q3
  have du := o1.dv d1 hu
  cases u with
  | bool k =>
    cases hz
    exact ⟨k, du.bool, (Aft.here q5 rfl o1) _ (.bl _)⟩
  | _ => cases hz
theorem x_if (ht : PT X c (TBx X.K ga)) (ha : PE X a (TX X.K fa)) (hb : PE X b (TX X.K fb)) : PE X (.IfExp c a b pos) (TX X.K (mIf ga fa fb)) := PE.up (pe_ifExp ht ha hb) fun σ H Q ⟨ρ, env, S, eo, ok, q⟩ => by
  refine ⟨ρ, env, S, eo, ok, (Aft.bd q).mono fun p ρ1 H1 e1 o1 q1 => ?_⟩
  obtain ⟨k, S1⟩ := p
  cases k with
  | true => exact ⟨ρ1, env, S1, eo.mono e1, o1, q1⟩
  | false => exact ⟨ρ1, env, S1, eo.mono e1, o1, q1⟩
variable {es : List Expr} {fs : As}
theorem a_nil : PA X [] (TAs X.K aNil) := PA.up pa_nil fun σ H Q ⟨ρ, env, S, eo, ok, q⟩ => (Aft.here q rfl ok) _ .nil
theorem a_cons (ha : PE X e (TX X.K fa)) (hr : PA X es (TAs X.K fs)) (hs : starEach (e :: es) X.env = (false, eval e X.env) :: starEach es X.env := by rfl) : PA X (e :: es) (TAs X.K (aCons fa fs)) :=
  PA.up (pa_cons ha hr hs) fun σ H Q ⟨ρ, env, S, eo, ok, q⟩ => by
    refine ⟨ρ, env, S, eo, ok, (Aft.bd q).mono fun p ρ1 H1 e1 o1 q1 v1 d1 => ?_⟩
    refine ⟨ρ1, env, p.2, eo.mono e1, o1, (Aft.bd q1).mono fun p2 ρ2 H2 e2 o2 q2 vs ds => ?_⟩
    exact (Aft.here q2 rfl o2) _ (.cons (d1.mono e2) ds)
theorem nodup_ixA {ρ : List Addr} (hN : ρ.Nodup) {i j : Nat} {x : Addr} (a : ρ[i]? = some x) (b : ρ[j]? = some x) : i = j := by
  obtain ⟨h1, e1⟩ := List.getElem?_eq_some_iff.mp a
  obtain ⟨h2, e2⟩ := List.getElem?_eq_some_iff.mp b
  exact (List.getElem_inj hN).mp (e1.trans e2.symm)
theorem Live.froze {ρ : List Addr} {S : Store} {i : Nat} {c : Cell} (hc : c.free = false) (x : Addr) (h : Live ρ (S.set i c) x) : Live ρ S x := by
  obtain ⟨j, c', h1, h2, h3⟩ := h
  by_cases hj : i = j
  · subst hj
    by_cases hl : i < S.length
    · rw [List.getElem?_set_self hl] at h2
      cases h2
      rw [hc] at h3
      cases h3
    · rw [List.set_eq_of_length_le (by omega)] at h2
      exact ⟨i, c', h1, h2, h3⟩
  · rw [List.getElem?_set_ne hj] at h2
    exact ⟨j, c', h1, h2, h3⟩
theorem Gr.less {L L' : Addr → Prop} {H : Hp} (g : ∀ a, L' a → L a) : Gr L L' H H := ⟨fun a h => .inl (g a h), fun _ _ h _ => h, fun _ h => h, fun _ _ _ h => h⟩
theorem nst_set {ρ : List Addr} {S : Store} {H H' : Hp} {i : Nat} {c c0 : Cell} (h : S[i]? = some c0) (hc : ∀ n rs, c0 ≠ .nst n rs) (hH : ∀ (j : Nat) (b : Addr), i ≠ j → ρ[j]? = some b → ∀ o, H b = some o → H' b = some o) :
    ∀ (j : Nat) (b : Addr) (n : Nat) (rs : List Nat), ρ[j]? = some b → S[j]? = some (.nst n rs) → ∃ n' rs', (S.set i c)[j]? = some (.nst n' rs') ∧ n ≤ n' ∧ (n' = n → rs' = rs ∧ ∀ o, H b = some o → H' b = some o) := fun j b n rs h1 h2 => by
  by_cases hj : i = j
  · subst hj
    rw [h] at h2
    cases h2
    exact absurd rfl (hc n rs)
  · exact ⟨n, rs, by rw [List.getElem?_set_ne hj]; exact h2, Nat.le_refl _, fun _ => ⟨rfl, hH j b hj h1⟩⟩
theorem Ok.freeze {ρ : List Addr} {S : Store} {H : Hp} {i : Nat} {a : Addr} {xs : List PyData} (ok : Ok ρ S H) (h1 : ρ[i]? = some a) (h2 : S[i]? = some (.lst xs) ∨ S[i]? = some (.flst xs)) :
    Ok ρ (S.set i (.flst xs)) H ∧ Xt ρ S H ρ (S.set i (.flst xs)) H ∧ Pd (Live ρ (S.set i (.flst xs))) H (.ref a) (.list xs) := by
  have hl : i < S.length := by
    rcases h2 with h2 | h2 <;> exact (List.getElem?_eq_some_iff.mp h2).1
  have g := Live.froze (ρ := ρ) (S := S) (i := i) (c := .flst xs) rfl
  have hcell : ∃ vs, H a = some (.lst vs) ∧ Pds (Live ρ S) H vs xs := by
    rcases h2 with h2 | h2
    · exact ok.cell i a _ h1 h2
    · exact ok.cell i a _ h1 h2
  obtain ⟨vs, q1, q2⟩ := hcell
  refine ⟨⟨by rw [List.length_set]; exact ok.len, ok.nd, fun j b c r1 r2 => ?_⟩, ⟨⟨[], by simp⟩, Gr.less g, by
    rcases h2 with h2 | h2
    · exact nst_set h2 (fun _ _ z => by cases z) fun _ _ _ _ _ h => h
    · exact nst_set h2 (fun _ _ z => by cases z) fun _ _ _ _ _ h => h⟩, .lst q1 (fun z => ?_) (Pds.less g _ _ q2)⟩
  · by_cases hj : i = j
    · subst hj
      rw [List.getElem?_set_self hl] at r2
      cases r2
      rw [h1] at r1
      cases r1
      exact ⟨vs, q1, Pds.less g _ _ q2⟩
    · rw [List.getElem?_set_ne hj] at r2
      exact (ok.cell j b c r1 r2).less g
  · obtain ⟨j, c, r1, r2, r3⟩ := z
    have e : i = j := nodup_ixA ok.nd h1 r1
    subst e
    rw [List.getElem?_set_self hl] at r2
    cases r2
    cases r3
theorem Ok.dead {ρ : List Addr} {S : Store} {H : Hp} {i : Nat} {a : Addr} {c0 : Cell} (ok : Ok ρ S H) (h1 : ρ[i]? = some a) (h2 : S[i]? = some c0) (hc : ∀ n rs, c0 ≠ .nst n rs) :
    Ok ρ (S.set i .dead) H ∧ Xt ρ S H ρ (S.set i .dead) H ∧ ¬ Live ρ (S.set i .dead) a ∧ ∀ x, Live ρ (S.set i .dead) x → Live ρ S x := by
  have hl : i < S.length := (List.getElem?_eq_some_iff.mp h2).1
  have g := Live.froze (ρ := ρ) (S := S) (i := i) (c := .dead) rfl
  obtain ⟨o, ho, _⟩ := (ok.cell i a _ h1 h2).some
  refine ⟨⟨by rw [List.length_set]; exact ok.len, ok.nd, fun j b c r1 r2 => ?_⟩, ⟨⟨[], by simp⟩, Gr.less g, nst_set h2 hc fun _ _ _ _ _ h => h⟩, fun z => ?_, g⟩
  · by_cases hj : i = j
    · subst hj
      rw [List.getElem?_set_self hl] at r2
      cases r2
      rw [h1] at r1
      cases r1
      exact ⟨o, ho⟩
    · rw [List.getElem?_set_ne hj] at r2
      exact (ok.cell j b c r1 r2).less g
  · obtain ⟨j, c, r1, r2, r3⟩ := z
    have e : i = j := nodup_ixA ok.nd h1 r1
    subst e
    rw [List.getElem?_set_self hl] at r2
    cases r2
    cases r3
theorem KvK.kvp {L : Addr → Prop} {H : Hp} : ∀ {us : List (Key × V)} {kvs : List (PyData × PyData)}, KvK L H us kvs → Kvp L H us kvs
  | _, _, .nil => .nil
  | _, _, .cons a t => .cons a (KvK.kvp t)
theorem Aft.fz {K : PySem.W.Frag} {ρ : List Addr} {S : Store} {H : Hp} {d : D} {v : V} {β : Type} {f : PyData → Store → R β} {st : β → Store} {k : β → List Addr → Hp → Prop} (ok : Ok ρ S H) (r : DOk K ρ S H v d) (h : Aft ρ S H (Mi.bd (Mi.fz S d) f) st k) :
    ∃ x S', Xt ρ S H ρ S' H ∧ Ok ρ S' H ∧ Pd (Live ρ S') H v x ∧ Aft ρ S' H (f x S') st k := by
  cases d with
  | p d => exact ⟨d, S, Xt.refl, ok, r, h⟩
  | ref i =>
    obtain ⟨a, h1, rfl⟩ := r
    cases hs : S[i]? with
    | none => simp only [Mi.fz, hs] at h; exact False.elim h
    | some c =>
      simp only [Mi.fz, hs] at h
      cases c with
      | lst xs =>
        obtain ⟨o1, x1, p1⟩ := ok.freeze h1 (.inl hs)
        exact ⟨_, _, x1, o1, p1, h.from x1⟩
      | flst xs =>
        obtain ⟨vs, q1, q2⟩ := ok.cell i a _ h1 hs
        refine ⟨_, S, Xt.refl, ok, .lst q1 (fun z => ?_) q2, h⟩
        obtain ⟨j, c, r1, r2, r3⟩ := z
        have e : i = j := nodup_ixA ok.nd h1 r1
        subst e
        rw [hs] at r2
        cases r2
        cases r3
      | dct b kvs =>
        cases b with
        | true => exact False.elim h
        | false =>
          cases kvs with
          | nil => exact False.elim h
          | cons kv kvs =>
            obtain ⟨us, q1, q2⟩ := ok.cell i a _ h1 hs
            obtain ⟨o1, x1, nl, g⟩ := ok.dead h1 hs fun _ _ z => by cases z
            exact ⟨_, _, x1, o1, .dk q1 nl (Kvp.less g _ _ q2.kvp) (fun z => by subst z; cases q2), h.from x1⟩
      | tdv b kvs =>
        cases kvs with
        | nil => exact False.elim h
        | cons kv kvs =>
          obtain ⟨o, xs, q1, q2, q3, q4, q5, q6⟩ := ok.cell i a _ h1 hs
          obtain ⟨o1, x1, nl, g⟩ := ok.dead h1 hs fun _ _ z => by cases z
          exact ⟨_, _, x1, o1, .dt q1 nl (Kvt.less g _ _ q2) ⟨fun z => (by subst z; cases q3), by rw [q3]; exact q4, q5, by rw [← List.length_map (f := fun x : List Int × Addr × V => x.1), q3, List.length_map]; exact q6⟩, h.from x1⟩
      | fdct _ _ => exact False.elim h
      | nst _ _ => exact False.elim h
      | tab _ _ => exact False.elim h
      | tdc _ => exact False.elim h
      | dead => exact False.elim h
  | scr ns => exact False.elim h
  | rows i n rs => exact False.elim h
  | fn f c q => exact False.elim h
  | exn x => exact False.elim h
end
end Mi
end
section
namespace Mi
open PySem PySem.Spec PyProof.Rows L2
section
variable {X : Cx} {e a b c : Expr} {pos p : Pos} {fa fb fc : Ex} {ga gb : Bx} {es : List Expr} {fs : As}
theorem Aft.fzs {K : PySem.W.Frag} {ρ : List Addr} {H : Hp} {β : Type} {st : β → Store} {k : β → List Addr → Hp → Prop} : ∀ {ds : List D} {vs : List V} {S : Store} {f : List PyData → Store → R β}, Ok ρ S H → DsOk K ρ S H vs ds → Aft ρ S H (Mi.bd (Mi.fzs ds S) f) st k →
    ∃ xs S', Xt ρ S H ρ S' H ∧ Ok ρ S' H ∧ Pds (Live ρ S') H vs xs ∧ Aft ρ S' H (f xs S') st k
  | [], _, S, f, ok, .nil, h => ⟨[], S, Xt.refl, ok, .nil, h⟩
  | d :: ds, _, S, f, ok, .cons r rs, h => by
    have e : Mi.bd (Mi.fzs (d :: ds) S) f = Mi.bd (Mi.fz S d) fun x S1 => Mi.bd (Mi.fzs ds S1) fun xs S2 => f (x :: xs) S2 := by
      show Mi.bd (Mi.bd (Mi.fz S d) _) f = _
      cases Mi.fz S d with
      | ok q =>
        simp only [Mi.bd]
        cases Mi.fzs ds q.2 <;> rfl
      | ex e S => rfl
      | no => rfl
    rw [e] at h
    obtain ⟨x, S1, x1, o1, p1, h1⟩ := Aft.fz ok r h
    obtain ⟨xs, S2, x2, o2, p2, h2⟩ := Aft.fzs o1 (rs.mono x1) h1
    exact ⟨x :: xs, S2, x1.trans x2, o2, .cons (Pd.mono x2.gr _ _ p1) p2, h2⟩
def rMk (mk : List PyData → PyData) (vs : List V) (H : Hp) (Q : VK) : Prop := ∃ (ρ : List Addr) (S : Store) (ds : List PyData), Ok ρ S H ∧ Pds (Live ρ S) H vs ds ∧ ds.length ≤ Line ∧ ∀ H' w, Xt ρ S H ρ S H' → Ok ρ S H' → Pd (Live ρ S) H' w (mk ds) → Q w H'
theorem tMk {K : PySem.W.Frag} {mk : List PyData → PyData} {σ : L2.St} {H : Hp} {Q : VK} (h : TX K (fun σ S => Mi.bd (fs σ S) fun ds S1 => Mi.bd (Mi.fzs ds S1) fun xs S2 => when_ (decide (xs.length ≤ Line)) (.ok (.p (mk xs), S2))) σ H Q) : TAs K fs σ H fun vs H1 => rMk mk vs H1 Q := by
  obtain ⟨ρ, env, S, eo, ok, q⟩ := h
  refine ⟨ρ, env, S, eo, ok, (Aft.bd q).mono fun p ρ1 H1 e1 o1 q1 vs ds => ?_⟩
  obtain ⟨xs, S2, x2, o2, p2, q2⟩ := Aft.fzs o1 ds q1
  obtain ⟨hz, q3⟩ := Aft.when q2
  exact ⟨ρ1, S2, xs, o2, p2, of_decide_eq_true hz, fun H' w e' o' r' => (Aft.at q3 e' o') w r'⟩
theorem x_tup {k : Nat} (h : PA X es (TAs X.K fs)) : PE X (.Tuple es k pos) (TX X.K (mTup fs)) := by
  refine ⟨fun pins s σ H Q I hq => ?_⟩
  refine wpAny_Tuple_spliced (thn (h.run pos pins s σ H _ I (tMk hq)) fun us s1 ⟨vs, H1, I1, r, ρ, S, ds, ok, pd, hz, q⟩ => ⟨?_, ?_⟩)
  · rw [← r.length, pd.length]
    exact hz
  · exact tup_data (tk := s1.toks) I1 ok r hz pd q
theorem x_of_new {f : Ex} (h : PE X e (TN X.K f)) (hl : ∀ σ S p, f σ S = .ok p → ∃ xs, p.1 = .p (.list xs)) : PE X e (TX X.K f) := PE.up h fun σ H Q ⟨ρ, env, S, eo, ok, q⟩ => by
  refine ⟨ρ, env, S, eo, ok, ?_⟩
  have hl := hl env S
  generalize f env S = r at q hl
  cases r with
  | ok p =>
    intro ρ1 H1 e1 o1
    obtain ⟨xs, hx⟩ := hl p rfl
    refine ⟨xs, hx, fun a vs ha pd => ?_⟩
    refine q ρ1 (upd H1 a (.lst vs)) (e1.trans (Xt.new ha)) (o1.new ha) (.ref a) ?_
    rw [hx]
    exact .lst upd_same (Live.ne o1 ha) (Pds.mono (Gr.new ha) _ _ pd)
  | ex e S => exact q
  | no => exact q
theorem Live.push {ρ : List Addr} {S : Store} {p : Addr} {c : Cell} (hl : ρ.length = S.length) {a : Addr} (h : Live (ρ ++ [p]) (S ++ [c]) a) : Live ρ S a ∨ a = p := by
  obtain ⟨i, c', h1, h2, h3⟩ := h
  by_cases hi : i < S.length
  · rw [List.getElem?_append_left (by omega)] at h1
    rw [List.getElem?_append_left hi] at h2
    exact .inl ⟨i, c', h1, h2, h3⟩
  · have e : i = S.length := by
      have := (List.getElem?_eq_some_iff.mp h2).1
      simp at this
      omega
    subst e
    rw [← hl, List.getElem?_append_right (Nat.le_refl _)] at h1
    simp at h1
    exact .inr h1.symm
theorem Live.old {ρ : List Addr} {S : Store} {p : Addr} {c : Cell} {a : Addr} (h : Live ρ S a) : Live (ρ ++ [p]) (S ++ [c]) a := by
  obtain ⟨i, c', h1, h2, h3⟩ := h
  refine ⟨i, c', ?_, ?_, h3⟩
  · rw [List.getElem?_append_left (List.getElem?_eq_some_iff.mp h1).1]
    exact h1
  · rw [List.getElem?_append_left (List.getElem?_eq_some_iff.mp h2).1]
    exact h2
theorem Live.last {ρ : List Addr} {S : Store} {p : Addr} {c : Cell} (hl : ρ.length = S.length) (hc : c.free = true) : Live (ρ ++ [p]) (S ++ [c]) p :=
  ⟨S.length, c, by rw [← hl]; simp, by simp, hc⟩
theorem Ok.bound {ρ : List Addr} {S : Store} {H : Hp} {a : Addr} (ok : Ok ρ S H) (h : a ∈ ρ) : ∃ o, H a = some o := by
  obtain ⟨i, hi⟩ := List.getElem?_of_mem h
  have hl := (List.getElem?_eq_some_iff.mp hi).1
  have hs : i < S.length := by rw [← ok.len]; exact hl
  obtain ⟨o, h1, _⟩ := (ok.cell i a S[i] hi (List.getElem?_eq_getElem hs)).some
  exact ⟨o, h1⟩
theorem Ok.push {ρ : List Addr} {S : Store} {H : Hp} {p : Addr} {o : HO} {c : Cell} (ok : Ok ρ S H) (h0 : H p = none) (hc : CellOk (Live (ρ ++ [p]) (S ++ [c])) (upd H p o) p c) :
    Ok (ρ ++ [p]) (S ++ [c]) (upd H p o) ∧ Xt ρ S H (ρ ++ [p]) (S ++ [c]) (upd H p o) := by
  have g : Gr (Live ρ S) (Live (ρ ++ [p]) (S ++ [c])) H (upd H p o) := ⟨fun a h => (Live.push ok.len h).imp id (fun e => by rw [e]; exact h0), (Gr.new (L := Live ρ S) h0).keep, (Gr.new (L := Live ρ S) h0).there, (Gr.new (L := Live ρ S) h0).frzs⟩
  refine ⟨⟨by simp [ok.len], ?_, fun i a c' h1 h2 => ?_⟩, ⟨⟨[p], rfl⟩, g, fun i a n rs h1 h2 => ⟨n, rs, by
    rw [List.getElem?_append_left (List.getElem?_eq_some_iff.mp h2).1]
    exact h2, Nat.le_refl _, fun _ => ⟨rfl, fun u hu => by
    rw [upd_ne (ne_of_none hu h0)]
    exact hu⟩⟩⟩⟩
  · rw [List.nodup_append]
    refine ⟨ok.nd, by simp, fun x hx y hy => ?_⟩
    have e : y = p := by simpa using hy
    subst e
    rintro rfl
    obtain ⟨o, h1⟩ := ok.bound hx
    rw [h0] at h1
    cases h1
  · by_cases hi : i < S.length
    · rw [List.getElem?_append_left (by rw [ok.len]; exact hi)] at h1
      rw [List.getElem?_append_left hi] at h2
      have q := ok.cell i a c' h1 h2
      obtain ⟨u, hu, _⟩ := q.some
      exact q.mono g (upd_ne (ne_of_none hu h0))
    · have e : i = S.length := by
        have := (List.getElem?_eq_some_iff.mp h2).1
        simp at this
        omega
      subst e
      have e1 : p = a := by
        rw [← ok.len] at h1
        simpa using h1
      have e2 : c = c' := by simpa using h2
      subst e1 e2
      exact hc
theorem Ok.pushL {ρ : List Addr} {S : Store} {H : Hp} {p : Addr} {vs : List V} {xs : List PyData} (ok : Ok ρ S H) (h0 : H p = none) (r : Pds (Live ρ S) H vs xs) :
    Ok (ρ ++ [p]) (S ++ [.lst xs]) (upd H p (.lst vs)) ∧ Xt ρ S H (ρ ++ [p]) (S ++ [.lst xs]) (upd H p (.lst vs)) := by
  refine ok.push h0 ⟨vs, upd_same, Pds.mono ⟨fun a h => (Live.push ok.len h).imp id (fun e => by rw [e]; exact h0), (Gr.new (L := Live ρ S) h0).keep, (Gr.new (L := Live ρ S) h0).there, (Gr.new (L := Live ρ S) h0).frzs⟩ _ _ r⟩
theorem x_new {f : Ex} (h : PE X e (TN X.K f)) : PE X e (TX X.K (mNew f)) := PE.up h fun σ H Q ⟨ρ, env, S, eo, ok, q⟩ => by
  refine ⟨ρ, env, S, eo, ok, (Aft.bd q).mono fun p ρ1 H1 e1 o1 q1 => ?_⟩
  obtain ⟨d, S1⟩ := p
  cases d with
  | p d =>
    cases d with
    | list xs =>
      refine ⟨xs, rfl, fun a vs ha pd => ?_⟩
      obtain ⟨o2, x2⟩ := o1.pushL ha pd
      exact (Aft.at q1 x2 o2) _ ⟨a, by rw [← o1.len]; simp, rfl⟩
    | _ => exact False.elim q1
  | _ => exact False.elim q1
theorem n_lst (h : PA X es (TAs X.K fs)) : PE X (.List es pos) (TN X.K (mLst fs)) := PE.up (pe_lst h) fun σ H Q ⟨ρ, env, S, eo, ok, q⟩ => by
  refine ⟨ρ, env, S, eo, ok, (Aft.bd q).mono fun p ρ1 H1 e1 o1 q1 vs ds => ?_⟩
  obtain ⟨xs, S2, x2, o2, p2, q2⟩ := Aft.fzs o1 ds q1
  obtain ⟨hz, q3⟩ := Aft.when q2
  have hz : xs.length ≤ Line := of_decide_eq_true hz
  refine ⟨by rw [p2.length]; exact hz, fun a ha => ?_⟩
  obtain ⟨ys, e, q4⟩ := Aft.here q3 rfl o2
  cases e
  exact q4 a vs ha p2
theorem bd_inv {α β : Type} {x : R (α × Store)} {f : α → Store → R β} {z : β} (h : Mi.bd x f = .ok z) : ∃ a S, x = .ok (a, S) ∧ f a S = .ok z := by
  cases x with
  | ok p => exact ⟨p.1, p.2, rfl, h⟩
  | ex e S => cases h
  | no => cases h
theorem bx_inv {α β : Type} {x : R α} {f : α → R β} {z : β} (h : Mi.bx x f = .ok z) : ∃ a, x = .ok a ∧ f a = .ok z := by
  cases x with
  | ok p => exact ⟨p, rfl, h⟩
  | ex e S => cases h
  | no => cases h
theorem orNo_inv {α : Type} {o : Option α} {z : α} (h : orNo o = .ok z) : o = some z := by
  cases o with
  | some a => cases h; rfl
  | none => cases h
theorem isL_lst (σ : Env) (S : Store) (p : D × Store) (h : mLst fs σ S = .ok p) : ∃ xs, p.1 = .p (.list xs) := by
  obtain ⟨ds, S1, _, h⟩ := bd_inv h
  obtain ⟨xs, S2, _, h⟩ := bd_inv h
  obtain ⟨_, h⟩ := when_ok h
  cases h
  exact ⟨xs, rfl⟩
end
end Mi
end
section
namespace Mi
open PySem PySem.Spec PyProof.Rows L2
section
variable {ρ ρ' : List Addr} {S S' : Store} {H H' : Hp} {i n : Nat} {a : Addr}
theorem Live.at (h1 : ρ[i]? = some a) {c : Cell} (h2 : S[i]? = some c) (h3 : c.free = true) : Live ρ S a := ⟨i, c, h1, h2, h3⟩
theorem Live.swap {c c' : Cell} (h2 : S[i]? = some c) (hf : c.free = true) {b : Addr} (h : Live ρ (S.set i c') b) : Live ρ S b := by
  obtain ⟨j, d, q1, q2, q3⟩ := h
  by_cases hj : i = j
  · subst hj
    exact ⟨i, c, q1, h2, hf⟩
  · rw [List.getElem?_set_ne hj] at q2
    exact ⟨j, d, q1, q2, q3⟩
theorem Ok.put0 {c c' : Cell} {o : HO} (ok : Ok ρ S H) (h1 : ρ[i]? = some a) (h2 : S[i]? = some c) (hf : c.free = true) (hf' : c'.free = true)
    (hc : CellOk (Live ρ (S.set i c')) (upd H a o) a c')
    (hx : ∀ (j : Nat) (b : Addr) (n : Nat) (rs : List Nat), ρ[j]? = some b → S[j]? = some (.nst n rs) → ∃ n' rs', (S.set i c')[j]? = some (.nst n' rs') ∧ n ≤ n' ∧ (n' = n → rs' = rs ∧ ∀ u, H b = some u → upd H a o b = some u)) : Ok ρ (S.set i c') (upd H a o) ∧ Xt ρ S H ρ (S.set i c') (upd H a o) := by
  obtain ⟨u, hu, hm0⟩ := (ok.cell i a c h1 h2).some
  have hm := hm0 hf
  have hl : Live ρ S a := ⟨i, c, h1, h2, hf⟩
  have g : Gr (Live ρ S) (Live ρ (S.set i c')) H (upd H a o) := by
    refine ⟨fun b hb => .inl (Live.swap h2 hf hb), fun b u' hb nb => ?_, fun b hb => ?_, fun b u1 u2 hb => ?_⟩
    · rw [upd_ne (fun e => nb (by rw [e]; exact hl))]
      exact hb
    · by_cases e : b = a
      · subst e
        rw [upd_same] at hb
        cases hb
      · rwa [upd_ne e] at hb
    · rw [upd_ne]
      · exact hb
      · rintro rfl
        rw [hu] at hb
        cases hb
        exact hm _ _ rfl
  refine ⟨⟨by rw [List.length_set]; exact ok.len, ok.nd, fun j b d r1 r2 => ?_⟩, ⟨⟨[], by simp⟩, g, hx⟩⟩
  by_cases hj : i = j
  · subst hj
    rw [List.getElem?_set_self (List.getElem?_eq_some_iff.mp h2).1] at r2
    cases r2
    rw [h1] at r1
    cases r1
    exact hc
  · rw [List.getElem?_set_ne hj] at r2
    refine (ok.cell j b d r1 r2).mono g (upd_ne fun e => hj ?_)
    subst e
    exact nodup_ixA ok.nd h1 r1
theorem Ok.put {c c' : Cell} {o : HO} (ok : Ok ρ S H) (h1 : ρ[i]? = some a) (h2 : S[i]? = some c) (hf : c.free = true) (hf' : c'.free = true)
    (hc : CellOk (Live ρ (S.set i c')) (upd H a o) a c') (hn : ∀ n rs, c ≠ .nst n rs := by intro _ _ z; cases z) : Ok ρ (S.set i c') (upd H a o) ∧ Xt ρ S H ρ (S.set i c') (upd H a o) :=
  ok.put0 h1 h2 hf hf' hc (nst_set h2 hn fun j b hj r1 o ho => by
    rw [upd_ne fun e => hj ?_]
    · exact ho
    · subst e
      exact nodup_ixA ok.nd h1 r1)
theorem Ok.putN {n n' : Nat} {rs rs' : List Nat} {vs : List V} (ok : Ok ρ S H) (h1 : ρ[i]? = some a) (h2 : S[i]? = some (.nst n rs)) (hn : n < n') :
    Ok ρ (S.set i (.nst n' rs')) (upd H a (.lst vs)) ∧ Xt ρ S H ρ (S.set i (.nst n' rs')) (upd H a (.lst vs)) :=
  ok.put0 h1 h2 rfl rfl ⟨vs, upd_same⟩ fun j b m ms r1 r2 => by
    by_cases hj : i = j
    · subst hj
      rw [h2] at r2
      cases r2
      exact ⟨n', rs', by rw [List.getElem?_set_self (List.getElem?_eq_some_iff.mp h2).1], by omega, fun e => by omega⟩
    · refine ⟨m, ms, by rw [List.getElem?_set_ne hj]; exact r2, Nat.le_refl _, fun _ => ⟨rfl, fun o ho => ?_⟩⟩
      rw [upd_ne fun e => hj ?_]
      · exact ho
      · subst e
        exact nodup_ixA ok.nd h1 r1
theorem Ok.putL {xs ys : List PyData} {vs : List V} (ok : Ok ρ S H) (h1 : ρ[i]? = some a) (h2 : S[i]? = some (.lst xs)) (r : Pds (Live ρ S) H vs ys) :
    Ok ρ (S.set i (.lst ys)) (upd H a (.lst vs)) ∧ Xt ρ S H ρ (S.set i (.lst ys)) (upd H a (.lst vs)) := by
  obtain ⟨u, hu, hm0⟩ := (ok.cell i a _ h1 h2).some
  have hm := hm0 rfl
  have hl : Live ρ S a := ⟨i, _, h1, h2, rfl⟩
  refine ok.put h1 h2 rfl rfl ⟨vs, upd_same, Pds.mono (L := Live ρ S) (H := H) ⟨fun b hb => .inl (Live.swap h2 rfl hb), fun b u' hb nb => ?_, fun b hb => ?_, fun b u1 u2 hb => ?_⟩ _ _ r⟩
  · rw [upd_ne (fun e => nb (by rw [e]; exact hl))]
    exact hb
  · by_cases e : b = a
    · subst e
      rw [upd_same] at hb
      cases hb
    · rwa [upd_ne e] at hb
  · rw [upd_ne]
    · exact hb
    · rintro rfl
      rw [hu] at hb
      cases hb
      exact hm _ _ rfl
theorem Live.take {b : Addr} (h : Live (ρ.take n) (S.take n) b) : Live ρ S b := by
  obtain ⟨j, d, q1, q2, q3⟩ := h
  by_cases hj : j < n
  · rw [List.getElem?_take_of_lt hj] at q1 q2
    exact ⟨j, d, q1, q2, q3⟩
  · rw [List.getElem?_take_eq_none (by omega)] at q1
    cases q1
theorem Ok.trunc (ok : Ok ρ S H) (n : Nat) : Ok (ρ.take n) (S.take n) H := by
  refine ⟨by rw [List.length_take, List.length_take, ok.len], ok.nd.sublist (List.take_sublist ..), fun j b d q1 q2 => ?_⟩
  by_cases hj : j < n
  · rw [List.getElem?_take_of_lt hj] at q1 q2
    exact (ok.cell j b d q1 q2).less fun x h => Live.take h
  · rw [List.getElem?_take_eq_none (by omega)] at q1
    cases q1
theorem Xt.trunc (e : Xt ρ S H ρ' S' H') (ok : Ok ρ S H) (n : Nat) (hn : n = S.length) : ρ'.take n = ρ ∧ Xt ρ S H ρ (S'.take n) H' := by
  obtain ⟨new, hnew⟩ := e.pre
  have h1 : ρ'.take n = ρ := by
    rw [hnew, hn, ← ok.len, List.take_left]
  refine ⟨h1, ⟨⟨[], by simp⟩, ⟨fun b hb => e.gr.live b ?_, e.gr.keep, e.gr.there, e.gr.frzs⟩, fun i a k rs r1 r2 => ?_⟩⟩
  case refine_2 =>
    obtain ⟨k', rs', q1, q2⟩ := e.nst i a k rs r1 r2
    exact ⟨k', rs', by rw [List.getElem?_take_of_lt (by rw [hn]; exact (List.getElem?_eq_some_iff.mp r2).1)]; exact q1, q2⟩
  rw [← h1] at hb
  exact Live.take hb
def del (H : Hp) (p : Addr) : Hp := fun a => if a = p then none else H a
theorem del_same {p : Addr} : del H p p = none := by simp [del]
theorem del_ne {p : Addr} (h : a ≠ p) : del H p a = H a := by simp [del, h]
theorem upd_del {p : Addr} {o : HO} (h : H p = some o) : upd (del H p) p o = H := by
  funext b
  by_cases e : b = p
  · subst e; rw [upd_same, h]
  · rw [upd_ne e, del_ne e]
section
variable {L L' : Addr → Prop} {p : Addr} {ys : List V}
mutual
theorem Pd.del (hp : H p = some (.lst ys)) (hL : L p) (hs : ∀ a, L' a → L a) : ∀ (d : PyData) (v : V), Pd L H v d → Pd L' (Mi.del H p) v d
  | .none, _, .non => .non
  | .bool _, _, .bl b => .bl b
  | .int _, _, .int i => .int i
  | .str _, _, .str x => .str x
  | .list ds, _, .lst (a := a) h n r => .lst (by
      rw [del_ne (fun e => n (by rw [e]; exact hL))]
      exact h) (fun z => n (hs a z)) (Pds.del hp hL hs ds _ r)
  | .tuple ds, _, .tup (a := a) ⟨o, h, h'⟩ r => .tup (by
      refine ⟨o, ?_, h'⟩
      rw [del_ne]
      · exact h
      · rintro rfl
        rw [hp] at h
        cases h) (Pds.del hp hL hs ds _ r)
  | .dict [], _, .dct (a := a) h n => .dct (by
      rw [del_ne (fun e => n (by rw [e]; exact hL))]
      exact h) (fun z => n (hs a z))
  | .dict kvs, _, .dk (a := a) h n r ne => .dk (by
      rw [del_ne (fun e => n (by rw [e]; exact hL))]
      exact h) (fun z => n (hs a z)) (Kvp.del hp hL hs kvs _ r) ne
  | .dict kvs, _, .dt (a := a) h n r ne => .dt (by
      rw [del_ne (fun e => n (by rw [e]; exact hL))]
      exact h) (fun z => n (hs a z)) (Kvt.del hp hL hs kvs _ r) ne
theorem Pds.del (hp : H p = some (.lst ys)) (hL : L p) (hs : ∀ a, L' a → L a) : ∀ (ds : List PyData) (vs : List V), Pds L H vs ds → Pds L' (Mi.del H p) vs ds
  | [], _, .nil => .nil
  | d :: ds, _, .cons a b => .cons (Pd.del hp hL hs d _ a) (Pds.del hp hL hs ds _ b)
theorem Kvp.del (hp : H p = some (.lst ys)) (hL : L p) (hs : ∀ a, L' a → L a) : ∀ (ds : List (PyData × PyData)) (vs : List (Key × V)), Kvp L H vs ds → Kvp L' (Mi.del H p) vs ds
  | [], _, .nil => .nil
  | (_, d) :: ds, _, .cons a b => .cons (Pd.del hp hL hs d _ a) (Kvp.del hp hL hs ds _ b)
theorem Kvt.del (hp : H p = some (.lst ys)) (hL : L p) (hs : ∀ a, L' a → L a) : ∀ (ds : List (PyData × PyData)) (vs : List (List Int × Addr × V)), Kvt L H vs ds → Kvt L' (Mi.del H p) vs ds
  | [], _, .nil => .nil
  | (_, d) :: ds, _, .cons ⟨o, h, h'⟩ a b => .cons (by
      refine ⟨o, ?_, h'⟩
      rw [del_ne]
      · exact h
      · rintro rfl
        rw [hp] at h
        cases h) (Pd.del hp hL hs d _ a) (Kvt.del hp hL hs ds _ b)
end
theorem KvK.del (hp : H p = some (.lst ys)) (hL : L p) (hs : ∀ a, L' a → L a) : ∀ {us : List (Key × V)} {kvs : List (PyData × PyData)}, KvK L H us kvs → KvK L' (Mi.del H p) us kvs
  | _, _, .nil => .nil
  | _, _, .cons a t => .cons (Pd.del hp hL hs _ _ a) (KvK.del hp hL hs t)
theorem KvT.del (hp : H p = some (.lst ys)) (hL : L p) (hs : ∀ a, L' a → L a) : ∀ {us : List (List Key × V)} {kvs : List (PyData × PyData)}, KvT L H us kvs → KvT L' (Mi.del H p) us kvs
  | _, _, .nil => .nil
  | _, _, .cons a t => .cons (Pd.del hp hL hs _ _ a) (KvT.del hp hL hs t)
theorem CellOk.del {b : Addr} {c : Cell} (hp : H p = Option.some (.lst ys)) (hL : L p) (hs : ∀ a, L' a → L a) (hb : b ≠ p) (h : CellOk L H b c) : CellOk L' (Mi.del H p) b c := by
  have ha : Mi.del H p b = H b := del_ne hb
  cases c with
  | lst xs => obtain ⟨vs, h1, h2⟩ := h; exact ⟨vs, ha.trans h1, Pds.del hp hL hs _ _ h2⟩
  | flst xs => obtain ⟨vs, h1, h2⟩ := h; exact ⟨vs, ha.trans h1, Pds.del hp hL hs _ _ h2⟩
  | dct t xs =>
    cases t with
    | true => exact h.elim
    | false => obtain ⟨vs, h1, h2⟩ := h; exact ⟨vs, ha.trans h1, KvK.del hp hL hs h2⟩
  | fdct t xs =>
    cases t with
    | true => exact h.elim
    | false => obtain ⟨o, vs, h1, h2⟩ := h; exact ⟨o, vs, ha.trans h1, KvK.del hp hL hs h2⟩
  | nst n rs => obtain ⟨vs, h1⟩ := h; exact ⟨vs, ha.trans h1⟩
  | tdv b kvs => obtain ⟨o, xs, h1, h2, h3⟩ := h; exact ⟨o, xs, ha.trans h1, Kvt.del hp hL hs _ _ h2, h3⟩
  | dead => obtain ⟨o, h1⟩ := h; exact ⟨o, ha.trans h1⟩
  | tdc ks =>
    obtain ⟨xs, h1, h2, h3, h4⟩ := h
    refine ⟨xs, h1, ha.trans h2, fun x hx => ?_, h4⟩
    obtain ⟨o, q1, q2⟩ := h3 x hx
    refine ⟨o, (del_ne fun z => ?_).trans q1, q2⟩
    rw [z, hp] at q1
    cases q1
  | tab P q =>
    obtain ⟨h0, ps, h1, h2, h3⟩ := h
    exact ⟨h0, ps, ha.trans h1, h2, fun pos cv e => by
      obtain ⟨c, e1, e2, e3⟩ := h3 pos cv e
      refine ⟨c, e1, (del_ne fun z => ?_).trans e2, fun z => e3 (hs _ z)⟩
      rw [z, hp] at e2
      cases e2⟩
end
theorem Ok.pop {p : Addr} {acc : List PyData} (hl : ρ.length = S.length) (ok : Ok (ρ ++ [p]) (S ++ [.lst acc]) H) :
    ∃ vs, H p = some (.lst vs) ∧ Ok ρ S (del H p) ∧ Pds (Live ρ S) (del H p) vs acc := by
  have hP : Live (ρ ++ [p]) (S ++ [.lst acc]) p := Live.last hl rfl
  obtain ⟨vs, h1, h2⟩ := ok.cell S.length p (.lst acc) (by rw [← hl]; simp) (by simp)
  have hs : ∀ a, Live ρ S a → Live (ρ ++ [p]) (S ++ [.lst acc]) a := fun a h => Live.old h
  have nd := ok.nd
  rw [List.nodup_append] at nd
  refine ⟨vs, h1, ⟨hl, nd.1, fun i a c q1 q2 => ?_⟩, Pds.del h1 hP hs _ _ h2⟩
  have hi := (List.getElem?_eq_some_iff.mp q2).1
  have q := ok.cell i a c (by rw [List.getElem?_append_left (by omega)]; exact q1) (by rw [List.getElem?_append_left hi]; exact q2)
  exact q.del h1 hP hs (nd.2.2 a (List.mem_of_getElem? q1) p (by simp))
end
end Mi
end
section
namespace Mi
open PySem PySem.Spec PyProof.Rows L2
section
variable (K : PySem.W.Frag)
def Rl (st : Bool) (L : Addr → Prop) (H : Hp) (v : V) (d : PyData) : Prop := match st with
  | true => Pd L H v d
  | false => ∃ T vs ds, v = .ref T ∧ d = .tuple ds ∧ SqT K H T vs ∧ Pds L H vs ds
def TTg (st : Bool) (is : List Nat) (t : Tg) : TG := fun v σ H Q => ∃ ρ env S d env', EnvOk K ρ S H env σ ∧ Ok ρ S H ∧ Rl K st (Live ρ S) H v d ∧ t d env = .ok env' ∧
  ∀ σ', EnvOk K ρ S H env' σ' → (∀ own, (∀ i ∈ is, i ∈ own) → L2.wipe σ' own = L2.wipe σ own) → Q σ' H
def TTgs (is : List Nat) (ts : List Tg) : TGs := fun vs σ H Q => ∃ ρ env S ds env', EnvOk K ρ S H env σ ∧ Ok ρ S H ∧ Pds (Live ρ S) H vs ds ∧ gAll ts ds env = .ok env' ∧
  ∀ σ', EnvOk K ρ S H env' σ' → (∀ own, (∀ i ∈ is, i ∈ own) → L2.wipe σ' own = L2.wipe σ own) → Q σ' H
end
theorem wipe_set1 {σ : L2.St} {i : Nat} {x y : Option V} : ∀ own : List Nat, (L2.wipe (σ.set i x) own).set i y = (L2.wipe σ own).set i y
  | [] => by
    show (σ.set i x).set i y = σ.set i y
    rw [List.set_set]
  | k :: r => by
    show ((L2.wipe (σ.set i x) r).set k none).set i y = ((L2.wipe σ r).set k none).set i y
    by_cases e : k = i
    · subst e
      rw [List.set_set, List.set_set]
      exact wipe_set1 r
    · rw [List.set_comm _ _ e, List.set_comm _ _ e, wipe_set1 r]
theorem wipe_set {σ : L2.St} {i : Nat} {x : Option V} : ∀ {own : List Nat}, i ∈ own → L2.wipe (σ.set i x) own = L2.wipe σ own
  | k :: r, h => by
    show (L2.wipe (σ.set i x) r).set k none = (L2.wipe σ r).set k none
    by_cases e : i = k
    · subst e
      exact wipe_set1 r
    · rw [wipe_set (by simpa [e] using h)]
section
variable {X : Cx}
theorem PG.up {e : Expr} {t t' : TG} (h : PG X e t) (g : ∀ v σ H Q, t' v σ H Q → t v σ H Q) : PG X e t' := ⟨fun pins s σ H v u Q I r q => h.run pins s σ H v u Q I r (g v σ H Q q)⟩
theorem PGs.up {e : List Expr} {t t' : TGs} (h : PGs X e t) (g : ∀ v σ H Q, t' v σ H Q → t v σ H Q) : PGs X e t' := ⟨fun pins s σ H v u Q I r q => h.run pins s σ H v u Q I r (g v σ H Q q)⟩
theorem PI.up {tg e : Expr} {t t' : TI} (h : PI X tg e t) (g : ∀ σ H Q, t' σ H Q → t σ H Q) : PI X tg e t' := ⟨fun pins s σ H Q I q => h.run pins s σ H Q I (g σ H Q q)⟩
theorem g_name (G : Gd X) (i : Nat) {x : Str} {pos : Pos} (hi : X.N[i]? = some x := by rfl) (hx : Loc X.env.scope x := by first | exact Or.inl rfl | exact Or.inr rfl) (hf : X.fn x = true ∨ X.env.scope.names.lookup x = some .local := by first | exact .inl rfl | exact .inr rfl | assumption) :
    PG X (.Name x pos) (TTg X.K true [i] (gN i)) := PG.up (pg_name G.nd hi hx hf) fun v σ H Q ⟨ρ, env, S, d, env', eo, ok, r, ht, q⟩ => by
  cases ht
  exact q _ (eo.set (d := .p d) r) fun own h => wipe_set (h i (by simp))
theorem gs_nil : PGs X [] (TTgs X.K [] []) := PGs.up pgs_nil fun vs σ H Q ⟨ρ, env, S, ds, env', eo, ok, r, ht, q⟩ => by
  cases r with
  | nil =>
    cases ht
    exact ⟨rfl, q _ eo fun _ _ => rfl⟩
  | cons a b => cases ht
theorem gs_cons {e : Expr} {es : List Expr} {i j : List Nat} {t : Tg} {ts : List Tg} (h1 : PG X e (TTg X.K true i t)) (h2 : PGs X es (TTgs X.K j ts))
    (hs : (assignEach (e :: es) X.env).map (·.2) = assign e X.env :: (assignEach es X.env).map (·.2) := by rfl) : PGs X (e :: es) (TTgs X.K (i ++ j) (t :: ts)) := PGs.up (pgs_cons h1 h2 hs) fun vs σ H Q ⟨ρ, env, S, ds, env', eo, ok, r, ht, q⟩ => by
  cases r with
  | nil => cases ht
  | @cons v0 vs0 d ds a b =>
    have ht : bx (t d env) (fun σ1 => gAll ts ds σ1) = .ok env' := ht
    obtain ⟨env1, h3, h4⟩ := bx_inv ht
    refine ⟨_, _, rfl, ρ, env, S, d, env1, eo, ok, a, h3, fun σ1 eo1 hw => ?_⟩
    refine ⟨ρ, env1, S, ds, env', eo1, ok, b, h4, fun σ2 eo2 hw2 => q σ2 eo2 fun own h => ?_⟩
    rw [hw2 own fun x hx => h x (List.mem_append_right _ hx), hw own fun x hx => h x (List.mem_append_left _ hx)]
theorem gAll_length : ∀ {ts : List Tg} {ds : List PyData} {σ σ' : Env}, gAll ts ds σ = .ok σ' → ds.length = ts.length
  | [], [], _, _, _ => rfl
  | [], _ :: _, _, _, h => by cases h
  | _ :: _, [], _, _, h => by cases h
  | t :: ts, d :: ds, σ, σ', h => by
    have h : bx (t d σ) (fun σ1 => gAll ts ds σ1) = .ok σ' := h
    obtain ⟨σ1, h3, h4⟩ := bx_inv h
    simp [gAll_length h4]
theorem PG.or {e : Expr} {t1 t2 : TG} (h1 : PG X e t1) (h2 : PG X e t2) : PG X e (fun v σ H Q => t1 v σ H Q ∨ t2 v σ H Q) :=
  ⟨fun pins s σ H v u Q I r hw => hw.elim (h1.run pins s σ H v u Q I r) (h2.run pins s σ H v u Q I r)⟩
theorem g_tup (G : Gd X) {st : Bool} {es : List Expr} {k : Nat} {pos : Pos} {is : List Nat} {ts : List Tg} (h : PGs X es (TTgs X.K is ts))
    (hn : (assignEach es X.env).length = ts.length := by rfl) (hst : (assignEach es X.env).findIdx? (·.1) = none := by rfl) : PG X (.Tuple es k pos) (TTg X.K st is (gT ts)) := PG.up (PG.or (pg_tup G.calm h hn hst) (pg_unl G.calm h hn hst)) fun v σ H Q ⟨ρ, env, S, d, env', eo, ok, r, ht, q⟩ => by
  cases d with
  | tuple ds =>
    have ht : gAll ts ds env = .ok env' := ht
    have hl := gAll_length ht
    cases st with
    | true =>
      cases r with
      | tup h1 h2 => exact .inl ⟨_, _, rfl, h1.sq, by rw [h2.length, hl], ρ, env, S, ds, env', eo, ok, h2, ht, q⟩
    | false =>
      obtain ⟨T, vs, ds', e1, e2, h1, h2⟩ := r
      cases e2
      exact .inl ⟨_, _, e1, h1, by rw [h2.length, hl], ρ, env, S, ds, env', eo, ok, h2, ht, q⟩
  | list ds =>
    have ht : gAll ts ds env = .ok env' := ht
    have hl := gAll_length ht
    cases st with
    | true =>
      cases r with
      | lst h1 h3 h2 => exact .inr ⟨_, _, rfl, .of h1, by rw [h2.length, hl], ρ, env, S, ds, env', eo, ok, h2, ht, q⟩
    | false =>
      obtain ⟨T, vs, ds', e1, e2, h1, h2⟩ := r
      cases e2
  | _ => cases ht
end
section
variable (K : PySem.W.Frag)
structure Wk (st : Bool) (J : It) (items : List PyData) (g : List (Nat × Cell)) (G : List Addr → Store → Hp → Prop) : Prop where
  mono : ∀ ρ S H ρ' S' H', G ρ S H → Xt ρ S H ρ' S' H' → G ρ' S' H'
  goes : ∀ i ρ S H, i < items.length → Ok ρ S H → G ρ S H → stand g S = true → J.go i H
  stops : ∀ ρ S H, Ok ρ S H → G ρ S H → stand g S = true → J.stop items.length H
  yld : ∀ i ρ S H x H' d, items[i]? = some d → Ok ρ S H → G ρ S H → stand g S = true → J.yld i H x H' → Xt ρ S H ρ S H' ∧ Ok ρ S H' ∧ Rl K st (Live ρ S) H' x d
def TIs (st : Bool) (f : Is) : TI := fun σ H R => ∃ ρ env S, EnvOk K ρ S H env σ ∧ Ok ρ S H ∧ Aft ρ S H (f env S) (fun p => p.2) fun p ρ' H' => ∀ J G, Wk K st J p.1.items p.1.g G → G ρ' p.2 H' → R J H'
end
section
variable {X : Cx} {K : PySem.W.Frag} {ρ ρ1 ρ2 : List Addr} {S S1 S2 : Store} {H H1 H2 : Hp}
theorem Aft.bd0 {α β : Type} {r : R (α × Store)} {f : α → Store → R β} {st : β → Store} {k : β → List Addr → Hp → Prop} (h : Aft ρ S H (Mi.bd r f) st k) :
    Aft ρ2 S2 H2 r (fun p => p.2) fun p _ _ => Aft ρ S H (f p.1 p.2) st k := by
  cases r with
  | ok a => exact fun _ _ _ _ => h
  | ex e S => exact h
  | no => exact h
theorem fz_ok {d : D} {v : V} {x : PyData} (ok : Ok ρ S H) (r : DOk K ρ S H v d) (h : Mi.fz S d = .ok (x, S1)) : Xt ρ S H ρ S1 H ∧ Ok ρ S1 H ∧ Pd (Live ρ S1) H v x := by
  have q : Aft ρ S H (Mi.bd (Mi.fz S d) fun x S' => .ok (x, S')) (fun p => p.2) fun p _ _ => p = (x, S1) := by
    rw [h]
    intro ρ' H' _ _
    rfl
  obtain ⟨x', S', h1, h2, h3, h4⟩ := Aft.fz ok r q
  have e := Aft.here h4 rfl h2
  cases e
  exact ⟨h1, h2, h3⟩
theorem Aft.inv {α β : Type} {r : R (α × Store)} {f : α → Store → R β} {st : β → Store} {k : β → List Addr → Hp → Prop} (h : Aft ρ S H (Mi.bd r f) st k) : ∃ a S', r = .ok (a, S') ∧ Aft ρ S H (f a S') st k := by
  cases r with
  | ok p => exact ⟨p.1, p.2, rfl, h⟩
  | ex e S => exact h.elim
  | no => exact h.elim
theorem drop_cons {α : Type} {xs : List α} {i : Nat} (h : i < xs.length) : xs.drop i = xs[i] :: xs.drop (i + 1) := List.drop_eq_getElem_cons h
theorem s_for (G : Gd X) {iter tg : Expr} {body : List Stmt} {pos : Pos} {st : Bool} {is : List Nat} {src : Is} {t : Tg} {fb : Sm} (hp : PassesOwn (model X.prog X.w) X.A X.env X.xe) (hi : PI X tg iter (TIs X.K st src)) (hg : PG X tg (TTg X.K st is t)) (hb : PSs X body (TSm X.K fb))
    (hs : ∀ x, foldedSetIterable iter X.env x = pure x := by intro _; rfl) : PS X (.For tg iter body [] pos) (TSm X.K (sFor src t fb)) := PS.up (ps_for hp G.calm hi hg hb hs) fun D' σ H ⟨ρ, env, S, eo, ok, q⟩ => by
  refine ⟨ρ, env, S, eo, ok, (Aft.bd q).mono fun p ρ1 H1 e1 o1 q1 J GG wk hG => ?_⟩
  obtain ⟨⟨items, g⟩, S1⟩ := p
  let W : Nat → Nat → L2.St → Hp → Prop := fun i m σ' H' => m = items.length - i ∧ i ≤ items.length ∧ ∃ ρ' env' S', EnvOk X.K ρ' S' H' env' σ' ∧ Ok ρ' S' H' ∧ GG ρ' S' H' ∧
    Aft ρ' S' H' (forL t g fb (items.drop i) env' S') (fun p => p.2.2) fun p ρ'' H'' => FlOk X.K D' ρ'' p.2.2 H'' p.2.1 p.1
  refine ⟨W, ⟨items.length, by omega, Nat.zero_le _, ρ1, env, S1, eo.mono e1, o1, hG, q1⟩, ?_⟩
  rintro i m σ' H' ⟨rfl, hi, ρ', env', S', eo', ok', hG', q'⟩
  by_cases hlt : i < items.length
  · rw [drop_cons hlt] at q'
    obtain ⟨hst, q2⟩ := Aft.when q'
    obtain ⟨env2, ht, q3⟩ := Aft.bx q2
    refine .inr ⟨wk.goes i ρ' S' H' hlt ok' hG' hst, W (i + 1) (items.length - (i + 1)), fun σ2 H2 w => ⟨_, by omega, w⟩, fun x H2 y => ?_⟩
    obtain ⟨xt, o2, rl⟩ := wk.yld i ρ' S' H' x H2 items[i] (List.getElem?_eq_getElem hlt) ok' hG' hst y
    refine ⟨ρ', env', S', items[i], env2, eo'.mono xt, o2, rl, ht, fun σ2 eo2 _ => ?_⟩
    refine ⟨ρ', env2, S', eo2, o2, (Aft.bs (q3.from xt)).mono fun p ρ3 H3 e3 o3 q4 => ?_⟩
    obtain ⟨f, env3, S3⟩ := p
    have hG3 := wk.mono _ _ _ _ _ _ hG' (xt.trans e3)
    cases f with
    | nx => exact fun σ3 eo3 => ⟨rfl, hlt, ρ3, env3, S3, eo3, o3, hG3, q4⟩
    | ct => exact fun σ3 eo3 => ⟨rfl, hlt, ρ3, env3, S3, eo3, o3, hG3, q4⟩
    | bk => exact fun σ3 eo3 => (Aft.here q4 rfl o3) σ3 eo3
    | rt d => exact fun v dv => (Aft.here q4 rfl o3) v dv
  · have e : i = items.length := by omega
    subst e
    rw [List.drop_length] at q'
    obtain ⟨hst, q2⟩ := Aft.when q'
    exact .inl ⟨wk.stops ρ' S' H' ok' hG' hst, (Aft.here q2 rfl ok') σ' eo'⟩
theorem s_while {c : Expr} {body : List Stmt} {pos : Pos} {t : Bx} {fb : Sm} (hp : PassesOwn (model X.prog X.w) X.A X.env X.xe) (hc : PT X c (TBx X.K t)) (hb : PSs X body (TSm X.K fb)) : PS X (.While c body [] pos) (TSm X.K (sWhile t fb)) := PS.up (ps_while hp hc hb) fun D' σ H ⟨ρ, env, S, eo, ok, q⟩ => by
  let W : Nat → L2.St → Hp → Prop := fun m σ' H' => ∃ ρ' env' S', EnvOk X.K ρ' S' H' env' σ' ∧ Ok ρ' S' H' ∧
    Aft ρ' S' H' (whileF t fb m env' S') (fun p => p.2.2) fun p ρ'' H'' => FlOk X.K D' ρ'' p.2.2 H'' p.2.1 p.1
  refine ⟨W, ⟨FUEL, ρ, env, S, eo, ok, q⟩, ?_⟩
  rintro m σ' H' ⟨ρ', env', S', eo', ok', q'⟩
  cases m with
  | zero => exact q'.elim
  | succ m =>
    refine ⟨ρ', env', S', eo', ok', (Aft.bd q').mono fun p ρ2 H2 e2 o2 q2 => ?_⟩
    obtain ⟨b, S2⟩ := p
    cases b with
    | false => exact (Aft.here q2 rfl o2) σ' (eo'.mono e2)
    | true =>
      have q2 : Aft ρ2 S2 H2 (bs (fb env' S2) fun f σ2 S2 => match f with
        | .nx => whileF t fb m σ2 S2
        | .ct => whileF t fb m σ2 S2
        | .bk => .ok (.nx, σ2, S2)
        | .rt d => .ok (.rt d, σ2, S2)) (fun p => p.2.2) (fun p ρ'' H'' => FlOk X.K D' ρ'' p.2.2 H'' p.2.1 p.1) := q2
      refine ⟨W m, fun σ3 H3 w => ⟨m, by omega, w⟩, ρ2, env', S2, eo'.mono e2, o2, (Aft.bs q2).mono fun p ρ3 H3 e3 o3 q4 => ?_⟩
      obtain ⟨f, env3, S3⟩ := p
      cases f with
      | nx => exact fun σ3 eo3 => ⟨ρ3, env3, S3, eo3, o3, q4⟩
      | ct => exact fun σ3 eo3 => ⟨ρ3, env3, S3, eo3, o3, q4⟩
      | bk => exact fun σ3 eo3 => (Aft.here q4 rfl o3) σ3 eo3
      | rt d => exact fun v dv => (Aft.here q4 rfl o3) v dv
theorem ts_nil : PTs X [] (TBx X.K Mi.tYes) := ⟨fun pins s σ H Q I ⟨ρ, env, S, eo, ok, q⟩ => (pts_nil (X := X)).run pins s σ H Q I (Aft.here q rfl ok)⟩
theorem ts_one {c : Expr} {t : Bx} (h : PT X c (TBx X.K t)) : PTs X [c] (TBx X.K t) := pts_one h
theorem stand_at {S : Store} {i : Nat} {c : Cell} (h : stand [(i, c)] S = true) : S[i]? = some c := by
  unfold stand at h
  simpa using h
theorem take_set {S : Store} {n : Nat} {c : Cell} (h : n < S.length) : (S.set n c).take (n + 1) = S.take n ++ [c] := by
  rw [List.take_succ]
  simp [List.getElem?_set_self h, List.take_set_of_le]
theorem wipe_wipe (own : List Nat) (σ : L2.St) : L2.wipe (L2.wipe σ own) own = L2.wipe σ own := by
  have z : ∀ (vs : List Nat) (σ : L2.St), (∀ v ∈ vs, (L2.wipe σ vs).set v none = L2.wipe σ vs) := fun vs σ v hv => by
    apply List.ext_getElem?
    intro n
    by_cases e : v = n
    · subst e
      by_cases hl : v < (L2.wipe σ vs).length
      · rw [List.getElem?_set_self hl]
        cases hq : (L2.wipe σ vs)[v]? with
        | none => have := List.getElem?_eq_none_iff.mp hq; omega
        | some o =>
          cases o with
          | none => rfl
          | some u => exact absurd hv (wipe_some hq).2
      · rw [List.set_eq_of_length_le (by omega)]
    · rw [List.getElem?_set_ne e]
  have z2 : ∀ r : List Nat, (∀ v ∈ r, v ∈ own) → L2.wipe (L2.wipe σ own) r = L2.wipe σ own := fun r => by
    induction r with
    | nil => intro _; rfl
    | cons v r ih =>
      intro hr
      show (L2.wipe (L2.wipe σ own) r).set v none = _
      rw [ih fun u hu => hr u (by simp [hu])]
      exact z own σ v (hr v (by simp))
  exact z2 own fun v hv => hv
theorem t_comp {own : List Nat} {st : Bool} {is : List Nat} {src : Is} {t : Tg} {cond : Bx} {fe : Ex} (his : ∀ i ∈ is, i ∈ own) {σ : L2.St} {H : Hp} {Q : VK} (h : TN K (mComp own src t cond fe) σ H Q) :
    tLc (TIs K st src) (TTg K st is t) (TBx K cond) (TX K fe) own σ H Q := by
  obtain ⟨ρ, env, S, eo, ok, q⟩ := h
  refine ⟨ρ, env, S, eo, ok, (Aft.bd q).mono fun p ρ1 H1 e1 o1 q1 J GG wk hG => ?_⟩
  obtain ⟨⟨items, g⟩, S1⟩ := p
  obtain ⟨hz, q1⟩ := Aft.when q1
  have hz : items.length ≤ Line := of_decide_eq_true hz
  intro D hD
  have eo1 := eo.mono e1
  let k : Mi.D × Store → List Addr → Hp → Prop := fun p ρ' H' => ∃ xs, p.1 = .p (.list xs) ∧ ∀ a vs, H' a = none → Pds (Live ρ' p.2) H' vs xs → Q (.ref a) (upd H' a (.lst vs))
  let W : Nat → Nat → Hp → Prop := fun i m H' => m = items.length - i ∧ i ≤ items.length ∧ ∃ Sc acc, Ok (ρ1 ++ [D]) (Sc ++ [.lst acc]) H' ∧ Xt ρ1 S1 H1 (ρ1 ++ [D]) (Sc ++ [.lst acc]) H' ∧ acc.length ≤ i ∧ Sc.length = S1.length ∧
    Aft ρ1 S1 H1 (compL own t cond fe g env (items.drop i) acc Sc) (fun p => p.2) k
  obtain ⟨oD, xD⟩ := o1.pushL hD .nil
  refine ⟨W, ⟨items.length, by omega, Nat.zero_le _, S1, [], oD, xD, Nat.le_refl _, rfl, q1⟩, ?_⟩
  rintro i m H' ⟨rfl, hi, Sc, acc, okc, xtc, hacc, hlen, q'⟩
  have hG' := wk.mono _ _ _ _ _ _ hG xtc
  have eoc : EnvOk K (ρ1 ++ [D]) (Sc ++ [.lst acc]) H' (Mi.wipe env own) (L2.wipe σ own) := (eo1.mono xtc).wipe own
  have hl1 : ρ1.length = Sc.length := by rw [hlen]; exact o1.len
  by_cases hlt : i < items.length
  · rw [drop_cons hlt] at q'
    obtain ⟨hst, q2⟩ := Aft.when q'
    obtain ⟨env2, ht, q3⟩ := Aft.bx q2
    refine .inr ⟨wk.goes i _ _ H' hlt okc hG' hst, W (i + 1) (items.length - (i + 1)), fun H2 w => ⟨_, by omega, w⟩, fun x H2 y => ?_⟩
    obtain ⟨xt, o2, rl⟩ := wk.yld i _ _ H' x H2 items[i] (List.getElem?_eq_getElem hlt) okc hG' hst y
    refine ⟨ρ1 ++ [D], Mi.wipe env own, Sc ++ [.lst acc], items[i], env2, eoc.mono xt, o2, rl, ht, fun σ2 eo2 hw => ⟨?_, ?_⟩⟩
    · rw [hw own his]
      exact wipe_wipe own σ
    · refine ⟨ρ1 ++ [D], env2, _, eo2, o2, (Aft.bd0 q3).mono fun p ρ3 H3 e3 o3 q4 => ?_⟩
      obtain ⟨b, S3⟩ := p
      have turn : ∀ {ρ4 : List Addr} {S4 : Store} {H4 : Hp}, Xt (ρ1 ++ [D]) (Sc ++ [.lst acc]) H' ρ4 S4 H4 → Ok ρ4 S4 H4 → stand [(Sc.length, .lst acc)] S4 = true → S4[Sc.length]? = some (.lst acc) ∧ ρ4[Sc.length]? = some D := fun {ρ4 S4 H4} e4 o4 h4 => by
        refine ⟨?_, e4.at (by rw [← hl1]; simp)⟩
        exact stand_at h4
      cases b with
      | true =>
        have q4 : Aft ρ1 S1 H1 (bd (fe env2 S3) fun y S2 => bd (fz S2 y) fun d S3 => when_ (stand [(Sc.length, .lst acc)] S3) (compL own t cond fe g env (List.drop (i + 1) items) (acc ++ [d]) (S3.take Sc.length))) (fun p => p.2) k := q4
        refine ⟨ρ3, env2, S3, eo2.mono e3, o3, (Aft.bd0 q4).mono fun p ρ4 H4 e4 o4 q5 yv dy => ?_⟩
        obtain ⟨y, S4⟩ := p
        obtain ⟨d, S5, hfz, q6⟩ := Aft.inv q5
        obtain ⟨x5, o5, pd⟩ := fz_ok o4 dy hfz
        obtain ⟨h4, q7⟩ := Aft.when q6
        have e5 := ((xt.trans e3).trans e4).trans x5
        obtain ⟨hS, hr⟩ := turn e5 o5 h4
        obtain ⟨accV, hv1, hv2⟩ := o5.cell _ _ _ hr hS
        refine ⟨accV, hv1, by rw [hv2.length]; exact Nat.lt_of_lt_of_le (Nat.lt_of_le_of_lt hacc hlt) hz, ?_⟩
        obtain ⟨o6, x6⟩ := o5.putL (vs := accV ++ [yv]) (ys := acc ++ [d]) hr hS (hv2.append (.cons pd .nil))
        have e6 := e5.trans x6
        obtain ⟨tr, x7⟩ := e6.trunc okc (Sc.length + 1) (by simp)
        have o7 := o6.trunc (Sc.length + 1)
        have hlt5 : Sc.length < S5.length := (List.getElem?_eq_some_iff.mp hS).1
        rw [tr, take_set hlt5] at o7
        rw [take_set hlt5] at x7
        refine ⟨rfl, hlt, S5.take Sc.length, acc ++ [d], o7, xtc.trans x7, by simp; omega, ?_, q7⟩
        rw [List.length_take, hlen]
        omega
      | false =>
        obtain ⟨h4, q7⟩ := Aft.when q4
        have e5 := xt.trans e3
        obtain ⟨hS, hr⟩ := turn e5 o3 h4
        obtain ⟨tr, x7⟩ := e5.trunc okc (Sc.length + 1) (by simp)
        have o7 := o3.trunc (Sc.length + 1)
        have hlt5 : Sc.length < S3.length := (List.getElem?_eq_some_iff.mp hS).1
        have e8 : S3.take (Sc.length + 1) = S3.take Sc.length ++ [.lst acc] := by
          rw [List.take_succ, hS]
          rfl
        rw [tr, e8] at o7
        rw [e8] at x7
        refine ⟨rfl, hlt, S3.take Sc.length, acc, o7, xtc.trans x7, by omega, ?_, q7⟩
        rw [List.length_take, hlen]
        omega
  · have e : i = items.length := by omega
    subst e
    rw [List.drop_length] at q'
    obtain ⟨hst, q2⟩ := Aft.when q'
    obtain ⟨vs, h1, h2, h3⟩ := okc.pop hl1
    refine .inl ⟨wk.stops _ _ H' okc hG' hst, ?_⟩
    have xt : Xt ρ1 S1 H1 ρ1 Sc (del H' D) := by
      refine ⟨⟨[], by simp⟩, ⟨fun a ha => xtc.gr.live a (Live.old ha), fun a o ha na => ?_, fun a ha => ?_, fun a o u ha => ?_⟩, fun i a n rs r1 r2 => ?_⟩
      case refine_4 =>
        obtain ⟨n', rs', q1, q2, q3⟩ := xtc.nst i a n rs r1 r2
        have hl : i < Sc.length := by rw [hlen]; exact (List.getElem?_eq_some_iff.mp r2).1
        rw [List.getElem?_append_left hl] at q1
        exact ⟨n', rs', q1, q2, fun e => ⟨(q3 e).1, fun o ho => by
          rw [del_ne (ne_of_none ho hD)]
          exact (q3 e).2 o ho⟩⟩
      · rw [del_ne (ne_of_none ha hD)]
        exact xtc.gr.keep a o ha na
      · by_cases e : a = D
        · subst e; exact hD
        · rw [del_ne e] at ha
          exact xtc.gr.there a ha
      · rw [del_ne (ne_of_none ha hD)]
        exact xtc.gr.frzs a o u ha
    obtain ⟨xs, hx, hq⟩ := Aft.at q2 xt h2
    cases hx
    have z := hq D vs del_same h3
    rw [upd_del h1] at z
    exact z
end
end Mi
end
section
namespace Mi
open PySem PySem.Spec PyProof.Rows L2
section
open PySem.AutoSeq1 (wpAny_loadPart')
theorem enum_new_tup (c0 : Addr) (items : Array Value) (n : Nat) (dct : Option Addr) (sl : Array (Option Value)) :
    Meets (Builtin.«enumerate.__new__» ⟨[.type "enumerate", .ref c0], []⟩) (fun _ R s => s.heap.get? c0 = some { cls := .type "tuple", dict := dct, data := .seq items n, slots := sl } ∧
      R (.ok (.ret (.ref (s.heap.push { cls := .type "tuple_iterator", data := .fields #[.ref c0, .int 0 0] }).objs.size)))
        { s with heap := (s.heap.push { cls := .type "tuple_iterator", data := .fields #[.ref c0, .int 0 0] }).push { cls := .type "enumerate", data := .fields #[.none, .bool false, .ref s.heap.objs.size, rawInt 0, .none, .none] } }) :=
  .of_wp fun prog w A R s h => by
    obtain ⟨h0, g, d, tk, os⟩ := s
    obtain ⟨hl, hr⟩ := h
    have hs0 := sub_enumerate
    have hT0 : Heap.IsTuple (Shared.heap ⟨h0, g, d, tk, os⟩) c0 items := ⟨_, hl, rfl, n, rfl⟩
    wp_walk using wpAny_loadPart' hl
    refine wpAny_stack_any fun st => (wpAny_pure ?_)
    split
    · rename_i c _ _ _ _ _
      cases (c == Value.type "enumerate") <;> (wp_walk using wpAny_loadPart' hl, wpAny_pyIter_tuple hT0; exact ⟨_, rfl, hr⟩)
    · wp_walk using wpAny_loadPart' hl, wpAny_pyIter_tuple hT0
      exact ⟨_, rfl, hr⟩
end
section
variable {prog : Program} {w : World} {A : Around} {E : Value → Shared → Prop} {s : Shared}
theorem call_enum_tup {c0 : Addr} {items : Array Value} {Q : Value → Shared → Prop} (hT : s.heap.IsTuple c0 items)
    (h : ∀ h', IsEnum h' (s.heap.objs.size + 1) s.heap.objs.size 0 .none → h'.IsTupleIter s.heap.objs.size c0 0 →
      (∀ b o, s.heap.get? b = some o → h'.get? b = some o) → Q (.ref (s.heap.objs.size + 1)) { s with heap := h' }) :
    wpAny (model prog w) A (call (.type "enumerate") [.ref c0]) Q E s := by
  obtain ⟨⟨c, dct, dt, sl⟩, hl, hc, n, hd⟩ := hT
  have hc : c = .type "tuple" := hc
  have hd : dt = .seq items n := hd
  subst hc hd
  refine callType_new F.called_enumerate (by decide) (F.typeCall_enumerate_1 _) (F.newCall_enumerate_1 _) (fun ob => F.args_object_init_2 ob _) F.entry_enumerate_new
    (enum_new_tup c0 items n dct sl) ⟨hl, ?_⟩
  generalize hh : s.heap.push { cls := .type "tuple_iterator", data := .fields #[.ref c0, .int 0 0] } = h1
  have hz : h1.objs.size = s.heap.objs.size + 1 := by rw [← hh]; exact Heap.size_push ..
  have hi : h1.get? s.heap.objs.size = some { cls := .type "tuple_iterator", data := .fields #[.ref c0, .int 0 0] } := by rw [← hh]; exact Heap.get?_push_size _ rfl
  have hk : ∀ b o, s.heap.get? b = some o → h1.get? b = some o := fun b o e => by rw [← hh]; exact Heap.get?_push_of_some _ e
  show _ ∧ _
  rw [hz]
  generalize hh2 : h1.push { cls := .type "enumerate", data := .fields #[.none, .bool false, .ref s.heap.objs.size, rawInt 0, .none, .none] } = h2
  have he : IsEnum h2 (s.heap.objs.size + 1) s.heap.objs.size 0 .none := by
    rw [← hh2, ← hz]
    exact Heap.get?_push_size h1 rfl
  have hk2 : ∀ b o, h1.get? b = some o → h2.get? b = some o := fun b o e => by rw [← hh2]; exact Heap.get?_push_of_some _ e
  exact ⟨⟨_, he, rfl⟩, h _ he ⟨_, hk2 _ _ hi, rfl, rfl⟩ fun b o e => hk2 _ _ (hk _ _ e)⟩
end
def IteT (K : PySem.W.Frag) (a : Addr) : It :=
  ⟨fun i H => ∃ (xs : List V) (x : V), SqT K H a xs ∧ xs[i]? = some x, fun i H v H' => ∃ T x, v = .ref T ∧ H T = none ∧ H' = upd H T (.tup [.int (i : Nat), x]) ∧ ∀ xs, SqT K H a xs → xs[i]? = some x, fun i H => ∃ xs : List V, SqT K H a xs ∧ xs.length = i⟩
theorem turn_enum_tup {P : Program} {w : World} {K : PySem.W.Frag} {elts : List Expr} {kk : Nat} {tpos : Pos} (a e it : Addr) (hai : a ≠ it) :
    Turn P w K (.Tuple elts kk tpos) (IteT K a) [e, it] e (fun i h => (∃ old, IsEnum h e it ((i : Nat) : Int) old) ∧ h.IsTupleIter it a i ∧ e ≠ it ∧ e ≠ a) where
  mem := by simp
  obj := fun i h st b hb => by
    obtain ⟨⟨old, he⟩, ⟨o, ho, hc, hd⟩, _⟩ := st
    rcases (show b = e ∨ b = it by simpa using hb) with rfl | rfl
    · exact ⟨_, he, fun v q => nomatch q⟩
    · exact ⟨o, ho, fun v q => by rw [hd] at q; cases q⟩
  keep := fun i h h' st k => let ⟨⟨old, he⟩, hi, hne⟩ := st; ⟨⟨old, k e (by simp) _ he⟩, hi.at (fun o q => k it (by simp) o q), hne⟩
  item := by
    intro X hP hw hK hc i pins s σ H E I hf st hg
    subst hP hw hK
    obtain ⟨⟨old, he⟩, hit, hne, hea⟩ := st
    obtain ⟨xs, x, hq, hx⟩ := hg
    obtain ⟨its, rv, p, hz⟩ := I.tuple hq
    obtain ⟨u, hu, ru⟩ := rv.get hx
    have hel : e < s.heap.objs.size := Heap.lt_size he
    have hil : it < s.heap.objs.size := by
      obtain ⟨_, q, _⟩ := hit
      exact Heap.lt_size q
    have hlen : i < its.toArray.size := by
      have := (List.getElem?_eq_some_iff.mp hu).1
      simpa using this
    have hh : X.A.in1.handled = none := I.ok.hd hc
    refine wpAny_pyNext_enum_itemC (Draws.tuple hh it a hai its.toArray) he ⟨hit, p⟩ hlen hne (by simp [hne, hea]) fun x' h' tk hP ho hit' hT hsz hk => ?_
    have ex : x' = u := by
      rw [show its.toArray[i]? = its[i]? by simp] at hP
      rw [hu] at hP
      exact (Option.some.inj hP).symm
    subst ex
    refine ⟨_, rfl, wpAny_letOwnedTupleGo_enum (s := { s with heap := h', toks := tk + 1 }) ho fun h2 he' sb => ?_⟩
    have hT2 : h2.get? s.heap.objs.size = some { cls := .type "tuple", data := .seq #[.int i tk, x'] } := (sb.2 _ (Nat.ne_of_gt hel)).trans hT
    have new : ObjOk X.prog X.w (upd H s.heap.objs.size (.tup [.int (i : Nat), x])) h2 s.heap.objs.size (.tup [.int (i : Nat), x]) :=
      ⟨(by show 2 ≤ sizeLine; decide), [.int i tk, x'], .cons ⟨_, rfl⟩ (.cons ru .nil), ⟨_, hT2, rfl, _, rfl⟩⟩
    have I1 : Inv X pins σ (upd H s.heap.objs.size (.tup [.int (i : Nat), x])) { s with heap := h2, toks := tk + 1 } :=
      I.turnedNew (ch := [e, it]) (fun b ob hb q => (sb.2 b fun z => hb (by simp [z])).trans (hk b ob (fun z => hb (by simp [z])) (fun z => hb (by simp [z])) q)) hf (Nat.le_refl _) new
    have e1 : ((i + 1 : Nat) : Int) = (i : Int) + 1 := by omega
    refine ⟨.ref s.heap.objs.size, _, I1, rfl, ⟨_, x, rfl, I.hok.fresh (Nat.le_refl _), rfl, fun ys hy => by rw [I.tuple_inj hy hq]; exact hx⟩, ⟨⟨x', by rw [e1]; exact he'⟩, hit'.1.at (fun o q => (sb.2 it (Ne.symm hne)).trans q), hne, hea⟩, fun b hb => ?_⟩
    have hb2 : b < s.heap.objs.size := by
      rcases (show b = e ∨ b = it by simpa using hb) with rfl | rfl
      · exact hel
      · exact hil
    rw [upd_ne (Nat.ne_of_lt hb2)]
    exact (hf b hb).1
  done := by
    intro X hP hw hK hc i pins s σ H E I hf st hg
    subst hP hw hK
    obtain ⟨⟨old, he⟩, hit, hne, hea⟩ := st
    obtain ⟨xs, hq, hx⟩ := hg
    obtain ⟨its, rv, p, hz⟩ := I.tuple hq
    obtain ⟨f0, f1, f2, f3, f4, f5⟩ := hf it (by simp)
    have hl := rv.length
    have hh : X.A.in1.handled = none := I.ok.hd hc
    have e2 : its.toArray.size = i := by simp; omega
    refine wpAny_pyNext_enum_endD (Draws.tuple hh it a hai its.toArray) he ⟨by rw [e2]; exact hit, p⟩ fun h' eb => ⟨rfl, I.turned (t' := s.toks) (fun b o hb q => eb b o hb q) f0 f1 f3 f4 f5⟩
  self := fun A i s Q E st h => let ⟨⟨_, he⟩, _⟩ := st; wpAny_pyIter_enum he h
end Mi
end
section
namespace Mi
open PySem PySem.Spec PyProof.Rows L2
section
variable {K : PySem.W.Frag} {ρ ρ' : List Addr} {S S' : Store} {H H' : Hp}
inductive SrcL (a : Addr) (xs : List PyData) (g : List (Nat × Cell)) (ρ : List Addr) (S : Store) (H : Hp) : Prop
  | live {i : Nat} : ρ[i]? = some a → g = [(i, .lst xs)] → SrcL a xs g ρ S H
  | data : Pd (Live ρ S) H (.ref a) (.list xs) → SrcL a xs g ρ S H
theorem SrcL.mono {a : Addr} {xs : List PyData} {g : List (Nat × Cell)} (h : SrcL a xs g ρ S H) (e : Xt ρ S H ρ' S' H') : SrcL a xs g ρ' S' H' := by
  cases h with
  | live h1 h2 => exact .live (e.at h1) h2
  | data h => exact .data (Pd.mono e.gr _ _ h)
theorem stand_mem {g : List (Nat × Cell)} (h : stand g S = true) {p : Nat × Cell} (hp : p ∈ g) : S[p.1]? = some p.2 := by
  unfold stand at h
  simp only [decide_eq_true_eq] at h
  exact h p hp
theorem stand_app {g g' : List (Nat × Cell)} (h : stand (g ++ g') S = true) : stand g S = true ∧ stand g' S = true := by
  unfold stand at h ⊢
  simp only [decide_eq_true_eq] at h ⊢
  exact ⟨fun p hp => h p (List.mem_append_left _ hp), fun p hp => h p (List.mem_append_right _ hp)⟩
theorem SrcL.now {a : Addr} {xs : List PyData} {g : List (Nat × Cell)} (h : SrcL a xs g ρ S H) (ok : Ok ρ S H) (hs : stand g S = true) : ∃ vs, H a = some (.lst vs) ∧ Pds (Live ρ S) H vs xs := by
  cases h with
  | live h1 h2 =>
    subst h2
    exact ok.cell _ _ _ h1 (stand_mem hs (p := (_, .lst xs)) (by simp))
  | data h =>
    cases h with
    | lst h1 _ h2 => exact ⟨_, h1, h2⟩
theorem Ok.flst {i : Nat} {a : Addr} {xs : List PyData} (ok : Ok ρ S H) (h1 : ρ[i]? = some a) (hs : S[i]? = some (.flst xs)) : Pd (Live ρ S) H (.ref a) (.list xs) := by
  obtain ⟨vs, q1, q2⟩ := ok.cell i a _ h1 hs
  refine .lst q1 (fun z => ?_) q2
  obtain ⟨j, c, r1, r2, r3⟩ := z
  have e : i = j := nodup_ixA ok.nd h1 r1
  subst e
  rw [hs] at r2
  cases r2
  cases r3
theorem src_ok {d : Mi.D} {v : V} {s : Src} (ok : Ok ρ S H) (r : DOk K ρ S H v d) (h : srcOf S d = .ok s) : ∃ a, v = .ref a ∧ ((SrcL a s.items s.g ρ S H ∧ (∃ vs, H a = some (.lst vs)) ∧ tupD d = false) ∨ (Pd (Live ρ S) H (.ref a) (.tuple s.items) ∧ s.g = [] ∧ tupD d = true)) := by
  cases d with
  | p d =>
    cases d with
    | list xs =>
      cases h
      cases r with
      | lst h1 h2 h3 => exact ⟨_, rfl, .inl ⟨.data (.lst h1 h2 h3), ⟨_, h1⟩, rfl⟩⟩
    | tuple xs =>
      cases h
      cases r with
      | tup h1 h2 => exact ⟨_, rfl, .inr ⟨.tup h1 h2, rfl, rfl⟩⟩
    | _ => cases h
  | ref i =>
    obtain ⟨a, h1, rfl⟩ := r
    cases hs : S[i]? with
    | none => simp only [srcOf, hs] at h; cases h
    | some c =>
      simp only [srcOf, hs] at h
      cases c with
      | lst xs =>
        cases h
        obtain ⟨vs, q1, q2⟩ := ok.cell i a _ h1 hs
        exact ⟨a, rfl, .inl ⟨.live h1 rfl, ⟨vs, q1⟩, rfl⟩⟩
      | flst xs =>
        cases h
        have z := ok.flst h1 hs
        cases z with
        | lst q1 q2 q3 => exact ⟨a, rfl, .inl ⟨.data (.lst q1 q2 q3), ⟨_, q1⟩, rfl⟩⟩
      | _ => cases h
  | scr ns => cases h
  | rows i n rs => cases h
  | fn f c q => cases h
  | exn x => cases h
theorem wk_list {a : Addr} {xs : List PyData} {g : List (Nat × Cell)} : Wk K true (Itl K a) xs g (SrcL a xs g) where
  mono := fun _ _ _ _ _ _ h e => h.mono e
  goes := fun i ρ S H hi ok h hs => by
    obtain ⟨vs, h1, h2⟩ := h.now ok hs
    obtain ⟨v, h3, _⟩ := h2.at (List.getElem?_eq_getElem hi)
    exact ⟨vs, v, .of h1, h3⟩
  stops := fun ρ S H ok h hs => by
    obtain ⟨vs, h1, h2⟩ := h.now ok hs
    exact ⟨vs, .of h1, by rw [h2.length]; exact Nat.le_refl _⟩
  yld := fun i ρ S H x H' d hd ok h hs y => by
    obtain ⟨vs, h1, h2⟩ := h.now ok hs
    obtain ⟨rfl, y⟩ := y
    obtain ⟨v, h3, h4⟩ := h2.at hd
    have e := y vs (.of h1)
    rw [h3] at e
    cases e
    exact ⟨Xt.refl, ok, h4⟩
theorem wk_tup {a : Addr} {xs : List PyData} {g : List (Nat × Cell)} : Wk K true (Itt K a) xs g (fun ρ S H => Pd (Live ρ S) H (.ref a) (.tuple xs)) where
  mono := fun _ _ _ _ _ _ h e => Pd.mono e.gr _ _ h
  goes := fun i ρ S H hi ok h hs => by
    cases h with
    | tup h1 h2 =>
      obtain ⟨v, h3, _⟩ := h2.at (List.getElem?_eq_getElem hi)
      exact ⟨_, v, h1.sq, h3⟩
  stops := fun ρ S H ok h hs => by
    cases h with
    | tup h1 h2 => exact ⟨_, h1.sq, by rw [h2.length]; exact Nat.le_refl _⟩
  yld := fun i ρ S H x H' d hd ok h hs y => by
    cases h with
    | tup h1 h2 =>
      obtain ⟨rfl, y⟩ := y
      obtain ⟨v, h3, h4⟩ := h2.at hd
      have e := y _ h1.sq
      rw [h3] at e
      cases e
      exact ⟨Xt.refl, ok, h4⟩
theorem rl_pair {T : Addr} {x y : V} {d e : PyData} (ok : Ok ρ S H) (hT : H T = none) (hx : Pd (Live ρ S) H x d) (hy : Pd (Live ρ S) H y e) :
    Xt ρ S H ρ S (upd H T (.tup [x, y])) ∧ Ok ρ S (upd H T (.tup [x, y])) ∧ Rl K false (Live ρ S) (upd H T (.tup [x, y])) (.ref T) (.tuple [d, e]) :=
  ⟨Xt.new hT, ok.new hT, T, [x, y], [d, e], rfl, rfl, .inl (.inl upd_same), .cons (Pd.mono (Gr.new hT) _ _ hx) (.cons (Pd.mono (Gr.new hT) _ _ hy) .nil)⟩
theorem numD_len : ∀ (k : Nat) (xs : List PyData), (numD k xs).length = xs.length
  | _, [] => rfl
  | k, x :: xs => congrArg (· + 1) (numD_len (k + 1) xs)
theorem numD_at : ∀ (k : Nat) (xs : List PyData) (i : Nat), (numD k xs)[i]? = xs[i]?.map fun x => .tuple [.int ((k + i : Nat) : Int), x]
  | _, [], i => by simp [numD]
  | k, x :: xs, 0 => by simp [numD]
  | k, x :: xs, i + 1 => by
    show (numD (k + 1) xs)[i]? = _
    rw [numD_at (k + 1) xs i, List.getElem?_cons_succ]
    have e : k + 1 + i = k + (i + 1) := by omega
    rw [e]
theorem wk_enum {a : Addr} {xs : List PyData} {g : List (Nat × Cell)} : Wk K false (Ite K a) (numD 0 xs) g (SrcL a xs g) where
  mono := fun _ _ _ _ _ _ h e => h.mono e
  goes := fun i ρ S H hi ok h hs => by
    obtain ⟨vs, h1, h2⟩ := h.now ok hs
    obtain ⟨v, h3, _⟩ := h2.at (List.getElem?_eq_getElem (by rwa [numD_len] at hi))
    exact ⟨vs, v, .of h1, h3⟩
  stops := fun ρ S H ok h hs => by
    obtain ⟨vs, h1, h2⟩ := h.now ok hs
    exact ⟨vs, .of h1, by rw [h2.length, numD_len]; exact Nat.le_refl _⟩
  yld := fun i ρ S H v H' d hd ok h hs y => by
    obtain ⟨vs, h1, h2⟩ := h.now ok hs
    obtain ⟨T, x, rfl, hT, rfl, y⟩ := y
    rw [numD_at] at hd
    obtain ⟨d0, hd0, rfl⟩ := Option.map_eq_some_iff.mp hd
    obtain ⟨v, h3, h4⟩ := h2.at hd0
    have e := y vs (.of h1)
    rw [h3] at e
    cases e
    simp only [Nat.zero_add]
    exact rl_pair ok hT (.int _) h4
theorem wk_enumT {a : Addr} {xs : List PyData} {g : List (Nat × Cell)} : Wk K false (IteT K a) (numD 0 xs) g (fun ρ S H => Pd (Live ρ S) H (.ref a) (.tuple xs)) where
  mono := fun _ _ _ _ _ _ h e => Pd.mono e.gr _ _ h
  goes := fun i ρ S H hi ok h hs => by
    cases h with
    | tup h1 h2 =>
      obtain ⟨v, h3, _⟩ := h2.at (List.getElem?_eq_getElem (by rwa [numD_len] at hi))
      exact ⟨_, v, h1.sq, h3⟩
  stops := fun ρ S H ok h hs => by
    cases h with
    | tup h1 h2 => exact ⟨_, h1.sq, by rw [h2.length, numD_len]⟩
  yld := fun i ρ S H v H' d hd ok h hs y => by
    cases h with
    | tup h1 h2 =>
      obtain ⟨T, x, rfl, hT, rfl, y⟩ := y
      rw [numD_at] at hd
      obtain ⟨d0, hd0, rfl⟩ := Option.map_eq_some_iff.mp hd
      obtain ⟨v, h3, h4⟩ := h2.at hd0
      have e := y _ h1.sq
      rw [h3] at e
      cases e
      simp only [Nat.zero_add]
      exact rl_pair ok hT (.int _) h4
theorem rgD_len (a b : Int) : (rgD a b).length = (b - a).toNat := by simp [rgD]
theorem rgD_at (a b : Int) (i : Nat) : (rgD a b)[i]? = if i < (b - a).toNat then some (.int (a + i)) else none := by
  unfold rgD
  rw [List.getElem?_map]
  by_cases h : i < (b - a).toNat
  · rw [List.getElem?_range h, if_pos h]
    rfl
  · rw [if_neg h, List.getElem?_eq_none (by simpa using h)]
    rfl
theorem wk_range {a b : Int} {g : List (Nat × Cell)} : Wk K true (Itr a (b - a).toNat) (rgD a b) g (fun _ _ _ => True) where
  mono := fun _ _ _ _ _ _ h e => trivial
  goes := fun i ρ S H hi ok h hs => by rwa [rgD_len] at hi
  stops := fun ρ S H ok h hs => by
    rw [rgD_len]
    exact Nat.le_refl _
  yld := fun i ρ S H x H' d hd ok h hs y => by
    obtain ⟨rfl, rfl⟩ := y
    rw [rgD_at] at hd
    split at hd
    · cases hd
      exact ⟨Xt.refl, ok, .int _⟩
    · cases hd
end
section
variable {X : Cx} {e e2 : Expr} {fa fb : Ex} {tg : Expr} {p pos tpos : Pos}
theorem ta_one {K : PySem.W.Frag} {σ : L2.St} {H : Hp} {Q : List V → Hp → Prop} (h : TX K fa σ H fun v H' => Q [v] H') : TAs K (aCons fa aNil) σ H Q := by
  obtain ⟨ρ, env, S, eo, ok, q⟩ := h
  refine ⟨ρ, env, S, eo, ok, ?_⟩
  generalize hr : fa env S = r at q
  have e : aCons fa aNil env S = bd (fa env S) fun x S1 => .ok ([x], S1) := rfl
  rw [e, hr]
  cases r with
  | ok p =>
    intro ρ' H' e' o' vs ds
    cases ds with
    | cons a b =>
      cases b
      exact q ρ' H' e' o' _ a
  | ex e S => exact q
  | no => exact q
theorem i_seq (hc : X.calm = true) (he : PE X e (TX X.K fa)) : PI X tg e (TIs X.K true (iE fa)) := by
  refine ⟨fun pins s σ H R I ⟨ρ, env, S, eo, ok, q⟩ => ?_⟩
  have h : TX X.K fa σ H (fun v H1 => ∃ a, v = .ref a ∧ ((∃ vs, H1 a = some (.lst vs) ∧ R (Itl X.K a) H1) ∨ (∃ vs, TupAt H1 a vs ∧ R (Itt X.K a) H1))) := by
    refine ⟨ρ, env, S, eo, ok, (Aft.bd q).mono fun p ρ1 H1 e1 o1 q1 v dv => ?_⟩
    obtain ⟨s', hs', q2⟩ := Aft.bx q1
    have q3 := Aft.here q2 rfl o1
    obtain ⟨a, rfl, h⟩ := src_ok o1 dv hs'
    refine ⟨a, rfl, ?_⟩
    rcases h with ⟨h, ⟨vs, hv⟩, _⟩ | ⟨h, _, _⟩
    · exact .inl ⟨vs, hv, q3 _ _ wk_list h⟩
    · cases h with
      | tup h1 h2 => exact .inr ⟨_, h1, q3 _ _ wk_tup (.tup h1 h2)⟩
  refine thn (he.run pins s σ H _ I h) fun v s1 ⟨x, H1, I1, r1, a, ex, q1⟩ => ?_
  subst ex
  cases r1
  have fz : ∀ b ∈ [s1.heap.objs.size], FpOk X pins H1 b := fun b hb => by
    have e : b = s1.heap.objs.size := by simpa using hb
    subst e
    exact I1.fpOk (Nat.le_refl _) (I1.hok.fresh (Nat.le_refl _))
  rcases q1 with ⟨vs, hv, q1⟩ | ⟨vs, hv, q1⟩
  · obtain ⟨its, rv, p, hz⟩ := I1.list (.of hv)
    exact wpAny_pyIter_list p.isList ⟨s1.heap.objs.size, [s1.heap.objs.size], _, _, H1, rfl, I1.kept (t' := s1.toks) (fun b o e => Heap.get?_push_of_some _ e), turn_list a _, ⟨_, Heap.get?_push_size _ rfl, rfl, rfl⟩, fz, q1⟩
  · obtain ⟨its, rv, p, hz⟩ := I1.tuple (hv.sq (K := X.K))
    exact wpAny_pyIter_tuple (show s1.heap.IsTuple a its.toArray from p) ⟨s1.heap.objs.size, [s1.heap.objs.size], _, _, H1, rfl, I1.kept (t' := s1.toks) (fun b o e => Heap.get?_push_of_some _ e), turn_tuple a _, ⟨_, Heap.get?_push_size _ rfl, rfl, rfl⟩, fz, q1⟩
theorem star_nil {env : PySem.Env} : starEach [] env = [] := rfl
theorem Aft.two {K : PySem.W.Frag} {α : Type} {ρ : List Addr} {S : Store} {H : Hp} {env : Env} {F : Mi.D → Mi.D → Store → R α} {st : α → Store} {k : α → List Addr → Hp → Prop} {Q : List V → Hp → Prop} (q : Aft ρ S H (Mi.bd (fa env S) fun x S1 => Mi.bd (fb env S1) fun y S2 => F x y S2) st k)
    (g : ∀ x y S2 ρ' H' v w, Xt ρ S H ρ' S2 H' → Ok ρ' S2 H' → Aft ρ' S2 H' (F x y S2) st k → DOk K ρ' S2 H' v x → DOk K ρ' S2 H' w y → Q [v, w] H') : Aft ρ S H (aCons fa (aCons fb aNil) env S) (fun p => p.2) fun p ρ' H' => ∀ vs, DsOk K ρ' p.2 H' vs p.1 → Q vs H' := by
  have e : aCons fa (aCons fb aNil) env S = Mi.bd (fa env S) fun x S1 => Mi.bd (Mi.bd (fb env S1) fun y S2 => .ok ([y], S2)) fun xs S2 => .ok (x :: xs, S2) := rfl
  rw [e]
  cases h1 : fa env S with
  | ok p =>
    rw [h1] at q
    have q : Aft ρ S H (Mi.bd (fb env p.2) fun y S2 => F p.1 y S2) st k := q
    show Aft ρ S H (Mi.bd (Mi.bd (fb env p.2) fun y S2 => .ok ([y], S2)) fun xs S2 => .ok (p.1 :: xs, S2)) _ _
    cases h2 : fb env p.2 with
    | ok p2 =>
      rw [h2] at q
      intro ρ' H' e' o' vs ds
      cases ds with
      | cons a b =>
        cases b with
        | cons b c =>
          cases c
          exact g p.1 p2.1 p2.2 ρ' H' _ _ e' o' (Aft.from e' q) a b
    | ex e S =>
      rw [h2] at q
      exact q
    | no =>
      rw [h2] at q
      exact q
  | ex e S =>
    rw [h1] at q
    exact q
  | no =>
    rw [h1] at q
    exact q
theorem i_r1 (hg : Gl X "range") (hm : X.mg "range" = none) (ha : PE X e (TX X.K fa)) (hs : starEach [e] X.env = [(false, eval e X.env)] := by rfl) : PI X tg (.Call (.Name "range" p) [e] [] pos) (TIs X.K true (iR1 fa)) := PI.up (pi_range1 hg hm (a_cons ha a_nil (hs.trans (by rw [star_nil]))) hs) fun σ H R ⟨ρ, env, S, eo, ok, q⟩ => by
  refine ta_one ⟨ρ, env, S, eo, ok, (Aft.bd q).mono fun p ρ1 H1 e1 o1 q1 v dv => ?_⟩
  obtain ⟨d, S1⟩ := p
  cases d with
  | p d =>
    cases d with
    | int n =>
      cases dv
      obtain ⟨hc, q2⟩ := Aft.when q1
      have hc := of_decide_eq_true hc
      have q3 := (Aft.here q2 rfl o1) _ _ (wk_range (K := X.K) (a := 0) (b := n) (g := [])) trivial
      rw [Int.sub_zero] at q3
      exact ⟨n, rfl, hc.1, by omega, q3⟩
    | _ => exact q1.elim
  | _ => exact q1.elim
theorem i_r2 (hg : Gl X "range") (hm : X.mg "range" = none) (ha : PE X e (TX X.K fa)) (hb : PE X e2 (TX X.K fb)) (hs : starEach [e, e2] X.env = [(false, eval e X.env), (false, eval e2 X.env)] := by rfl) (hs2 : starEach [e2] X.env = [(false, eval e2 X.env)] := by rfl) :
    PI X tg (.Call (.Name "range" p) [e, e2] [] pos) (TIs X.K true (iR2 fa fb)) := PI.up (pi_range2 hg hm (a_cons ha (a_cons hb a_nil (hs2.trans (by rw [star_nil]))) (hs.trans (by rw [hs2]))) hs hs2) fun σ H R ⟨ρ, env, S, eo, ok, q⟩ => by
  refine ⟨ρ, env, S, eo, ok, Aft.two q fun x y S2 ρ1 H1 v w e1 o1 q1 dx dy => ?_⟩
  cases x with
  | p x =>
    cases x with
    | int m =>
      cases y with
      | p y =>
        cases y with
        | int n =>
          cases dx
          cases dy
          obtain ⟨hc, q2⟩ := Aft.when q1
          have hc := of_decide_eq_true hc
          exact ⟨m, n, rfl, ⟨hc.1, by omega, hc.2.2.1, by omega⟩, (Aft.here q2 rfl o1) _ _ (wk_range (K := X.K) (a := m) (b := n) (g := [])) trivial⟩
        | _ => exact q1.elim
      | _ => exact q1.elim
    | _ => exact q1.elim
  | _ => exact q1.elim
theorem i_enum {elts : List Expr} {kk : Nat} (hg : Gl X "enumerate") (hm : X.mg "enumerate" = none) (ha : PE X e (TX X.K fa)) (hs : starEach [e] X.env = [(false, eval e X.env)] := by rfl) :
    PI X (.Tuple elts kk tpos) (.Call (.Name "enumerate" p) [e] [] pos) (TIs X.K false (iEnum fa)) := by
  refine ⟨fun pins s σ H R I ⟨ρ, env, S, eo, ok, q⟩ => ?_⟩
  have h : TAs X.K (aCons fa aNil) σ H (fun us H1 => ∃ a, us = [.ref a] ∧ ((∃ vs, H1 a = some (.lst vs) ∧ R (Ite X.K a) H1) ∨ (∃ vs, TupAt H1 a vs ∧ R (IteT X.K a) H1))) := by
    refine ta_one ⟨ρ, env, S, eo, ok, (Aft.bd q).mono fun p ρ1 H1 e1 o1 q1 v dv => ?_⟩
    obtain ⟨s', hs', q2⟩ := Aft.bx q1
    have q3 := Aft.here q2 rfl o1
    obtain ⟨a, rfl, h⟩ := src_ok o1 dv hs'
    refine ⟨a, rfl, ?_⟩
    rcases h with ⟨h, ⟨vs, hv⟩, _⟩ | ⟨h, _, _⟩
    · exact .inl ⟨vs, hv, q3 _ _ wk_enum h⟩
    · cases h with
      | tup h1 h2 => exact .inr ⟨_, h1, q3 _ _ wk_enumT (.tup h1 h2)⟩
  refine Call_ (ld_blt I hg hm boot_enumerate (PyProof.Rows.callWith_type1 (thn ((a_cons ha a_nil (hs.trans (by rw [star_nil]))).run pos pins s σ H _ I h) fun us s1 ⟨vs, H1, I1, r1, a, ex, q1⟩ => ?_) hs rfl))
  subst ex
  cases r1 with
  | cons r rr =>
    cases rr
    cases r
    have fz : ∀ b ∈ [s1.heap.objs.size + 1, s1.heap.objs.size], FpOk X pins H1 b := fun b hb => by
      have hle : s1.heap.objs.size ≤ b := by
        rcases (show b = s1.heap.objs.size + 1 ∨ b = s1.heap.objs.size by simpa using hb) with z | z <;> omega
      exact I1.fpOk hle (I1.hok.fresh hle)
    rcases q1 with ⟨vs, hv, q1⟩ | ⟨vs, hv, q1⟩
    · obtain ⟨its, rv, p', hz⟩ := I1.list (.of hv)
      refine call_enumerate_list p'.isList fun h' he hit hsz hk => wpAny_pyIter_enum he ?_
      exact ⟨s1.heap.objs.size + 1, [s1.heap.objs.size + 1, s1.heap.objs.size], _, _, H1, rfl, I1.kept (t' := s1.toks) hk, turn_enum a _ _, ⟨⟨.none, he⟩, hit, Nat.succ_ne_self _⟩, fz, q1⟩
    · obtain ⟨its, rv, p', hz⟩ := I1.tuple (hv.sq (K := X.K))
      have hlt : a < s1.heap.objs.size := by
        obtain ⟨o, ho, _⟩ := id p'
        exact Heap.lt_size ho
      refine call_enum_tup (show s1.heap.IsTuple a its.toArray from p') fun h' he hit hk => wpAny_pyIter_enum he ?_
      exact ⟨s1.heap.objs.size + 1, [s1.heap.objs.size + 1, s1.heap.objs.size], _, _, H1, rfl, I1.kept (t' := s1.toks) hk, turn_enum_tup a _ _ (Nat.ne_of_lt hlt), ⟨⟨.none, he⟩, hit, Nat.succ_ne_self _, Ne.symm (Nat.ne_of_lt (Nat.lt_succ_of_lt hlt))⟩, fz, q1⟩
def SqQ (k : Bool) (K : PySem.W.Frag) (H : Hp) (a : Addr) (xs : List V) : Prop := match k with
  | true => SqT K H a xs
  | false => SqL K H a xs
def ItQ (k : Bool) (h : Heap) (it l : Addr) (i : Nat) : Prop := match k with
  | true => h.IsTupleIter it l i
  | false => h.IsListIter it l i
def ArQ (k : Bool) (h : Heap) (l : Addr) (items : Array Value) : Prop := match k with
  | true => h.IsTuple l items
  | false => h.IsList l items
theorem ItQ.at {k : Bool} {h h' : Heap} {it l : Addr} {i : Nat} (x : ItQ k h it l i) (g : ∀ o, h.get? it = some o → h'.get? it = some o) : ItQ k h' it l i := by
  cases k with
  | true => exact Heap.IsTupleIter.at x g
  | false => exact Heap.IsListIter.at x g
theorem ItQ.obj {k : Bool} {h : Heap} {it l : Addr} {i : Nat} (x : ItQ k h it l i) : ∃ o, h.get? it = some o ∧ o.data = .fields #[.ref l, .int i 0] := by
  cases k with
  | true =>
    obtain ⟨o, e, _, d⟩ := (show h.IsTupleIter it l i from x)
    exact ⟨o, e, d⟩
  | false =>
    obtain ⟨o, e, _, d⟩ := (show h.IsListIter it l i from x)
    exact ⟨o, e, d⟩
theorem ArQ.lt {k : Bool} {h : Heap} {l : Addr} {items : Array Value} (x : ArQ k h l items) : l < h.objs.size := by
  cases k with
  | true =>
    obtain ⟨o, e, _⟩ := (show h.IsTuple l items from x)
    exact Heap.lt_size e
  | false =>
    obtain ⟨o, e, _⟩ := (show h.IsList l items from x)
    exact Heap.lt_size e
def SrcQ (k : Bool) (a : Addr) (xs : List PyData) (g : List (Nat × Cell)) (ρ : List Addr) (S : Store) (H : Hp) : Prop := match k with
  | true => Pd (Live ρ S) H (.ref a) (.tuple xs)
  | false => SrcL a xs g ρ S H
theorem SrcQ.mono {k : Bool} {a : Addr} {xs : List PyData} {g : List (Nat × Cell)} {ρ ρ' : List Addr} {S S' : Store} {H H' : Hp} (h : SrcQ k a xs g ρ S H) (e : Xt ρ S H ρ' S' H') : SrcQ k a xs g ρ' S' H' := by
  cases k with
  | true => exact Pd.mono e.gr _ _ (show Pd (Live ρ S) H (.ref a) (.tuple xs) from h)
  | false => exact SrcL.mono (show SrcL a xs g ρ S H from h) e
theorem SrcQ.now {k : Bool} {a : Addr} {xs : List PyData} {g : List (Nat × Cell)} {ρ : List Addr} {S : Store} {H : Hp} (K : PySem.W.Frag) (h : SrcQ k a xs g ρ S H) (ok : Ok ρ S H) (hs : stand g S = true) : ∃ vs, SqQ k K H a vs ∧ Pds (Live ρ S) H vs xs := by
  cases k with
  | true =>
    cases (show Pd (Live ρ S) H (.ref a) (.tuple xs) from h) with
    | tup h1 h2 => exact ⟨_, h1.sq, h2⟩
  | false =>
    obtain ⟨vs, h1, h2⟩ := (show SrcL a xs g ρ S H from h).now ok hs
    exact ⟨vs, .of h1, h2⟩
end
end Mi
end
section
namespace Mi
open PySem PySem.Spec PyProof.Rows L2
section
variable {X : Cx}
theorem Gd.blk (G : Gd X) {s : Shared} {H : Hp} {scope : Scope} {ce : PySem.Env} {fp : List Addr} : Gd (X.blk s H scope ce fp) := ⟨G.calm, G.hu, G.gs, G.nd⟩
variable {elt tg iter : Expr} {ifs : List Expr} {scope : Scope} {own : List (Str × Nat)} {pos spos : Pos} {st : Bool} {is : List Nat} {src : Is} {t : Tg} {cond : Bx} {fe : Ex}
theorem n_comp (G : Gd X) (hi : PI X tg iter (TIs X.K st src)) (ok : BlkOk X.N X.env.scope scope own)
    (hg : ∀ (s : Shared) (H : Hp) (C : Addr) (cl : List (Str × Addr)) (fp : List Addr), PG (X.blk s H scope (compEnvC scope cl C X.env) fp) tg (TTg X.K st is t))
    (ht : ∀ (s : Shared) (H : Hp) (C : Addr) (cl : List (Str × Addr)) (fp : List Addr), PTs (X.blk s H scope (compEnvC scope cl C X.env) fp) ifs (TBx X.K cond))
    (he : ∀ (s : Shared) (H : Hp) (C : Addr) (cl : List (Str × Addr)) (fp : List Addr), PE (X.blk s H scope (compEnvC scope cl C X.env) fp) elt (TX X.K fe))
    (his : ∀ i ∈ is, i ∈ own.map (·.2) := by decide) (hs : ∀ x, foldedSetIterable iter X.env x = pure x := by intro _; rfl) :
    PE X (.ListComp elt [⟨tg, iter, ifs, 0⟩] scope pos) (TN X.K (mComp (own.map (·.2)) src t cond fe)) := PE.up (pe_lc G.calm G.nd hi ok hg ht he hs) fun _ _ _ h => t_comp his h
theorem tX_tN {K : PySem.W.Frag} {f : Ex} (hl : ∀ σ S p, f σ S = .ok p → ∃ xs, p.1 = .p (.list xs)) {σ : L2.St} {H : Hp} {Q : VK} (h : TX K f σ H Q) : TN K f σ H Q := by
  obtain ⟨ρ, env, S, eo, ok, q⟩ := h
  refine ⟨ρ, env, S, eo, ok, ?_⟩
  have hl := hl env S
  generalize f env S = r at q hl
  cases r with
  | ok p =>
    intro ρ1 H1 e1 o1
    obtain ⟨xs, hx⟩ := hl p rfl
    refine ⟨xs, hx, fun a vs ha pd => q ρ1 (upd H1 a (.lst vs)) (e1.trans (Xt.new ha)) (o1.new ha) (.ref a) ?_⟩
    rw [hx]
    exact .lst upd_same (Live.ne o1 ha) (Pds.mono (Gr.new ha) _ _ pd)
  | ex e S => exact q
  | no => exact q
theorem isL_compL {own : List Nat} {g : List (Nat × Cell)} {σ : Env} : ∀ (items acc : List PyData) (S : Store) (p : D × Store), compL own t cond fe g σ items acc S = .ok p → ∃ xs, p.1 = .p (.list xs)
  | [], acc, S, p, h => by
    obtain ⟨_, h⟩ := when_ok h
    cases h
    exact ⟨_, rfl⟩
  | x :: xs, acc, S, p, h => by
    obtain ⟨_, h⟩ := when_ok h
    obtain ⟨σ1, _, h⟩ := bx_inv h
    obtain ⟨b, S1, _, h⟩ := bd_inv h
    cases b with
    | true =>
      rw [if_pos rfl] at h
      obtain ⟨y, S2, _, h⟩ := bd_inv h
      obtain ⟨d, S3, _, h⟩ := bd_inv h
      obtain ⟨_, h⟩ := when_ok h
      exact isL_compL xs _ _ p h
    | false =>
      rw [if_neg Bool.false_ne_true] at h
      obtain ⟨_, h⟩ := when_ok h
      exact isL_compL xs _ _ p h
theorem isL_comp {own : List Nat} (σ : Env) (S : Store) (p : D × Store) (h : mComp own src t cond fe σ S = .ok p) : ∃ xs, p.1 = .p (.list xs) := by
  obtain ⟨s, S1, _, h⟩ := bd_inv h
  obtain ⟨_, h⟩ := when_ok h
  exact isL_compL _ _ _ p h
end
section
variable {X : Cx} {e c : Expr} {st : Stmt} {rest a b : List Stmt} {fa fb : Ex} {pos pos' : Pos} {sa sb : Sm} {ga : Bx} {fs : As}
theorem s_asg_of {f : Ex} {te : TE} {i : Nat} (h : PS X st (tAsg te (gName i))) (ht : ∀ σ H Q, TX X.K f σ H Q → te σ H Q) : PS X st (TSm X.K (sAsg i f)) := PS.up h fun D' σ H ⟨ρ, env, S, eo, ok, q⟩ => by
  refine ht σ H _ ⟨ρ, env, S, eo, ok, (Aft.bd q).mono fun p ρ1 H1 e1 o1 q1 v dv => ?_⟩
  exact (Aft.here q1 rfl o1) _ ((eo.mono e1).set dv)
theorem s_asg (G : Gd X) (i : Nat) {x : Str} {f : Ex} (he : PE X e (TX X.K f)) (hi : X.N[i]? = some x := by rfl) (hx : Loc X.env.scope x := by first | exact Or.inl rfl | exact Or.inr rfl) (hs : swapsWith e (some (.Name x pos')) pos.line X.env = pure false := by rfl)
    (hf : X.fn x = true ∨ X.env.scope.names.lookup x = some .local := by first | exact .inl rfl | exact .inr rfl | assumption) : PS X (.Assign [.Name x pos'] e pos) (TSm X.K (sAsg i f)) := s_asg_of (ps_set G.nd hi hx he hs hf) fun _ _ _ h => h
theorem s_asgC (G : Gd X) (i : Nat) {y : Str} {py : Pos} {elt tg iter : Expr} {ifs : List Expr} {scope : Scope} {own : List (Str × Nat)} {pos spos : Pos} {sr : Bool} {is : List Nat} {src : Is} {t : Tg} {cond : Bx} {fe : Ex} (hsw : swapsWith (.ListComp elt [⟨tg, iter, ifs, 0⟩] scope pos) (some (.Name y py)) spos.line X.env = pure true)
    (hi : PI X tg iter (TIs X.K sr src)) (ok : BlkOk X.N X.env.scope scope own)
    (hg : ∀ (s : Shared) (H : Hp) (C : Addr) (cl : List (Str × Addr)) (fp : List Addr), PG (X.blk s H scope (compEnvC scope cl C X.env) fp) tg (TTg X.K sr is t))
    (ht : ∀ (s : Shared) (H : Hp) (C : Addr) (cl : List (Str × Addr)) (fp : List Addr), PTs (X.blk s H scope (compEnvC scope cl C X.env) fp) ifs (TBx X.K cond))
    (he : ∀ (s : Shared) (H : Hp) (C : Addr) (cl : List (Str × Addr)) (fp : List Addr), PE (X.blk s H scope (compEnvC scope cl C X.env) fp) elt (TX X.K fe))
    (his : ∀ i ∈ is, i ∈ own.map (·.2) := by decide) (hs : ∀ x, foldedSetIterable iter X.env x = pure x := by intro _; rfl) (hN : X.N[i]? = some y := by rfl) (hyl : X.env.scope.names.lookup y = some .local := by rfl) :
    PS X (.Assign [.Name y py] (.ListComp elt [⟨tg, iter, ifs, 0⟩] scope pos) spos) (tAsg (TN X.K (mComp (own.map (·.2)) src t cond fe)) (gName i)) :=
  PS.up (ps_setLc G.calm G.nd hN hyl hsw hi ok hg ht he hs) fun _ _ _ h => t_comp his h
theorem ds_two {K : PySem.W.Frag} {ρ : List Addr} {S : Store} {H : Hp} {vs : List V} {ds : List D} (h : DsOk K ρ S H vs ds) (hl : ds.length = 2) : ∃ v w x y, vs = [v, w] ∧ ds = [x, y] ∧ DOk K ρ S H v x ∧ DOk K ρ S H w y := by
  cases h with
  | nil => cases hl
  | cons a h =>
    cases h with
    | nil => cases hl
    | cons b h =>
      cases h with
      | nil => exact ⟨_, _, _, _, rfl, rfl, a, b⟩
      | cons c h => simp at hl
theorem ds_three {K : PySem.W.Frag} {ρ : List Addr} {S : Store} {H : Hp} {vs : List V} {ds : List D} (h : DsOk K ρ S H vs ds) (hl : ds.length = 3) : ∃ u v w x y z, vs = [u, v, w] ∧ ds = [x, y, z] ∧ DOk K ρ S H u x ∧ DOk K ρ S H v y ∧ DOk K ρ S H w z := by
  cases h with
  | nil => cases hl
  | cons a h =>
    obtain ⟨v, w, x, y, rfl, rfl, h1, h2⟩ := ds_two h (by simpa using hl)
    exact ⟨_, _, _, _, _, _, rfl, rfl, a, h1, h2⟩
theorem s_par (G : Gd X) (i j : Nat) {x y : Str} {p q : Expr} {px py pt pt2 : Pos} {kt k2 : Nat} (ha : PA X [p, q] (TAs X.K fs)) (hw : swappedStores [.Tuple [.Name x px, .Name y py] kt pt] (.Tuple [p, q] k2 pt2) X.env = pure (some [x, y]) := by rfl)
    (hs : swapsWithSole [.Tuple [.Name x px, .Name y py] kt pt] (.Tuple [p, q] k2 pt2) pos.line X.env = pure false := by rfl) (hij : i ≠ j := by decide) (hi : X.N[i]? = some x := by rfl) (hj : X.N[j]? = some y := by rfl) (hx : X.env.scope.names.lookup x = some .local := by rfl) (hy : X.env.scope.names.lookup y = some .local := by rfl) :
    PS X (.Assign [.Tuple [.Name x px, .Name y py] kt pt] (.Tuple [p, q] k2 pt2) pos) (TSm X.K (sPar [i, j] fs)) := PS.up (ps_par G.calm G.nd hi hj hij hx hy ha hw hs) fun D' σ H ⟨ρ, env, S, eo, ok, q⟩ => by
  refine ⟨ρ, env, S, eo, ok, (Aft.bd q).mono fun p ρ1 H1 e1 o1 q1 vs ds => ?_⟩
  obtain ⟨hl, q2⟩ := Aft.when q1
  obtain ⟨v, w, x, y, rfl, hd, h1, h2⟩ := ds_two ds (of_decide_eq_true hl)
  rw [hd] at q2
  exact ⟨v, w, rfl, (Aft.here q2 rfl o1) _ (((eo.mono e1).set h1).set h2)⟩
theorem s_par3 (G : Gd X) (i j l : Nat) {x y z : Str} {p q r : Expr} {px py pz pt pt2 : Pos} {kt k2 : Nat} (ha : PA X [p, q, r] (TAs X.K fs)) (hw : swappedStores [.Tuple [.Name x px, .Name y py, .Name z pz] kt pt] (.Tuple [p, q, r] k2 pt2) X.env = pure (some [x, y, z]) := by rfl)
    (hs : swapsWithSole [.Tuple [.Name x px, .Name y py, .Name z pz] kt pt] (.Tuple [p, q, r] k2 pt2) pos.line X.env = pure false := by rfl) (hij : i ≠ j := by decide) (hil : i ≠ l := by decide) (hjl : j ≠ l := by decide) (hi : X.N[i]? = some x := by rfl) (hj : X.N[j]? = some y := by rfl) (hk : X.N[l]? = some z := by rfl) (hx : X.env.scope.names.lookup x = some .local := by rfl) (hy : X.env.scope.names.lookup y = some .local := by rfl) (hz : X.env.scope.names.lookup z = some .local := by rfl) :
    PS X (.Assign [.Tuple [.Name x px, .Name y py, .Name z pz] kt pt] (.Tuple [p, q, r] k2 pt2) pos) (TSm X.K (sPar [i, j, l] fs)) := PS.up (ps_par3 G.calm G.nd hi hj hk hij hil hjl hx hy hz ha hw hs) fun D' σ H ⟨ρ, env, S, eo, ok, q⟩ => by
  refine ⟨ρ, env, S, eo, ok, (Aft.bd q).mono fun p ρ1 H1 e1 o1 q1 vs ds => ?_⟩
  obtain ⟨hl, q2⟩ := Aft.when q1
  obtain ⟨u, v, w, x, y, z, rfl, hd, h1, h2, h3⟩ := ds_three ds (of_decide_eq_true hl)
  rw [hd] at q2
  exact ⟨u, v, w, rfl, (Aft.here q2 rfl o1) _ ((((eo.mono e1).set h1).set h2).set h3)⟩
theorem s_unp {tg : Expr} {is : List Nat} {ts : List Tg} (he : PE X e (TX X.K fa)) (hg : PG X tg (TTg X.K true is (gT ts))) (hs : swapsWithSole [tg] e pos.line X.env = pure false := by rfl) (hw : swappedStores [tg] e X.env = pure none := by rfl)
    (h1 : (assignEach [tg] X.env).map (·.2) = [assign tg X.env] := by rfl) : PS X (.Assign [tg] e pos) (TSm X.K (sUnp (gT ts) fa)) := PS.up (ps_asg he hg hs hw h1) fun D' σ H ⟨ρ, env, S, eo, ok, q⟩ => by
  refine ⟨ρ, env, S, eo, ok, (Aft.bd q).mono fun p ρ1 H1 e1 o1 q1 v dv => ?_⟩
  obtain ⟨u, hu, q2⟩ := Aft.bx q1
  obtain ⟨env1, ht, q3⟩ := Aft.bx q2
  have dp : Pd (Live ρ1 p.2) H1 v u := by
    obtain ⟨x, S1⟩ := p
    cases x with
    | p d => cases hu; exact dv
    | _ => cases hu
  cases u with
  | tuple us => exact ⟨ρ1, env, p.2, .tuple us, env1, eo.mono e1, o1, dp, ht, fun σ1 eo1 _ => (Aft.here q3 rfl o1) σ1 eo1⟩
  | list us => exact ⟨ρ1, env, p.2, .list us, env1, eo.mono e1, o1, dp, ht, fun σ1 eo1 _ => (Aft.here q3 rfl o1) σ1 eo1⟩
  | _ => cases ht
theorem s_drop (he : PE X e (TX X.K fa)) (hs : swapsWith e none pos.line X.env = pure false := by rfl) : PS X (.Expr e pos) (TSm X.K (sDrop fa)) := PS.up (ps_expr he hs) fun D' σ H ⟨ρ, env, S, eo, ok, q⟩ => by
  refine ⟨ρ, env, S, eo, ok, (Aft.bd q).mono fun p ρ1 H1 e1 o1 q1 v dv => ?_⟩
  exact (Aft.here q1 rfl o1) _ (eo.mono e1)
theorem s_ret (he : PE X e (TX X.K fa)) : PS X (.Return (some e) pos) (TSm X.K (sRet fa)) := PS.up (ps_ret he) fun D' σ H ⟨ρ, env, S, eo, ok, q⟩ => by
  refine ⟨ρ, env, S, eo, ok, (Aft.bd q).mono fun p ρ1 H1 e1 o1 q1 v dv => ?_⟩
  exact (Aft.here q1 rfl o1) _ dv
theorem s_never : PS X st (TSm X.K sNever) := PS.up ps_never fun D' σ H ⟨ρ, env, S, eo, ok, q⟩ => q
theorem ss_nil : PSs X [] (TSm X.K sPass) := PSs.up pss_nil fun D' σ H ⟨ρ, env, S, eo, ok, q⟩ => (Aft.here q rfl ok) _ eo
theorem ss_one (h : PS X st (TSm X.K sa)) : PSs X [st] (TSm X.K sa) := pss_one h
theorem ss_cons (h1 : PS X st (TSm X.K sa)) (h2 : PSs X rest (TSm X.K sb)) : PSs X (st :: rest) (TSm X.K (sSeq sa sb)) := PSs.up (pss_cons h1 h2) fun D' σ H ⟨ρ, env, S, eo, ok, q⟩ => by
  refine ⟨ρ, env, S, eo, ok, (Aft.bs q).mono fun p ρ1 H1 e1 o1 q1 => ?_⟩
  obtain ⟨f, env1, S1⟩ := p
  cases f with
  | nx => exact fun σ1 eo1 => ⟨ρ1, env1, S1, eo1, o1, q1⟩
  | bk => exact fun σ1 eo1 => (Aft.here q1 rfl o1) σ1 eo1
  | ct => exact fun σ1 eo1 => (Aft.here q1 rfl o1) σ1 eo1
  | rt d => exact fun v dv => (Aft.here q1 rfl o1) v dv
theorem s_if (hc : PT X c (TBx X.K ga)) (ha : PSs X a (TSm X.K sa)) (hb : PSs X b (TSm X.K sb)) : PS X (.If c a b pos) (TSm X.K (sIf ga sa sb)) := PS.up (ps_if hc ha hb) fun D' σ H ⟨ρ, env, S, eo, ok, q⟩ => by
  refine ⟨ρ, env, S, eo, ok, (Aft.bd q).mono fun p ρ1 H1 e1 o1 q1 => ?_⟩
  obtain ⟨k, S1⟩ := p
  cases k with
  | true => exact ⟨ρ1, env, S1, eo.mono e1, o1, q1⟩
  | false => exact ⟨ρ1, env, S1, eo.mono e1, o1, q1⟩
def pAddI : PyData → PyData → R PyData
  | .int a, .int b => .ok (.int (a + b))
  | _, _ => .no
def pSubI : PyData → PyData → R PyData
  | .int a, .int b => .ok (.int (a - b))
  | _, _ => .no
theorem s_aug (G : Gd X) (i : Nat) {x : Str} {op : Operator} {f : PyData → PyData → R PyData} {h : Int → Int → Int} (ho : PIp X op (ipI h)) (hf0 : ∀ u v z, f u v = .ok z → ∃ a b, u = .int a ∧ v = .int b ∧ z = .int (h a b)) (he : PE X e (TX X.K fa)) (hi : X.N[i]? = some x := by rfl) (hx : Loc X.env.scope x := by first | exact Or.inl rfl | exact Or.inr rfl)
    (hf : X.fn x = true ∨ X.env.scope.names.lookup x = some .local := by first | exact .inl rfl | exact .inr rfl | assumption) : PS X (.AugAssign (.Name x pos') op e pos) (TSm X.K (sAug i f fa)) := PS.up (ps_aug G.nd hi hx he ho hf) fun D' σ H ⟨ρ, env, S, eo, ok, q⟩ => by
  unfold sAug at q
  cases hs : env[i]? with
  | none => rw [hs] at q; exact q.elim
  | some o =>
    cases o with
    | none => rw [hs] at q; exact q.elim
    | some d =>
      cases d with
      | p u =>
        rw [hs] at q
        obtain ⟨v, hv, du⟩ := eo.slot i _ hs
        refine ⟨v, hv, ρ, env, S, eo, ok, (Aft.bd q).mono fun p ρ1 H1 e1 o1 q1 w dw => ?_⟩
        obtain ⟨y, hy, q2⟩ := Aft.bx q1
        obtain ⟨z, hz, q3⟩ := Aft.bx q2
        obtain ⟨a, b, rfl, rfl, rfl⟩ := hf0 u y z hz
        cases du
        have ew := (o1.dv dw hy).int
        subst ew
        exact ⟨a, b, rfl, rfl, (Aft.here q3 rfl o1) _ ((eo.mono e1).set (d := .p _) (.int _))⟩
      | _ => rw [hs] at q; exact q.elim
theorem s_augAdd (G : Gd X) (i : Nat) {x : Str} (he : PE X e (TX X.K fa)) (hi : X.N[i]? = some x := by rfl) (hx : Loc X.env.scope x := by first | exact Or.inl rfl | exact Or.inr rfl)
    (hf : X.fn x = true ∨ X.env.scope.names.lookup x = some .local := by first | exact .inl rfl | exact .inr rfl | assumption) : PS X (.AugAssign (.Name x pos') .Add e pos) (TSm X.K (sAug i pAddI fa)) := s_aug G i ip_add (fun u v z h => by
  cases u <;> cases v <;> cases h
  exact ⟨_, _, rfl, rfl, rfl⟩) he hi hx hf
end
end Mi
end
section
namespace Mi
open PySem PySem.Spec PySem.Calls PyProof.Rows PySem.W
open PyProof.Rows (seqObj)
section
variable {prog : Program} {w : World} {A : Around} {E : Value → Shared → Prop} {s : Shared}
theorem collect_tup {l : Addr} {vs : List Value} {Q : List Value → Shared → Prop} (hl : s.heap.IsTuple l vs.toArray)
    (h : Q vs { s with heap := (s.heap.push (seqObj "list" #[] 0)).update s.heap.objs.size (Obj.mapSeq (· ++ vs.toArray)) }) (hsz : vs.length ≤ sizeLine) :
    wpAny (model prog w) A (collect (.ref l)) Q E s := by
  obtain ⟨ob, hob, hcl, n, hda⟩ := id hl
  unfold collect
  refine wpAny_bind (wpAny_runValue (codeAny_builtin entry_proto_collect' (show wpAny _ _ (do again (.builtin "list.__iadd__" ⟨[← newList [], .ref l], []⟩)) _ _ s from ?_)))
  refine wpAny_bind (wpAny_newList (wpAny_pure ⟨Code.quiet_builtin _ (by decide +kernel), codeAny_builtin entry_list_iadd' ?_⟩))
  have hp1 : (s.heap.push (seqObj "list" #[] 0)).get? l = some ob := Heap.get?_push_of_some _ hob
  have hp2 : (s.heap.push (seqObj "list" #[] 0)).get? s.heap.objs.size = some (seqObj "list" #[] 0) := Heap.get?_push_size _ rfl
  show wpAny _ _ (Builtin.List.listExtendWith (.ref s.heap.objs.size) (.ref l) (.ref s.heap.objs.size)) _ _ { s with heap := s.heap.push (seqObj "list" #[] 0) }
  unfold Builtin.List.listExtendWith
  refine wpAny_bind (wpAny_typeOf (T := "tuple") ⟨ob, hp1, hcl⟩ ?_)
  have ht : (Value.type "tuple" == Value.type "tuple") = true := by rfl
  rw [if_pos (by rw [ht, Bool.or_true])]
  refine wpAny_bind (listItems_at hp1 hda (wpAny_bind (listItems_at (xs := #[]) (n := 0) hp2 rfl ?_)))
  rw [if_neg (by simp)]
  have hz2 : (#[] ++ vs.toArray : Array Value).size ≤ sizeLine + 1 := by
    simp only [Array.size_append, List.size_toArray, List.size_toArray]
    show 0 + _ ≤ _
    omega
  refine wpAny_bind (listUpdate_at (xs := #[]) (n := 0) hp2 rfl (wpAny_pure ?_) (Nat.zero_le _) hz2)
  show wpAny (model prog w) A (do
      let o ← load s.heap.objs.size
      match o.data with
      | .seq xs _ => pure xs.toList
      | _ => unsupported "internal:collect") Q E { s with heap := (s.heap.push (seqObj "list" #[] 0)).update s.heap.objs.size (Obj.mapSeq (· ++ vs.toArray)) }
  refine wpAny_bind (wpAny_load (get?_update_seq hp2 _) ?_)
  show wpAny _ _ (pure ((#[] : Array Value) ++ vs.toArray).toList) Q E _
  have e : ((#[] : Array Value) ++ vs.toArray).toList = vs := by simp
  rw [e]
  exact wpAny_pure h
theorem sorted_tup_of {l : Addr} {vs : List Value} {Q : Value → Shared → Prop} (hl : s.heap.IsTuple l vs.toArray) (hL : vs.length ≤ sizeLine)
    (body : ∀ E' : Value → Shared → Prop, wpAny (model prog w) A.in1.in1 (Builtin.«list.sort» ⟨[.ref (s.heap.objs.size + 1)], []⟩) (fun f s' => f = .done (.ret .none) ∧ Q (.ref (s.heap.objs.size + 1)) s') E' { s with heap := copyHeap s.heap vs }) :
    wpAny (model prog w) A (call (.builtin "sorted") [.ref l]) Q E s := by
  refine call_function_entry kind_sorted plain_sorted entry_sorted (args_sorted1 _) ?_
  unfold Builtin.«sorted»
  refine wpAny_bind (m := checkCount "sorted" 1 1 _) (wpAny_pure (wpAny_bind (collect_tup hl (wpAny_bind (wpAny_newList ?_ hL)) hL)))
  have hz : ((s.heap.push (seqObj "list" #[] 0)).update s.heap.objs.size (Obj.mapSeq (· ++ vs.toArray))).objs.size = s.heap.objs.size + 1 := by
    rw [Heap.size_update, size_push']
  show wpAny _ _ _ _ _ { s with heap := copyHeap s.heap vs }
  rw [hz]
  refine wpAny_bind (wpAny_holding (wpAny_call_entry slot_list_sort ⟨_, copyHeap_at s.heap vs, rfl⟩ entry_list_sort ?bd (args_list_sort _)))
  case bd =>
    show wpAny (model prog w) A.in1.in1 (Builtin.«list.sort» ⟨[.ref (s.heap.objs.size + 1)], []⟩) _ _ _
    refine wpAny_mono (body _) (fun f s' hf => ?_) fun _ _ e => e
    obtain ⟨rfl, hq⟩ := hf
    exact ⟨_, rfl, wpAny_pure ⟨_, rfl, hq⟩⟩
theorem sorted_tup_vals {κ : KeyKind} {l : Addr} {vs : List Value} {Q : Value → Shared → Prop} (hl : s.heap.IsTuple l vs.toArray) (S : SortsAt prog w A.in1.in1 { s with heap := sortingHeap (copyHeap s.heap vs) (s.heap.objs.size + 1) vs } κ vs) (hL : vs.length ≤ sizeLine)
    (h : Q (.ref (s.heap.objs.size + 1)) { s with heap := sortedAll s.heap vs (sortVals κ false vs vs).toArray }) : wpAny (model prog w) A (call (.builtin "sorted") [.ref l]) Q E s :=
  sorted_tup_of hl hL fun _ => list_sort_vals (s := { s with heap := copyHeap s.heap vs }) (copyHeap_at s.heap vs) S hL ⟨rfl, h⟩
variable {β : Type} {bs : List β} {vs : List Value} {R : Value → β → Prop} {enc : β → PyData}
theorem sorted_tup_data {l : Addr} {Q : Value → Shared → Prop} (hl : s.heap.IsTuple l vs.toArray) (e : EachIs R vs bs) (er : EachIs (fun v b => ∃ as, Reads s.heap v (enc b) as) vs bs) (hal : AllAlike (bs.map enc)) (hk : Sortable (bs.map enc)) (hL : bs.length ≤ sizeLine)
    (hu : ∀ b, b ∈ bs → A.units + 2 + (enc b).depth < cLine) (h : ∀ out, out.length = bs.length → EachIs R out (bs.mergeSort (dataLe false enc)) → Q (.ref (s.heap.objs.size + 1)) { s with heap := sortedAll s.heap vs (List.toArray out) }) :
    wpAny (model prog w) A (call (.builtin "sorted") [.ref l]) Q E s := by
  have er' : EachIs (fun v b => ∃ as, Reads (sortingHeap (copyHeap s.heap vs) (s.heap.objs.size + 1) vs) v (enc b) as) vs bs := er.mono fun _ _ ⟨as, r⟩ => ⟨as, PyProof.Rows.Reads.keeps (fun _ _ => sorting_copy_old) r⟩
  have S := SortsAt.data (prog := prog) (w := w) (A := A.in1.in1) (s := { s with heap := sortingHeap (copyHeap s.heap vs) (s.heap.objs.size + 1) vs }) (each_map (R := fun v d => ∃ as, Reads (sortingHeap (copyHeap s.heap vs) (s.heap.objs.size + 1) vs) v d as) enc er') hal hk (bound_map hu)
  refine sorted_tup_vals hl S (by rw [e.length]; exact hL) (h _ ?_ (sortVals_data false e er' hal))
  rw [sortVals_length false rfl]
  exact e.length
end
end Mi
end
section
namespace Mi
open PySem PySem.Spec PyProof.Rows L2
section
variable {X : Cx} {o e : Expr} {fo fa : Ex} {apos cpos : Pos}
def tyL (x : V) (H : Hp) : Prop := ∃ a vs, x = .ref a ∧ H a = some (.lst vs)
theorem ty_list : TyOk X "list" tyL := by
  intro pins σ H s x v I r ⟨a, vs, e, h⟩
  exact tyV_is I r (T := "list") (by subst e; exact .inl ⟨rfl, vs, .of h⟩)
theorem lstAt_inv {S : Store} {d : Mi.D} (h : lstAt S d = true) : ∃ i xs, d = .ref i ∧ S[i]? = some (.lst xs) := by
  cases d with
  | ref i =>
    cases hs : S[i]? with
    | none => simp [lstAt, hs] at h
    | some c =>
      cases c with
      | lst xs => exact ⟨i, xs, rfl, hs⟩
      | _ => simp [lstAt, hs] at h
  | _ => simp [lstAt] at h
theorem x_append (ho : PE X o (TX X.K fo)) (ha : PE X e (TX X.K fa)) (hbase : attributeBase o "append" X.env (eval o X.env) = eval o X.env := by rfl)
    (hfew : ((backTo cpos (starEach [e] X.env)).all (fun x => !x.1) && (backToKw cpos (keywordEach [] X.env)).all (fun x => x.1.isSome)
      && decide ([e].length + ([] : List Keyword).length + (if ([] : List Keyword).isEmpty then 0 else 1) < 30)) = true := by rfl)
    (hline : (apos.endLine == cpos.line) = true := by rfl) (hs : starEach [e] X.env = (false, eval e X.env) :: starEach [] X.env := by rfl) (hplain : (backTo cpos (starEach [] X.env)).any (·.1) = false := by rfl) :
    PE X (.Call (.Attribute o "append" apos) [e] [] cpos) (TX X.K (mAppend fo fa)) :=
  PE.up (pe_mG ty_list PySem.F.plainAttrs_list PySem.F.slot_list_append PySem.F.type_list_append mt_append ho (a_cons ha a_nil hs) hbase hfew hline hs hplain) fun σ H Q ⟨ρ, env, S, eo, ok, q⟩ => by
    refine ⟨ρ, env, S, eo, ok, (Aft.bd q).mono fun p ρ1 H1 e1 o1 q1 v dv => ?_⟩
    obtain ⟨d, S1⟩ := p
    obtain ⟨hl, q2⟩ := Aft.when q1
    obtain ⟨i, xs, rfl, hS⟩ := lstAt_inv hl
    obtain ⟨a, ha, rfl⟩ := dv
    obtain ⟨vs, hv, _⟩ := o1.cell i a _ ha hS
    refine ⟨⟨a, vs, rfl, hv⟩, ta_one ⟨ρ1, env, S1, eo.mono e1, o1, (Aft.bd q2).mono fun p2 ρ2 H2 e2 o2 q3 w dw => ?_⟩⟩
    obtain ⟨x, S3, x3, o3, pd, q4⟩ := Aft.fz o2 dw q3
    have ha3 : ρ2[i]? = some a := e2.at ha
    cases hS3 : S3[i]? with
    | none => simp only [hS3] at q4; exact q4.elim
    | some c =>
      simp only [hS3] at q4
      cases c with
      | lst ys =>
        obtain ⟨hz, q5⟩ := Aft.when q4
        obtain ⟨us, hu, pu⟩ := o3.cell i a _ ha3 hS3
        obtain ⟨o4, x4⟩ := o3.putL (vs := us ++ [w]) (ys := ys ++ [x]) ha3 hS3 (pu.append (.cons pd .nil))
        have hz : ys.length < Line := of_decide_eq_true hz
        exact ⟨a, us, w, rfl, rfl, hu, by rw [pu.length]; exact hz, (Aft.at q5 x4 o4) _ .non⟩
      | _ => exact q4.elim
theorem x_extend (ho : PE X o (TX X.K fo)) (ha : PE X e (TX X.K fa)) (hbase : attributeBase o "extend" X.env (eval o X.env) = eval o X.env := by rfl)
    (hfew : ((backTo cpos (starEach [e] X.env)).all (fun x => !x.1) && (backToKw cpos (keywordEach [] X.env)).all (fun x => x.1.isSome)
      && decide ([e].length + ([] : List Keyword).length + (if ([] : List Keyword).isEmpty then 0 else 1) < 30)) = true := by rfl)
    (hline : (apos.endLine == cpos.line) = true := by rfl) (hs : starEach [e] X.env = (false, eval e X.env) :: starEach [] X.env := by rfl) (hplain : (backTo cpos (starEach [] X.env)).any (·.1) = false := by rfl) :
    PE X (.Call (.Attribute o "extend" apos) [e] [] cpos) (TX X.K (mExtend fo fa)) :=
  PE.up (pe_mG ty_list PySem.F.plainAttrs_list PySem.F.slot_list_extend PySem.F.type_list_extend mt_extend ho (a_cons ha a_nil hs) hbase hfew hline hs hplain) fun σ H Q ⟨ρ, env, S, eo, ok, q⟩ => by
    refine ⟨ρ, env, S, eo, ok, (Aft.bd q).mono fun p ρ1 H1 e1 o1 q1 v dv => ?_⟩
    obtain ⟨d, S1⟩ := p
    obtain ⟨hl, q2⟩ := Aft.when q1
    obtain ⟨i, xs, rfl, hS⟩ := lstAt_inv hl
    obtain ⟨a, ha, rfl⟩ := dv
    obtain ⟨vs, hv, _⟩ := o1.cell i a _ ha hS
    refine ⟨⟨a, vs, rfl, hv⟩, ta_one ⟨ρ1, env, S1, eo.mono e1, o1, (Aft.bd q2).mono fun p2 ρ2 H2 e2 o2 q3 w dw => ?_⟩⟩
    obtain ⟨dd, S3⟩ := p2
    obtain ⟨d, hd, q4⟩ := Aft.bx q3
    have ha3 : ρ2[i]? = some a := e2.at ha
    cases hS3 : S3[i]? with
    | none => simp only [hS3] at q4; exact q4.elim
    | some c =>
      simp only [hS3] at q4
      cases c with
      | lst ys =>
        cases d with
        | list zs =>
          obtain ⟨hz, q5⟩ := Aft.when q4
          obtain ⟨us, hu, pu⟩ := o2.cell i a _ ha3 hS3
          obtain ⟨b, ws, rfl, hb, pb⟩ := (o2.dv dw hd).list
          obtain ⟨o4, x4⟩ := o2.putL (vs := us ++ ws) (ys := ys ++ zs) ha3 hS3 (pu.append pb)
          have hz : ys.length + zs.length ≤ Line := of_decide_eq_true hz
          exact ⟨a, b, us, ws, rfl, rfl, hu, hb, by rw [pu.length, pb.length]; exact hz, (Aft.at q5 x4 o4) _ .non⟩
        | _ => exact q4.elim
      | _ => exact q4.elim
theorem ixN_mi {n : Nat} {k : Int} {j : Nat} (h : Mi.ixN n k = some j) : seqIndex? k n = some j ∧ j < n ∧ -(n : Int) ≤ k ∧ k < n := by
  unfold Mi.ixN at h
  by_cases h0 : 0 ≤ k
  · rw [if_pos h0] at h
    by_cases h1 : k < n
    · rw [if_pos h1] at h
      cases h
      exact ⟨PySem.seqIndex_of h0 h1, by omega, by omega, h1⟩
    · rw [if_neg h1] at h
      cases h
  · rw [if_neg h0] at h
    by_cases h1 : -(n : Int) ≤ k
    · rw [if_pos h1] at h
      cases h
      exact ⟨PySem.seqIndex_neg (by omega) h1, by omega, h1, by omega⟩
    · rw [if_neg h1] at h
      cases h
theorem x_pop1 (ho : PE X o (TX X.K fo)) (ha : PE X e (TX X.K fa)) (hbase : attributeBase o "pop" X.env (eval o X.env) = eval o X.env := by rfl)
    (hfew : ((backTo cpos (starEach [e] X.env)).all (fun x => !x.1) && (backToKw cpos (keywordEach [] X.env)).all (fun x => x.1.isSome)
      && decide ([e].length + ([] : List Keyword).length + (if ([] : List Keyword).isEmpty then 0 else 1) < 30)) = true := by rfl)
    (hline : (apos.endLine == cpos.line) = true := by rfl) (hs : starEach [e] X.env = (false, eval e X.env) :: starEach [] X.env := by rfl) (hplain : (backTo cpos (starEach [] X.env)).any (·.1) = false := by rfl) :
    PE X (.Call (.Attribute o "pop" apos) [e] [] cpos) (TX X.K (mPop1 fo fa)) :=
  PE.up (pe_mG ty_list PySem.F.plainAttrs_list PySem.F.slot_list_pop PySem.F.type_list_pop mt_popAt ho (a_cons ha a_nil hs) hbase hfew hline hs hplain) fun σ H Q ⟨ρ, env, S, eo, ok, q⟩ => by
    refine ⟨ρ, env, S, eo, ok, (Aft.bd q).mono fun p ρ1 H1 e1 o1 q1 v dv => ?_⟩
    obtain ⟨d, S1⟩ := p
    obtain ⟨hl, q2⟩ := Aft.when q1
    obtain ⟨i, xs, rfl, hS⟩ := lstAt_inv hl
    obtain ⟨a, ha, rfl⟩ := dv
    obtain ⟨vs, hv, _⟩ := o1.cell i a _ ha hS
    refine ⟨⟨a, vs, rfl, hv⟩, ta_one ⟨ρ1, env, S1, eo.mono e1, o1, (Aft.bd q2).mono fun p2 ρ2 H2 e2 o2 q3 w dw => ?_⟩⟩
    obtain ⟨dd, S3⟩ := p2
    have ha3 : ρ2[i]? = some a := e2.at ha
    cases dd with
    | p dd =>
      cases dd with
      | int k =>
        cases dw
        cases hS3 : S3[i]? with
        | none => simp only [hS3] at q3; exact q3.elim
        | some c =>
          simp only [hS3] at q3
          cases c with
          | lst ys =>
            obtain ⟨hz0, q3⟩ := Aft.when q3
            have hz0 : ys.length ≤ 16777216 := of_decide_eq_true hz0
            obtain ⟨j, hj, q4⟩ := Aft.orNo q3
            obtain ⟨z, hz, q5⟩ := Aft.orNo q4
            obtain ⟨h1, h2, h3, h4⟩ := ixN_mi hj
            obtain ⟨us, hu, pu⟩ := o2.cell i a _ ha3 hS3
            obtain ⟨u, h5, h6⟩ := pu.at hz
            obtain ⟨o4, x4⟩ := o2.putL (vs := us.eraseIdx j) (ys := ys.eraseIdx j) ha3 hS3 (pu.erase j)
            have hlen := pu.length
            exact ⟨a, us, k, j, u, rfl, rfl, hu, by omega, by omega, by rw [hlen]; exact h1, h5, (Aft.at q5 x4 o4) _ (Pd.mono x4.gr _ _ h6)⟩
          | _ => exact q3.elim
      | _ => exact q3.elim
    | _ => exact q3.elim
end
end Mi
end
section
namespace Mi
open PySem PySem.Spec PyProof.Rows L2
section
variable (own : List Nat) (tg : Tg) (elt : Ex) (g : List (Nat × Cell)) (σ : Env) (i : Nat)
noncomputable def compNL : List PyData → List Nat → Store → R (D × Store)
  | [], rs, S => when_ (stand ((i, .nst rs.length rs) :: g) S) (.ok (.rows i rs.length rs, S))
  | x :: xs, rs, S => when_ (stand ((i, .nst rs.length rs) :: g) S) (bx (tg x (wipe σ own)) fun σ1 => bd (elt σ1 S) fun y S1 => match y with
    | .p (.list ys) => when_ (stand [(i, .nst rs.length rs)] S1) (compNL xs (rs ++ [S1.length]) ((S1 ++ [Cell.lst ys]).set i (.nst (rs.length + 1) (rs ++ [S1.length]))))
    | _ => .no)
end
noncomputable def mCompN (own : List Nat) (src : Is) (tg : Tg) (elt : Ex) : Ex := fun σ S => bd (src σ S) fun s S1 => when_ (decide (s.items.length ≤ Line)) (compNL own tg elt s.g σ S1.length s.items [] (S1 ++ [.nst 0 []]))
noncomputable def rowOf (S : Store) (i n : Nat) (rs : List Nat) (k : Int) : R (D × Store) := when_ (stand [(i, .nst n rs)] S && decide (0 ≤ k)) (bx (orNo rs[k.toNat]?) fun j => .ok (.ref j, S))
noncomputable def mRow (a b : Ex) : Ex := fun σ S => bd (a σ S) fun x S1 => bd (b σ S1) fun y S2 => match x, y with
  | .rows i n rs, .p (.int k) => rowOf S2 i n rs k
  | _, _ => .no
noncomputable def iRows (a : Ex) : Is := fun σ S => bd (a σ S) fun x S1 => match x with
  | .rows i n rs => when_ (stand [(i, .nst n rs)] S1) (bd (fzs (rs.map .ref) S1) fun xs S2 => when_ (stand [(i, .nst n rs)] S2) (.ok (⟨xs, [(i, .nst n rs)]⟩, S2)))
  | _ => .no
section
variable {K : PySem.W.Frag} {ρ ρ' : List Addr} {S S' : Store} {H H' : Hp}
theorem RowsAt.push {rs : List Nat} {as : List Addr} {p : Addr} {k : Nat} (h : RowsAt ρ rs as) (hk : ρ.length = k) : RowsAt (ρ ++ [p]) (rs ++ [k]) (as ++ [p]) := by
  refine ⟨by simp [h.1], fun m j hm => ?_⟩
  by_cases hl : m < rs.length
  · rw [List.getElem?_append_left hl] at hm
    obtain ⟨b, h1, h2⟩ := h.2 m j hm
    exact ⟨b, by rw [List.getElem?_append_left (List.getElem?_eq_some_iff.mp h1).1]; exact h1, by rw [List.getElem?_append_left (List.getElem?_eq_some_iff.mp h2).1]; exact h2⟩
  · have e : m = rs.length := by
      have := (List.getElem?_eq_some_iff.mp hm).1
      simp at this
      omega
    subst e
    simp at hm
    subst hm
    refine ⟨p, ?_, ?_⟩
    · rw [List.getElem?_append_right (by rw [h.1]; exact Nat.le_refl _), h.1]
      simp
    · rw [List.getElem?_append_right (by omega), hk]
      simp
theorem RowsAt.eq {rs : List Nat} {as bs : List Addr} (h : RowsAt ρ rs as) (h' : RowsAt ρ rs bs) : as = bs := by
  apply List.ext_getElem?
  intro k
  cases e : rs[k]? with
  | none =>
    have := List.getElem?_eq_none_iff.mp e
    rw [List.getElem?_eq_none_iff.mpr (by rw [h.1]; exact this), List.getElem?_eq_none_iff.mpr (by rw [h'.1]; exact this)]
  | some j =>
    obtain ⟨b, h1, h2⟩ := h.2 k j e
    obtain ⟨c, h3, h4⟩ := h'.2 k j e
    rw [h2] at h4
    cases h4
    rw [h1, h3]
theorem NstOk.now {v : V} {i n : Nat} {rs : List Nat} (h : NstOk ρ S H v i n rs) (hs : S[i]? = some (.nst n rs)) : ∃ a as, v = .ref a ∧ ρ[i]? = some a ∧ H a = some (.lst (as.map V.ref)) ∧ RowsAt ρ rs as := by
  obtain ⟨a, n', rs', h1, h2, h3, h4, h5⟩ := h
  rw [hs] at h3
  cases h3
  obtain ⟨_, as, h6, h7⟩ := h5 rfl
  exact ⟨a, as, h1, h2, h6, h7⟩
theorem NstOk.mk' {a : Addr} {i n : Nat} {rs : List Nat} {as : List Addr} (h1 : ρ[i]? = some a) (h2 : S[i]? = some (.nst n rs)) (h3 : H a = some (.lst (as.map V.ref))) (h4 : RowsAt ρ rs as) : NstOk ρ S H (.ref a) i n rs :=
  ⟨a, n, rs, rfl, h1, h2, Nat.le_refl _, fun _ => ⟨rfl, as, h3, h4⟩⟩
theorem stand_cons {p : Nat × Cell} {g : List (Nat × Cell)} (h : stand (p :: g) S = true) : S[p.1]? = some p.2 ∧ stand g S = true :=
  ⟨stand_mem h (by simp), (stand_app (g := [p]) h).2⟩
theorem wipe_twice (own : List Nat) (σ : L2.St) : L2.wipe (L2.wipe σ own) own = L2.wipe σ own := by
  have z : ∀ (vs : List Nat) (σ : L2.St), (∀ v ∈ vs, (L2.wipe σ vs).set v none = L2.wipe σ vs) := fun vs σ v hv => by
    apply List.ext_getElem?
    intro n
    by_cases e : v = n
    · subst e
      by_cases hl : v < (L2.wipe σ vs).length
      · rw [List.getElem?_set_self hl]
        cases hq : (L2.wipe σ vs)[v]? with
        | none => have := List.getElem?_eq_none_iff.mp hq; omega
        | some o =>
          cases o with
          | none => rfl
          | some u => exact absurd hv (wipe_some hq).2
      · rw [List.set_eq_of_length_le (by omega)]
    · rw [List.getElem?_set_ne e]
  have z2 : ∀ r : List Nat, (∀ v ∈ r, v ∈ own) → L2.wipe (L2.wipe σ own) r = L2.wipe σ own := fun r => by
    induction r with
    | nil => intro _; rfl
    | cons v r ih =>
      intro hr
      show (L2.wipe (L2.wipe σ own) r).set v none = _
      rw [ih fun u hu => hr u (by simp [hu])]
      exact z own σ v (hr v (by simp))
  exact z2 own fun v hv => hv
theorem t_compN {own : List Nat} {st : Bool} {is : List Nat} {src : Is} {t : Tg} {fe : Ex} (his : ∀ i ∈ is, i ∈ own) {σ : L2.St} {H : Hp} {Q : VK} (h : TX K (mCompN own src t fe) σ H Q) :
    tLc (TIs K st src) (TTg K st is t) (TBx K Mi.tYes) (TN K fe) own σ H Q := by
  obtain ⟨ρ, env, S, eo, ok, q⟩ := h
  refine ⟨ρ, env, S, eo, ok, (Aft.bd q).mono fun p ρ1 H1 e1 o1 q1 J GG wk hG => ?_⟩
  obtain ⟨⟨items, g⟩, S1⟩ := p
  obtain ⟨hz, q1⟩ := Aft.when q1
  have hz : items.length ≤ Line := of_decide_eq_true hz
  intro D hD
  have eo1 := eo.mono e1
  let k : Mi.D × Store → List Addr → Hp → Prop := fun p ρ' H' => ∀ v, DOk K ρ' p.2 H' v p.1 → Q v H'
  let W : Nat → Nat → Hp → Prop := fun i m H' => m = items.length - i ∧ i ≤ items.length ∧ ∃ ρ' Sc rs, Ok ρ' Sc H' ∧ Xt ρ1 S1 H1 ρ' Sc H' ∧ ρ'[S1.length]? = some D ∧ NstOk ρ' Sc H' (.ref D) S1.length rs.length rs ∧ rs.length ≤ i ∧
    Aft ρ1 S1 H1 (compNL own t fe g env S1.length (items.drop i) rs Sc) (fun p => p.2) k
  obtain ⟨oD, xD⟩ := o1.push (c := .nst 0 []) (o := .lst []) hD ⟨[], upd_same⟩
  have hDat : (ρ1 ++ [D])[S1.length]? = some D := by rw [← o1.len]; simp
  refine ⟨W, ⟨items.length, by omega, Nat.zero_le _, ρ1 ++ [D], S1 ++ [.nst 0 []], [], oD, xD, hDat, NstOk.mk' (as := []) hDat (by simp) upd_same ⟨rfl, fun k j h => by simp at h⟩, Nat.le_refl _, by rw [List.drop_zero]; exact q1⟩, ?_⟩
  rintro i m H' ⟨rfl, hi, ρ', Sc, rs, okc, xtc, hat, hno, hrs, q'⟩
  have hG' := wk.mono _ _ _ _ _ _ hG xtc
  have eoc : EnvOk K ρ' Sc H' (Mi.wipe env own) (L2.wipe σ own) := (eo1.mono xtc).wipe own
  by_cases hlt : i < items.length
  · rw [drop_cons hlt] at q'
    obtain ⟨hst, q2⟩ := Aft.when q'
    obtain ⟨_, hst⟩ := stand_cons hst
    obtain ⟨env2, ht, q3⟩ := Aft.bx q2
    refine .inr ⟨wk.goes i _ _ H' hlt okc hG' hst, W (i + 1) (items.length - (i + 1)), fun H2 w => ⟨_, by omega, w⟩, fun x H2 y => ?_⟩
    obtain ⟨xt, o2, rl⟩ := wk.yld i _ _ H' x H2 items[i] (List.getElem?_eq_getElem hlt) okc hG' hst y
    refine ⟨ρ', Mi.wipe env own, Sc, items[i], env2, eoc.mono xt, o2, rl, ht, fun σ2 eo2 hw => ⟨?_, ?_⟩⟩
    · rw [hw own his]
      exact wipe_twice own σ
    · refine ⟨ρ', env2, Sc, eo2, o2, fun ρ3 H3 e3 o3 => ?_⟩
      refine ⟨ρ3, env2, Sc, eo2.mono e3, o3, (Aft.bd0 q3).mono fun p ρ4 H4 e4 o4 q5 => ?_⟩
      obtain ⟨y, S4⟩ := p
      cases y with
      | p y =>
        cases y with
        | list ys =>
          refine ⟨ys, rfl, fun p vs hp pds => ?_⟩
          obtain ⟨h4, q7⟩ := Aft.when (show Aft ρ1 S1 H1 (when_ _ _) _ _ from q5)
          have e5 := (xt.trans e3).trans e4
          have hno4 : NstOk ρ4 S4 H4 (.ref D) S1.length rs.length rs := DOk.mono (K := K) (d := .rows S1.length rs.length rs) e5 hno
          have hS := stand_at h4
          obtain ⟨a, as, ha, hra, hHa, hrow⟩ := hno4.now hS
          cases ha
          obtain ⟨o5, x5⟩ := o4.pushL hp pds
          have hr5 : (ρ4 ++ [p])[S1.length]? = some D := x5.at hra
          have hlt4 : S1.length < S4.length := (List.getElem?_eq_some_iff.mp hS).1
          have hS5 : (S4 ++ [Cell.lst ys])[S1.length]? = some (.nst rs.length rs) := by rw [List.getElem?_append_left hlt4]; exact hS
          have hD5 : upd H4 p (.lst vs) D = some (.lst (as.map V.ref)) := by rw [upd_ne (ne_of_none hHa hp)]; exact hHa
          obtain ⟨o6, x6⟩ := o5.putN (n' := rs.length + 1) (rs' := rs ++ [S4.length]) (vs := (as ++ [p]).map V.ref) hr5 hS5 (by omega)
          refine ⟨as.map V.ref, hD5, by rw [List.length_map, hrow.1]; exact Nat.lt_of_lt_of_le (Nat.lt_of_le_of_lt hrs hlt) hz, ?_⟩
          have ev : as.map V.ref ++ [V.ref p] = (as ++ [p]).map V.ref := by simp
          rw [ev]
          refine ⟨rfl, hlt, ρ4 ++ [p], _, rs ++ [S4.length], o6, ((xtc.trans e5).trans x5).trans x6, hr5, ?_, by simp; omega, q7⟩
          have er : (rs ++ [S4.length]).length = rs.length + 1 := by simp
          rw [er]
          exact NstOk.mk' hr5 (by rw [List.getElem?_set_self (List.getElem?_eq_some_iff.mp hS5).1]) upd_same (hrow.push o4.len)
        | _ => exact q5.elim
      | _ => exact q5.elim
  · have e : i = items.length := by omega
    subst e
    rw [List.drop_length] at q'
    obtain ⟨hst, q2⟩ := Aft.when q'
    obtain ⟨hS, hst⟩ := stand_cons hst
    exact .inl ⟨wk.stops _ _ H' okc hG' hst, (Aft.at q2 xtc okc) _ hno⟩
end
section
variable {X : Cx} {e a b o : Expr} {pos p cpos apos : Pos} {fa fb fe : Ex}
def mNewN : Ex := fun _ S => .ok (.rows S.length 0 [], S ++ [.nst 0 []])
variable {elt tg iter : Expr} {scope : Scope} {own : List (Str × Nat)} {spos : Pos} {st : Bool} {is : List Nat} {src : Is} {t : Tg}
theorem s_asgCN (G : Gd X) (i : Nat) {y : Str} {py : Pos} (hsw : swapsWith (.ListComp elt [⟨tg, iter, [], 0⟩] scope pos) (some (.Name y py)) spos.line X.env = pure true)
    (hi : PI X tg iter (TIs X.K st src)) (ok : BlkOk X.N X.env.scope scope own)
    (hg : ∀ (s : Shared) (H : Hp) (C : Addr) (cl : List (Str × Addr)) (fp : List Addr), PG (X.blk s H scope (compEnvC scope cl C X.env) fp) tg (TTg X.K st is t))
    (he : ∀ (s : Shared) (H : Hp) (C : Addr) (cl : List (Str × Addr)) (fp : List Addr), PE (X.blk s H scope (compEnvC scope cl C X.env) fp) elt (TN X.K fe))
    (his : ∀ i ∈ is, i ∈ own.map (·.2) := by decide) (hs : ∀ x, foldedSetIterable iter X.env x = pure x := by intro _; rfl) (hN : X.N[i]? = some y := by rfl) (hyl : X.env.scope.names.lookup y = some .local := by rfl) :
    PS X (.Assign [.Name y py] (.ListComp elt [⟨tg, iter, [], 0⟩] scope pos) spos) (TSm X.K (sAsg i (mCompN (own.map (·.2)) src t fe))) :=
  by
  have z : PS X (.Assign [.Name y py] (.ListComp elt [⟨tg, iter, [], 0⟩] scope pos) spos) (tAsg (TX X.K (mCompN (own.map (·.2)) src t fe)) (gName i)) :=
    PS.up (ps_setLc G.calm G.nd hN hyl hsw hi ok hg (fun _ _ _ _ _ => ts_nil) he hs) fun D' σ H h => t_compN (Q := fun x H1 => gName i x σ H1 D'.nx) his h
  exact s_asg_of z fun _ _ _ h => h
def rRow : R2 := fun x y H Q => ∃ (a : Addr) (as : List Addr) (k : Int) (b : Addr), x = .ref a ∧ y = .int k ∧ H a = some (.lst (as.map V.ref)) ∧ 0 ≤ k ∧ as[k.toNat]? = some b ∧ Q (.ref b) H
theorem ix_row : IxR X rRow := by
  intro value slice pins s σ H x y v u Q I rx ry ⟨a, as, k, b, ex, ey, hH, hk, hb, q⟩ hs
  refine ix_list value slice pins s σ H _ _ v u Q I rx ry ⟨a, as.map V.ref, k, .ref b, ex, ey, .of hH, ?_, q⟩ hs
  have hl := (List.getElem?_eq_some_iff.mp hb).1
  have : L2.ixN (as.map V.ref).length k = some k.toNat := by
    show (if 0 ≤ k then (if k < ((as.map V.ref).length : Nat) then some k.toNat else none) else _) = _
    rw [if_pos hk, if_pos (by rw [List.length_map]; omega)]
  unfold L2.atI
  rw [this]
  show (as.map V.ref)[k.toNat]? = _
  rw [List.getElem?_map, hb]
  rfl
theorem x_row (ha : PE X a (TX X.K fa)) (hb : PE X b (TX X.K fb)) (hs : PlainIx b := by intro _ _; rfl) : PE X (.Subscript a b pos) (TX X.K (mRow fa fb)) :=
  PE.up (pe_ix ix_row ha hb hs) fun σ H Q ⟨ρ, env, S, eo, ok, q⟩ => by
    refine ⟨ρ, env, S, eo, ok, (Aft.bd q).mono fun p ρ1 H1 e1 o1 q1 v1 d1 => ?_⟩
    refine ⟨ρ1, env, p.2, eo.mono e1, o1, (Aft.bd q1).mono fun p2 ρ2 H2 e2 o2 q2 v2 d2 => ?_⟩
    obtain ⟨x, S1⟩ := p
    obtain ⟨y, S2⟩ := p2
    cases x with
    | rows i n rs =>
      cases y with
      | p y =>
        cases y with
        | int k =>
          cases d2
          obtain ⟨hk, q3⟩ := Aft.when (show Aft ρ2 S2 H2 (when_ _ _) _ _ from q2)
          rw [Bool.and_eq_true] at hk
          obtain ⟨j, hj, q4⟩ := Aft.orNo q3
          have hn : NstOk ρ2 S2 H2 v1 i n rs := DOk.mono (K := X.K) (d := .rows i n rs) e2 d1
          obtain ⟨a, as, ea, hra, hHa, hrow⟩ := hn.now (stand_at hk.1)
          obtain ⟨b, hb1, hb2⟩ := hrow.2 _ _ hj
          exact ⟨a, as, k, b, ea, rfl, hHa, of_decide_eq_true hk.2, hb1, (Aft.here q4 rfl o2) _ ⟨b, hb2, rfl⟩⟩
        | _ => exact q2.elim
      | _ => exact q2.elim
    | _ => exact q2.elim
theorem dsOk_rows {K : PySem.W.Frag} {ρ : List Addr} {S : Store} {H : Hp} : ∀ {rs : List Nat} {as : List Addr}, RowsAt ρ rs as → DsOk K ρ S H (as.map V.ref) (rs.map .ref)
  | [], as, h => by
    have : as = [] := List.length_eq_zero_iff.mp h.1
    subst this
    exact .nil
  | r :: rs, as, h => by
    cases as with
    | nil => cases h.1
    | cons a as =>
      obtain ⟨b, h1, h2⟩ := h.2 0 r rfl
      have h1 : a = b := by simpa using h1
      subst h1
      refine .cons ⟨a, h2, rfl⟩ (dsOk_rows ⟨by simpa using h.1, fun k j hk => ?_⟩)
      exact h.2 (k + 1) j (by simpa using hk)
theorem wk_rows {K : PySem.W.Frag} {a : Addr} {i n : Nat} {rs : List Nat} {as : List Addr} {xs : List PyData} : Wk K true (Itl K a) xs [(i, .nst n rs)] (fun ρ S H => NstOk ρ S H (.ref a) i n rs ∧ RowsAt ρ rs as ∧ Pds (Live ρ S) H (as.map V.ref) xs) where
  mono := fun ρ S H ρ' S' H' h e => ⟨DOk.mono (K := K) (d := .rows i n rs) e h.1, h.2.1.mono e, Pds.mono e.gr _ _ h.2.2⟩
  goes := fun k ρ S H hk ok h hs => by
    obtain ⟨a', as', ea, h1, h2, h3⟩ := h.1.now (stand_at hs)
    cases ea
    cases h.2.1.eq h3
    obtain ⟨v, h4, _⟩ := h.2.2.at (List.getElem?_eq_getElem hk)
    exact ⟨as.map V.ref, v, .of h2, h4⟩
  stops := fun ρ S H ok h hs => by
    obtain ⟨a', as', ea, h1, h2, h3⟩ := h.1.now (stand_at hs)
    cases ea
    cases h.2.1.eq h3
    exact ⟨as.map V.ref, .of h2, by rw [h.2.2.length]; exact Nat.le_refl _⟩
  yld := fun k ρ S H x H' d hd ok h hs y => by
    obtain ⟨a', as', ea, h1, h2, h3⟩ := h.1.now (stand_at hs)
    cases ea
    cases h.2.1.eq h3
    obtain ⟨rfl, y⟩ := y
    obtain ⟨v, h4, h5⟩ := h.2.2.at hd
    have e := y _ (.of h2)
    rw [h4] at e
    cases e
    exact ⟨Xt.refl, ok, h5⟩
theorem i_rows (hc : X.calm = true) (he : PE X e (TX X.K fa)) : PI X tg e (TIs X.K true (iRows fa)) := by
  refine ⟨fun pins s σ H R I ⟨ρ, env, S, eo, ok, q⟩ => ?_⟩
  have h : TX X.K fa σ H (fun v H1 => ∃ a, v = .ref a ∧ ∃ vs, H1 a = some (.lst vs) ∧ R (Itl X.K a) H1) := by
    refine ⟨ρ, env, S, eo, ok, (Aft.bd q).mono fun p ρ1 H1 e1 o1 q1 v dv => ?_⟩
    obtain ⟨d, S1⟩ := p
    cases d with
    | rows i n rs =>
      obtain ⟨hs, q2⟩ := Aft.when (show Aft ρ1 S1 H1 (when_ _ _) _ _ from q1)
      obtain ⟨a, as, ea, hra, hHa, hrow⟩ := NstOk.now (show NstOk ρ1 S1 H1 v i n rs from dv) (stand_at hs)
      obtain ⟨xs, S2, x2, o2, p2, q3⟩ := Aft.fzs o1 (dsOk_rows (K := X.K) hrow) q2
      obtain ⟨hs2, q4⟩ := Aft.when q3
      have q5 := Aft.here q4 rfl o2
      refine ⟨a, ea, _, hHa, q5 _ _ (wk_rows (as := as)) ⟨?_, hrow.mono x2, p2⟩⟩
      rw [← ea]
      exact DOk.mono (K := X.K) (d := .rows i n rs) x2 dv
    | _ => exact q1.elim
  refine thn (he.run pins s σ H _ I h) fun v s1 ⟨x, H1, I1, r1, a, ex, vs, hv, q1⟩ => ?_
  subst ex
  cases r1
  have fz : ∀ b ∈ [s1.heap.objs.size], FpOk X pins H1 b := fun b hb => by
    have e : b = s1.heap.objs.size := by simpa using hb
    subst e
    exact I1.fpOk (Nat.le_refl _) (I1.hok.fresh (Nat.le_refl _))
  obtain ⟨its, rv, p, hz⟩ := I1.list (.of hv)
  exact wpAny_pyIter_list p.isList ⟨s1.heap.objs.size, [s1.heap.objs.size], _, _, H1, rfl, I1.kept (t' := s1.toks) (fun b o e => Heap.get?_push_of_some _ e), turn_list a _, ⟨_, Heap.get?_push_size _ rfl, rfl, rfl⟩, fz, q1⟩
noncomputable def sAppN (x : Nat) (fe : Ex) : Sm := fun σ S => bd (mV x σ S) fun d S0 => bd (fe σ S0) fun y S1 => match d, y with
  | .rows i n rs, .ref j => when_ (stand [(i, .nst n rs)] S1 && decide (rs.length < Line)) (.ok (.nx, σ.set x (some (.rows i (n + 1) (rs ++ [j]))), S1.set i (.nst (n + 1) (rs ++ [j]))))
  | _, _ => .no
theorem RowsAt.more {ρ : List Addr} {rs : List Nat} {as : List Addr} {p : Addr} {k : Nat} (h : RowsAt ρ rs as) (hk : ρ[k]? = some p) : RowsAt ρ (rs ++ [k]) (as ++ [p]) := by
  refine ⟨by simp [h.1], fun m j hm => ?_⟩
  by_cases hl : m < rs.length
  · rw [List.getElem?_append_left hl] at hm
    obtain ⟨b, h1, h2⟩ := h.2 m j hm
    exact ⟨b, by rw [List.getElem?_append_left (List.getElem?_eq_some_iff.mp h1).1]; exact h1, h2⟩
  · have e : m = rs.length := by
      have := (List.getElem?_eq_some_iff.mp hm).1
      simp at this
      omega
    subst e
    simp at hm
    subst hm
    refine ⟨p, ?_, hk⟩
    rw [List.getElem?_append_right (by rw [h.1]; exact Nat.le_refl _), h.1]
    simp
end
end Mi
end
section
namespace Mi
open PySem PySem.Spec PyProof.Rows L2
section
variable {X : Cx} {pins : List (Addr × Obj)} {σ : L2.St} {H : Hp} {s : Shared} {L : Addr → Prop}
theorem dk0_reads {a : Addr} (I : L2.Inv X pins σ H s) (h : Rd H a (.dK [])) : a ≠ sysModules ∧ Reads s.heap (.ref a) (.dict []) [a] := by
  obtain ⟨_, hd, vs, rel, dd⟩ := dk_rd I.hok h
  have hv : vs = [] := by
    cases vs with
    | nil => rfl
    | cons x xs => exact nomatch rel.length
  subst hv
  obtain ⟨o, es, ep, h1, h2, h3, h4, h5, h6⟩ := dd
  have he : es.toList = [] := by
    have := h5.length
    cases hl : es.toList with
    | nil => rfl
    | cons x xs => rw [hl] at this; cases this
  refine ⟨ne_of_beq_false hd, ?_⟩
  have r := Reads.dict (h := s.heap) (kvs := []) (as := []) (bs := []) h1 h2.1 h3 (by rw [he]; exact .nil) (by rw [he]; exact .nil)
  simpa using r
theorem plain_ints : ∀ k : List Int, PyData.plainAll (k.map .int) = true
  | [] => rfl
  | n :: k => by
    rw [List.map_cons, PyData.plainAll, plain_ints k]
    rfl
theorem key_reads (I : L2.Inv X pins σ H s) {b : Addr} {k : List Int} (t : TupAt H b (k.map V.int)) : ∃ as, Reads s.heap (.ref b) (.tuple (k.map .int)) as :=
  Dp.reads I _ _ _ (Pd.dp (K := X.K) (L := fun _ => False) (.tuple (k.map .int)) (.ref b) (by rw [PyData.plain]; exact plain_ints k) (.tup t (pds_ints k))) rfl
theorem keyIs_reads {h : Heap} {k : Key} {v : Value} (e : keyIs k v = true) : ∃ as, Reads h v (keyD k) as := by
  rcases keyIs_shape e with ⟨i, t, rfl, rfl⟩ | ⟨x, t, rfl, rfl⟩
  · exact ⟨_, .int i t⟩
  · exact ⟨_, .str x t⟩
mutual
theorem Pd.reads (I : L2.Inv X pins σ H s) : ∀ (d : PyData) (v : V) (u : Value), Pd L H v d → RelV v u → ∃ as, Reads s.heap u d as
  | .none, _, _, .non, r => by
    cases r
    exact ⟨_, Reads.none⟩
  | .bool b, _, _, .bl _, r => by
    cases r
    exact ⟨_, Reads.bool b⟩
  | .int i, _, _, .int _, r => by
    obtain ⟨t, rfl⟩ := r
    exact ⟨_, Reads.int i t⟩
  | .str x, _, _, .str _, r => by
    obtain ⟨t, rfl⟩ := r
    exact ⟨_, Reads.str x t⟩
  | .list ds, _, _, .lst hs _ ha, r => by
    cases r
    obtain ⟨its, rv, ⟨o, n, ho, hc, _, hd⟩, _⟩ := I.list (SqL.of (K := X.K) hs)
    obtain ⟨as, hr⟩ := Pds.reads I ds _ its ha rv
    exact ⟨_, Reads.list ho hc hd hr⟩
  | .tuple ds, _, _, .tup hs ha, r => by
    cases r
    obtain ⟨its, rv, ⟨o, ho, hc, n, hd⟩, _⟩ := I.tuple (hs.sq (K := X.K))
    obtain ⟨as, hr⟩ := Pds.reads I ds _ its ha rv
    exact ⟨_, Reads.tuple ho hc hd hr⟩
  | .dict [], _, _, .dct h _, r => by
    cases r
    exact ⟨_, (dk0_reads I (.inl h)).2⟩
  | .dict kvs, _, _, .dk h _ ha _, r => by
    cases r
    obtain ⟨_, hd, vs, rel, o, es, ep, h1, h2, h3, h4, h5, h6⟩ := dk_rd I.hok (.inl h)
    obtain ⟨as, bs, r1, r2⟩ := Kvp.reads I kvs _ ha vs es.toList rel h5
    exact ⟨_, Reads.dict h1 h2.1 h3 r1 r2⟩
  | .dict kvs, _, _, .dt (a := a) (o := o) (xs := xs) h _ ha _, r => by
    cases r
    obtain ⟨⟨P, w, es, ep, us, hv, h1, h2, h3, h4⟩, _⟩ := (show ObjOk X.prog X.w H s.heap a (.ext (DTfv o xs a)) from I.hok a _ h)
    obtain ⟨as, bs, r1, r2⟩ := Kvt.reads I kvs _ ha us hv
    rw [List.map_map] at h4
    refine ⟨_, Reads.dict h1 h2.1 h3 (as := as) (bs := bs) ?_ ?_⟩
    · rw [h4, List.map_map]
      exact r1
    · rw [h4, List.map_map]
      exact r2
theorem Pds.reads (I : L2.Inv X pins σ H s) : ∀ (ds : List PyData) (vs : List V) (us : List Value), Pds L H vs ds → Vals vs us → ∃ as, ReadsAll s.heap us ds as
  | [], _, _, .nil, r => by
    cases r
    exact ⟨_, ReadsAll.nil⟩
  | d :: ds, _, _, .cons h1 h2, r => by
    cases r with
    | cons r1 r2 =>
      obtain ⟨as, q1⟩ := Pd.reads I d _ _ h1 r1
      obtain ⟨bs, q2⟩ := Pds.reads I ds _ _ h2 r2
      exact ⟨_, ReadsAll.cons q1 q2⟩
theorem Kvp.reads (I : L2.Inv X pins σ H s) : ∀ (kvs : List (PyData × PyData)) (us : List (Key × V)), Kvp L H us kvs → ∀ (vs : List (Key × Value)) (es : List DictEntry), KV us vs → Pairs (mixKind X.prog X.w) es vs → ∃ as bs, ReadsAll s.heap (es.map (·.key)) (kvs.map (·.1)) as ∧ ReadsAll s.heap (es.map (·.val)) (kvs.map (·.2)) bs
  | [], _, .nil, vs, es, r, p => by
    cases r
    cases p
    exact ⟨_, _, .nil, .nil⟩
  | (_, d) :: kvs, _, .cons a t, vs, es, r, p => by
    cases r with
    | cons r1 r2 =>
      cases p with
      | cons p1 p2 p3 =>
        obtain ⟨e1, e2⟩ := r1
        obtain ⟨as, bs, q1, q2⟩ := Kvp.reads I kvs _ t _ _ r2 p3
        obtain ⟨cs, q3⟩ := Pd.reads I d _ _ a e2
        obtain ⟨ds, q4⟩ := keyIs_reads (h := s.heap) p1
        dsimp only at e1
        rw [← e1] at q4
        rw [← p2] at q3
        exact ⟨_, _, .cons q4 q1, .cons q3 q2⟩
theorem Kvt.reads (I : L2.Inv X pins σ H s) : ∀ (kvs : List (PyData × PyData)) (xs : List (List Int × Addr × V)), Kvt L H xs kvs → ∀ us : List Value, Vals (xs.map fun x => x.2.2) us → ∃ as bs, ReadsAll s.heap ((xs.zip us).map fun p => Value.ref p.1.2.1) (kvs.map (·.1)) as ∧ ReadsAll s.heap ((xs.zip us).map fun p => p.2) (kvs.map (·.2)) bs
  | [], _, .nil, us, r => ⟨_, _, .nil, .nil⟩
  | (_, d) :: kvs, _, .cons t a rest, us, r => by
    cases r with
    | cons r1 r2 =>
      obtain ⟨as, bs, q1, q2⟩ := Kvt.reads I kvs _ rest _ r2
      obtain ⟨cs, q3⟩ := Pd.reads I d _ _ a r1
      obtain ⟨ds, q4⟩ := key_reads I t
      exact ⟨_, _, .cons q4 q1, .cons q3 q2⟩
end
theorem Dv.dict0 {v : V} (h : Dv L H v (.dict [])) : ∃ a, v = .ref a ∧ Rd H a (.dK []) := by
  cases h with
  | data h => cases h with
    | dct h _ => exact ⟨_, rfl, .inl h⟩
    | dk _ _ h ne => cases h; exact absurd rfl ne
    | dt _ _ h ne => cases h; exact absurd rfl ne.1
  | dK h1 h2 => cases h2; exact ⟨_, rfl, h1⟩
theorem Dv.reads0 {v : V} {u : Value} (I : L2.Inv X pins σ H s) (h : Dv L H v (.dict [])) (r : RelV v u) : ∃ a, u = .ref a ∧ a ≠ sysModules ∧ Reads s.heap u (.dict []) [a] := by
  obtain ⟨a, rfl, g⟩ := h.dict0
  cases r
  exact ⟨a, rfl, dk0_reads I g⟩
theorem Kvp.kvk : ∀ {us : List (Key × V)} {kvs : List (PyData × PyData)}, Kvp L H us kvs → KvK L H us kvs
  | _, _, .nil => .nil
  | _, _, .cons a t => .cons a (Kvp.kvk t)
theorem Dv.dictK {v : V} {kvs : List (PyData × PyData)} (h : Dv L H v (.dict kvs)) (hk : keyNT kvs = true) : ∃ a us, v = .ref a ∧ Rd H a (.dK us) ∧ KvK L H us kvs := by
  cases h with
  | data h => cases h with
    | dct h _ => exact ⟨_, [], rfl, .inl h, .nil⟩
    | dk h1 _ h ne => exact ⟨_, _, rfl, .inl h1, h.kvk⟩
    | dt _ _ h ne =>
      cases h with
      | nil => exact absurd rfl ne.1
      | cons _ _ _ => cases hk
  | dK h1 h2 => exact ⟨_, _, rfl, h1, h2⟩
theorem Dv.dictT {v : V} {kvs : List (PyData × PyData)} (h : Dv L H v (.dict kvs)) (hk : keyNT kvs = false) : ∃ a o xs, v = .ref a ∧ H a = some (.ext (DTfv o xs a)) ∧ Kvt L H xs kvs ∧ DtOk xs a := by
  have key : ∀ {us : List (Key × V)} {kvs : List (PyData × PyData)}, KvK L H us kvs → keyNT kvs = true := fun {us kvs} h => by
    cases h with
    | nil => rfl
    | @cons k _ _ _ _ _ _ => cases k <;> rfl
  cases h with
  | data h => cases h with
    | dct h _ => cases hk
    | dk h1 _ h ne => rw [key h.kvk] at hk; cases hk
    | dt h1 _ h ne => exact ⟨_, _, _, rfl, h1, h, ne⟩
  | dK h1 h2 => rw [key h2] at hk; cases hk
theorem Kvt.length : ∀ {xs : List (List Int × Addr × V)} {kvs : List (PyData × PyData)}, Kvt L H xs kvs → xs.length = kvs.length
  | _, _, .nil => rfl
  | _, _, .cons _ _ t => congrArg (· + 1) (Kvt.length t)
abbrev zipV (xs : List (List Int × Addr × V)) (us : List Value) : List (List Int × Addr × Value) := (xs.zip us).map fun p => (p.1.1, p.1.2.1, p.2)
theorem zipV_keys : ∀ {xs : List (List Int × Addr × V)} {us : List Value}, xs.length = us.length → (zipV xs us).map (·.1) = xs.map (·.1)
  | [], us, _ => by cases us <;> rfl
  | x :: xs, [], h => by cases h
  | x :: xs, u :: us, h => congrArg (x.1 :: ·) (zipV_keys (xs := xs) (us := us) (by simpa using h))
theorem items_intsV : ∀ {ks : List Int} {us : List Value}, Vals (ks.map V.int) us → ItemsAre (PySem.intKind X.prog X.w) ks us
  | [], _, r => by rw [List.map_nil] at r; cases r; exact .nil
  | k :: ks, _, r => by
    rw [List.map_cons] at r
    cases r with
    | cons h t =>
      refine .cons ?_ (items_intsV t)
      obtain ⟨t, rfl⟩ := (show ∃ t, _ = Value.int k t from h)
      show Value.isInt k (.int k t) = true
      simp [Value.isInt]
theorem tup_keyV {zs : List Int} {b : Addr} (ok : L2.HOk X.prog X.w H s.heap) (e : TupAt H b (zs.map V.int)) : (tupleKind (PySem.intKind X.prog X.w)).is s.heap zs b := by
  obtain ⟨o, h1, h2, h3⟩ := e
  obtain ⟨g1, g2⟩ := (show ObjOk X.prog X.w H s.heap b (.frz o (.tup (zs.map V.int))) from ok b _ h1)
  obtain ⟨_, its, r, o', k1, k2, n, k3⟩ := (show ObjOk X.prog X.w H s.heap b (.tup (zs.map V.int)) from g2)
  exact ⟨o', its.toArray, n, k1, k2, k3, by simpa using items_intsV r⟩
theorem Kvt.keysAt : ∀ {xs : List (List Int × Addr × V)} {kvs : List (PyData × PyData)}, Kvt L H xs kvs → ∀ x ∈ xs, TupAt H x.2.1 (x.1.map V.int)
  | _, _, .nil, x, hx => nomatch hx
  | _, _, .cons t _ r, x, hx => by
    rcases List.mem_cons.mp hx with rfl | hx
    · exact t
    · exact Kvt.keysAt r x hx
theorem dtv_of {a : Addr} {o : Obj} {xs : List (List Int × Addr × V)} {kvs : List (PyData × PyData)} (ok : L2.HOk X.prog X.w H s.heap) (h : H a = some (.ext (DTfv o xs a))) (hk : Kvt L H xs kvs) (hd : (xs.map (·.1)).Nodup) :
    ∃ us, Vals (xs.map fun x => x.2.2) us ∧ us.length = xs.length ∧ s.heap.DictOfH (tupleKind (PySem.intKind X.prog X.w)) a (zipV xs us) := by
  obtain ⟨⟨P, w, es, ep, us, hv, h1, h2, h3, h4⟩, _⟩ := (show ObjOk X.prog X.w H s.heap a (.ext (DTfv o xs a)) from ok a _ h)
  have hl : us.length = xs.length := by
    have := Paired.length hv
    rw [List.length_map] at this
    exact this.symm
  refine ⟨us, hv, hl, o, es, ep, h1, h2, h3, h4, fun x hx => ?_, by rw [zipV_keys hl.symm]; exact hd⟩
  obtain ⟨p, hp, rfl⟩ := List.mem_map.mp hx
  exact tup_keyV ok (hk.keysAt p.1 (List.of_mem_zip hp).1)
theorem isDict0_eq {d : PyData} (h : isDict0 d = true) : d = .dict [] := by
  cases d with
  | dict kvs =>
    cases kvs with
    | nil => rfl
    | cons a b => cases h
  | _ => cases h
theorem Dv.readsI {v : V} {d : PyData} {u : Value} (I : L2.Inv X pins σ H s) (h : Dv L H v d) (hp : (d.plain || isDict0 d) = true) (r : RelV v u) : ∃ as, Reads s.heap u d as := by
  rw [Bool.or_eq_true] at hp
  rcases hp with hp | hp
  · exact Dp.reads I d v _ (h.dp hp) r
  · obtain rfl := isDict0_eq hp
    obtain ⟨a, rfl, _, rd⟩ := h.reads0 I r
    exact ⟨_, rd⟩
end
end Mi
end
section
namespace Mi
open PySem PySem.Spec PyProof.Rows L2
section
variable (K : PySem.W.Frag)
def rC1 (f : PyData → R PyData) : List V → Hp → VK → Prop := fun vs H Q => ∃ v, vs = [v] ∧ rD1 K f v H Q
def rC2 (f : PyData → PyData → R PyData) : List V → Hp → VK → Prop := fun vs H Q => ∃ v w, vs = [v, w] ∧ rD K f v w H Q
def rN1 (f : PyData → R PyData) : List V → Hp → VK → Prop := fun vs H Q => ∃ v, vs = [v] ∧ ∃ (ρ : List Addr) (S : Store) (u : PyData) (zs : List PyData), Ok ρ S H ∧ Dv (Live ρ S) H v u ∧ f u = .ok (.list zs) ∧ ∀ a ws, H a = none → Pds (Live ρ S) H ws zs → Q (.ref a) (upd H a (.lst ws))
def rLn : List V → Hp → VK → Prop := fun vs H Q => ∃ v, vs = [v] ∧ ∃ (ρ : List Addr) (S : Store) (u z : PyData), Ok ρ S H ∧ Dr K (Live ρ S) H v u ∧ pLen u = .ok z ∧ ∀ w, Pd (Live ρ S) H w z → Q w H
end
section
variable {X : Cx} {e e2 : Expr} {fa fb : Ex} {x : Str} {p pos : Pos} {id T : String} {f : PyData → R PyData} {f2 : PyData → PyData → R PyData}
theorem x_b1 (hc : CallR X (.builtin id) (rC1 X.K f)) (hv : bootBuiltins x = some (.builtin id)) (hg : Gl X x) (hm : X.mg x = none) (ha : PE X e (TX X.K fa)) (hn : x ≠ "__name__" := by decide) (hdb : (x == ("__debug__" : Str)) = false := by decide)
    (he : starEach [e] X.env = (false, eval e X.env) :: starEach [] X.env := by rfl) (hpl : (backTo pos (starEach [] X.env)).any (·.1) = false := by rfl) : PE X (.Call (.Name x p) [e] [] pos) (TX X.K (mO1 f fa)) :=
  PE.up (pe_callB hc hg hm hv (a_cons ha a_nil he) hn hdb he hpl) fun σ H Q h => ta_one (by
    obtain ⟨ρ, env, S, eo, ok, q⟩ := (tO1 h : TX X.K fa σ H fun x H1 => rD1 X.K f x H1 Q)
    exact ⟨ρ, env, S, eo, ok, q.mono fun p ρ1 H1 e1 o1 q1 v dv => ⟨v, rfl, q1 v dv⟩⟩)
theorem x_t1 (hc : CallR X (.type T) (rC1 X.K f)) (hv : bootBuiltins x = some (.type T)) (hg : Gl X x) (hm : X.mg x = none) (ha : PE X e (TX X.K fa)) (hn : x ≠ "__name__" := by decide) (hdb : (x == ("__debug__" : Str)) = false := by decide)
    (he : starEach [e] X.env = (false, eval e X.env) :: starEach [] X.env := by rfl) (hpl : (backTo pos (starEach [] X.env)).any (·.1) = false := by rfl) : PE X (.Call (.Name x p) [e] [] pos) (TX X.K (mO1 f fa)) :=
  PE.up (pe_callTy hc hg hm hv (a_cons ha a_nil he) hn hdb he hpl) fun σ H Q h => ta_one (by
    obtain ⟨ρ, env, S, eo, ok, q⟩ := (tO1 h : TX X.K fa σ H fun x H1 => rD1 X.K f x H1 Q)
    exact ⟨ρ, env, S, eo, ok, q.mono fun p ρ1 H1 e1 o1 q1 v dv => ⟨v, rfl, q1 v dv⟩⟩)
theorem x_b2 (hc : CallR X (.builtin id) (rC2 X.K f2)) (hv : bootBuiltins x = some (.builtin id)) (hg : Gl X x) (hm : X.mg x = none) (ha : PE X e (TX X.K fa)) (hb : PE X e2 (TX X.K fb)) (hn : x ≠ "__name__" := by decide) (hdb : (x == ("__debug__" : Str)) = false := by decide)
    (he : starEach [e, e2] X.env = (false, eval e X.env) :: starEach [e2] X.env := by rfl) (he2 : starEach [e2] X.env = (false, eval e2 X.env) :: starEach [] X.env := by rfl) (hpl : (backTo pos (starEach [e2] X.env)).any (·.1) = false := by rfl) : PE X (.Call (.Name x p) [e, e2] [] pos) (TX X.K (mO2 f2 fa fb)) :=
  PE.up (pe_callB hc hg hm hv (a_cons ha (a_cons hb a_nil he2) he) hn hdb he hpl) fun σ H Q ⟨ρ, env, S, eo, ok, q⟩ => by
    refine ⟨ρ, env, S, eo, ok, Aft.two q fun x y S2 ρ2 H2 v w e2 o2 q2 dx dy => ?_⟩
    obtain ⟨u, hu, q3⟩ := Aft.bx q2
    obtain ⟨t, ht, q4⟩ := Aft.bx q3
    obtain ⟨z, hz, q5⟩ := Aft.bx q4
    exact ⟨v, w, rfl, ρ2, S2, u, t, z, o2, o2.dv dx hu, o2.dv dy ht, hz, fun H' w' e' o' r' => (Aft.at q5 e' o') w' r'⟩
theorem tN1 {K : PySem.W.Frag} {σ : L2.St} {H : Hp} {Q : VK} (h : TN K (mO1 f fa) σ H Q) : TAs K (aCons fa aNil) σ H fun vs H1 => rN1 f vs H1 Q := ta_one (by
  obtain ⟨ρ, env, S, eo, ok, q⟩ := h
  refine ⟨ρ, env, S, eo, ok, (Aft.bd q).mono fun p ρ1 H1 e1 o1 q1 v dv => ⟨v, rfl, ?_⟩⟩
  obtain ⟨u, hu, q3⟩ := Aft.bx q1
  obtain ⟨z, hz, q5⟩ := Aft.bx q3
  obtain ⟨xs, hx, q6⟩ := Aft.here q5 rfl o1
  cases hx
  exact ⟨ρ1, p.2, u, xs, o1, o1.dv dv hu, hz, q6⟩)
theorem n_b1 (hc : CallR X (.builtin id) (rN1 f)) (hv : bootBuiltins x = some (.builtin id)) (hg : Gl X x) (hm : X.mg x = none) (ha : PE X e (TX X.K fa)) (hn : x ≠ "__name__" := by decide) (hdb : (x == ("__debug__" : Str)) = false := by decide)
    (he : starEach [e] X.env = (false, eval e X.env) :: starEach [] X.env := by rfl) (hpl : (backTo pos (starEach [] X.env)).any (·.1) = false := by rfl) : PE X (.Call (.Name x p) [e] [] pos) (TN X.K (mO1 f fa)) :=
  PE.up (pe_callB hc hg hm hv (a_cons ha a_nil he) hn hdb he hpl) fun σ H Q h => tN1 h
theorem n_t1 (hc : CallR X (.type T) (rN1 f)) (hv : bootBuiltins x = some (.type T)) (hg : Gl X x) (hm : X.mg x = none) (ha : PE X e (TX X.K fa)) (hn : x ≠ "__name__" := by decide) (hdb : (x == ("__debug__" : Str)) = false := by decide)
    (he : starEach [e] X.env = (false, eval e X.env) :: starEach [] X.env := by rfl) (hpl : (backTo pos (starEach [] X.env)).any (·.1) = false := by rfl) : PE X (.Call (.Name x p) [e] [] pos) (TN X.K (mO1 f fa)) :=
  PE.up (pe_callTy hc hg hm hv (a_cons ha a_nil he) hn hdb he hpl) fun σ H Q h => tN1 h
theorem isL_O1 (hf : ∀ u z, f u = .ok z → ∃ xs, z = .list xs) (σ : Env) (S : Store) (p : D × Store) (h : mO1 f fa σ S = .ok p) : ∃ xs, p.1 = .p (.list xs) := by
  obtain ⟨d, S1, _, h⟩ := bd_inv h
  obtain ⟨u, _, h⟩ := bx_inv h
  obtain ⟨z, hz, h⟩ := bx_inv h
  cases h
  obtain ⟨xs, rfl⟩ := hf u z hz
  exact ⟨xs, rfl⟩
theorem pSorted_l (u z : PyData) (h : pSorted u = .ok z) : ∃ xs, z = .list xs := by
  have h := orNo_inv h
  simp only [Option.bind_eq_some_iff] at h
  obtain ⟨xs, _, h⟩ := h
  split at h
  · cases h; exact ⟨_, rfl⟩
  · cases h
theorem c_abs : CallR X (.builtin "abs") (rC1 X.K pAbs) := by
  intro pins s σ H xs us Q I r ⟨v, ev, ρ, S, u, z, ok, du, hz, q⟩
  subst ev
  cases u with
  | int i =>
    cases hz
    obtain rfl := du.int
    exact call_abs pins s σ H _ us Q I r ⟨i, rfl, q H _ Xt.refl ok (.int _)⟩
  | _ => cases hz
theorem c_max2 (G : Gd X) : CallR X (.builtin "max") (rC2 X.K pMax2) := by
  intro pins s σ H xs us Q I r ⟨v, w, ev, ρ, S, u, t, z, ok, du, dt, hz, q⟩
  subst ev
  cases u with
  | int i =>
    cases t with
    | int j =>
      cases hz
      obtain rfl := du.int
      obtain rfl := dt.int
      exact call_max2 G.calm pins s σ H _ us Q I r ⟨i, j, rfl, q H _ Xt.refl ok (.int _)⟩
    | _ => cases hz
  | _ => cases hz
theorem c_min2 (G : Gd X) : CallR X (.builtin "min") (rC2 X.K pMin2) := by
  intro pins s σ H xs us Q I r ⟨v, w, ev, ρ, S, u, t, z, ok, du, dt, hz, q⟩
  subst ev
  cases u with
  | int i =>
    cases t with
    | int j =>
      cases hz
      obtain rfl := du.int
      obtain rfl := dt.int
      exact call_min2 G.calm pins s σ H _ us Q I r ⟨i, j, rfl, q H _ Xt.refl ok (.int _)⟩
    | _ => cases hz
  | _ => cases hz
theorem c_int : CallR X (.type "int") (rC1 X.K pInt) := by
  intro pins s σ H xs us Q I r ⟨v, ev, ρ, S, u, z, ok, du, hz, q⟩
  subst ev
  cases u with
  | int i =>
    cases hz
    obtain rfl := du.int
    exact call_int1 pins s σ H _ us Q I r (.inl ⟨i, rfl, q H _ Xt.refl ok (.int _)⟩)
  | bool i =>
    cases hz
    obtain rfl := du.bool
    exact call_int1 pins s σ H _ us Q I r (.inr ⟨i, rfl, q H _ Xt.refl ok (.int _)⟩)
  | _ => cases hz
theorem c_all (G : Gd X) : CallR X (.builtin "all") (rC1 X.K pAll) := by
  intro pins s σ H xs us Q I r ⟨v, ev, ρ, S, u, z, ok, du, hz, q⟩
  subst ev
  cases u with
  | list ds =>
    have hz := orNo_inv hz
    obtain ⟨bs, hb, rfl⟩ := Option.map_eq_some_iff.mp hz
    obtain ⟨a, vs, rfl, h1, h2⟩ := du.list
    have e := h2.bools hb
    subst e
    exact cr_all G.calm pins s σ H _ us Q I r ⟨a, bs, rfl, .of h1, q H _ Xt.refl ok (.bl _)⟩
  | _ => cases hz
theorem c_list : CallR X (.type "list") (rN1 pList) := by
  intro pins s σ H xs us Q I r ⟨v, ev, ρ, S, u, zs, ok, du, hz, q⟩
  subst ev
  have hd : items? u = some zs := by cases u <;> cases hz <;> rfl
  obtain ⟨a, vs, rfl, h1, h2⟩ := du.seq hd
  refine call_list_of pins s σ H _ us Q I r ⟨a, vs, rfl, ?_, fun l hl => q l vs hl h2⟩
  rcases h1 with h1 | h1
  · exact .inl (.of h1)
  · exact .inr h1.sq
theorem c_tuple : CallR X (.type "tuple") (rC1 X.K pTuple) := by
  intro pins s σ H xs us Q I r ⟨v, ev, ρ, S, u, z, ok, du, hz, q⟩
  subst ev
  cases u with
  | list ds =>
    cases hz
    obtain ⟨a, vs, rfl, h1, h2⟩ := du.list
    obtain ⟨its, rv, pl, hz⟩ := I.list (.of h1)
    rw [Vals.ref1 r]
    refine PySem.call_tuple_list pl.isList (fun h' kp => ?_) (by rw [List.size_toArray, ← rv.length]; exact hz)
    exact tup_data (s := { s with heap := h' }) (tk := s.toks) (I.kept (t' := s.toks) kp) ok rv (by rw [← h2.length]; exact hz) h2 q
  | tuple ds =>
    cases hz
    obtain ⟨a, vs, rfl, h1, h2⟩ := du.tup
    obtain ⟨its, rv, pl, hz⟩ := I.tuple (h1.sq (K := X.K))
    rw [Vals.ref1 r]
    exact PySem.call_tuple_same pl ⟨.ref a, H, I, rfl, q H _ Xt.refl ok (.tup h1 h2)⟩
  | _ => cases hz
theorem c_repr (G : Gd X) : CallR X (.builtin "repr") (rC1 X.K pRepr) := by
  intro pins s σ H xs us Q I r ⟨v, ev, ρ, S, u, z, ok, du, hz, q⟩
  subst ev
  obtain ⟨hc, hz⟩ := when_ok hz
  cases hz
  simp only [Bool.and_eq_true, decide_eq_true_eq] at hc
  obtain ⟨⟨⟨⟨c2, c6⟩, c3⟩, c4⟩, c5⟩ := hc
  have seq : (items? u).isSome = true → wpAny (model X.prog X.w) X.A (call (.builtin "repr") us) (EP X pins σ Q) X.xe s := fun c1 => by
    obtain ⟨ds, hd⟩ := Option.isSome_iff_exists.mp c1
    obtain ⟨a, vs, rfl, _, _⟩ := id (du.seq hd)
    rw [Vals.ref1 r]
    obtain ⟨as, rr⟩ := Dp.reads I u (.ref a) (.ref a) (du.dp c3) rfl
    refine PySem.repr_of_reads' rr c2 (fun hh => ?_) G.gs (by have := G.hu; omega) (fun _ _ e => e) (fun h' t tk hk => ⟨.str u.shown, H, I.kept hk, ⟨t, rfl⟩, q H _ Xt.refl ok (.str _)⟩) c5
    rw [hh] at c6
    cases c6
  cases u with
  | list xs => exact seq rfl
  | tuple xs => exact seq rfl
  | int i =>
    obtain rfl := du.int
    obtain ⟨u1, rfl, ru⟩ := vals1 r
    obtain ⟨t, rfl⟩ := ru
    rw [PyData.showable] at c2
    exact PySem.P.repr_of_int (of_decide_eq_true c2) ⟨.str _, H, I.tok _, ⟨_, rfl⟩, q H _ Xt.refl ok (.str _)⟩
  | bool b =>
    obtain rfl := du.bool
    obtain ⟨u1, rfl, ru⟩ := vals1 r
    cases ru
    refine PySem.P.repr_of_bool ⟨.str (PyData.bool b).shown, H, I.tok _, ⟨s.toks, ?_⟩, q H _ Xt.refl ok (.str _)⟩
    cases b <;> rfl
  | str x =>
    obtain rfl := du.str
    obtain ⟨u1, rfl, ru⟩ := vals1 r
    obtain ⟨t, rfl⟩ := ru
    exact PySem.P.repr_of_str ⟨.str _, H, I.tok _, ⟨_, rfl⟩, q H _ Xt.refl ok (.str _)⟩ c5
  | none =>
    obtain rfl := du.none
    obtain ⟨u1, rfl, ru⟩ := vals1 r
    cases ru
    exact PySem.P.repr_of_none ⟨.str (PyData.none).shown, H, I.tok _, ⟨_, rfl⟩, q H _ Xt.refl ok (.str _)⟩
  | dict kvs => simp [PyData.plain] at c3
end
end Mi
end
section
namespace Mi
open PySem PySem.Spec PyProof.Rows L2
section
variable {X : Cx} {o e e2 : Expr} {fo fa fb : Ex} {x : Str} {p pos apos cpos p2 : Pos}
theorem pairs_of {L : Addr → Prop} {H : Hp} : ∀ {vs : List V} {ds : List PyData}, Pds L H vs ds → ∃ bs : List (V × PyData), bs.map (·.1) = vs ∧ bs.map (·.2) = ds ∧ ∀ b ∈ bs, Pd L H b.1 b.2
  | _, _, .nil => ⟨[], rfl, rfl, fun _ h => by cases h⟩
  | _, _, .cons (v := v) (d := d) a t => by
    obtain ⟨bs, h1, h2, h3⟩ := pairs_of t
    refine ⟨(v, d) :: bs, by rw [List.map_cons, h1], by rw [List.map_cons, h2], fun b hb => ?_⟩
    rcases List.mem_cons.mp hb with rfl | hb
    · exact a
    · exact h3 b hb
theorem pds_pairs {L : Addr → Prop} {H : Hp} : ∀ {bs : List (V × PyData)}, (∀ b ∈ bs, Pd L H b.1 b.2) → Pds L H (bs.map (·.1)) (bs.map (·.2))
  | [], _ => .nil
  | b :: bs, h => .cons (h b (by simp)) (pds_pairs fun c hc => h c (by simp [hc]))
theorem each_rel : ∀ {bs : List (V × PyData)} {us : List Value}, Vals (bs.map (·.1)) us → PySem.W.EachIs (fun u (b : V × PyData) => RelV b.1 u) us bs
  | [], us, r => by
    have r : Vals [] us := r
    cases r
    exact .nil
  | b :: bs, us, r => by
    have r : Vals (b.1 :: bs.map (·.1)) us := r
    cases r with
    | cons a t => exact .cons a (each_rel t)
theorem rel_each : ∀ {bs : List (V × PyData)} {us : List Value}, PySem.W.EachIs (fun u (b : V × PyData) => RelV b.1 u) us bs → Vals (bs.map (·.1)) us
  | _, _, .nil => .nil
  | _, _, .cons a t => .cons a (rel_each t)
theorem each_reads {pins : List (Addr × Obj)} {s : Shared} {σ : L2.St} {H : Hp} {L : Addr → Prop} (I : L2.Inv X pins σ H s) : ∀ {bs : List (V × PyData)} {us : List Value}, (∀ b ∈ bs, Pd L H b.1 b.2) → PySem.W.EachIs (fun u (b : V × PyData) => RelV b.1 u) us bs → PySem.W.EachIs (fun u (b : V × PyData) => ∃ as, Reads s.heap u b.2 as) us bs
  | _, _, _, .nil => .nil
  | b :: bs, _, h, .cons a t => .cons (Pd.reads I b.2 b.1 _ (h b (by simp)) a) (each_reads I (fun c hc => h c (by simp [hc])) t)
theorem sorted_gathered {prog : Program} {w : World} {A : Around} {E : Value → Shared → Prop} {s : Shared} {β : Type} {bs : List β} {vs : List Value} {R : Value → β → Prop} {enc : β → PyData} {Q : PySem.Fin → Shared → Prop}
    (e : PySem.W.EachIs R vs bs) (er : PySem.W.EachIs (fun v b => ∃ as, Reads s.heap v (enc b) as) vs bs) (hal : PySem.W.AllAlike (bs.map enc)) (hk : PySem.W.Sortable (bs.map enc)) (hL : bs.length ≤ sizeLine) (hu : ∀ b, b ∈ bs → A.units + (enc b).depth < cLine)
    (h : ∀ out, out.length = bs.length → PySem.W.EachIs R out (bs.mergeSort (PySem.W.dataLe false enc)) → Q (.done (.ret .none)) { s with heap := sortedHeap (s.heap.push (seqObj "list" vs.toArray 0)) s.heap.objs.size vs (List.toArray out) }) :
    wpAny (model prog w) A (Builtin.«list.sort» ⟨[.ref s.heap.objs.size], []⟩) Q E { s with heap := s.heap.push (seqObj "list" vs.toArray 0) } := by
  have hoL : (s.heap.push (seqObj "list" vs.toArray 0)).get? s.heap.objs.size = some (seqObj "list" vs.toArray 0) := Heap.get?_push_size _ rfl
  have er' : PySem.W.EachIs (fun v b => ∃ as, Reads (PySem.W.sortingHeap (s.heap.push (seqObj "list" vs.toArray 0)) s.heap.objs.size vs) v (enc b) as) vs bs := er.mono fun _ _ ⟨as, r⟩ => ⟨as, PyProof.Rows.Reads.keeps (fun b o eb => PySem.W.sortingHeap_old (Nat.ne_of_lt (Heap.lt_size eb)) (Heap.get?_push_of_some _ eb)) r⟩
  have S := PySem.W.SortsAt.data (prog := prog) (w := w) (A := A) (s := { s with heap := PySem.W.sortingHeap (s.heap.push (seqObj "list" vs.toArray 0)) s.heap.objs.size vs }) (PySem.W.each_map (R := fun v d => ∃ as, Reads (PySem.W.sortingHeap (s.heap.push (seqObj "list" vs.toArray 0)) s.heap.objs.size vs) v d as) enc er') hal hk (PySem.W.bound_map hu)
  refine PySem.W.list_sort_vals (s := { s with heap := s.heap.push (seqObj "list" vs.toArray 0) }) hoL S (by rw [e.length]; exact hL) (h _ ?_ (PySem.W.sortVals_data false e er' hal))
  rw [PySem.W.sortVals_length false rfl]
  exact e.length
theorem kvk_keys {L : Addr → Prop} {H : Hp} : ∀ {ks : List (Key × V)} {kvs : List (PyData × PyData)}, KvK L H ks kvs → kvs.map (·.1) = ks.map fun kv => keyD kv.1
  | _, _, .nil => rfl
  | _, _, .cons _ t => congrArg (_ :: ·) (kvk_keys t)
theorem key_pd {L : Addr → Prop} {H : Hp} (k : Key) : Pd L H (kV k) (keyD k) := by
  cases k with
  | inl i => exact .int i
  | inr x => exact .str x
theorem key_rel {k : Key} {v : Value} (h : keyIs k v = true) : RelV (kV k) v := by
  rcases keyIs_shape h with ⟨i, t, rfl, rfl⟩ | ⟨x, t, rfl, rfl⟩
  · exact ⟨t, rfl⟩
  · exact ⟨t, rfl⟩
theorem each_idx {α β : Type} {R : α → β → Prop} : ∀ {xs : List α} {ys : List β}, xs.length = ys.length → (∀ (j : Nat) (x : α), xs[j]? = some x → ∃ y, ys[j]? = some y ∧ R x y) → PySem.W.EachIs R xs ys
  | [], [], _, _ => .nil
  | [], _ :: _, h, _ => by simp at h
  | _ :: _, [], h, _ => by simp at h
  | x :: xs, y :: ys, h, g => by
    obtain ⟨y', e, hr⟩ := g 0 x rfl
    cases e
    exact .cons hr (each_idx (by simpa using h) fun j z hz => g (j + 1) z hz)
theorem sorted_dict (G : Gd X) {pins : List (Addr × Obj)} {s : Shared} {σ : L2.St} {H : Hp} {us : List Value} {Q : VK} {ρ : List Addr} {S : Store} {a : Addr} {ks : List (Key × V)} {kvs : List (PyData × PyData)} (I : L2.Inv X pins σ H s) (ok : Ok ρ S H) (r : Vals [.ref a] us) (hs : sortOk (kvs.map (·.1)) = true)
    (h1 : Rd H a (.dK ks)) (h2 : KvK (Live ρ S) H ks kvs) (q : ∀ a ws, H a = none → Pds (Live ρ S) H ws (sortD (kvs.map (·.1))) → Q (.ref a) (upd H a (.lst ws))) : wpAny (model X.prog X.w) X.A (call (.builtin "sorted") us) (EP X pins σ Q) X.xe s := by
  have hks := kvk_keys h2
  rw [Vals.ref1 r]
  obtain ⟨z, lo, vs, rel, dd⟩ := dk_rd I.hok h1
  obtain ⟨ep, hat⟩ := dd.dictAt
  have hl : vs.length = ks.length := rel.length.symm
  have h16 : vs.length ≤ sizeLine := by rw [hl]; exact z
  generalize hbs : (ks.map fun kv : Key × V => ((kV kv.1, keyD kv.1) : V × PyData)) = bs
  have hb2 : bs.map (fun b => b.2) = kvs.map (·.1) := by rw [← hbs, List.map_map, hks]; rfl
  have hbl : bs.length = ks.length := by rw [← hbs, List.length_map]
  have hbp : ∀ b ∈ bs, Pd (Live ρ S) H b.1 b.2 := fun b hb => by
    rw [← hbs] at hb
    obtain ⟨kv, _, rfl⟩ := List.mem_map.mp hb
    exact key_pd kv.1
  unfold sortOk at hs
  simp only [Bool.and_eq_true, Bool.or_eq_true] at hs
  obtain ⟨⟨s1, s2⟩, s3⟩ := hs
  have hal : PySem.W.AllAlike (bs.map fun b => b.2) := by
    rw [hb2]
    intro d hd d' hd'
    exact List.all_eq_true.mp (List.all_eq_true.mp s1 d hd) d' hd'
  have hk : PySem.W.Sortable (bs.map fun b => b.2) := by
    rw [hb2]
    rcases s2 with s2 | s2
    · refine .inl fun d hd => ?_
      have := List.all_eq_true.mp s2 d hd
      cases d with
      | tuple xs =>
        cases xs with
        | nil => simp [tup1] at this
        | cons x r => exact ⟨x, r, rfl⟩
      | _ => simp [tup1] at this
    · refine .inr fun d hd => ?_
      have := List.all_eq_true.mp s2 d hd
      cases d <;> simp [notTup] at this ⊢
  refine Calls.call_function_entry PyProof.Rows.kind_sorted PyProof.Rows.plain_sorted PyProof.Rows.entry_sorted (PyProof.Rows.args_sorted1 _) ?_
  unfold Builtin.«sorted»
  refine wpAny_bind (m := checkCount "sorted" 1 1 _) (wpAny_pure ?_)
  refine wpAny_bind (PySem.W.kdu_collect (A := X.A.in1) (PySem.W.kdl_dict (knd := mixKind X.prog X.w) (kvs := vs) (ep := ep) lo) (I.ok.hd G.calm) hat h16 fun h' tk acc hkp hacc => ?_)
  have e : PySem.W.EachIs (fun u (b : V × PyData) => RelV b.1 u) acc.toList bs := each_idx (by rw [Array.length_toList, hacc.1, hl, hbl]) fun j v ev => by
    obtain ⟨k, x, e1, e2⟩ := hacc.2 j v (by rw [← Array.getElem?_toList]; exact ev)
    have e3 : (vs.map (·.1))[j]? = some k := by rw [List.getElem?_map, e1]; rfl
    rw [← rel.keys, List.getElem?_map] at e3
    obtain ⟨kv, e4, e5⟩ := Option.map_eq_some_iff.mp e3
    refine ⟨(kV kv.1, keyD kv.1), by rw [← hbs, List.getElem?_map, e4]; rfl, ?_⟩
    show RelV (kV kv.1) v
    rw [e5]
    exact key_rel e2
  have I1 : Inv X pins σ H { s with heap := h', toks := tk } := I.kept hkp
  have hal2 : acc.toList.length = bs.length := e.length
  refine wpAny_bind (wpAny_newList ?_ (by rw [hal2, hbl]; exact z))
  have hoL : (h'.push (seqObj "list" acc.toList.toArray 0)).get? h'.objs.size = some (seqObj "list" acc.toList.toArray 0) := Heap.get?_push_size _ rfl
  refine wpAny_bind (wpAny_holding (wpAny_call_entry (s := { s with heap := h'.push (seqObj "list" acc.toList.toArray 0), toks := tk }) PyProof.Rows.slot_list_sort ⟨_, hoL, rfl⟩ PyProof.Rows.entry_list_sort
    (sorted_gathered (s := { s with heap := h', toks := tk }) (enc := fun b : V × PyData => b.2) e (each_reads I1 hbp e) hal hk (by rw [hbl]; exact z) (fun b hb => ?_) fun out ho eo => ⟨_, rfl, ?_⟩) (PyProof.Rows.args_list_sort _)))
  · have := List.all_eq_true.mp s3 b.2 (by rw [← hb2]; exact List.mem_map_of_mem hb)
    have := of_decide_eq_true this
    have := G.hu
    show X.A.units + 2 + b.2.depth < cLine
    omega
  obtain ⟨e', he'⟩ := PyProof.Rows.sortedHeap_at (vs := acc.toList) (out := out.toArray) hoL
  have hlen : ((bs.mergeSort (PySem.W.dataLe false fun b => b.2)).map (·.1)).length ≤ sizeLine := by
    rw [List.length_map, List.length_mergeSort, hbl]
    exact z
  refine wpAny_pure ⟨_, rfl, .ref h'.objs.size, upd H h'.objs.size (.lst ((bs.mergeSort (PySem.W.dataLe false fun b => b.2)).map (·.1))), I1.laid (t' := tk) (fun b u eb => ?_) (Nat.le_refl _)
    (show ObjOk X.prog X.w _ _ _ (.lst _) from ⟨hlen, out, e', rel_each eo, he'⟩), rfl, q _ _ (I1.hok.fresh (Nat.le_refl _)) ?_⟩
  · have hb : b < h'.objs.size := Heap.lt_size eb
    rw [PyProof.Rows.sortedHeap_old (Nat.ne_of_lt hb) (by rw [size_push']; exact Nat.lt_succ_of_lt hb)]
    exact Heap.get?_push_of_some _ eb
  · have e : sortD (kvs.map (·.1)) = (bs.mergeSort (PySem.W.dataLe false fun b => b.2)).map (·.2) := by
      unfold sortD
      rw [← hb2]
      exact (PySem.W.sort_maps (fun b : V × PyData => b.2) fun a _ b _ => rfl).symm
    rw [e]
    exact pds_pairs fun b hb => hbp b ((List.mergeSort_perm bs _).mem_iff.mp hb)
theorem c_sorted (G : Gd X) : CallR X (.builtin "sorted") (rN1 pSorted) := by
  intro pins s σ H xs us Q I r ⟨v, ev, ρ, S, u, zs, ok, du, hz, q⟩
  subst ev
  have hz := orNo_inv hz
  obtain ⟨ds, hd, hz⟩ := Option.bind_eq_some_iff.mp hz
  by_cases hs : sortOk ds = true
  · rw [if_pos hs] at hz
    cases hz
    by_cases hdict : ∃ kvs, u = .dict kvs
    · obtain ⟨kvs, rfl⟩ := hdict
      have hd : (if keyNT kvs = true then some (kvs.map (·.1)) else none) = some ds := hd
      by_cases hkk : keyNT kvs = true
      case neg => rw [if_neg hkk] at hd; cases hd
      rw [if_pos hkk] at hd
      cases hd
      obtain ⟨a, us2, rfl, h1, h2⟩ := du.dictK hkk
      exact sorted_dict G I ok r hs h1 h2 q
    replace hd : items? u = some ds := by
      cases u with
      | dict kvs => exact absurd ⟨kvs, rfl⟩ hdict
      | list xs => exact hd
      | tuple xs => exact hd
      | _ => cases hd
    obtain ⟨a, vs, rfl, h1, h2⟩ := du.seq hd
    unfold sortOk at hs
    simp only [Bool.and_eq_true, Bool.or_eq_true] at hs
    obtain ⟨⟨s1, s2⟩, s3⟩ := hs
    obtain ⟨bs, b1, b2, b3⟩ := pairs_of h2
    have hal : PySem.W.AllAlike (bs.map fun b => b.2) := by
      rw [b2]
      intro d hd d' hd'
      exact List.all_eq_true.mp (List.all_eq_true.mp s1 d hd) d' hd'
    have hk : PySem.W.Sortable (bs.map fun b => b.2) := by
      rw [b2]
      rcases s2 with s2 | s2
      · refine .inl fun d hd => ?_
        have := List.all_eq_true.mp s2 d hd
        cases d with
        | tuple xs =>
          cases xs with
          | nil => simp [tup1] at this
          | cons x r => exact ⟨x, r, rfl⟩
        | _ => simp [tup1] at this
      · refine .inr fun d hd => ?_
        have := List.all_eq_true.mp s2 d hd
        cases d <;> simp [notTup] at this ⊢
    have hu : ∀ b, b ∈ bs → X.A.units + 2 + b.2.depth < cLine := fun b hb => by
      have := List.all_eq_true.mp s3 b.2 (by rw [← b2]; exact List.mem_map_of_mem hb)
      have := of_decide_eq_true this
      have := G.hu
      omega
    have hlen : bs.length = vs.length := by rw [← b1, List.length_map]
    have fin : ∀ (its : List Value) (I' : L2.Inv X pins σ H s), its.length = vs.length → vs.length ≤ sizeLine → ∀ out : List Value, out.length = bs.length → PySem.W.EachIs (fun u (b : V × PyData) => RelV b.1 u) out (bs.mergeSort (PySem.W.dataLe false fun b => b.2)) →
        EP X pins σ Q (.ref (s.heap.objs.size + 1)) { s with heap := PyProof.Rows.sortedAll s.heap its (List.toArray out) } := fun its I' hi hz out ho eo => by
      obtain ⟨c, hc⟩ := PyProof.Rows.sortedAll_at s.heap its (List.toArray out)
      have hf := I'.hok.fresh (Nat.le_add_right s.heap.objs.size 1)
      refine ⟨.ref (s.heap.objs.size + 1), upd H (s.heap.objs.size + 1) (.lst ((bs.mergeSort (PySem.W.dataLe false fun b => b.2)).map (·.1))), I'.laid (t' := s.toks) (fun b o e => PyProof.Rows.sortedAll_old e) (Nat.le_add_right _ _) ?_, rfl, ?_⟩
      · refine ⟨?_, out, c, rel_each eo, hc⟩
        rw [List.length_map, List.length_mergeSort, hlen]
        exact hz
      · refine q _ _ hf ?_
        have e : sortD ds = (bs.mergeSort (PySem.W.dataLe false fun b => b.2)).map (·.2) := by
          unfold sortD
          rw [← b2]
          exact (PySem.W.sort_maps (fun b : V × PyData => b.2) fun a _ b _ => rfl).symm
        rw [e]
        exact pds_pairs fun b hb => b3 b ((List.mergeSort_perm bs _).mem_iff.mp hb)
    rcases h1 with h1 | h1
    · obtain ⟨its, rv, pl, hz⟩ := I.list (.of h1)
      rw [Vals.ref1 r]
      rw [← b1] at rv
      have er := each_rel rv
      refine PySem.W.sorted_data (enc := fun b : V × PyData => b.2) pl.isList er (each_reads I b3 er) hal hk (by rw [hlen]; exact hz) hu fun out ho eo => ?_
      exact fin its I (by rw [← rv.length, b1]) hz out ho eo
    · obtain ⟨its, rv, pl, hz⟩ := I.tuple (h1.sq (K := X.K))
      rw [Vals.ref1 r]
      rw [← b1] at rv
      have er := each_rel rv
      refine sorted_tup_data (enc := fun b : V × PyData => b.2) pl er (each_reads I b3 er) hal hk (by rw [hlen]; exact hz) hu fun out ho eo => ?_
      exact fin its I (by rw [← rv.length, b1]) hz out ho eo
  · rw [if_neg hs] at hz
    cases hz
def rIsa (K : PySem.W.Frag) (T : String) : List V → Hp → VK → Prop := fun vs H Q => ∃ v, vs = [v, .ty T] ∧ rD1 K (pIsa T) v H Q
theorem c_isa {T : String} (hT : ∀ {prog : Program} {w : World} {A : Around} {E : Value → Shared → Prop} {s : Shared} {v : Value} {d : PyData} {as : List Addr} {Q : Value → Shared → Prop}, Reads s.heap v d as → (∀ (z : PyData), pIsa T d = .ok z → ∃ b, z = .bool b ∧ ∀ tk, s.toks ≤ tk → Q (.bool b) { s with toks := tk }) → (∃ z, pIsa T d = .ok z) →
    wpAny (model prog w) A (call (.builtin "isinstance") [v, .type T]) Q E s) : CallR X (.builtin "isinstance") (rIsa X.K T) := by
  intro pins s σ H xs us Q I r ⟨v, ev, ρ, S, u, z, ok, du, hz, q⟩
  subst ev
  have hz0 := hz
  obtain ⟨hp, hz⟩ := when_ok hz
  cases r with
  | cons r rr =>
    cases rr with
    | cons r2 rr =>
      cases rr
      cases r2
      obtain ⟨as, rd⟩ := Dv.readsI I du hp r
      refine hT rd (fun z' hz' => ?_) ⟨z, hz0⟩
      rw [hz0] at hz'
      cases hz'
      have hb : ∃ b, z = .bool b := by
        revert hz
        split <;> intro hz <;> cases hz <;> exact ⟨_, rfl⟩
      obtain ⟨b, rfl⟩ := hb
      exact ⟨b, rfl, fun tk htk => ⟨.bl b, H, I.tok tk, rfl, q H _ Xt.refl ok (.bl _)⟩⟩
theorem isa_int : CallR X (.builtin "isinstance") (rIsa X.K "int") := c_isa fun rd h hz => by
  obtain ⟨z, hz⟩ := hz
  obtain ⟨_, hz2⟩ := when_ok hz
  obtain ⟨b, e, hq⟩ := h z hz
  subst e
  cases hz2
  exact PySem.W.isinstance_int_data rd hq
theorem isa_bool : CallR X (.builtin "isinstance") (rIsa X.K "bool") := c_isa fun rd h hz => by
  obtain ⟨z, hz⟩ := hz
  obtain ⟨_, hz2⟩ := when_ok hz
  obtain ⟨b, e, hq⟩ := h z hz
  subst e
  cases hz2
  exact PySem.W.isinstance_bool_data rd hq
theorem isa_tuple : CallR X (.builtin "isinstance") (rIsa X.K "tuple") := c_isa fun rd h hz => by
  obtain ⟨z, hz⟩ := hz
  obtain ⟨_, hz2⟩ := when_ok hz
  obtain ⟨b, e, hq⟩ := h z hz
  subst e
  cases hz2
  exact PySem.W.isinstance_tuple_data rd hq
theorem x_isa {T : String} {y : Str} {q : Pos} (hc : CallR X (.builtin "isinstance") (rIsa X.K T)) (hv : bootBuiltins y = some (.type T)) (hy : Gl X y) (hmy : X.mg y = none) (hg : Gl X "isinstance") (hm : X.mg "isinstance" = none) (ha : PE X e (TX X.K fa)) (hyn : y ≠ "__name__" := by decide) (hyd : (y == ("__debug__" : Str)) = false := by decide)
    (he : starEach [e, .Name y q] X.env = (false, eval e X.env) :: starEach [.Name y q] X.env := by rfl) (he2 : starEach [.Name y q] X.env = (false, eval (.Name y q) X.env) :: starEach [] X.env := by rfl) (hpl : (backTo pos (starEach [.Name y q] X.env)).any (·.1) = false := by rfl) :
    PE X (.Call (.Name "isinstance" p) [e, .Name y q] [] pos) (TX X.K (mO1 (pIsa T) fa)) :=
  PE.up (pe_callB hc hg hm PyProof.Rows.boot_isinstance (pa_cons ha (pa_cons (pe_bltn hy hmy hv (v := .ty T) rfl hyn hyd) pa_nil he2) he) (by decide) (by decide) he hpl) fun σ H Q h => by
    obtain ⟨ρ, env, S, eo, ok, q⟩ := (tO1 h : TX X.K fa σ H fun x H1 => rD1 X.K (pIsa T) x H1 Q)
    exact ⟨ρ, env, S, eo, ok, q.mono fun p ρ1 H1 e1 o1 q1 v dv => ⟨v, rfl, q1 v dv⟩⟩
theorem c_len : CallR X (.builtin "len") (rLn X.K) := by
  intro pins s σ H xs us Q I r ⟨v, ev, ρ, S, u, z, ok, du, hz, q⟩
  subst ev
  by_cases hd : ∃ kvs, u = .dict kvs
  · obtain ⟨kvs, rfl⟩ := hd
    cases hz
    cases du with
    | dv du =>
      by_cases hkk : keyNT kvs = true
      case neg =>
        obtain ⟨a, o0, xs, rfl, h1, h2, h3, h4, h5, h6⟩ := du.dictT (by simpa using hkk)
        obtain ⟨us3, _, hl3, hD⟩ := dtv_of I.hok h1 h2 h4
        rw [Vals.ref1 r]
        have hl4 : (zipV xs us3).length = kvs.length := by
          rw [List.length_map, List.length_zip, hl3, ← h2.length]
          omega
        refine call_len_dictH h5 hD (by rw [hl4, ← h2.length]; rw [sizeLine_eq] at h6; omega) ?_
        rw [hl4]
        exact ⟨.int kvs.length, H, I.tok _, ⟨_, rfl⟩, q _ (.int _)⟩
      obtain ⟨a, us2, rfl, h1, h2⟩ := du.dictK hkk
      rw [Vals.ref1 r]
      refine d_len I h1 fun tk s' I' => ⟨.int us2.length, H, I', ⟨_, rfl⟩, ?_⟩
      have : ∀ {us : List (Key × V)} {kvs : List (PyData × PyData)}, KvK (Live ρ S) H us kvs → us.length = kvs.length := by
        intro us kvs h
        induction h with
        | nil => rfl
        | cons _ _ ih => exact congrArg (· + 1) ih
      rw [this h2]
      exact q _ (.int _)
  refine call_len pins s σ H _ us Q I r ?_
  cases du with
  | scr h =>
    rename_i a ns
    cases hz
    refine ⟨.ref a, ns.length, rfl, .inl ⟨_, h, by simp⟩, q _ ?_⟩
    rw [List.length_map]
    exact .int _
  | dv du =>
    cases u with
    | list ds =>
      cases hz
      obtain ⟨a, vs, rfl, h1, h2⟩ := du.list
      exact ⟨.ref a, ds.length, rfl, .inl ⟨vs, .of h1, h2.length.symm⟩, q _ (.int _)⟩
    | tuple ds =>
      cases hz
      obtain ⟨a, vs, rfl, h1, h2⟩ := du.tup
      exact ⟨.ref a, ds.length, rfl, .inr ⟨vs, h1.sq, h2.length.symm⟩, q _ (.int _)⟩
    | str y =>
      obtain ⟨hc, hz⟩ := when_ok hz
      have hc : y.length ≤ sizeLine := of_decide_eq_true hc
      cases hz
      obtain rfl := du.str
      exact ⟨.str y, y.length, rfl, ⟨hc, rfl⟩, q _ (.int _)⟩
    | dict kvs => exact absurd ⟨kvs, rfl⟩ hd
    | _ => cases hz
theorem x_len (hg : Gl X "len") (hm : X.mg "len" = none) (ha : PE X e (TX X.K fa)) (he : starEach [e] X.env = (false, eval e X.env) :: starEach [] X.env := by rfl) (hpl : (backTo pos (starEach [] X.env)).any (·.1) = false := by rfl) :
    PE X (.Call (.Name "len" p) [e] [] pos) (TX X.K (mLen fa)) := PE.up (pe_callB c_len hg hm (by decide +kernel) (a_cons ha a_nil he) (by decide) (by decide) he hpl) fun σ H Q ⟨ρ, env, S, eo, ok, q⟩ => by
  refine ta_one ⟨ρ, env, S, eo, ok, (Aft.bd q).mono fun p ρ1 H1 e1 o1 q1 v dv => ⟨v, rfl, ?_⟩⟩
  obtain ⟨u, hu, q3⟩ := Aft.bx q1
  obtain ⟨z, hz, q5⟩ := Aft.bx q3
  exact ⟨ρ1, p.2, u, z, o1, o1.dr dv hu, hz, fun w r' => (Aft.here q5 rfl o1) w r'⟩
theorem rgV_pds {L : Addr → Prop} {H : Hp} (a b : Int) : Pds L H (rgV a b) (rgD a b) := by
  unfold rgV rgD
  generalize List.range (b - a).toNat = l
  induction l with
  | nil => exact .nil
  | cons i l ih => exact .cons (.int _) ih
theorem rg_ok {a b : Int} (h : rgOk a b = true) : RgOk a b := by
  unfold rgOk at h
  have h := of_decide_eq_true h
  obtain ⟨h1, h2, h3, h4, h5⟩ := h
  exact ⟨h1, by omega, h3, by omega, h5⟩
theorem n_lrg1 (G : Gd X) (hgl : Gl X "list") (hml : X.mg "list" = none) (hg : Gl X "range") (hm : X.mg "range" = none) (ha : PE X e (TX X.K fa)) (na : starEach [e] X.env = (false, eval e X.env) :: starEach [] X.env := by rfl)
    (nb : starEach [.Call (.Name "range" p2) [e] [] apos] X.env = (false, eval (.Call (.Name "range" p2) [e] [] apos) X.env) :: starEach [] X.env := by rfl) : PE X (.Call (.Name "list" p) [.Call (.Name "range" p2) [e] [] apos] [] pos) (TN X.K (mO1 (pRgL (.int 0)) fa)) :=
  PE.up (pe_listRg G.calm hgl hml (prg_1 hg hm ha na) nb) fun σ H Q ⟨ρ, env, S, eo, ok, q⟩ => by
    refine ⟨ρ, env, S, eo, ok, (Aft.bd q).mono fun p ρ1 H1 e1 o1 q1 v dv => ?_⟩
    obtain ⟨u, hu, q3⟩ := Aft.bx q1
    obtain ⟨z, hz, q5⟩ := Aft.bx q3
    cases u with
    | int n =>
      obtain ⟨hc, hz⟩ := when_ok hz
      cases hz
      obtain ⟨xs, hx, q6⟩ := Aft.here q5 rfl o1
      cases hx
      exact ⟨n, (o1.dv dv hu).int, rg_ok hc, fun a ha => q6 a _ ha (rgV_pds 0 n)⟩
    | _ => cases hz
end
end Mi
end
section
namespace Mi
open PySem PySem.Spec PyProof.Rows L2
section
variable {X : Cx} {o e e2 : Expr} {fo fa fb : Ex} {x : Str} {p pos apos cpos p2 : Pos}
theorem lst_data {Q : VK} {H : Hp} {ρ : List Addr} {S : Store} {p : Addr} {ys : List V} {ds : List PyData} (ok : Ok ρ S H) (hp : H p = none) (r : Pds (Live ρ S) H ys ds)
    (q : ∀ H' w, Xt ρ S H ρ S H' → Ok ρ S H' → Pd (Live ρ S) H' w (.list ds) → Q w H') : Q (.ref p) (upd H p (.lst ys)) :=
  q _ _ (Xt.new hp) (ok.new hp) (.lst upd_same (Live.ne ok hp) (Pds.mono (Gr.new hp) _ _ r))
theorem sIx_eq (n d : Nat) (v : Option Int) : HT.sIx n d v = Mi.sIx n d v := by
  cases v with
  | none => rfl
  | some v =>
    show (if v < 0 then (v + (n : Int)).toNat else min v.toNat n) = (if v < 0 then max (v + (n : Int)) 0 else min v (n : Int)).toNat
    split <;> omega
theorem cut_eq (xs : List V) (lo hi : Option Int) : cutV xs lo hi = Mi.cut xs lo hi := by
  unfold cutV Mi.cut
  rw [sIx_eq, sIx_eq]
theorem Pds.cut {L : Addr → Prop} {H : Hp} {vs : List V} {ds : List PyData} (r : Pds L H vs ds) (lo hi : Option Int) : Pds L H (Mi.cut vs lo hi) (Mi.cut ds lo hi) := by
  unfold Mi.cut
  rw [r.length]
  exact (r.drop _).take _
def rSl (K : PySem.W.Frag) : V → Option Int → Option Int → Hp → VK → Prop := fun x lo hi H Q => ∃ (ρ : List Addr) (S : Store) (u z : PyData), Ok ρ S H ∧ Dv (Live ρ S) H x u ∧ pCut u lo hi = .ok z ∧ ∀ H' w, Xt ρ S H ρ S H' → Ok ρ S H' → Pd (Live ρ S) H' w z → Q w H'
theorem sl_any : SlR X (rSl X.K) := by
  intro pins s σ H x v vl vu lo hi sl Q I rx hs pl pu ⟨ρ, S, u, z, ok, du, hz, q⟩
  cases u with
  | list ds =>
    cases hz
    obtain ⟨a, vs, rfl, h1, h2⟩ := du.list
    refine sl_list pins s σ H _ v vl vu lo hi sl Q I rx hs pl pu ⟨a, vs, rfl, .of h1, fun p hp => ?_⟩
    rw [cut_eq]
    exact lst_data ok hp (h2.cut lo hi) q
  | tuple ds =>
    cases hz
    obtain ⟨a, vs, rfl, h1, h2⟩ := du.tup
    cases rx
    obtain ⟨its, rv, pt, hz⟩ := I.tuple (h1.sq (K := X.K))
    have hlen := rv.length
    refine ⟨"tuple", _, PyProof.Rows.slot_tuple_getitem.lookup, Heap.IsTuple.typeIs pt, ?_⟩
    by_cases hw : HT.sIx its.toArray.size 0 lo = 0 ∧ HT.sIx its.toArray.size its.toArray.size hi = its.toArray.size
    · refine L2.getItem_tuple_whole pt hs pl pu hw ⟨.ref a, H, I, rfl, q H _ Xt.refl ok ?_⟩
      have e : Mi.cut ds lo hi = ds := by
        unfold Mi.cut
        have hl : ds.length = its.toArray.size := by rw [← h2.length, hlen]; simp
        rw [hl, ← sIx_eq, ← sIx_eq, hw.1, hw.2]
        simp [← hl]
      rw [e]
      exact .tup h1 h2
    · refine HT.getItem_tuple_cut pt hs pl pu hw ?_ (by rw [List.size_toArray, ← hlen]; exact hz)
      have rc : Vals (Mi.cut vs lo hi) ((its.toArray.toList.drop (HT.sIx its.toArray.size 0 lo)).take (HT.sIx its.toArray.size its.toArray.size hi - HT.sIx its.toArray.size 0 lo)) := by
        rw [← cut_eq]
        unfold cutV
        rw [List.size_toArray, ← hlen]
        exact (rv.drop _).take _
      refine tup_data (tk := s.toks) I ok rc ?_ (h2.cut lo hi) q
      have h3 : (Mi.cut ds lo hi).length ≤ ds.length := by
        unfold Mi.cut
        rw [List.length_take, List.length_drop]
        omega
      rw [← h2.length] at h3
      exact Nat.le_trans h3 hz
  | _ => cases hz
def TPo (K : PySem.W.Frag) (f : Po) : TO := fun σ H Q => ∃ ρ env S, EnvOk K ρ S H env σ ∧ Ok ρ S H ∧ Aft ρ S H (f env S) (fun p => p.2) fun p _ H' => Q p.1 H'
theorem PO.up {lo : Option Expr} {t t' : TO} (h : PO X lo t) (g : ∀ σ H Q, t' σ H Q → t σ H Q) : PO X lo t' := ⟨fun pins s σ H Q I q => h.run pins s σ H Q I (g σ H Q q)⟩
theorem o_no : PO X none (TPo X.K oNo) := PO.up po_none fun σ H Q ⟨ρ, env, S, eo, ok, q⟩ => Aft.here q rfl ok
theorem o_e (h : PE X e (TX X.K fa)) : PO X (some e) (TPo X.K (oE fa)) := PO.up (po_some h) fun σ H Q ⟨ρ, env, S, eo, ok, q⟩ => by
  refine ⟨ρ, env, S, eo, ok, (Aft.bd q).mono fun p ρ1 H1 e1 o1 q1 v dv => ?_⟩
  obtain ⟨d, S1⟩ := p
  cases d with
  | p d =>
    cases d with
    | int i =>
      cases dv
      exact ⟨i, rfl, Aft.here q1 rfl o1⟩
    | _ => exact q1.elim
  | _ => exact q1.elim
theorem x_cut {lo hi : Option Expr} {fl fh : Po} (he : PE X e (TX X.K fa)) (hl : PO X lo (TPo X.K fl)) (hh : PO X hi (TPo X.K fh)) : PE X (.Subscript e (.Slice lo hi none p2) pos) (TX X.K (mCut fa fl fh)) := PE.up (pe_slice sl_any he hl hh) fun σ H Q ⟨ρ, env, S, eo, ok, q⟩ => by
  refine ⟨ρ, env, S, eo, ok, (Aft.bd q).mono fun p1 ρ1 H1 e1 o1 q1 v dv => ?_⟩
  refine ⟨ρ1, env, p1.2, eo.mono e1, o1, (Aft.bd q1).mono fun p2 ρ2 H2 e2 o2 q2 => ?_⟩
  refine ⟨ρ2, env, p2.2, (eo.mono e1).mono e2, o2, (Aft.bd q2).mono fun p3 ρ3 H3 e3 o3 q3 => ?_⟩
  obtain ⟨u, hu, q4⟩ := Aft.bx q3
  obtain ⟨z, hz, q5⟩ := Aft.bx q4
  exact ⟨ρ3, p3.2, u, z, o3, o3.dv ((dv.mono e2).mono e3) hu, hz, fun H' w' e' o' r' => (Aft.at q5 e' o') w' r'⟩
def SeqAt (b : Bool) (H : Hp) (a : Addr) (vs : List V) : Prop := match b with
  | true => TupAt H a vs
  | false => H a = some (.lst vs)
theorem dv_seqAt {L : Addr → Prop} {H : Hp} {v : V} {u : PyData} {ds : List PyData} (d : Dv L H v u) (h : items? u = some ds) : ∃ a vs, v = .ref a ∧ SeqAt (isTup u) H a vs ∧ Pds L H vs ds := by
  cases u with
  | list xs =>
    cases h
    obtain ⟨a, vs, h1, h2, h3⟩ := d.list
    exact ⟨a, vs, h1, h2, h3⟩
  | tuple xs =>
    cases h
    obtain ⟨a, vs, h1, h2, h3⟩ := d.tup
    exact ⟨a, vs, h1, h2, h3⟩
  | _ => cases h
theorem Pds.strs {L : Addr → Prop} {H : Hp} : ∀ {ds : List PyData} {ns : List Str} {vs : List V}, Pds L H vs ds → strs? ds = some ns → vs = ns.map V.str
  | [], ns, _, .nil, h => by
    simp [strs?] at h
    subst h
    rfl
  | .str i :: ds, ns, _, .cons (.str _) t, h => by
    simp only [strs?, Option.map_eq_some_iff] at h
    obtain ⟨ms, h1, h2⟩ := h
    subst h2
    rw [Pds.strs t h1]
    rfl
  | .none :: ds, ns, _, _, h => by simp [strs?] at h
  | .bool _ :: ds, ns, _, _, h => by simp [strs?] at h
  | .int _ :: ds, ns, _, _, h => by simp [strs?] at h
  | .list _ :: ds, ns, _, _, h => by simp [strs?] at h
  | .tuple _ :: ds, ns, _, _, h => by simp [strs?] at h
  | .dict _ :: ds, ns, _, _, h => by simp [strs?] at h
theorem vals_strs : ∀ {ns : List Str} {us : List Value}, Vals (ns.map V.str) us → StrsAre us ns
  | [], _, r => by
    have r : Vals [] _ := r
    cases r
    exact .nil
  | n :: ns, _, r => by
    have r : Vals (V.str n :: ns.map V.str) _ := r
    cases r with
    | cons a t =>
      obtain ⟨tk, rfl⟩ := a
      exact .cons n tk (vals_strs t)
def IxEnd (b : Bool) (a : Addr) (Q : VK) (ys : List V) (H : Hp) : Prop := (∃ (ns : List Int) (k : Int), ys = [.int k] ∧ SeqAt b H a (ns.map V.int) ∧ k ∈ ns ∧ Q (.int (ns.idxOf k : Nat)) H) ∨ (∃ (ns : List Str) (k : Str), ys = [.str k] ∧ SeqAt b H a (ns.map V.str) ∧ k ∈ ns ∧ Q (.int (ns.idxOf k : Nat)) H)
theorem x_index (ho : PE X o (TX X.K fo)) (ha : PE X e (TX X.K fa)) (hbase : attributeBase o "index" X.env (eval o X.env) = eval o X.env := by rfl)
    (hfew : ((backTo cpos (starEach [e] X.env)).all (fun x => !x.1) && (backToKw cpos (keywordEach [] X.env)).all (fun x => x.1.isSome)
      && decide ([e].length + ([] : List Keyword).length + (if ([] : List Keyword).isEmpty then 0 else 1) < 30)) = true := by rfl)
    (hline : (apos.endLine == cpos.line) = true := by rfl) (hs : starEach [e] X.env = (false, eval e X.env) :: starEach [] X.env := by rfl) (hplain : (backTo cpos (starEach [] X.env)).any (·.1) = false := by rfl) :
    PE X (.Call (.Attribute o "index" apos) [e] [] cpos) (TX X.K (mIndex fo fa)) := by
  refine ⟨fun pins s σ H Q I ⟨ρ, env, S, eo, ok, q⟩ => ?_⟩
  have h : TX X.K fo σ H (fun v H1 => ∃ b a vs, v = .ref a ∧ SeqAt b H1 a vs ∧ TAs X.K (aCons fa aNil) σ H1 (IxEnd b a Q)) := by
    refine ⟨ρ, env, S, eo, ok, (Aft.bd q).mono fun p1 ρ1 H1 e1 o1 q1 v dv => ?_⟩
    obtain ⟨u0, hu0, q2⟩ := Aft.bx q1
    obtain ⟨hi, q3⟩ := Aft.when q2
    obtain ⟨ds0, hd0⟩ := Option.isSome_iff_exists.mp hi
    obtain ⟨a, vs, rfl, h1, h2⟩ := dv_seqAt (o1.dv dv hu0) hd0
    refine ⟨isTup u0, a, vs, rfl, h1, ta_one ⟨ρ1, env, p1.2, eo.mono e1, o1, (Aft.bd q3).mono fun p2 ρ2 H2 e2 o2 q4 w dw => ?_⟩⟩
    obtain ⟨u, hu, q5⟩ := Aft.bx q4
    obtain ⟨t, ht, q6⟩ := Aft.bx q5
    obtain ⟨hk, q7⟩ := Aft.when q6
    have hk : isTup u0 = isTup u := of_decide_eq_true hk
    obtain ⟨z, hz, q8⟩ := Aft.bx q7
    rw [hk]
    cases t with
    | int k =>
      obtain ⟨ns, hn, hz⟩ := bx_inv hz
      obtain ⟨ds, hd, hn⟩ := Option.bind_eq_some_iff.mp (orNo_inv hn)
      obtain ⟨hm, hz⟩ := when_ok hz
      cases hz
      obtain ⟨a', vs', e', h3, h4⟩ := dv_seqAt (o2.dv (dv.mono e2) hu) hd
      cases e'
      have e := h4.ints hn
      subst e
      exact .inl ⟨ns, k, by rw [(o2.dv dw ht).int], h3, of_decide_eq_true hm, (Aft.here q8 rfl o2) _ (.int _)⟩
    | str k =>
      obtain ⟨ns, hn, hz⟩ := bx_inv hz
      obtain ⟨ds, hd, hn⟩ := Option.bind_eq_some_iff.mp (orNo_inv hn)
      obtain ⟨hm, hz⟩ := when_ok hz
      cases hz
      obtain ⟨a', vs', e', h3, h4⟩ := dv_seqAt (o2.dv (dv.mono e2) hu) hd
      cases e'
      have e := h4.strs hn
      subst e
      exact .inr ⟨ns, k, by rw [(o2.dv dw ht).str], h3, of_decide_eq_true hm, (Aft.here q8 rfl o2) _ (.int _)⟩
    | _ => cases hz
  have arg := a_cons ha a_nil hs
  refine wpAny_Call_method_late hbase hfew hline rfl (thn (ho.run pins s σ H _ I h) fun v s1 ⟨x, H1, I1, r1, b, a, vs, ex, hsq, hA⟩ => ?_)
  subst ex
  cases r1
  have hA := arg.run cpos pins s1 σ H1 _ I1 hA
  cases b with
  | false =>
    obtain ⟨its, _, pl, _⟩ := I1.list (.of hsq)
    refine ⟨"list", _, PySem.F.plainAttrs_list, PySem.F.slot_list_index, PySem.F.type_list_index, pl.isList.typeIs, fun a' e => ?_, ?_⟩
    · cases e
      obtain ⟨ob, n, h1, h2, h3, _⟩ := pl
      exact ⟨ob, h1, h3⟩
    · rw [hs] at hA ⊢
      refine Calls.callWith_builtin (by show (false || (backTo cpos (starEach [] X.env)).any (·.1)) = false; rw [hplain] <;> rfl) (Calls.evalArgs_plain ?_)
      refine thn hA fun us s2 ⟨ys, H2, I2, r2, q2⟩ => ?_
      rcases q2 with ⟨ns, k, rfl, h3, hk, q⟩ | ⟨ns, k, rfl, h3, hk, q⟩
      · obtain ⟨its2, rv, pl2, hz⟩ := I2.list (.of h3)
        cases r2 with
        | cons r rr =>
          cases rr
          obtain ⟨t, rfl⟩ := r
          exact PySem.SeqAt.list_index_ints pl2.isList (Vals.ints rv) (by simpa using hz) hk ⟨.int _, H2, I2.tok _, ⟨_, rfl⟩, q⟩
      · obtain ⟨its2, rv, pl2, hz⟩ := I2.list (.of h3)
        cases r2 with
        | cons r rr =>
          cases rr
          obtain ⟨t, rfl⟩ := r
          exact PySem.SeqAt.list_index_strs pl2.isList (vals_strs rv) (by simpa using hz) hk ⟨.int _, H2, I2.tok _, ⟨_, rfl⟩, q⟩
  | true =>
    obtain ⟨ob, ho, hdct, hcls⟩ := id hsq
    obtain ⟨its, _, pl, _⟩ := I1.tuple (TupAt.sq (K := X.K) hsq)
    refine ⟨"tuple", _, PySem.F.plainAttrs_tuple, PySem.F.slot_tuple_index, PySem.F.type_tuple_index, Heap.IsTuple.typeIs pl, fun a' e => ?_, ?_⟩
    · cases e
      exact ⟨ob, (I1.hok a _ ho).1, hdct⟩
    · rw [hs] at hA ⊢
      refine Calls.callWith_builtin (by show (false || (backTo cpos (starEach [] X.env)).any (·.1)) = false; rw [hplain] <;> rfl) (Calls.evalArgs_plain ?_)
      refine thn hA fun us s2 ⟨ys, H2, I2, r2, q2⟩ => ?_
      rcases q2 with ⟨ns, k, rfl, h3, hk, q⟩ | ⟨ns, k, rfl, h3, hk, q⟩
      · obtain ⟨its2, rv, pl2, hz⟩ := I2.tuple (TupAt.sq (K := X.K) h3)
        cases r2 with
        | cons r rr =>
          cases rr
          obtain ⟨t, rfl⟩ := r
          exact PySem.SeqAt.tuple_index_ints pl2 (Vals.ints rv) hk ⟨.int _, H2, I2.tok _, ⟨_, rfl⟩, q⟩
      · obtain ⟨its2, rv, pl2, hz⟩ := I2.tuple (TupAt.sq (K := X.K) h3)
        cases r2 with
        | cons r rr =>
          cases rr
          obtain ⟨t, rfl⟩ := r
          exact PySem.SeqAt.tuple_index_strs pl2 (vals_strs rv) hk ⟨.int _, H2, I2.tok _, ⟨_, rfl⟩, q⟩
end
end Mi
end
section
namespace Mi
open PySem PySem.Spec PyProof.Rows L2
abbrev MARGIN : Nat := 125
structure Rm (k : Nat) (A : Around) : Prop where
  room : Room (k + MARGIN) A
  gs : A.guards = some []
theorem Rm.mono {j k : Nat} {A : Around} (r : Rm k A) (h : j ≤ k) : Rm j A := ⟨r.room.mono (by omega), r.gs⟩
theorem Rm.deeper {k : Nat} {A : Around} (r : Rm (k + 1) A) (env : PySem.Env) : Rm k (A.deeper env) := ⟨Room.deeper (k := k + MARGIN) (by have := r.room; rwa [show k + 1 + MARGIN = k + MARGIN + 1 by omega] at this) env, r.gs⟩
structure FnG (P : Program) (w : World) (K : PySem.W.Frag) (mg : Str → Option Value) (base : Heap) (k : Nat) (f : Addr) (fd : FuncData) (np : Nat) (ps : List Str) (fn : Fn) : Prop where
  np : np = ps.length
  run : ∀ (A : Around) (outer : List PySem.Env) (s : Shared) (H : Hp) (args : Args) (us : List Value) (vs : List V) (Q : VK) (ρ : List Addr) (S : Store) (ds : List D), Rm k A → Env0 P w K mg base A outer s H → BindsTo s fd args (ps.zip us) → Vals vs us → DsOk K ρ S H vs ds → Ok ρ S H → ds.length = ps.length →
    Aft ρ S H (fn ds S) (fun p => p.2) (fun p ρ' H' => ∀ v, DOk K ρ' p.2 H' v p.1 → Q v H') → codeAny (model P w) A (.call (.ref f) args) (CR CX0 outer P w H s Q E0) s
theorem FnG.mono {P : Program} {w : World} {K : PySem.W.Frag} {mg : Str → Option Value} {base : Heap} {j k : Nat} {f : Addr} {fd : FuncData} {np : Nat} {ps : List Str} {fn : Fn} (F : FnG P w K mg base j f fd np ps fn) (h : j ≤ k) : FnG P w K mg base k f fd np ps fn :=
  ⟨F.np, fun A outer s H args us vs Q ρ S ds hr => F.run A outer s H args us vs Q ρ S ds (hr.mono h)⟩
theorem DsOk.length {K : PySem.W.Frag} {ρ : List Addr} {S : Store} {H : Hp} : ∀ {vs : List V} {ds : List D}, DsOk K ρ S H vs ds → vs.length = ds.length
  | _, _, .nil => rfl
  | _, _, .cons _ t => congrArg (· + 1) (DsOk.length t)
theorem DsOk.at {K : PySem.W.Frag} {ρ : List Addr} {S : Store} {H : Hp} : ∀ {vs : List V} {ds : List D}, DsOk K ρ S H vs ds → ∀ {i : Nat} {d : D}, ds[i]? = some d → ∃ v, vs[i]? = some v ∧ DOk K ρ S H v d
  | _, _, .nil, i, d, h => by simp at h
  | _, _, .cons a t, 0, d, h => by
    simp at h
    subst h
    exact ⟨_, rfl, a⟩
  | _, _, .cons a t, i + 1, d, h => by
    obtain ⟨v, h1, h2⟩ := DsOk.at t (i := i) (by simpa using h)
    exact ⟨v, by simpa using h1, h2⟩
theorem EnvOk.start {K : PySem.W.Frag} {ρ : List Addr} {S : Store} {H : Hp} {vs : List V} {ds : List D} (N : List Str) (h : DsOk K ρ S H vs ds) (slots : Nat) (hs : slots = N.length) : EnvOk K ρ S H (Mi.start slots ds) (L2.start N vs) := by
  subst hs
  unfold Mi.start L2.start
  refine ⟨by simp [h.length], fun i d q => ?_⟩
  by_cases hi : i < ds.length
  · rw [List.getElem?_append_left (by simpa using hi), List.getElem?_map] at q
    cases e : ds[i]? with
    | none => rw [e] at q; cases q
    | some a =>
      rw [e] at q
      cases q
      obtain ⟨v, h1, h2⟩ := h.at e
      exact ⟨v, by rw [List.getElem?_append_left (by rw [List.length_map, h.length]; exact hi), List.getElem?_map, h1]; rfl, h2⟩
  · rw [List.getElem?_append_right (by simpa using hi), List.getElem?_replicate] at q
    split at q <;> cases q
section
variable {X : Cx} {pos p : Pos} {e : Expr} {es : List Expr} {fs : As} {x : Str} {f : Addr} {fd : FuncData} {np k : Nat} {ps : List Str} {fn : Fn} {kws : List Keyword}
theorem run_fnG {pins : List (Addr × Obj)} {s : Shared} {σ : L2.St} {H : Hp} {us us0 : List Value} {kw : List (Str × Value)} {vs : List V} {Q : VK} {ρ : List Addr} {S : Store} {ds : List D} (F : FnG X.prog X.w X.K X.mg X.base k f fd np ps fn) (hr : Rm k X.A) (hb : BindsTo s fd ⟨us0, kw⟩ (ps.zip us))
    (I : L2.Inv X pins σ H s) (r : Vals vs us) (dd : DsOk X.K ρ S H vs ds) (ok : Ok ρ S H) (hl : ds.length = ps.length) (q : Aft ρ S H (fn ds S) (fun p => p.2) (fun p ρ' H' => ∀ v, DOk X.K ρ' p.2 H' v p.1 → Q v H')) : wpAny (model X.prog X.w) X.A (call (.ref f) us0 kw) (EP X pins σ Q) X.xe s := by
  refine wpAny_call (codeAny_mono (F.run X.A X.stack s H ⟨us0, kw⟩ us vs Q ρ S ds hr I.env0 hb r dd ok hl q) fun rr s' hq => ?_)
  cases rr with
  | error e => exact False.elim hq
  | ok fl =>
    cases fl with
    | ret u => exact I.after hq
    | next => exact hq.elim
    | brk => exact hq.elim
    | cont => exact hq.elim
def rFn (K : PySem.W.Frag) (fn : Fn) (vs : List V) (H : Hp) (Q : VK) : Prop := ∃ (ρ : List Addr) (S : Store) (ds : List D), DsOk K ρ S H vs ds ∧ Ok ρ S H ∧ Aft ρ S H (fn ds S) (fun p => p.2) (fun p ρ' H' => ∀ v, DOk K ρ' p.2 H' v p.1 → Q v H')
theorem tCallFn {K : PySem.W.Frag} {σ : L2.St} {H : Hp} {Q : VK} (h : TX K (mCall fn fs) σ H Q) : TAs K fs σ H fun vs H1 => rFn K fn vs H1 Q := by
  obtain ⟨ρ, env, S, eo, ok, q⟩ := h
  exact ⟨ρ, env, S, eo, ok, (Aft.bd q).mono fun p ρ1 H1 e1 o1 q1 vs ds => ⟨ρ1, p.2, p.1, ds, o1, q1⟩⟩
def Ar (n : Nat) (fn : Fn) : Prop := ∀ ds S, ds.length ≠ n → fn ds S = .no
theorem Ar.of {K : PySem.W.Frag} {n : Nat} (h : Ar n fn) {vs : List V} {H : Hp} {Q : VK} {ρ : List Addr} {S : Store} {ds : List D} {k : D × Store → List Addr → Hp → Prop} (q : Aft ρ S H (fn ds S) (fun p => p.2) k) : ds.length = n := by
  by_cases e : ds.length = n
  · exact e
  · rw [h ds S e] at q
    exact q.elim
theorem x_call (F : FnG X.prog X.w X.K X.mg X.base k f fd np ps fn) (har : Ar np fn) (hr : Rm k X.A) (hg : Gl X x) (hm : X.mg x = some (.ref f)) (hk : PySem.W.keepIn X.K (.ref f) = true) (hb : Binds X.K fd ps []) (ha : PA X (e :: es) (TAs X.K fs)) (hdb : (x == ("__debug__" : Str)) = false := by decide)
    (he : starEach (e :: es) X.env = (false, eval e X.env) :: starEach es X.env := by rfl) (hpl : (backTo pos (starEach es X.env)).any (·.1) = false := by rfl) : PE X (.Call (.Name x p) (e :: es) [] pos) (TX X.K (mCall fn fs)) := by
  refine ⟨fun pins s σ H Q I h => wpAny_Call_Name_kw (ld_glob I hg hm ?_ hdb)⟩
  refine PySem.W.callWith_K (h₀ := X.base) I.ok.mod.kin hk (thn (ha.run pos pins s σ H _ I (tCallFn h)) fun us s1 ⟨vs, H1, I1, r, ρ, S, ds, dd, ok, q⟩ => ⟨I1.kIn, ?_⟩) he hpl
  have hl : ds.length = ps.length := by rw [← F.np]; exact har.of (vs := vs) (Q := Q) (K := X.K) q
  have hl2 : (us ++ []).length = ps.length := by rw [List.append_nil, ← r.length, dd.length, hl]
  have hb' := hb s1 us I1.kIn hl2
  rw [List.append_nil] at hb'
  exact run_fnG F hr hb' I1 r dd ok hl q
structure KwAll (fd : FuncData) (ps : List Str) : Prop where
  to : ∀ (s : Shared) (ws : List Value), ws.length = ps.length → BindsTo s fd ⟨[], ps.zip ws⟩ (ps.zip ws)
end
section
variable {K : PySem.W.Frag} {ρ ρ2 : List Addr} {S S2 : Store} {H : Hp}
theorem Ok.pick (ok : Ok ρ S H) (hl : ρ2.length = S2.length) (nd : ρ2.Nodup) (h : ∀ (j : Nat) (a : Addr) (c : Cell), ρ2[j]? = some a → S2[j]? = some c → ∃ i : Nat, ρ[i]? = some a ∧ S[i]? = some c) : Ok ρ2 S2 H ∧ ∀ a, Live ρ2 S2 a → Live ρ S a := by
  have g : ∀ a, Live ρ2 S2 a → Live ρ S a := fun a ⟨j, c, h1, h2, h3⟩ => by
    obtain ⟨i, q1, q2⟩ := h j a c h1 h2
    exact ⟨i, c, q1, q2, h3⟩
  refine ⟨⟨hl, nd, fun j a c h1 h2 => ?_⟩, g⟩
  obtain ⟨i, q1, q2⟩ := h j a c h1 h2
  exact (ok.cell i a c q1 q2).less g
def FinOk (K : PySem.W.Frag) (fi : Nat → D → Store → R (D × Store)) : Prop := ∀ (ρ ρ1 : List Addr) (S S1 : Store) (H H1 : Hp) (d : D) (v : V) (k : D × Store → List Addr → Hp → Prop), Ok ρ S H → Xt ρ S H ρ1 S1 H1 → Ok ρ1 S1 H1 → DOk K ρ1 S1 H1 v d → Aft ρ S H (fi S.length d S1) (fun p => p.2) k →
  ∃ d' S' ρ', DOk K ρ' S' H1 v d' ∧ k (d', S') ρ' H1
theorem Xt.pick {ρ1 : List Addr} {S1 : Store} {H1 : Hp} (e : Xt ρ S H ρ1 S1 H1) (hp : ∃ n, ρ2 = ρ ++ n) (g : ∀ a, Live ρ2 S2 a → Live ρ1 S1 a) (hs : ∀ (i : Nat) (c : Cell), i < S.length → S1[i]? = some c → S2[i]? = some c) : Xt ρ S H ρ2 S2 H1 := ⟨hp, ⟨fun a h => e.gr.live a (g a h), e.gr.keep, e.gr.there, e.gr.frzs⟩, fun i a n rs h1 h2 => by
  obtain ⟨n', rs', q1, q2⟩ := e.nst i a n rs h1 h2
  exact ⟨n', rs', hs i _ (List.getElem?_eq_some_iff.mp h2).1 q1, q2⟩⟩
theorem Live.out {ρ : List Addr} {S : Store} {n i : Nat} {a : Addr} (nd : ρ.Nodup) (h : ρ[i]? = some a) (hi : n ≤ i) : ¬ Live (ρ.take n) (S.take n) a := fun ⟨j, c, q1, q2, _⟩ => by
  by_cases hj : j < n
  · rw [List.getElem?_take_of_lt hj] at q1
    have := nodup_ixA nd q1 h
    omega
  · rw [List.getElem?_take_eq_none (by omega)] at q1
    cases q1
theorem fin_keep {ρ1 : List Addr} {S1 : Store} {H1 : Hp} {i : Nat} {a : Addr} {c : Cell} {k : D × Store → List Addr → Hp → Prop} (ok : Ok ρ S H) (e : Xt ρ S H ρ1 S1 H1) (o1 : Ok ρ1 S1 H1) (ha : ρ1[i]? = some a) (hc : S1[i]? = some c) (hi : ¬ i < S.length)
    (q : Aft ρ S H (.ok (.ref S.length, S1.take S.length ++ [c])) (fun p => p.2) k) : ∃ d' S' ρ', DOk K ρ' S' H1 (.ref a) d' ∧ k (d', S') ρ' H1 := by
  obtain ⟨new, hnew⟩ := e.pre
  have h1 : ρ1.take S.length = ρ := by rw [hnew, ← ok.len, List.take_left]
  have hl1 : S.length ≤ S1.length := by
    rw [← o1.len, ← ok.len, hnew, List.length_append]
    omega
  have hlt : (S1.take S.length).length = S.length := by rw [List.length_take]; omega
  have ot := o1.trunc S.length
  rw [h1] at ot
  have nd : (ρ ++ [a]).Nodup := by
    rw [List.nodup_append]
    refine ⟨ok.nd, by simp, fun x hx y hy => ?_⟩
    have ey : y = a := by simpa using hy
    subst ey
    rintro rfl
    obtain ⟨j, hj⟩ := List.getElem?_of_mem hx
    have hj1 := e.at hj
    have := nodup_ixA o1.nd hj1 ha
    have := (List.getElem?_eq_some_iff.mp hj).1
    rw [ok.len] at this
    omega
  obtain ⟨o2, g⟩ := o1.pick (ρ2 := ρ ++ [a]) (S2 := S1.take S.length ++ [c]) (by simp [ok.len, hlt]) nd fun j b c' q1 q2 => by
    by_cases hj : j < S.length
    · rw [List.getElem?_append_left (by rw [ok.len]; exact hj)] at q1
      rw [List.getElem?_append_left (by rw [hlt]; exact hj), List.getElem?_take_of_lt hj] at q2
      exact ⟨j, e.at q1, q2⟩
    · have ej : j = S.length := by
        have := (List.getElem?_eq_some_iff.mp q1).1
        simp [ok.len] at this
        omega
      subst ej
      rw [List.getElem?_append_right (by rw [ok.len]; exact Nat.le_refl _)] at q1
      rw [List.getElem?_append_right (by rw [hlt]; exact Nat.le_refl _)] at q2
      simp [ok.len] at q1
      simp [hlt] at q2
      subst q1 q2
      exact ⟨i, ha, hc⟩
  refine ⟨.ref S.length, S1.take S.length ++ [c], ρ ++ [a], ⟨a, by rw [← ok.len]; simp, rfl⟩, Aft.at q (e.pick ⟨[a], rfl⟩ g fun j c' hj q1 => by rw [List.getElem?_append_left (by rw [hlt]; exact hj), List.getElem?_take_of_lt hj]; exact q1) o2⟩
theorem fin_plain {ρ1 : List Addr} {S1 : Store} {H1 : Hp} {d' : D} {v : V} {k : D × Store → List Addr → Hp → Prop} (ok : Ok ρ S H) (e : Xt ρ S H ρ1 S1 H1) (o1 : Ok ρ1 S1 H1) (hd : DOk K ρ (S1.take S.length) H1 v d')
    (q : Aft ρ S H (.ok (d', S1.take S.length)) (fun p => p.2) k) : ∃ d' S' ρ', DOk K ρ' S' H1 v d' ∧ k (d', S') ρ' H1 := by
  obtain ⟨h1, xt⟩ := e.trunc ok S.length rfl
  have ot := o1.trunc S.length
  rw [h1] at ot
  exact ⟨d', _, ρ, hd, Aft.at q xt ot⟩
theorem fin_ok : FinOk K fin := by
  intro ρ ρ1 S S1 H H1 d v k ok e o1 dv q
  obtain ⟨h1, xt⟩ := e.trunc ok S.length rfl
  have g : ∀ a, Live ρ (S1.take S.length) a → Live ρ1 S1 a := fun a h => by
    rw [← h1] at h
    exact Live.take h
  cases d with
  | p x => exact fin_plain ok e o1 (d' := .p x) (Pd.less g _ _ dv) q
  | scr ns =>
    obtain ⟨a, h2, h3⟩ := dv
    exact fin_plain ok e o1 (d' := .scr ns) ⟨a, h2, h3⟩ q
  | ref i =>
    obtain ⟨a, ha, rfl⟩ := dv
    unfold fin at q
    by_cases hi : i < S.length
    · simp only [hi, if_true] at q
      refine fin_plain ok e o1 (d' := .ref i) ⟨a, ?_, rfl⟩ q
      rw [← h1, List.getElem?_take_of_lt hi]
      exact ha
    · simp only [hi, if_false] at q
      have nl : ¬ Live ρ (S1.take S.length) a := by
        have := Live.out (S := S1) o1.nd ha (Nat.le_of_not_lt hi)
        rwa [h1] at this
      cases hc : S1[i]? with
      | none => simp only [hc] at q; exact q.elim
      | some c =>
        simp only [hc] at q
        cases c with
        | lst xs =>
          obtain ⟨vs, q1, q2⟩ := o1.cell i a _ ha hc
          exact fin_plain ok e o1 (d' := .p (.list xs)) (.lst q1 nl (Pds.less g _ _ q2)) q
        | flst xs =>
          obtain ⟨vs, q1, q2⟩ := o1.cell i a _ ha hc
          exact fin_plain ok e o1 (d' := .p (.list xs)) (.lst q1 nl (Pds.less g _ _ q2)) q
        | dct t kvs => exact fin_keep ok e o1 ha hc hi q
        | fdct t kvs => exact fin_keep ok e o1 ha hc hi q
        | nst n rs => exact fin_keep ok e o1 ha hc hi q
        | tab P q1 => exact fin_keep ok e o1 ha hc hi q
        | tdc ks => exact fin_keep ok e o1 ha hc hi q
        | tdv b kvs => exact fin_keep ok e o1 ha hc hi q
        | dead => exact fin_keep ok e o1 ha hc hi q
  | rows i n rs => exact q.elim
  | fn f c q1 => exact q.elim
  | exn x => exact q.elim
theorem finM_ok : FinOk K finM := by
  intro ρ ρ1 S S1 H H1 d v k ok e o1 dv q
  obtain ⟨h1, xt⟩ := e.trunc ok S.length rfl
  have g : ∀ a, Live ρ (S1.take S.length) a → Live ρ1 S1 a := fun a h => by
    rw [← h1] at h
    exact Live.take h
  cases d with
  | p x => exact fin_plain ok e o1 (d' := .p x) (Pd.less g _ _ dv) q
  | scr ns =>
    obtain ⟨a, h2, h3⟩ := dv
    exact fin_plain ok e o1 (d' := .scr ns) ⟨a, h2, h3⟩ q
  | ref i =>
    obtain ⟨a, ha, rfl⟩ := dv
    unfold finM at q
    by_cases hi : i < S.length
    · simp only [hi, if_true] at q
      refine fin_plain ok e o1 (d' := .ref i) ⟨a, ?_, rfl⟩ q
      rw [← h1, List.getElem?_take_of_lt hi]
      exact ha
    · simp only [hi, if_false] at q
      cases hc : S1[i]? with
      | none => simp only [hc] at q; exact q.elim
      | some c =>
        simp only [hc] at q
        exact fin_keep ok e o1 ha hc hi q
  | rows i n rs => exact q.elim
  | fn f c q1 => exact q.elim
  | exn x => exact q.elim
theorem Aft.bs0 {β : Type} {ρ0 : List Addr} {S0 : Store} {H0 : Hp} {r : R (Fl × Env × Store)} {f : Fl → Env → Store → R β} {st : β → Store} {k : β → List Addr → Hp → Prop} (h : Aft ρ S H (Mi.bs r f) st k) :
    Aft ρ0 S0 H0 r (fun p => p.2.2) fun p _ _ => Aft ρ S H (f p.1 p.2.1 p.2.2) st k := by
  cases r with
  | ok a => exact fun _ _ _ _ => h
  | ex e S => exact h
  | no => exact h
theorem Aft.cutEx {α : Type} {n : Nat} {r : R α} {st : α → Store} {k : α → List Addr → Hp → Prop} (h : Aft ρ S H (Mi.cutEx n r) st k) : Aft ρ S H r st k := by
  cases r <;> exact h
end
theorem ar_fnOf {fi : Nat → D → Store → R (D × Store)} {np slots : Nat} {body : Sm} : Ar np (fnOf fi np slots body) := fun ds S h => by
  unfold fnOf
  rw [decide_eq_false h]
  rfl
def CodeAt (K : PySem.W.Frag) (f : Addr) (cdv : Value) : Prop := ∃ (oc : Value) (od : Option Addr) (fd : FuncData) (osl : Array (Option Value)), K.lookup f = some ⟨oc, od, .func fd, osl⟩ ∧ fd.code = cdv ∧ ∃ c, cdv = .ref c
theorem fn_ofG {P : Program} {w : World} {K : PySem.W.Frag} {mg : Str → Option Value} {base : Heap} {k : Nat} {f : Addr} {fd : FuncData} {x qual : Str} {params : Arguments} {body : List Stmt} {scope : Scope} {N ps : List Str} {fi : Nat → D → Store → R (D × Store)} {np slots : Nat} {fb : Sm}
    (F : FunD K x qual params body scope [] [] f fd) (Sc : FnScope N ps scope) (hfi : FinOk K fi) (hnp : np = ps.length) (hsl : slots = N.length)
    (hb : ∀ (cdv : Value), CodeAt K f cdv → ∀ (A : Around) (outer : List PySem.Env) (s : Shared) (H : Hp) (E : XK), Rm k (cxOf CX0 P w K mg base N qual scope f cdv A outer s H E).nox.A → Gd (cxOf CX0 P w K mg base N qual scope f cdv A outer s H E).nox → PSs (cxOf CX0 P w K mg base N qual scope f cdv A outer s H E).nox body (TSm K fb)) :
    FnG P w K mg base (k + 1) f fd np ps (fnOf fi np slots fb) := by
  obtain ⟨oc, od, dV, kV, doc, pm, an, cdv, ct, osl, rfl, lk, hcd, _, _⟩ := F.ex
  refine ⟨hnp, fun A outer s H args us vs Q ρ S ds hr e0 hbi r dd ok hlen q => ?_⟩
  have hl : vs.length = ps.length := dd.length.trans hlen
  have KX : K.In s.heap := e0.mod.kin.keeps fun b o e => (e0.bs b o e).1
  have hlim : s.heap.NoLimit := e0.mod.nolimit.keeps fun b o e => (e0.bs b o e).1
  have hkd : ∀ y ∈ ps.zip us, scope.names.lookup y.1 = some .local ∨ (scope.names.lookup y.1 = some .cell ∧ ((cellsFrom (s.heap.objs.size + 1) scope.names []).lookup y.1).isSome = true) := fun y hy => by
    obtain ⟨n, v⟩ := y
    rcases Sc.par n (List.of_mem_zip hy).1 with z | z
    · exact .inl z
    · exact .inr ⟨z, PySem.W.cellsFrom_some _ _ _ (.inl z)⟩
  have hrm := hr.deeper (envOfC qual scope s.heap.objs.size f cdv)
  have hroom := hr.room
  refine codeAny_call_function hroom.depth (KX _ _ lk) rfl Sc.co Sc.gen rfl (PySem.W.codeRec_of KX hcd) (hbi _ _ _ _ (wpAny_newFunctionEnv_cells Sc.kind hkd fun env he s1 xx => ?_))
  subst he
  refine ⟨hlim.keeps xx.toInCall.keep, codeAny_func ?_⟩
  have G : Gd (cxOf CX0 P w K mg base N qual scope f cdv A outer s H E0).nox := ⟨rfl, by have := hrm.room.un; show (A.deeper (envOfC qual scope s.heap.objs.size f cdv)).units + 2000 < cLine; simp only [MARGIN] at this; omega, hrm.gs, Sc.nd⟩
  have ht := PSs.nox (hb cdv ⟨_, _, _, _, lk, rfl, He.codeIn_ref hcd⟩ A outer s H E0 hrm G)
  have I : L2.Inv (cxOf CX0 P w K mg base N qual scope f cdv A outer s H E0) [] (L2.start N vs) H s1 := inv_start Sc hroom.hd e0 hl r xx
  obtain ⟨_, q⟩ := Aft.when q
  have q := Aft.cutEx q
  let D' : Ends := { nx := fun _ H' => Q .non H', rt := Q }
  have hq : TSm K fb D' (L2.start N vs) H := by
    refine ⟨ρ, Mi.start slots ds, S, EnvOk.start N dd slots hsl, ok, (Aft.bs0 q).mono fun p ρ1 H1 e1 o1 q1 => ?_⟩
    obtain ⟨fl, env1, S1⟩ := p
    cases fl with
    | rt d =>
      intro v dv
      obtain ⟨d', S', ρ', h1, h2⟩ := hfi ρ ρ1 S S1 H H1 d v _ ok e1 o1 dv q1
      exact h2 v h1
    | nx =>
      intro σ1 eo1
      obtain ⟨d', S', ρ', h1, h2⟩ := hfi ρ ρ1 S S1 H H1 (.p .none) .non _ ok e1 o1 .non q1
      exact h2 .non h1
    | bk => exact q1.elim
    | ct => exact q1.elim
  refine wpAny_mono (ht.run [] s1 (L2.start N vs) H D' I hq) (fun fl s' hs => ?_) fun e s' hs => hs
  have fin : ∀ {σ' : L2.St} {H' : Hp} {v : V} {u : Value}, L2.Inv (cxOf CX0 P w K mg base N qual scope f cdv A outer s H E0) [] σ' H' s' → RelV v u → Q v H' → CE outer P w H s Q u s' :=
    fun {σ' H' v u} J rv z => ⟨v, H', J.os, J.bare, J.base, J.hok, rv, z⟩
  cases fl with
  | ret u =>
    obtain ⟨v, σ', H', J, rv, z⟩ := hs
    exact fin J rv z
  | next =>
    obtain ⟨σ', H', J, z⟩ := hs
    exact fin (v := V.non) (u := Value.none) J rfl z
  | brk =>
    obtain ⟨_, _, _, z⟩ := hs
    exact z.elim
  | cont =>
    obtain ⟨_, _, _, z⟩ := hs
    exact z.elim
end Mi
end
section
namespace Mi
open PySem PySem.Spec PyProof.Rows L2
structure KnD (P : Program) (w : World) (K : PySem.W.Frag) (mg : Str → Option Value) (base : Heap) (k : Nat) (x : Str) (np : Nat) (ps : List Str) (fn : Fn) : Prop where
  ex : ∃ (f : Addr) (fd : FuncData), mg x = some (.ref f) ∧ PySem.W.keepIn K (.ref f) = true ∧ Binds K fd ps [] ∧ KwAll fd ps ∧ FnG P w K mg base k f fd np ps fn
  ar : Ar np fn
theorem FunD.kwAll {K : PySem.W.Frag} {x qual : Str} {params : Arguments} {body : List Stmt} {scope : Scope} {f : Addr} {fd : FuncData} {ps : List Str} (F : FunD K x qual params body scope [] [] f fd)
    (h : ∀ (kV doc pm : Value) (an : Option Addr) (cdv ct : Value) (ws : List Value), ws.length = ps.length → bindArgs (PySem.W.fnOf x qual params body scope .none kV doc pm an cdv ct) ⟨[], ps.zip ws⟩ = pure (ps.zip ws)) : KwAll fd ps := by
  obtain ⟨oc, od, dV, kV, doc, pm, an, cdv, ct, osl, rfl, lk, hcd, hD, hK⟩ := F.ex
  rcases hD with ⟨_, rfl⟩ | ⟨e, _⟩
  · exact ⟨fun s ws hl => .of_eq (h kV doc pm an cdv ct ws hl)⟩
  · exact absurd rfl e
section
variable {X : Cx} {pos p : Pos} {e : Expr} {es : List Expr} {fs : As} {x : Str} {np k : Nat} {ps : List Str} {fn : Fn} {kws : List Keyword}
theorem x_fn (d : KnD X.prog X.w X.K X.mg X.base k x np ps fn) (hr : Rm k X.A) (hg : Gl X x) (ha : PA X (e :: es) (TAs X.K fs)) (hdb : (x == ("__debug__" : Str)) = false := by decide)
    (he : starEach (e :: es) X.env = (false, eval e X.env) :: starEach es X.env := by rfl) (hpl : (backTo pos (starEach es X.env)).any (·.1) = false := by rfl) : PE X (.Call (.Name x p) (e :: es) [] pos) (TX X.K (mCall fn fs)) := by
  obtain ⟨f, fd, h1, h2, h3, _, h4⟩ := d.ex
  exact x_call h4 d.ar hr hg h1 h2 h3 ha hdb he hpl
theorem x_gint {i : Int} (h : ∃ t, X.mg x = some (.int i t)) (hg : Gl X x) (hd : (x == ("__debug__" : Str)) = false := by decide) : PE X (.Name x pos) (TX X.K (mC (.int i))) := by
  obtain ⟨t, h⟩ := h
  exact x_c (pe_glob hg h (v := .int i) ⟨t, rfl⟩ hd) fun _ _ => .int i
end
def DefF (K : PySem.W.Frag) (mg : Str → Option Value) (x : Str) (st : Stmt) : Prop := ∃ (f : Addr) (fd : FuncData), mg x = some (.ref f) ∧ FunD K x x (defArgs st) (defBody st) (defScope st) [] [] f fd
theorem kn_of {P : Program} {w : World} {K : PySem.W.Frag} {mg : Str → Option Value} {base : Heap} {k : Nat} {x : Str} {st : Stmt} {N ps : List Str} {fi : Nat → D → Store → R (D × Store)} {np slots : Nat} {fb : Sm} (F : DefF K mg x st) (Sc : FnScope N ps (defScope st)) (hfi : FinOk K fi) (hnp : np = ps.length) (hsl : slots = N.length)
    (hbi : ∀ (kV doc pm : Value) (an : Option Addr) (cdv ct : Value) (us : List Value), us.length = ps.length → bindArgs (PySem.W.fnOf x x (defArgs st) (defBody st) (defScope st) .none kV doc pm an cdv ct) ⟨us, []⟩ = pure (ps.zip us))
    (hbk : ∀ (kV doc pm : Value) (an : Option Addr) (cdv ct : Value) (ws : List Value), ws.length = ps.length → bindArgs (PySem.W.fnOf x x (defArgs st) (defBody st) (defScope st) .none kV doc pm an cdv ct) ⟨[], ps.zip ws⟩ = pure (ps.zip ws))
    (hb : ∀ (f : Addr) (cdv : Value) (A : Around) (outer : List PySem.Env) (s : Shared) (H : Hp) (E : XK), Rm k (cxOf CX0 P w K mg base N x (defScope st) f cdv A outer s H E).nox.A → Gd (cxOf CX0 P w K mg base N x (defScope st) f cdv A outer s H E).nox → PSs (cxOf CX0 P w K mg base N x (defScope st) f cdv A outer s H E).nox (defBody st) (TSm K fb)) :
    KnD P w K mg base (k + 1) x np ps (fnOf fi np slots fb) := by
  obtain ⟨f, fd, hm, F⟩ := F
  exact ⟨⟨f, fd, hm, F.kp, F.bindsN hbi, FunD.kwAll F hbk, fn_ofG F Sc hfi hnp hsl fun cdv _ => hb f cdv⟩, ar_fnOf⟩
theorem law_callG {P : Program} {w : World} {K : PySem.W.Frag} {mg mb : Str → Option Value} {k : Nat} {fa a : Addr} {x nm : Str} {fn : Fn} {s1 : Shared} {vs : List Value} {ns : List Int}
    (KX : K.In s1.heap) (hns : s1.heap.Ns mainGlobals mg) (hb : s1.heap.Ns builtinsNs mb) (hbb : ∀ x : Str, x ≠ "__name__" → mb x = bootBuiltins x) (hlim : s1.heap.NoLimit) (hg : s1.gens = #[])
    (ha : s1.heap.get? a = some { cls := .type "list", data := .seq vs.toArray }) (hi : IntsAre vs ns) (hl : ns.length ≤ sizeLine) (hr : Rm k callerA)
    (hmg : mg nm = some (.ref fa)) (F : ∀ base : Heap, K.In base → base.Ns mainGlobals mg → KnD P w K mg base k nm 1 [x] fn) (hlaw : fn [.scr ns] [] = .ok (.p (.bool true), [])) :
    codeAny (model P w) callerA (.call (.ref fa) ⟨[.ref a], []⟩) (fun r s' => r = .ok (.ret (.bool true)) ∧ OldK s1.heap s'.heap ∧ s'.os = s1.os ∧ AllBare s'.gens) s1 := by
  have rv := vals_ints hi
  have lenV := hi.length
  have core : ∀ H : Hp, Only H → Scr K H a ns → HOk P w H s1.heap → (∀ b, H b ≠ none → b = a) → (H a ≠ none → K.lookup a = none) →
      codeAny (model P w) callerA (.call (.ref fa) ⟨[.ref a], []⟩) (fun r s' => r = .ok (.ret (.bool true)) ∧ OldK s1.heap s'.heap ∧ s'.os = s1.os ∧ AllBare s'.gens) s1 := fun H hO hS hok hA hK => by
    have free : ∀ {b : Addr} {o : Obj}, s1.heap.get? b = some o → (∀ q ep, o.data ≠ .seq q ep) → H b = none := fun {b o} e d => by
      cases q : H b with
      | none => rfl
      | some u =>
        have eb : b = a := hA b (by rw [q]; simp)
        subst eb
        rw [ha] at e
        cases e
        exact absurd rfl (d _ _)
    have nsB : ∀ {b : Addr} {m : Str → Option Value}, s1.heap.Ns b m → (hidT s1.heap H).Ns b m := fun {b m} z => by
      obtain ⟨o, es, ep, e, d, r⟩ := z
      exact ⟨o, es, ep, hidT_get e (free e fun q ep' z => by rw [d] at z; cases z), d, r⟩
    have hKb : K.In (hidT s1.heap H) := fun b o e => hidT_get (KX b o e) (by
      cases q : H b with
      | none => rfl
      | some u =>
        have eb : b = a := hA b (by rw [q]; simp)
        subst eb
        rw [hK (by rw [q]; simp)] at e
        cases e)
    have hM : Mod K mg (hidT s1.heap H) := ⟨hKb, nsB hns, ⟨mb, nsB hb, hbb⟩, by
      obtain ⟨mc, h1, h2⟩ := hlim
      exact ⟨mc, nsB h1, h2⟩⟩
    have e0 : Env0 P w K mg (hidT s1.heap H) callerA [] s1 H := ⟨rfl, hM, fun b o e => of_hidT e, Nat.le_of_eq (hidT_size _ _), trivial, (fun b hb => by cases hb), hok, .of_eq hg⟩
    have ok0 : Ok [] [] H := ⟨rfl, List.nodup_nil, fun i a c h1 _ => by simp at h1⟩
    obtain ⟨f, fd, ef, _, hbind, _, F⟩ := (F _ hKb (nsB hns)).ex
    have ef := hmg.symm.trans ef
    cases ef
    refine codeAny_mono (F.run callerA [] s1 H ⟨[.ref a], []⟩ [.ref a] [.ref a] (fun v _ => v = .bl true) [] [] [.scr ns] hr e0 (hbind s1 [.ref a] KX rfl) (.cons rfl .nil) (.cons ⟨a, rfl, hS⟩ .nil) ok0 rfl ?_) fun r s' h => ?_
    · rw [hlaw]
      intro ρ' H' _ _ v dv
      cases dv
      rfl
    · cases r with
      | error e => exact h.elim
      | ok fl =>
        cases fl with
        | next => exact h.elim
        | brk => exact h.elim
        | cont => exact h.elim
        | ret u =>
          obtain ⟨v, H', hos, bare, un, hok', r', q⟩ := h
          have q : v = .bl true := q
          subst q
          obtain rfl : u = Value.bool true := r'
          refine ⟨rfl, OldK.of_keep fun b o e => ?_, hos, bare⟩
          cases q : H b with
          | none => exact un.keep b o e q (fun z => by cases z) (by simp)
          | some u =>
            rcases hO b with z | ⟨ob, xs, z⟩
            · rw [q] at z
              cases z
            · obtain ⟨e1, _⟩ := hok b _ z
              obtain ⟨e2, _⟩ := hok' b _ (un.frzs b ob _ z)
              rw [e] at e1
              cases e1
              exact e2
  cases hk : K.lookup a with
  | some o =>
    have e := KX a o hk
    rw [ha] at e
    cases e
    exact core (fun _ => none) (fun _ => .inl rfl) (.inr fun H' => .inr ⟨_, vs.toArray, _, hk, rfl, rfl, rfl, by rw [List.size_toArray, lenV]; exact hl, by simpa using rv⟩) (fun b u z => by
      have z : (none : Option HO) = some u := z
      cases z) (fun b z => absurd rfl z) fun z => absurd rfl z
  | none =>
    refine core (fun b => if b = a then some (.frz { cls := .type "list", data := .seq vs.toArray } (.lst (ns.map V.int))) else none) (fun b => ?_) (.inl ⟨{ cls := .type "list", data := .seq vs.toArray }, if_pos rfl⟩) (fun b u z => ?_) (fun b z => ?_) fun _ => hk
    · by_cases hb : b = a
      · exact .inr ⟨_, _, if_pos hb⟩
      · exact .inl (if_neg hb)
    · by_cases hb : b = a
      · have z := (if_pos hb).symm.trans z
        cases z
        subst hb
        exact ⟨ha, by rw [List.length_map]; exact hl, vs, _, rv, ha⟩
      · have z := (if_neg hb).symm.trans z
        cases z
    · by_cases hb : b = a
      · exact hb
      · exact absurd (if_neg hb) z
theorem walk_ofG {l : PySem.W.OpenLaw} {n k : Nat} {q : Program} {loose : List Str} {XP : (Str → Option Value) → Heap → Prop} {YP : World → Heap → Prop} {d : DefRec} {x : Str} {fn : Fn}
    (hn : l.most = some n) (hn2 : n ≤ sizeLine) (hdf : d.params.defaults = []) (hr : Rm k callerA)
    (F : ∀ (w : World) (mg : Str → Option Value) (fa : Addr) (h : Heap), YP w h → h.Ns mainGlobals mg → mg d.name = some (.ref fa) →
      ∃ K : PySem.W.Frag, K.In h ∧ ∀ base : Heap, K.In base → base.Ns mainGlobals mg → KnD l.prog w K mg base k d.name 1 [x] fn)
    (hlaw : ∀ ns : List Int, ns.length ≤ n → fn [.scr ns] [] = .ok (.p (.bool true), [])) : PySem.W.WalkO q loose XP YP l.row.toRowW d [] (fun f vs => PySem.call f vs) := by
  refine Att.attach_call hn hdf fun w s₀ s₁ mg mb fa o pm cd doc a vs ns G Y ho hd hcd hmg hobj hints hlen hg => ?_
  obtain ⟨K, KX, hF⟩ := F w mg fa _ Y G.T.g hmg
  exact law_callG KX G.T.g G.T.b G.T.builtins G.T.nolimit hg hobj hints (Nat.le_trans hlen hn2) hr hmg hF (hlaw ns hlen)
end Mi
end
section
namespace Mi
open PySem PySem.Spec PyProof.Rows L2
section
variable {X : Cx} {e o ix : Expr} {fa fo fi : Ex} {pos tp : Pos}
theorem ixN_l2 {n : Nat} {k : Int} {j : Nat} (h : Mi.ixN n k = some j) : L2.ixN n k = some j := h
theorem s_setL (he : PE X e (TX X.K fa)) (ho : PE X o (TX X.K fo)) (hi : PE X ix (TX X.K fi)) (hs : swapsWithSole [.Subscript o ix tp] e pos.line X.env = pure false := by rfl) (hw : swappedStores [.Subscript o ix tp] e X.env = pure none := by rfl)
    (h1 : (assignEach [.Subscript o ix tp] X.env).map (·.2) = [assign (.Subscript o ix tp) X.env] := by rfl)
    (ha : ∀ v, assign (.Subscript o ix tp) X.env v = (do
      let ov ← holding [v] (eval o X.env)
      let iv ← holding [v, ov] (eval ix X.env)
      standAt tp
      holding [v, ov, iv] (setItem ov iv v)
      release [v, ov, iv] []) := by intro _; rfl) : PS X (.Assign [.Subscript o ix tp] e pos) (TSm X.K (sSetL fo fi fa)) := PS.up (ps_asg he (pg_sub ho hi set_list ha) hs hw h1) fun D' σ H ⟨ρ, env, S, eo, ok, q⟩ => by
  refine ⟨ρ, env, S, eo, ok, (Aft.bd q).mono fun p1 ρ1 H1 e1 o1 q1 y dy => ?_⟩
  refine ⟨ρ1, env, p1.2, eo.mono e1, o1, (Aft.bd q1).mono fun p2 ρ2 H2 e2 o2 q2 x dx => ?_⟩
  refine ⟨ρ2, env, p2.2, (eo.mono e1).mono e2, o2, (Aft.bd q2).mono fun p3 ρ3 H3 e3 o3 q3 k dk => ?_⟩
  obtain ⟨d, S4, x4, o4, pd, q4⟩ := Aft.fz o3 ((dy.mono e2).mono e3) q3
  have eo4 := (((eo.mono e1).mono e2).mono e3).mono x4
  obtain ⟨dx0, S2⟩ := p2
  obtain ⟨dk0, S3⟩ := p3
  cases dx0 with
  | ref j =>
    cases dk0 with
    | p dk0 =>
      cases dk0 with
      | int n =>
        cases dk
        obtain ⟨a, ha, rfl⟩ := dx
        have ha4 : ρ3[j]? = some a := e3.at ha
        cases hS : S4[j]? with
        | none => simp only [hS] at q4; exact q4.elim
        | some c =>
          simp only [hS] at q4
          cases c with
          | lst xs =>
            obtain ⟨m, hm, q5⟩ := Aft.orNo q4
            obtain ⟨vs, hv, pv⟩ := o4.cell j a _ ha4 hS
            obtain ⟨o5, x5⟩ := o4.putL (vs := vs.set m y) (ys := xs.set m d) ha4 hS (pv.set pd m)
            exact ⟨a, vs, n, m, rfl, rfl, hv, by rw [pv.length]; exact ixN_l2 hm, (Aft.at q5 x5 o5) _ (eo4.mono x5)⟩
          | _ => exact q4.elim
      | _ => exact q4.elim
    | _ => exact q4.elim
  | _ => exact q4.elim
def gNs : List Nat → TGs
  | [] => gNil
  | i :: is => gCons (gName i) (gNs is)
theorem gNs_run {K : PySem.W.Frag} {ρ : List Addr} {S : Store} {H : Hp} {Q : L2.St → Hp → Prop} : ∀ {is : List Nat} {vs : List V} {ds : List D} {env : Env} {σ : L2.St}, DsOk K ρ S H vs ds → ds.length = is.length → EnvOk K ρ S H env σ → (∀ σ', EnvOk K ρ S H (setAll is ds env) σ' → Q σ' H) → gNs is vs σ H Q
  | [], vs, ds, env, σ, r, hl, eo, q => by
    cases r with
    | nil => exact ⟨rfl, q σ eo⟩
    | cons a b => simp at hl
  | i :: is, vs, ds, env, σ, r, hl, eo, q => by
    cases r with
    | nil => simp at hl
    | cons a b => exact ⟨_, _, rfl, gNs_run b (by simpa using hl) (eo.set a) q⟩
theorem s_parG (G : Gd X) {is : List Nat} {es ts : List Expr} {fs : As} {k k2 : Nat} {tpos vpos : Pos} (ha : PA X es (TAs X.K fs)) (hp : PGs X ts (gNs is)) (hn : (assignEach ts X.env).length = is.length := by rfl) (hst : (assignEach ts X.env).findIdx? (·.1) = none := by rfl)
    (hs : swapsWithSole [.Tuple ts k tpos] (.Tuple es k2 vpos) pos.line X.env = pure false := by rfl) (hw : swappedStores [.Tuple ts k tpos] (.Tuple es k2 vpos) X.env = pure none := by rfl)
    (h1 : (assignEach [.Tuple ts k tpos] X.env).map (·.2) = [assign (.Tuple ts k tpos) X.env] := by rfl) (hz : is.length ≤ 100 := by decide) : PS X (.Assign [.Tuple ts k tpos] (.Tuple es k2 vpos) pos) (TSm X.K (sPar is fs)) :=
  PS.up (ps_asg (pe_tup ha) (pg_tup G.calm hp hn hst) hs hw h1) fun D' σ H ⟨ρ, env, S, eo, ok, q⟩ => by
    refine ⟨ρ, env, S, eo, ok, (Aft.bd q).mono fun p ρ1 H1 e1 o1 q1 vs ds => ?_⟩
    obtain ⟨hl, q2⟩ := Aft.when q1
    have hl : p.1.length = is.length := of_decide_eq_true hl
    have hv : vs.length = is.length := by rw [ds.length, hl]
    refine ⟨by rw [hv, sizeLine_eq]; omega, fun t ht => ⟨t, vs, rfl, .inl (.inl upd_same), hv, ?_⟩⟩
    have xt : Xt ρ1 p.2 H1 ρ1 p.2 (upd H1 t (.tup vs)) := Xt.new ht
    exact gNs_run (ds.mono xt) hl ((eo.mono e1).mono xt) fun σ' eo' => (Aft.at q2 xt (o1.new ht)) σ' eo'
end
end Mi
end
section
namespace Mi
open PySem PySem.Spec PyProof.Rows L2
section
variable {L : Addr → Prop} {H : Hp}
theorem KvK.len : ∀ {us : List (Key × V)} {kvs : List (PyData × PyData)}, KvK L H us kvs → us.length = kvs.length
  | _, _, .nil => rfl
  | _, _, .cons _ t => congrArg (· + 1) (KvK.len t)
theorem KvK.snoc {k : Key} {v : V} {d : PyData} (hd : Pd L H v d) : ∀ {us : List (Key × V)} {kvs : List (PyData × PyData)}, KvK L H us kvs → KvK L H (us ++ [(k, v)]) (kvs ++ [(keyD k, d)])
  | _, _, .nil => .cons hd .nil
  | _, _, .cons a t => .cons a (KvK.snoc hd t)
theorem KvK.over {k : Key} {v : V} {d : PyData} (hd : Pd L H v d) : ∀ {us : List (Key × V)} {kvs : List (PyData × PyData)}, KvK L H us kvs → KvK L H (us.map fun kv => if kv.1 = k then (kv.1, v) else kv) (kvs.map fun kv => if PyData.eqv kv.1 (keyD k) = true then (kv.1, d) else kv)
  | _, _, .nil => .nil
  | _, _, .cons (k := k0) a t => by
    rw [List.map_cons, List.map_cons, keyD_eqv]
    by_cases e : k0 = k
    · rw [if_pos e, decide_eq_true e, if_pos rfl]
      exact .cons hd (KvK.over hd t)
    · rw [if_neg e, decide_eq_false e, if_neg Bool.false_ne_true]
      exact .cons a (KvK.over hd t)
theorem KvK.put {k : Key} {v : V} {d : PyData} {us : List (Key × V)} {kvs : List (PyData × PyData)} (r : KvK L H us kvs) (hd : Pd L H v d) : KvK L H (putK us k v) (Mi.put kvs (keyD k) d) := by
  unfold putK Mi.put
  have e := r.val k
  rw [← valV_any] at e
  rw [← e]
  by_cases h : (us.any fun kv => decide (kv.1 = k)) = true
  · rw [if_pos h, if_pos h]
    exact r.over hd
  · rw [if_neg h, if_neg h]
    exact r.snoc hd
end
section
variable {ρ : List Addr} {S : Store} {H : Hp} {i : Nat} {a : Addr}
theorem Gr.put {c c' : Cell} {o : HO} (ok : Ok ρ S H) (h1 : ρ[i]? = some a) (h2 : S[i]? = some c) (hf : c.free = true) (hf' : c'.free = true) : Gr (Live ρ S) (Live ρ (S.set i c')) H (upd H a o) := by
  obtain ⟨u, hu, hm0⟩ := (ok.cell i a c h1 h2).some
  have hm := hm0 hf
  have hl : Live ρ S a := ⟨i, c, h1, h2, hf⟩
  refine ⟨fun b hb => .inl (Live.swap h2 hf hb), fun b u' hb nb => ?_, fun b hb => ?_, fun b u1 u2 hb => ?_⟩
  · rw [upd_ne (fun e => nb (by rw [e]; exact hl))]
    exact hb
  · by_cases e : b = a
    · subst e
      rw [upd_same] at hb
      cases hb
    · rwa [upd_ne e] at hb
  · rw [upd_ne]
    · exact hb
    · rintro rfl
      rw [hu] at hb
      cases hb
      exact hm _ _ rfl
end
section
variable {X : Cx} {e o ix : Expr} {fa fo fi : Ex} {pos tp : Pos}
end
end Mi
end
section
namespace Mi
open PySem
def mInsert (o a b : Ex) : Ex := fun σ S => bd (o σ S) fun x S1 => when_ (lstAt S1 x) (bd (a σ S1) fun y S2 => bd (b σ S2) fun z S3 => bd (fz S3 z) fun d S4 => match x, y with
  | .ref i, .p (.int k) => match S4[i]? with
    | some (.lst xs) => when_ (decide (0 ≤ k ∧ k < 2 ^ 60 ∧ xs.length < Line)) (.ok (.p .none, S4.set i (.lst (xs.take k.toNat ++ [d] ++ xs.drop k.toNat))))
    | _ => .no
  | _, _ => .no)
end Mi
end
section
namespace Mi
open PySem PySem.Spec PyProof.Rows L2
section
variable {X : Cx} {o e e2 : Expr} {fo fa fb : Ex} {apos cpos : Pos}
end
end Mi
end
section
namespace Mi
open PySem PySem.Spec PyProof.Rows L2
def mRemove (o a : Ex) : Ex := fun σ S => bd (o σ S) fun x S1 => when_ (lstAt S1 x) (bd (a σ S1) fun y S2 => match x, y with
  | .ref i, .p (.int k) => match S2[i]? with
    | some (.lst xs) => bx (orNo (ints? xs)) fun ns => when_ (decide (k ∈ ns)) (.ok (.p .none, S2.set i (.lst (xs.eraseIdx (ns.idxOf k)))))
    | _ => .no
  | _, _ => .no)
section
variable {X : Cx} {e o : Expr} {pos p cpos apos : Pos} {fo fa : Ex} {x : Str}
end
end Mi
end
section
namespace Mi.L
open PySem Mi
noncomputable section
def b_l_pot : Sm := sSeq (sAsg 2 (mIf (tE (mO2 pLt (mV 1) (mLen (mV 0)))) (mIx (mV 0) (mV 1)) (mO2 pAdd (mO2 pMul (mC (.int 7)) (mV 1)) (mC (.int 5)))))
        (sSeq (sAsg 3 (mO2 pMul (mO2 pMod (mO1 pAbs (mV 2)) (mO2 pMul (mO2 pMul (mO2 pPow (mC (.int 10)) (mC (.int 60))) (mO2 pPow (mC (.int 10)) (mC (.int 60)))) (mO2 pPow (mC (.int 10)) (mC (.int 60))))) (mO1 pInt (mO2 pGe (mO1 pAbs (mV 2)) (mO2 pPow (mC (.int 10)) (mC (.int 18)))))))
        (sRet (mNew (mLst (aCons (mV 3) (aCons (mO2 pMod (mO2 pAdd (mO2 pAdd (mO2 pMul (mO2 pMod (mV 2) (mC (.int 2305843009213693951))) (mC (.int 1000003))) (mO2 pMul (mC (.int 104729)) (mV 1))) (mC (.int 71))) (mC (.int 2305843009213693921))) (aCons (mC (.int 0)) aNil)))))))
def f_l_pot : Fn := fnOf finM 2 4 b_l_pot
def b_l_take : Sm := sSeq (sIf (tE (mO2 pGt (mIx (mV 0) (mC (.int 0))) (mC (.int 0)))) (sSeq (sAsg 2 (mO2 pMod (mIx (mV 0) (mC (.int 0))) (mV 1)))
        (sSeq (sSetL (mV 0) (mC (.int 0)) (mO2 pDiv (mIx (mV 0) (mC (.int 0))) (mV 1)))
        (sRet (mV 2)))) (sPass))
        (sSeq (sSetL (mV 0) (mC (.int 2)) (mO2 pAdd (mIx (mV 0) (mC (.int 2))) (mC (.int 1))))
        (sSeq (sAsg 3 (mIx (mLst (aCons (mC (.int 2305843009213693951)) (aCons (mC (.int 2305843009213693921)) (aCons (mC (.int 2305843009213693907)) (aCons (mC (.int 2305843009213693723)) aNil))))) (mO2 pMod (mIx (mV 0) (mC (.int 2))) (mC (.int 4)))))
        (sSeq (sAsg 4 (mO2 pMod (mO2 pPow (mO2 pAdd (mO2 pAdd (mIx (mV 0) (mC (.int 1))) (mO2 pMul (mO2 pMul (mC (.int 15485863)) (mIx (mV 0) (mC (.int 2)))) (mIx (mV 0) (mC (.int 2))))) (mC (.int 7))) (mC (.int 3))) (mV 3)))
        (sRet (mO2 pMod (mO2 pDiv (mO2 pMod (mO2 pMul (mV 4) (mO2 pAdd (mO2 pMod (mV 4) (mC (.int 1000003))) (mIx (mV 0) (mC (.int 2))))) (mV 3)) (mC (.int 4099))) (mV 1))))))
def f_l_take : Fn := fnOf fin 2 5 b_l_take
def b_l_of : Sm := sRet (mIx (mV 1) (mCall Mi.L.f_l_take (aCons (mV 0) (aCons (mLen (mV 1)) aNil))))
def f_l_of : Fn := fnOf fin 2 2 b_l_of
end
end Mi.L
end
section
namespace Mi
open PySem
def Rn {α : Type} (r : R α) (Q : α → Prop) : Prop := match r with
  | .ok a => Q a
  | _ => False
section
variable {α β : Type}
theorem Rn.ok {a : α} {Q : α → Prop} (h : Q a) : Rn (.ok a) Q := h
@[simp] theorem rn_ok {a : α} {Q : α → Prop} : Rn (.ok a) Q ↔ Q a := Iff.rfl
theorem Rn.ex {r : R α} {Q : α → Prop} (h : Rn r Q) : ∃ a, r = .ok a ∧ Q a := by
  cases r with
  | ok a => exact ⟨a, rfl, h⟩
  | ex e S => exact h.elim
  | no => exact h.elim
theorem Rn.of {r : R α} {Q : α → Prop} {a : α} (e : r = .ok a) (h : Q a) : Rn r Q := by rw [e]; exact h
theorem Rn.mono {r : R α} {Q Q' : α → Prop} (h : Rn r Q) (g : ∀ a, Q a → Q' a) : Rn r Q' := by
  obtain ⟨a, rfl, h⟩ := h.ex
  exact g a h
theorem Rn.bd {x : R (α × Store)} {f : α → Store → R β} {Q : β → Prop} (h : Rn x fun p => Rn (f p.1 p.2) Q) : Rn (Mi.bd x f) Q := by
  obtain ⟨a, rfl, h⟩ := h.ex
  exact h
theorem Rn.bx {x : R α} {f : α → R β} {Q : β → Prop} (h : Rn x fun p => Rn (f p) Q) : Rn (Mi.bx x f) Q := by
  obtain ⟨a, rfl, h⟩ := h.ex
  exact h
theorem Rn.bs {x : R (Fl × Env × Store)} {f : Fl → Env → Store → R β} {Q : β → Prop} (h : Rn x fun p => Rn (f p.1 p.2.1 p.2.2) Q) : Rn (Mi.bs x f) Q := by
  obtain ⟨a, rfl, h⟩ := h.ex
  exact h
theorem Rn.when {c : Bool} {r : R α} {Q : α → Prop} (hc : c = true) (h : Rn r Q) : Rn (when_ c r) Q := by
  subst hc
  exact h
theorem bd_of {x : R (α × Store)} {f : α → Store → R β} {a : α} {S : Store} (e : x = .ok (a, S)) : Mi.bd x f = f a S := by rw [e]; rfl
theorem bx_of {x : R α} {f : α → R β} {a : α} (e : x = .ok a) : Mi.bx x f = f a := by rw [e]; rfl
theorem bs_of {x : R (Fl × Env × Store)} {f : Fl → Env → Store → R β} {a : Fl} {σ : Env} {S : Store} (e : x = .ok (a, σ, S)) : Mi.bs x f = f a σ S := by rw [e]; rfl
theorem when_of {c : Bool} {r : R α} (hc : c = true) : when_ c r = r := by rw [hc]; rfl
end
section
variable {tg : Tg} {g : List (Nat × Cell)} {body : Sm}
theorem for_rn (I : Nat → Env → Store → Prop) {Q : Fl × Env × Store → Prop} : ∀ (xs : List PyData) (k : Nat) (σ : Env) (S : Store), I k σ S → (∀ k σ S, I k σ S → stand g S = true) →
    (∀ (j : Nat) (x : PyData) (σ : Env) (S : Store), xs[j]? = some x → I (k + j) σ S → Rn (tg x σ) fun σ1 => Rn (body σ1 S) fun p => (p.1 = .nx ∨ p.1 = .ct) ∧ I (k + j + 1) p.2.1 p.2.2) →
    (∀ σ S, I (k + xs.length) σ S → Q (.nx, σ, S)) → Rn (forL tg g body xs σ S) Q
  | [], k, σ, S, h, hs, _, hq => by
    show Rn (when_ (stand g S) _) Q
    rw [hs k σ S h]
    exact hq σ S h
  | x :: xs, k, σ, S, h, hs, hb, hq => by
    show Rn (when_ (stand g S) _) Q
    rw [hs k σ S h]
    refine Rn.bx ((hb 0 x σ S rfl h).mono fun σ1 h1 => Rn.bs (h1.mono fun p h2 => ?_))
    obtain ⟨f, σ2, S2⟩ := p
    obtain ⟨hf, h2⟩ := h2
    have next : Rn (forL tg g body xs σ2 S2) Q := for_rn I xs (k + 1) σ2 S2 h2 hs (fun j y σ S hy hi => by
      have e : k + 1 + j = k + (j + 1) := by omega
      rw [e] at hi ⊢
      exact hb (j + 1) y σ S (by simpa using hy) hi) (fun σ S hi => hq σ S (by
        rw [List.length_cons]
        have e : k + (xs.length + 1) = k + 1 + xs.length := by omega
        rw [e]
        exact hi))
    rcases hf with rfl | rfl
    · exact next
    · exact next
theorem stand_snoc {g : List (Nat × Cell)} {S : Store} {c : Cell} (h : stand g S = true) : stand g (S ++ [c]) = true := by
  unfold stand at h ⊢
  simp only [decide_eq_true_eq] at h ⊢
  intro p hp
  have := h p hp
  rw [List.getElem?_append_left (List.getElem?_eq_some_iff.mp this).1]
  exact this
theorem stand_last {S : Store} {c : Cell} : stand [(S.length, c)] (S ++ [c]) = true := stand_one (by simp)
theorem comp_rn {own : List Nat} {elt : Ex} {σ : Env} (J : Nat → List PyData → Store → Prop) {Q : D × Store → Prop} (hs : ∀ k acc S, J k acc S → stand g S = true) : ∀ (xs : List PyData) (k : Nat) (acc : List PyData) (S : Store), J k acc S →
    (∀ (j : Nat) (x : PyData) (acc : List PyData) (S : Store), xs[j]? = some x → J (k + j) acc S → Rn (tg x (wipe σ own)) fun σ1 => Rn (elt σ1 (S ++ [.lst acc])) fun p => ∃ d S', fz p.2 p.1 = .ok (d, S' ++ [.lst acc]) ∧ S'.length = S.length ∧ J (k + j + 1) (acc ++ [d]) S') →
    (∀ acc S, J (k + xs.length) acc S → Q (.p (.list acc), S)) → Rn (compL own tg tYes elt g σ xs acc S) Q
  | [], k, acc, S, h, _, hq => by
    show Rn (when_ (stand g (S ++ [.lst acc])) _) Q
    rw [stand_snoc (hs k acc S h)]
    exact hq acc S h
  | x :: xs, k, acc, S, h, hb, hq => by
    show Rn (when_ (stand g (S ++ [.lst acc])) _) Q
    rw [stand_snoc (hs k acc S h), when_true]
    refine Rn.bx ((hb 0 x acc S rfl h).mono fun σ1 h1 => ?_)
    rw [bd_of (show tYes σ1 (S ++ [.lst acc]) = .ok (true, _) from rfl), if_pos rfl]
    refine Rn.bd (h1.mono fun p hp => ?_)
    obtain ⟨d, S', h2, h3, h4⟩ := hp
    rw [bd_of h2]
    have e : stand [(S.length, Cell.lst acc)] (S' ++ [.lst acc]) = true := by
      rw [← h3]
      exact stand_last
    have tk : (S' ++ [Cell.lst acc]).take S.length = S' := by rw [← h3]; simp
    rw [when_of e, tk]
    refine comp_rn J hs xs (k + 1) (acc ++ [d]) S' h4 (fun j y acc S hy hj => ?_) fun acc S hj => hq acc S ?_
    · have e : k + 1 + j = k + (j + 1) := by omega
      rw [e] at hj ⊢
      exact hb (j + 1) y acc S (by simpa using hy) hj
    · rw [List.length_cons]
      have e : k + (xs.length + 1) = k + 1 + xs.length := by omega
      rw [e]
      exact hj
end
end Mi
end
section
namespace Mi
open PySem
noncomputable section
def tk_body : Sm := sSeq (sIf (tE (mO2 pGt (mIx (mV 0) (mC (.int 0))) (mC (.int 0)))) (sSeq (sAsg 2 (mO2 pMod (mIx (mV 0) (mC (.int 0))) (mV 1)))
        (sSeq (sSetL (mV 0) (mC (.int 0)) (mO2 pDiv (mIx (mV 0) (mC (.int 0))) (mV 1)))
        (sRet (mV 2)))) (sPass))
        (sSeq (sSetL (mV 0) (mC (.int 2)) (mO2 pAdd (mIx (mV 0) (mC (.int 2))) (mC (.int 1))))
        (sSeq (sAsg 3 (mIx (mLst (aCons (mC (.int 2147483647)) (aCons (mC (.int 2147483629)) (aCons (mC (.int 2147483587)) (aCons (mC (.int 2147483579)) (aCons (mC (.int 2147483563)) aNil)))))) (mO2 pMod (mIx (mV 0) (mC (.int 2))) (mC (.int 5)))))
        (sSeq (sAsg 4 (mO2 pMod (mO2 pPow (mO2 pAdd (mO2 pAdd (mIx (mV 0) (mC (.int 1))) (mO2 pMul (mO2 pMul (mC (.int 40009)) (mIx (mV 0) (mC (.int 2)))) (mIx (mV 0) (mC (.int 2))))) (mC (.int 31))) (mC (.int 3))) (mV 3)))
        (sRet (mO2 pMod (mO2 pDiv (mO2 pMod (mO2 pMul (mV 4) (mO2 pAdd (mO2 pMod (mV 4) (mC (.int 10009))) (mO2 pMul (mC (.int 89)) (mIx (mV 0) (mC (.int 2)))))) (mC (.int 2305843009213693907))) (mC (.int 89))) (mV 1))))))
def tk : Fn := fnOf fin 2 5 tk_body
end
def PotAt (b : Nat) (S : Store) (i : Nat) : Prop := ∃ g m c : Int, S[i]? = some (.lst [.int g, .int m, .int c]) ∧ 0 ≤ g ∧ 0 ≤ m ∧ m < 2 ^ 62 ∧ 0 ≤ c ∧ c ≤ b
theorem log_lt {x : Int} {k : Nat} (h0 : 0 ≤ x) (h : x < 2 ^ k) (hk : 0 < k) : x.natAbs.log2 < k := by
  by_cases e : x.natAbs = 0
  · rw [e]
    simpa using hk
  · rw [Nat.log2_lt e]
    have : (x.natAbs : Int) = x := Int.natAbs_of_nonneg h0
    have h2 : ((2 ^ k : Nat) : Int) = 2 ^ k := by simp
    omega
theorem ev_V {i : Nat} {σ : Env} {S : Store} {d : D} (h : σ[i]? = some (some d)) : mV i σ S = .ok (d, S) := by simp [mV, h]
theorem ev_O1 {f : PyData → R PyData} {a : Ex} {σ : Env} {S S1 : Store} {x : D} {u z : PyData} (ha : a σ S = .ok (x, S1)) (hu : dv S1 x = .ok u) (hf : f u = .ok z) : mO1 f a σ S = .ok (.p z, S1) := by
  unfold mO1
  rw [bd_of ha, bx_of hu, bx_of hf]
theorem ev_P1 {f : PyData → R PyData} {a : Ex} {σ : Env} {S : Store} {u z : PyData} (ha : a σ S = .ok (.p u, S)) (hf : f u = .ok z) : mO1 f a σ S = .ok (.p z, S) := ev_O1 ha rfl hf
theorem ev_ret {a : Ex} {σ : Env} {S S1 : Store} {x : D} (ha : a σ S = .ok (x, S1)) : sRet a σ S = .ok (.rt x, σ, S1) := by
  unfold sRet
  rw [bd_of ha]
theorem ev_fn {np slots : Nat} {body : Sm} {ds : List D} {S S1 : Store} {σ1 : Env} {d : PyData} (hl : ds.length = np) (hb : body (start slots ds) S = .ok (.rt (.p d), σ1, S1)) : fnOf fin np slots body ds S = .ok (.p d, S1.take S.length) := by
  unfold fnOf
  rw [when_of (decide_eq_true hl), bs_of hb]
  rfl
theorem sq_bound {c : Int} {B : Int} (h0 : 0 ≤ c) (h1 : c < B) : c * c < B * B ∧ 0 ≤ c * c := by
  have h2 : c * c ≤ c * B := Int.mul_le_mul_of_nonneg_left (by omega) h0
  have h3 : c * B < B * B := Int.mul_lt_mul_of_pos_right h1 (by omega)
  exact ⟨by omega, Int.mul_nonneg h0 h0⟩
end Mi
end
section
namespace Mi
open PySem
noncomputable section
def mx_body : Sm := sSeq (sPar [2, 3] (aCons (mNew (mO1 pList (mV 1))) (aCons (mNew (mLst aNil)) aNil)))
        (sSeq (sWhile (tE (mO2 pNe (mV 2) (mLst aNil))) (sDrop (mAppend (mV 3) (mPop1 (mV 2) (mCall tk (aCons (mV 0) (aCons (mLen (mV 2)) aNil)))))))
        (sRet (mV 3)))
def mx : Fn := fnOf fin 2 4 mx_body
end
def Fl1 (d : PyData) : Prop := d.plain = true ∧ d.depth ≤ 900
theorem plainAll_of {xs : List PyData} (h : ∀ x ∈ xs, x.plain = true) : PyData.plainAll xs = true := by
  induction xs with
  | nil => rfl
  | cons x xs ih =>
    rw [PyData.plainAll, h x (by simp), ih fun y hy => h y (by simp [hy])]
    rfl
theorem depthAll_of {xs : List PyData} {n : Nat} (h : ∀ x ∈ xs, x.depth ≤ n) : PyData.depthAll xs ≤ n := by
  induction xs with
  | nil => simp [PyData.depthAll]
  | cons x xs ih =>
    rw [PyData.depthAll]
    have a := h x (by simp)
    have b := ih fun y hy => h y (by simp [hy])
    omega
theorem flat_t {xs : List PyData} (h : ∀ x ∈ xs, Fl1 x) : flat? (.tuple xs) = true := by
  unfold flat?
  rw [PyData.plain, plainAll_of fun x hx => (h x hx).1, PyData.depth]
  have := depthAll_of fun x hx => (h x hx).2
  exact decide_eq_true (by omega)
theorem fl_int (i : Int) : Fl1 (.int i) := ⟨rfl, by rw [PyData.depth]; omega⟩
theorem PotAt.mono {b b' : Nat} {S : Store} {i : Nat} (h : PotAt b S i) (hb : b ≤ b') : PotAt b' S i := by
  obtain ⟨g, m, c, h1, h2, h3, h4, h5, h6⟩ := h
  exact ⟨g, m, c, h1, h2, h3, h4, h5, by omega⟩
theorem PotAt.lt {b : Nat} {S : Store} {i : Nat} (h : PotAt b S i) : i < S.length := by
  obtain ⟨g, m, c, h1, _⟩ := h
  exact (List.getElem?_eq_some_iff.mp h1).1
theorem PotAt.left {b : Nat} {S T : Store} {i : Nat} (h : PotAt b (S ++ T) i) (hi : i < S.length) : PotAt b S i := by
  obtain ⟨g, m, c, h1, h2⟩ := id h
  rw [List.getElem?_append_left hi] at h1
  exact ⟨g, m, c, h1, h2⟩
theorem erase_perm {α : Type} {l : List α} {k : Nat} (h : k < l.length) : (l[k] :: l.eraseIdx k).Perm l := by
  rw [List.eraseIdx_eq_take_drop_succ]
  have e : l = l.take k ++ l[k] :: l.drop (k + 1) := by
    rw [← List.drop_eq_getElem_cons h, List.take_append_drop]
  exact (List.perm_middle.symm).trans (List.Perm.of_eq e.symm)
end Mi
end
section
namespace Mi
open PySem
abbrev dI (n : Nat) : PyData := .int (n : Int)
def dT (o : List Nat) : PyData := .tuple (o.map dI)
def sortN (o : List Nat) : List Nat := o.mergeSort fun a b => decide (a ≤ b)
theorem sortN_perm (o : List Nat) : (sortN o).Perm o := List.mergeSort_perm o _
theorem sortN_sorted (o : List Nat) : (sortN o).Pairwise (· ≤ ·) := by
  have := List.pairwise_mergeSort (le := fun a b : Nat => decide (a ≤ b)) (fun a b c h1 h2 => by simp at h1 h2 ⊢; omega) (fun a b => by simp; omega) o
  exact this.imp fun h => by simpa using h
theorem sortN_mem {o : List Nat} {x : Nat} : x ∈ sortN o ↔ x ∈ o := (sortN_perm o).mem_iff
theorem dataLe_nat (a b : Nat) : PySem.W.dataLe false (fun d : PyData => d) (dI a) (dI b) = decide (a ≤ b) := by
  have h := congrFun (congrFun (PySem.W.dataLe_int (fun n : Nat => (n : Int))) a) b
  have h2 : PySem.W.dataLe false (fun d : PyData => d) (dI a) (dI b) = decide ((a : Int) ≤ (b : Int)) := h
  rw [h2]
  simp
theorem sortD_nat (o : List Nat) : sortD (o.map dI) = (sortN o).map dI := by
  unfold sortD sortN
  exact (PySem.W.sort_maps dI fun a _ b _ => (dataLe_nat a b).symm).symm
theorem sortOk_nat (o : List Nat) : sortOk (o.map dI) = true := by
  unfold sortOk
  simp [PySem.W.alike, notTup, PyData.depth]
theorem pSorted_nl (o : List Nat) : pSorted (.list (o.map dI)) = .ok (.list ((sortN o).map dI)) := by
  unfold pSorted its?
  simp [sortOk_nat, sortD_nat]
theorem pSorted_t (o : List Nat) : pSorted (.tuple (o.map dI)) = .ok (.list ((sortN o).map dI)) := by
  unfold pSorted its?
  simp [sortOk_nat, sortD_nat]
theorem cut_from {α : Type} (xs : List α) (k : Nat) (h : k ≤ xs.length) : cut xs (some (k : Int)) none = xs.drop k := by
  have e : sIx xs.length 0 (some (k : Int)) = k := by
    show (if (k : Int) < 0 then max ((k : Int) + (xs.length : Int)) 0 else min (k : Int) (xs.length : Int)).toNat = k
    rw [if_neg (by omega)]
    omega
  unfold cut
  rw [e]
  exact List.take_of_length_le (by simp [sIx])
theorem eqv_nat (a b : Nat) : PyData.eqv (dI a) (dI b) = decide (a = b) := by
  rw [PyData.eqv]
  by_cases h : a = b
  · subst h
    simp
  · have h2 : ¬ (a : Int) = (b : Int) := by omega
    simp [h, h2]
theorem inItems_nat (x : Nat) (o : List Nat) : inItems (dI x) (o.map dI) = decide (x ∈ o) := by
  unfold inItems
  induction o with
  | nil => rfl
  | cons y o ih =>
    rw [List.map_cons, List.any_cons, ih, eqv_nat]
    by_cases h : y = x
    · subst h
      simp
    · simp [h, Ne.symm h]
theorem fl_dT (o : List Nat) : Fl1 (dT o) := by
  refine ⟨?_, ?_⟩
  · unfold dT
    rw [PyData.plain]
    exact plainAll_of fun x hx => by
      obtain ⟨n, _, rfl⟩ := List.mem_map.mp hx
      rfl
  · unfold dT
    rw [PyData.depth]
    have := depthAll_of (xs := o.map dI) (n := 0) fun x hx => by
      obtain ⟨n, _, rfl⟩ := List.mem_map.mp hx
      rw [PyData.depth]
      omega
    omega
theorem flat_nats (o : List Nat) : flat? (.tuple (o.map dI)) = true := flat_t fun x hx => by
  obtain ⟨n, _, rfl⟩ := List.mem_map.mp hx
  exact fl_int _
theorem flat_int (i : Int) : flat? (.int i) = true := by
  unfold flat?
  rw [PyData.depth]
  rfl
theorem pIn_nat (x : Nat) (o : List Nat) : pIn (dI x) (dT o) = .ok (.bool (decide (x ∈ o))) := by
  unfold dT
  show when_ (flat? (dI x) && flat? (.tuple (o.map dI))) _ = _
  rw [flat_int, flat_nats, inItems_nat]
  rfl
theorem pEq_int (a b : Int) : pEq (.int a) (.int b) = .ok (.bool (decide (a = b))) := by
  unfold pEq
  rw [flat_int, flat_int]
  simp [PyData.eqv]
  rfl
theorem pNe_int (a b : Int) : pNe (.int a) (.int b) = .ok (.bool (!decide (a = b))) := by
  unfold pNe
  rw [flat_int, flat_int]
  simp [PyData.eqv]
  rfl
theorem pEq_self {d : PyData} (h : Fl1 d) : pEq d d = .ok (.bool true) := by
  unfold pEq flat?
  have := h.2
  rw [PySem.SeqAt.eqv_refl_plain d h.1, h.1, decide_eq_true (show d.depth ≤ 1000 by omega)]
  rfl
def Ord (o : List Nat) : Prop := o.Perm (List.range o.length)
theorem Ord.nodup {o : List Nat} (h : Ord o) : o.Nodup := h.nodup_iff.mpr List.nodup_range
theorem Ord.mem {o : List Nat} (h : Ord o) {x : Nat} : x ∈ o ↔ x < o.length := by rw [h.mem_iff, List.mem_range]
theorem Ord.idx_lt {o : List Nat} (h : Ord o) {x : Nat} (hx : x < o.length) : o.idxOf x < o.length := List.idxOf_lt_length_iff.mpr (h.mem.mpr hx)
theorem Ord.idx_at {o : List Nat} (h : Ord o) {i : Nat} (hi : i < o.length) : o.idxOf o[i] = i := h.nodup.idxOf_getElem i hi
theorem Ord.at_idx {o : List Nat} (h : Ord o) {x : Nat} (hx : x < o.length) : o[o.idxOf x]'(h.idx_lt hx) = x := List.getElem_idxOf (h.idx_lt hx)
theorem Ord.at_lt {o : List Nat} (h : Ord o) {i : Nat} (hi : i < o.length) : o[i] < o.length := h.mem.mp (List.getElem_mem hi)
def beats (o : List Nat) (k : Nat) : List Nat := sortN (o.drop (o.idxOf k + 1))
def tab (o : List Nat) : List (List Nat) := (List.range o.length).map (beats o)
theorem Ord.mem_beats {o : List Nat} (h : Ord o) {k x : Nat} (hk : k < o.length) : x ∈ beats o k ↔ x < o.length ∧ o.idxOf k < o.idxOf x := by
  unfold beats
  rw [sortN_mem, List.mem_drop_iff_getElem]
  constructor
  · rintro ⟨i, hi, rfl⟩
    refine ⟨h.at_lt _, ?_⟩
    rw [h.idx_at]
    omega
  · rintro ⟨hx, hi⟩
    have hl := h.idx_lt hx
    refine ⟨o.idxOf x - (o.idxOf k + 1), by omega, ?_⟩
    have e : o.idxOf k + 1 + (o.idxOf x - (o.idxOf k + 1)) = o.idxOf x := by omega
    simp only [e]
    exact h.at_idx hx
end Mi
end
section
namespace Mi
open PySem
noncomputable section
end
theorem numD_at' : ∀ (k : Nat) (xs : List PyData) (i : Nat), (numD k xs)[i]? = xs[i]?.map fun x => .tuple [dI (k + i), x]
  | _, [], i => by simp [numD]
  | k, x :: xs, 0 => by simp [numD]
  | k, x :: xs, i + 1 => by
    show (numD (k + 1) xs)[i]? = _
    rw [numD_at' (k + 1) xs i, List.getElem?_cons_succ]
    have e : k + 1 + i = k + (i + 1) := by omega
    rw [e]
theorem fn_data {np slots : Nat} {body : Sm} {ds : List D} {S S1 : Store} {σ1 : Env} {d : PyData} (hl : ds.length = np) (hb : body (start slots ds) S = .ok (.rt (.p d), σ1, S1)) (hS : S1.take S.length = S) : fnOf fin np slots body ds S = .ok (.p d, S) := by
  rw [ev_fn hl hb, hS]
theorem tab_at {o : List Nat} {k : Nat} (hk : k < o.length) : (tab o)[k]? = some (beats o k) := by
  unfold tab
  rw [List.getElem?_map, List.getElem?_range hk]
  rfl
theorem tab_len (o : List Nat) : (tab o).length = o.length := by simp [tab]
end Mi
end
section
namespace Mi
open PySem
section
variable {tg : Tg} {g : List (Nat × Cell)}
end
theorem beats_len {o : List Nat} (h : Ord o) {k : Nat} (hk : k < o.length) : (beats o k).length = o.length - 1 - o.idxOf k := by
  unfold beats
  rw [(sortN_perm _).length_eq, List.length_drop]
  have := h.idx_lt hk
  omega
theorem pSorted_of {xs ys : List PyData} (h1 : sortOk xs = true) (h2 : sortD xs = ys) : pSorted (.list xs) = .ok (.list ys) := by
  unfold pSorted its?
  simp [h1, h2]
theorem bools_true (n : Nat) {α : Type} (xs : List α) : bools? (xs.map fun _ => PyData.bool true) = some (xs.map fun _ => true) := by
  induction xs with
  | nil => rfl
  | cons x xs ih => simp [bools?, ih]
theorem pAll_true {α : Type} (xs : List α) : pAll (.list (xs.map fun _ => PyData.bool true)) = .ok (.bool true) := by
  show orNo _ = _
  rw [bools_true 0]
  simp
end Mi
end
section
namespace Mi
open PySem
noncomputable section
def bIsInteger : Sm := sRet (mAnd (mO1 (pIsa "int") (mV 0)) (mAnd (mO1 pNot (mO1 (pIsa "bool") (mV 0))) (mCh pLe pLe (mV 1) (mV 0) (mV 2))))
def fIsInteger : Fn := fnOf fin 3 3 bIsInteger
end
theorem ev_ch {f g : PyData → PyData → R PyData} {a b c : Ex} {σ : Env} {S : Store} {u v w z : PyData} (ha : a σ S = .ok (.p u, S)) (hb : b σ S = .ok (.p v, S)) (hc : c σ S = .ok (.p w, S)) (hf : f u v = .ok (.bool true)) (hg : g v w = .ok z) : mCh f g a b c σ S = .ok (.p z, S) := by
  unfold mCh
  rw [bd_of ha, bd_of hb, bx_of (dv_p _ _), bx_of (dv_p _ _), bx_of hf]
  dsimp only
  rw [bd_of hc, bx_of (dv_p _ _), bx_of (dv_p _ _), bx_of hg]
theorem ev_andT {a b : Ex} {σ : Env} {S : Store} {r : R (D × Store)} (ha : a σ S = .ok (.p (.bool true), S)) (hb : b σ S = r) : mAnd a b σ S = r := by
  unfold mAnd
  rw [bd_of ha, ← hb]
theorem isInteger_ok {v : Nat} {l h : Int} (h1 : l ≤ v) (h2 : (v : Int) ≤ h) (S : Store) : fIsInteger [.p (dI v), .p (.int l), .p (.int h)] S = .ok (.p (.bool true), S) := by
  refine fn_data (S1 := S) (σ1 := [some (.p (dI v)), some (.p (.int l)), some (.p (.int h))]) rfl ?_ (by simp)
  unfold bIsInteger
  refine ev_ret (ev_andT (ev_P1 (ev_V rfl) rfl) (ev_andT (ev_P1 (u := .bool false) (ev_P1 (ev_V rfl) rfl) rfl) (ev_ch (ev_V rfl) (ev_V rfl) (ev_V rfl) ?_ ?_)))
  · simp [pLe, h1]
  · simp [pLe, h2]
theorem isTuple_dT (b : List Nat) : pIsa "tuple" (dT b) = .ok (.bool true) := by
  show when_ ((dT b).plain || _) _ = _
  rw [(fl_dT b).1]
  rfl
theorem beats_pair {o : List Nat} (h : Ord o) (k : Nat) : (beats o k).Pairwise (· < ·) := by
  unfold beats
  have h1 := sortN_sorted (o.drop (o.idxOf k + 1))
  have h2 : (sortN (o.drop (o.idxOf k + 1))).Nodup := (sortN_perm _).nodup_iff.mpr (h.nodup.sublist (List.drop_sublist _ _))
  have := h1.and h2
  exact this.imp fun ⟨a, b⟩ => by omega
end Mi
end
section
namespace Mi
open PySem
theorem sz_app (a b : Str) : (a ++ b).length = a.length + b.length := by
  show (a.cps ++ b.cps).size = _
  rw [Array.size_append]
  rfl
theorem sum_le {B : Nat} : ∀ ts : List Str, (∀ t ∈ ts, t.length ≤ B) → (ts.map (·.length)).sum ≤ ts.length * B
  | [], _ => by simp
  | t :: ts, h => by
    have h1 := h t (by simp)
    have h2 := sum_le ts fun u hu => h u (by simp [hu])
    simp only [List.map_cons, List.sum_cons, List.length_cons, Nat.succ_mul]
    omega
theorem shown_all {B : Nat} : ∀ xs : List PyData, (∀ x ∈ xs, x.shown.length ≤ B) → (∀ t ∈ PyData.shownAll xs, t.length ≤ B) ∧ (PyData.shownAll xs).length = xs.length
  | [], _ => by simp [PyData.shownAll]
  | x :: xs, h => by
    obtain ⟨h1, h2⟩ := shown_all xs fun u hu => h u (by simp [hu])
    rw [PyData.shownAll]
    refine ⟨fun t ht => ?_, by simp [h2]⟩
    rcases List.mem_cons.mp ht with rfl | ht
    · exact h x (by simp)
    · exact h1 t ht
theorem shown_tuple_le {B : Nat} {xs : List PyData} (h : ∀ x ∈ xs, x.shown.length ≤ B) : (PyData.tuple xs).shown.length ≤ 4 + xs.length * (B + 2) := by
  obtain ⟨h1, h2⟩ := shown_all xs h
  rw [PyData.shown]
  unfold tupleText
  rw [sz_app, sz_app]
  have hj := StrLaws.join_length_le (Str.ofString ", ") (PyData.shownAll xs)
  have hs := sum_le _ h1
  have l1 : (Str.ofString "(").length = 1 := by decide +kernel
  have l2 : (Str.ofString ", ").length = 2 := by decide +kernel
  have l3 : (Str.ofString (if (PyData.shownAll xs).length == 1 then ",)" else ")")).length ≤ 2 := by
    split <;> decide +kernel
  rw [h2] at hj hs l3
  rw [l2] at hj
  rw [l1, h2]
  have e : xs.length * (B + 2) = xs.length * B + xs.length * 2 := Nat.mul_add _ _ _
  omega
theorem shown_small : ∀ n : Fin 100, (PyData.int ((n.val : Nat) : Int)).shown.length ≤ 2 := by decide +kernel
theorem shown_nat {n : Nat} (h : n < 100) : (dI n).shown.length ≤ 2 := shown_small ⟨n, h⟩
theorem showableAll_of {xs : List PyData} (h : ∀ x ∈ xs, x.showable = true) : PyData.showableAll xs = true := by
  induction xs with
  | nil => rfl
  | cons x xs ih =>
    rw [PyData.showableAll, h x (by simp), ih fun y hy => h y (by simp [hy])]
    rfl
theorem hasDictAll_of {xs : List PyData} (h : ∀ x ∈ xs, x.hasDict = false) : PyData.hasDictAll xs = false := by
  induction xs with
  | nil => rfl
  | cons x xs ih =>
    rw [PyData.hasDictAll, h x (by simp), ih fun y hy => h y (by simp [hy])]
    rfl
structure Nice (d : PyData) (dp B : Nat) : Prop where
  sh : d.showable = true
  hd : d.hasDict = false
  pl : d.plain = true
  dp : d.depth ≤ dp
  sz : d.shown.length ≤ B
theorem Nice.tuple {xs : List PyData} {dp B n : Nat} (h : ∀ x ∈ xs, Nice x dp B) (hn : xs.length ≤ n) : Nice (.tuple xs) (dp + 1) (4 + n * (B + 2)) := by
  refine ⟨?_, ?_, ?_, ?_, Nat.le_trans (shown_tuple_le fun x hx => (h x hx).sz) ?_⟩
  · rw [PyData.showable]
    exact showableAll_of fun x hx => (h x hx).sh
  · rw [PyData.hasDict]
    exact hasDictAll_of fun x hx => (h x hx).hd
  · rw [PyData.plain]
    exact plainAll_of fun x hx => (h x hx).pl
  · rw [PyData.depth]
    have := depthAll_of fun x hx => (h x hx).dp
    omega
  · have := Nat.mul_le_mul_right (B + 2) hn
    omega
theorem showable_int {n : Nat} (h : n < 100) : (dI n).showable = true := by
  have : ∀ n : Fin 100, (PyData.int ((n.val : Nat) : Int)).showable = true := by decide +kernel
  exact this ⟨n, h⟩
theorem Nice.nat {n : Nat} (h : n < 100) : Nice (dI n) 0 2 := ⟨showable_int h, rfl, rfl, by rw [PyData.depth]; omega, shown_nat h⟩
theorem nice_dT {o : List Nat} (h : ∀ x ∈ o, x < 100) (hl : o.length ≤ 16) : Nice (dT o) 1 68 := by
  have := Nice.tuple (xs := o.map dI) (dp := 0) (B := 2) (n := 16) (fun x hx => by
    obtain ⟨n, hn, rfl⟩ := List.mem_map.mp hx
    exact Nice.nat (h n hn)) (by simpa using hl)
  exact this
theorem Nice.repr {xs : List PyData} {dp B : Nat} (h : Nice (.tuple xs) dp B) (hd : dp ≤ 1000) (hB : B ≤ 16777216) : pRepr (.tuple xs) = .ok (.str (PyData.tuple xs).shown) := by
  unfold pRepr
  have h1 := h.dp
  have h2 := h.sz
  rw [h.sh, h.hd, h.pl, decide_eq_true (show (PyData.tuple xs).depth ≤ 1000 by omega), decide_eq_true (show (PyData.tuple xs).shown.length ≤ Line by show _ ≤ 16777216; omega)]
  rfl
end Mi
end
section
namespace Mi
open PySem
section
variable {tg : Tg} {g : List (Nat × Cell)}
end
theorem idx_int (o : List Nat) (k : Nat) : (o.map (fun n : Nat => (n : Int))).idxOf (k : Int) = o.idxOf k := by
  induction o with
  | nil => rfl
  | cons x o ih =>
    rw [List.map_cons, List.idxOf_cons, List.idxOf_cons, ih]
    by_cases h : x = k
    · subst h
      rw [beq_self_eq_true, beq_self_eq_true]
    · have h2 : ¬ (x : Int) = (k : Int) := by omega
      have e1 : ((x : Int) == (k : Int)) = false := beq_eq_false_iff_ne.mpr h2
      have e2 : (x == k) = false := beq_eq_false_iff_ne.mpr h
      rw [e1, e2]
theorem pIndex_nat {o : List Nat} {k : Nat} (h : k ∈ o) : pIndex (dT o) (dI k) = .ok (.int (o.idxOf k : Nat)) := by
  have e : o.map dI = (o.map (fun n : Nat => (n : Int))).map .int := by rw [List.map_map]; rfl
  have hk : (k : Int) ∈ o.map (fun n : Nat => (n : Int)) := List.mem_map.mpr ⟨k, h, rfl⟩
  unfold dT
  rw [e]
  show bx (orNo ((items? (.tuple ((o.map (fun n : Nat => (n : Int))).map .int))).bind ints?)) (fun ns => when_ (decide ((k : Int) ∈ ns)) (R.ok (PyData.int (ns.idxOf (k : Int) : Nat)))) = _
  rw [items_tuple, Option.bind_some, ints_map, orNo_some, bx_of rfl, when_of (decide_eq_true hk), idx_int]
theorem pRgL_nat {n : Nat} (h : n ≤ 10000) : pRgL (.int 0) (dI n) = .ok (.list ((List.range n).map dI)) := by
  have e : rgD 0 (n : Int) = (List.range n).map dI := by
    unfold rgD
    simp
  have hc : rgOk 0 (n : Int) = true := by
    unfold rgOk
    exact decide_eq_true ⟨by omega, by omega, by omega, by omega, by omega⟩
  unfold pRgL
  dsimp only
  rw [hc, e]
  rfl
end Mi
end
section
namespace Mi
open PySem
def sq (b : Bool) (xs : List PyData) : PyData := match b with
  | true => .tuple xs
  | false => .list xs
end Mi
end
section
namespace Mi
open PySem
noncomputable section
end
def rl (r : Nat → Int) (a b : Nat) : Bool := decide (r a < r b ∨ (r a = r b ∧ a ≤ b))
def byRank (r : Nat → Int) (n : Nat) : List Nat := (List.range n).mergeSort (rl r)
theorem byRank_perm (r : Nat → Int) (n : Nat) : (byRank r n).Perm (List.range n) := List.mergeSort_perm _ _
theorem byRank_len (r : Nat → Int) (n : Nat) : (byRank r n).length = n := by rw [(byRank_perm r n).length_eq, List.length_range]
theorem byRank_ord (r : Nat → Int) (n : Nat) : Ord (byRank r n) := by
  unfold Ord
  rw [byRank_len]
  exact byRank_perm r n
theorem byRank_sorted (r : Nat → Int) (n : Nat) : (byRank r n).Pairwise fun a b => rl r a b = true := List.pairwise_mergeSort (fun a b c h1 h2 => by
    unfold rl at *
    rw [decide_eq_true_eq] at *
    omega) (fun a b => by
    unfold rl
    rw [Bool.or_eq_true, decide_eq_true_eq, decide_eq_true_eq]
    omega) _
theorem byRank_idx {r : Nat → Int} {n a b : Nat} (ha : a < n) (hb : b < n) : (byRank r n).idxOf a < (byRank r n).idxOf b ↔ (r a < r b ∨ (r a = r b ∧ a < b)) := by
  have ho := byRank_ord r n
  have hl := byRank_len r n
  have la := ho.idx_lt (x := a) (by omega)
  have lb := ho.idx_lt (x := b) (by omega)
  have ea := ho.at_idx (x := a) (by omega)
  have eb := ho.at_idx (x := b) (by omega)
  have hp := List.pairwise_iff_getElem.mp (byRank_sorted r n)
  constructor
  · intro h
    have := hp _ _ la lb h
    rw [ea, eb] at this
    unfold rl at this
    rw [decide_eq_true_eq] at this
    have hne : a ≠ b := by
      rintro rfl
      omega
    omega
  · intro h
    by_cases hlt : (byRank r n).idxOf a < (byRank r n).idxOf b
    · exact hlt
    · have hne : (byRank r n).idxOf a ≠ (byRank r n).idxOf b := fun e => by
        simp only [e] at ea
        have : a = b := ea.symm.trans eb
        subst this
        omega
      have := hp _ _ lb la (by omega)
      rw [ea, eb] at this
      unfold rl at this
      rw [decide_eq_true_eq] at this
      omega
theorem asc_eq {l m : List Nat} (h1 : l.Pairwise (· < ·)) (h2 : m.Pairwise (· < ·)) (h : ∀ x, x ∈ l ↔ x ∈ m) : l = m := by
  refine List.Perm.eq_of_pairwise (le := (· < ·)) (fun a b _ _ h1 h2 => by omega) h1 h2 ?_
  refine (List.perm_ext_iff_of_nodup ?_ ?_).mpr h
  · exact h1.imp fun h => by omega
  · exact h2.imp fun h => by omega
def far (ps : List (List Nat)) (s k : Nat) : Int := 0 - (((ps.getD k []).idxOf s : Nat) : Int)
end Mi
end
section
namespace Mi
open PySem
noncomputable section
def lnBody : Sm := sRet (mO1 pTuple (mComp [2] (iR1 (mV 0)) (gN 2) tYes (mO2 pMod (mO2 pAdd (mV 1) (mV 2)) (mV 0))))
def ln : Fn := fnOf fin 2 3 lnBody
def pbBody : Sm := sSeq (sIf (tE (mO2 pEq (mCall tk (aCons (mV 0) (aCons (mC (.int 3)) aNil))) (mC (.int 0)))) (sRet (mCall ln (aCons (mV 1) (aCons (mCall tk (aCons (mV 0) (aCons (mV 1) aNil))) aNil)))) (sPass))
        (sRet (mO1 pTuple (mCall mx (aCons (mV 0) (aCons (mO1 (pRgL (.int 0)) (mV 1)) aNil)))))
def pb : Fn := fnOf fin 2 2 pbBody
end
theorem textFrom_le {B : Nat} : ∀ (ts : List Str) (k : Nat) (acc : Str), (∀ t ∈ ts, t.length ≤ B) → (textFrom k acc ts).length ≤ acc.length + ts.length * (B + 2)
  | [], k, acc, _ => by simp [textFrom]
  | t :: ts, k, acc, h => by
    rw [textFrom]
    have h1 := h t (by simp)
    refine Nat.le_trans (textFrom_le ts (k + 1) _ fun u hu => h u (by simp [hu])) ?_
    rw [sz_app, sz_app]
    have l : (Str.ofString (if k > 0 then ", " else "" : String)).length ≤ 2 := by
      split <;> decide +kernel
    rw [List.length_cons, Nat.succ_mul]
    omega
theorem shown_list_le {B : Nat} {xs : List PyData} (h : ∀ x ∈ xs, x.shown.length ≤ B) : (PyData.list xs).shown.length ≤ 4 + xs.length * (B + 2) := by
  obtain ⟨h1, h2⟩ := shown_all xs h
  rw [PyData.shown]
  unfold listText
  rw [sz_app]
  have := textFrom_le (PyData.shownAll xs) 0 (Str.ofString "[") h1
  have l1 : (Str.ofString "[").length = 1 := by decide +kernel
  have l2 : (Str.ofString "]").length = 1 := by decide +kernel
  rw [h2, l1] at this
  rw [l2]
  omega
theorem Nice.list {xs : List PyData} {dp B n : Nat} (h : ∀ x ∈ xs, Nice x dp B) (hn : xs.length ≤ n) : Nice (.list xs) (dp + 1) (4 + n * (B + 2)) := by
  refine ⟨?_, ?_, ?_, ?_, Nat.le_trans (shown_list_le fun x hx => (h x hx).sz) ?_⟩
  · rw [PyData.showable]
    exact showableAll_of fun x hx => (h x hx).sh
  · rw [PyData.hasDict]
    exact hasDictAll_of fun x hx => (h x hx).hd
  · rw [PyData.plain]
    exact plainAll_of fun x hx => (h x hx).pl
  · rw [PyData.depth]
    have := depthAll_of fun x hx => (h x hx).dp
    omega
  · have := Nat.mul_le_mul_right (B + 2) hn
    omega
end Mi
end
section
namespace Mi.L
open PySem Mi
noncomputable section
def b_insert : Sm := sSeq (sIf (tE (mIn (mV 3) (mV 2))) (sNever) (sPass))
        (sSeq (sIf (tE (mNotIn (mC (.int (-1))) (mV 2))) (sNever) (sPass))
        (sSeq (sPar [4, 5] (aCons (mNew (mO1 pList (mV 2))) (aCons (mNew (mLst aNil)) aNil)))
        (sSeq (sPar [6, 7] (aCons (mV 3) (aCons (mC (.int 0)) aNil)))
        (sWhile (tE (mC (.bool true))) (sSeq (sAsg 8 (mIx (mIx (mV 0) (mV 6)) (mV 7)))
        (sSeq (sAsg 9 (mIx (mV 4) (mV 8)))
        (sSeq (sIf (tOr (tE (mO2 pEq (mV 9) (mC (.int (-1))))) (tE (mIn (mV 9) (mIx (mIx (mV 1) (mV 8)) (mV 6))))) (sSeq (sSetL (mV 4) (mV 8) (mV 6))
        (sSeq (sDrop (mAppend (mV 5) (mTup (aCons (mV 6) (aCons (mV 8) aNil)))))
        (sSeq (sIf (tE (mO2 pEq (mV 9) (mC (.int (-1))))) (sRet (mTup (aCons (mO1 pTuple (mV 4)) (aCons (mO1 pTuple (mV 5)) aNil)))) (sPass))
        (sPar [6, 7] (aCons (mV 9) (aCons (mIndex (mIx (mV 0) (mV 9)) (mV 8)) aNil)))))) (sPass))
        (sAug 7 pAddI (mC (.int 1))))))))))
def f_insert : Fn := fnOf fin 4 10 b_insert
def b_layout_of : Sm := sSeq (sAsg 3 (mO2 pMul (mTup (aCons (mC (.int (-1))) aNil)) (mLen (mV 1))))
        (sSeq (sFor (iE (mV 2)) (gN 4) (sAsg 3 (mIx (mCall Mi.L.f_insert (aCons (mV 0) (aCons (mV 1) (aCons (mV 3) (aCons (mV 4) aNil))))) (mC (.int 0)))))
        (sRet (mV 3)))
def f_layout_of : Fn := fnOf fin 3 5 b_layout_of
end
end Mi.L
end
section
namespace Mi
open PySem
end Mi
end
section
namespace Mi
open PySem
def dd : List Int → List Int
  | [] => []
  | x :: xs => if x ∈ xs then dd xs else x :: dd xs
def mSetLen (a : Ex) : Ex := fun σ S => bd (a σ S) fun x S1 => bx (dv S1 x) fun u => match u with
  | .tuple xs => bx (orNo (ints? xs)) fun ns => when_ (decide (ns.length ≤ 1000)) (.ok (.p (.int (dd ns).length), S1))
  | _ => .no
def mSetLenD (i : Nat) (a : Ex) : Ex := fun σ S => when_ (decide (i < σ.length)) (mSetLen a σ S)
theorem dd_le : ∀ xs : List Int, (dd xs).length ≤ xs.length
  | [] => Nat.le_refl _
  | x :: xs => by
    rw [dd]
    have := dd_le xs
    split
    · rw [List.length_cons]; omega
    · rw [List.length_cons, List.length_cons]; omega
theorem mem_dd {x : Int} : ∀ {xs : List Int}, x ∈ dd xs ↔ x ∈ xs
  | [] => Iff.rfl
  | y :: xs => by
    rw [dd]
    split
    · rename_i h
      rw [mem_dd, List.mem_cons]
      exact ⟨.inr, fun z => z.elim (fun e => e ▸ h) id⟩
    · rw [List.mem_cons, List.mem_cons, mem_dd]
theorem nodup_dd : ∀ xs : List Int, (dd xs).Nodup
  | [] => List.nodup_nil
  | y :: xs => by
    rw [dd]
    split
    · exact nodup_dd xs
    · rename_i h
      rw [List.nodup_cons, mem_dd]
      exact ⟨h, nodup_dd xs⟩
theorem dd_len {xs ys : List Int} (hn : ys.Nodup) (h : ∀ x, x ∈ ys ↔ x ∈ xs) : ys.length = (dd xs).length :=
  ((List.perm_ext_iff_of_nodup hn (nodup_dd xs)).mpr fun x => (h x).trans mem_dd.symm).length_eq
end Mi
end
section
namespace Mi
open PySem
def At (σ : Env) (k : Nat) (d : D) : Prop := σ[k]? = some (some d)
theorem At.ne {σ : Env} {j k : Nat} {d : D} {x : Option D} (h : At σ k d) (hj : j ≠ k) : At (σ.set j x) k d := by
  unfold At at *
  rw [List.getElem?_set_ne hj]
  exact h
theorem At.eq {σ : Env} {k : Nat} {d : D} (h : k < σ.length) : At (σ.set k (some d)) k d := by
  unfold At
  rw [List.getElem?_set_self h]
end Mi
end
section
namespace Mi
open PySem
section
variable (a b c o k : Ex) (t t2 : Bx) (σ σ1 : Env) (S S1 : Store) (d d2 : D) (u v w : PyData) (i j m n : Nat) (xs ys : List PyData) (x y : Int) (p q : Bool)
def getV : Option (Option D) → Store → R (D × Store)
  | some (some d), S => .ok (d, S)
  | _, _ => .no
theorem au_C : mC u σ S = .ok (.p u, S) := rfl
theorem au_V : mV i σ S = getV σ[i]? S := by
  unfold mV
  cases h : σ[i]? with
  | none => rfl
  | some o => cases o <;> rfl
theorem au_getV : getV (some (some d)) S = .ok (d, S) := rfl
def dvC : Option Cell → R PyData
  | some (.lst xs) => .ok (.list xs)
  | some (.flst xs) => .ok (.list xs)
  | some (.dct _ kvs) => .ok (.dict kvs)
  | some (.fdct _ kvs) => .ok (.dict kvs)
  | some (.nst _ _) => .no
  | some (.tab _ _) => .no
  | some (.tdc _) => .no
  | some (.tdv _ _) => .no
  | some .dead => .no
  | none => .no
theorem au_dvR : dv S (.ref i) = dvC S[i]? := by
  cases h : S[i]? with
  | none => simp [dv, dvC, h]
  | some o => cases o <;> simp [dv, dvC, h]
theorem au_dvD (b0 : Bool) (kvs : List (PyData × PyData)) : dvC (some (.dct b0 kvs)) = .ok (.dict kvs) := rfl
theorem au_dvC : dvC (some (.lst xs)) = .ok (.list xs) := rfl
theorem au_dvF : dvC (some (.flst xs)) = .ok (.list xs) := rfl
def retP (S : Store) (z : PyData) : R (D × Store) := .ok (.p z, S)
theorem au_retP : retP S u = .ok (.p u, S) := rfl
def o1b (f : PyData → R PyData) (S : Store) (u : PyData) : R (D × Store) := bx (f u) (retP S)
def o1a (f : PyData → R PyData) (x : D) (S : Store) : R (D × Store) := bx (dv S x) (o1b f S)
theorem au_O1 (f : PyData → R PyData) : mO1 f a σ S = bd (a σ S) (o1a f) := rfl
theorem au_o1a (f : PyData → R PyData) : o1a f d S = bx (dv S d) (o1b f S) := rfl
theorem au_o1b (f : PyData → R PyData) : o1b f S u = bx (f u) (retP S) := rfl
def o2d (f : PyData → PyData → R PyData) (u : PyData) (S : Store) (v : PyData) : R (D × Store) := bx (f u v) (retP S)
def o2c (f : PyData → PyData → R PyData) (y : D) (S : Store) (u : PyData) : R (D × Store) := bx (dv S y) (o2d f u S)
def o2b (f : PyData → PyData → R PyData) (x y : D) (S : Store) : R (D × Store) := bx (dv S x) (o2c f y S)
def o2a (f : PyData → PyData → R PyData) (b : Ex) (σ : Env) (x : D) (S : Store) : R (D × Store) := bd (b σ S) (o2b f x)
theorem au_O2 (f : PyData → PyData → R PyData) : mO2 f a b σ S = bd (a σ S) (o2a f b σ) := rfl
theorem au_o2a (f : PyData → PyData → R PyData) : o2a f b σ d S = bd (b σ S) (o2b f d) := rfl
theorem au_o2b (f : PyData → PyData → R PyData) : o2b f d d2 S = bx (dv S d) (o2c f d2 S) := rfl
theorem au_o2c (f : PyData → PyData → R PyData) : o2c f d S u = bx (dv S d) (o2d f u S) := rfl
theorem au_o2d (f : PyData → PyData → R PyData) : o2d f u S v = bx (f u v) (retP S) := rfl
def ixd (t : Bool) (kvs : List (PyData × PyData)) (S : Store) (v : PyData) : R (D × Store) := when_ (!t && keyOk t v) (bx (orNo (look kvs v)) (retP S))
theorem au_ixd (kvs : List (PyData × PyData)) : ixd p kvs S v = when_ (!p && keyOk p v) (bx (orNo (look kvs v)) (retP S)) := rfl
def ixb (u : PyData) (S : Store) (v : PyData) : R (D × Store) := bx (pIx u v) (retP S)
def ixC : Option Cell → D → Store → R (D × Store)
  | some (.lst xs), y, S => bx (dv S y) (ixb (.list xs) S)
  | some (.flst xs), y, S => bx (dv S y) (ixb (.list xs) S)
  | some (.dct t kvs), y, S => bx (dv S y) (ixd t kvs S)
  | some (.fdct t kvs), y, S => bx (dv S y) (ixd t kvs S)
  | some (.nst _ _), y, S => .no
  | some (.tab _ _), y, S => .no
  | some (.tdc _), y, S => .no
  | some (.tdv _ _), y, S => .no
  | some .dead, y, S => .no
  | none, y, S => .no
def ixK : D → D → Store → R (D × Store)
  | .p u, y, S => bx (dv S y) (ixb u S)
  | .scr ns, y, S => bx (dv S y) (ixb (.list (ns.map .int)) S)
  | .ref i, y, S => ixC S[i]? y S
  | .rows _ _ _, y, S => .no
  | .fn _ _ _, y, S => .no
  | .exn _, y, S => .no
def ixa (b : Ex) (σ : Env) (x : D) (S : Store) : R (D × Store) := bd (b σ S) (ixK x)
theorem au_ixa : ixa b σ d S = bd (b σ S) (ixK d) := rfl
theorem au_ixb : ixb u S v = bx (pIx u v) (retP S) := rfl
theorem au_Ix : mIx a b σ S = bd (a σ S) (ixa b σ) := by
  show mIx a b σ S = bd (a σ S) fun x S1 => bd (b σ S1) fun y S2 => ixK x y S2
  unfold mIx
  congr 1
  funext x S1
  congr 1
  funext y S2
  cases x with
  | p u => rfl
  | scr ns => rfl
  | rows i n rs => rfl
  | fn f c q => rfl
  | exn x => rfl
  | ref i =>
    cases h : S2[i]? with
    | none => simp [dictOf, ixK, ixC, dvr, dv, h, bx]
    | some o => cases o <;> simp [dictOf, ixK, ixC, dvr, dv, h, ixb, ixd] <;> rfl
theorem au_ixP : ixK (.p u) d S = bx (dv S d) (ixb u S) := rfl
theorem au_ixS (ns : List Int) : ixK (.scr ns) d S = bx (dv S d) (ixb (.list (ns.map .int)) S) := rfl
theorem au_ixR : ixK (.ref i) d S = ixC S[i]? d S := rfl
theorem au_ixL : ixC (some (.lst xs)) d S = bx (dv S d) (ixb (.list xs) S) := rfl
theorem au_ixF : ixC (some (.flst xs)) d S = bx (dv S d) (ixb (.list xs) S) := rfl
theorem au_ixD (b0 : Bool) (kvs : List (PyData × PyData)) : ixC (some (.dct b0 kvs)) d S = bx (dv S d) (ixd b0 kvs S) := rfl
theorem au_ixFD (b0 : Bool) (kvs : List (PyData × PyData)) : ixC (some (.fdct b0 kvs)) d S = bx (dv S d) (ixd b0 kvs S) := rfl
def inC (f : PyData → PyData → R PyData) (neg : Bool) (u : PyData) : Option Cell → Store → R (D × Store)
  | some (.lst xs), S => bx (f u (.list xs)) (retP S)
  | some (.flst xs), S => bx (f u (.list xs)) (retP S)
  | some (.dct t kvs), S => when_ (!t && keyOk t u) (.ok (.p (.bool (neg ^^ hasKey kvs u)), S))
  | some (.fdct t kvs), S => when_ (!t && keyOk t u) (.ok (.p (.bool (neg ^^ hasKey kvs u)), S))
  | some (.nst _ _), S => .no
  | some (.tab _ _), S => .no
  | some (.tdc _), S => .no
  | some (.tdv _ _), S => .no
  | some .dead, S => .no
  | none, S => .no
def inK (f : PyData → PyData → R PyData) (neg : Bool) (u : PyData) : D → Store → R (D × Store)
  | .p v, S => bx (f u v) (retP S)
  | .ref i, S => inC f neg u S[i]? S
  | .scr _, _ => .no
  | .rows _ _ _, _ => .no
  | .fn _ _ _, _ => .no
  | .exn _, _ => .no
def inc (f : PyData → PyData → R PyData) (neg : Bool) (y : D) (S : Store) (u : PyData) : R (D × Store) := inK f neg u y S
def inb (f : PyData → PyData → R PyData) (neg : Bool) (x y : D) (S : Store) : R (D × Store) := bx (dv S x) (inc f neg y S)
def ina (f : PyData → PyData → R PyData) (neg : Bool) (b : Ex) (σ : Env) (x : D) (S : Store) : R (D × Store) := bd (b σ S) (inb f neg x)
theorem au_ina (f : PyData → PyData → R PyData) : ina f p b σ d S = bd (b σ S) (inb f p d) := rfl
theorem au_inb (f : PyData → PyData → R PyData) : inb f p d d2 S = bx (dv S d) (inc f p d2 S) := rfl
theorem au_inc (f : PyData → PyData → R PyData) : inc f p d S u = inK f p u d S := rfl
theorem au_In : mIn a b σ S = bd (a σ S) (ina pIn false b σ) := by
  show mIn a b σ S = bd (a σ S) fun x S1 => bd (b σ S1) fun y S2 => bx (dv S2 x) fun u => inK pIn false u y S2
  unfold mIn
  congr 1
  funext x S1
  congr 1
  funext y S2
  congr 1
  funext u
  cases y with
  | p u => rfl
  | scr ns => rfl
  | rows i n rs => rfl
  | fn f c q => rfl
  | exn x => rfl
  | ref i =>
    cases h : S2[i]? with
    | none => simp [dictOf, inK, inC, dv, h, bx]
    | some o => cases o <;> simp [dictOf, inK, inC, dv, h] <;> rfl
theorem au_NotIn : mNotIn a b σ S = bd (a σ S) (ina pNotIn true b σ) := by
  show mNotIn a b σ S = bd (a σ S) fun x S1 => bd (b σ S1) fun y S2 => bx (dv S2 x) fun u => inK pNotIn true u y S2
  unfold mNotIn
  congr 1
  funext x S1
  congr 1
  funext y S2
  congr 1
  funext u
  cases y with
  | p u => rfl
  | scr ns => rfl
  | rows i n rs => rfl
  | fn f c q => rfl
  | exn x => rfl
  | ref i =>
    cases h : S2[i]? with
    | none => simp [dictOf, inK, inC, dv, h, bx]
    | some o => cases o <;> simp [dictOf, inK, inC, dv, h] <;> rfl
theorem au_inP (f : PyData → PyData → R PyData) : inK f p u (.p v) S = bx (f u v) (retP S) := rfl
theorem au_inR (f : PyData → PyData → R PyData) : inK f p u (.ref i) S = inC f p u S[i]? S := rfl
theorem au_inL (f : PyData → PyData → R PyData) : inC f p u (some (.lst xs)) S = bx (f u (.list xs)) (retP S) := rfl
theorem au_inFL (f : PyData → PyData → R PyData) : inC f p u (some (.flst xs)) S = bx (f u (.list xs)) (retP S) := rfl
theorem au_inD (f : PyData → PyData → R PyData) (b0 : Bool) (kvs : List (PyData × PyData)) : inC f p u (some (.dct b0 kvs)) S = when_ (!b0 && keyOk b0 u) (.ok (.p (.bool (p ^^ hasKey kvs u)), S)) := rfl
theorem au_inFD (f : PyData → PyData → R PyData) (b0 : Bool) (kvs : List (PyData × PyData)) : inC f p u (some (.fdct b0 kvs)) S = when_ (!b0 && keyOk b0 u) (.ok (.p (.bool (p ^^ hasKey kvs u)), S)) := rfl
def lenC : Option Cell → Store → R (D × Store)
  | some (.lst xs), S => .ok (.p (.int xs.length), S)
  | some (.flst xs), S => .ok (.p (.int xs.length), S)
  | some (.dct _ xs), S => .ok (.p (.int xs.length), S)
  | some (.fdct _ xs), S => .ok (.p (.int xs.length), S)
  | _, _ => .no
def lenK : D → Store → R (D × Store)
  | .p u, S => bx (pLen u) (retP S)
  | .scr ns, S => .ok (.p (.int ns.length), S)
  | .ref i, S => lenC S[i]? S
  | .rows _ _ _, S => .no
  | .fn _ _ _, S => .no
  | .exn _, S => .no
theorem au_Len : mLen a σ S = bd (a σ S) lenK := by
  unfold mLen
  congr 1
  funext x S1
  cases x with
  | p u => rfl
  | scr ns => simp [lenK, dvr, bx, pLen]
  | rows i n rs => rfl
  | fn f c q => rfl
  | exn x => rfl
  | ref i =>
    cases h : S1[i]? with
    | none => simp [lenK, lenC, dvr, dv, h, bx]
    | some o => cases o <;> simp [lenK, lenC, dvr, dv, h, bx, pLen]
theorem au_lenP : lenK (.p u) S = bx (pLen u) (retP S) := rfl
theorem au_lenS (ns : List Int) : lenK (.scr ns) S = .ok (.p (.int ns.length), S) := rfl
theorem au_lenR : lenK (.ref i) S = lenC S[i]? S := rfl
theorem au_lenL : lenC (some (.lst xs)) S = .ok (.p (.int xs.length), S) := rfl
theorem au_lenF : lenC (some (.flst xs)) S = .ok (.p (.int xs.length), S) := rfl
theorem au_lenD (b0 : Bool) (kvs : List (PyData × PyData)) : lenC (some (.dct b0 kvs)) S = .ok (.p (.int kvs.length), S) := rfl
theorem au_pLenL : pLen (.list xs) = .ok (.int xs.length) := rfl
theorem au_pLenT : pLen (.tuple xs) = .ok (.int xs.length) := rfl
def chK (g : PyData → PyData → R PyData) (c : Ex) (σ : Env) (S2 : Store) (y : D) : PyData → R (D × Store)
  | .bool t => if t = true then bd (c σ S2) (o2b g y) else .ok (.p (.bool false), S2)
  | _ => .no
def chd (f g : PyData → PyData → R PyData) (c : Ex) (σ : Env) (y : D) (S : Store) (u v : PyData) : R (D × Store) := bx (f u v) (chK g c σ S y)
def chc (f g : PyData → PyData → R PyData) (c : Ex) (σ : Env) (y : D) (S : Store) (u : PyData) : R (D × Store) := bx (dv S y) (chd f g c σ y S u)
def chb (f g : PyData → PyData → R PyData) (c : Ex) (σ : Env) (x y : D) (S : Store) : R (D × Store) := bx (dv S x) (chc f g c σ y S)
def cha (f g : PyData → PyData → R PyData) (b c : Ex) (σ : Env) (x : D) (S : Store) : R (D × Store) := bd (b σ S) (chb f g c σ x)
theorem au_cha (f g : PyData → PyData → R PyData) : cha f g b c σ d S = bd (b σ S) (chb f g c σ d) := rfl
theorem au_chb (f g : PyData → PyData → R PyData) : chb f g c σ d d2 S = bx (dv S d) (chc f g c σ d2 S) := rfl
theorem au_chc (f g : PyData → PyData → R PyData) : chc f g c σ d S u = bx (dv S d) (chd f g c σ d S u) := rfl
theorem au_chd (f g : PyData → PyData → R PyData) : chd f g c σ d S u v = bx (f u v) (chK g c σ S d) := rfl
theorem au_Ch (f g : PyData → PyData → R PyData) : mCh f g a b c σ S = bd (a σ S) (cha f g b c σ) := by
  show mCh f g a b c σ S = bd (a σ S) fun x S1 => bd (b σ S1) fun y S2 => bx (dv S2 x) fun u => bx (dv S2 y) fun v => bx (f u v) fun z => chK g c σ S2 y z
  unfold mCh chK
  congr 1
  funext x S1
  congr 1
  funext y S2
  congr 1
  funext u
  congr 1
  funext v
  congr 1
  funext z
  cases z with
  | bool t => cases t <;> rfl
  | _ => rfl
theorem au_chK (g : PyData → PyData → R PyData) : chK g c σ S d (.bool p) = if p = true then bd (c σ S) (o2b g d) else .ok (.p (.bool false), S) := rfl
def tEK : D → Store → R (Bool × Store)
  | .p (.bool b), S => .ok (b, S)
  | _, _ => .no
theorem au_tE : tE a σ S = bd (a σ S) tEK := by
  unfold tE
  congr 1
  funext x S1
  cases x with
  | p u => cases u <;> rfl
  | _ => rfl
theorem au_tEK : tEK (.p (.bool p)) S = .ok (p, S) := rfl
def tAndK (t2 : Bx) (σ : Env) (x : Bool) (S : Store) : R (Bool × Store) := if x = true then t2 σ S else .ok (false, S)
def tOrK (t2 : Bx) (σ : Env) (x : Bool) (S : Store) : R (Bool × Store) := if x = true then .ok (true, S) else t2 σ S
def tNotK (x : Bool) (S : Store) : R (Bool × Store) := .ok (!x, S)
theorem au_tAnd : tAnd t t2 σ S = bd (t σ S) (tAndK t2 σ) := rfl
theorem au_tOr : tOr t t2 σ S = bd (t σ S) (tOrK t2 σ) := rfl
theorem au_tNot : Mi.tNot t σ S = bd (t σ S) tNotK := rfl
theorem au_tAndK : tAndK t σ p S = if p = true then t σ S else .ok (false, S) := rfl
theorem au_tOrK : tOrK t σ p S = if p = true then .ok (true, S) else t σ S := rfl
theorem au_tNotK : tNotK p S = .ok (!p, S) := rfl
theorem au_tYes : tYes σ S = .ok (true, S) := rfl
def andK (b : Ex) (σ : Env) : D → Store → R (D × Store)
  | .p (.bool q), S => if q = true then b σ S else .ok (.p (.bool false), S)
  | _, _ => .no
def orK (b : Ex) (σ : Env) : D → Store → R (D × Store)
  | .p (.bool q), S => if q = true then .ok (.p (.bool true), S) else b σ S
  | _, _ => .no
theorem au_And : mAnd a b σ S = bd (a σ S) (andK b σ) := by
  unfold mAnd
  congr 1
  funext x S1
  cases x with
  | p u =>
    cases u with
    | bool q => cases q <;> rfl
    | _ => rfl
  | _ => rfl
theorem au_Or : mOr a b σ S = bd (a σ S) (orK b σ) := by
  unfold mOr
  congr 1
  funext x S1
  cases x with
  | p u =>
    cases u with
    | bool q => cases q <;> rfl
    | _ => rfl
  | _ => rfl
theorem au_andK : andK b σ (.p (.bool p)) S = if p = true then b σ S else .ok (.p (.bool false), S) := rfl
theorem au_orK : orK b σ (.p (.bool p)) S = if p = true then .ok (.p (.bool true), S) else b σ S := rfl
def ifK (a b : Ex) (σ : Env) (x : Bool) (S : Store) : R (D × Store) := if x = true then a σ S else b σ S
theorem au_If : mIf t a b σ S = bd (t σ S) (ifK a b σ) := rfl
theorem au_ifK : ifK a b σ p S = if p = true then a σ S else b σ S := rfl
def isNK (x : D) (S : Store) : R (D × Store) := .ok (.p (.bool (isN x)), S)
def notNK (x : D) (S : Store) : R (D × Store) := .ok (.p (.bool (!isN x)), S)
theorem au_IsN : mIsN a σ S = bd (a σ S) isNK := rfl
theorem au_NotN : mNotN a σ S = bd (a σ S) notNK := rfl
theorem au_isNK : isNK d S = .ok (.p (.bool (isN d)), S) := rfl
theorem au_notNK : notNK d S = .ok (.p (.bool (!isN d)), S) := rfl
theorem au_isN0 : isN (.p .none) = true := rfl
theorem au_isNi : isN (.p (.int x)) = false := rfl
theorem au_isNb : isN (.p (.bool p)) = false := rfl
theorem au_isNt : isN (.p (.tuple xs)) = false := rfl
theorem au_isNl : isN (.p (.list xs)) = false := rfl
theorem au_isNs (z : Str) : isN (.p (.str z)) = false := rfl
theorem au_isNr : isN (.ref i) = false := rfl
theorem au_Nil : aNil σ S = .ok ([], S) := rfl
def consB (x : D) (xs : List D) (S : Store) : R (List D × Store) := .ok (x :: xs, S)
def consA (r : As) (σ : Env) (x : D) (S : Store) : R (List D × Store) := bd (r σ S) (consB x)
theorem au_Cons (r : As) : aCons a r σ S = bd (a σ S) (consA r σ) := rfl
theorem au_consA (r : As) : consA r σ d S = bd (r σ S) (consB d) := rfl
theorem au_consB (ds : List D) : consB d ds S = .ok (d :: ds, S) := rfl
def tupB (xs : List PyData) (S : Store) : R (D × Store) := when_ (decide (xs.length ≤ Line)) (.ok (.p (.tuple xs), S))
def tupA (ds : List D) (S : Store) : R (D × Store) := bd (fzs ds S) tupB
def lstB (xs : List PyData) (S : Store) : R (D × Store) := when_ (decide (xs.length ≤ Line)) (.ok (.p (.list xs), S))
def lstA (ds : List D) (S : Store) : R (D × Store) := bd (fzs ds S) lstB
theorem au_Tup (as : As) : mTup as σ S = bd (as σ S) tupA := rfl
theorem au_Lst (as : As) : mLst as σ S = bd (as σ S) lstA := rfl
theorem au_tupA (ds : List D) : tupA ds S = bd (fzs ds S) tupB := rfl
theorem au_lstA (ds : List D) : lstA ds S = bd (fzs ds S) lstB := rfl
theorem au_tupB : tupB xs S = when_ (decide (xs.length ≤ Line)) (.ok (.p (.tuple xs), S)) := rfl
theorem au_lstB : lstB xs S = when_ (decide (xs.length ≤ Line)) (.ok (.p (.list xs), S)) := rfl
theorem au_Call (f : Fn) (as : As) : mCall f as σ S = bd (as σ S) f := rfl
def fzC (S : Store) (i : Nat) : Option Cell → R (PyData × Store)
  | some (.lst xs) => .ok (.list xs, S.set i (.flst xs))
  | some (.flst xs) => .ok (.list xs, S)
  | some (.dct false (kv :: kvs)) => .ok (.dict (kv :: kvs), S.set i .dead)
  | some (.tdv _ (kv :: kvs)) => .ok (.dict ((kv :: kvs).map tvD), S.set i .dead)
  | _ => .no
theorem au_fzR : fz S (.ref i) = fzC S i S[i]? := by
  show (match S[i]? with
    | some (.lst xs) => Mi.R.ok (PyData.list xs, S.set i (.flst xs))
    | some (.flst xs) => .ok (.list xs, S)
    | some (.dct false (kv :: kvs)) => .ok (.dict (kv :: kvs), S.set i .dead)
    | some (.tdv _ (kv :: kvs)) => .ok (.dict ((kv :: kvs).map tvD), S.set i .dead)
    | _ => .no) = _
  cases h : S[i]? with
  | none => rfl
  | some o =>
    cases o with
    | dct t k => cases t <;> cases k <;> rfl
    | tdv b k => cases k <;> rfl
    | _ => rfl
theorem au_fzL : fzC S i (some (.lst xs)) = .ok (.list xs, S.set i (.flst xs)) := rfl
theorem au_fzF : fzC S i (some (.flst xs)) = .ok (.list xs, S) := rfl
theorem au_fzsN : fzs [] S = .ok ([], S) := rfl
def fzsB (x : PyData) (xs : List PyData) (S : Store) : R (List PyData × Store) := .ok (x :: xs, S)
def fzsA (ds : List D) (x : PyData) (S : Store) : R (List PyData × Store) := bd (fzs ds S) (fzsB x)
theorem au_fzsC (ds : List D) : fzs (d :: ds) S = bd (fz S d) (fzsA ds) := rfl
theorem au_fzsA (ds : List D) : fzsA ds u S = bd (fzs ds S) (fzsB u) := rfl
theorem au_fzsB : fzsB u xs S = .ok (u :: xs, S) := rfl
def newK : D → Store → R (D × Store)
  | .p (.list xs), S => .ok (.ref S.length, S ++ [.lst xs])
  | _, _ => .no
theorem au_New : mNew a σ S = bd (a σ S) newK := by
  unfold mNew
  congr 1
  funext x S1
  cases x with
  | p u => cases u <;> rfl
  | _ => rfl
theorem au_newK : newK (.p (.list xs)) S = .ok (.ref S.length, S ++ [.lst xs]) := rfl
theorem au_Dict : mDict p σ S = .ok (.ref S.length, S ++ [.dct p []]) := rfl
theorem au_oNo : oNo σ S = .ok (none, S) := rfl
def oEK : D → Store → R (Option Int × Store)
  | .p (.int i), S => .ok (some i, S)
  | _, _ => .no
theorem au_oE : oE a σ S = bd (a σ S) oEK := by
  unfold oE
  congr 1
  funext x S1
  cases x with
  | p u => cases u <;> rfl
  | _ => rfl
theorem au_oEK : oEK (.p (.int x)) S = .ok (some x, S) := rfl
def cutD (l h : Option Int) (S : Store) (u : PyData) : R (D × Store) := bx (pCut u l h) (retP S)
def cutC (x : D) (l h : Option Int) (S : Store) : R (D × Store) := bx (dv S x) (cutD l h S)
def cutB (x : D) (hi : Po) (σ : Env) (l : Option Int) (S : Store) : R (D × Store) := bd (hi σ S) (cutC x l)
def cutA (lo hi : Po) (σ : Env) (x : D) (S : Store) : R (D × Store) := bd (lo σ S) (cutB x hi σ)
theorem au_Cut (lo hi : Po) : mCut a lo hi σ S = bd (a σ S) (cutA lo hi σ) := rfl
theorem au_cutA (lo hi : Po) : cutA lo hi σ d S = bd (lo σ S) (cutB d hi σ) := rfl
theorem au_cutB (hi : Po) (l : Option Int) : cutB d hi σ l S = bd (hi σ S) (cutC d l) := rfl
theorem au_cutC (l h : Option Int) : cutC d l h S = bx (dv S d) (cutD l h S) := rfl
theorem au_cutD (l h : Option Int) : cutD l h S u = bx (pCut u l h) (retP S) := rfl
theorem au_pCutL (lo hi : Option Int) : pCut (.list xs) lo hi = .ok (.list (cut xs lo hi)) := rfl
theorem au_pCutT (lo hi : Option Int) : pCut (.tuple xs) lo hi = .ok (.tuple (cut xs lo hi)) := rfl
def appC (S : Store) (i : Nat) (d : PyData) : Option Cell → R (D × Store)
  | some (.lst xs) => when_ (decide (xs.length < Line)) (.ok (.p .none, S.set i (.lst (xs ++ [d]))))
  | _ => .no
def appK (x : D) (d : PyData) (S : Store) : R (D × Store) := match x with
  | .ref i => appC S i d S[i]?
  | _ => .no
def appB (x : D) (y : D) (S : Store) : R (D × Store) := bd (fz S y) (appK x)
def appA (a : Ex) (σ : Env) (x : D) (S : Store) : R (D × Store) := when_ (lstAt S x) (bd (a σ S) (appB x))
theorem au_App : mAppend o a σ S = bd (o σ S) (appA a σ) := rfl
theorem au_appA : appA a σ d S = when_ (lstAt S d) (bd (a σ S) (appB d)) := rfl
theorem au_appB : appB d d2 S = bd (fz S d2) (appK d) := rfl
theorem au_appK : appK (.ref i) u S = appC S i u S[i]? := rfl
theorem au_appC : appC S i u (some (.lst xs)) = when_ (decide (xs.length < Line)) (.ok (.p .none, S.set i (.lst (xs ++ [u])))) := rfl
def isLst : Option Cell → Bool
  | some (.lst _) => true
  | _ => false
theorem au_lstAt : lstAt S (.ref i) = isLst S[i]? := by
  unfold lstAt isLst
  rfl
theorem au_isLst : isLst (some (.lst xs)) = true := rfl
def extC (S : Store) (i : Nat) : Option Cell → PyData → R (D × Store)
  | some (.lst xs), .list ys => when_ (decide (xs.length + ys.length ≤ Line)) (.ok (.p .none, S.set i (.lst (xs ++ ys))))
  | _, _ => .no
def extK (x : D) (d : PyData) (S : Store) : R (D × Store) := match x with
  | .ref i => extC S i S[i]? d
  | _ => .no
def extE (x : D) (S : Store) (d : PyData) : R (D × Store) := extK x d S
def extB (x : D) (y : D) (S : Store) : R (D × Store) := bx (dv S y) (extE x S)
def extA (a : Ex) (σ : Env) (x : D) (S : Store) : R (D × Store) := when_ (lstAt S x) (bd (a σ S) (extB x))
theorem au_Ext : mExtend o a σ S = bd (o σ S) (extA a σ) := rfl
theorem au_extA : extA a σ d S = when_ (lstAt S d) (bd (a σ S) (extB d)) := rfl
theorem au_extB : extB d d2 S = bx (dv S d2) (extE d S) := rfl
theorem au_extE : extE d S u = extK d u S := rfl
theorem au_extK : extK (.ref i) u S = extC S i S[i]? u := rfl
theorem au_extC : extC S i (some (.lst xs)) (.list ys) = when_ (decide (xs.length + ys.length ≤ Line)) (.ok (.p .none, S.set i (.lst (xs ++ ys)))) := rfl
def popC (S : Store) (i : Nat) : Option Cell → R (D × Store)
  | some (.lst xs) => bx (orNo xs.getLast?) (retP (S.set i (.lst xs.dropLast)))
  | _ => .no
def popK (x : D) (S : Store) : R (D × Store) := match x with
  | .ref i => popC S i S[i]?
  | _ => .no
theorem au_Pop0 : mPop0 o σ S = bd (o σ S) popK := by
  unfold mPop0
  congr 1
theorem au_popK : popK (.ref i) S = popC S i S[i]? := rfl
theorem au_popC : popC S i (some (.lst xs)) = bx (orNo xs.getLast?) (retP (S.set i (.lst xs.dropLast))) := rfl
def pop1D (S : Store) (i : Nat) (xs : List PyData) (j : Nat) : R (D × Store) := bx (orNo xs[j]?) (retP (S.set i (.lst (xs.eraseIdx j))))
theorem au_pop1D : pop1D S i xs j = bx (orNo xs[j]?) (retP (S.set i (.lst (xs.eraseIdx j)))) := rfl
def pop1C (S : Store) (i : Nat) (k : Int) : Option Cell → R (D × Store)
  | some (.lst xs) => when_ (decide (xs.length ≤ Line)) (bx (orNo (ixN xs.length k)) (pop1D S i xs))
  | _ => .no
def pop1K (x y : D) (S : Store) : R (D × Store) := match x, y with
  | .ref i, .p (.int k) => pop1C S i k S[i]?
  | _, _ => .no
def pop1A (a : Ex) (σ : Env) (x : D) (S : Store) : R (D × Store) := when_ (lstAt S x) (bd (a σ S) (pop1K x))
theorem au_Pop1 : mPop1 o a σ S = bd (o σ S) (pop1A a σ) := rfl
theorem au_pop1A : pop1A a σ d S = when_ (lstAt S d) (bd (a σ S) (pop1K d)) := rfl
theorem au_pop1K : pop1K (.ref i) (.p (.int x)) S = pop1C S i x S[i]? := rfl
theorem au_pop1C : pop1C S i x (some (.lst xs)) = when_ (decide (xs.length ≤ Line)) (bx (orNo (ixN xs.length x)) (pop1D S i xs)) := rfl
def idxE (u0 u : PyData) (S : Store) (v : PyData) : R (D × Store) := when_ (decide (isTup u0 = isTup u)) (bx (pIndex u v) (retP S))
def idxD (u0 : PyData) (y : D) (S : Store) (u : PyData) : R (D × Store) := bx (dv S y) (idxE u0 u S)
def idxC (x : D) (u0 : PyData) (y : D) (S : Store) : R (D × Store) := bx (dv S x) (idxD u0 y S)
def idxB (x : D) (a : Ex) (σ : Env) (S : Store) (u0 : PyData) : R (D × Store) := when_ (items? u0).isSome (bd (a σ S) (idxC x u0))
def idxA (a : Ex) (σ : Env) (x : D) (S : Store) : R (D × Store) := bx (dv S x) (idxB x a σ S)
theorem au_Index : mIndex o a σ S = bd (o σ S) (idxA a σ) := rfl
theorem au_idxA : idxA a σ d S = bx (dv S d) (idxB d a σ S) := rfl
theorem au_idxB : idxB d a σ S u = when_ (items? u).isSome (bd (a σ S) (idxC d u)) := rfl
theorem au_idxC : idxC d u d2 S = bx (dv S d) (idxD u d2 S) := rfl
theorem au_idxD : idxD u d S v = bx (dv S d) (idxE u v S) := rfl
theorem au_idxE : idxE u v S w = when_ (decide (isTup u = isTup v)) (bx (pIndex v w) (retP S)) := rfl
theorem au_itL : (items? (.list xs)).isSome = true := rfl
theorem au_itT : (items? (.tuple xs)).isSome = true := rfl
theorem au_isTupT : isTup (.tuple xs) = true := rfl
theorem au_isTupL : isTup (.list xs) = false := rfl
def srcC (i : Nat) : Option Cell → R Src
  | some (.lst xs) => .ok ⟨xs, [(i, .lst xs)]⟩
  | some (.flst xs) => .ok ⟨xs, []⟩
  | _ => .no
theorem au_srcR : srcOf S (.ref i) = srcC i S[i]? := by
  cases h : S[i]? with
  | none => simp [srcOf, srcC, h]
  | some o => cases o <;> simp [srcOf, srcC, h]
theorem au_srcC : srcC i (some (.lst xs)) = .ok ⟨xs, [(i, .lst xs)]⟩ := rfl
theorem au_srcF : srcC i (some (.flst xs)) = .ok ⟨xs, []⟩ := rfl
theorem au_srcL : srcOf S (.p (.list xs)) = .ok ⟨xs, []⟩ := rfl
theorem au_srcT : srcOf S (.p (.tuple xs)) = .ok ⟨xs, []⟩ := rfl
def okS (S : Store) (s : Src) : R (Src × Store) := .ok (s, S)
def iEK (x : D) (S : Store) : R (Src × Store) := bx (srcOf S x) (okS S)
theorem au_iE : iE a σ S = bd (a σ S) iEK := rfl
theorem au_iEK : iEK d S = bx (srcOf S d) (okS S) := rfl
theorem au_okS (s : Src) : okS S s = .ok (s, S) := rfl
def r1K : D → Store → R (Src × Store)
  | .p (.int n), S => when_ (decide (-(2 ^ 62) ≤ n ∧ n.toNat < 2 ^ 62)) (.ok (⟨(List.range n.toNat).map dI, []⟩, S))
  | _, _ => .no
theorem rgD_zero : rgD 0 x = (List.range x.toNat).map dI := by
  unfold rgD
  simp
theorem au_iR1 : iR1 a σ S = bd (a σ S) r1K := by
  unfold iR1
  congr 1
  funext x S1
  cases x with
  | p u =>
    cases u with
    | int n => simp only [r1K, rgD_zero]
    | _ => rfl
  | _ => rfl
theorem au_r1K : r1K (.p (.int x)) S = when_ (decide (-(2 ^ 62) ≤ x ∧ x < 2 ^ 62)) (.ok (⟨(List.range x.toNat).map dI, []⟩, S)) := by
  have : decide (-(2 ^ 62) ≤ x ∧ x < 2 ^ 62) = decide (-(2 ^ 62) ≤ x ∧ x.toNat < 2 ^ 62) := decide_eq_decide.mpr (by omega)
  rw [this]
  rfl
def r2K : D → D → Store → R (Src × Store)
  | .p (.int m), .p (.int n), S => when_ (decide (-(2 ^ 62) ≤ m ∧ m.toNat < 2 ^ 62 ∧ -(2 ^ 62) ≤ n ∧ n.toNat < 2 ^ 62)) (.ok (⟨rgD m n, []⟩, S))
  | _, _, _ => .no
def r2A (b : Ex) (σ : Env) (x : D) (S : Store) : R (Src × Store) := bd (b σ S) (r2K x)
theorem au_r2A : r2A b σ d S = bd (b σ S) (r2K d) := rfl
theorem au_iR2 : iR2 a b σ S = bd (a σ S) (r2A b σ) := by
  show iR2 a b σ S = bd (a σ S) fun x S1 => bd (b σ S1) fun y S2 => r2K x y S2
  unfold iR2
  congr 1
  funext x S1
  congr 1
  funext y S2
  cases x with
  | p u =>
    cases y with
    | p v => cases u <;> cases v <;> rfl
    | _ => cases u <;> rfl
  | _ => rfl
theorem au_r2K : r2K (.p (.int x)) (.p (.int y)) S = when_ (decide (-(2 ^ 62) ≤ x ∧ x < 2 ^ 62 ∧ -(2 ^ 62) ≤ y ∧ y < 2 ^ 62)) (.ok (⟨rgD x y, []⟩, S)) := by
  have : decide (-(2 ^ 62) ≤ x ∧ x < 2 ^ 62 ∧ -(2 ^ 62) ≤ y ∧ y < 2 ^ 62) = decide (-(2 ^ 62) ≤ x ∧ x.toNat < 2 ^ 62 ∧ -(2 ^ 62) ≤ y ∧ y.toNat < 2 ^ 62) := decide_eq_decide.mpr (by omega)
  rw [this]
  rfl
def enB (S : Store) (s : Src) : R (Src × Store) := .ok (⟨numD 0 s.items, s.g⟩, S)
def enA (x : D) (S : Store) : R (Src × Store) := bx (srcOf S x) (enB S)
theorem au_iEnum : iEnum a σ S = bd (a σ S) enA := rfl
theorem au_enA : enA d S = bx (srcOf S d) (enB S) := rfl
theorem au_enB (g : List (Nat × Cell)) : enB S ⟨xs, g⟩ = .ok (⟨numD 0 xs, g⟩, S) := rfl
def zpD (S : Store) (s t : Src) : R (Src × Store) := .ok (⟨zipD s.items t.items, s.g ++ t.g⟩, S)
def zpC (y : D) (S : Store) (s : Src) : R (Src × Store) := bx (srcOf S y) (zpD S s)
def zpB (x y : D) (S : Store) : R (Src × Store) := bx (srcOf S x) (zpC y S)
def zpA (b : Ex) (σ : Env) (x : D) (S : Store) : R (Src × Store) := bd (b σ S) (zpB x)
theorem au_iZip : iZip a b σ S = bd (a σ S) (zpA b σ) := rfl
theorem au_zpA : zpA b σ d S = bd (b σ S) (zpB d) := rfl
theorem au_zpB : zpB d d2 S = bx (srcOf S d) (zpC d2 S) := rfl
theorem au_zpC (s : Src) : zpC d S s = bx (srcOf S d) (zpD S s) := rfl
theorem au_zpD (g g2 : List (Nat × Cell)) : zpD S ⟨xs, g⟩ ⟨ys, g2⟩ = .ok (⟨zipD xs ys, g ++ g2⟩, S) := rfl
theorem au_tupDT : tupD (.p (.tuple xs)) = true := rfl
theorem au_tupDL : tupD (.p (.list xs)) = false := rfl
theorem au_tupDR : tupD (.ref i) = false := rfl
theorem au_gN : gN i u σ = .ok (σ.set i (some (.p u))) := rfl
theorem au_gT (ts : List Tg) : gT ts (.tuple xs) σ = gAll ts xs σ := rfl
theorem au_gAllN : gAll [] [] σ = .ok σ := rfl
theorem au_gAllC (g : Tg) (ts : List Tg) : gAll (g :: ts) (u :: xs) σ = bx (g u σ) (gAll ts xs) := rfl
noncomputable def compK (own : List Nat) (tg : Tg) (cond : Bx) (elt : Ex) (σ : Env) (s : Src) (S : Store) : R (D × Store) := when_ (decide (s.items.length ≤ Line)) (compL own tg cond elt s.g σ s.items [] S)
theorem au_Comp (own : List Nat) (src : Is) (tg : Tg) (cond : Bx) (elt : Ex) : mComp own src tg cond elt σ S = bd (src σ S) (compK own tg cond elt σ) := rfl
theorem au_compK (own : List Nat) (tg : Tg) (cond : Bx) (elt : Ex) (g : List (Nat × Cell)) : compK own tg cond elt σ ⟨xs, g⟩ S = when_ (decide (xs.length ≤ Line)) (compL own tg cond elt g σ xs [] S) := rfl
theorem au_wipeN : wipe σ [] = σ := rfl
theorem au_wipeC (r : List Nat) : wipe σ (i :: r) = (wipe σ r).set i none := rfl
def seqK (b : Sm) : Fl → Env → Store → R (Fl × Env × Store)
  | .nx, σ1, S1 => b σ1 S1
  | f, σ1, S1 => .ok (f, σ1, S1)
theorem au_Pass : sPass σ S = .ok (.nx, σ, S) := rfl
theorem au_Seq (s1 s2 : Sm) : sSeq s1 s2 σ S = bs (s1 σ S) (seqK s2) := by
  unfold sSeq
  congr 1
  funext f σ1 S1
  cases f <;> rfl
theorem au_seqN (s2 : Sm) : seqK s2 .nx σ S = s2 σ S := rfl
theorem au_seqB (s2 : Sm) : seqK s2 .bk σ S = .ok (.bk, σ, S) := rfl
theorem au_seqC (s2 : Sm) : seqK s2 .ct σ S = .ok (.ct, σ, S) := rfl
theorem au_seqR (s2 : Sm) : seqK s2 (.rt d) σ S = .ok (.rt d, σ, S) := rfl
def asgK (i : Nat) (σ : Env) (x : D) (S : Store) : R (Fl × Env × Store) := .ok (.nx, σ.set i (some x), S)
theorem au_Asg : sAsg i a σ S = bd (a σ S) (asgK i σ) := rfl
theorem au_asgK : asgK i σ d S = .ok (.nx, σ.set i (some d), S) := rfl
def parK (is : List Nat) (σ : Env) (ds : List D) (S : Store) : R (Fl × Env × Store) := when_ (decide (ds.length = is.length)) (.ok (.nx, setAll is ds σ, S))
theorem au_Par (is : List Nat) (as : As) : sPar is as σ S = bd (as σ S) (parK is σ) := rfl
theorem au_parK (is : List Nat) (ds : List D) : parK is σ ds S = when_ (decide (ds.length = is.length)) (.ok (.nx, setAll is ds σ, S)) := rfl
theorem au_setC (is : List Nat) (ds : List D) : setAll (i :: is) (d :: ds) σ = setAll is ds (σ.set i (some d)) := rfl
theorem au_setN : setAll [] [] σ = σ := rfl
def unpC (S : Store) (σ1 : Env) : R (Fl × Env × Store) := .ok (.nx, σ1, S)
def unpB (tg : Tg) (σ : Env) (S : Store) (u : PyData) : R (Fl × Env × Store) := bx (tg u σ) (unpC S)
def unpA (tg : Tg) (σ : Env) (x : D) (S : Store) : R (Fl × Env × Store) := bx (pv x) (unpB tg σ S)
theorem au_Unp (tg : Tg) : sUnp tg a σ S = bd (a σ S) (unpA tg σ) := rfl
theorem au_unpA (tg : Tg) : unpA tg σ (.p u) S = unpB tg σ S u := bx_of (show pv (.p u) = .ok u from rfl)
theorem au_unpB (tg : Tg) : unpB tg σ S u = bx (tg u σ) (unpC S) := rfl
theorem au_unpC : unpC S σ = .ok (.nx, σ, S) := rfl
def dropK (σ : Env) (x : D) (S : Store) : R (Fl × Env × Store) := .ok (.nx, σ, S)
theorem au_Drop : sDrop a σ S = bd (a σ S) (dropK σ) := rfl
theorem au_dropK : dropK σ d S = .ok (.nx, σ, S) := rfl
def rtK (σ : Env) (x : D) (S : Store) : R (Fl × Env × Store) := .ok (.rt x, σ, S)
theorem au_Ret : sRet a σ S = bd (a σ S) (rtK σ) := rfl
theorem au_rtK : rtK σ d S = .ok (.rt d, σ, S) := rfl
def sifK (s1 s2 : Sm) (σ : Env) (x : Bool) (S : Store) : R (Fl × Env × Store) := if x = true then s1 σ S else s2 σ S
theorem au_SIf (s1 s2 : Sm) : sIf t s1 s2 σ S = bd (t σ S) (sifK s1 s2 σ) := rfl
theorem au_sifK (s1 s2 : Sm) : sifK s1 s2 σ p S = if p = true then s1 σ S else s2 σ S := rfl
theorem au_Break : sBreak σ S = .ok (.bk, σ, S) := rfl
theorem au_Cont : sCont σ S = .ok (.ct, σ, S) := rfl
def augC (i : Nat) (σ : Env) (S : Store) (z : PyData) : R (Fl × Env × Store) := .ok (.nx, σ.set i (some (.p z)), S)
def augB (i : Nat) (f : PyData → PyData → R PyData) (u : PyData) (σ : Env) (S : Store) (v : PyData) : R (Fl × Env × Store) := bx (f u v) (augC i σ S)
def augA (i : Nat) (f : PyData → PyData → R PyData) (u : PyData) (σ : Env) (y : D) (S : Store) : R (Fl × Env × Store) := bx (dv S y) (augB i f u σ S)
theorem au_augA (f : PyData → PyData → R PyData) : augA i f u σ d S = bx (dv S d) (augB i f u σ S) := rfl
theorem au_augB (f : PyData → PyData → R PyData) : augB i f u σ S v = bx (f u v) (augC i σ S) := rfl
theorem au_augC : augC i σ S u = .ok (.nx, σ.set i (some (.p u)), S) := rfl
def augK (i : Nat) (f : PyData → PyData → R PyData) (a : Ex) (σ : Env) (S : Store) : Option (Option D) → R (Fl × Env × Store)
  | some (some (.p u)) => bd (a σ S) (augA i f u σ)
  | _ => .no
theorem au_Aug (f : PyData → PyData → R PyData) : sAug i f a σ S = augK i f a σ S σ[i]? := by
  unfold sAug augK
  cases h : σ[i]? with
  | none => rfl
  | some o =>
    cases o with
    | none => rfl
    | some d => cases d <;> rfl
theorem au_augK (f : PyData → PyData → R PyData) : augK i f a σ S (some (some (.p u))) = bd (a σ S) (augA i f u σ) := rfl
def setD (S : Store) (σ : Env) (j : Nat) (d : PyData) (xs : List PyData) (m : Nat) : R (Fl × Env × Store) := .ok (.nx, σ, S.set j (.lst (xs.set m d)))
theorem au_setD : setD S σ j u xs m = .ok (.nx, σ, S.set j (.lst (xs.set m u))) := rfl
def setC (S : Store) (σ : Env) (j : Nat) (n : Int) (d : PyData) : Option Cell → R (Fl × Env × Store)
  | some (.lst xs) => bx (orNo (ixN xs.length n)) (setD S σ j d xs)
  | _ => .no
def setK (x k : D) (d : PyData) (σ : Env) (S : Store) : R (Fl × Env × Store) := match x, k with
  | .ref j, .p (.int n) => setC S σ j n d S[j]?
  | _, _ => .no
def setDC (S : Store) (σ : Env) (j : Nat) (kd d : PyData) : Option Cell → R (Fl × Env × Store)
  | some (.dct t kvs) => when_ (!t && keyOk t kd && decide (kvs.length < Line)) (.ok (.nx, σ, S.set j (.dct t (put kvs kd d))))
  | _ => .no
def setDK (x : D) (d : PyData) (σ : Env) (S : Store) (kd : PyData) : R (Fl × Env × Store) := match x with
  | .ref j => setDC S σ j kd d S[j]?
  | _ => .no
def setDE (x k : D) (σ : Env) (d : PyData) (S : Store) : R (Fl × Env × Store) := bx (dv S k) (setDK x d σ S)
def setDF (x y : D) (σ : Env) (k : D) (S : Store) : R (Fl × Env × Store) := bd (fz S y) (setDE x k σ)
def setDG (k : Ex) (y : D) (σ : Env) (x : D) (S : Store) : R (Fl × Env × Store) := bd (k σ S) (setDF x y σ)
def setDH (o k : Ex) (σ : Env) (y : D) (S : Store) : R (Fl × Env × Store) := bd (o σ S) (setDG k y σ)
theorem au_SetD : sSetD o k a σ S = bd (a σ S) (setDH o k σ) := rfl
theorem au_setDH : setDH o k σ d S = bd (o σ S) (setDG k d σ) := rfl
theorem au_setDG : setDG k d σ d2 S = bd (k σ S) (setDF d2 d σ) := rfl
theorem au_setDF (d3 : D) : setDF d d2 σ d3 S = bd (fz S d2) (setDE d d3 σ) := rfl
theorem au_setDE : setDE d d2 σ u S = bx (dv S d2) (setDK d u σ S) := rfl
theorem au_setDK : setDK (.ref j) u σ S v = setDC S σ j v u S[j]? := rfl
theorem au_setDC (b0 : Bool) (kvs : List (PyData × PyData)) : setDC S σ j v u (some (.dct b0 kvs)) = when_ (!b0 && keyOk b0 v && decide (kvs.length < Line)) (.ok (.nx, σ, S.set j (.dct b0 (put kvs v u)))) := rfl
theorem au_keyI : keyOk false (.int x) = true := rfl
theorem au_keyS (z : Str) : keyOk false (.str z) = true := rfl
def setE (x k : D) (σ : Env) (d : PyData) (S : Store) : R (Fl × Env × Store) := setK x k d σ S
def setF (x y : D) (σ : Env) (k : D) (S : Store) : R (Fl × Env × Store) := bd (fz S y) (setE x k σ)
def setG (k : Ex) (y : D) (σ : Env) (x : D) (S : Store) : R (Fl × Env × Store) := bd (k σ S) (setF x y σ)
def setH (o k : Ex) (σ : Env) (y : D) (S : Store) : R (Fl × Env × Store) := bd (o σ S) (setG k y σ)
theorem au_SetL : sSetL o k a σ S = bd (a σ S) (setH o k σ) := rfl
theorem au_setH : setH o k σ d S = bd (o σ S) (setG k d σ) := rfl
theorem au_setG : setG k d σ d2 S = bd (k σ S) (setF d2 d σ) := rfl
theorem au_setF (d3 : D) : setF d d2 σ d3 S = bd (fz S d2) (setE d d3 σ) := rfl
theorem au_setE : setE d d2 σ u S = setK d d2 u σ S := rfl
theorem au_setK : setK (.ref j) (.p (.int x)) u σ S = setC S σ j x u S[j]? := rfl
theorem au_setCL : setC S σ j x u (some (.lst xs)) = bx (orNo (ixN xs.length x)) (setD S σ j u xs) := rfl
noncomputable def forK (tg : Tg) (s1 : Sm) (σ : Env) (s : Src) (S : Store) : R (Fl × Env × Store) := forL tg s.g s1 s.items σ S
theorem au_For (src : Is) (tg : Tg) (s1 : Sm) : sFor src tg s1 σ S = bd (src σ S) (forK tg s1 σ) := rfl
theorem au_forK (tg : Tg) (s1 : Sm) (g : List (Nat × Cell)) : forK tg s1 σ ⟨xs, g⟩ S = forL tg g s1 xs σ S := rfl
def fnK (fi : Nat → D → Store → R (D × Store)) (n : Nat) : Fl → Env → Store → R (D × Store)
  | .rt d, _, S1 => fi n d S1
  | .nx, _, S1 => fi n (.p .none) S1
  | _, _, _ => .no
theorem au_fn (fi : Nat → D → Store → R (D × Store)) (np slots : Nat) (body : Sm) (ds : List D) : fnOf fi np slots body ds S = when_ (decide (ds.length = np)) (cutEx S.length (bs (body (start slots ds) S) (fnK fi S.length))) := by
  unfold fnOf
  congr 3
  funext f σ S1
  cases f <;> rfl
theorem au_fnR (fi : Nat → D → Store → R (D × Store)) : fnK fi n (.rt d) σ S = fi n d S := rfl
theorem au_fnN (fi : Nat → D → Store → R (D × Store)) : fnK fi n .nx σ S = fi n (.p .none) S := rfl
theorem au_finP : fin n (.p u) S = .ok (.p u, S.take n) := rfl
theorem au_finMP : finM n (.p u) S = .ok (.p u, S.take n) := rfl
def finC (n i : Nat) (S : Store) : Option Cell → R (D × Store)
  | some (.lst xs) => .ok (.p (.list xs), S.take n)
  | some (.flst xs) => .ok (.p (.list xs), S.take n)
  | some c => .ok (.ref n, S.take n ++ [c])
  | none => .no
theorem au_finR : fin n (.ref i) S = if i < n then .ok (.ref i, S.take n) else finC n i S S[i]? := rfl
theorem au_finCL : finC n i S (some (.lst xs)) = .ok (.p (.list xs), S.take n) := rfl
theorem au_finCF : finC n i S (some (.flst xs)) = .ok (.p (.list xs), S.take n) := rfl
theorem au_finCD (kvs : List (PyData × PyData)) : finC n i S (some (.dct p kvs)) = .ok (.ref n, S.take n ++ [.dct p kvs]) := rfl
def finMC (n i : Nat) (S : Store) : Option Cell → R (D × Store)
  | some c => .ok (.ref n, S.take n ++ [c])
  | none => .no
theorem au_finMR : finM n (.ref i) S = if i < n then .ok (.ref i, S.take n) else finMC n i S S[i]? := rfl
theorem au_finMC (c : Cell) : finMC n i S (some c) = .ok (.ref n, S.take n ++ [c]) := rfl
theorem au_cutEx {α : Type} (z : α) : cutEx n (.ok z) = .ok z := rfl
theorem au_start (slots : Nat) (ds : List D) : start slots ds = ds.map some ++ List.replicate (slots - ds.length) none := rfl
end
section
variable (a b : Int) (xs ys : List PyData) (p q : Bool) (s z : Str)
theorem au_add : pAdd (.int a) (.int b) = .ok (.int (a + b)) := rfl
theorem au_sub : pSub (.int a) (.int b) = .ok (.int (a - b)) := rfl
theorem au_neg : pNeg (.int a) = .ok (.int (-a)) := rfl
theorem au_not : pNot (.bool p) = .ok (.bool (!p)) := rfl
theorem au_lt : pLt (.int a) (.int b) = .ok (.bool (decide (a < b))) := rfl
theorem au_gt : pGt (.int a) (.int b) = .ok (.bool (decide (b < a))) := rfl
theorem au_le : pLe (.int a) (.int b) = .ok (.bool (decide (a ≤ b))) := rfl
theorem au_ge : pGe (.int a) (.int b) = .ok (.bool (decide (b ≤ a))) := rfl
theorem au_eq : pEq (.int a) (.int b) = .ok (.bool (decide (a = b))) := pEq_int a b
theorem au_ne : pNe (.int a) (.int b) = .ok (.bool (!decide (a = b))) := pNe_int a b
theorem au_addT : pAdd (.tuple xs) (.tuple ys) = when_ (decide (xs.length + ys.length ≤ Line)) (.ok (.tuple (xs ++ ys))) := rfl
theorem au_addL : pAdd (.list xs) (.list ys) = when_ (decide (xs.length + ys.length ≤ Line)) (.ok (.list (xs ++ ys))) := rfl
theorem mulOk_of (h1 : -(2 ^ 200) < a) (h2 : a < 2 ^ 200) (h3 : -(2 ^ 200) < b) (h4 : b < 2 ^ 200) : mulOk a b = true := by
  have key : ∀ x : Int, -(2 ^ 200) < x → x < 2 ^ 200 → x.natAbs.log2 < 200 := fun x g1 g2 => by
    by_cases e : x.natAbs = 0
    · rw [e]
      decide
    · rw [Nat.log2_lt e]
      have : (x.natAbs : Int) = x ∨ (x.natAbs : Int) = -x := by omega
      have h2 : ((2 ^ 200 : Nat) : Int) = 2 ^ 200 := by simp
      omega
  have k1 := key a h1 h2
  have k2 := key b h3 h4
  exact decide_eq_true (by omega)
theorem au_mul (h1 : -(2 ^ 200) < a) (h2 : a < 2 ^ 200) (h3 : -(2 ^ 200) < b) (h4 : b < 2 ^ 200) : pMul (.int a) (.int b) = .ok (.int (a * b)) := when_of (mulOk_of a b h1 h2 h3 h4)
theorem au_div (h1 : 0 < b) (h2 : b < 2 ^ 200) : pDiv (.int a) (.int b) = .ok (.int (a / b)) := when_of (decide_eq_true ⟨h1, by
    have := log_lt (x := b) (k := 200) (by omega) h2 (by decide)
    omega⟩)
theorem au_mod (h1 : 0 < b) : pMod (.int a) (.int b) = .ok (.int (a % b)) := when_of (decide_eq_true h1)
theorem au_max : pMax2 (.int a) (.int b) = .ok (.int (max a b)) := by
  show R.ok (PyData.int _) = _
  congr 2
  split <;> omega
theorem au_min : pMin2 (.int a) (.int b) = .ok (.int (min a b)) := by
  show R.ok (PyData.int _) = _
  congr 2
  split <;> omega
theorem au_abs : pAbs (.int a) = .ok (.int (if a < 0 then -a else a)) := rfl
theorem au_tupL : pTuple (.list xs) = .ok (.tuple xs) := rfl
theorem au_tupT : pTuple (.tuple xs) = .ok (.tuple xs) := rfl
theorem au_lstL : pList (.list xs) = .ok (.list xs) := rfl
theorem au_lstT : pList (.tuple xs) = .ok (.list xs) := rfl
theorem au_intI : pInt (.int a) = .ok (.int a) := rfl
theorem au_intB : pInt (.bool p) = .ok (.int (if p = true then 1 else 0)) := by cases p <;> rfl
theorem au_ixT : pIx (.tuple xs) (.int a) = orNo (atD xs a) := rfl
theorem au_ixLi : pIx (.list xs) (.int a) = orNo (atD xs a) := rfl
theorem au_at (h0 : 0 ≤ a) (h1 : a < xs.length) : atD xs a = xs[a.toNat]? := by
  unfold atD ixN
  rw [if_pos h0, if_pos h1]
  rfl
theorem au_atN (h0 : a < 0) (h1 : -(xs.length : Int) ≤ a) : atD xs a = xs[(a + xs.length).toNat]? := by
  unfold atD ixN
  rw [if_neg (by omega), if_pos h1]
  rfl
theorem au_ixN (n : Nat) (h0 : 0 ≤ a) (h1 : a < n) : ixN n a = some a.toNat := by
  unfold ixN
  rw [if_pos h0, if_pos h1]
theorem au_ixNN (n : Nat) (h0 : a < 0) (h1 : -(n : Int) ≤ a) : ixN n a = some (a + n).toNat := by
  unfold ixN
  rw [if_neg (by omega), if_pos h1]
theorem au_orSome {α : Type} (z : α) : orNo (some z) = .ok z := rfl
theorem au_orAt {α : Type} [Inhabited α] (f : α → PyData) (zs : List α) (k : Nat) (h : k < zs.length) : (zs[k]?).map f = some (f zs[k]!) := by
  rw [List.getElem?_eq_getElem h, getElem!_pos zs k h]
  rfl
theorem au_when {α : Type} (c : Prop) [Decidable c] (r : R α) (h : c) : when_ (decide c) r = r := when_of (decide_eq_true h)
theorem au_whenT {α : Type} (r : R α) : when_ true r = r := rfl
theorem au_bdI {α β : Type} (c : Prop) [Decidable c] (x y : R (α × Store)) (f : α → Store → R β) : bd (if c then x else y) f = if c then bd x f else bd y f := by split <;> rfl
theorem au_bxI {α β : Type} (c : Prop) [Decidable c] (x y : R α) (f : α → R β) : bx (if c then x else y) f = if c then bx x f else bx y f := by split <;> rfl
theorem au_bsI {β : Type} (c : Prop) [Decidable c] (x y : R (Fl × Env × Store)) (f : Fl → Env → Store → R β) : bs (if c then x else y) f = if c then bs x f else bs y f := by split <;> rfl
theorem au_ifT {α : Type} (c : Prop) [Decidable c] (x y : α) (h : c) : (if c then x else y) = x := if_pos h
theorem au_ifF {α : Type} (c : Prop) [Decidable c] (x y : α) (h : ¬c) : (if c then x else y) = y := if_neg h
theorem au_getA {α : Type} (A B : List α) (i : Nat) (h : A.length ≤ i) : (A ++ B)[i]? = B[i - A.length]? := List.getElem?_append_right h
theorem au_getB {α : Type} (A B : List α) (i : Nat) (h : i < A.length) : (A ++ B)[i]? = A[i]? := List.getElem?_append_left h
theorem au_setA {α : Type} (A B : List α) (i : Nat) (c : α) (h : A.length ≤ i) : (A ++ B).set i c = A ++ B.set (i - A.length) c := List.set_append_right _ _ h
theorem au_setB {α : Type} (A B : List α) (i : Nat) (c : α) (h : i < A.length) : (A ++ B).set i c = A.set i c ++ B := List.set_append_left _ _ h
theorem au_takeA {α : Type} (A B : List α) (n : Nat) (h : A.length = n) : (A ++ B).take n = A := by rw [← h]; exact List.take_left
theorem au_takeN {α : Type} (A : List α) (n : Nat) (h : A.length = n) : A.take n = A := by rw [← h]; exact List.take_length
theorem au_getS {α : Type} (A : List α) (i : Nat) (c : α) (h : i < A.length) : (A.set i c)[i]? = some c := by rw [List.getElem?_set_self h]
theorem au_getSN {α : Type} (A : List α) (i j : Nat) (c : α) (h : i ≠ j) : (A.set i c)[j]? = A[j]? := List.getElem?_set_ne h
end
def au0 := And.intro @au_C (And.intro @au_V (And.intro @au_getV (And.intro @au_dvR (And.intro @au_dvD (And.intro @au_dvC (And.intro @au_dvF (And.intro @au_retP (And.intro @au_O1 (And.intro @au_o1a (And.intro @au_o1b (And.intro @au_O2 (And.intro @au_o2a (And.intro @au_o2b (And.intro @au_o2c (And.intro @au_o2d (And.intro @au_ixd (And.intro @au_ixa (And.intro @au_ixb (And.intro @au_Ix (And.intro @au_ixP (And.intro @au_ixS (And.intro @au_ixR (And.intro @au_ixL (And.intro @au_ixF (And.intro @au_ixD (And.intro @au_ixFD (And.intro @au_ina (And.intro @au_inb (And.intro @au_inc (And.intro @au_In (And.intro @au_NotIn (And.intro @au_inP (And.intro @au_inR (And.intro @au_inL (And.intro @au_inFL (And.intro @au_inD (And.intro @au_inFD (And.intro @au_Len (And.intro @au_lenP (And.intro @au_lenS (And.intro @au_lenR (And.intro @au_lenL (And.intro @au_lenF (And.intro @au_lenD (And.intro @au_pLenL (And.intro @au_pLenT (And.intro @au_cha (And.intro @au_chb (@au_chc)))))))))))))))))))))))))))))))))))))))))))))))))
def au1 := And.intro @au_chd (And.intro @au_Ch (And.intro @au_chK (And.intro @au_tE (And.intro @au_tEK (And.intro @au_tAnd (And.intro @au_tOr (And.intro @au_tNot (And.intro @au_tAndK (And.intro @au_tOrK (And.intro @au_tNotK (And.intro @au_tYes (And.intro @au_And (And.intro @au_Or (And.intro @au_andK (And.intro @au_orK (And.intro @au_If (And.intro @au_ifK (And.intro @au_IsN (And.intro @au_NotN (And.intro @au_isNK (And.intro @au_notNK (And.intro @au_isN0 (And.intro @au_isNi (And.intro @au_isNb (And.intro @au_isNt (And.intro @au_isNl (And.intro @au_isNs (And.intro @au_isNr (And.intro @au_Nil (And.intro @au_Cons (And.intro @au_consA (And.intro @au_consB (And.intro @au_Tup (And.intro @au_Lst (And.intro @au_tupA (And.intro @au_lstA (And.intro @au_tupB (And.intro @au_lstB (And.intro @au_Call (And.intro @au_fzR (And.intro @au_fzL (And.intro @au_fzF (And.intro @au_fzsN (And.intro @au_fzsC (And.intro @au_fzsA (And.intro @au_fzsB (And.intro @au_New (And.intro @au_newK (@au_Dict)))))))))))))))))))))))))))))))))))))))))))))))))
def au2 := And.intro @au_oNo (And.intro @au_oE (And.intro @au_oEK (And.intro @au_Cut (And.intro @au_cutA (And.intro @au_cutB (And.intro @au_cutC (And.intro @au_cutD (And.intro @au_pCutL (And.intro @au_pCutT (And.intro @au_App (And.intro @au_appA (And.intro @au_appB (And.intro @au_appK (And.intro @au_appC (And.intro @au_lstAt (And.intro @au_isLst (And.intro @au_Ext (And.intro @au_extA (And.intro @au_extB (And.intro @au_extE (And.intro @au_extK (And.intro @au_extC (And.intro @au_Pop0 (And.intro @au_popK (And.intro @au_popC (And.intro @au_pop1D (And.intro @au_Pop1 (And.intro @au_pop1A (And.intro @au_pop1K (And.intro @au_pop1C (And.intro @au_Index (And.intro @au_idxA (And.intro @au_idxB (And.intro @au_idxC (And.intro @au_idxD (And.intro @au_idxE (And.intro @au_itL (And.intro @au_itT (And.intro @au_isTupT (And.intro @au_isTupL (And.intro @au_srcR (And.intro @au_srcC (And.intro @au_srcF (And.intro @au_srcL (And.intro @au_srcT (And.intro @au_iE (And.intro @au_iEK (And.intro @au_okS (@au_iR1)))))))))))))))))))))))))))))))))))))))))))))))))
def au3 := And.intro @au_r1K (And.intro @au_r2A (And.intro @au_iR2 (And.intro @au_r2K (And.intro @au_iEnum (And.intro @au_enA (And.intro @au_enB (And.intro @au_iZip (And.intro @au_zpA (And.intro @au_zpB (And.intro @au_zpC (And.intro @au_zpD (And.intro @au_tupDT (And.intro @au_tupDL (And.intro @au_tupDR (And.intro @au_gN (And.intro @au_gT (And.intro @au_gAllN (And.intro @au_gAllC (And.intro @au_Comp (And.intro @au_compK (And.intro @au_wipeN (And.intro @au_wipeC (And.intro @au_Pass (And.intro @au_Seq (And.intro @au_seqN (And.intro @au_seqB (And.intro @au_seqC (And.intro @au_seqR (And.intro @au_Asg (And.intro @au_asgK (And.intro @au_Par (And.intro @au_parK (And.intro @au_setC (And.intro @au_setN (And.intro @au_Unp (And.intro @au_unpA (And.intro @au_unpB (And.intro @au_unpC (And.intro @au_Drop (And.intro @au_dropK (And.intro @au_Ret (And.intro @au_rtK (And.intro @au_SIf (And.intro @au_sifK (And.intro @au_Break (And.intro @au_Cont (And.intro @au_augA (And.intro @au_augB (@au_augC)))))))))))))))))))))))))))))))))))))))))))))))))
def au4 := And.intro @au_Aug (And.intro @au_augK (And.intro @au_setD (And.intro @au_SetD (And.intro @au_setDH (And.intro @au_setDG (And.intro @au_setDF (And.intro @au_setDE (And.intro @au_setDK (And.intro @au_setDC (And.intro @au_keyI (And.intro @au_keyS (And.intro @au_SetL (And.intro @au_setH (And.intro @au_setG (And.intro @au_setF (And.intro @au_setE (And.intro @au_setK (And.intro @au_setCL (And.intro @au_For (And.intro @au_forK (And.intro @au_fn (And.intro @au_fnR (And.intro @au_fnN (And.intro @au_finP (And.intro @au_finMP (And.intro @au_finR (And.intro @au_finCL (And.intro @au_finCF (And.intro @au_finCD (And.intro @au_finMR (And.intro @au_finMC (And.intro @au_cutEx (And.intro @au_start (And.intro @au_add (And.intro @au_sub (And.intro @au_neg (And.intro @au_not (And.intro @au_lt (And.intro @au_gt (And.intro @au_le (And.intro @au_ge (And.intro @au_eq (And.intro @au_ne (And.intro @au_addT (And.intro @au_addL (And.intro @au_mul (And.intro @au_div (And.intro @au_mod (@au_max)))))))))))))))))))))))))))))))))))))))))))))))))
def au5 := And.intro @au_min (And.intro @au_abs (And.intro @au_tupL (And.intro @au_tupT (And.intro @au_lstL (And.intro @au_lstT (And.intro @au_intI (And.intro @au_intB (And.intro @au_ixT (And.intro @au_ixLi (And.intro @au_at (And.intro @au_atN (And.intro @au_ixN (And.intro @au_ixNN (And.intro @au_orSome (And.intro @au_orAt (And.intro @au_when (And.intro @au_whenT (And.intro @au_bdI (And.intro @au_bxI (And.intro @au_bsI (And.intro @au_ifT (And.intro @au_ifF (And.intro @au_getA (And.intro @au_getB (And.intro @au_setA (And.intro @au_setB (And.intro @au_takeA (And.intro @au_takeN (And.intro @au_getS (@au_getSN))))))))))))))))))))))))))))))
end Mi
end
section
namespace Mi
open PySem
abbrev Pt := D → Sm
def ptAll : List Pt → List D → Sm
  | [], [], σ, S => .ok (.nx, σ, S)
  | p :: ps, d :: ds, σ, S => bs (p d σ S) fun _ σ1 S1 => ptAll ps ds σ1 S1
  | _, _, _, _ => .no
def pairsOf (kvs : List (PyData × PyData)) : List PyData := kvs.map fun p => .tuple [p.1, p.2]
section
variable (a b o ix : Ex) (σ : Env) (S : Store) (d e : D) (u v : PyData) (i j : Nat) (x : Int) (xs : List PyData) (kvs : List (PyData × PyData)) (t : Bool)
end
end Mi
end
section
namespace Mi
open PySem
section
variable {tg : Tg} {g : List (Nat × Cell)} {own : List Nat} {cond : Bx} {elt : Ex} {σ : Env} {S : Store}
theorem bx_okE {α β : Type} {x : R α} {f : α → R β} {z : β} (h : bx x f = .ok z) : ∃ a, x = .ok a ∧ f a = .ok z := by
  cases x with
  | ok a => exact ⟨a, rfl, h⟩
  | ex e S => cases h
  | no => cases h
theorem comp_val {α : Type} (f val : α → PyData) {xs : List α} (hs : stand g S = true) (h : ∀ x ∈ xs, ∀ acc, bx (tg (f x) (wipe σ own)) (fun σ1 => elt σ1 (S ++ [.lst acc])) = .ok (.p (val x), S ++ [.lst acc])) :
    compL own tg tYes elt g σ (xs.map f) [] S = .ok (.p (.list (xs.map val)), S) := by
  have key : ∀ (xs : List α) (acc : List PyData), (∀ x ∈ xs, ∀ acc, bx (tg (f x) (wipe σ own)) (fun σ1 => elt σ1 (S ++ [.lst acc])) = .ok (.p (val x), S ++ [.lst acc])) →
      compL own tg tYes elt g σ (xs.map f) acc S = .ok (.p (.list (acc ++ xs.map val)), S) := by
    intro xs
    induction xs with
    | nil =>
      intro acc _
      show when_ (stand g (S ++ [.lst acc])) _ = _
      rw [stand_snoc hs]
      simp
    | cons x xs ih =>
      intro acc h
      show when_ (stand g (S ++ [.lst acc])) _ = _
      rw [stand_snoc hs, when_true]
      obtain ⟨σ1, h1, h2⟩ := bx_okE (h x (by simp) acc)
      rw [bx_of h1, bd_of (show tYes σ1 (S ++ [.lst acc]) = .ok (true, _) from rfl), if_pos rfl, bd_of h2, bd_of (fz_p _ _), when_of stand_last]
      rw [show (S ++ [Cell.lst acc]).take S.length = S by simp, ih _ fun y hy => h y (by simp [hy])]
      simp
  have := key xs [] h
  rwa [List.nil_append] at this
theorem comp_if {α : Type} (f val : α → PyData) (kp : α → Bool) {xs : List α} (hs : stand g S = true) (hc : ∀ x ∈ xs, ∀ acc, bx (tg (f x) (wipe σ own)) (fun σ1 => cond σ1 (S ++ [.lst acc])) = .ok (kp x, S ++ [.lst acc]))
    (h : ∀ x ∈ xs, kp x = true → ∀ acc, bx (tg (f x) (wipe σ own)) (fun σ1 => elt σ1 (S ++ [.lst acc])) = .ok (.p (val x), S ++ [.lst acc])) :
    compL own tg cond elt g σ (xs.map f) [] S = .ok (.p (.list ((xs.filter kp).map val)), S) := by
  have key : ∀ (xs : List α) (acc : List PyData), (∀ x ∈ xs, ∀ acc, bx (tg (f x) (wipe σ own)) (fun σ1 => cond σ1 (S ++ [.lst acc])) = .ok (kp x, S ++ [.lst acc])) → (∀ x ∈ xs, kp x = true → ∀ acc, bx (tg (f x) (wipe σ own)) (fun σ1 => elt σ1 (S ++ [.lst acc])) = .ok (.p (val x), S ++ [.lst acc])) →
      compL own tg cond elt g σ (xs.map f) acc S = .ok (.p (.list (acc ++ (xs.filter kp).map val)), S) := by
    intro xs
    induction xs with
    | nil =>
      intro acc _ _
      show when_ (stand g (S ++ [.lst acc])) _ = _
      rw [stand_snoc hs]
      simp
    | cons x xs ih =>
      intro acc hc h
      show when_ (stand g (S ++ [.lst acc])) _ = _
      rw [stand_snoc hs, when_true]
      obtain ⟨σ1, h1, h2⟩ := bx_okE (hc x (by simp) acc)
      have tk : (S ++ [Cell.lst acc]).take S.length = S := by simp
      rw [bx_of h1, bd_of h2]
      cases hk : kp x with
      | true =>
        obtain ⟨σ2, h3, h4⟩ := bx_okE (h x (by simp) hk acc)
        rw [h1] at h3
        cases h3
        rw [if_pos rfl, bd_of h4, bd_of (fz_p _ _), when_of stand_last, tk, ih _ (fun y hy => hc y (by simp [hy])) fun y hy => h y (by simp [hy])]
        simp [hk]
      | false =>
        rw [if_neg (by simp), when_of stand_last, tk, ih _ (fun y hy => hc y (by simp [hy])) fun y hy => h y (by simp [hy])]
        simp [hk]
  have := key xs [] hc h
  rwa [List.nil_append] at this
end
section
variable {fi : Nat → D → Store → R (D × Store)} {np slots : Nat} {body : Sm} {ds : List D} {S : Store} {z : D × Store}
theorem fn_rn (hl : ds.length = np) (hb : Rn (body (start slots ds) S) fun p => fnK fi S.length p.1 p.2.1 p.2.2 = .ok z) : fnOf fi np slots body ds S = .ok z := by
  obtain ⟨⟨f, σ, S1⟩, e, h⟩ := hb.ex
  rw [au_fn, when_of (decide_eq_true hl), bs_of e, h]
  rfl
theorem fn_rnQ {Q : D × Store → Prop} (hl : ds.length = np) (hb : Rn (body (start slots ds) S) fun p => Rn (fnK fi S.length p.1 p.2.1 p.2.2) Q) : Rn (fnOf fi np slots body ds S) Q := by
  obtain ⟨⟨f, σ, S1⟩, e, h⟩ := hb.ex
  obtain ⟨z, e2, h2⟩ := h.ex
  rw [au_fn, when_of (decide_eq_true hl), bs_of e, e2]
  exact h2
end
section
variable {tg : Tg} {g : List (Nat × Cell)} {body : Sm}
theorem for_map {α : Type} (f : α → PyData) (I : Nat → Env → Store → Prop) {Q : Fl × Env × Store → Prop} {xs : List α} {σ : Env} {S : Store} (h0 : I 0 σ S) (hs : ∀ k σ S, I k σ S → stand g S = true)
    (hb : ∀ (j : Nat) (x : α) (σ : Env) (S : Store), xs[j]? = some x → I j σ S → Rn (bx (tg (f x) σ) fun σ1 => body σ1 S) fun p => (p.1 = .nx ∨ p.1 = .ct) ∧ I (j + 1) p.2.1 p.2.2)
    (hq : ∀ σ S, I xs.length σ S → Q (.nx, σ, S)) : Rn (forL tg g body (xs.map f) σ S) Q := by
  refine for_rn I _ 0 _ _ h0 hs (fun j x σ S hx hi => ?_) fun σ S hi => hq σ S ?_
  · rw [List.getElem?_map, Option.map_eq_some_iff] at hx
    obtain ⟨y, hy, rfl⟩ := hx
    rw [Nat.zero_add] at hi ⊢
    obtain ⟨p, e, h⟩ := (hb j y σ S hy hi).ex
    obtain ⟨σ1, e1, e2⟩ := bx_okE e
    rw [e1]
    exact Rn.of (a := σ1) rfl (Rn.of e2 h)
  · rw [List.length_map, Nat.zero_add] at hi
    exact hi
theorem for_range (I : Nat → Env → Store → Prop) {Q : Fl × Env × Store → Prop} {n : Nat} {σ : Env} {S : Store} (h0 : I 0 σ S) (hs : ∀ k σ S, I k σ S → stand g S = true)
    (hb : ∀ (j : Nat) (σ : Env) (S : Store), j < n → I j σ S → Rn (bx (tg (dI j) σ) fun σ1 => body σ1 S) fun p => (p.1 = .nx ∨ p.1 = .ct) ∧ I (j + 1) p.2.1 p.2.2)
    (hq : ∀ σ S, I n σ S → Q (.nx, σ, S)) : Rn (forL tg g body ((List.range n).map dI) σ S) Q := by
  refine for_map dI I h0 hs (fun j x σ S hx hi => ?_) fun σ S hi => hq σ S (by rwa [List.length_range] at hi)
  obtain ⟨hj, rfl⟩ := List.getElem?_eq_some_iff.mp hx
  rw [List.getElem_range]
  exact hb j σ S (by simpa using hj) hi
end
theorem for_idx (f : Nat → PyData) (I : Nat → Env → Store → Prop) {Q : Fl × Env × Store → Prop} {n : Nat} {tg : Tg} {g : List (Nat × Cell)} {body : Sm} {σ : Env} {S : Store} (h0 : I 0 σ S) (hs : ∀ k σ S, I k σ S → stand g S = true)
    (hb : ∀ (j : Nat) (σ : Env) (S : Store), j < n → I j σ S → Rn (bx (tg (f j) σ) fun σ1 => body σ1 S) fun p => (p.1 = .nx ∨ p.1 = .ct) ∧ I (j + 1) p.2.1 p.2.2)
    (hq : ∀ σ S, I n σ S → Q (.nx, σ, S)) : Rn (forL tg g body ((List.range n).map f) σ S) Q := by
  refine for_map f I h0 hs (fun j x σ S hx hi => ?_) fun σ S hi => hq σ S (by rwa [List.length_range] at hi)
  obtain ⟨hj, rfl⟩ := List.getElem?_eq_some_iff.mp hx
  rw [List.getElem_range]
  exact hb j σ S (by simpa using hj) hi
theorem numD_range {α : Type} [Inhabited α] (f : α → PyData) (xs : List α) : numD 0 (xs.map f) = (List.range xs.length).map fun k => .tuple [dI k, f xs[k]!] := by
  apply List.ext_getElem?
  intro i
  rw [numD_at', List.getElem?_map, List.getElem?_map, Option.map_map, Nat.zero_add]
  by_cases hi : i < xs.length
  · rw [List.getElem?_eq_getElem hi, List.getElem?_range hi, Option.map_some, Option.map_some, getElem!_pos xs i hi]
    rfl
  · rw [List.getElem?_eq_none (by omega), List.getElem?_eq_none (by simp; omega)]
    rfl
theorem zipD_map {α β : Type} (f : α → PyData) (h : β → PyData) (xs : List α) (ys : List β) : zipD (xs.map f) (ys.map h) = (xs.zip ys).map fun p => .tuple [f p.1, h p.2] := by
  unfold zipD
  rw [List.zip_map, List.map_map]
  rfl
theorem get_mem {α : Type} [Inhabited α] {xs : List α} {k : Nat} (h : k < xs.length) : xs[k]! ∈ xs := by
  rw [getElem!_pos xs k h]
  exact List.getElem_mem h
theorem au_pow (a b : Int) (h0 : 0 ≤ b) (h1 : b ≤ 1000) (h2 : -(2 ^ 200) < a) (h3 : a < 2 ^ 200) : pPow (.int a) (.int b) = .ok (.int (a ^ b.toNat)) := when_of (decide_eq_true ⟨h0, h1, by
  by_cases e : a.natAbs = 0
  · rw [e]
    decide
  · rw [Nat.log2_lt e]
    have : (a.natAbs : Int) = a ∨ (a.natAbs : Int) = -a := by omega
    have h2 : ((2 ^ 10000 : Nat) : Int) = 2 ^ 10000 := by simp
    have h3 : (2 : Int) ^ 200 ≤ 2 ^ 10000 := by decide +kernel
    omega⟩)
theorem au_takeB {α : Type} (A B : List α) (n : Nat) (h : A.length ≤ n) : (A ++ B).take n = A ++ B.take (n - A.length) := by
  rw [List.take_append, List.take_of_length_le h]
theorem au_take0 {α : Type} (A : List α) : A.take 0 = [] := rfl
def insC (S : Store) (i : Nat) (k : Int) (d : PyData) : Option Cell → R (D × Store)
  | some (.lst xs) => when_ (decide (0 ≤ k ∧ k < 2 ^ 60 ∧ xs.length < Line)) (.ok (.p .none, S.set i (.lst (xs.take k.toNat ++ [d] ++ xs.drop k.toNat))))
  | _ => .no
def insK (x y : D) (d : PyData) (S : Store) : R (D × Store) := match x, y with
  | .ref i, .p (.int k) => insC S i k d S[i]?
  | _, _ => .no
def insD (x y z : D) (S : Store) : R (D × Store) := bd (fz S z) (insK x y)
def insB (x : D) (b : Ex) (σ : Env) (y : D) (S : Store) : R (D × Store) := bd (b σ S) (insD x y)
def insA (a b : Ex) (σ : Env) (x : D) (S : Store) : R (D × Store) := when_ (lstAt S x) (bd (a σ S) (insB x b σ))
theorem au_Ins (o a b : Ex) (σ : Env) (S : Store) : mInsert o a b σ S = bd (o σ S) (insA a b σ) := rfl
theorem au_insA (a b : Ex) (σ : Env) (S : Store) (d : D) : insA a b σ d S = when_ (lstAt S d) (bd (a σ S) (insB d b σ)) := rfl
theorem au_insB (b : Ex) (σ : Env) (S : Store) (d d2 : D) : insB d b σ d2 S = bd (b σ S) (insD d d2) := rfl
theorem au_insD (S : Store) (d d2 d3 : D) : insD d d2 d3 S = bd (fz S d3) (insK d d2) := rfl
theorem au_insK (S : Store) (i : Nat) (k : Int) (u : PyData) : insK (.ref i) (.p (.int k)) u S = insC S i k u S[i]? := rfl
theorem au_insC (S : Store) (i : Nat) (k : Int) (u : PyData) (xs : List PyData) : insC S i k u (some (.lst xs)) = when_ (decide (0 ≤ k ∧ k < 2 ^ 60 ∧ xs.length < Line)) (.ok (.p .none, S.set i (.lst (xs.take k.toNat ++ [u] ++ xs.drop k.toNat)))) := rfl
theorem au_addI (a b : Int) : pAddI (.int a) (.int b) = .ok (.int (a + b)) := rfl
theorem au_subI (a b : Int) : pSubI (.int a) (.int b) = .ok (.int (a - b)) := rfl
theorem au_gTL (ts : List Tg) (xs : List PyData) (σ : Env) : gT ts (.list xs) σ = gAll ts xs σ := rfl
def au6 := And.intro @au_gTL <| And.intro @au_Ins <| And.intro @au_insA <| And.intro @au_insB <| And.intro @au_insD <| And.intro @au_insK <| And.intro @au_insC <| And.intro @au_takeB <| And.intro @au_take0 <| And.intro @au_pow <| And.intro @au_addI <| And.intro @au_subI <| And.intro @numD_range (And.intro @zipD_map (And.intro @stand_nil (And.intro @ints_map (And.intro @bd_ok (And.intro @bx_ok (And.intro @bs_ok (And.intro @dv_p (And.intro @fz_p @rn_ok))))))))
end Mi
end
section
namespace Mi
open PySem
section
variable (own : List Nat) (tg : Tg) (cond : Bx) (kx vx : Ex) (g : List (Nat × Cell)) (σ : Env)
end
end Mi
end
section
namespace Mi
open PySem PySem.Spec PyProof.Rows L2
section
variable {X : Cx} {e e2 o ix : Expr} {fa fb fc fo fi : Ex} {pos tp apos cpos : Pos} {es ts : List Expr}
structure GOk (X : Cx) (t : Expr) (p : Pt) : Prop where
  has : ∃ g : TG, PG X t g ∧ ∀ (ρ : List Addr) (S : Store) (H : Hp) (v : V) (d : Mi.D) (env : Env) (σ : L2.St) (Q : L2.St → Hp → Prop), DOk X.K ρ S H v d → EnvOk X.K ρ S H env σ → Ok ρ S H →
    Aft ρ S H (p d env S) (fun q => q.2.2) (fun q ρ' H' => ∀ σ', EnvOk X.K ρ' q.2.2 H' q.2.1 σ' → Q σ' H') → g v σ H Q
structure GsOk (X : Cx) (ts : List Expr) (ps : List Pt) : Prop where
  has : ∃ g : TGs, PGs X ts g ∧ ∀ (ρ : List Addr) (S : Store) (H : Hp) (vs : List V) (ds : List Mi.D) (env : Env) (σ : L2.St) (Q : L2.St → Hp → Prop), DsOk X.K ρ S H vs ds → EnvOk X.K ρ S H env σ → Ok ρ S H →
    Aft ρ S H (ptAll ps ds env S) (fun q => q.2.2) (fun q ρ' H' => ∀ σ', EnvOk X.K ρ' q.2.2 H' q.2.1 σ' → Q σ' H') → g vs σ H Q
end
end Mi
end
section
namespace Mi
open PySem PySem.Spec PyProof.Rows L2
section
variable {X : Cx} {e : Expr} {te : TE}
end
section
variable {K : PySem.W.Frag} {ρ : List Addr} {S : Store} {H : Hp} {i : Nat} {a : Addr}
def FdAt (a : Addr) (kvs : List (PyData × PyData)) (ρ : List Addr) (S : Store) (H : Hp) : Prop := ∃ o us, H a = some (.frz o (.dK us)) ∧ KvK (Live ρ S) H us kvs
theorem FdAt.mono {kvs : List (PyData × PyData)} {ρ' : List Addr} {S' : Store} {H' : Hp} (h : FdAt a kvs ρ S H) (e : Xt ρ S H ρ' S' H') : FdAt a kvs ρ' S' H' := by
  obtain ⟨o, us, h1, h2⟩ := h
  exact ⟨o, us, e.gr.frzs _ _ _ h1, h2.mono e.gr⟩
theorem KvK.at {L : Addr → Prop} : ∀ {us : List (Key × V)} {kvs : List (PyData × PyData)}, KvK L H us kvs → ∀ (j : Nat) (p : PyData × PyData), kvs[j]? = some p → ∃ k v, us[j]? = some (k, v) ∧ p.1 = keyD k ∧ Pd L H v p.2
  | _, _, .nil, j, p, h => by simp at h
  | _, _, .cons (k := k) (v := v) a t, 0, p, h => by
    simp at h
    subst h
    exact ⟨k, v, rfl, rfl, a⟩
  | _, _, .cons a t, j + 1, p, h => by
    obtain ⟨k, v, h1, h2⟩ := KvK.at t j p (by simpa using h)
    exact ⟨k, v, by simpa using h1, h2⟩
end
section
variable {K : PySem.W.Frag} {a : Addr} {o : Obj} {us : List (Key × V)} {kvs : List (PyData × PyData)}
def FdO (o : Obj) (a : Addr) (us : List (Key × V)) (kvs : List (PyData × PyData)) (ρ : List Addr) (S : Store) (H : Hp) : Prop := H a = some (.frz o (.dK us)) ∧ KvK (Live ρ S) H us kvs
theorem FdO.mono {ρ ρ' : List Addr} {S S' : Store} {H H' : Hp} (h : FdO o a us kvs ρ S H) (e : Xt ρ S H ρ' S' H') : FdO o a us kvs ρ' S' H' := ⟨e.gr.frzs _ _ _ h.1, h.2.mono e.gr⟩
end
section
variable {X : Cx} {e e2 e3 tg o : Expr} {fa fb fo : Ex} {pos apos cpos tpos : Pos} {elts : List Expr} {kk : Nat}
end
end Mi
end
section
namespace Mi
open PySem PySem.Spec PyProof.Rows L2
section
variable {K : PySem.W.Frag}
end
section
variable {X : Cx} {kx vx tg iter e : Expr} {ifs : List Expr} {scope : Scope} {own : List (Str × Nat)} {pos : Pos} {st : Bool} {is : List Nat} {src : Is} {t : Tg} {cond : Bx} {fk fv fa : Ex}
end
end Mi
end
section
namespace Mi
open PySem PySem.Spec PyProof.Rows L2
section
variable {X : Cx}
end
end Mi
end
section
namespace Mi
open PySem PySem.Spec PyProof.Rows L2
section
variable {X : Cx} {e o : Expr} {pos p cpos apos : Pos} {fo fa : Ex} {x : Str}
end
end Mi
end
section
namespace Mi
open PySem
def intsT : PyData → Option (List Int)
  | .tuple xs => ints? xs
  | _ => none
def tuI (ks : List Int) : PyData := .tuple (ks.map .int)
end Mi
end
section
namespace Mi
open PySem
abbrev Tv := List (List Int × PyData)
def lookT (kvs : Tv) (k : List Int) : Option PyData := (kvs.find? fun p => decide (p.1 = k)).map (·.2)
def hasT (kvs : Tv) (k : List Int) : Bool := decide (k ∈ kvs.map (·.1))
def putT (kvs : Tv) (k : List Int) (d : PyData) : Tv := if k ∈ kvs.map (·.1) then kvs.map fun p => if p.1 = k then (p.1, d) else p else kvs ++ [(k, d)]
def tvC : Option Cell → R Tv
  | some (.tdv _ kvs) => .ok kvs
  | _ => .no
def tvOf (S : Store) : D → R Tv
  | .ref i => tvC S[i]?
  | _ => .no
def keyT (S : Store) (d : D) : R (List Int) := bx (dv S d) fun u => orNo (intsT u)
def mTv0 : Ex := fun _ S => .ok (.ref S.length, S ++ [.tdv true []])
def tv1C (i : Nat) (zs : List Int) (d : PyData) (S : Store) : Option Cell → R (D × Store)
  | some (.tdv true []) => .ok (.ref i, S.set i (.tdv true [(zs, d)]))
  | _ => .no
def mTv1 (a b : Ex) : Ex := fun σ S => bd (a σ (S ++ [.tdv true []])) fun x S1 => bd (b σ S1) fun y S2 => bd (fz S2 y) fun d S3 => bx (keyT S3 x) fun zs => tv1C S.length zs d S3 S3[S.length]?
def mIxT (o a : Ex) : Ex := fun σ S => bd (o σ S) fun x S1 => bd (a σ S1) fun y S2 => bx (keyT S2 y) fun zs => bx (tvOf S2 x) fun kvs => bx (orNo (lookT kvs zs)) fun z => .ok (.p z, S2)
def mInV (a o : Ex) : Ex := fun σ S => bd (a σ S) fun x S1 => bd (o σ S1) fun y S2 => bx (keyT S2 x) fun zs => bx (tvOf S2 y) fun kvs => .ok (.p (.bool (hasT kvs zs)), S2)
def mNotInV (a o : Ex) : Ex := fun σ S => bd (a σ S) fun x S1 => bd (o σ S1) fun y S2 => bx (keyT S2 x) fun zs => bx (tvOf S2 y) fun kvs => .ok (.p (.bool (!hasT kvs zs)), S2)
def isTv : R Tv → Bool
  | .ok _ => true
  | _ => false
def gtT (zs : List Int) (kvs : Tv) (S : Store) : D → R (D × Store)
  | .p w => .ok (.p ((lookT kvs zs).getD w), S)
  | _ => .no
def mGetT (o a b : Ex) : Ex := fun σ S => bd (o σ S) fun x S1 => when_ (isTv (tvOf S1 x)) (bd (a σ S1) fun y S2 => bd (b σ S2) fun z S3 => bx (keyT S3 y) fun zs => bx (tvOf S3 x) fun kvs => gtT zs kvs S3 z)
def svC (j : Nat) (zs : List Int) (d : PyData) (σ : Env) (S : Store) : Option Cell → R (Fl × Env × Store)
  | some (.tdv true kvs) => when_ (decide (kvs.length < Line)) (.ok (.nx, σ, S.set j (.tdv true (putT kvs zs d))))
  | _ => .no
def svD (zs : List Int) (d : PyData) (σ : Env) (S : Store) : D → R (Fl × Env × Store)
  | .ref j => svC j zs d σ S S[j]?
  | _ => .no
def sSetTv (o i a : Ex) : Sm := fun σ S => bd (a σ S) fun y S1 => bd (o σ S1) fun x S2 => bd (i σ S2) fun k S3 => bd (fz S3 y) fun d S4 => bx (keyT S4 k) fun zs => svD zs d σ S4 x
def ksC (i : Nat) (S : Store) : Option Cell → R (Src × Store)
  | some (.tdv _ kvs) => .ok (⟨kvs.map fun p => tuI p.1, []⟩, S.set i (.tdv false kvs))
  | _ => .no
def ksD (x : D) (S : Store) : R (Src × Store) := match x with
  | .ref i => ksC i S S[i]?
  | _ => .no
def iKeysTv (a : Ex) : Is := fun σ S => bd (a σ S) ksD
def itT : D → Store → R (Src × Store)
  | .p (.dict kvs), S => when_ (!keyNT kvs) (.ok (⟨pairsOf kvs, []⟩, S))
  | _, _ => .no
def iItemsT (a : Ex) : Is := fun σ S => bd (a σ S) itT
def srT (S : Store) (kvs : Tv) : R (D × Store) := when_ (sortOk (kvs.map fun p => tuI p.1)) (.ok (.p (.list (sortD (kvs.map fun p => tuI p.1))), S))
def mSortTv (o : Ex) : Ex := fun σ S => bd (o σ S) fun x S1 => bx (tvOf S1 x) fun kvs => srT S1 kvs
def mergeT : Tv → List PyData → Option Tv
  | acc, [] => some acc
  | acc, .tuple [k, v] :: r => (intsT k).bind fun zs => mergeT (putT acc zs v) r
  | _, _ :: _ => none
def dpT (S : Store) : PyData → R (D × Store)
  | .list xs => bx (orNo (mergeT [] xs)) fun kvs => .ok (.ref S.length, S ++ [.tdv true kvs])
  | _ => .no
def mDictPT (a : Ex) : Ex := fun σ S => bd (a σ S) fun x S1 => bx (dv S1 x) (dpT S1)
def mLenTv (o : Ex) : Ex := fun σ S => bd (o σ S) fun x S1 => bx (tvOf S1 x) fun kvs => .ok (.p (.int kvs.length), S1)
section
variable (own : List Nat) (tg : Tg) (cond : Bx) (kx vx : Ex) (g : List (Nat × Cell)) (σ : Env)
end
end Mi
end
section
namespace Mi
open PySem PySem.Spec PyProof.Rows L2
section
variable (vs1 : List Nat) (tg1 : Tg) (cond1 : Bx) (elt : Ex)
noncomputable def inL (σ2 : Env) : List PyData → List PyData → Store → R (List PyData × Store)
  | [], acc, S => .ok (acc, S)
  | x :: xs, acc, S => bx (tg1 x (wipe σ2 vs1)) fun σ3 => bd (cond1 σ3 (S ++ [.lst acc])) fun b S1 => if b = true then bd (elt σ3 S1) fun y S2 => bd (fz S2 y) fun d S3 => when_ (stand [(S.length, .lst acc)] S3 && decide (acc.length < Line)) (inL σ2 xs (acc ++ [d]) (S3.take S.length))
      else when_ (stand [(S.length, .lst acc)] S1) (inL σ2 xs acc (S1.take S.length))
variable (own : List Nat) (tg : Tg) (cond : Bx) (src1 : Is) (g : List (Nat × Cell)) (σ : Env)
noncomputable def outL : List PyData → List PyData → Store → R (D × Store)
  | [], acc, S => when_ (stand g (S ++ [.lst acc])) (.ok (.p (.list acc), S))
  | x :: xs, acc, S => when_ (stand g (S ++ [.lst acc])) (bx (tg x (wipe σ own)) fun σ1 => bd (cond σ1 (S ++ [.lst acc])) fun b S1 => if b = true then bd (src1 σ1 S1) fun s1 S2 => when_ (s1.g.isEmpty && decide (S2.length = S.length + 1) && stand [(S.length, .lst acc)] S2) (bd (inL vs1 tg1 cond1 elt σ1 s1.items acc (S2.take S.length)) fun acc' S3 => outL xs acc' S3)
      else when_ (stand [(S.length, .lst acc)] S1) (outL xs acc (S1.take S.length)))
end
noncomputable def mComp2 (own vs1 : List Nat) (src : Is) (tg : Tg) (cond : Bx) (src1 : Is) (tg1 : Tg) (cond1 : Bx) (elt : Ex) : Ex := fun σ S => bd (src σ S) fun s S1 => outL vs1 tg1 cond1 elt own tg cond src1 s.g σ s.items [] S1
section
variable {X : Cx} {K : PySem.W.Frag}
theorem bd_assoc {α β γ : Type} (r : R (α × Store)) (f : α → Store → R (β × Store)) (g : β → Store → R γ) : Mi.bd (Mi.bd r f) g = Mi.bd r fun a S => Mi.bd (f a S) g := by
  cases r <;> rfl
theorem bd_when {α β : Type} (c : Bool) (r : R (α × Store)) (g : α → Store → R β) : Mi.bd (when_ c r) g = when_ c (Mi.bd r g) := by
  cases c <;> rfl
theorem stand_nilg {g : List (Nat × Cell)} (h : g.isEmpty = true) (S : Store) : stand g S = true := by
  cases g with
  | nil => exact stand_nil S
  | cons a b => cases h
theorem t_comp2 {own vs1 : List Nat} {st st1 : Bool} {is is1 : List Nat} {src src1 : Is} {t t1 : Tg} {cond cond1 : Bx} {fe : Ex} (his : ∀ i ∈ is, i ∈ own) (his1 : ∀ i ∈ is1, i ∈ vs1) {σ : L2.St} {H : Hp} {Q : VK} (h : TN K (mComp2 own vs1 src t cond src1 t1 cond1 fe) σ H Q) :
    tLc2 (TIs K st src) (TTg K st is t) (TBx K cond) (TIs K st1 src1) (TTg K st1 is1 t1) (TBx K cond1) (TX K fe) own vs1 σ H Q := by
  obtain ⟨ρ, env, S, eo, ok, q⟩ := h
  refine ⟨ρ, env, S, eo, ok, (Aft.bd q).mono fun p ρ1 H1 e1 o1 q1 J GG wk hG => ?_⟩
  obtain ⟨⟨items, g⟩, S1⟩ := p
  intro D hD
  have eo1 := eo.mono e1
  let k : Mi.D × Store → List Addr → Hp → Prop := fun p ρ' H' => ∃ xs, p.1 = .p (.list xs) ∧ ∀ a vs, H' a = none → Pds (Live ρ' p.2) H' vs xs → Q (.ref a) (upd H' a (.lst vs))
  let W : Nat → Nat → Hp → Prop := fun i m H' => m = items.length - i ∧ i ≤ items.length ∧ ∃ Sc acc, Ok (ρ1 ++ [D]) (Sc ++ [.lst acc]) H' ∧ Xt ρ1 S1 H1 (ρ1 ++ [D]) (Sc ++ [.lst acc]) H' ∧ Sc.length = S1.length ∧
    Aft ρ1 S1 H1 (outL vs1 t1 cond1 fe own t cond src1 g env (items.drop i) acc Sc) (fun p => p.2) k
  obtain ⟨oD, xD⟩ := o1.pushL hD .nil
  refine ⟨W, ⟨items.length, by omega, Nat.zero_le _, S1, [], oD, xD, rfl, q1⟩, ?_⟩
  rintro i m H' ⟨rfl, hi, Sc, acc, okc, xtc, hlen, q'⟩
  have hG' := wk.mono _ _ _ _ _ _ hG xtc
  have eoc : EnvOk K (ρ1 ++ [D]) (Sc ++ [.lst acc]) H' (Mi.wipe env own) (L2.wipe σ own) := (eo1.mono xtc).wipe own
  have hl1 : ρ1.length = Sc.length := by rw [hlen]; exact o1.len
  by_cases hlt : i < items.length
  · rw [drop_cons hlt] at q'
    obtain ⟨hst, q2⟩ := Aft.when q'
    obtain ⟨env2, ht, q3⟩ := Aft.bx q2
    refine .inr ⟨wk.goes i _ _ H' hlt okc hG' hst, W (i + 1) (items.length - (i + 1)), fun H2 w => ⟨_, by omega, w⟩, fun x H2 y => ?_⟩
    obtain ⟨xt, o2, rl⟩ := wk.yld i _ _ H' x H2 items[i] (List.getElem?_eq_getElem hlt) okc hG' hst y
    refine ⟨ρ1 ++ [D], Mi.wipe env own, Sc ++ [.lst acc], items[i], env2, eoc.mono xt, o2, rl, ht, fun σ2 eo2 hw => ⟨?_, ?_⟩⟩
    · rw [hw own his]
      exact wipe_wipe own σ
    · refine ⟨ρ1 ++ [D], env2, _, eo2, o2, (Aft.bd0 q3).mono fun p ρ3 H3 e3 o3 q4 => ?_⟩
      obtain ⟨b, S3⟩ := p
      have e5 := xt.trans e3
      cases b with
      | true =>
        have q4 : Aft ρ1 S1 H1 (bd (src1 env2 S3) fun s1 S2 => when_ (s1.g.isEmpty && decide (S2.length = Sc.length + 1) && stand [(Sc.length, .lst acc)] S2) (bd (inL vs1 t1 cond1 fe env2 s1.items acc (S2.take Sc.length)) fun acc' S3 => outL vs1 t1 cond1 fe own t cond src1 g env (List.drop (i + 1) items) acc' S3)) (fun p => p.2) k := q4
        refine ⟨ρ3, env2, S3, eo2.mono e3, o3, (Aft.bd0 q4).mono fun p ρ4 H4 e4 o4 q5 J1 G1 wk1 hG1 => ?_⟩
        obtain ⟨⟨items1, g1⟩, S4⟩ := p
        obtain ⟨hc, q6⟩ := Aft.when q5
        simp only [Bool.and_eq_true, decide_eq_true_eq] at hc
        obtain ⟨⟨hg1, hS4⟩, h4⟩ := hc
        have hst4 := stand_at h4
        have e6 := e5.trans e4
        obtain ⟨tr, x7⟩ := e6.trunc okc (Sc.length + 1) (by simp)
        have hS4e : S4 = S4.take Sc.length ++ [.lst acc] := by
          have e8 : S4.take (Sc.length + 1) = S4.take Sc.length ++ [.lst acc] := by
            rw [List.take_succ, hst4]
            rfl
          rw [← e8, List.take_of_length_le (by omega)]
        have hρ4 : ρ4 = ρ1 ++ [D] := by
          rw [← tr, List.take_of_length_le (by rw [o4.len]; exact Nat.le_of_eq hS4)]
        obtain ⟨Sd, hSd⟩ : ∃ Sd, S4.take Sc.length = Sd := ⟨_, rfl⟩
        have hSdl : Sd.length = S1.length := by
          rw [← hSd, List.length_take, hS4, hlen]
          omega
        rw [hSd] at hS4e q6
        have eo4 : EnvOk K ρ4 S4 H4 env2 σ2 := eo2.mono (e3.trans e4)
        subst hρ4
        rw [hS4e] at hG1 o4 e6 eo4
        have stop1 : ∀ {Se : Store} {acc2 : List PyData}, stand g1 (Se ++ [.lst acc2]) = true := fun {Se acc2} => stand_nilg hg1 _
        let W1 : Nat → Nat → Hp → Prop := fun j m H'' => m = items1.length - j ∧ j ≤ items1.length ∧ ∃ Se acc2, Ok (ρ1 ++ [D]) (Se ++ [.lst acc2]) H'' ∧ Xt (ρ1 ++ [D]) (Sd ++ [.lst acc]) H4 (ρ1 ++ [D]) (Se ++ [.lst acc2]) H'' ∧ Se.length = S1.length ∧
          Aft ρ1 S1 H1 (bd (inL vs1 t1 cond1 fe env2 (items1.drop j) acc2 Se) fun acc' S3 => outL vs1 t1 cond1 fe own t cond src1 g env (List.drop (i + 1) items) acc' S3) (fun p => p.2) k
        refine ⟨W1, ⟨items1.length, by omega, Nat.zero_le _, Sd, acc, o4, Xt.refl, hSdl, q6⟩, ?_⟩
        rintro j m H'' ⟨rfl, hj, Se, acc2, oke, xte, hlene, q7⟩
        have hG1' := wk1.mono _ _ _ _ _ _ hG1 xte
        have eoe : EnvOk K (ρ1 ++ [D]) (Se ++ [.lst acc2]) H'' (Mi.wipe env2 vs1) (L2.wipe σ2 vs1) := (eo4.mono xte).wipe vs1
        have hle : ρ1.length = Se.length := by rw [hlene]; exact o1.len
        have xtall : Xt ρ1 S1 H1 (ρ1 ++ [D]) (Se ++ [.lst acc2]) H'' := (xtc.trans e6).trans xte
        by_cases hjt : j < items1.length
        · rw [drop_cons hjt] at q7
          have q7 : Aft ρ1 S1 H1 (bd (bx (t1 items1[j] (Mi.wipe env2 vs1)) fun σ3 => bd (cond1 σ3 (Se ++ [.lst acc2])) fun b S1 => if b = true then bd (fe σ3 S1) fun y S2 => bd (fz S2 y) fun d S3 => when_ (stand [(Se.length, .lst acc2)] S3 && decide (acc2.length < Line)) (inL vs1 t1 cond1 fe env2 (List.drop (j + 1) items1) (acc2 ++ [d]) (S3.take Se.length))
      else when_ (stand [(Se.length, .lst acc2)] S1) (inL vs1 t1 cond1 fe env2 (List.drop (j + 1) items1) acc2 (S1.take Se.length))) fun acc' S3 => outL vs1 t1 cond1 fe own t cond src1 g env (List.drop (i + 1) items) acc' S3) (fun p => p.2) k := q7
          cases ht1 : t1 items1[j] (Mi.wipe env2 vs1) with
          | no => rw [ht1] at q7; exact q7.elim
          | ex e S => rw [ht1] at q7; exact q7.elim
          | ok env3 =>
            rw [ht1] at q7
            refine .inr ⟨wk1.goes j _ _ H'' hjt oke hG1' stop1, W1 (j + 1) (items1.length - (j + 1)), fun H2 w => ⟨_, by omega, w⟩, fun x1 H5 y1 => ?_⟩
            obtain ⟨xt1, o5, rl1⟩ := wk1.yld j _ _ H'' x1 H5 items1[j] (List.getElem?_eq_getElem hjt) oke hG1' stop1 y1
            refine ⟨ρ1 ++ [D], Mi.wipe env2 vs1, Se ++ [.lst acc2], items1[j], env3, eoe.mono xt1, o5, rl1, ht1, fun σ3 eo3 hw1 => ⟨?_, ?_⟩⟩
            · rw [hw1 vs1 his1]
              exact wipe_wipe vs1 σ2
            · have turn : ∀ {ρ4 : List Addr} {S4 : Store} {H4 : Hp}, Xt (ρ1 ++ [D]) (Se ++ [.lst acc2]) H'' ρ4 S4 H4 → Ok ρ4 S4 H4 → stand [(Se.length, .lst acc2)] S4 = true → S4[Se.length]? = some (.lst acc2) ∧ ρ4[Se.length]? = some D := fun {ρ4 S4 H4} e4 o4 h4 => by
                refine ⟨?_, e4.at (by rw [← hle]; simp)⟩
                exact stand_at h4
              rw [bx_ok, bd_assoc] at q7
              refine ⟨ρ1 ++ [D], env3, _, eo3, o5, (Aft.bd0 q7).mono fun p ρ6 H6 e7 o6 q8 => ?_⟩
              obtain ⟨b1, S6⟩ := p
              cases b1 with
              | true =>
                have q8 : Aft ρ1 S1 H1 (bd (bd (fe env3 S6) fun y S2 => bd (fz S2 y) fun d S3 => when_ (stand [(Se.length, .lst acc2)] S3 && decide (acc2.length < Line)) (inL vs1 t1 cond1 fe env2 (List.drop (j + 1) items1) (acc2 ++ [d]) (S3.take Se.length))) fun acc' S3 => outL vs1 t1 cond1 fe own t cond src1 g env (List.drop (i + 1) items) acc' S3) (fun p => p.2) k := q8
                rw [bd_assoc] at q8
                refine ⟨ρ6, env3, S6, eo3.mono e7, o6, (Aft.bd0 q8).mono fun p ρ7 H7 e8 o7 q9 yv dy => ?_⟩
                obtain ⟨y, S7⟩ := p
                dsimp only at q9
                rw [bd_assoc] at q9
                obtain ⟨d, S8, hfz, q10⟩ := Aft.inv q9
                obtain ⟨x8, o8, pd⟩ := fz_ok o7 dy hfz
                rw [bd_when] at q10
                obtain ⟨h8, q11⟩ := Aft.when q10
                rw [Bool.and_eq_true, decide_eq_true_eq] at h8
                have e9 := ((xt1.trans e7).trans e8).trans x8
                obtain ⟨hS, hr⟩ := turn e9 o8 h8.1
                obtain ⟨accV, hv1, hv2⟩ := o8.cell _ _ _ hr hS
                refine ⟨accV, hv1, by rw [hv2.length]; exact h8.2, ?_⟩
                obtain ⟨o9, x9⟩ := o8.putL (vs := accV ++ [yv]) (ys := acc2 ++ [d]) hr hS (hv2.append (.cons pd .nil))
                have e10 := e9.trans x9
                obtain ⟨tr, x10⟩ := e10.trunc oke (Se.length + 1) (by simp)
                have o10 := o9.trunc (Se.length + 1)
                have hlt8 : Se.length < S8.length := (List.getElem?_eq_some_iff.mp hS).1
                rw [tr, take_set hlt8] at o10
                rw [take_set hlt8] at x10
                refine ⟨rfl, hjt, S8.take Se.length, acc2 ++ [d], o10, xte.trans x10, ?_, q11⟩
                rw [List.length_take, hlene]
                omega
              | false =>
                have q8 : Aft ρ1 S1 H1 (bd (when_ (stand [(Se.length, .lst acc2)] S6) (inL vs1 t1 cond1 fe env2 (List.drop (j + 1) items1) acc2 (S6.take Se.length))) fun acc' S3 => outL vs1 t1 cond1 fe own t cond src1 g env (List.drop (i + 1) items) acc' S3) (fun p => p.2) k := q8
                rw [bd_when] at q8
                obtain ⟨h8, q9⟩ := Aft.when q8
                have e9 := xt1.trans e7
                obtain ⟨hS, hr⟩ := turn e9 o6 h8
                obtain ⟨tr, x10⟩ := e9.trunc oke (Se.length + 1) (by simp)
                have o10 := o6.trunc (Se.length + 1)
                have hlt8 : Se.length < S6.length := (List.getElem?_eq_some_iff.mp hS).1
                have e11 : S6.take (Se.length + 1) = S6.take Se.length ++ [.lst acc2] := by
                  rw [List.take_succ, hS]
                  rfl
                rw [tr, e11] at o10
                rw [e11] at x10
                refine ⟨rfl, hjt, S6.take Se.length, acc2, o10, xte.trans x10, ?_, q9⟩
                rw [List.length_take, hlene]
                omega
        · have e : j = items1.length := by omega
          subst e
          rw [List.drop_length] at q7
          have q8 : Aft ρ1 S1 H1 (outL vs1 t1 cond1 fe own t cond src1 g env (List.drop (i + 1) items) acc2 Se) (fun p => p.2) k := q7
          refine .inl ⟨wk1.stops _ _ H'' oke hG1' stop1, rfl, hlt, Se, acc2, oke, xtall, hlene, q8⟩
      | false =>
        obtain ⟨h4, q7⟩ := Aft.when q4
        have hS : S3[Sc.length]? = some (.lst acc) := stand_at h4
        obtain ⟨tr, x7⟩ := e5.trunc okc (Sc.length + 1) (by simp)
        have o7 := o3.trunc (Sc.length + 1)
        have hlt5 : Sc.length < S3.length := (List.getElem?_eq_some_iff.mp hS).1
        have e8 : S3.take (Sc.length + 1) = S3.take Sc.length ++ [.lst acc] := by
          rw [List.take_succ, hS]
          rfl
        rw [tr, e8] at o7
        rw [e8] at x7
        refine ⟨rfl, hlt, S3.take Sc.length, acc, o7, xtc.trans x7, ?_, q7⟩
        rw [List.length_take, hlen]
        omega
  · have e : i = items.length := by omega
    subst e
    rw [List.drop_length] at q'
    obtain ⟨hst, q2⟩ := Aft.when q'
    obtain ⟨vs, h1, h2, h3⟩ := okc.pop hl1
    refine .inl ⟨wk.stops _ _ H' okc hG' hst, ?_⟩
    have xt : Xt ρ1 S1 H1 ρ1 Sc (del H' D) := by
      refine ⟨⟨[], by simp⟩, ⟨fun a ha => xtc.gr.live a (Live.old ha), fun a o ha na => ?_, fun a ha => ?_, fun a o u ha => ?_⟩, fun i a n rs r1 r2 => ?_⟩
      case refine_4 =>
        obtain ⟨n', rs', q1, q2, q3⟩ := xtc.nst i a n rs r1 r2
        have hl : i < Sc.length := by rw [hlen]; exact (List.getElem?_eq_some_iff.mp r2).1
        rw [List.getElem?_append_left hl] at q1
        exact ⟨n', rs', q1, q2, fun e => ⟨(q3 e).1, fun o ho => by
          rw [del_ne (ne_of_none ho hD)]
          exact (q3 e).2 o ho⟩⟩
      · rw [del_ne (ne_of_none ha hD)]
        exact xtc.gr.keep a o ha na
      · by_cases e : a = D
        · subst e; exact hD
        · rw [del_ne e] at ha
          exact xtc.gr.there a ha
      · rw [del_ne (ne_of_none ha hD)]
        exact xtc.gr.frzs a o u ha
    obtain ⟨xs, hx, hq⟩ := Aft.at q2 xt h2
    cases hx
    have z := hq D vs del_same h3
    rw [upd_del h1] at z
    exact z
variable {elt tg iter tg1 iter1 : Expr} {ifs ifs1 : List Expr} {scope : Scope} {own : List (Str × Nat)} {vs1 : List Nat} {pos spos : Pos} {st st1 : Bool} {is is1 : List Nat} {src src1 : Is} {t t1 : Tg} {cond cond1 : Bx} {fe : Ex}
theorem s_asgC2 (G : Gd X) (i : Nat) {y : Str} {py : Pos} (hsw : swapsWith (.ListComp elt [⟨tg, iter, ifs, 0⟩, ⟨tg1, iter1, ifs1, 0⟩] scope pos) (some (.Name y py)) spos.line X.env = pure true)
    (hi : PI X tg iter (TIs X.K st src)) (ok : BlkOk X.N X.env.scope scope own) (hv : ∀ i ∈ vs1, i ∈ own.map (·.2))
    (hg : ∀ (s : Shared) (H : Hp) (C : Addr) (cl : List (Str × Addr)) (fp : List Addr), PG (X.blk s H scope (compEnvC scope cl C X.env) fp) tg (TTg X.K st is t))
    (ht : ∀ (s : Shared) (H : Hp) (C : Addr) (cl : List (Str × Addr)) (fp : List Addr), PTs (X.blk s H scope (compEnvC scope cl C X.env) fp) ifs (TBx X.K cond))
    (hi1 : ∀ (s : Shared) (H : Hp) (C : Addr) (cl : List (Str × Addr)) (fp : List Addr), PI (X.blk s H scope (compEnvC scope cl C X.env) fp) tg1 iter1 (TIs X.K st1 src1))
    (hg1 : ∀ (s : Shared) (H : Hp) (C : Addr) (cl : List (Str × Addr)) (fp : List Addr), PG (X.blk s H scope (compEnvC scope cl C X.env) fp) tg1 (TTg X.K st1 is1 t1))
    (ht1 : ∀ (s : Shared) (H : Hp) (C : Addr) (cl : List (Str × Addr)) (fp : List Addr), PTs (X.blk s H scope (compEnvC scope cl C X.env) fp) ifs1 (TBx X.K cond1))
    (he : ∀ (s : Shared) (H : Hp) (C : Addr) (cl : List (Str × Addr)) (fp : List Addr), PE (X.blk s H scope (compEnvC scope cl C X.env) fp) elt (TX X.K fe))
    (his : ∀ i ∈ is, i ∈ own.map (·.2) := by decide) (his1 : ∀ i ∈ is1, i ∈ vs1 := by decide) (hs : ∀ x, foldedSetIterable iter X.env x = pure x := by intro _; rfl) (hs1 : ∀ env x, foldedSetIterable iter1 env x = pure x := by intro _ _; rfl) (hN : X.N[i]? = some y := by rfl) (hyl : X.env.scope.names.lookup y = some .local := by rfl) :
    PS X (.Assign [.Name y py] (.ListComp elt [⟨tg, iter, ifs, 0⟩, ⟨tg1, iter1, ifs1, 0⟩] scope pos) spos) (tAsg (TN X.K (mComp2 (own.map (·.2)) vs1 src t cond src1 t1 cond1 fe)) (gName i)) :=
  PS.up (ps_setLc2 G.calm G.nd hN hyl hsw hi ok hv hg ht hi1 hg1 ht1 he hs hs1) fun _ _ _ h => t_comp2 his his1 h
theorem isL_outL {own vs1 : List Nat} {g : List (Nat × Cell)} {σ : Env} : ∀ (items acc : List PyData) (S : Store) (p : D × Store), outL vs1 t1 cond1 fe own t cond src1 g σ items acc S = .ok p → ∃ xs, p.1 = .p (.list xs)
  | [], acc, S, p, h => by
    obtain ⟨_, h⟩ := when_ok h
    cases h
    exact ⟨_, rfl⟩
  | x :: xs, acc, S, p, h => by
    obtain ⟨_, h⟩ := when_ok h
    obtain ⟨σ1, _, h⟩ := bx_inv h
    obtain ⟨b, S1, _, h⟩ := bd_inv h
    cases b with
    | true =>
      rw [if_pos rfl] at h
      obtain ⟨y, S2, _, h⟩ := bd_inv h
      obtain ⟨_, h⟩ := when_ok h
      obtain ⟨d, S3, _, h⟩ := bd_inv h
      exact isL_outL xs _ _ p h
    | false =>
      rw [if_neg Bool.false_ne_true] at h
      obtain ⟨_, h⟩ := when_ok h
      exact isL_outL xs _ _ p h
theorem isL_comp2 {own vs1 : List Nat} (σ : Env) (S : Store) (p : D × Store) (h : mComp2 own vs1 src t cond src1 t1 cond1 fe σ S = .ok p) : ∃ xs, p.1 = .p (.list xs) := by
  obtain ⟨s, S1, _, h⟩ := bd_inv h
  exact isL_outL _ _ _ p h
end
end Mi
end
section
namespace Mi.L
open PySem Mi
noncomputable section
def b_sets_of : Sm := sSeq (sAsg 2 (mLst (aCons (mTup aNil) aNil)))
        (sSeq (sFor (iR1 (mV 1)) (gN 3) (sAsg 2 (mComp2 [4, 5] [5] (iE (mV 2)) (gN 4) tYes (iR1 (mV 0)) (gN 5) (tOr (tE (mO2 pEq (mV 4) (mTup aNil))) (tE (mO2 pGt (mV 5) (mIx (mV 4) (mO1 pNeg (mC (.int 1))))))) (mO2 pAdd (mV 4) (mTup (aCons (mV 5) aNil))))))
        (sRet (mV 2)))
def f_sets_of : Fn := fnOf fin 2 6 b_sets_of
def b_without_key : Sm := sRet (mO1 pTuple (mComp [2] (iE (mV 0)) (gN 2) (tE (mO2 pNe (mV 2) (mV 1))) (mV 2)))
def f_without_key : Fn := fnOf fin 2 3 b_without_key
def b_last_inserts : Sm := sSeq (sAsg 4 (mNew (mLst aNil)))
        (sSeq (sFor (iE (mV 3)) (gN 5) (sSeq (sUnp (gT [gN 6, gN 7]) (mIxT (mV 2) (mCall Mi.L.f_without_key (aCons (mV 3) (aCons (mV 5) aNil)))))
        (sDrop (mAppend (mV 4) (mTup (aCons (mIx (mCall Mi.L.f_insert (aCons (mV 0) (aCons (mV 1) (aCons (mV 6) (aCons (mV 5) aNil))))) (mC (.int 0))) (aCons (mO2 pAdd (mV 7) (mTup (aCons (mV 5) aNil))) aNil)))))))
        (sRet (mV 4)))
def f_last_inserts : Fn := fnOf fin 4 8 b_last_inserts
def b_search_sets : Sm := sSeq (sAsg 2 (mTv1 (mTup aNil) (mTup (aCons (mO2 pMul (mTup (aCons (mC (.int (-1))) aNil)) (mLen (mV 1))) (aCons (mTup aNil) aNil)))))
        (sSeq (sFor (iR2 (mC (.int 1)) (mO2 pAdd (mO2 pMin2 (mLen (mV 0)) (mLen (mV 1))) (mC (.int 1)))) (gN 3) (sFor (iE (mCall Mi.L.f_sets_of (aCons (mLen (mV 0)) (aCons (mV 3) aNil)))) (gN 4) (sSeq (sAsg 5 (mCall Mi.L.f_last_inserts (aCons (mV 0) (aCons (mV 1) (aCons (mV 2) (aCons (mV 4) aNil))))))
        (sSeq (sFor (iE (mV 5)) (gT [gN 6, gN 7]) (sIf (tE (mO2 pNe (mV 6) (mIx (mIx (mV 5) (mC (.int 0))) (mC (.int 0))))) (sRet (mTup (aCons (mV 2) (aCons (mTup (aCons (mIx (mIx (mV 5) (mC (.int 0))) (mC (.int 1))) (aCons (mV 7) aNil))) aNil)))) (sPass)))
        (sSetTv (mV 2) (mV 4) (mIx (mV 5) (mC (.int 0))))))))
        (sRet (mTup (aCons (mV 2) (aCons (mC .none) aNil)))))
def f_search_sets : Fn := fnOf fin 2 8 b_search_sets
def b_check_count : Sm := sIf (tE (mO2 pGt (mLen (mV 0)) (mC (.int 8)))) (sNever) (sPass)
def f_check_count : Fn := fnOf fin 1 1 b_check_count
def b_unlike : Sm := sSeq (sDrop (mCall Mi.L.f_check_count (aCons (mV 0) aNil)))
        (sRet (mIx (mCall Mi.L.f_search_sets (aCons (mV 0) (aCons (mV 1) aNil))) (mC (.int 1))))
def f_unlike : Fn := fnOf fin 2 2 b_unlike
def b_l_histories : Sm := sSeq (sAsg 1 (mLst (aCons (mTup aNil) aNil)))
        (sSeq (sFor (iR1 (mLen (mV 0))) (gN 2) (sSeq (sAsg 3 (mNew (mLst aNil)))
        (sSeq (sFor (iE (mV 1)) (gN 4) (sDrop (mExtend (mV 3) (mComp [5] (iE (mV 0)) (gN 5) (tE (mNotIn (mV 5) (mV 4))) (mO2 pAdd (mV 4) (mTup (aCons (mV 5) aNil)))))))
        (sAsg 1 (mV 3)))))
        (sRet (mV 1)))
def f_l_histories : Fn := fnOf fin 1 6 b_l_histories
def b_l_groups : Sm := sSeq (sPar [2, 3] (aCons (mLst (aCons (mTup aNil) aNil)) (aCons (mLst (aCons (mTup aNil) aNil)) aNil)))
        (sSeq (sFor (iR1 (mO2 pMin2 (mV 0) (mV 1))) (gN 4) (sSeq (sAsg 5 (mNew (mLst aNil)))
        (sSeq (sFor (iE (mV 3)) (gN 6) (sDrop (mExtend (mV 5) (mComp [7] (iR1 (mV 0)) (gN 7) (tOr (tE (mO2 pEq (mV 6) (mTup aNil))) (tE (mO2 pGt (mV 7) (mIx (mV 6) (mO1 pNeg (mC (.int 1))))))) (mO2 pAdd (mV 6) (mTup (aCons (mV 7) aNil)))))))
        (sPar [2, 3] (aCons (mO2 pAdd (mV 2) (mV 5)) (aCons (mV 5) aNil))))))
        (sRet (mV 2)))
def f_l_groups : Fn := fnOf fin 2 8 b_l_groups
end
end Mi.L
end
section
namespace Mi.L
open PySem Mi
noncomputable section
def b_are_some_keys : Sm := sRet (mAnd (mO1 (pIsa "tuple") (mV 1)) (mO1 pAll (mComp [2] (iE (mV 1)) (gN 2) tYes (mCall Mi.fIsInteger (aCons (mV 2) (aCons (mC (.int 0)) (aCons (mO2 pSub (mLen (mIx (mV 0) (mC (.int 0)))) (mC (.int 1))) aNil)))))))
def f_are_some_keys : Fn := fnOf fin 2 3 b_are_some_keys
def b_is_history : Sm := sSeq (sIf (tOr (Mi.tNot (tE (mCall Mi.L.f_are_some_keys (aCons (mV 0) (aCons (mV 1) aNil))))) (tE (mO2 pGt (mLen (mV 1)) (mLen (mV 0))))) (sRet (mC (.bool false))) (sPass))
        (sRet (mO2 pEq (mSetLenD 2 (mV 1)) (mLen (mV 1))))
def f_is_history : Fn := fnOf fin 2 3 b_is_history
def b_shows_unlike : Sm := sSeq (sIf (tOr (Mi.tNot (tE (mO1 (pIsa "tuple") (mV 2)))) (tOr (tE (mO2 pNe (mLen (mV 2)) (mC (.int 2)))) (Mi.tNot (tE (mO1 pAll (mComp [3] (iE (mV 2)) (gN 3) tYes (mCall Mi.L.f_is_history (aCons (mV 1) (aCons (mV 3) aNil))))))))) (sRet (mC (.bool false))) (sPass))
        (sSeq (sUnp (gT [gN 3, gN 4]) (mV 2))
        (sRet (mAnd (mO2 pEq (mO1 pSorted (mV 3)) (mO1 pSorted (mV 4))) (mO2 pNe (mCall Mi.L.f_layout_of (aCons (mV 0) (aCons (mV 1) (aCons (mV 3) aNil)))) (mCall Mi.L.f_layout_of (aCons (mV 0) (aCons (mV 1) (aCons (mV 4) aNil))))))))
def f_shows_unlike : Fn := fnOf fin 3 5 b_shows_unlike
end
end Mi.L
end
section
namespace Mi.L
open PySem Mi
noncomputable section
def b_l_shuffled : Sm := sSeq (sPar [2, 3] (aCons (mNew (mO1 (pRgL (.int 0)) (mV 1))) (aCons (mNew (mLst aNil)) aNil)))
        (sSeq (sWhile (tE (mO2 pNe (mV 2) (mLst aNil))) (sDrop (mAppend (mV 3) (mPop1 (mV 2) (mCall Mi.L.f_l_take (aCons (mV 0) (aCons (mLen (mV 2)) aNil)))))))
        (sRet (mO1 pTuple (mV 3))))
def f_l_shuffled : Fn := fnOf fin 2 4 b_l_shuffled
def b_l_put : Sm := sSeq (sPar [4, 5, 6, 7] (aCons (mNew (mO1 pList (mV 2))) (aCons (mNew (mLst aNil)) (aCons (mV 3) (aCons (mC (.int 0)) aNil)))))
        (sSeq (sFor (iR1 (mO2 pAdd (mO2 pMul (mLen (mV 2)) (mLen (mV 2))) (mC (.int 1)))) (gN 8) (sSeq (sAsg 9 (mIx (mIx (mV 0) (mV 6)) (mV 7)))
        (sSeq (sAsg 10 (mIx (mV 4) (mV 9)))
        (sIf (tAnd (tE (mO2 pNe (mV 10) (mO1 pNeg (mC (.int 1))))) (tE (mIn (mV 6) (mIx (mIx (mV 1) (mV 9)) (mV 10))))) (sAsg 7 (mO2 pAdd (mV 7) (mC (.int 1)))) (sSeq (sSetL (mV 4) (mV 9) (mV 6))
        (sSeq (sDrop (mAppend (mV 5) (mTup (aCons (mV 6) (aCons (mV 9) aNil)))))
        (sSeq (sIf (tE (mO2 pEq (mV 10) (mO1 pNeg (mC (.int 1))))) (sRet (mTup (aCons (mO1 pTuple (mV 4)) (aCons (mO1 pTuple (mV 5)) aNil)))) (sPass))
        (sPar [6, 7] (aCons (mV 10) (aCons (mO2 pAdd (mIndex (mIx (mV 0) (mV 10)) (mV 9)) (mC (.int 1))) aNil))))))))))
        (sRet (mTup (aCons (mO1 pTuple (mV 4)) (aCons (mTup aNil) aNil)))))
def f_l_put : Fn := fnOf fin 4 11 b_l_put
def b_l_laid2 : Sm := sSeq (sAsg 3 (mO2 pMul (mTup (aCons (mO1 pNeg (mC (.int 1))) aNil)) (mLen (mV 1))))
        (sSeq (sFor (iE (mV 2)) (gN 4) (sAsg 3 (mIx (mCall Mi.L.f_l_put (aCons (mV 0) (aCons (mV 1) (aCons (mV 3) (aCons (mV 4) aNil))))) (mC (.int 0)))))
        (sRet (mV 3)))
def f_l_laid2 : Fn := fnOf fin 3 5 b_l_laid2
def b_l_tried : Sm := sSeq (sPar [4, 5, 6] (aCons (mCall Mi.L.f_l_shuffled (aCons (mV 0) (aCons (mV 2) aNil))) (aCons (mO2 pAdd (mC (.int 1)) (mCall Mi.L.f_l_take (aCons (mV 0) (aCons (mO2 pMin2 (mC (.int 3)) (mV 2)) aNil)))) (aCons (mNew (mLst aNil)) aNil))))
        (sSeq (sFor (iR1 (mV 1)) (gN 7) (sIf (tE (mO2 pEq (mV 3) (mC (.int 0)))) (sSeq (sAsg 8 (mCall Mi.L.f_l_take (aCons (mV 0) (aCons (mV 2) aNil))))
        (sDrop (mAppend (mV 6) (mO1 pTuple (mComp [11] (iR1 (mV 2)) (gN 11) tYes (mO2 pMod (mO2 pAdd (mV 8) (mV 11)) (mV 2))))))) (sIf (tE (mO2 pEq (mV 3) (mC (.int 1)))) (sSeq (sAsg 9 (mComp [10] (iE (mCall Mi.L.f_l_shuffled (aCons (mV 0) (aCons (mV 2) aNil)))) (gN 10) (tE (mNotIn (mV 10) (mCut (mV 4) oNo (oE (mV 5))))) (mV 10)))
        (sDrop (mAppend (mV 6) (mO2 pAdd (mCut (mV 4) oNo (oE (mV 5))) (mO1 pTuple (mV 9)))))) (sDrop (mAppend (mV 6) (mCall Mi.L.f_l_shuffled (aCons (mV 0) (aCons (mV 2) aNil))))))))
        (sRet (mO1 pTuple (mV 6))))
def f_l_tried : Fn := fnOf fin 4 12 b_l_tried
def b_l_orders : Sm := sSeq (sPar [2, 3] (aCons (mCall Mi.L.f_l_take (aCons (mV 0) (aCons (mC (.int 3)) aNil))) (aCons (mNew (mLst aNil)) aNil)))
        (sSeq (sFor (iR1 (mLen (mIx (mV 1) (mC (.int 0))))) (gN 4) (sSeq (sAsg 5 (mCall Mi.L.f_l_shuffled (aCons (mV 0) (aCons (mLen (mV 1)) aNil))))
        (sSeq (sIf (tE (mO2 pGt (mV 2) (mC (.int 0)))) (sSeq (sAsg 6 (mO1 pSorted (mComp [7] (iE (mV 5)) (gN 7) tYes (mTup (aCons (mO2 pSub (mC (.int 0)) (mIndex (mIx (mV 1) (mV 7)) (mV 4))) (aCons (mIndex (mV 5) (mV 7)) (aCons (mV 7) aNil)))))))
        (sAsg 5 (mO1 pTuple (mComp [7, 8, 9] (iE (mV 6)) (gT [gN 8, gN 9, gN 7]) tYes (mV 7))))) (sPass))
        (sDrop (mAppend (mV 3) (mV 5))))))
        (sRet (mO1 pTuple (mV 3))))
def f_l_orders : Fn := fnOf fin 2 10 b_l_orders
def b_l_rule_of : Sm := sSeq (sAsg 1 (mNew (mLst aNil)))
        (sSeq (sFor (iE (mV 0)) (gN 2) (sDrop (mAppend (mV 1) (mO1 pTuple (mComp [3] (iR1 (mLen (mV 2))) (gN 3) tYes (mO1 pTuple (mO1 pSorted (mCut (mV 2) (oE (mO2 pAdd (mIndex (mV 2) (mV 3)) (mC (.int 1)))) oNo))))))))
        (sRet (mO1 pTuple (mV 1))))
def f_l_rule_of : Fn := fnOf fin 1 4 b_l_rule_of
end
end Mi.L
end
section
namespace Mi.L
open PySem Mi
noncomputable section
def b_l_turned_rule : Sm := sSeq (sAsg 3 (mNew (mLst aNil)))
        (sSeq (sFor (iR1 (mV 2)) (gN 4) (sSeq (sPar [5, 6] (aCons (mCall Mi.L.f_l_shuffled (aCons (mV 0) (aCons (mV 1) aNil))) (aCons (mCall Mi.L.f_l_of (aCons (mV 0) (aCons (mLst (aCons (mC (.int 2)) (aCons (mC (.int 3)) (aCons (mC (.int 8)) (aCons (mC (.int 100)) aNil))))) aNil))) aNil)))
        (sSeq (sAsg 7 (mCompN [9] (iR1 (mV 1)) (gN 9) (mLst aNil)))
        (sSeq (sFor (iEnum (mV 5)) (gT [gN 8, gN 9]) (sFor (iE (mCut (mV 5) (oE (mO2 pAdd (mV 8) (mC (.int 1)))) oNo)) (gN 10) (sIf (tE (mO2 pEq (mCall Mi.L.f_l_take (aCons (mV 0) (aCons (mV 6) aNil))) (mC (.int 1)))) (sDrop (mAppend (mRow (mV 7) (mV 10)) (mV 9))) (sDrop (mAppend (mRow (mV 7) (mV 9)) (mV 10))))))
        (sDrop (mAppend (mV 3) (mO1 pTuple (mComp [11] (iRows (mV 7)) (gN 11) tYes (mO1 pTuple (mO1 pSorted (mV 11)))))))))))
        (sRet (mO1 pTuple (mV 3))))
def f_l_turned_rule : Fn := fnOf fin 3 12 b_l_turned_rule
def b_l_least_unlike : Sm := sSeq (sFor (iE (mCall Mi.L.f_l_groups (aCons (mLen (mV 0)) (aCons (mLen (mV 1)) aNil)))) (gN 2) (sSeq (sAsg 3 mTv0)
        (sSeq (sFor (iE (mCall Mi.L.f_l_histories (aCons (mV 2) aNil))) (gN 4) (sSetTv (mV 3) (mCall Mi.L.f_l_laid2 (aCons (mV 0) (aCons (mV 1) (aCons (mV 4) aNil)))) (mC (.bool true))))
        (sIf (tE (mO2 pGt (mLenTv (mV 3)) (mC (.int 1)))) (sRet (mLen (mV 2))) (sPass)))))
        (sRet (mC (.int 0)))
def f_l_least_unlike : Fn := fnOf fin 2 5 b_l_least_unlike
end
end Mi.L
end
section
namespace Mi
open PySem PySem.Spec PyProof.Rows
section
variable {prog : Program} {w : World} {A : Around} {R : Result → Shared → Prop} {E : Value → Shared → Prop} {I : Addr} {fp wr : List Addr} {n : Nat} {St : Nat → Heap → Prop}
def pre (arr : Nat → Array Value) : Nat → Array Value
  | 0 => #[]
  | i + 1 => pre arr i ++ arr i
end
end Mi
end
section
namespace Mi
open PySem PySem.Spec PyProof.Rows L2
structure KnF (P : Program) (w : World) (K : PySem.W.Frag) (mg : Str → Option Value) (base : Heap) (k : Nat) (x : Str) (np : Nat) (ps : List Str) (fn : Fn) (st : Stmt) : Prop where
  ex : ∃ (f : Addr) (fd : FuncData), mg x = some (.ref f) ∧ PySem.W.keepIn K (.ref f) = true ∧ FunD K x x (defArgs st) (defBody st) (defScope st) [] [] f fd ∧ FnG P w K mg base k f fd np ps fn
  ar : Ar np fn
section
variable {X : Cx} {pos p : Pos} {e e2 : Expr} {es : List Expr} {fs : As} {fa fb : Ex} {x id : Str} {np k : Nat} {ps ks : List Str} {fn : Fn} {kws : List Keyword} {st : Stmt}
end
section
variable {X : Cx} {pos p : Pos} {e e2 : Expr} {fa fb : Ex} {x : Str} {id : String}
end
end Mi
end
section
namespace Mi
open PySem PySem.Spec PyProof.Rows L2
section
variable {prog : Program} {w : World} {A : Around} {E : Value → Shared → Prop} {s : Shared}
end
section
variable {X : Cx} {e : Expr} {fa : Ex} {p1 p2 p3 pos : Pos}
end
end Mi
end
section
namespace Mi
open PySem PySem.Spec PyProof.Rows L2
section
variable {X : Cx} {pos : Pos}
end
end Mi
end
section
namespace Mi
open PySem PySem.Spec PyProof.Rows L2
def tLenSetI (K : PySem.W.Frag) (ta : TE) : TE := fun σ H Q => ta σ H fun x H1 => ∃ (l : Addr) (ns : List Int), x = .ref l ∧ SqT K H1 l (ns.map V.int) ∧ ns.length ≤ 1000 ∧ Q (.int (dd ns).length) H1
section
variable {X : Cx} {a : Expr} {ta : TE} {fa : Ex} {p p2 q pos : Pos}
theorem pe_lenSetI (hc : X.calm = true) (hg : Gl X "len") (hm : X.mg "len" = none) (hg2 : Gl X "set") (hm2 : X.mg "set" = none) (ha : PE X a ta)
    (na : starEach [a] X.env = (false, eval a X.env) :: starEach [] X.env := by rfl) : PE X (.Call (.Name "len" p) [.Call (.Name "set" p2) [a] [] q] [] pos) (tLenSetI X.K ta) := by
  refine ⟨fun pins s σ H Q I h => ?_⟩
  refine Call_ (ld_blt I hg hm boot_len ?_)
  refine PyProof.Rows.callWith_builtin1 (PyProof.Rows.args_cons ?_ rfl) rfl rfl
  refine Call_ (ld_blt I hg2 hm2 boot_set ?_)
  refine PyProof.Rows.callWith_type1 (PyProof.Rows.args_cons (thn (ha.run pins s σ H _ I h) fun v s1 ⟨x, H1, I1, r1, q1⟩ => PyProof.Rows.args_nil ?_) na) na rfl
  obtain ⟨l, ns, rfl, hq, h1, q1⟩ := q1
  cases r1
  obtain ⟨its, rv, pt, hz⟩ := I1.tuple hq
  have hi : IntsAre its.toArray.toList ns := ints_of_vals rv
  refine call_set_tupI ns (I1.ok.hd hc) (show s1.heap.IsTuple l its.toArray from pt) hi (by unfold scanBound; omega) fun h' tk c R1 hcn k => ?_
  obtain ⟨o, es, ep, t, ho, hex, hdt, g, nd, hm2, hb, hf, hn, hr, hl2⟩ := R1
  refine PyProof.Rows.args_nil ?_
  have I2 : Inv X pins σ H1 { s1 with heap := h', toks := tk } := I1.kept k
  have hlen : es.size = (dd ns).length := by
    have := dd_len (xs := ns) nd fun x => by
      rw [← hm2 x, decide_eq_true_eq]
    rw [List.length_map, Array.length_toList] at this
    exact this
  refine call_len_set ho hex hdt hf (by rw [hn]; omega) ⟨.int (dd ns).length, H1, I2.tok _, ⟨_, by rw [hlen]⟩, q1⟩
theorem tX_setLen {K : PySem.W.Frag} {σ : L2.St} {H : Hp} {Q : VK} (h : TX K (mSetLen fa) σ H Q) : TX K fa σ H fun x H1 => ∃ (l : Addr) (ns : List Int), x = .ref l ∧ SqT K H1 l (ns.map V.int) ∧ ns.length ≤ 1000 ∧ Q (.int (dd ns).length) H1 := by
  obtain ⟨ρ, env, S, eo, ok, q⟩ := h
  refine ⟨ρ, env, S, eo, ok, (Aft.bd q).mono fun p ρ1 H1 e1 o1 q1 v dv => ?_⟩
  obtain ⟨u, hu, q2⟩ := Aft.bx q1
  cases u with
  | tuple xs =>
    obtain ⟨ns, hns, q3⟩ := Aft.bx q2
    obtain ⟨hc, q4⟩ := Aft.when q3
    have hc := of_decide_eq_true hc
    have hns := orNo_inv hns
    obtain ⟨l, vs, rfl, h1, h2⟩ := (o1.dv dv hu).tup
    have e := h2.ints hns
    subst e
    exact ⟨l, ns, rfl, h1.sq, hc, (Aft.here q4 rfl o1) _ (.int _)⟩
  | _ => exact q2.elim
theorem x_lenSet (G : Gd X) (hg : Gl X "len") (hm : X.mg "len" = none) (hg2 : Gl X "set") (hm2 : X.mg "set" = none) (ha : PE X a (TX X.K fa))
    (na : starEach [a] X.env = (false, eval a X.env) :: starEach [] X.env := by rfl) : PE X (.Call (.Name "len" p) [.Call (.Name "set" p2) [a] [] q] [] pos) (TX X.K (mSetLen fa)) :=
  PE.up (pe_lenSetI G.calm hg hm hg2 hm2 ha na) fun σ H Q h => tX_setLen h
theorem g_nameR (G : Gd X) (i : Nat) {x : Str} {pos : Pos} (hi : X.N[i]? = some x := by rfl) (hx : Loc X.env.scope x := by first | exact Or.inl rfl | exact Or.inr rfl) (hf : X.fn x = true ∨ X.env.scope.names.lookup x = some .local := by first | exact .inl rfl | exact .inr rfl | assumption) :
    PG X (.Name x pos) (gName i) := pg_name G.nd hi hx hf
theorem e_nameR (i : Nat) {x : Str} (hN : X.N[i]? = some x := by rfl) (hv : Vis X.env.scope x := by first | exact Or.inl rfl | exact Or.inr (Or.inl rfl) | exact Or.inr (Or.inr rfl)) (hd : (x == ("__debug__" : Str)) = false := by decide)
    (hcd : (x == ("__classdict__" : Str)) = false := by decide) : PE X (.Name x pos) (tVar i) := pe_var hN hv hd hcd
theorem cr_lenD : CallR X (.builtin "len") (fun xs H Q => ∃ (a : Addr) (kvs : List (Key × V)), xs = [.ref a] ∧ H a = some (.dK kvs) ∧ Q (.int kvs.length) H) := by
  intro pins s σ H xs us Q I r ⟨a, kvs, e, h, q⟩
  subst e
  rw [Vals.ref1 r]
  exact d_len I (.inl h) fun t s' I' => ⟨.int kvs.length, H, I', ⟨t, rfl⟩, q⟩
def kdOf (ks : List Int) : List (Key × V) := ks.map fun n => (Sum.inl n, V.bl true)
theorem putK_kd (ks : List Int) (n : Int) : putK (kdOf ks) (Sum.inl n : Key) (.bl true) = if n ∈ ks then kdOf ks else kdOf (ks ++ [n]) := by
  unfold putK kdOf
  by_cases h : n ∈ ks
  · rw [if_pos h, if_pos (List.any_eq_true.mpr ⟨(Sum.inl n, V.bl true), List.mem_map.mpr ⟨n, h, rfl⟩, by simp⟩), List.map_map]
    refine List.map_congr_left fun m _ => ?_
    show (if (Sum.inl m : Key) = Sum.inl n then _ else _) = _
    split <;> rfl
  · rw [if_neg h, if_neg, List.map_append]
    · rfl
    · intro z
      obtain ⟨kv, h1, h2⟩ := List.any_eq_true.mp z
      obtain ⟨m, hm, rfl⟩ := List.mem_map.mp h1
      have h2 := of_decide_eq_true h2
      cases h2
      exact h hm
theorem x_lenDc {i : Nat} {y : Str} {p1 p2' p3 : Pos} {j : Nat} {scope : Scope} (G : Gd X) (hg : Gl X "len") (hm : X.mg "len" = none) (ha : PE X a (TX X.K fa)) (ok : BlkOk X.N X.env.scope scope [(y, i)])
    (hgt : ∀ (s : Shared) (H : Hp) (C : Addr) (cl : List (Str × Addr)) (fp : List Addr), PG (X.blk s H scope (compEnvC scope cl C X.env) fp) (.Name y p3) (gName i))
    (hk : ∀ (s : Shared) (H : Hp) (C : Addr) (cl : List (Str × Addr)) (fp : List Addr), PE (X.blk s H scope (compEnvC scope cl C X.env) fp) (.Name y p1) (tVar i))
    (hs : ∀ x, foldedSetIterable a X.env x = pure x := by intro _; rfl)
    (he : starEach [.DictComp (.Name y p1) (.Constant (.bool true) j p2') [⟨.Name y p3, a, [], 0⟩] scope q] X.env = (false, eval (.DictComp (.Name y p1) (.Constant (.bool true) j p2') [⟨.Name y p3, a, [], 0⟩] scope q) X.env) :: starEach [] X.env := by rfl)
    (hpl : (backTo pos (starEach [] X.env)).any (·.1) = false := by rfl) :
    PE X (.Call (.Name "len" p) [.DictComp (.Name y p1) (.Constant (.bool true) j p2') [⟨.Name y p3, a, [], 0⟩] scope q] [] pos) (TX X.K (mSetLenD i fa)) :=
  PE.up (pe_callB cr_lenD hg hm boot_len (pa_cons (pe_dc (own := [(y, i)]) G.calm G.nd (pi_tup ha) ok hgt (fun _ _ _ _ _ => pts_nil) hk (fun _ _ _ _ _ => pe_bl) hs) pa_nil he) (he := he) (hpl := hpl)) fun σ H Q h => by
    obtain ⟨ρ, env, S, eo, ok', q⟩ := h
    obtain ⟨hci, q⟩ := Aft.when q
    have hci := of_decide_eq_true hci
    refine ⟨ρ, env, S, eo, ok', (Aft.bd q).mono fun p ρ1 H1 e1 o1 q1 v dv => ?_⟩
    obtain ⟨u, hu, q2⟩ := Aft.bx q1
    cases u with
    | tuple xs =>
      obtain ⟨ns, hns, q3⟩ := Aft.bx q2
      obtain ⟨hc, q4⟩ := Aft.when q3
      have hc := of_decide_eq_true hc
      have hns := orNo_inv hns
      obtain ⟨l, vs, rfl, h1, h2⟩ := (o1.dv dv hu).tup
      have e := h2.ints hns
      subst e
      refine ⟨l, rfl, ⟨_, h1.sq⟩, fun D hD => ?_⟩
      have hσ : i < σ.length := by rw [eo.len]; exact hci
      refine dc_tup (xs := ns.map V.int) (fun k H' => ∃ ks : List Int, ks.Nodup ∧ (∀ x, x ∈ ks ↔ x ∈ ns.take k) ∧ H' = upd H1 D (.dK (kdOf ks))) ⟨[], List.nodup_nil, by simp, rfl⟩ ?_ ?_ ?_
      · rintro k H' hk ⟨ks, _, _, rfl⟩
        exact ((Gr.new (L := Live ρ1 p.2) hD).tup h1).sq
      · rintro k x H' hx ⟨ks, hn, hm2, rfl⟩
        rw [List.getElem?_map, Option.map_eq_some_iff] at hx
        obtain ⟨n, hn2, rfl⟩ := hx
        obtain ⟨hkl, en⟩ := List.getElem?_eq_some_iff.mp hn2
        have htk : ns.take (k + 1) = ns.take k ++ [n] := by rw [List.take_succ, hn2]; rfl
        refine ⟨by show ((σ.set i none).set i _).set i none = σ.set i none; rw [List.set_set, List.set_set], ?_⟩
        unfold L2.tYes
        simp only [↓reduceIte]
        refine ⟨.int n, by rw [List.getElem?_set_self (by rw [wipe_length]; exact hσ)], kdOf ks, Sum.inl n, rfl, upd_same, ?_, ?_⟩
        · unfold kdOf
          rw [List.length_map, sizeLine_eq, dd_len hn hm2]
          have := dd_le (ns.take k)
          rw [List.length_take] at this
          omega
        · rw [putK_kd, upd_upd]
          by_cases hin : n ∈ ks
          · rw [if_pos hin]
            refine ⟨ks, hn, fun x => ?_, rfl⟩
            rw [hm2, htk, List.mem_append, List.mem_singleton]
            exact ⟨.inl, fun z => z.elim id fun e => e ▸ (hm2 n).mp hin⟩
          · rw [if_neg hin]
            refine ⟨ks ++ [n], ?_, fun x => ?_, rfl⟩
            · rw [List.nodup_append]
              exact ⟨hn, by simp, fun a ha b hb => by
                rw [List.mem_singleton.mp hb]
                rintro rfl
                exact hin ha⟩
            · rw [List.mem_append, hm2, htk, List.mem_append]
      · rintro H' ⟨ks, hn, hm2, rfl⟩
        rw [List.length_map, List.take_length] at hm2
        have hlen := dd_len hn hm2
        refine ⟨D, kdOf ks, rfl, upd_same, ?_⟩
        have : (kdOf ks).length = (dd ns).length := by unfold kdOf; rw [List.length_map, hlen]
        rw [this]
        exact (Aft.at q4 (Xt.new hD) (o1.new hD)) _ (.int _)
    | _ => exact q2.elim
end
end Mi
end
section
namespace Mi
open PySem PySem.Spec PyProof.Rows L2
section
variable {X : Cx} {a : Expr} {ta : TE} {fa : Ex} {p p2 q pos : Pos}
end
end Mi
end
section
namespace Mi
open PySem
end Mi
end
section
namespace Mi
open PySem PySem.Spec PyProof.Rows L2
section
variable {X : Cx} {o : Expr} {td : TE} {fo : Ex} {p pos apos mpos : Pos}
end
end Mi
end
section
namespace Mi
open PySem PySem.Spec PyProof.Rows L2
section
variable {P : Program} {w : World} {H : Hp} {h : Heap} {a : Addr} {ks : List (List Int)}
theorem items_ints : ∀ {ks : List Int} {us : List Value}, Vals (ks.map V.int) us → ItemsAre (PySem.intKind P w) ks us
  | [], _, r => by rw [List.map_nil] at r; cases r; exact .nil
  | k :: ks, _, r => by
    rw [List.map_cons] at r
    cases r with
    | cons h t =>
      refine .cons ?_ (items_ints t)
      obtain ⟨t, rfl⟩ := (show ∃ t, _ = Value.int k t from h)
      show Value.isInt k (.int k t) = true
      simp [Value.isInt]
theorem tup_key {zs : List Int} (ok : HOk P w H h) (e : TupAt H a (zs.map V.int)) : (tupleKind (PySem.intKind P w)).is h zs a := by
  obtain ⟨o, h1, h2, h3⟩ := e
  obtain ⟨g1, g2⟩ := (show ObjOk P w H h a (.frz o (.tup (zs.map V.int))) from ok a _ h1)
  obtain ⟨_, its, r, o', k1, k2, n, k3⟩ := (show ObjOk P w H h a (.tup (zs.map V.int)) from g2)
  exact ⟨o', its.toArray, n, k1, k2, k3, by simpa using items_ints r⟩
abbrev x3 (xs : List (List Int × Addr)) : List (List Int × Addr × Value) := xs.map fun x => (x.1, x.2, Value.bool true)
end
section
variable {X : Cx} {e o i : Expr} {fa fo fi : Ex} {pos cpos tp : Pos} {j : Nat}
theorem intsT_inv {u : PyData} {zs : List Int} (h : intsT u = some zs) : ∃ ds, u = .tuple ds ∧ ints? ds = some zs := by
  cases u with
  | tuple ds => exact ⟨ds, rfl, h⟩
  | _ => cases h
theorem Dv.tupI {L : Addr → Prop} {H : Hp} {v : V} {u : PyData} {zs : List Int} (h : Dv L H v u) (e : intsT u = some zs) : ∃ b, v = .ref b ∧ TupAt H b (zs.map V.int) := by
  obtain ⟨ds, rfl, e⟩ := intsT_inv e
  obtain ⟨b, xs, rfl, h1, h2⟩ := h.tup
  exact ⟨b, rfl, by rw [← h2.ints e]; exact h1⟩
theorem TupAt.upd {H : Hp} {a b : Addr} {xs : List V} {f : Heap → Prop} {o : HO} (ha : H a = some (.ext f)) (h : TupAt H b xs) : TupAt (upd H a o) b xs := by
  obtain ⟨ob, h1, h2⟩ := h
  refine ⟨ob, ?_, h2⟩
  rw [upd_ne]
  · exact h1
  · rintro rfl
    rw [ha] at h1
    cases h1
end
end Mi
end
section
namespace Mi
open PySem PySem.Spec PyProof.Rows L2
section
variable {P : Program} {w : World} {L L' : Addr → Prop} {H H' : Hp} {h : Heap} {a b : Addr} {o : Obj} {xs : List (List Int × Addr × V)} {us : List Value} {kvs : Tv} {zs : List Int} {d : PyData} {v : V} {u : Value}
abbrev X3 := List (List Int × Addr × V)
def putX (xs : X3) (zs : List Int) (b : Addr) (v : V) : X3 := if zs ∈ xs.map (·.1) then xs.map fun x => if x.1 = zs then (x.1, x.2.1, v) else x else xs ++ [(zs, b, v)]
def TvAt (L : Addr → Prop) (H : Hp) (a : Addr) (kvs : Tv) : Prop := ∃ (o : Obj) (xs : X3), H a = some (.ext (DTfv o xs a)) ∧ Kvt L H xs (kvs.map tvD) ∧ (xs.map (·.1)) = kvs.map (·.1) ∧ (kvs.map (·.1)).Nodup ∧ (a == sysModules) = false ∧ kvs.length ≤ sizeLine
theorem dtv_obj (hv : Vals (xs.map fun x => x.2.2) us) (hd : h.DictOfH (tupleKind (PySem.intKind P w)) a (zipV xs us)) : ∃ o, ObjOk P w H' h a (.ext (DTfv o xs a)) := by
  obtain ⟨o, es, ep, g1, g2, g3, g4, g5, g6⟩ := hd
  refine ⟨o, ⟨P, w, es, ep, us, hv, g1, g2, g3, g4⟩, ⟨o, g1⟩, fun h1 h2 ⟨P', w', es', ep', us', k0, k1, k2, k3, k4⟩ hk => ⟨P', w', es', ep', us', k0, hk _ k1, k2, k3, k4⟩⟩
theorem intInj : ∀ {xs ys : List Int}, xs.map PyData.int = ys.map PyData.int → xs = ys
  | [], [], _ => rfl
  | [], _ :: _, h => by cases h
  | _ :: _, [], h => by cases h
  | x :: xs, y :: ys, h => by
    rw [List.map_cons, List.map_cons, List.cons.injEq] at h
    obtain ⟨h1, h2⟩ := h
    cases h1
    rw [intInj h2]
inductive KvV (L : Addr → Prop) (H : Hp) : X3 → Tv → Prop
  | nil : KvV L H [] []
  | cons {k : List Int} {b : Addr} {v : V} {d : PyData} {r : X3} {s : Tv} : TupAt H b (k.map V.int) → Pd L H v d → KvV L H r s → KvV L H ((k, b, v) :: r) ((k, d) :: s)
theorem kvv_of : ∀ {xs : X3} {ds : List (PyData × PyData)}, Kvt L H xs ds → ∀ {kvs : Tv}, ds = kvs.map tvD → KvV L H xs kvs
  | _, _, .nil, [], _ => .nil
  | _, _, .nil, _ :: _, e => by cases e
  | _, _, .cons t p q, [], e => by cases e
  | _, _, .cons (k := k) t p q, (k', d') :: kvs, e => by
    rw [List.map_cons, List.cons.injEq] at e
    obtain ⟨e1, e2⟩ := e
    unfold tvD at e1
    rw [Prod.mk.injEq, PyData.tuple.injEq] at e1
    obtain ⟨e3, e4⟩ := e1
    cases intInj e3
    cases e4
    exact .cons t p (kvv_of q e2)
theorem KvV.kvt : ∀ {xs : X3} {kvs : Tv}, KvV L H xs kvs → Kvt L H xs (kvs.map tvD)
  | _, _, .nil => .nil
  | _, _, .cons t p q => .cons t p q.kvt
theorem KvV.keys : ∀ {xs : X3} {kvs : Tv}, KvV L H xs kvs → xs.map (·.1) = kvs.map (·.1)
  | _, _, .nil => rfl
  | _, _, .cons t p q => by rw [List.map_cons, List.map_cons, q.keys]
theorem KvV.length {xs : X3} {kvs : Tv} (h : KvV L H xs kvs) : xs.length = kvs.length := by
  have := congrArg List.length h.keys
  rwa [List.length_map, List.length_map] at this
theorem find_of (zs : List Int) : ∀ {xs : X3} {kvs : Tv}, KvV L H xs kvs → ∀ {us : List Value}, Vals (xs.map fun x => x.2.2) us → ∀ {d : PyData}, lookT kvs zs = some d →
    ∃ b u v, atKey (zipV xs us) zs = some (b, u) ∧ RelV v u ∧ Pd L H v d
  | _, _, .nil, us, r, d, h => by cases h
  | _, _, .cons (k := k) (b := b) (v := v) t p q, us, r, d, h => by
    cases r with
    | @cons _ u _ us r1 r2 =>
      show ∃ b2 u2 v2, atKey ((k, b, u) :: zipV _ us) zs = some (b2, u2) ∧ RelV v2 u2 ∧ Pd L H v2 d
      unfold lookT at h
      unfold atKey
      rw [List.find?_cons] at h ⊢
      by_cases e : k = zs
      · simp only [decide_eq_true e] at h ⊢
        cases h
        exact ⟨b, u, v, rfl, r1, p⟩
      · simp only [decide_eq_false e] at h ⊢
        exact find_of zs q r2 h
theorem at_has (zs : List Int) {xs : X3} {us : List Value} (hl : us.length = xs.length) : (atKey (zipV xs us) zs).isSome = decide (zs ∈ xs.map (·.1)) := by
  unfold atKey
  rw [Option.isSome_map, Bool.eq_iff_iff, List.find?_isSome, decide_eq_true_eq, ← zipV_keys hl.symm]
  constructor
  · rintro ⟨x, hx, h⟩
    exact List.mem_map.mpr ⟨x, hx, of_decide_eq_true h⟩
  · intro h
    obtain ⟨y, hy, rfl⟩ := List.mem_map.mp h
    exact ⟨y, hy, decide_eq_true rfl⟩
theorem vals_len {vs : List V} {us : List Value} (h : Vals vs us) : vs.length = us.length := Paired.length h
theorem vals_snoc : ∀ {vs : List V} {us : List Value}, Vals vs us → RelV v u → Vals (vs ++ [v]) (us ++ [u])
  | _, _, .nil, r => .cons r .nil
  | _, _, .cons a t, r => .cons a (vals_snoc t r)
theorem zip_put (zs : List Int) (rv : RelV v u) : ∀ {xs : X3} {us : List Value}, Vals (xs.map fun x => x.2.2) us →
    ∃ us', Vals ((xs.map fun x => if x.1 = zs then (x.1, x.2.1, v) else x).map fun x => x.2.2) us' ∧ (zipV xs us).map (putAt zs u) = zipV (xs.map fun x => if x.1 = zs then (x.1, x.2.1, v) else x) us'
  | [], us, r => by
    cases r
    exact ⟨[], .nil, rfl⟩
  | x :: xs, us, r => by
    cases r with
    | @cons _ u0 _ us r1 r2 =>
      obtain ⟨us', h1, h2⟩ := zip_put zs rv r2
      by_cases e : x.1 = zs
      · refine ⟨u :: us', ?_, ?_⟩
        · rw [List.map_cons, List.map_cons, if_pos e]
          exact .cons rv h1
        · rw [List.map_cons, if_pos e]
          show putAt zs u (x.1, x.2.1, u0) :: (zipV xs us).map (putAt zs u) = (x.1, x.2.1, u) :: zipV _ us'
          rw [h2]
          unfold putAt
          rw [if_pos e]
      · refine ⟨u0 :: us', ?_, ?_⟩
        · rw [List.map_cons, List.map_cons, if_neg e]
          exact .cons r1 h1
        · rw [List.map_cons, if_neg e]
          show putAt zs u (x.1, x.2.1, u0) :: (zipV xs us).map (putAt zs u) = (x.1, x.2.1, u0) :: zipV _ us'
          rw [h2]
          unfold putAt
          rw [if_neg e]
theorem zip_snoc (zs : List Int) : ∀ {xs : X3} {us : List Value}, us.length = xs.length → zipV (xs ++ [(zs, b, v)]) (us ++ [u]) = zipV xs us ++ [(zs, b, u)]
  | [], [], _ => rfl
  | [], _ :: _, h => by cases h
  | _ :: _, [], h => by cases h
  | x :: xs, u0 :: us, h => congrArg ((x.1, x.2.1, u0) :: ·) (zip_snoc zs (xs := xs) (us := us) (by simpa using h))
theorem stored_X (zs : List Int) (rv : RelV v u) {xs : X3} {us : List Value} (r : Vals (xs.map fun x => x.2.2) us) : ∃ us', Vals ((putX xs zs b v).map fun x => x.2.2) us' ∧ storedH (zipV xs us) zs b u = zipV (putX xs zs b v) us' := by
  have hl : us.length = xs.length := by rw [← vals_len r, List.length_map]
  unfold storedH putX
  rw [at_has zs hl]
  by_cases hz : zs ∈ xs.map (·.1)
  · rw [if_pos (decide_eq_true hz), if_pos hz]
    exact zip_put zs rv r
  · rw [if_neg hz, if_neg (by simpa using hz)]
    refine ⟨us ++ [u], ?_, (zip_snoc zs hl).symm⟩
    rw [List.map_append]
    exact vals_snoc r rv
theorem map_keyV (zs : List Int) (d : PyData) : ∀ xs : Tv, (xs.map fun x => if x.1 = zs then (x.1, d) else x).map (·.1) = xs.map (·.1)
  | [] => rfl
  | x :: xs => by
    rw [List.map_cons, List.map_cons, List.map_cons, map_keyV zs d xs]
    split <;> rfl
theorem putT_keys (zs : List Int) (d : PyData) (xs : Tv) : (putT xs zs d).map (·.1) = if zs ∈ xs.map (·.1) then xs.map (·.1) else xs.map (·.1) ++ [zs] := by
  unfold putT
  split
  · exact map_keyV zs d xs
  · rw [List.map_append]; rfl
theorem putT_nodup {kvs : Tv} (h : (kvs.map (·.1)).Nodup) (zs : List Int) (d : PyData) : ((putT kvs zs d).map (·.1)).Nodup := by
  rw [putT_keys]
  split
  · exact h
  · rename_i hn
    exact List.nodup_append.mpr ⟨h, by simp, fun x hx y hy e => hn (by rw [← List.mem_singleton.mp hy, ← e]; exact hx)⟩
theorem putT_len (kvs : Tv) (zs : List Int) (d : PyData) : (putT kvs zs d).length ≤ kvs.length + 1 := by
  unfold putT
  split
  · rw [List.length_map]; omega
  · rw [List.length_append, List.length_singleton]; omega
theorem KvV.mapX (zs : List Int) (hp : Pd L H v d) : ∀ {xs : X3} {kvs : Tv}, KvV L H xs kvs → KvV L H (xs.map fun x => if x.1 = zs then (x.1, x.2.1, v) else x) (kvs.map fun p => if p.1 = zs then (p.1, d) else p)
  | _, _, .nil => .nil
  | _, _, .cons (k := k) t p q => by
    rw [List.map_cons, List.map_cons]
    by_cases e : k = zs
    · rw [if_pos e, if_pos e]
      exact .cons t hp (q.mapX zs hp)
    · rw [if_neg e, if_neg e]
      exact .cons t p (q.mapX zs hp)
theorem KvV.snoc (ht : TupAt H b (zs.map V.int)) (hp : Pd L H v d) : ∀ {xs : X3} {kvs : Tv}, KvV L H xs kvs → KvV L H (xs ++ [(zs, b, v)]) (kvs ++ [(zs, d)])
  | _, _, .nil => .cons ht hp .nil
  | _, _, .cons t p q => .cons t p (q.snoc ht hp)
theorem KvV.put (ht : TupAt H b (zs.map V.int)) (hp : Pd L H v d) {xs : X3} {kvs : Tv} (q : KvV L H xs kvs) : KvV L H (putX xs zs b v) (putT kvs zs d) := by
  unfold putX putT
  rw [q.keys]
  split
  · exact q.mapX zs hp
  · exact q.snoc ht hp
theorem KvV.mono (g : Gr L L' H H') : ∀ {xs : X3} {kvs : Tv}, KvV L H xs kvs → KvV L' H' xs kvs
  | _, _, .nil => .nil
  | _, _, .cons t p q => .cons (g.tup t) (Pd.mono g _ _ p) (q.mono g)
theorem tvAt_of {xs : X3} {kvs : Tv} (h : H a = some (.ext (DTfv o xs a))) (q : KvV L H xs kvs) (hn : (kvs.map (·.1)).Nodup) (ha : (a == sysModules) = false) (hl : kvs.length ≤ sizeLine) : TvAt L H a kvs :=
  ⟨o, xs, h, q.kvt, q.keys, hn, ha, hl⟩
theorem TvAt.out {kvs : Tv} (h : TvAt L H a kvs) : ∃ (o : Obj) (xs : X3), H a = some (.ext (DTfv o xs a)) ∧ KvV L H xs kvs ∧ (kvs.map (·.1)).Nodup ∧ (a == sysModules) = false ∧ kvs.length ≤ sizeLine := by
  obtain ⟨o, xs, h1, h2, h3, h4, h5, h6⟩ := h
  exact ⟨o, xs, h1, kvv_of h2 rfl, h4, h5, h6⟩
end
section
variable {X : Cx} {K : PySem.W.Frag} {pins : List (Addr × Obj)} {σ : L2.St} {H : Hp} {s : Shared} {L : Addr → Prop} {a : Addr} {kvs : Tv}
theorem TvAt.dict (ok : L2.HOk X.prog X.w H s.heap) (h : TvAt L H a kvs) : ∃ (o : Obj) (xs : X3) (us : List Value), H a = some (.ext (DTfv o xs a)) ∧ KvV L H xs kvs ∧ (kvs.map (·.1)).Nodup ∧ (a == sysModules) = false ∧ kvs.length ≤ sizeLine ∧ Vals (xs.map fun x => x.2.2) us ∧ us.length = xs.length ∧ s.heap.DictOfH (tupleKind (PySem.intKind X.prog X.w)) a (zipV xs us) := by
  obtain ⟨o, xs, h1, h2, h3, h4, h5⟩ := h.out
  obtain ⟨us, g1, g2, g3⟩ := dtv_of (s := s) ok h1 h2.kvt (by rw [h2.keys]; exact h3)
  exact ⟨o, xs, us, h1, h2, h3, h4, h5, g1, g2, g3⟩
def obj0 : Obj := { cls := .type "dict", data := .dict #[] }
theorem dt0_obj (P : Program) (w : World) (H' : Hp) (hp : Heap) : ObjOk P w H' (hp.push { cls := .type "dict", data := .dict #[] }) hp.objs.size (.ext (DTfv obj0 [] hp.objs.size)) :=
  ⟨⟨P, w, #[], 0, [], .nil, Heap.get?_push_size _ rfl, ⟨rfl, rfl, rfl⟩, rfl, rfl⟩, ⟨obj0, Heap.get?_push_size _ rfl⟩, fun h1 h2 ⟨P', w', es', ep', us', k0, k1, k2, k3, k4⟩ hk => ⟨P', w', es', ep', us', k0, hk _ k1, k2, k3, k4⟩⟩
theorem tv_write {h' : Heap} {t' : Nat} {xs : X3} {us : List Value} {f : Heap → Prop} (I : L2.Inv X pins σ H s) (ha : H a = some (.ext f)) (hs : Heap.SameBut a s.heap h') (hv : Vals (xs.map fun x => x.2.2) us)
    (hd : h'.DictOfH (tupleKind (PySem.intKind X.prog X.w)) a (zipV xs us)) : ∃ o, L2.Inv X pins σ (upd H a (.ext (DTfv o xs a))) { s with heap := h', toks := t' } := by
  have he : ∃ q, h'.get? a = some q := let ⟨q, _, _, hq, _⟩ := hd; ⟨q, hq⟩
  obtain ⟨o, ho⟩ := dtv_obj (H' := H) hv hd
  refine ⟨o, d_write I (by rw [ha]; exact True.intro) hs he ?_⟩
  obtain ⟨o2, ho2⟩ := dtv_obj (H' := upd H a (.ext (DTfv o xs a))) hv hd
  obtain ⟨h1, h2, h3⟩ := ho
  exact ⟨h1, h2, h3⟩
theorem Ok.putT {ρ : List Addr} {S : Store} {i : Nat} {o : Obj} {xs : X3} {kvs' : Tv} (ok : Ok ρ S H) (h1 : ρ[i]? = some a) (h2 : S[i]? = some (.tdv true kvs)) (r : KvV (Live ρ S) H xs kvs') (hn : (kvs'.map (·.1)).Nodup) (ha : (a == sysModules) = false) (hl : kvs'.length ≤ sizeLine) :
    Ok ρ (S.set i (.tdv true kvs')) (upd H a (.ext (DTfv o xs a))) ∧ Xt ρ S H ρ (S.set i (.tdv true kvs')) (upd H a (.ext (DTfv o xs a))) :=
  ok.put h1 h2 rfl rfl (tvAt_of upd_same (KvV.mono (Gr.put ok h1 h2 rfl rfl) r) hn ha hl)
theorem keyT_ok {ρ : List Addr} {S : Store} {d : Mi.D} {v : V} {zs : List Int} (ok : Ok ρ S H) (dv : DOk K ρ S H v d) (h : keyT S d = .ok zs) : ∃ b, v = .ref b ∧ TupAt H b (zs.map V.int) := by
  unfold keyT at h
  cases hd : Mi.dv S d with
  | ok u =>
    rw [hd] at h
    exact (ok.dv dv hd).tupI (orNo_inv h)
  | ex e S => rw [hd] at h; cases h
  | no => rw [hd] at h; cases h
theorem tvOf_ok {ρ : List Addr} {S : Store} {d : Mi.D} {v : V} (ok : Ok ρ S H) (dv : DOk K ρ S H v d) (h : tvOf S d = .ok kvs) : ∃ i a b, d = .ref i ∧ ρ[i]? = some a ∧ v = .ref a ∧ S[i]? = some (.tdv b kvs) ∧ TvAt (Live ρ S) H a kvs := by
  cases d with
  | ref i =>
    obtain ⟨a, ha, rfl⟩ := dv
    have h : tvC S[i]? = .ok kvs := h
    cases hS : S[i]? with
    | none => rw [hS] at h; cases h
    | some c =>
      rw [hS] at h
      cases c with
      | tdv b kvs0 =>
        cases h
        exact ⟨i, a, b, rfl, ha, rfl, hS, ok.cell i a _ ha hS⟩
      | _ => cases h
  | _ => cases h
end
section
variable {X : Cx} {e o i : Expr} {fa fb fo fi : Ex} {pos cpos apos tp : Pos} {j : Nat}
theorem x_tv0 : PE X (.Dict [] [] pos) (TX X.K mTv0) := ⟨fun pins s σ H Q I ⟨ρ, env, S, eo, ok, q⟩ => by
  have hn := I.hok.fresh (Nat.le_refl s.heap.objs.size)
  have hne : (s.heap.objs.size == sysModules) = false := beq_eq_false_iff_ne.mpr (Ne.symm (Nat.ne_of_lt I.big))
  have I1 := I.laid (a := s.heap.objs.size) (o := .ext (DTfv obj0 [] s.heap.objs.size)) (t' := s.toks) (fun _ _ q => Heap.get?_push_of_some _ q) (Nat.le_refl _) (dt0_obj X.prog X.w _ s.heap)
  obtain ⟨o1, x1⟩ := ok.push (c := .tdv true []) (o := .ext (DTfv obj0 [] s.heap.objs.size)) hn (tvAt_of upd_same .nil List.nodup_nil hne (Nat.zero_le _))
  exact wpAny_Dict_empty ⟨.ref s.heap.objs.size, _, I1, rfl, (Aft.at q x1 o1) _ ⟨s.heap.objs.size, by rw [← ok.len]; simp, rfl⟩⟩⟩
theorem x_tv1 (G : Gd X) (ha : PE X e (TX X.K fa)) (hb : PE X o (TX X.K fb)) : PE X (.Dict [some e] [o] pos) (TX X.K (mTv1 fa fb)) := by
  refine ⟨fun pins s σ H Q I ⟨ρ, env, S, eo, ok, q⟩ => ?_⟩
  have hn := I.hok.fresh (Nat.le_refl s.heap.objs.size)
  have hne : (s.heap.objs.size == sysModules) = false := beq_eq_false_iff_ne.mpr (Ne.symm (Nat.ne_of_lt I.big))
  have I1 := I.laid (a := s.heap.objs.size) (o := .ext (DTfv obj0 [] s.heap.objs.size)) (t' := s.toks) (fun _ _ q => Heap.get?_push_of_some _ q) (Nat.le_refl _) (dt0_obj X.prog X.w _ s.heap)
  obtain ⟨o1, x1⟩ := ok.push (c := .tdv true []) (o := .ext (DTfv obj0 [] s.heap.objs.size)) hn (tvAt_of upd_same .nil List.nodup_nil hne (Nat.zero_le _))
  have hp0 : (ρ ++ [s.heap.objs.size])[S.length]? = some s.heap.objs.size := by rw [← ok.len]; simp
  have hpp := pairTrees_length [some e] [o] X.env pos rfl rfl
  rw [arm_eval_Dict, zip_pairTrees [some e] [o] X.env pos rfl rfl, dictDisplay_pairs _ (by intro z; rw [z] at hpp; cases hpp) (by rw [hpp]; exact (by decide : (1 : Nat) < 17))]
  refine wpAny_bind (wpAny_standAt (wpAny_bind (wpAny_subDictH (knd := tupleKind (PySem.intKind X.prog X.w)) (by have := G.hu; show X.A.units < cLine; omega) (by rw [hpp]; exact (by decide : (1 : Nat) ≤ 15)) ?_)))
  refine thn ((pps_cons ha hb pps_nil).run pins _ σ _ (fun ps H2 => ∃ (b : Addr) (zs : List Int) (y : V) (od : Obj), ps = [(.ref b, y)] ∧ TupAt H2 b (zs.map V.int) ∧ H2 s.heap.objs.size = some (.ext (DTfv od [] s.heap.objs.size)) ∧
    ∀ od', Q (.ref s.heap.objs.size) (upd H2 s.heap.objs.size (.ext (DTfv od' [(zs, b, y)] s.heap.objs.size)))) I1 ?_) fun vs s2 ⟨ps, H2, I2, rel, b, zs, y, od, eps, hb, h0, hq⟩ => ?_
  · refine ⟨ρ ++ [s.heap.objs.size], env, S ++ [.tdv true []], eo.mono x1, o1, (Aft.bd (Aft.from x1 q)).mono fun p1 ρ1 H1 e1 o1' q1 v dv => ?_⟩
    refine ⟨ρ1, env, p1.2, (eo.mono x1).mono e1, o1', (Aft.bd q1).mono fun p2 ρ2 H2 e2 o2 q2 v2 dv2 => ?_⟩
    obtain ⟨d, S3, x3, o3, pd, q3⟩ := Aft.fz o2 dv2 q2
    obtain ⟨zs, hz, q4⟩ := Aft.bx q3
    have hp3 := e2.at (e1.at hp0)
    obtain ⟨b, rfl, hb⟩ := keyT_ok o3 ((dv.mono e2).mono x3) hz
    cases hS : S3[S.length]? with
    | none => rw [hS] at q4; exact q4.elim
    | some c =>
      rw [hS] at q4
      cases c with
      | tdv bb ks =>
        cases bb with
        | false => exact q4.elim
        | true =>
          cases ks with
          | cons _ _ => exact q4.elim
          | nil =>
            obtain ⟨od, xs, g1, g2, g3, g4, g5⟩ := (show TvAt _ _ _ [] from o3.cell _ _ _ hp3 hS).out
            cases g2
            refine ⟨b, zs, v2, od, rfl, hb, g1, fun od' => ?_⟩
            obtain ⟨o4, x4⟩ := o3.putT (o := od') (xs := [(zs, b, v2)]) (kvs' := [(zs, d)]) hp3 hS (.cons hb pd .nil) (by simp) hne (by rw [sizeLine_eq]; simp)
            exact (Aft.at q4 x4 o4) _ ⟨_, hp3, rfl⟩
      | _ => exact q4.elim
  · subst eps
    cases rel with
    | @cons p0 vv ps0 qs0 hr ht =>
      cases ht
      obtain ⟨v1, v2⟩ := vv
      obtain ⟨r1, r2⟩ := hr
      obtain rfl : v1 = Value.ref b := r1
      have r2 : RelV y v2 := r2
      have t0 : TvAt (fun _ => False) H2 s.heap.objs.size [] := tvAt_of h0 .nil List.nodup_nil hne (Nat.zero_le _)
      obtain ⟨od2, xs, us, _, k2, _, _, _, k6, k7, hd⟩ := t0.dict I2.hok
      cases k2
      cases k6
      refine ⟨[(zs, b, v2)], ⟨rfl, rfl, tup_key I2.hok hb, trivial⟩, hd, fun h' tk hd' hs => ?_⟩
      obtain ⟨od3, I3⟩ := tv_write (t' := tk) (xs := [(zs, b, y)]) (us := [v2]) I2 h0 hs (.cons r2 .nil) hd'
      exact wpAny_pure ⟨.ref s.heap.objs.size, _, I3, rfl, hq od3⟩
def rIxT : R2 := fun x y H Q => ∃ (a b : Addr) (zs : List Int) (kvs : Tv) (d : PyData) (L : Addr → Prop), x = .ref a ∧ y = .ref b ∧ TvAt L H a kvs ∧ TupAt H b (zs.map V.int) ∧ lookT kvs zs = some d ∧ ∀ v, Pd L H v d → Q v H
theorem ix_tv (G : Gd X) : IxR X rIxT := by
  intro value slice pins s σ H x y v u Q I rx ry ⟨a, b, zs, kvs, d, L, ex, ey, t, hb, hl, q⟩ hs
  subst ex ey
  cases rx
  cases ry
  obtain ⟨od, xs, us, h1, h2, h3, h4, h5, hv, hlen, hd⟩ := t.dict I.hok
  obtain ⟨b', u', v', g1, g2, g3⟩ := find_of zs h2 hv hl
  exact tail_any hd.typeIs PySem.F.slot_dict_getitem.lookup (wpAny_getItem_heap (tupleKind_room_in1 (by have := G.hu; omega)) (tup_key I.hok hb) hd g1 ⟨v', H, I.tok _, g2, q _ g3⟩) hs
theorem tIxT {K : PySem.W.Frag} {σ : L2.St} {H : Hp} {Q : VK} (h : TX K (mIxT fo fa) σ H Q) : tOp rIxT (TX K fo) (TX K fa) σ H Q := by
  obtain ⟨ρ, env, S, eo, ok, q⟩ := h
  refine ⟨ρ, env, S, eo, ok, (Aft.bd q).mono fun p ρ1 H1 e1 o1 q1 v1 d1 => ?_⟩
  refine ⟨ρ1, env, p.2, eo.mono e1, o1, (Aft.bd q1).mono fun p2 ρ2 H2 e2 o2 q2 v2 d2 => ?_⟩
  obtain ⟨zs, hz, q3⟩ := Aft.bx q2
  obtain ⟨kvs, hk, q4⟩ := Aft.bx q3
  obtain ⟨z, hl, q5⟩ := Aft.orNo q4
  obtain ⟨b, rfl, hb⟩ := keyT_ok o2 d2 hz
  obtain ⟨i, a, _, _, _, rfl, _, t⟩ := tvOf_ok o2 (d1.mono e2) hk
  exact ⟨a, b, zs, kvs, z, _, rfl, rfl, t, hb, hl, fun v pd => (Aft.here q5 rfl o2) _ pd⟩
theorem x_ixT (G : Gd X) (ho : PE X o (TX X.K fo)) (ha : PE X e (TX X.K fa)) (hs : PlainIx e := by intro _ _; rfl) : PE X (.Subscript o e pos) (TX X.K (mIxT fo fa)) :=
  PE.up (pe_ix (ix_tv G) ho ha hs) fun _ _ _ h => tIxT h
end
end Mi
end
section
namespace Mi
open PySem PySem.Spec PyProof.Rows L2
section
variable {X : Cx} {pins : List (Addr × Obj)} {σ : L2.St} {H : Hp} {s : Shared} {d : Addr} {o : Obj} {es : Array DictEntry} {ep : Nat} {xs : X3}
end
section
variable {P : Program} {w : World} {K : PySem.W.Frag} {tg : Expr} {d : Addr} {o : Obj} {es : Array DictEntry} {ep : Nat} {xs : X3}
end
section
variable {X : Cx} {tg e : Expr} {td : TE} {apos cpos : Pos}
end
section
variable {K : PySem.W.Frag} {ρ : List Addr} {S : Store} {H : Hp} {i : Nat} {a : Addr} {kvs : Tv} {b : Bool}
def FvO (o : Obj) (a : Addr) (xs : X3) (kvs : Tv) (ρ : List Addr) (S : Store) (H : Hp) : Prop := H a = some (.ext (DTfv o xs a)) ∧ ¬ Live ρ S a ∧ KvV (Live ρ S) H xs kvs
variable {o : Obj} {xs : X3}
theorem FvO.mono {ρ' : List Addr} {S' : Store} {H' : Hp} (h : FvO o a xs kvs ρ S H) (e : Xt ρ S H ρ' S' H') : FvO o a xs kvs ρ' S' H' := by
  obtain ⟨h1, h2, h3⟩ := h
  refine ⟨e.gr.keep _ _ h1 h2, fun z => ?_, h3.mono e.gr⟩
  rcases e.gr.live a z with z | z
  · exact h2 z
  · rw [h1] at z; cases z
theorem KvV.at {L : Addr → Prop} : ∀ {xs : X3} {kvs : Tv}, KvV L H xs kvs → ∀ (j : Nat) (p : List Int × PyData), kvs[j]? = some p → ∃ b v, xs[j]? = some (p.1, b, v) ∧ TupAt H b (p.1.map V.int) ∧ Pd L H v p.2
  | _, _, .nil, j, p, h => by simp at h
  | _, _, .cons (b := b) (v := v) t a q, 0, p, h => by
    simp at h
    subst h
    exact ⟨b, v, rfl, t, a⟩
  | _, _, .cons t a q, j + 1, p, h => by
    obtain ⟨b, v, h1, h2⟩ := KvV.at q j p (by simpa using h)
    exact ⟨b, v, by simpa using h1, h2⟩
end
section
variable {X : Cx} {tg e o i : Expr} {fa fb fo fi : Ex} {pos cpos apos tp tpos : Pos} {elts : List Expr} {kk : Nat}
theorem s_setTv (G : Gd X) (ha : PE X e (TX X.K fa)) (ho : PE X o (TX X.K fo)) (hi : PE X i (TX X.K fi)) (hs : swapsWith e (some (.Subscript o i tp)) pos.line X.env = pure false := by rfl) :
    PS X (.Assign [.Subscript o i tp] e pos) (TSm X.K (sSetTv fo fi fa)) := by
  refine ⟨fun pins s σ H D' I ⟨ρ, env, S, eo, ok, q⟩ => ?_⟩
  refine wpAny_Assign_Subscript (thn (ha.run pins s σ H (fun v H1 => TX X.K fo σ H1 fun x H2 => TX X.K fi σ H2 fun y H3 => ∃ (a b : Addr) (zs : List Int) (kvs : Tv) (L : Addr → Prop), x = .ref a ∧ y = .ref b ∧ TupAt H3 b (zs.map V.int) ∧ TvAt L H3 a kvs ∧
    ∀ (od od' : Obj) (xs : X3), H3 a = some (.ext (DTfv od' xs a)) → KvV L H3 xs kvs → D'.nx σ (upd H3 a (.ext (DTfv od (putX xs zs b v) a)))) I ?_)
    fun r s1 ⟨v, H1, I1, rv, q1⟩ => thn (ho.run pins s1 σ H1 _ I1 q1) fun u s2 ⟨x, H2, I2, rx, q2⟩ => thn (hi.run pins s2 σ H2 _ I2 q2) fun iv s3 ⟨y, H3, I3, ry, a, b, zs, kvs, L, ex, ey, hb, t, q3⟩ => ?_) hs
  · refine ⟨ρ, env, S, eo, ok, (Aft.bd q).mono fun p0 ρ0 H0 e0 o0 q0 v0 d0 => ?_⟩
    refine ⟨ρ0, env, p0.2, eo.mono e0, o0, (Aft.bd q0).mono fun p1 ρ1 H1 e1 o1 q1 v dv => ?_⟩
    refine ⟨ρ1, env, p1.2, (eo.mono e0).mono e1, o1, (Aft.bd q1).mono fun p2 ρ2 H2 e2 o2 q2 v2 d2 => ?_⟩
    obtain ⟨d, S4, x4, o4, pd, q3⟩ := Aft.fz o2 ((d0.mono e1).mono e2) q2
    obtain ⟨zs, hz, q4⟩ := Aft.bx q3
    obtain ⟨b, rfl, hb⟩ := keyT_ok o4 (d2.mono x4) hz
    obtain ⟨d1', S1⟩ := p1
    have dv := (dv.mono e2).mono x4
    cases d1' with
    | ref k =>
      obtain ⟨a, ha, rfl⟩ := dv
      have q4 : Aft ρ2 S4 H2 (svC k zs d env S4 S4[k]?) _ _ := q4
      cases hS : S4[k]? with
      | none => rw [hS] at q4; exact q4.elim
      | some c =>
        rw [hS] at q4
        cases c with
        | tdv bb kvs =>
          cases bb with
          | false => exact q4.elim
          | true =>
            obtain ⟨hc, q5⟩ := Aft.when q4
            have hc := of_decide_eq_true hc
            have t : TvAt (Live ρ2 S4) H2 a kvs := o4.cell _ _ _ ha hS
            obtain ⟨od0, xs0, g1, g2, g3, g4, g5⟩ := t.out
            refine ⟨a, b, zs, kvs, _, rfl, rfl, hb, t, fun od od' xs hx kv => ?_⟩
            have hl : (Mi.putT kvs zs d).length ≤ sizeLine := by
              have := putT_len kvs zs d
              have hL : Line = 16777216 := rfl
              rw [sizeLine_eq]
              omega
            obtain ⟨o5, x5⟩ := o4.putT (o := od) (xs := putX xs zs b v0) ha hS (kv.put hb pd) (putT_nodup g3 zs d) g4 hl
            exact (Aft.at q5 x5 o5) _ ((((eo.mono e0).mono e1).mono e2).mono x4 |>.mono x5)
        | _ => exact q4.elim
    | _ => exact q4.elim
  · subst ex ey
    obtain rfl : u = Value.ref a := rx
    obtain rfl : iv = Value.ref b := ry
    obtain ⟨od', xs, us, h1, h2, h3, h4, h5, hv, hlen, hd⟩ := t.dict I3.hok
    have hzl : (zipV xs us).length ≤ sizeLine := by
      rw [List.length_map, List.length_zip, hlen, h2.length, Nat.min_self]
      exact h5
    obtain ⟨us', k1, k2⟩ := stored_X (b := b) zs rv hv
    refine wpAny_setItem_heap (hsz := hzl) (tupleKind_room_in1 (by have := G.hu; omega)) (tup_key I3.hok hb) hd fun h' hd' hs => ?_
    rw [k2] at hd'
    obtain ⟨od, I4⟩ := tv_write (t' := s3.toks + (tupleKind (PySem.intKind X.prog X.w)).draws zs) I3 h1 hs k1 hd'
    exact ⟨σ, _, I4, q3 od od' xs h1 h2⟩
end
end Mi
end
section
namespace Mi
open PySem PySem.Spec PyProof.Rows L2
section
variable {X : Cx} {e f o : Expr} {fa fb fo : Ex} {td ty tx : TE} {pos cpos apos : Pos}
end
section
variable {P : Program} {w : World} {h h' : Heap} {a d : Addr} {zs : List Int}
end
section
variable {X : Cx}
end
section
variable {X : Cx} {e : Expr} {fa : Ex} {pos : Pos}
end
end Mi
end
section
namespace Mi
open PySem PySem.Spec PyProof.Rows L2
section
variable {X : Cx} {pins : List (Addr × Obj)} {σ : L2.St} {H : Hp} {s : Shared}
section
variable {kx vx tg iter : Expr} {ifs : List Expr} {scope : Scope} {own : List (Str × Nat)} {pos pos' : Pos} {wi : TI} {g : TG} {tt : TT} {tk tv : TE} {use : Option (Value → Sem Unit)} {Qf : Value → Shared → Prop} {Q : VK}
end
end
section
variable {K : PySem.W.Frag}
end
section
variable {X : Cx} {kx vx tg iter e o : Expr} {ifs : List Expr} {scope : Scope} {own : List (Str × Nat)} {pos : Pos} {st : Bool} {is : List Nat} {src : Is} {t : Tg} {cond : Bx} {fk fv fa fo : Ex}
theorem c_lenTv : CallR X (.builtin "len") (fun xs H Q => ∃ (a : Addr) (L : Addr → Prop) (kvs : Tv), xs = [.ref a] ∧ TvAt L H a kvs ∧ Q (.int kvs.length) H) := by
  intro pins s σ H xs us Q I r ⟨a, L, kvs, ev, t, q⟩
  subst ev
  obtain ⟨od', xs, us2, h1, h2, h3, h4, h5, hv, hlen, hd⟩ := t.dict I.hok
  have hzl : (zipV xs us2).length = kvs.length := by rw [List.length_map, List.length_zip, hlen, h2.length, Nat.min_self]
  rw [Vals.ref1 r]
  refine call_len_dictH h4 hd (by rw [hzl]; rw [sizeLine_eq] at h5; omega) ?_
  rw [hzl]
  exact ⟨.int kvs.length, H, I.tok _, ⟨_, rfl⟩, q⟩
theorem x_lenTv {p : Pos} (hg : Gl X "len") (hm : X.mg "len" = none) (ha : PE X e (TX X.K fa)) (he : starEach [e] X.env = (false, eval e X.env) :: starEach [] X.env := by rfl) (hpl : (backTo pos (starEach [] X.env)).any (·.1) = false := by rfl) :
    PE X (.Call (.Name "len" p) [e] [] pos) (TX X.K (mLenTv fa)) := PE.up (pe_callB c_lenTv hg hm (by decide +kernel) (a_cons ha a_nil he) (by decide) (by decide) he hpl) fun σ H Q ⟨ρ, env, S, eo, ok, q⟩ => by
  refine ta_one ⟨ρ, env, S, eo, ok, (Aft.bd q).mono fun p ρ1 H1 e1 o1 q1 v dv => ?_⟩
  obtain ⟨kvs, hk, q2⟩ := Aft.bx q1
  obtain ⟨i, a, _, _, _, rfl, _, t⟩ := tvOf_ok o1 dv hk
  exact ⟨a, _, kvs, rfl, t, (Aft.here q2 rfl o1) _ (.int _)⟩
end
end Mi
end
section
namespace K14
open PySem PySem.Spec PyProof.Rows L2 Mi
noncomputable section
def b__law_right : Sm := sSeq (sAsg 1 (mO2 pAdd (mC (.int 1)) (mCall Mi.L.f_l_take (aCons (mV 0) (aCons (mC (.int 5)) aNil)))))
        (sSeq (sAsg 2 (mO2 pMin2 (mC (.int 5)) (mO2 pAdd (mV 1) (mCall Mi.L.f_l_take (aCons (mV 0) (aCons (mC (.int 2)) aNil))))))
        (sSeq (sAsg 3 (mCall Mi.L.f_l_tried (aCons (mV 0) (aCons (mV 2) (aCons (mV 1) (aCons (mCall Mi.L.f_l_of (aCons (mV 0) (aCons (mLst (aCons (mC (.int 1)) (aCons (mC (.int 1)) (aCons (mC (.int 1)) (aCons (mC (.int 0)) (aCons (mC (.int 2)) aNil)))))) aNil))) aNil))))))
        (sSeq (sAsg 4 (mCall Mi.L.f_l_turned_rule (aCons (mV 0) (aCons (mV 2) (aCons (mV 1) aNil)))))
        (sSeq (sIf (tE (mO2 pEq (mCall Mi.L.f_l_take (aCons (mV 0) (aCons (mC (.int 5)) aNil))) (mC (.int 0)))) (sAsg 4 (mCall Mi.L.f_l_rule_of (aCons (mCall Mi.L.f_l_orders (aCons (mV 0) (aCons (mV 3) aNil))) aNil))) (sPass))
        (sSeq (sPar [5, 6, 7] (aCons (mO1 pRepr (mTup (aCons (mV 3) (aCons (mV 4) aNil)))) (aCons (mCall Mi.L.f_unlike (aCons (mV 3) (aCons (mV 4) aNil))) (aCons (mCall Mi.L.f_l_least_unlike (aCons (mV 3) (aCons (mV 4) aNil))) aNil))))
        (sSeq (sIf (tOr (tE (mO2 pEq (mV 7) (mC (.int 0)))) (tE (mIsN (mV 6)))) (sRet (mAnd (mO2 pEq (mV 7) (mC (.int 0))) (mAnd (mIsN (mV 6)) (mO2 pEq (mO1 pRepr (mTup (aCons (mV 3) (aCons (mV 4) aNil)))) (mV 5))))) (sPass))
        (sSeq (sIf (tOr (Mi.tNot (tE (mO1 (pIsa "tuple") (mV 6)))) (tOr (tE (mO2 pNe (mLen (mV 6)) (mC (.int 2)))) (tE (mO2 pIsNotB (mCall Mi.L.f_shows_unlike (aCons (mV 3) (aCons (mV 4) (aCons (mV 6) aNil)))) (mC (.bool true)))))) (sRet (mC (.bool false))) (sPass))
        (sSeq (sUnp (gT [gN 8, gN 9]) (mV 6))
        (sSeq (sIf (tOr (tE (mO2 pNe (mLen (mV 8)) (mV 7))) (tOr (tE (mO2 pNe (mSetLen (mV 8)) (mV 7))) (tE (mO2 pNe (mO1 pSorted (mV 8)) (mO1 pSorted (mV 9)))))) (sRet (mC (.bool false))) (sPass))
        (sRet (mAnd (mO2 pNe (mCall Mi.L.f_l_laid2 (aCons (mV 3) (aCons (mV 4) (aCons (mV 8) aNil)))) (mCall Mi.L.f_l_laid2 (aCons (mV 3) (aCons (mV 4) (aCons (mV 9) aNil))))) (mO2 pEq (mO1 pRepr (mTup (aCons (mV 3) (aCons (mV 4) aNil)))) (mV 5)))))))))))))
def f__law_right : Fn := fnOf fin 1 10 b__law_right
def b_law : Sm := sSeq (sFor (iR1 (mO2 pMax2 (mC (.int 1)) (mO2 pMin2 (mC (.int 3)) (mLen (mV 0))))) (gN 1) (sSeq (sAsg 2 (mCall Mi.L.f_l_pot (aCons (mV 0) (aCons (mV 1) aNil))))
        (sIf (Mi.tNot (tE (mO1 pAll (mComp [3] (iR1 (mC (.int 2))) (gN 3) tYes (mCall f__law_right (aCons (mV 2) aNil)))))) (sRet (mC (.bool false))) (sPass))))
        (sRet (mC (.bool true)))
def f_law : Fn := fnOf fin 1 4 b_law
end
def top (i : Nat) : Stmt := PySem.Challenge.pw_samelayout_k14_unlike_histories.main.body.getD i (.Pass ⟨0, 0, 0, 0⟩)
structure Ct (K : PySem.W.Frag) (mg : Str → Option Value) : Prop where
  d__law_pot : DefF K mg "_law_pot" (top 24)
  d_insert : DefF K mg "insert" (top 9)
  d_layout_of : DefF K mg "layout_of" (top 10)
  d_is_integer : DefF K mg "is_integer" (top 6)
  d_are_some_keys : DefF K mg "are_some_keys" (top 14)
  d_is_history : DefF K mg "is_history" (top 15)
  d_shows_unlike : DefF K mg "shows_unlike" (top 16)
  d_sets_of : DefF K mg "sets_of" (top 17)
  d_without_key : DefF K mg "without_key" (top 18)
  d_last_inserts : DefF K mg "last_inserts" (top 19)
  d_search_sets : DefF K mg "search_sets" (top 20)
  d_check_count : DefF K mg "check_count" (top 21)
  d_unlike : DefF K mg "unlike" (top 22)
  d__law_take : DefF K mg "_law_take" (top 25)
  d__law_of : DefF K mg "_law_of" (top 26)
  d__law_shuffled : DefF K mg "_law_shuffled" (top 27)
  d__law_tried : DefF K mg "_law_tried" (top 28)
  d__law_orders : DefF K mg "_law_orders" (top 29)
  d__law_rule_of : DefF K mg "_law_rule_of" (top 30)
  d__law_turned_rule : DefF K mg "_law_turned_rule" (top 31)
  d__law_put : DefF K mg "_law_put" (top 32)
  d__law_laid : DefF K mg "_law_laid" (top 33)
  d__law_histories : DefF K mg "_law_histories" (top 34)
  d__law_groups : DefF K mg "_law_groups" (top 35)
  d__law_least_unlike : DefF K mg "_law_least_unlike" (top 36)
  d__law_right : DefF K mg "_law_right" (top 37)
  d_law : DefF K mg "law" (top 38)
  n_abs : mg "abs" = none
  n_all : mg "all" = none
  n_bool : mg "bool" = none
  n_enumerate : mg "enumerate" = none
  n_int : mg "int" = none
  n_isinstance : mg "isinstance" = none
  n_len : mg "len" = none
  n_list : mg "list" = none
  n_max : mg "max" = none
  n_min : mg "min" = none
  n_range : mg "range" = none
  n_repr : mg "repr" = none
  n_set : mg "set" = none
  n_sorted : mg "sorted" = none
  n_tuple : mg "tuple" = none
  i_EMPTY : ∃ t, mg "EMPTY" = some (.int (-1) t)
  i_MOST_KEYS : ∃ t, mg "MOST_KEYS" = some (.int 8 t)
  i_PAIR : ∃ t, mg "PAIR" = some (.int 2 t)
section
variable {P : Program} {w : World} {K : PySem.W.Frag} {mg : Str → Option Value} {base : Heap}
theorem sc__law_pot : FnScope ["_law_script", "_law_k", "_law_cell", "_law_digits"] ["_law_script", "_law_k"] (defScope (top 24)) := ⟨rfl, rfl, rfl, by decide +kernel, rfl, by decide +kernel, by decide +kernel⟩
theorem ok__law_pot (c : Ct K mg) : KnD P w K mg base 1 "_law_pot" 2 ["_law_script", "_law_k"] Mi.L.f_l_pot :=
  kn_of (st := top 24) c.d__law_pot sc__law_pot finM_ok rfl rfl (fun _ _ _ _ _ _ us hl => match us, hl with | [_, _], _ => rfl) (fun _ _ _ _ _ _ us hl => match us, hl with | [_, _], _ => by kernel_rfl) fun f cdv A outer s H E hr G => by
    show PSs _ _ (TSm K Mi.L.b_l_pot)
    exact ss_cons (s_asg G 2 (x_if (t_cmp (op_pLt G) (x_v 1) (x_len (by rfl) c.n_len (x_v 0))) (x_ix G (x_v 0) (x_v 1)) (x_op op_pAdd (x_op op_pMul x_int (x_v 1)) x_int)))
        (ss_cons (s_asg G 3 (x_op op_pMul (x_op op_pMod (x_b1 c_abs (by decide +kernel) (by rfl) c.n_abs (x_v 2)) (x_op op_pMul (x_op op_pMul (x_op op_pPow x_int x_int) (x_op op_pPow x_int x_int)) (x_op op_pPow x_int x_int))) (x_t1 c_int (by decide +kernel) (by rfl) c.n_int (x_cmp (op_pGe G) (x_b1 c_abs (by decide +kernel) (by rfl) c.n_abs (x_v 2)) (x_op op_pPow x_int x_int)))))
        (ss_one (s_ret (x_new (n_lst (a_cons (x_v 3) (a_cons (x_op op_pMod (x_op op_pAdd (x_op op_pAdd (x_op op_pMul (x_op op_pMod (x_v 2) x_int) x_int) (x_op op_pMul x_int (x_v 1))) x_int) x_int) (a_cons x_int a_nil))))))))
theorem sc_insert : FnScope ["probes", "rule", "layout", "key", "found", "path", "asking", "index", "slot", "held"] ["probes", "rule", "layout", "key"] (defScope (top 9)) := ⟨rfl, rfl, rfl, by decide +kernel, rfl, by decide +kernel, by decide +kernel⟩
theorem ok_insert (c : Ct K mg) : KnD P w K mg base 1 "insert" 4 ["probes", "rule", "layout", "key"] Mi.L.f_insert :=
  kn_of (st := top 9) c.d_insert sc_insert fin_ok rfl rfl (fun _ _ _ _ _ _ us hl => match us, hl with | [_, _, _, _], _ => rfl) (fun _ _ _ _ _ _ us hl => match us, hl with | [_, _, _, _], _ => by kernel_rfl) fun f cdv A outer s H E hr G => by
    show PSs _ _ (TSm K Mi.L.b_insert)
    exact ss_cons (s_if (t_in G (x_v 3) (x_v 2)) (ss_one (s_never)) (ss_nil))
        (ss_cons (s_if (t_notIn G (x_gint c.i_EMPTY (by rfl)) (x_v 2)) (ss_one (s_never)) (ss_nil))
        (ss_cons (s_par G 4 5 (a_cons (x_new (n_t1 c_list boot_list (by rfl) c.n_list (x_v 2))) (a_cons (x_new (n_lst a_nil)) a_nil)))
        (ss_cons (s_par G 6 7 (a_cons (x_v 3) (a_cons x_int a_nil)))
        (ss_one (s_while PassesOwn.never (t_val x_bool) (ss_cons (s_asg G 8 (x_ix G (x_ix G (x_v 0) (x_v 6)) (x_v 7)))
        (ss_cons (s_asg G 9 (x_ix G (x_v 4) (x_v 8)))
        (ss_cons (s_if (PW.pt (w_or (t_cmp (op_eqG G) (x_v 9) (x_gint c.i_EMPTY (by rfl))) (w_or1 (t_in G (x_v 9) (x_ix G (x_ix G (x_v 1) (x_v 8)) (x_v 6)))))) (ss_cons (s_setL (x_v 6) (x_v 4) (x_v 8))
        (ss_cons (s_drop (x_append (x_v 5) (x_tup (a_cons (x_v 6) (a_cons (x_v 8) a_nil)))))
        (ss_cons (s_if (t_cmp (op_eqG G) (x_v 9) (x_gint c.i_EMPTY (by rfl))) (ss_one (s_ret (x_tup (a_cons (x_t1 c_tuple (by decide +kernel) (by rfl) c.n_tuple (x_v 4)) (a_cons (x_t1 c_tuple (by decide +kernel) (by rfl) c.n_tuple (x_v 5)) a_nil))))) (ss_nil))
        (ss_one (s_par G 6 7 (a_cons (x_v 9) (a_cons (x_index (x_ix G (x_v 0) (x_v 9)) (x_v 8)) a_nil))))))) (ss_nil))
        (ss_one (s_augAdd G 7 x_int))))))))))
theorem sc_layout_of : FnScope ["probes", "rule", "history", "found", "key"] ["probes", "rule", "history"] (defScope (top 10)) := ⟨rfl, rfl, rfl, by decide +kernel, rfl, by decide +kernel, by decide +kernel⟩
theorem ok_layout_of (c : Ct K mg) : KnD P w K mg base 2 "layout_of" 3 ["probes", "rule", "history"] Mi.L.f_layout_of :=
  kn_of (st := top 10) c.d_layout_of sc_layout_of fin_ok rfl rfl (fun _ _ _ _ _ _ us hl => match us, hl with | [_, _, _], _ => rfl) (fun _ _ _ _ _ _ us hl => match us, hl with | [_, _, _], _ => by kernel_rfl) fun f cdv A outer s H E hr G => by
    show PSs _ _ (TSm K Mi.L.b_layout_of)
    exact ss_cons (s_asg G 3 (x_op op_pMul (x_tup (a_cons (x_gint c.i_EMPTY (by rfl)) a_nil)) (x_len (by rfl) c.n_len (x_v 1))))
        (ss_cons (s_for G PassesOwn.never (i_seq (Gd.calm G) (x_v 2)) (g_name G 4) (ss_one (s_asg G 3 (x_ix G (x_fn (ok_insert c) (hr.mono (by decide)) (by rfl) (a_cons (x_v 0) (a_cons (x_v 1) (a_cons (x_v 3) (a_cons (x_v 4) a_nil))))) x_int))))
        (ss_one (s_ret (x_v 3))))
theorem sc_is_integer : FnScope ["value", "low", "high"] ["value", "low", "high"] (defScope (top 6)) := ⟨rfl, rfl, rfl, by decide +kernel, rfl, by decide +kernel, by decide +kernel⟩
theorem ok_is_integer (c : Ct K mg) : KnD P w K mg base 1 "is_integer" 3 ["value", "low", "high"] Mi.fIsInteger :=
  kn_of (st := top 6) c.d_is_integer sc_is_integer fin_ok rfl rfl (fun _ _ _ _ _ _ us hl => match us, hl with | [_, _, _], _ => rfl) (fun _ _ _ _ _ _ us hl => match us, hl with | [_, _, _], _ => by kernel_rfl) fun f cdv A outer s H E hr G => by
    show PSs _ _ (TSm K Mi.bIsInteger)
    exact ss_one (s_ret (x_and (x_isa isa_int (by decide +kernel) (by rfl) c.n_int (by rfl) c.n_isinstance (x_v 0)) (x_and (x_not (x_isa isa_bool (by decide +kernel) (by rfl) c.n_bool (by rfl) c.n_isinstance (x_v 0))) (x_one (x_ch (op_pLe G) (op_pLe G) (x_v 1) (x_v 0) (x_v 2))))))
theorem sc_are_some_keys : FnScope ["rule", "value", "key"] ["rule", "value"] (defScope (top 14)) := ⟨rfl, rfl, rfl, by decide +kernel, rfl, by decide +kernel, by decide +kernel⟩
theorem ok_are_some_keys (c : Ct K mg) : KnD P w K mg base 2 "are_some_keys" 2 ["rule", "value"] Mi.L.f_are_some_keys :=
  kn_of (st := top 14) c.d_are_some_keys sc_are_some_keys fin_ok rfl rfl (fun _ _ _ _ _ _ us hl => match us, hl with | [_, _], _ => rfl) (fun _ _ _ _ _ _ us hl => match us, hl with | [_, _], _ => by kernel_rfl) fun f cdv A outer s H E hr G => by
    show PSs _ _ (TSm K Mi.L.b_are_some_keys)
    exact ss_one (s_ret (x_and (x_isa isa_tuple (by decide +kernel) (by rfl) c.n_tuple (by rfl) c.n_isinstance (x_v 1)) (x_one (x_b1 (c_all G) (by decide +kernel) (by rfl) c.n_all (x_of_new (n_comp G (own := [("key", 2)]) (i_seq (Gd.calm G) (x_v 1)) (blkOk_by (by kernel_rfl)) (fun _ _ _ _ _ => g_name (Gd.blk G) 2) (fun _ _ _ _ _ => ts_nil) (fun _ _ _ _ _ => x_fn (ok_is_integer c) (hr.mono (by decide)) (by rfl) (a_cons (x_v 2) (a_cons x_int (a_cons (x_op op_pSub (x_len (by rfl) c.n_len (x_ix (Gd.blk G) (x_v 0) x_int)) x_int) a_nil))))) isL_comp)))))
theorem sc_is_history : FnScope ["rule", "value", "key"] ["rule", "value"] (defScope (top 15)) := ⟨rfl, rfl, rfl, by decide +kernel, rfl, by decide +kernel, by decide +kernel⟩
theorem ok_is_history (c : Ct K mg) : KnD P w K mg base 3 "is_history" 2 ["rule", "value"] Mi.L.f_is_history :=
  kn_of (st := top 15) c.d_is_history sc_is_history fin_ok rfl rfl (fun _ _ _ _ _ _ us hl => match us, hl with | [_, _], _ => rfl) (fun _ _ _ _ _ _ us hl => match us, hl with | [_, _], _ => by kernel_rfl) fun f cdv A outer s H E hr G => by
    show PSs _ _ (TSm K Mi.L.b_is_history)
    exact ss_cons (s_if (PW.pt (w_or (t_not (t_val (x_fn (ok_are_some_keys c) (hr.mono (by decide)) (by rfl) (a_cons (x_v 0) (a_cons (x_v 1) a_nil))))) (w_or1 (t_cmp (op_pGt G) (x_len (by rfl) c.n_len (x_v 1)) (x_len (by rfl) c.n_len (x_v 0)))))) (ss_one (s_ret x_bool)) (ss_nil))
        (ss_one (s_ret (x_cmp (op_eqG G) (x_lenDc (y := "key") (i := 2) G (by rfl) c.n_len (x_v 1) (blkOk_by (by kernel_rfl)) (fun _ _ _ _ _ => g_nameR (Gd.blk G) 2) (fun _ _ _ _ _ => e_nameR 2)) (x_len (by rfl) c.n_len (x_v 1)))))
theorem sc_shows_unlike : FnScope ["probes", "rule", "value", "one", "other"] ["probes", "rule", "value"] (defScope (top 16)) := ⟨rfl, rfl, rfl, by decide +kernel, rfl, by decide +kernel, by decide +kernel⟩
theorem ok_shows_unlike (c : Ct K mg) : KnD P w K mg base 4 "shows_unlike" 3 ["probes", "rule", "value"] Mi.L.f_shows_unlike :=
  kn_of (st := top 16) c.d_shows_unlike sc_shows_unlike fin_ok rfl rfl (fun _ _ _ _ _ _ us hl => match us, hl with | [_, _, _], _ => rfl) (fun _ _ _ _ _ _ us hl => match us, hl with | [_, _, _], _ => by kernel_rfl) fun f cdv A outer s H E hr G => by
    show PSs _ _ (TSm K Mi.L.b_shows_unlike)
    exact ss_cons (s_if (PW.pt (w_or (t_not (t_val (x_isa isa_tuple (by decide +kernel) (by rfl) c.n_tuple (by rfl) c.n_isinstance (x_v 2)))) (w_or (t_cmp (op_neG G) (x_len (by rfl) c.n_len (x_v 2)) (x_gint c.i_PAIR (by rfl))) (w_or1 (t_not (t_val (x_b1 (c_all G) (by decide +kernel) (by rfl) c.n_all (x_of_new (n_comp G (own := [("one", 3)]) (i_seq (Gd.calm G) (x_v 2)) (blkOk_by (by kernel_rfl)) (fun _ _ _ _ _ => g_name (Gd.blk G) 3) (fun _ _ _ _ _ => ts_nil) (fun _ _ _ _ _ => x_fn (ok_is_history c) (hr.mono (by decide)) (by rfl) (a_cons (x_v 1) (a_cons (x_v 3) a_nil)))) isL_comp)))))))) (ss_one (s_ret x_bool)) (ss_nil))
        (ss_cons (s_unp (x_v 2) (g_tup G (gs_cons (g_name G 3) (gs_cons (g_name G 4) gs_nil))))
        (ss_one (s_ret (x_and (x_cmp (op_eqG G) (x_of_new (n_b1 (c_sorted G) boot_sorted (by rfl) c.n_sorted (x_v 3)) (isL_O1 pSorted_l)) (x_of_new (n_b1 (c_sorted G) boot_sorted (by rfl) c.n_sorted (x_v 4)) (isL_O1 pSorted_l))) (x_one (x_cmp (op_neG G) (x_fn (ok_layout_of c) (hr.mono (by decide)) (by rfl) (a_cons (x_v 0) (a_cons (x_v 1) (a_cons (x_v 3) a_nil)))) (x_fn (ok_layout_of c) (hr.mono (by decide)) (by rfl) (a_cons (x_v 0) (a_cons (x_v 1) (a_cons (x_v 4) a_nil))))))))))
theorem sc_sets_of : FnScope ["count", "size", "found", "turn", "keys", "key"] ["count", "size"] (defScope (top 17)) := ⟨rfl, rfl, rfl, by decide +kernel, rfl, by decide +kernel, by decide +kernel⟩
theorem ok_sets_of (c : Ct K mg) : KnD P w K mg base 1 "sets_of" 2 ["count", "size"] Mi.L.f_sets_of :=
  kn_of (st := top 17) c.d_sets_of sc_sets_of fin_ok rfl rfl (fun _ _ _ _ _ _ us hl => match us, hl with | [_, _], _ => rfl) (fun _ _ _ _ _ _ us hl => match us, hl with | [_, _], _ => by kernel_rfl) fun f cdv A outer s H E hr G => by
    show PSs _ _ (TSm K Mi.L.b_sets_of)
    exact ss_cons (s_asg G 2 (x_of_new (n_lst (a_cons (x_tup a_nil) a_nil)) isL_lst))
        (ss_cons (s_for G PassesOwn.never (i_r1 (by rfl) c.n_range (x_v 1)) (g_name G 3) (ss_one (s_asg_of (s_asgC2 G 2 (hsw := sw_true rfl rfl rfl (by kernel_rfl)) (own := [("keys", 4), ("key", 5)]) (vs1 := [5]) (i_seq (Gd.calm G) (x_v 2)) (blkOk_by (by kernel_rfl)) (by decide) (fun _ _ _ _ _ => g_name (Gd.blk G) 4) (fun _ _ _ _ _ => ts_nil) (fun _ _ _ _ _ => i_r1 (by rfl) c.n_range (x_v 0)) (fun _ _ _ _ _ => g_name (Gd.blk G) 5) (fun _ _ _ _ _ => ts_one (PW.pt (w_or (t_cmp (op_eqG (Gd.blk G)) (x_v 4) (x_tup a_nil)) (w_or1 (t_cmp (op_pGt (Gd.blk G)) (x_v 5) (x_ix (Gd.blk G) (x_v 4) (x_un un_pNeg x_int))))))) (fun _ _ _ _ _ => x_op op_pAdd (x_v 4) (x_tup (a_cons (x_v 5) a_nil)))) (fun _ _ _ h => tX_tN isL_comp2 h))))
        (ss_one (s_ret (x_v 2))))
theorem sc_without_key : FnScope ["keys", "key", "other"] ["keys", "key"] (defScope (top 18)) := ⟨rfl, rfl, rfl, by decide +kernel, rfl, by decide +kernel, by decide +kernel⟩
theorem ok_without_key (c : Ct K mg) : KnD P w K mg base 1 "without_key" 2 ["keys", "key"] Mi.L.f_without_key :=
  kn_of (st := top 18) c.d_without_key sc_without_key fin_ok rfl rfl (fun _ _ _ _ _ _ us hl => match us, hl with | [_, _], _ => rfl) (fun _ _ _ _ _ _ us hl => match us, hl with | [_, _], _ => by kernel_rfl) fun f cdv A outer s H E hr G => by
    show PSs _ _ (TSm K Mi.L.b_without_key)
    exact ss_one (s_ret (x_t1 c_tuple (by decide +kernel) (by rfl) c.n_tuple (x_of_new (n_comp G (own := [("other", 2)]) (i_seq (Gd.calm G) (x_v 0)) (blkOk_by (by kernel_rfl)) (fun _ _ _ _ _ => g_name (Gd.blk G) 2) (fun _ _ _ _ _ => ts_one (t_cmp (op_neG (Gd.blk G)) (x_v 2) (x_v 1))) (fun _ _ _ _ _ => x_v 2)) isL_comp)))
theorem sc_last_inserts : FnScope ["probes", "rule", "known", "keys", "found", "key", "layout", "history"] ["probes", "rule", "known", "keys"] (defScope (top 19)) := ⟨rfl, rfl, rfl, by decide +kernel, rfl, by decide +kernel, by decide +kernel⟩
theorem ok_last_inserts (c : Ct K mg) : KnD P w K mg base 2 "last_inserts" 4 ["probes", "rule", "known", "keys"] Mi.L.f_last_inserts :=
  kn_of (st := top 19) c.d_last_inserts sc_last_inserts fin_ok rfl rfl (fun _ _ _ _ _ _ us hl => match us, hl with | [_, _, _, _], _ => rfl) (fun _ _ _ _ _ _ us hl => match us, hl with | [_, _, _, _], _ => by kernel_rfl) fun f cdv A outer s H E hr G => by
    show PSs _ _ (TSm K Mi.L.b_last_inserts)
    exact ss_cons (s_asg G 4 (x_new (n_lst a_nil)))
        (ss_cons (s_for G PassesOwn.never (i_seq (Gd.calm G) (x_v 3)) (g_name G 5) (ss_cons (s_unp (x_ixT G (x_v 2) (x_fn (ok_without_key c) (hr.mono (by decide)) (by rfl) (a_cons (x_v 3) (a_cons (x_v 5) a_nil)))) (g_tup G (gs_cons (g_name G 6) (gs_cons (g_name G 7) gs_nil))))
        (ss_one (s_drop (x_append (x_v 4) (x_tup (a_cons (x_ix G (x_fn (ok_insert c) (hr.mono (by decide)) (by rfl) (a_cons (x_v 0) (a_cons (x_v 1) (a_cons (x_v 6) (a_cons (x_v 5) a_nil))))) x_int) (a_cons (x_op op_pAdd (x_v 7) (x_tup (a_cons (x_v 5) a_nil))) a_nil))))))))
        (ss_one (s_ret (x_v 4))))
theorem sc_search_sets : FnScope ["probes", "rule", "known", "size", "keys", "found", "layout", "history"] ["probes", "rule"] (defScope (top 20)) := ⟨rfl, rfl, rfl, by decide +kernel, rfl, by decide +kernel, by decide +kernel⟩
theorem ok_search_sets (c : Ct K mg) : KnD P w K mg base 3 "search_sets" 2 ["probes", "rule"] Mi.L.f_search_sets :=
  kn_of (st := top 20) c.d_search_sets sc_search_sets fin_ok rfl rfl (fun _ _ _ _ _ _ us hl => match us, hl with | [_, _], _ => rfl) (fun _ _ _ _ _ _ us hl => match us, hl with | [_, _], _ => by kernel_rfl) fun f cdv A outer s H E hr G => by
    show PSs _ _ (TSm K Mi.L.b_search_sets)
    exact ss_cons (s_asg G 2 (x_tv1 G (x_tup a_nil) (x_tup (a_cons (x_op op_pMul (x_tup (a_cons (x_gint c.i_EMPTY (by rfl)) a_nil)) (x_len (by rfl) c.n_len (x_v 1))) (a_cons (x_tup a_nil) a_nil)))))
        (ss_cons (s_for G PassesOwn.never (i_r2 (by rfl) c.n_range x_int (x_op op_pAdd (x_b2 (c_min2 G) (by decide +kernel) (by rfl) c.n_min (x_len (by rfl) c.n_len (x_v 0)) (x_len (by rfl) c.n_len (x_v 1))) x_int)) (g_name G 3) (ss_one (s_for G PassesOwn.never (i_seq (Gd.calm G) (x_fn (ok_sets_of c) (hr.mono (by decide)) (by rfl) (a_cons (x_len (by rfl) c.n_len (x_v 0)) (a_cons (x_v 3) a_nil)))) (g_name G 4) (ss_cons (s_asg G 5 (x_fn (ok_last_inserts c) (hr.mono (by decide)) (by rfl) (a_cons (x_v 0) (a_cons (x_v 1) (a_cons (x_v 2) (a_cons (x_v 4) a_nil))))))
        (ss_cons (s_for G PassesOwn.never (i_seq (Gd.calm G) (x_v 5)) (g_tup G (gs_cons (g_name G 6) (gs_cons (g_name G 7) gs_nil))) (ss_one (s_if (t_cmp (op_neG G) (x_v 6) (x_ix G (x_ix G (x_v 5) x_int) x_int)) (ss_one (s_ret (x_tup (a_cons (x_v 2) (a_cons (x_tup (a_cons (x_ix G (x_ix G (x_v 5) x_int) x_int) (a_cons (x_v 7) a_nil))) a_nil))))) (ss_nil))))
        (ss_one (s_setTv G (x_ix G (x_v 5) x_int) (x_v 2) (x_v 4))))))))
        (ss_one (s_ret (x_tup (a_cons (x_v 2) (a_cons x_none a_nil))))))
theorem sc_check_count : FnScope ["probes"] ["probes"] (defScope (top 21)) := ⟨rfl, rfl, rfl, by decide +kernel, rfl, by decide +kernel, by decide +kernel⟩
theorem ok_check_count (c : Ct K mg) : KnD P w K mg base 1 "check_count" 1 ["probes"] Mi.L.f_check_count :=
  kn_of (st := top 21) c.d_check_count sc_check_count fin_ok rfl rfl (fun _ _ _ _ _ _ us hl => match us, hl with | [_], _ => rfl) (fun _ _ _ _ _ _ us hl => match us, hl with | [_], _ => by kernel_rfl) fun f cdv A outer s H E hr G => by
    show PSs _ _ (TSm K Mi.L.b_check_count)
    exact ss_one (s_if (t_cmp (op_pGt G) (x_len (by rfl) c.n_len (x_v 0)) (x_gint c.i_MOST_KEYS (by rfl))) (ss_one (s_never)) (ss_nil))
theorem sc_unlike : FnScope ["probes", "rule"] ["probes", "rule"] (defScope (top 22)) := ⟨rfl, rfl, rfl, by decide +kernel, rfl, by decide +kernel, by decide +kernel⟩
theorem ok_unlike (c : Ct K mg) : KnD P w K mg base 4 "unlike" 2 ["probes", "rule"] Mi.L.f_unlike :=
  kn_of (st := top 22) c.d_unlike sc_unlike fin_ok rfl rfl (fun _ _ _ _ _ _ us hl => match us, hl with | [_, _], _ => rfl) (fun _ _ _ _ _ _ us hl => match us, hl with | [_, _], _ => by kernel_rfl) fun f cdv A outer s H E hr G => by
    show PSs _ _ (TSm K Mi.L.b_unlike)
    exact ss_cons (s_drop (x_fn (ok_check_count c) (hr.mono (by decide)) (by rfl) (a_cons (x_v 0) a_nil)))
        (ss_one (s_ret (x_ix G (x_fn (ok_search_sets c) (hr.mono (by decide)) (by rfl) (a_cons (x_v 0) (a_cons (x_v 1) a_nil))) x_int)))
theorem sc__law_take : FnScope ["_law_pot_here", "_law_many", "_law_digit", "_law_prime", "_law_mixed"] ["_law_pot_here", "_law_many"] (defScope (top 25)) := ⟨rfl, rfl, rfl, by decide +kernel, rfl, by decide +kernel, by decide +kernel⟩
theorem ok__law_take (c : Ct K mg) : KnD P w K mg base 1 "_law_take" 2 ["_law_pot_here", "_law_many"] Mi.L.f_l_take :=
  kn_of (st := top 25) c.d__law_take sc__law_take fin_ok rfl rfl (fun _ _ _ _ _ _ us hl => match us, hl with | [_, _], _ => rfl) (fun _ _ _ _ _ _ us hl => match us, hl with | [_, _], _ => by kernel_rfl) fun f cdv A outer s H E hr G => by
    show PSs _ _ (TSm K Mi.L.b_l_take)
    exact ss_cons (s_if (t_cmp (op_pGt G) (x_ix G (x_v 0) x_int) x_int) (ss_cons (s_asg G 2 (x_op op_pMod (x_ix G (x_v 0) x_int) (x_v 1)))
        (ss_cons (s_setL (x_op op_pDiv (x_ix G (x_v 0) x_int) (x_v 1)) (x_v 0) x_int)
        (ss_one (s_ret (x_v 2))))) (ss_nil))
        (ss_cons (s_setL (x_op op_pAdd (x_ix G (x_v 0) x_int) x_int) (x_v 0) x_int)
        (ss_cons (s_asg G 3 (x_ix G (x_of_new (n_lst (a_cons x_int (a_cons x_int (a_cons x_int (a_cons x_int a_nil))))) isL_lst) (x_op op_pMod (x_ix G (x_v 0) x_int) x_int)))
        (ss_cons (s_asg G 4 (x_op op_pMod (x_op op_pPow (x_op op_pAdd (x_op op_pAdd (x_ix G (x_v 0) x_int) (x_op op_pMul (x_op op_pMul x_int (x_ix G (x_v 0) x_int)) (x_ix G (x_v 0) x_int))) x_int) x_int) (x_v 3)))
        (ss_one (s_ret (x_op op_pMod (x_op op_pDiv (x_op op_pMod (x_op op_pMul (x_v 4) (x_op op_pAdd (x_op op_pMod (x_v 4) x_int) (x_ix G (x_v 0) x_int))) (x_v 3)) x_int) (x_v 1)))))))
theorem sc__law_of : FnScope ["_law_pot_here", "_law_some"] ["_law_pot_here", "_law_some"] (defScope (top 26)) := ⟨rfl, rfl, rfl, by decide +kernel, rfl, by decide +kernel, by decide +kernel⟩
theorem ok__law_of (c : Ct K mg) : KnD P w K mg base 2 "_law_of" 2 ["_law_pot_here", "_law_some"] Mi.L.f_l_of :=
  kn_of (st := top 26) c.d__law_of sc__law_of fin_ok rfl rfl (fun _ _ _ _ _ _ us hl => match us, hl with | [_, _], _ => rfl) (fun _ _ _ _ _ _ us hl => match us, hl with | [_, _], _ => by kernel_rfl) fun f cdv A outer s H E hr G => by
    show PSs _ _ (TSm K Mi.L.b_l_of)
    exact ss_one (s_ret (x_ix G (x_v 1) (x_fn (ok__law_take c) (hr.mono (by decide)) (by rfl) (a_cons (x_v 0) (a_cons (x_len (by rfl) c.n_len (x_v 1)) a_nil)))))
theorem sc__law_shuffled : FnScope ["_law_pot_here", "_law_many", "_law_rest", "_law_found"] ["_law_pot_here", "_law_many"] (defScope (top 27)) := ⟨rfl, rfl, rfl, by decide +kernel, rfl, by decide +kernel, by decide +kernel⟩
theorem ok__law_shuffled (c : Ct K mg) : KnD P w K mg base 2 "_law_shuffled" 2 ["_law_pot_here", "_law_many"] Mi.L.f_l_shuffled :=
  kn_of (st := top 27) c.d__law_shuffled sc__law_shuffled fin_ok rfl rfl (fun _ _ _ _ _ _ us hl => match us, hl with | [_, _], _ => rfl) (fun _ _ _ _ _ _ us hl => match us, hl with | [_, _], _ => by kernel_rfl) fun f cdv A outer s H E hr G => by
    show PSs _ _ (TSm K Mi.L.b_l_shuffled)
    exact ss_cons (s_par G 2 3 (a_cons (x_new (n_lrg1 G (by rfl) c.n_list (by rfl) c.n_range (x_v 1))) (a_cons (x_new (n_lst a_nil)) a_nil)))
        (ss_cons (s_while PassesOwn.never (t_cmp (op_neG G) (x_v 2) (x_of_new (n_lst a_nil) isL_lst)) (ss_one (s_drop (x_append (x_v 3) (x_pop1 (x_v 2) (x_fn (ok__law_take c) (hr.mono (by decide)) (by rfl) (a_cons (x_v 0) (a_cons (x_len (by rfl) c.n_len (x_v 2)) a_nil))))))))
        (ss_one (s_ret (x_t1 c_tuple (by decide +kernel) (by rfl) c.n_tuple (x_v 3)))))
theorem sc__law_tried : FnScope ["_law_pot_here", "_law_keys", "_law_slots", "_law_way", "_law_front", "_law_cut", "_law_found", "_law_key", "_law_home", "_law_rest", "_law_slot", "_law_turn"] ["_law_pot_here", "_law_keys", "_law_slots", "_law_way"] (defScope (top 28)) := ⟨rfl, rfl, rfl, by decide +kernel, rfl, by decide +kernel, by decide +kernel⟩
theorem ok__law_tried (c : Ct K mg) : KnD P w K mg base 3 "_law_tried" 4 ["_law_pot_here", "_law_keys", "_law_slots", "_law_way"] Mi.L.f_l_tried :=
  kn_of (st := top 28) c.d__law_tried sc__law_tried fin_ok rfl rfl (fun _ _ _ _ _ _ us hl => match us, hl with | [_, _, _, _], _ => rfl) (fun _ _ _ _ _ _ us hl => match us, hl with | [_, _, _, _], _ => by kernel_rfl) fun f cdv A outer s H E hr G => by
    show PSs _ _ (TSm K Mi.L.b_l_tried)
    exact ss_cons (s_parG G (is := [4, 5, 6]) (a_cons (x_fn (ok__law_shuffled c) (hr.mono (by decide)) (by rfl) (a_cons (x_v 0) (a_cons (x_v 2) a_nil))) (a_cons (x_op op_pAdd x_int (x_fn (ok__law_take c) (hr.mono (by decide)) (by rfl) (a_cons (x_v 0) (a_cons (x_b2 (c_min2 G) (by decide +kernel) (by rfl) c.n_min x_int (x_v 2)) a_nil)))) (a_cons (x_new (n_lst a_nil)) a_nil))) (pgs_cons (pg_name G.nd (i := 4) (by rfl) (by first | exact Or.inl rfl | exact Or.inr rfl)) (pgs_cons (pg_name G.nd (i := 5) (by rfl) (by first | exact Or.inl rfl | exact Or.inr rfl)) (pgs_cons (pg_name G.nd (i := 6) (by rfl) (by first | exact Or.inl rfl | exact Or.inr rfl)) pgs_nil))))
        (ss_cons (s_for G PassesOwn.never (i_r1 (by rfl) c.n_range (x_v 1)) (g_name G 7) (ss_one (s_if (t_cmp (op_eqG G) (x_v 3) x_int) (ss_cons (s_asg G 8 (x_fn (ok__law_take c) (hr.mono (by decide)) (by rfl) (a_cons (x_v 0) (a_cons (x_v 2) a_nil))))
        (ss_one (s_drop (x_append (x_v 6) (x_t1 c_tuple (by decide +kernel) (by rfl) c.n_tuple (x_of_new (n_comp G (own := [("_law_turn", 11)]) (i_r1 (by rfl) c.n_range (x_v 2)) (blkOk_by (by kernel_rfl)) (fun _ _ _ _ _ => g_name (Gd.blk G) 11) (fun _ _ _ _ _ => ts_nil) (fun _ _ _ _ _ => x_op op_pMod (x_op op_pAdd (x_v 8) (x_v 11)) (x_v 2))) isL_comp)))))) (ss_one (s_if (t_cmp (op_eqG G) (x_v 3) x_int) (ss_cons (s_asg_of (s_asgC G 9 (hsw := sw_true rfl rfl rfl (by kernel_rfl)) (own := [("_law_slot", 10)]) (i_seq (Gd.calm G) (x_fn (ok__law_shuffled c) (hr.mono (by decide)) (by rfl) (a_cons (x_v 0) (a_cons (x_v 2) a_nil)))) (blkOk_by (by kernel_rfl)) (fun _ _ _ _ _ => g_name (Gd.blk G) 10) (fun _ _ _ _ _ => ts_one (t_notIn (Gd.blk G) (x_v 10) (x_cut (x_v 4) o_no (o_e (x_v 5))))) (fun _ _ _ _ _ => x_v 10)) (fun _ _ _ h => tX_tN isL_comp h))
        (ss_one (s_drop (x_append (x_v 6) (x_op op_pAdd (x_cut (x_v 4) o_no (o_e (x_v 5))) (x_t1 c_tuple (by decide +kernel) (by rfl) c.n_tuple (x_v 9))))))) (ss_one (s_drop (x_append (x_v 6) (x_fn (ok__law_shuffled c) (hr.mono (by decide)) (by rfl) (a_cons (x_v 0) (a_cons (x_v 2) a_nil)))))))))))
        (ss_one (s_ret (x_t1 c_tuple (by decide +kernel) (by rfl) c.n_tuple (x_v 6)))))
theorem sc__law_orders : FnScope ["_law_pot_here", "_law_tried_here", "_law_way", "_law_found", "_law_slot", "_law_order", "_law_ranked", "_law_key", "_law_late", "_law_place"] ["_law_pot_here", "_law_tried_here"] (defScope (top 29)) := ⟨rfl, rfl, rfl, by decide +kernel, rfl, by decide +kernel, by decide +kernel⟩
theorem ok__law_orders (c : Ct K mg) : KnD P w K mg base 3 "_law_orders" 2 ["_law_pot_here", "_law_tried_here"] Mi.L.f_l_orders :=
  kn_of (st := top 29) c.d__law_orders sc__law_orders fin_ok rfl rfl (fun _ _ _ _ _ _ us hl => match us, hl with | [_, _], _ => rfl) (fun _ _ _ _ _ _ us hl => match us, hl with | [_, _], _ => by kernel_rfl) fun f cdv A outer s H E hr G => by
    show PSs _ _ (TSm K Mi.L.b_l_orders)
    exact ss_cons (s_par G 2 3 (a_cons (x_fn (ok__law_take c) (hr.mono (by decide)) (by rfl) (a_cons (x_v 0) (a_cons x_int a_nil))) (a_cons (x_new (n_lst a_nil)) a_nil)))
        (ss_cons (s_for G PassesOwn.never (i_r1 (by rfl) c.n_range (x_len (by rfl) c.n_len (x_ix G (x_v 1) x_int))) (g_name G 4) (ss_cons (s_asg G 5 (x_fn (ok__law_shuffled c) (hr.mono (by decide)) (by rfl) (a_cons (x_v 0) (a_cons (x_len (by rfl) c.n_len (x_v 1)) a_nil))))
        (ss_cons (s_if (t_cmp (op_pGt G) (x_v 2) x_int) (ss_cons (s_asg G 6 (x_of_new (n_b1 (c_sorted G) boot_sorted (by rfl) c.n_sorted (x_of_new (n_comp G (own := [("_law_key", 7)]) (i_seq (Gd.calm G) (x_v 5)) (blkOk_by (by kernel_rfl)) (fun _ _ _ _ _ => g_name (Gd.blk G) 7) (fun _ _ _ _ _ => ts_nil) (fun _ _ _ _ _ => x_tup (a_cons (x_op op_pSub x_int (x_index (x_ix (Gd.blk G) (x_v 1) (x_v 7)) (x_v 4))) (a_cons (x_index (x_v 5) (x_v 7)) (a_cons (x_v 7) a_nil))))) isL_comp)) (isL_O1 pSorted_l)))
        (ss_one (s_asg G 5 (x_t1 c_tuple (by decide +kernel) (by rfl) c.n_tuple (x_of_new (n_comp G (own := [("_law_key", 7), ("_law_late", 8), ("_law_place", 9)]) (i_seq (Gd.calm G) (x_v 6)) (blkOk_by (by kernel_rfl)) (fun _ _ _ _ _ => g_tup (Gd.blk G) (gs_cons (g_name (Gd.blk G) 8) (gs_cons (g_name (Gd.blk G) 9) (gs_cons (g_name (Gd.blk G) 7) gs_nil)))) (fun _ _ _ _ _ => ts_nil) (fun _ _ _ _ _ => x_v 7)) isL_comp))))) (ss_nil))
        (ss_one (s_drop (x_append (x_v 3) (x_v 5)))))))
        (ss_one (s_ret (x_t1 c_tuple (by decide +kernel) (by rfl) c.n_tuple (x_v 3)))))
theorem sc__law_rule_of : FnScope ["_law_orders_here", "_law_found", "_law_order", "_law_key"] ["_law_orders_here"] (defScope (top 30)) := ⟨rfl, rfl, rfl, by decide +kernel, rfl, by decide +kernel, by decide +kernel⟩
theorem ok__law_rule_of (c : Ct K mg) : KnD P w K mg base 1 "_law_rule_of" 1 ["_law_orders_here"] Mi.L.f_l_rule_of :=
  kn_of (st := top 30) c.d__law_rule_of sc__law_rule_of fin_ok rfl rfl (fun _ _ _ _ _ _ us hl => match us, hl with | [_], _ => rfl) (fun _ _ _ _ _ _ us hl => match us, hl with | [_], _ => by kernel_rfl) fun f cdv A outer s H E hr G => by
    show PSs _ _ (TSm K Mi.L.b_l_rule_of)
    exact ss_cons (s_asg G 1 (x_new (n_lst a_nil)))
        (ss_cons (s_for G PassesOwn.never (i_seq (Gd.calm G) (x_v 0)) (g_name G 2) (ss_one (s_drop (x_append (x_v 1) (x_t1 c_tuple (by decide +kernel) (by rfl) c.n_tuple (x_of_new (n_comp G (own := [("_law_key", 3)]) (i_r1 (by rfl) c.n_range (x_len (by rfl) c.n_len (x_v 2))) (blkOk_by (by kernel_rfl)) (fun _ _ _ _ _ => g_name (Gd.blk G) 3) (fun _ _ _ _ _ => ts_nil) (fun _ _ _ _ _ => x_t1 c_tuple (by decide +kernel) (by rfl) c.n_tuple (x_of_new (n_b1 (c_sorted (Gd.blk G)) boot_sorted (by rfl) c.n_sorted (x_cut (x_v 2) (o_e (x_op op_pAdd (x_index (x_v 2) (x_v 3)) x_int)) o_no)) (isL_O1 pSorted_l)))) isL_comp))))))
        (ss_one (s_ret (x_t1 c_tuple (by decide +kernel) (by rfl) c.n_tuple (x_v 1)))))
theorem sc__law_turned_rule : FnScope ["_law_pot_here", "_law_keys", "_law_slots", "_law_found", "_law_slot", "_law_order", "_law_chance", "_law_beaten", "_law_at", "_law_key", "_law_other", "_law_some"] ["_law_pot_here", "_law_keys", "_law_slots"] (defScope (top 31)) := ⟨rfl, rfl, rfl, by decide +kernel, rfl, by decide +kernel, by decide +kernel⟩
theorem ok__law_turned_rule (c : Ct K mg) : KnD P w K mg base 3 "_law_turned_rule" 3 ["_law_pot_here", "_law_keys", "_law_slots"] Mi.L.f_l_turned_rule :=
  kn_of (st := top 31) c.d__law_turned_rule sc__law_turned_rule fin_ok rfl rfl (fun _ _ _ _ _ _ us hl => match us, hl with | [_, _, _], _ => rfl) (fun _ _ _ _ _ _ us hl => match us, hl with | [_, _, _], _ => by kernel_rfl) fun f cdv A outer s H E hr G => by
    show PSs _ _ (TSm K Mi.L.b_l_turned_rule)
    exact ss_cons (s_asg G 3 (x_new (n_lst a_nil)))
        (ss_cons (s_for G PassesOwn.never (i_r1 (by rfl) c.n_range (x_v 2)) (g_name G 4) (ss_cons (s_par G 5 6 (a_cons (x_fn (ok__law_shuffled c) (hr.mono (by decide)) (by rfl) (a_cons (x_v 0) (a_cons (x_v 1) a_nil))) (a_cons (x_fn (ok__law_of c) (hr.mono (by decide)) (by rfl) (a_cons (x_v 0) (a_cons (x_of_new (n_lst (a_cons x_int (a_cons x_int (a_cons x_int (a_cons x_int a_nil))))) isL_lst) a_nil))) a_nil)))
        (ss_cons (s_asgCN G 7 (hsw := sw_true rfl rfl rfl (by kernel_rfl)) (own := [("_law_key", 9)]) (i_r1 (by rfl) c.n_range (x_v 1)) (blkOk_by (by kernel_rfl)) (fun _ _ _ _ _ => g_name (Gd.blk G) 9) (fun _ _ _ _ _ => n_lst a_nil))
        (ss_cons (s_for G PassesOwn.never (i_enum (by rfl) c.n_enumerate (x_v 5)) (g_tup G (gs_cons (g_name G 8) (gs_cons (g_name G 9) gs_nil))) (ss_one (s_for G PassesOwn.never (i_seq (Gd.calm G) (x_cut (x_v 5) (o_e (x_op op_pAdd (x_v 8) x_int)) o_no)) (g_name G 10) (ss_one (s_if (t_cmp (op_eqG G) (x_fn (ok__law_take c) (hr.mono (by decide)) (by rfl) (a_cons (x_v 0) (a_cons (x_v 6) a_nil))) x_int) (ss_one (s_drop (x_append (x_row (x_v 7) (x_v 10)) (x_v 9)))) (ss_one (s_drop (x_append (x_row (x_v 7) (x_v 9)) (x_v 10)))))))))
        (ss_one (s_drop (x_append (x_v 3) (x_t1 c_tuple (by decide +kernel) (by rfl) c.n_tuple (x_of_new (n_comp G (own := [("_law_some", 11)]) (i_rows (Gd.calm G) (x_v 7)) (blkOk_by (by kernel_rfl)) (fun _ _ _ _ _ => g_name (Gd.blk G) 11) (fun _ _ _ _ _ => ts_nil) (fun _ _ _ _ _ => x_t1 c_tuple (by decide +kernel) (by rfl) c.n_tuple (x_of_new (n_b1 (c_sorted (Gd.blk G)) boot_sorted (by rfl) c.n_sorted (x_v 11)) (isL_O1 pSorted_l)))) isL_comp)))))))))
        (ss_one (s_ret (x_t1 c_tuple (by decide +kernel) (by rfl) c.n_tuple (x_v 3)))))
theorem sc__law_put : FnScope ["_law_tried_here", "_law_rule", "_law_layout", "_law_key", "_law_held", "_law_path", "_law_asking", "_law_at", "_law_turn", "_law_slot", "_law_there"] ["_law_tried_here", "_law_rule", "_law_layout", "_law_key"] (defScope (top 32)) := ⟨rfl, rfl, rfl, by decide +kernel, rfl, by decide +kernel, by decide +kernel⟩
theorem ok__law_put (c : Ct K mg) : KnD P w K mg base 1 "_law_put" 4 ["_law_tried_here", "_law_rule", "_law_layout", "_law_key"] Mi.L.f_l_put :=
  kn_of (st := top 32) c.d__law_put sc__law_put fin_ok rfl rfl (fun _ _ _ _ _ _ us hl => match us, hl with | [_, _, _, _], _ => rfl) (fun _ _ _ _ _ _ us hl => match us, hl with | [_, _, _, _], _ => by kernel_rfl) fun f cdv A outer s H E hr G => by
    show PSs _ _ (TSm K Mi.L.b_l_put)
    exact ss_cons (s_parG G (is := [4, 5, 6, 7]) (a_cons (x_new (n_t1 c_list boot_list (by rfl) c.n_list (x_v 2))) (a_cons (x_new (n_lst a_nil)) (a_cons (x_v 3) (a_cons x_int a_nil)))) (pgs_cons (pg_name G.nd (i := 4) (by rfl) (by first | exact Or.inl rfl | exact Or.inr rfl)) (pgs_cons (pg_name G.nd (i := 5) (by rfl) (by first | exact Or.inl rfl | exact Or.inr rfl)) (pgs_cons (pg_name G.nd (i := 6) (by rfl) (by first | exact Or.inl rfl | exact Or.inr rfl)) (pgs_cons (pg_name G.nd (i := 7) (by rfl) (by first | exact Or.inl rfl | exact Or.inr rfl)) pgs_nil)))))
        (ss_cons (s_for G PassesOwn.never (i_r1 (by rfl) c.n_range (x_op op_pAdd (x_op op_pMul (x_len (by rfl) c.n_len (x_v 2)) (x_len (by rfl) c.n_len (x_v 2))) x_int)) (g_name G 8) (ss_cons (s_asg G 9 (x_ix G (x_ix G (x_v 0) (x_v 6)) (x_v 7)))
        (ss_cons (s_asg G 10 (x_ix G (x_v 4) (x_v 9)))
        (ss_one (s_if (PW.pt (w_and (t_cmp (op_neG G) (x_v 10) (x_un un_pNeg x_int)) (w_and1 (t_in G (x_v 6) (x_ix G (x_ix G (x_v 1) (x_v 9)) (x_v 10)))))) (ss_one (s_asg G 7 (x_op op_pAdd (x_v 7) x_int))) (ss_cons (s_setL (x_v 6) (x_v 4) (x_v 9))
        (ss_cons (s_drop (x_append (x_v 5) (x_tup (a_cons (x_v 6) (a_cons (x_v 9) a_nil)))))
        (ss_cons (s_if (t_cmp (op_eqG G) (x_v 10) (x_un un_pNeg x_int)) (ss_one (s_ret (x_tup (a_cons (x_t1 c_tuple (by decide +kernel) (by rfl) c.n_tuple (x_v 4)) (a_cons (x_t1 c_tuple (by decide +kernel) (by rfl) c.n_tuple (x_v 5)) a_nil))))) (ss_nil))
        (ss_one (s_par G 6 7 (a_cons (x_v 10) (a_cons (x_op op_pAdd (x_index (x_ix G (x_v 0) (x_v 10)) (x_v 9)) x_int) a_nil))))))))))))
        (ss_one (s_ret (x_tup (a_cons (x_t1 c_tuple (by decide +kernel) (by rfl) c.n_tuple (x_v 4)) (a_cons (x_tup a_nil) a_nil))))))
theorem sc__law_laid : FnScope ["_law_tried_here", "_law_rule", "_law_history", "_law_found", "_law_key"] ["_law_tried_here", "_law_rule", "_law_history"] (defScope (top 33)) := ⟨rfl, rfl, rfl, by decide +kernel, rfl, by decide +kernel, by decide +kernel⟩
theorem ok__law_laid (c : Ct K mg) : KnD P w K mg base 2 "_law_laid" 3 ["_law_tried_here", "_law_rule", "_law_history"] Mi.L.f_l_laid2 :=
  kn_of (st := top 33) c.d__law_laid sc__law_laid fin_ok rfl rfl (fun _ _ _ _ _ _ us hl => match us, hl with | [_, _, _], _ => rfl) (fun _ _ _ _ _ _ us hl => match us, hl with | [_, _, _], _ => by kernel_rfl) fun f cdv A outer s H E hr G => by
    show PSs _ _ (TSm K Mi.L.b_l_laid2)
    exact ss_cons (s_asg G 3 (x_op op_pMul (x_tup (a_cons (x_un un_pNeg x_int) a_nil)) (x_len (by rfl) c.n_len (x_v 1))))
        (ss_cons (s_for G PassesOwn.never (i_seq (Gd.calm G) (x_v 2)) (g_name G 4) (ss_one (s_asg G 3 (x_ix G (x_fn (ok__law_put c) (hr.mono (by decide)) (by rfl) (a_cons (x_v 0) (a_cons (x_v 1) (a_cons (x_v 3) (a_cons (x_v 4) a_nil))))) x_int))))
        (ss_one (s_ret (x_v 3))))
theorem sc__law_histories : FnScope ["_law_keys", "_law_found", "_law_turn", "_law_longer", "_law_row", "_law_key"] ["_law_keys"] (defScope (top 34)) := ⟨rfl, rfl, rfl, by decide +kernel, rfl, by decide +kernel, by decide +kernel⟩
theorem ok__law_histories (c : Ct K mg) : KnD P w K mg base 1 "_law_histories" 1 ["_law_keys"] Mi.L.f_l_histories :=
  kn_of (st := top 34) c.d__law_histories sc__law_histories fin_ok rfl rfl (fun _ _ _ _ _ _ us hl => match us, hl with | [_], _ => rfl) (fun _ _ _ _ _ _ us hl => match us, hl with | [_], _ => by kernel_rfl) fun f cdv A outer s H E hr G => by
    show PSs _ _ (TSm K Mi.L.b_l_histories)
    exact ss_cons (s_asg G 1 (x_of_new (n_lst (a_cons (x_tup a_nil) a_nil)) isL_lst))
        (ss_cons (s_for G PassesOwn.never (i_r1 (by rfl) c.n_range (x_len (by rfl) c.n_len (x_v 0))) (g_name G 2) (ss_cons (s_asg G 3 (x_new (n_lst a_nil)))
        (ss_cons (s_for G PassesOwn.never (i_seq (Gd.calm G) (x_v 1)) (g_name G 4) (ss_one (s_drop (x_extend (x_v 3) (x_of_new (n_comp G (own := [("_law_key", 5)]) (i_seq (Gd.calm G) (x_v 0)) (blkOk_by (by kernel_rfl)) (fun _ _ _ _ _ => g_name (Gd.blk G) 5) (fun _ _ _ _ _ => ts_one (t_notIn (Gd.blk G) (x_v 5) (x_v 4))) (fun _ _ _ _ _ => x_op op_pAdd (x_v 4) (x_tup (a_cons (x_v 5) a_nil)))) isL_comp)))))
        (ss_one (s_asg G 1 (x_v 3))))))
        (ss_one (s_ret (x_v 1))))
theorem sc__law_groups : FnScope ["_law_keys", "_law_most", "_law_found", "_law_ahead", "_law_turn", "_law_longer", "_law_some", "_law_key"] ["_law_keys", "_law_most"] (defScope (top 35)) := ⟨rfl, rfl, rfl, by decide +kernel, rfl, by decide +kernel, by decide +kernel⟩
theorem ok__law_groups (c : Ct K mg) : KnD P w K mg base 1 "_law_groups" 2 ["_law_keys", "_law_most"] Mi.L.f_l_groups :=
  kn_of (st := top 35) c.d__law_groups sc__law_groups fin_ok rfl rfl (fun _ _ _ _ _ _ us hl => match us, hl with | [_, _], _ => rfl) (fun _ _ _ _ _ _ us hl => match us, hl with | [_, _], _ => by kernel_rfl) fun f cdv A outer s H E hr G => by
    show PSs _ _ (TSm K Mi.L.b_l_groups)
    exact ss_cons (s_par G 2 3 (a_cons (x_of_new (n_lst (a_cons (x_tup a_nil) a_nil)) isL_lst) (a_cons (x_of_new (n_lst (a_cons (x_tup a_nil) a_nil)) isL_lst) a_nil)))
        (ss_cons (s_for G PassesOwn.never (i_r1 (by rfl) c.n_range (x_b2 (c_min2 G) (by decide +kernel) (by rfl) c.n_min (x_v 0) (x_v 1))) (g_name G 4) (ss_cons (s_asg G 5 (x_new (n_lst a_nil)))
        (ss_cons (s_for G PassesOwn.never (i_seq (Gd.calm G) (x_v 3)) (g_name G 6) (ss_one (s_drop (x_extend (x_v 5) (x_of_new (n_comp G (own := [("_law_key", 7)]) (i_r1 (by rfl) c.n_range (x_v 0)) (blkOk_by (by kernel_rfl)) (fun _ _ _ _ _ => g_name (Gd.blk G) 7) (fun _ _ _ _ _ => ts_one (PW.pt (w_or (t_cmp (op_eqG (Gd.blk G)) (x_v 6) (x_tup a_nil)) (w_or1 (t_cmp (op_pGt (Gd.blk G)) (x_v 7) (x_ix (Gd.blk G) (x_v 6) (x_un un_pNeg x_int))))))) (fun _ _ _ _ _ => x_op op_pAdd (x_v 6) (x_tup (a_cons (x_v 7) a_nil)))) isL_comp)))))
        (ss_one (s_par G 2 3 (a_cons (x_op op_pAdd (x_v 2) (x_v 5)) (a_cons (x_v 5) a_nil)))))))
        (ss_one (s_ret (x_v 2))))
theorem sc__law_least_unlike : FnScope ["_law_tried_here", "_law_rule", "_law_keys", "_law_met", "_law_history"] ["_law_tried_here", "_law_rule"] (defScope (top 36)) := ⟨rfl, rfl, rfl, by decide +kernel, rfl, by decide +kernel, by decide +kernel⟩
theorem ok__law_least_unlike (c : Ct K mg) : KnD P w K mg base 3 "_law_least_unlike" 2 ["_law_tried_here", "_law_rule"] Mi.L.f_l_least_unlike :=
  kn_of (st := top 36) c.d__law_least_unlike sc__law_least_unlike fin_ok rfl rfl (fun _ _ _ _ _ _ us hl => match us, hl with | [_, _], _ => rfl) (fun _ _ _ _ _ _ us hl => match us, hl with | [_, _], _ => by kernel_rfl) fun f cdv A outer s H E hr G => by
    show PSs _ _ (TSm K Mi.L.b_l_least_unlike)
    exact ss_cons (s_for G PassesOwn.never (i_seq (Gd.calm G) (x_fn (ok__law_groups c) (hr.mono (by decide)) (by rfl) (a_cons (x_len (by rfl) c.n_len (x_v 0)) (a_cons (x_len (by rfl) c.n_len (x_v 1)) a_nil)))) (g_name G 2) (ss_cons (s_asg G 3 x_tv0)
        (ss_cons (s_for G PassesOwn.never (i_seq (Gd.calm G) (x_fn (ok__law_histories c) (hr.mono (by decide)) (by rfl) (a_cons (x_v 2) a_nil))) (g_name G 4) (ss_one (s_setTv G x_bool (x_v 3) (x_fn (ok__law_laid c) (hr.mono (by decide)) (by rfl) (a_cons (x_v 0) (a_cons (x_v 1) (a_cons (x_v 4) a_nil)))))))
        (ss_one (s_if (t_cmp (op_pGt G) (x_lenTv (by rfl) c.n_len (x_v 3)) x_int) (ss_one (s_ret (x_len (by rfl) c.n_len (x_v 2)))) (ss_nil))))))
        (ss_one (s_ret x_int))
theorem sc__law_right : FnScope ["_law_pot_here", "_law_slots", "_law_keys", "_law_tried_here", "_law_rule", "_law_kept", "_law_told", "_law_least", "_law_one", "_law_other"] ["_law_pot_here"] (defScope (top 37)) := ⟨rfl, rfl, rfl, by decide +kernel, rfl, by decide +kernel, by decide +kernel⟩
theorem ok__law_right (c : Ct K mg) : KnD P w K mg base 5 "_law_right" 1 ["_law_pot_here"] f__law_right :=
  kn_of (st := top 37) c.d__law_right sc__law_right fin_ok rfl rfl (fun _ _ _ _ _ _ us hl => match us, hl with | [_], _ => rfl) (fun _ _ _ _ _ _ us hl => match us, hl with | [_], _ => by kernel_rfl) fun f cdv A outer s H E hr G => by
    show PSs _ _ (TSm K b__law_right)
    exact ss_cons (s_asg G 1 (x_op op_pAdd x_int (x_fn (ok__law_take c) (hr.mono (by decide)) (by rfl) (a_cons (x_v 0) (a_cons x_int a_nil)))))
        (ss_cons (s_asg G 2 (x_b2 (c_min2 G) (by decide +kernel) (by rfl) c.n_min x_int (x_op op_pAdd (x_v 1) (x_fn (ok__law_take c) (hr.mono (by decide)) (by rfl) (a_cons (x_v 0) (a_cons x_int a_nil))))))
        (ss_cons (s_asg G 3 (x_fn (ok__law_tried c) (hr.mono (by decide)) (by rfl) (a_cons (x_v 0) (a_cons (x_v 2) (a_cons (x_v 1) (a_cons (x_fn (ok__law_of c) (hr.mono (by decide)) (by rfl) (a_cons (x_v 0) (a_cons (x_of_new (n_lst (a_cons x_int (a_cons x_int (a_cons x_int (a_cons x_int (a_cons x_int a_nil)))))) isL_lst) a_nil))) a_nil))))))
        (ss_cons (s_asg G 4 (x_fn (ok__law_turned_rule c) (hr.mono (by decide)) (by rfl) (a_cons (x_v 0) (a_cons (x_v 2) (a_cons (x_v 1) a_nil)))))
        (ss_cons (s_if (t_cmp (op_eqG G) (x_fn (ok__law_take c) (hr.mono (by decide)) (by rfl) (a_cons (x_v 0) (a_cons x_int a_nil))) x_int) (ss_one (s_asg G 4 (x_fn (ok__law_rule_of c) (hr.mono (by decide)) (by rfl) (a_cons (x_fn (ok__law_orders c) (hr.mono (by decide)) (by rfl) (a_cons (x_v 0) (a_cons (x_v 3) a_nil))) a_nil)))) (ss_nil))
        (ss_cons (s_par3 G 5 6 7 (a_cons (x_b1 (c_repr G) (by decide +kernel) (by rfl) c.n_repr (x_tup (a_cons (x_v 3) (a_cons (x_v 4) a_nil)))) (a_cons (x_fn (ok_unlike c) (hr.mono (by decide)) (by rfl) (a_cons (x_v 3) (a_cons (x_v 4) a_nil))) (a_cons (x_fn (ok__law_least_unlike c) (hr.mono (by decide)) (by rfl) (a_cons (x_v 3) (a_cons (x_v 4) a_nil))) a_nil))))
        (ss_cons (s_if (PW.pt (w_or (t_cmp (op_eqG G) (x_v 7) x_int) (w_or1 (t_isN (x_v 6))))) (ss_one (s_ret (x_and (x_cmp (op_eqG G) (x_v 7) x_int) (x_and (x_isN (x_v 6)) (x_one (x_cmp (op_eqG G) (x_b1 (c_repr G) (by decide +kernel) (by rfl) c.n_repr (x_tup (a_cons (x_v 3) (a_cons (x_v 4) a_nil)))) (x_v 5))))))) (ss_nil))
        (ss_cons (s_if (PW.pt (w_or (t_not (t_val (x_isa isa_tuple (by decide +kernel) (by rfl) c.n_tuple (by rfl) c.n_isinstance (x_v 6)))) (w_or (t_cmp (op_neG G) (x_len (by rfl) c.n_len (x_v 6)) x_int) (w_or1 (t_cmp op_pIsNotB (x_fn (ok_shows_unlike c) (hr.mono (by decide)) (by rfl) (a_cons (x_v 3) (a_cons (x_v 4) (a_cons (x_v 6) a_nil)))) x_bool))))) (ss_one (s_ret x_bool)) (ss_nil))
        (ss_cons (s_unp (x_v 6) (g_tup G (gs_cons (g_name G 8) (gs_cons (g_name G 9) gs_nil))))
        (ss_cons (s_if (PW.pt (w_or (t_cmp (op_neG G) (x_len (by rfl) c.n_len (x_v 8)) (x_v 7)) (w_or (t_cmp (op_neG G) (x_lenSet G (by rfl) c.n_len (by rfl) c.n_set (x_v 8)) (x_v 7)) (w_or1 (t_cmp (op_neG G) (x_of_new (n_b1 (c_sorted G) boot_sorted (by rfl) c.n_sorted (x_v 8)) (isL_O1 pSorted_l)) (x_of_new (n_b1 (c_sorted G) boot_sorted (by rfl) c.n_sorted (x_v 9)) (isL_O1 pSorted_l))))))) (ss_one (s_ret x_bool)) (ss_nil))
        (ss_one (s_ret (x_and (x_cmp (op_neG G) (x_fn (ok__law_laid c) (hr.mono (by decide)) (by rfl) (a_cons (x_v 3) (a_cons (x_v 4) (a_cons (x_v 8) a_nil)))) (x_fn (ok__law_laid c) (hr.mono (by decide)) (by rfl) (a_cons (x_v 3) (a_cons (x_v 4) (a_cons (x_v 9) a_nil))))) (x_one (x_cmp (op_eqG G) (x_b1 (c_repr G) (by decide +kernel) (by rfl) c.n_repr (x_tup (a_cons (x_v 3) (a_cons (x_v 4) a_nil)))) (x_v 5)))))))))))))))
theorem sc_law : FnScope ["_law_script", "_law_k", "_law_pot_here", "_law_turn"] ["_law_script"] (defScope (top 38)) := ⟨rfl, rfl, rfl, by decide +kernel, rfl, by decide +kernel, by decide +kernel⟩
theorem ok_law (c : Ct K mg) : KnD P w K mg base 6 "law" 1 ["_law_script"] f_law :=
  kn_of (st := top 38) c.d_law sc_law fin_ok rfl rfl (fun _ _ _ _ _ _ us hl => match us, hl with | [_], _ => rfl) (fun _ _ _ _ _ _ us hl => match us, hl with | [_], _ => by kernel_rfl) fun f cdv A outer s H E hr G => by
    show PSs _ _ (TSm K b_law)
    exact ss_cons (s_for G PassesOwn.never (i_r1 (by rfl) c.n_range (x_b2 (c_max2 G) (by decide +kernel) (by rfl) c.n_max x_int (x_b2 (c_min2 G) (by decide +kernel) (by rfl) c.n_min x_int (x_len (by rfl) c.n_len (x_v 0))))) (g_name G 1) (ss_cons (s_asg G 2 (x_fn (ok__law_pot c) (hr.mono (by decide)) (by rfl) (a_cons (x_v 0) (a_cons (x_v 1) a_nil))))
        (ss_one (s_if (t_not (t_val (x_b1 (c_all G) (by decide +kernel) (by rfl) c.n_all (x_of_new (n_comp G (own := [("_law_turn", 3)]) (i_r1 (by rfl) c.n_range x_int) (blkOk_by (by kernel_rfl)) (fun _ _ _ _ _ => g_name (Gd.blk G) 3) (fun _ _ _ _ _ => ts_nil) (fun _ _ _ _ _ => x_fn (ok__law_right c) (hr.mono (by decide)) (by rfl) (a_cons (x_v 2) a_nil))) isL_comp)))) (ss_one (s_ret x_bool)) (ss_nil)))))
        (ss_one (s_ret x_bool))
end
def loose0 : List Str := ["LayoutError", "Present", "Full", "TooMany", "is_integer", "EMPTY", "insert", "layout_of", "MOST_KEYS", "PAIR", "are_some_keys", "is_history", "shows_unlike", "sets_of", "without_key", "last_inserts", "search_sets", "check_count", "unlike", "_law_pot", "_law_take", "_law_of", "_law_shuffled", "_law_tried", "_law_orders", "_law_rule_of", "_law_turned_rule", "_law_put", "_law_laid", "_law_histories"]
def loose1 : List Str := ["_law_groups", "_law_least_unlike", "_law_right"]
def loose : List Str := loose0 ++ loose1
def dd__law_pot : He.DefD := ⟨("_law_pot", none), "_law_pot", "_law_pot", defArgs (top 24), defBody (top 24), defScope (top 24), [], []⟩
def dd_insert : He.DefD := ⟨("insert", none), "insert", "insert", defArgs (top 9), defBody (top 9), defScope (top 9), [], []⟩
def dd_layout_of : He.DefD := ⟨("layout_of", none), "layout_of", "layout_of", defArgs (top 10), defBody (top 10), defScope (top 10), [], []⟩
def dd_is_integer : He.DefD := ⟨("is_integer", none), "is_integer", "is_integer", defArgs (top 6), defBody (top 6), defScope (top 6), [], []⟩
def dd_are_some_keys : He.DefD := ⟨("are_some_keys", none), "are_some_keys", "are_some_keys", defArgs (top 14), defBody (top 14), defScope (top 14), [], []⟩
def dd_is_history : He.DefD := ⟨("is_history", none), "is_history", "is_history", defArgs (top 15), defBody (top 15), defScope (top 15), [], []⟩
def dd_shows_unlike : He.DefD := ⟨("shows_unlike", none), "shows_unlike", "shows_unlike", defArgs (top 16), defBody (top 16), defScope (top 16), [], []⟩
def dd_sets_of : He.DefD := ⟨("sets_of", none), "sets_of", "sets_of", defArgs (top 17), defBody (top 17), defScope (top 17), [], []⟩
def dd_without_key : He.DefD := ⟨("without_key", none), "without_key", "without_key", defArgs (top 18), defBody (top 18), defScope (top 18), [], []⟩
def dd_last_inserts : He.DefD := ⟨("last_inserts", none), "last_inserts", "last_inserts", defArgs (top 19), defBody (top 19), defScope (top 19), [], []⟩
def dd_search_sets : He.DefD := ⟨("search_sets", none), "search_sets", "search_sets", defArgs (top 20), defBody (top 20), defScope (top 20), [], []⟩
def dd_check_count : He.DefD := ⟨("check_count", none), "check_count", "check_count", defArgs (top 21), defBody (top 21), defScope (top 21), [], []⟩
def dd_unlike : He.DefD := ⟨("unlike", none), "unlike", "unlike", defArgs (top 22), defBody (top 22), defScope (top 22), [], []⟩
def dd__law_take : He.DefD := ⟨("_law_take", none), "_law_take", "_law_take", defArgs (top 25), defBody (top 25), defScope (top 25), [], []⟩
def dd__law_of : He.DefD := ⟨("_law_of", none), "_law_of", "_law_of", defArgs (top 26), defBody (top 26), defScope (top 26), [], []⟩
def dd__law_shuffled : He.DefD := ⟨("_law_shuffled", none), "_law_shuffled", "_law_shuffled", defArgs (top 27), defBody (top 27), defScope (top 27), [], []⟩
def dd__law_tried : He.DefD := ⟨("_law_tried", none), "_law_tried", "_law_tried", defArgs (top 28), defBody (top 28), defScope (top 28), [], []⟩
def dd__law_orders : He.DefD := ⟨("_law_orders", none), "_law_orders", "_law_orders", defArgs (top 29), defBody (top 29), defScope (top 29), [], []⟩
def dd__law_rule_of : He.DefD := ⟨("_law_rule_of", none), "_law_rule_of", "_law_rule_of", defArgs (top 30), defBody (top 30), defScope (top 30), [], []⟩
def dd__law_turned_rule : He.DefD := ⟨("_law_turned_rule", none), "_law_turned_rule", "_law_turned_rule", defArgs (top 31), defBody (top 31), defScope (top 31), [], []⟩
def dd__law_put : He.DefD := ⟨("_law_put", none), "_law_put", "_law_put", defArgs (top 32), defBody (top 32), defScope (top 32), [], []⟩
def dd__law_laid : He.DefD := ⟨("_law_laid", none), "_law_laid", "_law_laid", defArgs (top 33), defBody (top 33), defScope (top 33), [], []⟩
def dd__law_histories : He.DefD := ⟨("_law_histories", none), "_law_histories", "_law_histories", defArgs (top 34), defBody (top 34), defScope (top 34), [], []⟩
def dd__law_groups : He.DefD := ⟨("_law_groups", none), "_law_groups", "_law_groups", defArgs (top 35), defBody (top 35), defScope (top 35), [], []⟩
def dd__law_least_unlike : He.DefD := ⟨("_law_least_unlike", none), "_law_least_unlike", "_law_least_unlike", defArgs (top 36), defBody (top 36), defScope (top 36), [], []⟩
def dd__law_right : He.DefD := ⟨("_law_right", none), "_law_right", "_law_right", defArgs (top 37), defBody (top 37), defScope (top 37), [], []⟩
def dd_law : He.DefD := ⟨("law", none), "law", "law", defArgs (top 38), defBody (top 38), defScope (top 38), [], []⟩
def fns : List He.DefD := [dd__law_pot, dd_insert, dd_layout_of, dd_is_integer, dd_are_some_keys, dd_is_history, dd_shows_unlike, dd_sets_of, dd_without_key, dd_last_inserts, dd_search_sets, dd_check_count, dd_unlike, dd__law_take, dd__law_of, dd__law_shuffled, dd__law_tried, dd__law_orders, dd__law_rule_of, dd__law_turned_rule, dd__law_put, dd__law_laid, dd__law_histories, dd__law_groups, dd__law_least_unlike, dd__law_right, dd_law]
def fas : List He.Fa := [.glo "_law_pot", .glo "insert", .glo "layout_of", .glo "is_integer", .glo "are_some_keys", .glo "is_history", .glo "shows_unlike", .glo "sets_of", .glo "without_key", .glo "last_inserts", .glo "search_sets", .glo "check_count", .glo "unlike", .glo "_law_take", .glo "_law_of", .glo "_law_shuffled", .glo "_law_tried", .glo "_law_orders", .glo "_law_rule_of", .glo "_law_turned_rule", .glo "_law_put", .glo "_law_laid", .glo "_law_histories", .glo "_law_groups", .glo "_law_least_unlike", .glo "_law_right", .glo "law", .free "abs", .free "all", .free "bool", .free "enumerate", .free "int", .free "isinstance", .free "len", .free "list", .free "max", .free "min", .free "range", .free "repr", .free "set", .free "sorted", .free "tuple", .int "EMPTY" (-1), .int "MOST_KEYS" 8, .int "PAIR" 2]
abbrev RR : PySem.W.OpenRow := PySem.W.OpenLaw.row PySem.Challenge.rw_samelayout_k14_unlike_histories
abbrev hk : PySem.W.Hook := He.hookD 4 fas fns
def ob (s : PySem.W.SharedT) : He.AlD := He.obsDG 4 fas fns (HandSHeadRun.getT s)
theorem ob_eq (s : PySem.W.SharedT) : ob s = hk.obs s.abs := He.obsDG_eq (HandSHeadRun.getT_eq s)
theorem run (w : World) : HandSHeadRun.RunEq RR (PySem.W.view RR.prog [38]) hk ob 4000 loose w := by
  intro os
  kernel_rfl
theorem ct {K : PySem.W.Frag} {h : Heap} {mg : Str → Option Value} (X : K.In h) (G : h.Ns mainGlobals mg) (c : He.SaysD fas fns K) : Ct K mg :=
  ⟨(by obtain ⟨fd, F⟩ := c.def_ 0 (d := dd__law_pot) rfl; exact ⟨_, fd, He.glo_ok X G (c.fact 0 (f := .glo "_law_pot") rfl), F⟩), (by obtain ⟨fd, F⟩ := c.def_ 1 (d := dd_insert) rfl; exact ⟨_, fd, He.glo_ok X G (c.fact 1 (f := .glo "insert") rfl), F⟩), (by obtain ⟨fd, F⟩ := c.def_ 2 (d := dd_layout_of) rfl; exact ⟨_, fd, He.glo_ok X G (c.fact 2 (f := .glo "layout_of") rfl), F⟩), (by obtain ⟨fd, F⟩ := c.def_ 3 (d := dd_is_integer) rfl; exact ⟨_, fd, He.glo_ok X G (c.fact 3 (f := .glo "is_integer") rfl), F⟩), (by obtain ⟨fd, F⟩ := c.def_ 4 (d := dd_are_some_keys) rfl; exact ⟨_, fd, He.glo_ok X G (c.fact 4 (f := .glo "are_some_keys") rfl), F⟩), (by obtain ⟨fd, F⟩ := c.def_ 5 (d := dd_is_history) rfl; exact ⟨_, fd, He.glo_ok X G (c.fact 5 (f := .glo "is_history") rfl), F⟩), (by obtain ⟨fd, F⟩ := c.def_ 6 (d := dd_shows_unlike) rfl; exact ⟨_, fd, He.glo_ok X G (c.fact 6 (f := .glo "shows_unlike") rfl), F⟩), (by obtain ⟨fd, F⟩ := c.def_ 7 (d := dd_sets_of) rfl; exact ⟨_, fd, He.glo_ok X G (c.fact 7 (f := .glo "sets_of") rfl), F⟩), (by obtain ⟨fd, F⟩ := c.def_ 8 (d := dd_without_key) rfl; exact ⟨_, fd, He.glo_ok X G (c.fact 8 (f := .glo "without_key") rfl), F⟩), (by obtain ⟨fd, F⟩ := c.def_ 9 (d := dd_last_inserts) rfl; exact ⟨_, fd, He.glo_ok X G (c.fact 9 (f := .glo "last_inserts") rfl), F⟩), (by obtain ⟨fd, F⟩ := c.def_ 10 (d := dd_search_sets) rfl; exact ⟨_, fd, He.glo_ok X G (c.fact 10 (f := .glo "search_sets") rfl), F⟩), (by obtain ⟨fd, F⟩ := c.def_ 11 (d := dd_check_count) rfl; exact ⟨_, fd, He.glo_ok X G (c.fact 11 (f := .glo "check_count") rfl), F⟩), (by obtain ⟨fd, F⟩ := c.def_ 12 (d := dd_unlike) rfl; exact ⟨_, fd, He.glo_ok X G (c.fact 12 (f := .glo "unlike") rfl), F⟩), (by obtain ⟨fd, F⟩ := c.def_ 13 (d := dd__law_take) rfl; exact ⟨_, fd, He.glo_ok X G (c.fact 13 (f := .glo "_law_take") rfl), F⟩), (by obtain ⟨fd, F⟩ := c.def_ 14 (d := dd__law_of) rfl; exact ⟨_, fd, He.glo_ok X G (c.fact 14 (f := .glo "_law_of") rfl), F⟩), (by obtain ⟨fd, F⟩ := c.def_ 15 (d := dd__law_shuffled) rfl; exact ⟨_, fd, He.glo_ok X G (c.fact 15 (f := .glo "_law_shuffled") rfl), F⟩), (by obtain ⟨fd, F⟩ := c.def_ 16 (d := dd__law_tried) rfl; exact ⟨_, fd, He.glo_ok X G (c.fact 16 (f := .glo "_law_tried") rfl), F⟩), (by obtain ⟨fd, F⟩ := c.def_ 17 (d := dd__law_orders) rfl; exact ⟨_, fd, He.glo_ok X G (c.fact 17 (f := .glo "_law_orders") rfl), F⟩), (by obtain ⟨fd, F⟩ := c.def_ 18 (d := dd__law_rule_of) rfl; exact ⟨_, fd, He.glo_ok X G (c.fact 18 (f := .glo "_law_rule_of") rfl), F⟩), (by obtain ⟨fd, F⟩ := c.def_ 19 (d := dd__law_turned_rule) rfl; exact ⟨_, fd, He.glo_ok X G (c.fact 19 (f := .glo "_law_turned_rule") rfl), F⟩), (by obtain ⟨fd, F⟩ := c.def_ 20 (d := dd__law_put) rfl; exact ⟨_, fd, He.glo_ok X G (c.fact 20 (f := .glo "_law_put") rfl), F⟩), (by obtain ⟨fd, F⟩ := c.def_ 21 (d := dd__law_laid) rfl; exact ⟨_, fd, He.glo_ok X G (c.fact 21 (f := .glo "_law_laid") rfl), F⟩), (by obtain ⟨fd, F⟩ := c.def_ 22 (d := dd__law_histories) rfl; exact ⟨_, fd, He.glo_ok X G (c.fact 22 (f := .glo "_law_histories") rfl), F⟩), (by obtain ⟨fd, F⟩ := c.def_ 23 (d := dd__law_groups) rfl; exact ⟨_, fd, He.glo_ok X G (c.fact 23 (f := .glo "_law_groups") rfl), F⟩), (by obtain ⟨fd, F⟩ := c.def_ 24 (d := dd__law_least_unlike) rfl; exact ⟨_, fd, He.glo_ok X G (c.fact 24 (f := .glo "_law_least_unlike") rfl), F⟩), (by obtain ⟨fd, F⟩ := c.def_ 25 (d := dd__law_right) rfl; exact ⟨_, fd, He.glo_ok X G (c.fact 25 (f := .glo "_law_right") rfl), F⟩), (by obtain ⟨fd, F⟩ := c.def_ 26 (d := dd_law) rfl; exact ⟨_, fd, He.glo_ok X G (c.fact 26 (f := .glo "law") rfl), F⟩), (He.free_ok X G (c.fact 27 (f := .free "abs") rfl)), (He.free_ok X G (c.fact 28 (f := .free "all") rfl)), (He.free_ok X G (c.fact 29 (f := .free "bool") rfl)), (He.free_ok X G (c.fact 30 (f := .free "enumerate") rfl)), (He.free_ok X G (c.fact 31 (f := .free "int") rfl)), (He.free_ok X G (c.fact 32 (f := .free "isinstance") rfl)), (He.free_ok X G (c.fact 33 (f := .free "len") rfl)), (He.free_ok X G (c.fact 34 (f := .free "list") rfl)), (He.free_ok X G (c.fact 35 (f := .free "max") rfl)), (He.free_ok X G (c.fact 36 (f := .free "min") rfl)), (He.free_ok X G (c.fact 37 (f := .free "range") rfl)), (He.free_ok X G (c.fact 38 (f := .free "repr") rfl)), (He.free_ok X G (c.fact 39 (f := .free "set") rfl)), (He.free_ok X G (c.fact 40 (f := .free "sorted") rfl)), (He.free_ok X G (c.fact 41 (f := .free "tuple") rfl)), (He.int_ok X G (c.fact 42 (f := .int "EMPTY" (-1)) rfl)), (He.int_ok X G (c.fact 43 (f := .int "MOST_KEYS" 8) rfl)), (He.int_ok X G (c.fact 44 (f := .int "PAIR" 2) rfl))⟩
end K14
open PySem PySem.W PySem.Calls PyProof.Rows
theorem K14.holds_of (hlaw : ∀ ns : List Int, ns.length ≤ 63 → K14.f_law [.scr ns] [] = .ok (.p (.bool true), [])) : PySem.Challenge.rw_samelayout_k14_unlike_histories.Holds := by
  w_on; o_law
  refine HandSHeadRun.head_any (r := OpenLaw.row PySem.Challenge.rw_samelayout_k14_unlike_histories) (q := view (OpenLaw.row PySem.Challenge.rw_samelayout_k14_unlike_histories).prog [38]) (H := K14.hk) (ob := K14.ob) (M := 4000) (loose := K14.loose) (d := HandSHeadRun.topDef (OpenLaw.row PySem.Challenge.rw_samelayout_k14_unlike_histories).prog 38) (kwd := []) K14.ob_eq
    (by kernel_rfl) (fun s => by kernel_rfl) K14.run (by kernel_rfl) (by kernel_rfl) (by kernel_rfl) (by rfl) (by first | assumption | decide +kernel) (by decide +kernel) ⟨rfl, rfl, rfl, rfl, rfl, by decide +kernel⟩ ?hw ?hc
  case hw => w_witness2
  case hc =>
    refine Mi.walk_ofG (l := PySem.Challenge.rw_samelayout_k14_unlike_histories) (n := 63) (k := 6) (x := "_law_script") (fn := K14.f_law) rfl (by decide) (by kernel_rfl) ⟨⟨rfl, by decide, by decide⟩, rfl⟩ ?F hlaw
    intro w mg fa h Y G hmg0
    obtain ⟨K, KX, c⟩ := Y
    have e : (HandSHeadRun.topDef (OpenLaw.row PySem.Challenge.rw_samelayout_k14_unlike_histories).prog 38).name = ("law" : PySem.Str) := by kernel_rfl
    rw [e]
    exact ⟨K, KX, fun base _ _ => K14.ok_law (K14.ct KX G c)⟩
end
section
namespace Mi
open PySem Mi Mi.L 
local macro_rules | `(tactic| wp_walk using $[$ts:term],*) => `(tactic| simp (disch := first | with_reducible assumption | omega | (simp only [List.length_set, List.length_append, List.length_cons, List.length_nil, List.length_map, List.length_range, List.length_replicate, Line]; omega) | (simp only [List.length_set, List.length_append, List.length_cons, List.length_nil, List.length_map, List.length_range, List.length_replicate]; done) | fail) only [au0, au1, au2, au3, au4, au5, au6, List.getElem?_map, dI, dT, List.getElem?_cons_zero, List.getElem?_cons_succ, List.set_cons_zero, List.set_cons_succ, List.map_cons, List.map_nil, List.length_cons, List.length_nil, List.cons_append, List.nil_append, List.append_nil, List.append_assoc, List.reduceReplicate, List.length_set, List.set_set, List.length_append, List.length_map, List.length_range, List.length_replicate, decide_true, decide_false, decide_eq_true_eq, Bool.not_eq_true', decide_eq_false_iff_not, Bool.true_and, Bool.false_and, Bool.not_true, Bool.not_false, Bool.false_eq_true, if_true, if_false, Int.toNat_natCast, Int.reduceToNat, Int.reducePow, Int.reduceMul, Int.reduceAdd, Int.reduceSub, Int.reduceNeg, Int.reduceLT, Int.reduceLE, Nat.sub_self, Nat.add_sub_cancel_left, Nat.reduceAdd, Nat.reduceSub, Nat.reduceLT, Nat.reduceLeDiff, Int.cast_ofNat_Int, true_or, or_true, true_and, and_true, $[$ts:term],*])
def nstS (rows : List (List PyData)) (k : Nat) : List Cell := .nst rows.length (List.range' (k + 1) rows.length) :: rows.map .lst
def nstF (rows : List (List PyData)) (k : Nat) : List Cell := .nst rows.length (List.range' (k + 1) rows.length) :: rows.map .flst
theorem nstS_len (rows : List (List PyData)) (k : Nat) : (nstS rows k).length = rows.length + 1 := by simp [nstS]
theorem nst_cell {A : Store} {rows : List (List PyData)} : (A ++ nstS rows A.length)[A.length]? = some (.nst rows.length (List.range' (A.length + 1) rows.length)) := by
  rw [List.getElem?_append_right (Nat.le_refl _), Nat.sub_self]
  rfl
theorem nst_get {A : Store} {rows : List (List PyData)} {r : Nat} (h : r < rows.length) : (A ++ nstS rows A.length)[A.length + 1 + r]? = some (.lst rows[r]!) := by
  rw [List.getElem?_append_right (by omega), show A.length + 1 + r - A.length = r + 1 by omega]
  unfold nstS
  rw [List.getElem?_cons_succ, List.getElem?_map, List.getElem?_eq_getElem h, getElem!_pos rows r h]
  rfl
theorem nst_put {A : Store} {rows : List (List PyData)} {r : Nat} {ys : List PyData} (h : r < rows.length) : (A ++ nstS rows A.length).set (A.length + 1 + r) (.lst ys) = A ++ nstS (rows.set r ys) A.length := by
  rw [List.set_append_right _ _ (by omega), show A.length + 1 + r - A.length = r + 1 by omega]
  unfold nstS
  rw [List.set_cons_succ, List.map_set, List.length_set]
theorem nst_row {A : Store} {rows : List (List PyData)} {r : Nat} (h : r < rows.length) : rowOf (A ++ nstS rows A.length) A.length rows.length (List.range' (A.length + 1) rows.length) r = .ok (.ref (A.length + 1 + r), A ++ nstS rows A.length) := by
  unfold rowOf
  rw [stand_one nst_cell, decide_eq_true (show (0 : Int) ≤ r by omega), Bool.and_self, when_of rfl, Int.toNat_natCast, List.getElem?_range' h, bx_of (show orNo (some _) = .ok _ from rfl), Nat.one_mul]
theorem compN_val {α : Type} {own : List Nat} {tg : Tg} {elt : Ex} {σ : Env} (f : α → PyData) (val : α → List PyData) {xs : List α} {S : Store}
    (h : ∀ x ∈ xs, ∀ T, (bx (tg (f x) (wipe σ own)) fun σ1 => elt σ1 T) = .ok (.p (.list (val x)), T)) :
    compNL own tg elt [] σ S.length (xs.map f) [] (S ++ [.nst 0 []]) = .ok (.rows S.length xs.length (List.range' (S.length + 1) xs.length), S ++ nstS (xs.map val) S.length) := by
  have key : ∀ (ys : List α) (rows : List (List PyData)), (∀ y ∈ ys, ∀ T, (bx (tg (f y) (wipe σ own)) fun σ1 => elt σ1 T) = .ok (.p (.list (val y)), T)) →
      compNL own tg elt [] σ S.length (ys.map f) (List.range' (S.length + 1) rows.length) (S ++ nstS rows S.length) = .ok (.rows S.length (rows.length + ys.length) (List.range' (S.length + 1) (rows.length + ys.length)), S ++ nstS (rows ++ ys.map val) S.length) := by
    intro ys
    induction ys with
    | nil =>
      intro rows _
      have e : stand [(S.length, .nst (List.range' (S.length + 1) rows.length).length (List.range' (S.length + 1) rows.length))] (S ++ nstS rows S.length) = true := by
        rw [List.length_range']
        exact stand_one nst_cell
      show when_ (stand _ _) _ = _
      rw [e, when_of rfl, List.length_range']
      simp
    | cons y ys ih =>
      intro rows hy
      have e : stand [(S.length, .nst (List.range' (S.length + 1) rows.length).length (List.range' (S.length + 1) rows.length))] (S ++ nstS rows S.length) = true := by
        rw [List.length_range']
        exact stand_one nst_cell
      have h1 := hy y (by simp) (S ++ nstS rows S.length)
      obtain ⟨σ1, e1, e2⟩ := bx_okE h1
      show when_ (stand _ _) (bx (tg (f y) (wipe σ own)) _) = _
      rw [e, when_of rfl, bx_of e1, bd_of e2]
      show when_ (stand _ _) _ = _
      rw [e, when_of rfl]
      have el : (S ++ nstS rows S.length).length = S.length + 1 + rows.length := by rw [List.length_append, nstS_len]; omega
      have er : List.range' (S.length + 1) rows.length ++ [(S ++ nstS rows S.length).length] = List.range' (S.length + 1) (rows ++ [val y]).length := by
        rw [el, List.length_append, List.length_singleton, List.range'_concat]
        simp
      have es : ((S ++ nstS rows S.length ++ [Cell.lst (val y)]).set S.length (.nst ((List.range' (S.length + 1) rows.length).length + 1) (List.range' (S.length + 1) (rows ++ [val y]).length))) = S ++ nstS (rows ++ [val y]) S.length := by
        rw [List.append_assoc, List.set_append_right _ _ (Nat.le_refl _), Nat.sub_self]
        unfold nstS
        simp
      rw [er, es]
      have := ih (rows ++ [val y]) fun z hz => hy z (by simp [hz])
      rw [this]
      simp only [List.length_append, List.length_cons, List.length_nil, List.map_cons, List.append_assoc, List.cons_append, List.nil_append, Nat.zero_add]
      rw [show rows.length + 1 + ys.length = rows.length + (ys.length + 1) by omega]
  have e0 : S ++ [Cell.nst 0 []] = S ++ nstS [] S.length := rfl
  rw [e0]
  have := key xs [] h
  simpa using this
theorem fzs_rows : ∀ (rows : List (List PyData)) (A B : Store), fzs ((List.range' A.length rows.length).map .ref) (A ++ (rows.map .lst ++ B)) = .ok (rows.map .list, A ++ (rows.map .flst ++ B))
  | [], A, B => rfl
  | r :: rows, A, B => by
    have hg : (A ++ (((r :: rows).map Cell.lst) ++ B))[A.length]? = some (.lst r) := by
      rw [List.getElem?_append_right (Nat.le_refl _), Nat.sub_self]
      rfl
    have hs : (A ++ (((r :: rows).map Cell.lst) ++ B)).set A.length (.flst r) = (A ++ [.flst r]) ++ (rows.map .lst ++ B) := by
      rw [List.set_append_right _ _ (Nat.le_refl _), Nat.sub_self]
      simp
    have ih := fzs_rows rows (A ++ [.flst r]) B
    rw [List.length_append, List.length_singleton] at ih
    rw [List.length_cons, List.range'_succ, List.map_cons]
    show bd (fz _ (.ref A.length)) _ = _
    have hf : fz (A ++ (((r :: rows).map Cell.lst) ++ B)) (.ref A.length) = .ok (.list r, (A ++ [.flst r]) ++ (rows.map .lst ++ B)) := by
      simp only [fz, hg, hs]
    rw [bd_of hf, bd_of ih]
    simp
noncomputable def rowsK (x : D) (S : Store) : R (Src × Store) := match x with
  | .rows i n rs => when_ (stand [(i, .nst n rs)] S) (bd (fzs (rs.map .ref) S) fun xs S2 => when_ (stand [(i, .nst n rs)] S2) (.ok (⟨xs, [(i, .nst n rs)]⟩, S2)))
  | _ => .no
theorem au_rows (a : Ex) (σ : Env) (S : Store) : iRows a σ S = bd (a σ S) rowsK := rfl
theorem rows_ok (A : Store) (rows : List (List PyData)) : rowsK (.rows A.length rows.length (List.range' (A.length + 1) rows.length)) (A ++ nstS rows A.length) = .ok (⟨rows.map .list, [(A.length, .nst rows.length (List.range' (A.length + 1) rows.length))]⟩, A ++ nstF rows A.length) := by
  have h := fzs_rows rows (A ++ [.nst rows.length (List.range' (A.length + 1) rows.length)]) []
  rw [List.length_append, List.length_singleton] at h
  have e1 : A ++ [.nst rows.length (List.range' (A.length + 1) rows.length)] ++ (rows.map .lst ++ []) = A ++ nstS rows A.length := by simp [nstS]
  have e2 : A ++ [.nst rows.length (List.range' (A.length + 1) rows.length)] ++ (rows.map .flst ++ []) = A ++ nstF rows A.length := by simp [nstF]
  rw [e1, e2] at h
  have c2 : (A ++ nstF rows A.length)[A.length]? = some (.nst rows.length (List.range' (A.length + 1) rows.length)) := by
    rw [List.getElem?_append_right (Nat.le_refl _), Nat.sub_self]
    rfl
  show when_ _ _ = _
  rw [stand_one nst_cell, when_of rfl, bd_of h, stand_one c2, when_of rfl]
theorem standF (A : Store) (rows : List (List PyData)) (B : Store) : stand [(A.length, .nst rows.length (List.range' (A.length + 1) rows.length))] (A ++ (nstF rows A.length ++ B)) = true := by
  refine stand_one ?_
  rw [List.getElem?_append_right (Nat.le_refl _), Nat.sub_self]
  rfl
noncomputable def rowB (x : D) (y : D) (S : Store) : R (D × Store) := match x, y with
  | .rows i n rs, .p (.int k) => rowOf S i n rs k
  | _, _ => .no
noncomputable def rowA (b : Ex) (σ : Env) (x : D) (S : Store) : R (D × Store) := bd (b σ S) (rowB x)
theorem au_Row (a b : Ex) (σ : Env) (S : Store) : mRow a b σ S = bd (a σ S) (rowA b σ) := by
  unfold mRow
  congr 1
theorem au_rowA (b : Ex) (σ : Env) (d : D) (S : Store) : rowA b σ d S = bd (b σ S) (rowB d) := rfl
theorem au_rowB (i n : Nat) (rs : List Nat) (k : Int) (S : Store) : rowB (.rows i n rs) (.p (.int k)) S = rowOf S i n rs k := rfl
noncomputable def compNK (own : List Nat) (tg : Tg) (elt : Ex) (σ : Env) (s : Src) (S : Store) : R (D × Store) := when_ (decide (s.items.length ≤ Line)) (compNL own tg elt s.g σ S.length s.items [] (S ++ [.nst 0 []]))
theorem au_CompN (own : List Nat) (src : Is) (tg : Tg) (elt : Ex) (σ : Env) (S : Store) : mCompN own src tg elt σ S = bd (src σ S) (compNK own tg elt σ) := rfl
theorem au_compNK (own : List Nat) (tg : Tg) (elt : Ex) (σ : Env) (xs : List PyData) (g : List (Nat × Cell)) (S : Store) : compNK own tg elt σ ⟨xs, g⟩ S = when_ (decide (xs.length ≤ Line)) (compNL own tg elt g σ S.length xs [] (S ++ [.nst 0 []])) := rfl
def remC (S : Store) (i : Nat) (k : Int) : Option Cell → R (D × Store)
  | some (.lst xs) => bx (orNo (ints? xs)) fun ns => when_ (decide (k ∈ ns)) (.ok (.p .none, S.set i (.lst (xs.eraseIdx (ns.idxOf k)))))
  | _ => .no
def remB (x y : D) (S : Store) : R (D × Store) := match x, y with
  | .ref i, .p (.int k) => remC S i k S[i]?
  | _, _ => .no
def remA (a : Ex) (σ : Env) (x : D) (S : Store) : R (D × Store) := when_ (lstAt S x) (bd (a σ S) (remB x))
theorem au_Rem (o a : Ex) (σ : Env) (S : Store) : mRemove o a σ S = bd (o σ S) (remA a σ) := rfl
theorem au_remA (a : Ex) (σ : Env) (d : D) (S : Store) : remA a σ d S = when_ (lstAt S d) (bd (a σ S) (remB d)) := rfl
theorem au_remB (i : Nat) (k : Int) (S : Store) : remB (.ref i) (.p (.int k)) S = remC S i k S[i]? := rfl
theorem au_newN (σ : Env) (S : Store) : mNewN σ S = .ok (.rows S.length 0 [], S ++ [.nst 0 []]) := rfl
noncomputable def appNB (x : Nat) (σ : Env) (d y : D) (S1 : Store) : R (Fl × Env × Store) := match d, y with
  | .rows i n rs, .ref j => when_ (stand [(i, .nst n rs)] S1 && decide (rs.length < Line)) (.ok (.nx, σ.set x (some (.rows i (n + 1) (rs ++ [j]))), S1.set i (.nst (n + 1) (rs ++ [j]))))
  | _, _ => .no
noncomputable def appNA (x : Nat) (fe : Ex) (σ : Env) (d : D) (S0 : Store) : R (Fl × Env × Store) := bd (fe σ S0) (appNB x σ d)
theorem au_AppN (x : Nat) (fe : Ex) (σ : Env) (S : Store) : sAppN x fe σ S = bd (mV x σ S) (appNA x fe σ) := rfl
theorem au_appNA (x : Nat) (fe : Ex) (σ : Env) (d : D) (S : Store) : appNA x fe σ d S = bd (fe σ S) (appNB x σ d) := rfl
def au7 := And.intro @au_rows <| And.intro @au_Row <| And.intro @au_rowA <| And.intro @au_rowB <| And.intro @au_CompN <| And.intro @au_compNK <| And.intro @au_Rem <| And.intro @au_remA <| And.intro @au_remB <| And.intro @au_newN <| And.intro @au_AppN @au_appNA
end Mi
end
section
namespace Mi
open PySem Mi Mi.L 
local macro_rules | `(tactic| wp_walk using $[$ts:term],*) => `(tactic| simp (disch := first | with_reducible assumption | omega | (simp only [List.length_set, List.length_append, List.length_cons, List.length_nil, List.length_map, List.length_range, List.length_replicate, Line]; omega) | (simp only [List.length_set, List.length_append, List.length_cons, List.length_nil, List.length_map, List.length_range, List.length_replicate]; done) | fail) only [au0, au1, au2, au3, au4, au5, au6, List.getElem?_map, dI, dT, List.getElem?_cons_zero, List.getElem?_cons_succ, List.set_cons_zero, List.set_cons_succ, List.map_cons, List.map_nil, List.length_cons, List.length_nil, List.cons_append, List.nil_append, List.append_nil, List.append_assoc, List.reduceReplicate, List.length_set, List.set_set, List.length_append, List.length_map, List.length_range, List.length_replicate, decide_true, decide_false, decide_eq_true_eq, Bool.not_eq_true', decide_eq_false_iff_not, Bool.true_and, Bool.false_and, Bool.not_true, Bool.not_false, Bool.false_eq_true, if_true, if_false, Int.toNat_natCast, Int.reduceToNat, Int.reducePow, Int.reduceMul, Int.reduceAdd, Int.reduceSub, Int.reduceNeg, Int.reduceLT, Int.reduceLE, Nat.sub_self, Nat.add_sub_cancel_left, Nat.reduceAdd, Nat.reduceSub, Nat.reduceLT, Nat.reduceLeDiff, Int.cast_ofNat_Int, true_or, or_true, true_and, and_true, $[$ts:term],*])
def Pot (b : Nat) (S : Store) (i : Nat) : Prop := PotAt b S i
theorem Pot.lt {b : Nat} {S : Store} {i : Nat} (h : Pot b S i) : i < S.length := PotAt.lt h
end Mi
end
section
namespace Mi.L
open PySem Mi
noncomputable section
end
end Mi.L
end
section
namespace Mi
def runF (x : Nat) : List Nat → Nat
  | [] => x
  | c :: cs => runF (x + c - 1) cs
def trajF (x : Nat) : List Nat → List Nat
  | [] => []
  | c :: cs => (x + c - 1) :: trajF (x + c - 1) cs
theorem trajF_len (x : Nat) (cs : List Nat) : (trajF x cs).length = cs.length := by
  induction cs generalizing x with
  | nil => rfl
  | cons c cs ih => simp [trajF, ih]
theorem runF_max (x : Nat) (cs : List Nat) : runF x cs = max (runF 0 cs) (x + cs.sum - cs.length) := by
  induction cs generalizing x with
  | nil => simp [runF]
  | cons c cs ih =>
    have h1 := ih (x + c - 1)
    have h2 := ih (0 + c - 1)
    show runF (x + c - 1) cs = max (runF (0 + c - 1) cs) _
    rw [h1, h2, List.sum_cons, List.length_cons]
    omega
theorem runF_mono {x y : Nat} (h : x ≤ y) (cs : List Nat) : runF x cs ≤ runF y cs := by
  rw [runF_max x, runF_max y]
  omega
theorem runF_app (x : Nat) (as bs : List Nat) : runF x (as ++ bs) = runF (runF x as) bs := by
  induction as generalizing x with
  | nil => rfl
  | cons a as ih => exact ih _
def lastF (cs : List Nat) : Nat := runF 0 cs
def flF (cs : List Nat) : List Nat := trajF (lastF cs) cs
theorem lastF_fix {cs : List Nat} (h : cs.sum ≤ cs.length) : runF (lastF cs) cs = lastF cs := by
  rw [runF_max]
  show max (lastF cs) _ = _
  omega
theorem trajF_at (x : Nat) (cs : List Nat) (i : Nat) (h : i < cs.length) : (trajF x cs).getD i 0 = runF x (cs.take (i + 1)) := by
  induction cs generalizing x i with
  | nil => simp at h
  | cons c cs ih =>
    cases i with
    | zero => rfl
    | succ i =>
      have h : i < cs.length := by simpa using h
      show (trajF (x + c - 1) cs).getD i 0 = runF (x + c - 1) (cs.take (i + 1))
      exact ih _ i h
theorem runF_step (x : Nat) (cs : List Nat) (i : Nat) (h : i < cs.length) : runF x (cs.take (i + 1)) = runF x (cs.take i) + cs.getD i 0 - 1 := by
  rw [List.take_add_one, runF_app]
  have e : cs.getD i 0 = cs[i] := by simp [List.getD_eq_getElem?_getD, List.getElem?_eq_getElem h]
  rw [e, List.getElem?_eq_getElem h]
  rfl
def prv (n i : Nat) : Nat := if i = 0 then n - 1 else i - 1
theorem prv_lt {n i : Nat} (h : i < n) : prv n i < n := by
  unfold prv
  split <;> omega
theorem flF_len (cs : List Nat) : (flF cs).length = cs.length := trajF_len _ _
theorem flF_ring {cs : List Nat} (h : cs.sum ≤ cs.length) {i : Nat} (hi : i < cs.length) : (flF cs).getD i 0 = (flF cs).getD (prv cs.length i) 0 + cs.getD i 0 - 1 := by
  unfold flF
  rw [trajF_at _ _ _ hi, runF_step _ _ _ hi, trajF_at _ _ _ (prv_lt hi)]
  congr 2
  unfold prv
  split
  · rename_i e
    subst e
    rw [show cs.length - 1 + 1 = cs.length by omega, List.take_length, lastF_fix h]
    rfl
  · rw [show i - 1 + 1 = i by omega]
theorem flF_unique {cs g : List Nat} (h : cs.sum ≤ cs.length) (hg : g.length = cs.length) (hr : ∀ i, i < cs.length → g.getD i 0 = g.getD (prv cs.length i) 0 + cs.getD i 0 - 1) (hz : ∃ i, i < cs.length ∧ g.getD i 0 = 0) : g = flF cs := by
  obtain ⟨z, hz1, hz2⟩ := hz
  have key : ∀ i, i ≤ cs.length → i ≠ 0 → g.getD (i - 1) 0 = runF (g.getD (cs.length - 1) 0) (cs.take i) := by
    intro i
    induction i with
    | zero => intro _ h; exact absurd rfl h
    | succ i ih =>
      intro hi _
      rw [Nat.add_sub_cancel, hr i (by omega), runF_step _ _ _ (by omega)]
      unfold prv
      split
      · rename_i e
        subst e
        rfl
      · rename_i e
        rw [ih (by omega) e]
  have hlast : runF (g.getD (cs.length - 1) 0) cs = g.getD (cs.length - 1) 0 := by
    have := key cs.length (Nat.le_refl _) (by omega)
    rw [List.take_length] at this
    exact this.symm
  have hle : lastF cs ≤ g.getD (cs.length - 1) 0 := by
    rw [← hlast]
    exact runF_mono (Nat.zero_le _) cs
  have hx : lastF cs = g.getD (cs.length - 1) 0 := by
    have h1 : runF (g.getD (cs.length - 1) 0) (cs.take (z + 1)) = 0 := by
      rw [← key (z + 1) (by omega) (by omega)]
      exact hz2
    have h2 : runF (lastF cs) (cs.take (z + 1)) = 0 := by
      have := runF_mono hle (cs.take (z + 1))
      omega
    have e := List.take_append_drop (z + 1) cs
    rw [← lastF_fix h, ← hlast, ← e, runF_app, runF_app, e]
    rw [h1, h2]
  apply List.ext_getElem?
  intro i
  by_cases hi : i < cs.length
  · have h3 := key (i + 1) (by omega) (by omega)
    rw [Nat.add_sub_cancel, ← hx, ← trajF_at _ _ _ hi] at h3
    have h4 : i < g.length := by omega
    have h5 : i < (flF cs).length := by rw [flF_len]; exact hi
    show g[i]? = (flF cs)[i]?
    change g.getD i 0 = (flF cs).getD i 0 at h3
    rw [List.getD_eq_getElem?_getD, List.getD_eq_getElem?_getD, List.getElem?_eq_getElem h4, List.getElem?_eq_getElem h5] at h3
    rw [List.getElem?_eq_getElem h4, List.getElem?_eq_getElem h5]
    exact congrArg some h3
  · rw [List.getElem?_eq_none (by omega), List.getElem?_eq_none (by rw [flF_len]; omega)]
def dst (n a i : Nat) : Nat := if a ≤ i then i - a else i + n - a
theorem sum_set (cs : List Nat) (a : Nat) (h : a < cs.length) : (cs.set a (cs.getD a 0 + 1)).sum = cs.sum + 1 := by
  induction cs generalizing a with
  | nil => simp at h
  | cons c cs ih =>
    cases a with
    | zero =>
      show ((c + 1) :: cs).sum = _
      simp only [List.sum_cons]
      omega
    | succ a =>
      have := ih a (by simpa using h)
      show (c :: cs.set a (cs.getD a 0 + 1)).sum = _
      simp only [List.sum_cons, this]
      omega
theorem set_getD (cs : List Nat) (a v i : Nat) (h : i < cs.length) : (cs.set a v).getD i 0 = if i = a then v else cs.getD i 0 := by
  rw [List.getD_eq_getElem?_getD, List.getElem?_set]
  by_cases e : a = i
  · subst e
    simp [h]
  · rw [if_neg e, if_neg (fun h => e h.symm), List.getD_eq_getElem?_getD]
theorem range_getD (f : Nat → Nat) (n i : Nat) (h : i < n) : ((List.range n).map f).getD i 0 = f i := by
  simp [List.getD_eq_getElem?_getD, List.getElem?_range h]
theorem oneMore {cs : List Nat} {a t : Nat} (h : cs.sum < cs.length) (ha : a < cs.length) (ht : t < cs.length)
    (tk : ∀ i, i < cs.length → dst cs.length a i < t → 0 < (flF cs).getD (prv cs.length i) 0 + cs.getD i 0)
    (fr : ∀ i, i < cs.length → dst cs.length a i = t → (flF cs).getD (prv cs.length i) 0 + cs.getD i 0 = 0) :
    (List.range cs.length).map (fun i => (flF cs).getD i 0 + if dst cs.length a i < t then 1 else 0) = flF (cs.set a (cs.getD a 0 + 1)) := by
  refine flF_unique (by rw [sum_set _ _ ha, List.length_set]; omega) (by simp) (fun i hi => ?_) ?_
  · rw [List.length_set] at hi ⊢
    rw [range_getD _ _ _ hi, range_getD _ _ _ (prv_lt hi), set_getD _ _ _ _ hi]
    have r := flF_ring (cs := cs) (by omega) hi
    have h1 := tk i hi
    have h2 := fr i hi
    rw [r]
    generalize (flF cs).getD (prv cs.length i) 0 = f at *
    have hp : dst cs.length a (prv cs.length i) = if i = a then cs.length - 1 else dst cs.length a i - 1 := by
      unfold dst prv
      split <;> split <;> (try split) <;> (try split) <;> omega
    rw [hp]
    have hd : i = a ↔ dst cs.length a i = 0 := by
      unfold dst
      split <;> omega
    generalize dst cs.length a i = d at *
    by_cases e : i = a
    · subst e
      have hd : d = 0 := hd.mp rfl
      subst hd
      simp only [if_pos]
      rw [if_neg (show ¬ cs.length - 1 < t by omega)]
      by_cases h0 : 0 < t
      · have := h1 h0
        rw [if_pos h0]
        omega
      · have := h2 (by omega)
        rw [if_neg h0]
        omega
    · have hd : d ≠ 0 := fun h => e (hd.mpr h)
      simp only [if_neg e]
      by_cases h0 : d < t
      · have := h1 h0
        rw [if_pos h0, if_pos (by omega)]
        omega
      · by_cases h3 : d = t
        · have := h2 h3
          rw [if_neg h0, if_pos (by omega)]
          omega
        · rw [if_neg h0, if_neg (by omega)]
          omega
  · rw [List.length_set]
    have hz : ∃ i, i < cs.length ∧ dst cs.length a i = t := by
      by_cases e : a + t < cs.length
      · exact ⟨a + t, e, by unfold dst; split <;> omega⟩
      · exact ⟨a + t - cs.length, by omega, by unfold dst; split <;> omega⟩
    obtain ⟨i, hi, e⟩ := hz
    refine ⟨i, hi, ?_⟩
    rw [range_getD _ _ _ hi, flF_ring (by omega) hi, fr i hi e, e, if_neg (by omega)]
def isTk (cs : List Nat) (i : Nat) : Bool := decide (0 < (flF cs).getD (prv cs.length i) 0 + cs.getD i 0)
theorem oneMore_tk {cs : List Nat} {a t : Nat} (h : cs.sum < cs.length) (ha : a < cs.length) (ht : t < cs.length)
    (tk : ∀ i, i < cs.length → dst cs.length a i < t → 0 < (flF cs).getD (prv cs.length i) 0 + cs.getD i 0)
    (fr : ∀ i, i < cs.length → dst cs.length a i = t → (flF cs).getD (prv cs.length i) 0 + cs.getD i 0 = 0) {i : Nat} (hi : i < cs.length) :
    isTk (cs.set a (cs.getD a 0 + 1)) i = (isTk cs i || decide (dst cs.length a i = t)) := by
  unfold isTk
  rw [← oneMore h ha ht tk fr, List.length_set, range_getD _ _ _ (prv_lt hi), set_getD _ _ _ _ hi]
  have h1 := tk i hi
  have h2 := fr i hi
  generalize (flF cs).getD (prv cs.length i) 0 = f at *
  have hp : dst cs.length a (prv cs.length i) = if i = a then cs.length - 1 else dst cs.length a i - 1 := by
    unfold dst prv
    split <;> split <;> (try split) <;> (try split) <;> omega
  rw [hp]
  have hd : i = a ↔ dst cs.length a i = 0 := by
    unfold dst
    split <;> omega
  generalize dst cs.length a i = d at *
  rw [Bool.eq_iff_iff]
  simp only [decide_eq_true_eq, Bool.or_eq_true]
  by_cases e : i = a
  · subst e
    have hd : d = 0 := hd.mp rfl
    subst hd
    simp only [if_pos]
    rw [if_neg (show ¬ cs.length - 1 < t by omega)]
    by_cases h0 : 0 < t
    · have := h1 h0
      omega
    · omega
  · have hd : d ≠ 0 := fun h => e (hd.mpr h)
    simp only [if_neg e]
    by_cases h0 : d < t
    · have := h1 h0
      rw [if_pos (by omega)]
      omega
    · by_cases h3 : d = t
      · rw [if_pos (by omega)]
        omega
      · rw [if_neg (by omega)]
        omega
end Mi
end
section
namespace Mi
open PySem
noncomputable section
end
theorem dT_ints (cs : List Nat) : ints? (cs.map dI) = some (cs.map fun (c : Nat) => (c : Int)) := by
  have : cs.map dI = (cs.map fun (c : Nat) => (c : Int)).map .int := by
    rw [List.map_map]
    rfl
  rw [this, ints_map]
end Mi
end
section
namespace Mi
open PySem
end Mi
end
section
namespace Mi
open PySem
noncomputable section
end
end Mi
end
section
namespace Mi
def ex : List (Nat × Nat) → List Nat
  | [] => []
  | (s, c) :: r => List.replicate s c ++ ex r
theorem runF_rep (x s c : Nat) : runF x (List.replicate s c) = if c = 0 then x - s else x + s * (c - 1) := by
  induction s generalizing x with
  | zero => simp [runF]
  | succ s ih =>
    rw [List.replicate_succ]
    show runF (x + c - 1) (List.replicate s c) = _
    rw [ih]
    split
    · omega
    · rw [Nat.succ_mul]
      omega
theorem runF_zeros (x r : Nat) : runF x (List.replicate r 0) = x - r := by
  rw [runF_rep, if_pos rfl]
theorem trajF_zeros (r : Nat) : trajF 0 (List.replicate r 0) = List.replicate r 0 := by
  induction r with
  | zero => rfl
  | succ r ih =>
    rw [List.replicate_succ]
    show (0 + 0 - 1) :: trajF (0 + 0 - 1) (List.replicate r 0) = _
    rw [show 0 + 0 - 1 = 0 from rfl, ih]
end Mi
end
section
namespace Mi
open PySem Mi.L
local macro_rules | `(tactic| wp_walk using $[$ts:term],*) => `(tactic| simp (disch := first | with_reducible assumption | omega | (simp only [List.length_set, List.length_append, List.length_cons, List.length_nil, List.length_map, List.length_range, List.length_replicate, Line]; omega) | (simp only [List.length_set, List.length_append, List.length_cons, List.length_nil, List.length_map, List.length_range, List.length_replicate]; done) | fail) only [au0, au1, au2, au3, au4, au5, au6, List.getElem?_map, dI, dT, List.getElem?_cons_zero, List.getElem?_cons_succ, List.set_cons_zero, List.set_cons_succ, List.map_cons, List.map_nil, List.length_cons, List.length_nil, List.cons_append, List.nil_append, List.append_assoc, List.reduceReplicate, List.length_set, List.length_append, List.length_map, List.length_range, List.length_replicate, decide_true, decide_false, decide_eq_true_eq, Bool.not_eq_true', decide_eq_false_iff_not, Bool.true_and, Bool.false_and, Bool.not_true, Bool.not_false, if_true, if_false, Int.toNat_natCast, Int.reduceToNat, Nat.sub_self, Nat.add_sub_cancel_left, Nat.reduceAdd, Nat.reduceSub, Nat.reduceLT, Nat.reduceLeDiff, Int.cast_ofNat_Int, true_or, or_true, true_and, and_true, $[$ts:term],*])
structure Runs (r : List (Nat × Nat)) : Prop where
  pos : ∀ p ∈ r, 1 ≤ p.1
  ful : (ex r).sum ≤ (ex r).length
  few : (ex r).length < 2 ^ 100
  len : r.length ≤ 10000
theorem mem_ex {r : List (Nat × Nat)} {p : Nat × Nat} (h : p ∈ r) : p.1 ≤ (ex r).length ∧ p.1 * p.2 ≤ (ex r).sum := by
  induction r with
  | nil => cases h
  | cons q r ih =>
    obtain ⟨s, c⟩ := q
    rw [ex, List.length_append, List.length_replicate, List.sum_append, List.sum_replicate_nat]
    rcases List.mem_cons.mp h with rfl | h
    · simp
    · have := ih h
      omega
theorem Runs.bd {r : List (Nat × Nat)} (h : Runs r) {p : Nat × Nat} (hp : p ∈ r) : p.1 < 2 ^ 100 ∧ p.2 < 2 ^ 100 := by
  have h1 := mem_ex hp
  have h2 := h.few
  have h3 := h.ful
  have h4 := h.pos p hp
  have h5 : 1 * p.2 ≤ p.1 * p.2 := Nat.mul_le_mul_right _ h4
  omega
end Mi
end
section
namespace Mi
open PySem Mi Mi.L 
local macro_rules | `(tactic| wp_walk using $[$ts:term],*) => `(tactic| simp (disch := first | with_reducible assumption | omega | (simp only [List.length_set, List.length_append, List.length_cons, List.length_nil, List.length_map, List.length_range, List.length_replicate, Line]; omega) | (simp only [List.length_set, List.length_append, List.length_cons, List.length_nil, List.length_map, List.length_range, List.length_replicate]; done) | fail) only [au0, au1, au2, au3, au4, au5, au6, List.getElem?_map, dI, dT, List.getElem?_cons_zero, List.getElem?_cons_succ, List.set_cons_zero, List.set_cons_succ, List.map_cons, List.map_nil, List.length_cons, List.length_nil, List.cons_append, List.nil_append, List.append_nil, List.append_assoc, List.reduceReplicate, List.length_set, List.set_set, List.length_append, List.length_map, List.length_range, List.length_replicate, decide_true, decide_false, decide_eq_true_eq, Bool.not_eq_true', decide_eq_false_iff_not, Bool.true_and, Bool.false_and, Bool.not_true, Bool.not_false, Bool.false_eq_true, if_true, if_false, Int.toNat_natCast, Int.reduceToNat, Int.reducePow, Int.reduceMul, Int.reduceAdd, Int.reduceSub, Int.reduceNeg, Int.reduceLT, Int.reduceLE, Nat.sub_self, Nat.add_sub_cancel_left, Nat.reduceAdd, Nat.reduceSub, Nat.reduceLT, Nat.reduceLeDiff, Int.cast_ofNat_Int, true_or, or_true, true_and, and_true, $[$ts:term],*])
theorem ne_same {d : PyData} (h : Fl1 d) : pNe d d = .ok (.bool false) := by
  unfold pNe flat?
  have := h.2
  rw [PySem.SeqAt.eqv_refl_plain d h.1, h.1, decide_eq_true (show d.depth ≤ 1000 by omega)]
  rfl
end Mi
end
section
namespace Mi.L
open PySem Mi
noncomputable section
end
end Mi.L
end
section
namespace Mi
open PySem
noncomputable section
end
end Mi
end
section
namespace Mi
open PySem
theorem dst_mod {n a t : Nat} (ha : a < n) (ht : t < n) : (a + t) % n < n ∧ dst n a ((a + t) % n) = t := by
  have hp : (a + t) % n = if a + t < n then a + t else a + t - n := by
    split
    · exact Nat.mod_eq_of_lt (by omega)
    · rw [Nat.mod_eq_sub_mod (by omega), Nat.mod_eq_of_lt (by omega)]
  rw [hp]
  unfold dst
  split <;> split <;> omega
theorem dst_inj {n a i j : Nat} (ha : a < n) (hi : i < n) (hj : j < n) (h : dst n a i = dst n a j) : i = j := by
  unfold dst at h
  split at h <;> split at h <;> omega
end Mi
end
section
namespace Mi
open PySem Mi Mi.L 
local macro_rules | `(tactic| wp_walk using $[$ts:term],*) => `(tactic| simp (disch := first | with_reducible assumption | omega | (simp only [List.length_set, List.length_append, List.length_cons, List.length_nil, List.length_map, List.length_range, List.length_replicate, Line]; omega) | (simp only [List.length_set, List.length_append, List.length_cons, List.length_nil, List.length_map, List.length_range, List.length_replicate]; done) | fail) only [au0, au1, au2, au3, au4, au5, au6, List.getElem?_map, dI, dT, List.getElem?_cons_zero, List.getElem?_cons_succ, List.set_cons_zero, List.set_cons_succ, List.map_cons, List.map_nil, List.length_cons, List.length_nil, List.cons_append, List.nil_append, List.append_nil, List.append_assoc, List.reduceReplicate, List.length_set, List.set_set, List.length_append, List.length_map, List.length_range, List.length_replicate, decide_true, decide_false, decide_eq_true_eq, Bool.not_eq_true', decide_eq_false_iff_not, Bool.true_and, Bool.false_and, Bool.not_true, Bool.not_false, Bool.false_eq_true, if_true, if_false, Int.toNat_natCast, Int.reduceToNat, Int.reducePow, Int.reduceMul, Int.reduceAdd, Int.reduceSub, Int.reduceNeg, Int.reduceLT, Int.reduceLE, Nat.sub_self, Nat.add_sub_cancel_left, Nat.reduceAdd, Nat.reduceSub, Nat.reduceLT, Nat.reduceLeDiff, Int.cast_ofNat_Int, true_or, or_true, true_and, and_true, $[$ts:term],*])
theorem fl_zeros (n : Nat) : flF (List.replicate n 0) = List.replicate n 0 := by
  have e : lastF (List.replicate n 0) = 0 := by
    unfold lastF
    rw [runF_zeros]
    omega
  unfold flF
  rw [e, trajF_zeros]
theorem nodup_len {ks : List Nat} {n : Nat} (h : ks.Nodup) (hk : ∀ x ∈ ks, x < n) : ks.length ≤ n := by
  have p : ks.Perm ((List.range n).filter fun x => decide (x ∈ ks)) := (List.perm_ext_iff_of_nodup h (List.nodup_range.filter _)).mpr fun x => by
    rw [List.mem_filter, List.mem_range, decide_eq_true_eq]
    exact ⟨fun hx => ⟨hk x hx, hx⟩, fun hx => hx.2⟩
  have := List.length_filter_le (fun x => decide (x ∈ ks)) (List.range n)
  rw [List.length_range] at this
  rw [p.length_eq]
  exact this
structure Tkn (ks cs : List Nat) : Prop where
  nd : ks.Nodup
  mem : ∀ x, x ∈ ks ↔ x < cs.length ∧ isTk cs x = true
theorem Tkn.zero (n : Nat) : Tkn [] (List.replicate n 0) := by
  refine ⟨List.nodup_nil, fun x => ⟨fun h => (by cases h), fun ⟨hx, h⟩ => ?_⟩⟩
  unfold isTk at h
  rw [fl_zeros] at h
  have := of_decide_eq_true h
  simp [List.getD_eq_getElem?_getD, List.getElem?_replicate] at this
  split at this <;> split at this <;> simp at this
structure Free (cs : List Nat) (w t : Nat) : Prop where
  lt : t < cs.length
  tk : ∀ j, j < t → isTk cs ((w + j) % cs.length) = true
  fr : isTk cs ((w + t) % cs.length) = false
theorem Free.a {cs : List Nat} {w t : Nat} (h : Free cs w t) (hw : w < cs.length) : ∀ i, i < cs.length → dst cs.length w i < t → 0 < (flF cs).getD (prv cs.length i) 0 + cs.getD i 0 := fun i hi hd => by
  have := h.tk _ hd
  rw [dst_inj hw (dst_mod hw (by have := h.lt; omega)).1 hi (dst_mod hw (by have := h.lt; omega)).2] at this
  exact of_decide_eq_true this
theorem Free.b {cs : List Nat} {w t : Nat} (h : Free cs w t) (hw : w < cs.length) : ∀ i, i < cs.length → dst cs.length w i = t → (flF cs).getD (prv cs.length i) 0 + cs.getD i 0 = 0 := fun i hi hd => by
  have := h.fr
  rw [dst_inj hw (dst_mod hw h.lt).1 hi ((dst_mod hw h.lt).2.trans hd.symm)] at this
  have := of_decide_eq_false this
  omega
theorem Tkn.more {ks cs : List Nat} {w t : Nat} (h : Tkn ks cs) (hs : cs.sum < cs.length) (hw : w < cs.length) (f : Free cs w t) : Tkn (ks ++ [(w + t) % cs.length]) (cs.set w (cs.getD w 0 + 1)) ∧ (w + t) % cs.length ∉ ks := by
  obtain ⟨p1, p2⟩ := dst_mod hw f.lt
  have hn : (w + t) % cs.length ∉ ks := fun hm => by
    have := (h.mem _).mp hm
    rw [f.fr] at this
    exact absurd this.2 (by simp)
  refine ⟨⟨?_, fun x => ?_⟩, hn⟩
  · rw [List.nodup_append]
    refine ⟨h.nd, by simp, fun a ha b hb => ?_⟩
    have := List.mem_singleton.mp hb
    subst this
    exact fun e => hn (e ▸ ha)
  · rw [List.mem_append, List.mem_singleton, h.mem, List.length_set]
    constructor
    · rintro (⟨h1, h2⟩ | rfl)
      · refine ⟨h1, ?_⟩
        rw [oneMore_tk hs hw f.lt (f.a hw) (f.b hw) h1, h2]
        rfl
      · refine ⟨p1, ?_⟩
        rw [oneMore_tk hs hw f.lt (f.a hw) (f.b hw) p1, p2]
        simp
    · rintro ⟨h1, h2⟩
      rw [oneMore_tk hs hw f.lt (f.a hw) (f.b hw) h1] at h2
      rcases Bool.or_eq_true_iff.mp h2 with h2 | h2
      · exact .inl ⟨h1, h2⟩
      · exact .inr (dst_inj hw h1 p1 ((of_decide_eq_true h2).trans p2.symm))
end Mi
end
section
namespace Mi
open PySem Mi Mi.L 
local macro_rules | `(tactic| wp_walk using $[$ts:term],*) => `(tactic| simp (disch := first | with_reducible assumption | omega | (simp only [List.length_set, List.length_append, List.length_cons, List.length_nil, List.length_map, List.length_range, List.length_replicate, Line]; omega) | (simp only [List.length_set, List.length_append, List.length_cons, List.length_nil, List.length_map, List.length_range, List.length_replicate]; done) | fail) only [au0, au1, au2, au3, au4, au5, au6, List.getElem?_map, dI, dT, List.getElem?_cons_zero, List.getElem?_cons_succ, List.set_cons_zero, List.set_cons_succ, List.map_cons, List.map_nil, List.length_cons, List.length_nil, List.cons_append, List.nil_append, List.append_nil, List.append_assoc, List.reduceReplicate, List.length_set, List.set_set, List.length_append, List.length_map, List.length_range, List.length_replicate, decide_true, decide_false, decide_eq_true_eq, Bool.not_eq_true', decide_eq_false_iff_not, Bool.true_and, Bool.false_and, Bool.not_true, Bool.not_false, Bool.false_eq_true, if_true, if_false, Int.toNat_natCast, Int.reduceToNat, Int.reducePow, Int.reduceMul, Int.reduceAdd, Int.reduceSub, Int.reduceNeg, Int.reduceLT, Int.reduceLE, Nat.sub_self, Nat.add_sub_cancel_left, Nat.reduceAdd, Nat.reduceSub, Nat.reduceLT, Nat.reduceLeDiff, Int.cast_ofNat_Int, true_or, or_true, true_and, and_true, $[$ts:term],*])
end Mi
end
section
namespace Mi
open PySem Mi Mi.L 
local macro_rules | `(tactic| wp_walk using $[$ts:term],*) => `(tactic| simp (disch := first | with_reducible assumption | omega | (simp only [List.length_set, List.length_append, List.length_cons, List.length_nil, List.length_map, List.length_range, List.length_replicate, Line]; omega) | (simp only [List.length_set, List.length_append, List.length_cons, List.length_nil, List.length_map, List.length_range, List.length_replicate]; done) | fail) only [au0, au1, au2, au3, au4, au5, au6, List.getElem?_map, dI, dT, List.getElem?_cons_zero, List.getElem?_cons_succ, List.set_cons_zero, List.set_cons_succ, List.map_cons, List.map_nil, List.length_cons, List.length_nil, List.cons_append, List.nil_append, List.append_nil, List.append_assoc, List.reduceReplicate, List.length_set, List.set_set, List.length_append, List.length_map, List.length_range, List.length_replicate, decide_true, decide_false, decide_eq_true_eq, Bool.not_eq_true', decide_eq_false_iff_not, Bool.true_and, Bool.false_and, Bool.not_true, Bool.not_false, Bool.false_eq_true, if_true, if_false, Int.toNat_natCast, Int.reduceToNat, Int.reducePow, Int.reduceMul, Int.reduceAdd, Int.reduceSub, Int.reduceNeg, Int.reduceLT, Int.reduceLE, Nat.sub_self, Nat.add_sub_cancel_left, Nat.reduceAdd, Nat.reduceSub, Nat.reduceLT, Nat.reduceLeDiff, Int.cast_ofNat_Int, true_or, or_true, true_and, and_true, $[$ts:term],*])
theorem sort_eq {ks ts : List Nat} (hn : ks.Nodup) (ht : ts.Pairwise (· < ·)) (h : ∀ x, x ∈ ks ↔ x ∈ ts) : sortN ks = ts := by
  refine asc_eq ?_ ht fun x => by rw [sortN_mem, h]
  have h1 := sortN_sorted ks
  have h2 : (sortN ks).Nodup := (sortN_perm ks).nodup_iff.mpr hn
  exact (h1.and h2).imp fun {a b} ⟨p, q⟩ => by omega
inductive FC : List Nat → List Nat → Prop
  | nil (n : Nat) : FC (List.replicate n 0) []
  | step {cs far : List Nat} {w t : Nat} : FC cs far → cs.sum < cs.length → w < cs.length → Free cs w t → FC (cs.set w (cs.getD w 0 + 1)) (far ++ [t])
theorem Nice.mono {d : PyData} {dp B dp' B' : Nat} (h : Nice d dp B) (h1 : dp ≤ dp') (h2 : B ≤ B') : Nice d dp' B' := ⟨h.sh, h.hd, h.pl, Nat.le_trans h.dp h1, Nat.le_trans h.sz h2⟩
end Mi
end
section
namespace Mi
open PySem Mi Mi.L 
local macro_rules | `(tactic| wp_walk using $[$ts:term],*) => `(tactic| simp (disch := first | with_reducible assumption | omega | (simp only [List.length_set, List.length_append, List.length_cons, List.length_nil, List.length_map, List.length_range, List.length_replicate, Line]; omega) | (simp only [List.length_set, List.length_append, List.length_cons, List.length_nil, List.length_map, List.length_range, List.length_replicate]; done) | fail) only [au0, au1, au2, au3, au4, au5, au6, List.getElem?_map, dI, dT, List.getElem?_cons_zero, List.getElem?_cons_succ, List.set_cons_zero, List.set_cons_succ, List.map_cons, List.map_nil, List.length_cons, List.length_nil, List.cons_append, List.nil_append, List.append_nil, List.append_assoc, List.reduceReplicate, List.length_set, List.set_set, List.length_append, List.length_map, List.length_range, List.length_replicate, decide_true, decide_false, decide_eq_true_eq, Bool.not_eq_true', decide_eq_false_iff_not, Bool.true_and, Bool.false_and, Bool.not_true, Bool.not_false, Bool.false_eq_true, if_true, if_false, Int.toNat_natCast, Int.reduceToNat, Int.reducePow, Int.reduceMul, Int.reduceAdd, Int.reduceSub, Int.reduceNeg, Int.reduceLT, Int.reduceLE, Nat.sub_self, Nat.add_sub_cancel_left, Nat.reduceAdd, Nat.reduceSub, Nat.reduceLT, Nat.reduceLeDiff, Int.cast_ofNat_Int, true_or, or_true, true_and, and_true, $[$ts:term],*])
theorem while_ret {body : Sm} (I : Nat → Env → Store → Prop) {Q : Fl × Env × Store → Prop} (hb : ∀ m σ S, I m σ S → Rn (body σ S) fun q => ((q.1 = .nx ∨ q.1 = .ct) ∧ ∃ m', m' < m ∧ I m' q.2.1 q.2.2) ∨ (∃ d, q.1 = .rt d ∧ Q q)) :
    ∀ (n m : Nat) (σ : Env) (S : Store), m < n → I m σ S → Rn (whileF (tE (mC (.bool true))) body n σ S) Q
  | 0, m, σ, S, h, _ => by omega
  | n + 1, m, σ, S, h, hi => by
    have e : whileF (tE (mC (.bool true))) body (n + 1) σ S = bs (body σ S) fun f σ2 S2 => match f with
      | .nx => whileF (tE (mC (.bool true))) body n σ2 S2
      | .ct => whileF (tE (mC (.bool true))) body n σ2 S2
      | .bk => .ok (.nx, σ2, S2)
      | .rt d => .ok (.rt d, σ2, S2) := rfl
    rw [e]
    obtain ⟨⟨f, σ2, S2⟩, e1, h1⟩ := (hb m σ S hi).ex
    rw [bs_of e1]
    rcases h1 with ⟨hf, m', hm, h2⟩ | ⟨d, hf, h2⟩
    · have := while_ret I hb n m' σ2 S2 (by omega) h2
      rcases hf with hf | hf
      · have hf : f = .nx := hf
        subst hf
        exact this
      · have hf : f = .ct := hf
        subst hf
        exact this
    · have hf : f = .rt d := hf
      subst hf
      exact h2
abbrev Row := List (Option Nat)
def dO : Option Nat → PyData
  | none => .int (-1)
  | some k => .int k
def dPr (p : Nat × Nat) : PyData := .tuple [.int p.1, .int p.2]
def dRule (T : List (List (List Nat))) : PyData := .tuple (T.map fun t => .tuple (t.map dT))
def insF (P : List (List Nat)) (T : List (List (List Nat))) : Nat → Nat → Nat → Row → List (Nat × Nat) → Option (Row × List (Nat × Nat))
  | 0, _, _, _, _ => none
  | f + 1, a, i, row, path =>
    if a < P.length ∧ i < P[a]!.length ∧ P[a]![i]! < row.length ∧ P[a]![i]! < T.length ∧ a < T[P[a]![i]!]!.length then
      match row[P[a]![i]!]! with
      | none => some (row.set P[a]![i]! (some a), path ++ [(a, P[a]![i]!)])
      | some h => if h ∈ T[P[a]![i]!]![a]! then (if h < P.length ∧ P[a]![i]! ∈ P[h]! then insF P T f h (P[h]!.idxOf P[a]![i]! + 1) (row.set P[a]![i]! (some a)) (path ++ [(a, P[a]![i]!)]) else none)
        else insF P T f a (i + 1) row path
    else none
theorem eqv_dO (x : Option Nat) (k : Nat) : PyData.eqv (dO x) (.int k) = decide (x = some k) := by
  cases x with
  | none =>
    have : ¬ ((-1 : Int) = (k : Int)) := by omega
    simp [dO, PyData.eqv, this]
  | some y =>
    have := eqv_nat y k
    unfold dO
    rw [show PyData.eqv (.int (y : Int)) (.int k) = decide (y = k) from this]
    simp
theorem eqv_dO1 (x : Option Nat) : PyData.eqv (dO x) (.int (-1)) = decide (x = none) := by
  cases x with
  | none => simp [dO, PyData.eqv]
  | some y =>
    have : ¬ ((y : Int) = -1) := by omega
    simp [dO, PyData.eqv, this]
theorem fl_dO (x : Option Nat) : Fl1 (dO x) := by
  cases x <;> exact ⟨rfl, by unfold dO; rw [PyData.depth]; omega⟩
theorem flat_row (row : Row) : flat? (.tuple (row.map dO)) = true := flat_t fun x hx => by
  obtain ⟨n, _, rfl⟩ := List.mem_map.mp hx
  exact fl_dO n
theorem pIn_row (k : Nat) (row : Row) : pIn (.int k) (.tuple (row.map dO)) = .ok (.bool (decide (some k ∈ row))) := by
  show when_ (flat? (.int k) && flat? (.tuple (row.map dO))) _ = _
  rw [flat_int, flat_row]
  have : inItems (.int k) (row.map dO) = decide (some k ∈ row) := by
    unfold inItems
    induction row with
    | nil => rfl
    | cons y row ih =>
      rw [List.map_cons, List.any_cons, ih, eqv_dO]
      by_cases h : y = some k
      · subst h; simp
      · simp [h, Ne.symm h]
  rw [this]
  rfl
theorem pNotIn_row (row : Row) (h : none ∈ row) : pNotIn (.int (-1)) (.tuple (row.map dO)) = .ok (.bool false) := by
  have : inItems (.int (-1)) (row.map dO) = decide (none ∈ row) := by
    unfold inItems
    induction row with
    | nil => rfl
    | cons y row ih =>
      rw [List.map_cons, List.any_cons, eqv_dO1]
      by_cases h : y = none
      · subst h; simp
      · have h2 : none ∈ row := by
          rcases List.mem_cons.mp ‹none ∈ y :: row› with h3 | h3
          · exact absurd h3.symm h
          · exact h3
        rw [ih h2]
        simp [h, Ne.symm h]
  show when_ (flat? (.int (-1)) && flat? (.tuple (row.map dO))) _ = _
  rw [flat_int, flat_row, this]
  simp [h, when_]
theorem row_at {row : Row} {s : Nat} (h : s < row.length) : (row.map dO)[s]? = some (dO row[s]!) := by
  rw [List.getElem?_map, List.getElem?_eq_getElem h, getElem!_pos row s h]
  rfl
theorem bangT {xs : List (List Nat)} {k : Nat} (h : k < xs.length) : Option.map dT xs[k]? = some (.tuple (xs[k]!.map dI)) := by
  rw [List.getElem?_eq_getElem h, getElem!_pos xs k h]
  rfl
theorem insert_ok {P : List (List Nat)} {T : List (List (List Nat))} {row0 : Row} {a0 f : Nat} {R : Row × List (Nat × Nat)} (h : insF P T f a0 0 row0 [] = some R) (hf : f ≤ 10000) (ha : some a0 ∉ row0) (hn : none ∈ row0) (hl : row0.length ≤ 10000) (S : Store) :
    f_insert [.p (.tuple (P.map dT)), .p (dRule T), .p (.tuple (row0.map dO)), .p (.int a0)] S = .ok (.p (.tuple [.tuple (R.1.map dO), .tuple (R.2.map dPr)]), S) := by
  have q1 := pIn_row a0 row0
  have q2 := pNotIn_row row0 hn
  refine fn_rn rfl ?_
  unfold b_insert dRule
  wp_walk using q1, q2, ha
  refine Rn.mono (Q := fun p => ∃ σ S', p = (.rt (.p (.tuple [.tuple (R.1.map dO), .tuple (R.2.map dPr)])), σ, S ++ S')) (while_ret (fun m σ S' => ∃ (a i : Nat) (row : Row) (path : List (Nat × Nat)) (t8 t9 : Option D), insF P T m a i row path = some R ∧ row.length ≤ 10000 ∧ path.length + m ≤ 10000 ∧ σ = [some (.p (.tuple (P.map dT))), some (.p (.tuple (T.map fun t => .tuple (t.map dT)))), some (.p (.tuple (row0.map dO))), some (.p (.int a0)), some (.ref S.length), some (.ref (S.length + 1)), some (.p (.int a)), some (.p (.int i)), t8, t9] ∧ S' = S ++ [.lst (row.map dO), .lst (path.map dPr)]) ?_ FUEL f _ _ (by unfold FUEL; omega) ?_) ?_
  · rintro m σ S' ⟨a, i, row, path, t8, t9, hm, hl, hp, rfl, rfl⟩
    cases m with
    | zero => cases hm
    | succ m =>
      rw [insF] at hm
      split at hm
      · rename_i hc
        obtain ⟨c1, c2, c3, c4, c5⟩ := hc
        have e1 : (P.map dT)[a]? = some (.tuple (P[a]!.map dI)) := by
          rw [List.getElem?_map, List.getElem?_eq_getElem c1, getElem!_pos P a c1]
          rfl
        have e2 : (P[a]!.map dI)[i]? = some (.int P[a]![i]!) := by
          rw [List.getElem?_map, List.getElem?_eq_getElem c2, getElem!_pos P[a]! i c2]
          rfl
        have e4 : (T.map fun t => PyData.tuple (t.map dT))[P[a]![i]!]? = some (.tuple (T[P[a]![i]!]!.map dT)) := by
          rw [List.getElem?_map, List.getElem?_eq_getElem c4, getElem!_pos T _ c4]
          rfl
        have e5 : (T[P[a]![i]!]!.map dT)[a]? = some (.tuple (T[P[a]![i]!]![a]!.map dI)) := by
          rw [List.getElem?_map, List.getElem?_eq_getElem c5, getElem!_pos T[P[a]![i]!]! a c5]
          rfl
        rw [List.getElem?_map] at e1 e2 e4 e5
        have e3 := row_at c3
        rw [List.getElem?_map] at e3
        generalize P[a]![i]! = s at *
        cases hr : row[s]! with
        | none =>
          rw [hr] at hm e3
          cases hm
          wp_walk using e1, e2, e3, dO
          have x1 : (row.map dO).set s (.int a) = (row.set s (some a)).map dO := by
            rw [List.map_set]
            rfl
          have x2 : path.map dPr ++ [.tuple [.int a, .int s]] = (path ++ [(a, s)]).map dPr := by
            rw [List.map_append]
            rfl
          rw [x1, x2]
          exact .inr ⟨_, rfl, _, _, rfl⟩
        | some h =>
          rw [hr] at hm e3
          dsimp only at hm
          have hne : ¬ ((h : Int) = -1) := by omega
          have q3 : pIn (.int h) (.tuple (T[s]![a]!.map dI)) = .ok (.bool (decide (h ∈ T[s]![a]!))) := pIn_nat h _
          split at hm
          · rename_i hb
            split at hm
            · rename_i hb2
              have e6 := bangT hb2.1
              have e7 : pIndex (.tuple (P[h]!.map dI)) (.int s) = .ok (.int (P[h]!.idxOf s : Nat)) := pIndex_nat hb2.2
              wp_walk using e1, e2, e3, e4, e5, dO, hne, q3, hb, e6, e7
              refine .inl ⟨m, by omega, h, P[h]!.idxOf s + 1, row.set s (some a), path ++ [(a, s)], _, _, hm, by rw [List.length_set]; exact hl, by rw [List.length_append]; simp; omega, rfl, ?_⟩
              rw [List.map_set, List.map_append]
              rfl
            · cases hm
          · rename_i hb
            wp_walk using e1, e2, e3, e4, e5, dO, hne, q3, hb
            exact .inl ⟨m, by omega, a, i + 1, row, path, _, _, hm, hl, by omega, rfl, rfl⟩
      · cases hm
  · exact ⟨a0, 0, row0, [], none, none, h, hl, by simp; omega, rfl, rfl⟩
  · rintro p ⟨σ, S', rfl⟩
    wp_walk using hl
end Mi
end
section
namespace Mi
open PySem Mi Mi.L 
local macro_rules | `(tactic| wp_walk using $[$ts:term],*) => `(tactic| simp (disch := first | with_reducible assumption | omega | (simp only [List.length_set, List.length_append, List.length_cons, List.length_nil, List.length_map, List.length_range, List.length_replicate, Line]; omega) | (simp only [List.length_set, List.length_append, List.length_cons, List.length_nil, List.length_map, List.length_range, List.length_replicate]; done) | fail) only [au0, au1, au2, au3, au4, au5, au6, List.getElem?_map, dI, dT, List.getElem?_cons_zero, List.getElem?_cons_succ, List.set_cons_zero, List.set_cons_succ, List.map_cons, List.map_nil, List.length_cons, List.length_nil, List.cons_append, List.nil_append, List.append_nil, List.append_assoc, List.reduceReplicate, List.length_set, List.set_set, List.length_append, List.length_map, List.length_range, List.length_replicate, decide_true, decide_false, decide_eq_true_eq, Bool.not_eq_true', decide_eq_false_iff_not, Bool.true_and, Bool.false_and, Bool.not_true, Bool.not_false, Bool.false_eq_true, if_true, if_false, Int.toNat_natCast, Int.reduceToNat, Int.reducePow, Int.reduceMul, Int.reduceAdd, Int.reduceSub, Int.reduceNeg, Int.reduceLT, Int.reduceLE, Nat.sub_self, Nat.add_sub_cancel_left, Nat.reduceAdd, Nat.reduceSub, Nat.reduceLT, Nat.reduceLeDiff, Int.cast_ofNat_Int, true_or, or_true, true_and, and_true, $[$ts:term],*])
theorem sum_upd {f f' : Nat → Nat} {s0 : Nat} (h : ∀ s, s ≠ s0 → f' s = f s) : ∀ n, ((List.range n).map f').sum + (if s0 < n then f s0 else 0) = ((List.range n).map f).sum + (if s0 < n then f' s0 else 0)
  | 0 => by simp
  | n + 1 => by
    have ih := sum_upd h n
    rw [List.range_succ, List.map_append, List.map_append, List.sum_append, List.sum_append]
    simp only [List.map_cons, List.map_nil, List.sum_cons, List.sum_nil]
    by_cases e : s0 = n
    · subst e
      rw [if_neg (Nat.lt_irrefl _), if_neg (Nat.lt_irrefl _)] at ih
      rw [if_pos (Nat.lt_succ_self _), if_pos (Nat.lt_succ_self _)]
      omega
    · rw [h n (fun z => e z.symm)]
      by_cases e2 : s0 < n
      · rw [if_pos e2, if_pos e2] at ih
        rw [if_pos (by omega), if_pos (by omega)]
        omega
      · rw [if_neg e2, if_neg e2] at ih
        rw [if_neg (by omega), if_neg (by omega)]
        omega
structure Probes (n : Nat) (P : List (List Nat)) : Prop where
  perm : ∀ k, k < P.length → P[k]!.Perm (List.range n)
structure Tabs (n m : Nat) (T : List (List (List Nat))) : Prop where
  len : T.length = n
  tl : ∀ s, s < n → T[s]!.length = m
structure Lay (P : List (List Nat)) (row : Row) : Prop where
  inj : ∀ s t k, s < row.length → t < row.length → row[s]! = some k → row[t]! = some k → s = t
  kb : ∀ s k, s < row.length → row[s]! = some k → k < P.length
  full : ∀ s k, s < row.length → row[s]! = some k → ∀ t ∈ P[k]!.take (P[k]!.idxOf s), row[t]! ≠ none
structure Ask (P : List (List Nat)) (row : Row) (a i : Nat) : Prop where
  lay : Lay P row
  new : ∀ s, s < row.length → row[s]! ≠ some a
  ak : a < P.length
  full : ∀ t ∈ P[a]!.take i, row[t]! ≠ none
  free : ∃ t, t < row.length ∧ row[t]! = none
def wgt (P : List (List Nat)) (row : Row) (s : Nat) : Nat := match row[s]! with
  | none => 0
  | some k => row.length - P[k]!.idxOf s
def phi (P : List (List Nat)) (row : Row) (i : Nat) : Nat := (row.length - i) + ((List.range row.length).map (wgt P row)).sum
theorem row_set {row : Row} {s t : Nat} {v : Option Nat} (ht : t < row.length) : (row.set s v)[t]! = if s = t then v else row[t]! := by
  rw [getElem!_pos _ t (by rw [List.length_set]; exact ht), getElem!_pos _ t ht, List.getElem_set]
theorem Probes.lt {n : Nat} {P : List (List Nat)} (hP : Probes n P) {k s : Nat} (hk : k < P.length) (h : s ∈ P[k]!) : s < n := List.mem_range.mp ((hP.perm k hk).mem_iff.mp h)
theorem Probes.len {n : Nat} {P : List (List Nat)} (hP : Probes n P) {k : Nat} (hk : k < P.length) : P[k]!.length = n := by rw [(hP.perm k hk).length_eq, List.length_range]
theorem Probes.mem {n : Nat} {P : List (List Nat)} (hP : Probes n P) {k s : Nat} (hk : k < P.length) (h : s < n) : s ∈ P[k]! := (hP.perm k hk).mem_iff.mpr (List.mem_range.mpr h)
theorem Probes.idx {n : Nat} {P : List (List Nat)} (hP : Probes n P) {k i : Nat} (hk : k < P.length) (h : i < n) : P[k]!.idxOf P[k]![i]! = i := by
  have hl := hP.len hk
  rw [getElem!_pos P[k]! i (by omega)]
  exact ((hP.perm k hk).nodup_iff.mpr List.nodup_range).idxOf_getElem i (by omega)
theorem Ask.lt {n : Nat} {P : List (List Nat)} {row : Row} {a i : Nat} (hP : Probes n P) (hn : row.length = n) (h : Ask P row a i) : i < n := by
  by_cases hi : i < n
  · exact hi
  · exfalso
    obtain ⟨t, ht, h0⟩ := h.free
    refine h.full t ?_ h0
    rw [List.take_of_length_le (by rw [hP.len h.ak]; omega)]
    exact hP.mem h.ak (by omega)
theorem take_succ_mem {xs : List Nat} {i t : Nat} (hi : i < xs.length) (h : t ∈ xs.take (i + 1)) : t ∈ xs.take i ∨ t = xs[i]! := by
  rw [List.take_succ, List.mem_append, List.getElem?_eq_getElem hi] at h
  rcases h with h | h
  · exact .inl h
  · rw [getElem!_pos xs i hi]
    exact .inr (by simpa using h)
theorem Ask.put {n : Nat} {P : List (List Nat)} {row : Row} {a i : Nat} (hP : Probes n P) (hn : row.length = n) (h : Ask P row a i) (hi : i < n) : Lay P (row.set P[a]![i]! (some a)) := by
  have hs : P[a]![i]! < row.length := by
    rw [hn]
    refine hP.lt h.ak ?_
    rw [getElem!_pos P[a]! i (by rw [hP.len h.ak]; exact hi)]
    exact List.getElem_mem _
  have hidx := hP.idx h.ak hi
  generalize P[a]![i]! = s at *
  have hL : (row.set s (some a)).length = row.length := List.length_set
  have ne : ∀ t, t < row.length → row[t]! ≠ none → (row.set s (some a))[t]! ≠ none := fun t ht h0 => by
    rw [row_set ht]
    split
    · simp
    · exact h0
  have tl : ∀ k, k < P.length → ∀ j t, t ∈ P[k]!.take j → t < row.length := fun k hk j t ht => by
    rw [hn]
    exact hP.lt hk (List.mem_of_mem_take ht)
  refine ⟨fun u t k hu ht e1 e2 => ?_, fun u k hu e => ?_, fun u k hu e t ht => ?_⟩
  · rw [hL] at hu ht
    rw [row_set hu] at e1
    rw [row_set ht] at e2
    split at e1
    · split at e2
      · omega
      · cases e1
        exact absurd e2 (h.new t ht)
    · split at e2
      · cases e2
        exact absurd e1 (h.new u hu)
      · exact h.lay.inj u t k hu ht e1 e2
  · rw [hL] at hu
    rw [row_set hu] at e
    split at e
    · cases e
      exact h.ak
    · exact h.lay.kb u k hu e
  · rw [hL] at hu
    rw [row_set hu] at e
    split at e
    · rename_i e0
      cases e
      subst e0
      rw [hidx] at ht
      exact ne t (tl _ h.ak _ t ht) (h.full t ht)
    · have hk := h.lay.kb u k hu e
      exact ne t (tl _ hk _ t ht) (h.lay.full u k hu e t ht)
theorem mem_row {row : Row} {k : Nat} : some k ∈ row ↔ ∃ s, s < row.length ∧ row[s]! = some k := by
  rw [List.mem_iff_getElem]
  constructor
  · rintro ⟨s, hs, e⟩
    exact ⟨s, hs, by rw [getElem!_pos row s hs]; exact e⟩
  · rintro ⟨s, hs, e⟩
    exact ⟨s, hs, by rw [getElem!_pos row s hs] at e; exact e⟩
def Lone (n : Nat) (P : List (List Nat)) (row : Row) : Prop := ∃ t, t < n ∧ ∀ u k, u < n → row[u]! = some k → t ∉ P[k]!.take (P[k]!.idxOf u)
theorem not_take {xs : List Nat} {s : Nat} (h : xs.Nodup) : s ∉ xs.take (xs.idxOf s) := fun z => by
  obtain ⟨i, hi, e⟩ := List.mem_iff_getElem.mp z
  rw [List.length_take] at hi
  rw [List.getElem_take] at e
  have := h.idxOf_getElem i (by omega)
  rw [e] at this
  omega
theorem insF_ex {n m : Nat} {P : List (List Nat)} {T : List (List (List Nat))} (hP : Probes n P) (hm : P.length = m) (hT : Tabs n m T) : ∀ (f a i : Nat) (row : Row) (path : List (Nat × Nat)), row.length = n → Ask P row a i → phi P row i ≤ f →
    ∃ R, insF P T f a i row path = some R ∧ Lay P R.1 ∧ R.1.length = n ∧ (∀ k, some k ∈ R.1 ↔ k = a ∨ some k ∈ row) ∧ Lone n P R.1
  | 0, a, i, row, path, hn, h, hf => by
    have := h.lt hP hn
    unfold phi at hf
    omega
  | f + 1, a, i, row, path, hn, h, hf => by
    have hi := h.lt hP hn
    have hs : P[a]![i]! < row.length := by
      rw [hn]
      refine hP.lt h.ak ?_
      rw [getElem!_pos P[a]! i (by rw [hP.len h.ak]; exact hi)]
      exact List.getElem_mem _
    have hput := h.put hP hn hi
    have hidx := hP.idx h.ak hi
    rw [insF, if_pos ⟨h.ak, by rw [hP.len h.ak]; exact hi, hs, by rw [hT.len, ← hn]; exact hs, by rw [hT.tl _ (by rw [← hn]; exact hs), ← hm]; exact h.ak⟩]
    have hpass : row[P[a]![i]!]! ≠ none → Ask P row a (i + 1) := fun h0 => ⟨h.lay, h.new, h.ak, fun t ht => by
      rcases take_succ_mem (by rw [hP.len h.ak]; exact hi) ht with ht | rfl
      · exact h.full t ht
      · exact h0, h.free⟩
    generalize hsd : P[a]![i]! = s at *
    have hL : (row.set s (some a)).length = row.length := List.length_set
    cases hr : row[s]! with
    | none =>
      have hlone : Lone n P (row.set s (some a)) := ⟨s, by omega, fun u k hu e => by
        rw [row_set (by omega)] at e
        split at e
        · rename_i e0
          cases e
          subst e0
          exact not_take ((hP.perm a h.ak).nodup_iff.mpr List.nodup_range)
        · exact fun z => h.lay.full u k (by omega) e s z hr⟩
      refine ⟨_, rfl, hput, by rw [hL]; exact hn, fun k => ?_, hlone⟩
      rw [mem_row, mem_row, hL]
      constructor
      · rintro ⟨t, ht, e⟩
        rw [row_set ht] at e
        split at e
        · cases e
          exact .inl rfl
        · exact .inr ⟨t, ht, e⟩
      · rintro (rfl | ⟨t, ht, e⟩)
        · exact ⟨s, hs, by rw [row_set hs, if_pos rfl]⟩
        · refine ⟨t, ht, ?_⟩
          rw [row_set ht, if_neg (by rintro rfl; rw [hr] at e; cases e)]
          exact e
    | some b =>
      dsimp only
      have hb := h.lay.kb s b hs hr
      have hsb : s ∈ P[b]! := hP.mem hb (by omega)
      split
      · rw [if_pos ⟨hb, hsb⟩]
        have hib : P[b]!.idxOf s < n := by rw [← hP.len hb]; exact List.idxOf_lt_length_iff.mpr hsb
        have hab : a ≠ b := fun z => h.new s hs (by rw [z]; exact hr)
        have hA : Ask P (row.set s (some a)) b (P[b]!.idxOf s + 1) := by
          refine ⟨hput, fun t ht e => ?_, hb, fun t ht e => ?_, ?_⟩
          · rw [hL] at ht
            rw [row_set ht] at e
            split at e
            · cases e
              exact hab rfl
            · rename_i e0
              exact e0 (h.lay.inj s t b hs ht hr e)
          · rcases take_succ_mem (by rw [hP.len hb]; exact hib) ht with ht | rfl
            · have htl : t < row.length := by rw [hn]; exact hP.lt hb (List.mem_of_mem_take ht)
              rw [row_set htl] at e
              split at e
              · cases e
              · exact h.lay.full s b hs hr t ht e
            · have e1 : P[b]![P[b]!.idxOf s]! = s := by
                rw [getElem!_pos P[b]! _ (by rw [hP.len hb]; exact hib)]
                exact List.getElem_idxOf _
              rw [e1, row_set hs, if_pos rfl] at e
              cases e
          · obtain ⟨t, ht, e⟩ := h.free
            refine ⟨t, by rw [hL]; exact ht, ?_⟩
            rw [row_set ht, if_neg (by rintro rfl; rw [hr] at e; cases e)]
            exact e
        have hphi : phi P (row.set s (some a)) (P[b]!.idxOf s + 1) ≤ f := by
          have e := sum_upd (f := wgt P row) (f' := wgt P (row.set s (some a))) (s0 := s) (fun t ht => by
            unfold wgt
            rw [hL]
            by_cases htl : t < row.length
            · rw [row_set htl, if_neg (Ne.symm ht)]
            · rw [getElem!_neg row t htl, getElem!_neg _ t (by rw [hL]; exact htl)]) row.length
          rw [if_pos hs, if_pos hs] at e
          have e1 : wgt P row s = n - P[b]!.idxOf s := by
            unfold wgt
            rw [hr, hn]
          have e2 : wgt P (row.set s (some a)) s = n - i := by
            unfold wgt
            rw [row_set hs, if_pos rfl, hL, hn]
            show n - List.idxOf s P[a]! = n - i
            rw [hidx]
          unfold phi at hf ⊢
          rw [hL, hn]
          rw [hn] at hf e
          omega
        obtain ⟨R, g1, g2, g3, g4, g5⟩ := insF_ex hP hm hT f b (P[b]!.idxOf s + 1) (row.set s (some a)) (path ++ [(a, s)]) (by rw [hL]; exact hn) hA hphi
        refine ⟨R, g1, g2, g3, fun k => ?_, g5⟩
        rw [g4, mem_row, mem_row, hL]
        constructor
        · rintro (rfl | ⟨t, ht, e⟩)
          · exact .inr ⟨s, hs, hr⟩
          · rw [row_set ht] at e
            split at e
            · cases e
              exact .inl rfl
            · exact .inr ⟨t, ht, e⟩
        · rintro (rfl | ⟨t, ht, e⟩)
          · exact .inr ⟨s, hs, by rw [row_set hs, if_pos rfl]⟩
          · by_cases hts : s = t
            · subst hts
              rw [hr] at e
              cases e
              exact .inl rfl
            · exact .inr ⟨t, ht, by rw [row_set ht, if_neg hts]; exact e⟩
      · obtain ⟨R, g1, g2, g3, g4, g5⟩ := insF_ex hP hm hT f a (i + 1) row path hn (hpass (by rw [hr]; simp)) (by
          unfold phi at hf ⊢
          omega)
        exact ⟨R, g1, g2, g3, g4, g5⟩
theorem phi_le {n : Nat} {P : List (List Nat)} {row : Row} {i : Nat} (hn : row.length = n) : phi P row i ≤ n + n * n := by
  unfold phi
  have : ∀ k, ((List.range k).map (wgt P row)).sum ≤ k * n := by
    intro k
    induction k with
    | zero => simp
    | succ k ih =>
      rw [List.range_succ, List.map_append, List.sum_append, Nat.succ_mul]
      have : wgt P row k ≤ n := by
        unfold wgt
        split <;> omega
      simp only [List.map_cons, List.map_nil, List.sum_cons, List.sum_nil]
      omega
  have := this row.length
  rw [hn] at this ⊢
  omega
structure Rw (n : Nat) (P : List (List Nat)) (row : Row) (done : List Nat) : Prop where
  lay : Lay P row
  len : row.length = n
  keys : ∀ k, some k ∈ row ↔ k ∈ done
  lone : Lone n P row
theorem Rw.empty {n : Nat} (h : 0 < n) (P : List (List Nat)) : Rw n P (List.replicate n none) [] := by
  have g : ∀ s, s < n → (List.replicate n (none : Option Nat))[s]! = none := fun s hs => by
    rw [getElem!_pos _ s (by rw [List.length_replicate]; exact hs), List.getElem_replicate]
  refine ⟨⟨fun s t k hs ht e _ => ?_, fun s k hs e => ?_, fun s k hs e => ?_⟩, List.length_replicate, fun k => by simp, ⟨0, h, fun u k hu e => ?_⟩⟩
  · rw [List.length_replicate] at hs
    rw [g s hs] at e
    cases e
  · rw [List.length_replicate] at hs
    rw [g s hs] at e
    cases e
  · rw [List.length_replicate] at hs
    rw [g s hs] at e
    cases e
  · rw [g u hu] at e
    cases e
theorem Rw.free {n : Nat} {P : List (List Nat)} {row : Row} {done : List Nat} (h : Rw n P row done) (hd : done.length < n) : ∃ t, t < row.length ∧ row[t]! = none := by
  by_cases hx : ∃ t, t < row.length ∧ row[t]! = none
  · exact hx
  · exfalso
    have hall : ∀ t, t < row.length → ∃ k, row[t]! = some k := fun t ht => by
      cases e : row[t]! with
      | none => exact absurd ⟨t, ht, e⟩ hx
      | some k => exact ⟨k, rfl⟩
    have hmem : ∀ t k, t < row.length → row[t]! = some k → k ∈ done := fun t k ht e => (h.keys k).mp (mem_row.mpr ⟨t, ht, e⟩)
    have := nodup_len (ks := (List.range n).map fun t => done.idxOf (row[t]!.getD 0)) (n := done.length) ?_ ?_
    · rw [List.length_map, List.length_range] at this
      omega
    · rw [List.nodup_iff_pairwise_ne, List.pairwise_map]
      have : (List.range n).Pairwise (· < ·) := List.pairwise_lt_range
      refine List.Pairwise.imp_of_mem ?_ this
      intro s t hs ht hlt e
      rw [List.mem_range] at hs ht
      rw [← h.len] at hs ht
      obtain ⟨a, ha⟩ := hall s hs
      obtain ⟨b, hb⟩ := hall t ht
      rw [ha, hb] at e
      have ma := hmem s a hs ha
      have mb := hmem t b ht hb
      have e1 : done[done.idxOf a]? = some a := by rw [List.getElem?_eq_getElem (List.idxOf_lt_length_iff.mpr ma), List.getElem_idxOf]
      have e2 : done[done.idxOf b]? = some b := by rw [List.getElem?_eq_getElem (List.idxOf_lt_length_iff.mpr mb), List.getElem_idxOf]
      have e : done.idxOf a = done.idxOf b := e
      rw [e, e2] at e1
      cases e1
      have := h.lay.inj s t _ hs ht ha hb
      omega
    · intro x hx
      obtain ⟨t, ht, rfl⟩ := List.mem_map.mp hx
      rw [List.mem_range, ← h.len] at ht
      obtain ⟨a, ha⟩ := hall t ht
      rw [ha]
      exact List.idxOf_lt_length_iff.mpr (hmem t a ht ha)
def lay1 (P : List (List Nat)) (T : List (List (List Nat))) (row : Row) (a : Nat) : Row := ((insF P T 10000 a 0 row []).getD ([], [])).1
theorem Rw.step {n m : Nat} {P : List (List Nat)} {T : List (List (List Nat))} {row : Row} {done : List Nat} {a : Nat} (hP : Probes n P) (hm : P.length = m) (hT : Tabs n m T) (h : Rw n P row done) (hd : done.length < n) (hn : n ≤ 90) (ha : a < m) (hna : a ∉ done) :
    (∀ S, ∃ p, f_insert [.p (.tuple (P.map dT)), .p (dRule T), .p (.tuple (row.map dO)), .p (.int a)] S = .ok (.p (.tuple [.tuple ((lay1 P T row a).map dO), p]), S)) ∧ Rw n P (lay1 P T row a) (done ++ [a]) := by
  have hfree := h.free hd
  have hnew : some a ∉ row := fun z => hna ((h.keys a).mp z)
  have hA : Ask P row a 0 := ⟨h.lay, fun s hs e => hnew (mem_row.mpr ⟨s, hs, e⟩), by omega, fun t ht => by simp at ht, hfree⟩
  have hphi : phi P row 0 ≤ 10000 := by
    have := phi_le (P := P) (i := 0) h.len
    have : n * n ≤ 90 * 90 := Nat.mul_le_mul hn hn
    omega
  obtain ⟨R, g1, g2, g3, g4, g5⟩ := insF_ex hP hm hT 10000 a 0 row [] h.len hA hphi
  have e1 : lay1 P T row a = R.1 := by unfold lay1; rw [g1]; rfl
  rw [e1]
  refine ⟨fun S => ⟨_, insert_ok g1 (Nat.le_refl _) hnew ?_ (by rw [h.len]; omega) S⟩, g2, g3, fun k => ?_, g5⟩
  · obtain ⟨t, ht, e⟩ := hfree
    rw [getElem!_pos row t ht] at e
    rw [← e]
    exact List.getElem_mem _
  · rw [g4, h.keys, List.mem_append, List.mem_singleton]
    exact or_comm
theorem Rw.fold {n m : Nat} {P : List (List Nat)} {T : List (List (List Nat))} (hP : Probes n P) (hm : P.length = m) (hT : Tabs n m T) (hn : n ≤ 90) (hn0 : 0 < n) {h : List Nat} (hnd : h.Nodup) (hk : ∀ k ∈ h, k < m) (hl : h.length ≤ n) : ∀ j, j ≤ h.length → Rw n P ((h.take j).foldl (lay1 P T) (List.replicate n none)) (h.take j)
  | 0, _ => Rw.empty hn0 P
  | j + 1, hj => by
    have ih := Rw.fold hP hm hT hn hn0 hnd hk hl j (by omega)
    have e : h.take (j + 1) = h.take j ++ [h[j]] := by rw [List.take_succ, List.getElem?_eq_getElem (by omega)]; rfl
    rw [e, List.foldl_append]
    refine (ih.step hP hm hT (by rw [List.length_take]; omega) hn (hk _ (List.getElem_mem _)) ?_).2
    intro z
    obtain ⟨i, hi, e2⟩ := List.mem_iff_getElem.mp z
    rw [List.length_take] at hi
    rw [List.getElem_take] at e2
    have h1 := hnd.idxOf_getElem i (by omega)
    have h2 := hnd.idxOf_getElem j (by omega)
    rw [e2] at h1
    omega
def rowOfH (P : List (List Nat)) (T : List (List (List Nat))) (n : Nat) (h : List Nat) : Row := h.foldl (lay1 P T) (List.replicate n none)
theorem rep_none (n : Nat) (h : n ≤ 1000) : pMul (.tuple [.int (-1)]) (.int n) = .ok (.tuple ((List.replicate n none).map dO)) := by
  have e : (List.replicate n (none : Option Nat)).map dO = List.replicate n (.int (-1)) := List.map_replicate
  have e2 : ∀ n : Nat, (List.replicate n [PyData.int (-1)]).flatten = List.replicate n (.int (-1)) := fun n => by
    induction n with
    | zero => rfl
    | succ n ih => rw [List.replicate_succ, List.flatten_cons, ih]; rfl
  rw [e, pMul, when_of (decide_eq_true (by
    simp only [List.length_singleton]
    exact ⟨by simp, by omega, by omega, by omega⟩)), Int.toNat_natCast, e2]
theorem Rw.turn {n m : Nat} {P : List (List Nat)} {T : List (List (List Nat))} (hP : Probes n P) (hm : P.length = m) (hT : Tabs n m T) (hn : n ≤ 90) (hn0 : 0 < n) {h : List Nat} (hnd : h.Nodup) (hk : ∀ k ∈ h, k < m) (hl : h.length ≤ n) {j x : Nat} (hx : h[j]? = some x) :
    (∀ S, ∃ p, f_insert [.p (.tuple (P.map dT)), .p (dRule T), .p (.tuple ((rowOfH P T n (h.take j)).map dO)), .p (.int x)] S = .ok (.p (.tuple [.tuple ((rowOfH P T n (h.take (j + 1))).map dO), p]), S)) := by
  obtain ⟨hj, e0⟩ := List.getElem?_eq_some_iff.mp hx
  have ih := Rw.fold hP hm hT hn hn0 hnd hk hl j (by omega)
  have e : h.take (j + 1) = h.take j ++ [x] := by rw [List.take_succ, hx]; rfl
  have := (ih.step hP hm hT (a := x) (by rw [List.length_take]; omega) hn (hk _ (e0 ▸ List.getElem_mem _)) (by
    intro z
    obtain ⟨i, hi, e2⟩ := List.mem_iff_getElem.mp z
    rw [List.length_take] at hi
    rw [List.getElem_take] at e2
    have h1 := hnd.idxOf_getElem i (by omega)
    have h2 := hnd.idxOf_getElem j (by omega)
    rw [e2] at h1
    rw [e0] at h2
    omega)).1
  unfold rowOfH
  rw [e, List.foldl_append]
  exact this
theorem layout_of_ok {n m : Nat} {P : List (List Nat)} {T : List (List (List Nat))} (hP : Probes n P) (hm : P.length = m) (hT : Tabs n m T) (hn : n ≤ 90) (hn0 : 0 < n) {h : List Nat} (hnd : h.Nodup) (hk : ∀ k ∈ h, k < m) (hl : h.length ≤ n) (S : Store) :
    f_layout_of [.p (.tuple (P.map dT)), .p (dRule T), .p (.tuple (h.map dI))] S = .ok (.p (.tuple ((rowOfH P T n h).map dO)), S) := by
  have hr := rep_none n (by omega)
  have htl : T.length = n := hT.len
  refine fn_rn rfl ?_
  unfold b_layout_of
  have hd : dRule T = .tuple (T.map fun t => .tuple (t.map dT)) := rfl
  rw [hd]
  wp_walk using hr, htl
  refine Rn.bs ((for_map dI (fun j σ S' => ∃ t4 : Option D, σ = [some (.p (.tuple (P.map dT))), some (.p (.tuple (T.map fun t => .tuple (t.map dT)))), some (.p (.tuple (h.map dI))), some (.p (.tuple ((rowOfH P T n (h.take j)).map dO))), t4] ∧ S' = S) (Q := fun p => ∃ t4 : Option D, p = (.nx, [some (.p (.tuple (P.map dT))), some (.p (.tuple (T.map fun t => .tuple (t.map dT)))), some (.p (.tuple (h.map dI))), some (.p (.tuple ((rowOfH P T n h).map dO))), t4], S)) ?_ (fun _ _ _ _ => stand_nil _) ?_ ?_).mono ?_)
  · exact ⟨_, rfl, rfl⟩
  · rintro j x σ S' hx ⟨t4, rfl, rfl⟩
    obtain ⟨p, e⟩ := Rw.turn hP hm hT hn hn0 hnd hk hl hx S'
    rw [hd] at e
    wp_walk using e
    exact ⟨_, rfl⟩
  · rintro σ S' ⟨t4, rfl, rfl⟩
    rw [List.take_length]
    exact ⟨t4, rfl⟩
  · rintro p ⟨t4, rfl⟩
    wp_walk using hr
end Mi
end
section
namespace Mi
open PySem Mi Mi.L 
local macro_rules | `(tactic| wp_walk using $[$ts:term],*) => `(tactic| simp (disch := first | with_reducible assumption | omega | (simp only [List.length_set, List.length_append, List.length_cons, List.length_nil, List.length_map, List.length_range, List.length_replicate, Line]; omega) | (simp only [List.length_set, List.length_append, List.length_cons, List.length_nil, List.length_map, List.length_range, List.length_replicate]; done) | fail) only [au0, au1, au2, au3, au4, au5, au6, List.getElem?_map, dI, dT, List.getElem?_cons_zero, List.getElem?_cons_succ, List.set_cons_zero, List.set_cons_succ, List.map_cons, List.map_nil, List.length_cons, List.length_nil, List.cons_append, List.nil_append, List.append_nil, List.append_assoc, List.reduceReplicate, List.length_set, List.set_set, List.length_append, List.length_map, List.length_range, List.length_replicate, decide_true, decide_false, decide_eq_true_eq, Bool.not_eq_true', decide_eq_false_iff_not, Bool.true_and, Bool.false_and, Bool.not_true, Bool.not_false, Bool.false_eq_true, if_true, if_false, Int.toNat_natCast, Int.reduceToNat, Int.reducePow, Int.reduceMul, Int.reduceAdd, Int.reduceSub, Int.reduceNeg, Int.reduceLT, Int.reduceLE, Nat.sub_self, Nat.add_sub_cancel_left, Nat.reduceAdd, Nat.reduceSub, Nat.reduceLT, Nat.reduceLeDiff, Int.cast_ofNat_Int, true_or, or_true, true_and, and_true, $[$ts:term],*])
structure IsTable (n : Nat) (t : List (List Nat)) : Prop where
  len : t.length = n
  asc : ∀ a, a < n → t[a]!.Pairwise (· < ·)
  lt : ∀ a, a < n → ∀ b ∈ t[a]!, b < n
  tour : ∀ a b, a < n → b < n → (b ∈ t[a]! ↔ a ≠ b ∧ a ∉ t[b]!)
def Askd (k j a b : Nat) : Prop := (max a b < k ∨ (max a b = k ∧ min a b < j)) ∧ a ≠ b
structure Half (n k j : Nat) (rows : List (List Nat)) : Prop where
  len : rows.length = n
  nd : ∀ a, a < n → rows[a]!.Nodup
  only : ∀ a b, a < n → b ∈ rows[a]! → b < n ∧ Askd k j a b
  tour : ∀ a b, a < n → b < n → Askd k j a b → (b ∈ rows[a]! ↔ a ∉ rows[b]!)
def pD (rows : List (List Nat)) : List (List PyData) := rows.map fun r => r.map dI
theorem pD_get {rows : List (List Nat)} {w : Nat} (h : w < rows.length) : (pD rows)[w]! = rows[w]!.map dI := by
  unfold pD
  rw [getElem!_pos _ w (by rw [List.length_map]; exact h), getElem!_pos _ w h, List.getElem_map]
theorem pD_set (rows : List (List Nat)) (w : Nat) (r : List Nat) : (pD rows).set w (r.map dI) = pD (rows.set w r) := by
  unfold pD
  rw [List.map_set]
theorem bang_set {rows : List (List Nat)} {w a : Nat} {r : List Nat} (ha : a < rows.length) : (rows.set w r)[a]! = if w = a then r else rows[a]! := by
  rw [getElem!_pos _ a (by rw [List.length_set]; exact ha), getElem!_pos _ a ha, List.getElem_set]
theorem Half.step {n j m w l : Nat} {rows : List (List Nat)} (h : Half n j m rows) (hj : j < n) (hm : m < j) (hw : (w = j ∧ l = m) ∨ (w = m ∧ l = j)) : Half n j (m + 1) (rows.set w (rows[w]! ++ [l])) := by
  have hl := h.len
  have mono : ∀ a b, Askd j m a b → Askd j (m + 1) a b := fun a b h => by unfold Askd at *; omega
  have g : ∀ a, a < n → (rows.set w (rows[w]! ++ [l]))[a]! = if w = a then rows[w]! ++ [l] else rows[a]! := fun a ha => bang_set (by omega)
  have nwl : l ∉ rows[w]! := fun z => by
    have := (h.only w l (by omega) z).2
    unfold Askd at this
    omega
  have nlw : w ∉ rows[l]! := fun z => by
    have := (h.only l w (by omega) z).2
    unfold Askd at this
    omega
  refine ⟨by rw [List.length_set]; exact hl, fun a ha => ?_, fun a b ha hb => ?_, fun a b ha hb hab => ?_⟩
  · rw [g a ha]
    split
    · rename_i e
      subst e
      rw [List.nodup_append]
      exact ⟨h.nd w ha, by simp, fun x hx y hy => by
        rw [List.mem_singleton.mp hy]
        rintro rfl
        exact nwl hx⟩
    · exact h.nd a ha
  · rw [g a ha] at hb
    split at hb
    · rename_i e
      subst e
      rcases List.mem_append.mp hb with hb | hb
      · exact ⟨(h.only w b ha hb).1, mono _ _ (h.only w b ha hb).2⟩
      · rw [List.mem_singleton.mp hb]
        exact ⟨by omega, by unfold Askd; omega⟩
    · exact ⟨(h.only a b ha hb).1, mono _ _ (h.only a b ha hb).2⟩
  · rw [g a ha, g b hb]
    by_cases e1 : w = a
    · subst e1
      by_cases e2 : b = l
      · subst e2
        rw [if_pos rfl, if_neg (by unfold Askd at hab; omega)]
        exact ⟨fun _ => nlw, fun _ => List.mem_append_right _ (List.mem_singleton.mpr rfl)⟩
      · have hne : w ≠ b := by unfold Askd at hab; omega
        rw [if_pos rfl, if_neg hne]
        have := h.tour w b ha hb (by unfold Askd at *; omega)
        rw [← this, List.mem_append, List.mem_singleton]
        simp [e2]
    · rw [if_neg e1]
      by_cases e2 : w = b
      · subst e2
        rw [if_pos rfl]
        by_cases e3 : a = l
        · subst e3
          exact ⟨fun z => absurd z nlw, fun z => absurd (List.mem_append_right _ (List.mem_singleton.mpr rfl)) z⟩
        · have := h.tour a w ha hb (by unfold Askd at *; omega)
          rw [this, List.mem_append, List.mem_singleton]
          simp [e3]
      · rw [if_neg e2]
        exact h.tour a b ha hb (by unfold Askd at *; omega)
theorem Half.next {n j : Nat} {rows : List (List Nat)} (h : Half n j j rows) : Half n (j + 1) 0 rows :=
  ⟨h.len, h.nd, fun a b ha hb => ⟨(h.only a b ha hb).1, by have := (h.only a b ha hb).2; unfold Askd at *; omega⟩, fun a b ha hb hab => h.tour a b ha hb (by unfold Askd at *; omega)⟩
theorem Half.done {n : Nat} {rows : List (List Nat)} (h : Half n n 0 rows) : IsTable n (rows.map sortN) := by
  have hl := h.len
  have g : ∀ a, a < n → (rows.map sortN)[a]! = sortN rows[a]! := fun a ha => by
    rw [getElem!_pos _ a (by rw [List.length_map]; omega), getElem!_pos _ a (by omega), List.getElem_map]
  refine ⟨by rw [List.length_map]; exact hl, fun a ha => ?_, fun a ha b hb => ?_, fun a b ha hb => ?_⟩
  · rw [g a ha]
    have h1 := sortN_sorted rows[a]!
    have h2 : (sortN rows[a]!).Nodup := (sortN_perm _).nodup_iff.mpr (h.nd a ha)
    rw [List.nodup_iff_pairwise_ne] at h2
    exact (h1.and h2).imp fun ⟨u, v⟩ => by omega
  · rw [g a ha, sortN_mem] at hb
    exact (h.only a b ha hb).1
  · rw [g a ha, g b hb, sortN_mem, sortN_mem]
    constructor
    · intro z
      have z2 := (h.only a b ha z).2
      exact ⟨z2.2, (h.tour a b ha hb z2).mp z⟩
    · rintro ⟨z1, z2⟩
      exact (h.tour a b ha hb (by unfold Askd; omega)).mpr z2
theorem tab_table {o : List Nat} (ho : Ord o) : IsTable o.length (tab o) := by
  have g : ∀ a, a < o.length → (tab o)[a]! = beats o a := fun a ha => by
    have := tab_at (o := o) ha
    rw [List.getElem!_eq_getElem?_getD, this]
    rfl
  refine ⟨tab_len o, fun a ha => ?_, fun a ha b hb => ?_, fun a b ha hb => ?_⟩
  · rw [g a ha]
    exact beats_pair ho a
  · rw [g a ha] at hb
    exact ((ho.mem_beats ha).mp hb).1
  · rw [g a ha, g b hb, ho.mem_beats ha, ho.mem_beats hb]
    constructor
    · rintro ⟨h1, h2⟩
      refine ⟨fun e => by subst e; omega, fun h => by omega⟩
    · rintro ⟨h1, h2⟩
      refine ⟨hb, ?_⟩
      have h3 : ¬ o.idxOf b < o.idxOf a := fun z => h2 ⟨ha, z⟩
      have h4 : o.idxOf a ≠ o.idxOf b := fun z => h1 (by
        have e1 : o[o.idxOf a]? = some a := by rw [List.getElem?_eq_getElem (ho.idx_lt ha), List.getElem_idxOf]
        have e2 : o[o.idxOf b]? = some b := by rw [List.getElem?_eq_getElem (ho.idx_lt hb), List.getElem_idxOf]
        rw [z, e2] at e1
        cases e1
        rfl)
      omega
theorem fl_dI (n : Nat) : Fl1 (dI n) := ⟨rfl, by rw [PyData.depth]; omega⟩
theorem eqvAll_nats : ∀ u v : List Nat, PyData.eqvAll (u.map dI) (v.map dI) = decide (u = v)
  | [], [] => rfl
  | [], _ :: _ => by simp [PyData.eqvAll]
  | _ :: _, [] => by simp [PyData.eqvAll]
  | x :: u, y :: v => by
    rw [List.map_cons, List.map_cons, PyData.eqvAll, eqvAll_nats u v, eqv_nat]
    by_cases h1 : x = y
    · by_cases h2 : u = v
      · subst h1 h2; simp
      · simp [h1, h2]
    · simp [h1]
theorem fl_dL (o : List Nat) : Fl1 (.list (o.map dI)) := fl_dT o
theorem pNe_nl (u v : List Nat) : pNe (.list (u.map dI)) (.list (v.map dI)) = .ok (.bool (!decide (u = v))) := by
  unfold pNe
  have h1 : flat? (.list (u.map dI)) = true := flat_nats u
  have h2 : flat? (.list (v.map dI)) = true := flat_nats v
  rw [h1, h2, PyData.eqv, eqvAll_nats]
  rfl
theorem sortN2 (a z : Nat) : sortN [a, z] = if a ≤ z then [a, z] else [z, a] := by
  have h := sortN_perm [a, z]
  have h2 := sortN_sorted [a, z]
  have : ∀ u : List Nat, u.Perm [a, z] → u.Pairwise (· ≤ ·) → u = if a ≤ z then [a, z] else [z, a] := fun u hp hs => by
    match u, hp, hs with
    | [], hp, _ => exact absurd hp.length_eq (by simp)
    | [_], hp, _ => exact absurd hp.length_eq (by simp)
    | _ :: _ :: _ :: _, hp, _ => exact absurd hp.length_eq (by simp)
    | [p, q], hp, hs =>
      have hpq : p ≤ q := by
        rw [List.pairwise_cons] at hs
        exact hs.1 q (by simp)
      have m1 : p ∈ [a, z] := hp.mem_iff.mp (by simp)
      have m2 : q ∈ [a, z] := hp.mem_iff.mp (by simp)
      have m3 : a ∈ [p, q] := hp.mem_iff.mpr (by simp)
      have m4 : z ∈ [p, q] := hp.mem_iff.mpr (by simp)
      simp only [List.mem_cons, List.not_mem_nil, or_false] at m1 m2 m3 m4
      split
      · have e1 : p = a := by omega
        have e2 : q = z := by omega
        rw [e1, e2]
      · have e1 : p = z := by omega
        have e2 : q = a := by omega
        rw [e1, e2]
  exact this _ h h2
theorem pair_iff (a z x y : Nat) : sortN [a, z] = sortN [x, y] ↔ (a = x ∧ z = y) ∨ (a = y ∧ z = x) := by
  rw [sortN2, sortN2]
  split <;> split <;> simp <;> omega
theorem IsTable.turn {n : Nat} {t t' : List (List Nat)} (ht : IsTable n t) {x y w l : Nat} (hxy : x ≠ y) (hx : x < n) (hy : y < n) (hw : (w = y ∧ l = x) ∨ (w = x ∧ l = y)) (hl : t'.length = n)
    (h : ∀ a, a < n → t'[a]! = sortN (t[a]!.filter (fun z => decide (sortN [a, z] ≠ sortN [x, y])) ++ if a = w then [l] else [])) : IsTable n t' := by
  have hm : ∀ a b, a < n → (b ∈ t'[a]! ↔ (b ∈ t[a]! ∧ ¬((a = x ∧ b = y) ∨ (a = y ∧ b = x))) ∨ (a = w ∧ b = l)) := fun a b ha => by
    rw [h a ha, sortN_mem, List.mem_append, List.mem_filter, decide_eq_true_eq, Ne, pair_iff]
    by_cases e : a = w
    · simp [e]
    · simp [e]
  refine ⟨hl, fun a ha => ?_, fun a ha b hb => ?_, fun a b ha hb => ?_⟩
  · have h1 := sortN_sorted (t[a]!.filter (fun z => decide (sortN [a, z] ≠ sortN [x, y])) ++ if a = w then [l] else [])
    have h2 : (sortN (t[a]!.filter (fun z => decide (sortN [a, z] ≠ sortN [x, y])) ++ if a = w then [l] else [])).Nodup := by
      rw [(sortN_perm _).nodup_iff, List.nodup_append]
      refine ⟨((ht.asc a ha).imp fun h => by omega : t[a]!.Nodup).filter _, by split <;> simp, fun u hu v hv => ?_⟩
      split at hv
      · rename_i e
        rw [List.mem_singleton.mp hv]
        rintro rfl
        rw [List.mem_filter, decide_eq_true_eq, Ne, pair_iff] at hu
        omega
      · cases hv
    rw [h a ha]
    rw [List.nodup_iff_pairwise_ne] at h2
    exact (h1.and h2).imp fun ⟨u, v⟩ => by omega
  · rcases (hm a b ha).mp hb with h | h
    · exact ht.lt a ha b h.1
    · omega
  · rw [hm a b ha, hm b a hb]
    have h0 := ht.tour a b ha hb
    by_cases hp : (a = x ∧ b = y) ∨ (a = y ∧ b = x)
    · have hp2 : (b = x ∧ a = y) ∨ (b = y ∧ a = x) := by omega
      simp only [hp, hp2, not_true_eq_false, and_false, false_or]
      omega
    · have hp2 : ¬((b = x ∧ a = y) ∨ (b = y ∧ a = x)) := by omega
      have h3 : ¬(a = w ∧ b = l) := by omega
      have h4 : ¬(b = w ∧ a = l) := by omega
      simp only [hp, hp2, h3, h4, not_false_eq_true, and_true, or_false]
      exact h0
end Mi
end
section
namespace Mi
open PySem Mi Mi.L 
local macro_rules | `(tactic| wp_walk using $[$ts:term],*) => `(tactic| simp (disch := first | with_reducible assumption | omega | (simp only [List.length_set, List.length_append, List.length_cons, List.length_nil, List.length_map, List.length_range, List.length_replicate, Line]; omega) | (simp only [List.length_set, List.length_append, List.length_cons, List.length_nil, List.length_map, List.length_range, List.length_replicate]; done) | fail) only [au0, au1, au2, au3, au4, au5, au6, List.getElem?_map, dI, dT, List.getElem?_cons_zero, List.getElem?_cons_succ, List.set_cons_zero, List.set_cons_succ, List.map_cons, List.map_nil, List.length_cons, List.length_nil, List.cons_append, List.nil_append, List.append_nil, List.append_assoc, List.reduceReplicate, List.length_set, List.set_set, List.length_append, List.length_map, List.length_range, List.length_replicate, decide_true, decide_false, decide_eq_true_eq, Bool.not_eq_true', decide_eq_false_iff_not, Bool.true_and, Bool.false_and, Bool.not_true, Bool.not_false, Bool.false_eq_true, if_true, if_false, Int.toNat_natCast, Int.reduceToNat, Int.reducePow, Int.reduceMul, Int.reduceAdd, Int.reduceSub, Int.reduceNeg, Int.reduceLT, Int.reduceLE, Nat.sub_self, Nat.add_sub_cancel_left, Nat.reduceAdd, Nat.reduceSub, Nat.reduceLT, Nat.reduceLeDiff, Int.cast_ofNat_Int, true_or, or_true, true_and, and_true, $[$ts:term],*])
end Mi
end
section
namespace Mi
open PySem Mi Mi.L 
local macro_rules | `(tactic| wp_walk using $[$ts:term],*) => `(tactic| simp (disch := first | with_reducible assumption | omega | (simp only [List.length_set, List.length_append, List.length_cons, List.length_nil, List.length_map, List.length_range, List.length_replicate, Line]; omega) | (simp only [List.length_set, List.length_append, List.length_cons, List.length_nil, List.length_map, List.length_range, List.length_replicate]; done) | fail) only [au0, au1, au2, au3, au4, au5, au6, List.getElem?_map, dI, dT, List.getElem?_cons_zero, List.getElem?_cons_succ, List.set_cons_zero, List.set_cons_succ, List.map_cons, List.map_nil, List.length_cons, List.length_nil, List.cons_append, List.nil_append, List.append_nil, List.append_assoc, List.reduceReplicate, List.length_set, List.set_set, List.length_append, List.length_map, List.length_range, List.length_replicate, decide_true, decide_false, decide_eq_true_eq, Bool.not_eq_true', decide_eq_false_iff_not, Bool.true_and, Bool.false_and, Bool.not_true, Bool.not_false, Bool.false_eq_true, if_true, if_false, Int.toNat_natCast, Int.reduceToNat, Int.reducePow, Int.reduceMul, Int.reduceAdd, Int.reduceSub, Int.reduceNeg, Int.reduceLT, Int.reduceLE, Nat.sub_self, Nat.add_sub_cancel_left, Nat.reduceAdd, Nat.reduceSub, Nat.reduceLT, Nat.reduceLeDiff, Int.cast_ofNat_Int, true_or, or_true, true_and, and_true, $[$ts:term],*])
theorem for_search {α : Type} {tg : Tg} {body : Sm} (f : α → PyData) (I : Env → Store → Prop) (R : Fl × Env × Store → Prop) (Nx : α → Prop) : ∀ (xs : List α) (σ : Env) (S : Store), I σ S →
    (∀ x ∈ xs, ∀ σ S, I σ S → Rn (bx (tg (f x) σ) fun σ1 => body σ1 S) fun p => ((p.1 = .nx ∨ p.1 = .ct) ∧ I p.2.1 p.2.2 ∧ Nx x) ∨ (∃ d, p.1 = .rt d ∧ R p)) →
    Rn (forL tg [] body (xs.map f) σ S) fun p => (p.1 = .nx ∧ I p.2.1 p.2.2 ∧ ∀ x ∈ xs, Nx x) ∨ (∃ d, p.1 = .rt d ∧ R p)
  | [], σ, S, h, _ => .inl ⟨rfl, h, by simp⟩
  | x :: xs, σ, S, h, hb => by
    have h0 := hb x (by simp) σ S h
    obtain ⟨⟨fl, σ2, S2⟩, e1, h1⟩ := h0.ex
    obtain ⟨σ1, e2, e3⟩ := bx_okE e1
    have step : forL tg [] body ((x :: xs).map f) σ S = match fl with
      | .nx => forL tg [] body (xs.map f) σ2 S2
      | .ct => forL tg [] body (xs.map f) σ2 S2
      | .bk => .ok (.nx, σ2, S2)
      | .rt d => .ok (.rt d, σ2, S2) := by
      rw [List.map_cons]
      show bx (tg (f x) σ) _ = _
      rw [bx_of e2, bs_of e3]
      cases fl <;> rfl
    rw [step]
    rcases h1 with ⟨hf, hI, hN⟩ | ⟨d, hf, hR⟩
    · have ih := for_search f I R Nx xs σ2 S2 hI fun y hy => hb y (by simp [hy])
      have ih2 : Rn (forL tg [] body (xs.map f) σ2 S2) fun p => (p.1 = .nx ∧ I p.2.1 p.2.2 ∧ ∀ y ∈ x :: xs, Nx y) ∨ (∃ d, p.1 = .rt d ∧ R p) := ih.mono fun p hp => by
        rcases hp with ⟨q1, q2, q3⟩ | q
        · exact .inl ⟨q1, q2, fun y hy => by
            rcases List.mem_cons.mp hy with rfl | hy
            · exact hN
            · exact q3 y hy⟩
        · exact .inr q
      rcases hf with hf | hf
      · have hf : fl = .nx := hf
        subst hf
        exact ih2
      · have hf : fl = .ct := hf
        subst hf
        exact ih2
    · have hf : fl = .rt d := hf
      subst hf
      exact .inr ⟨d, rfl, hR⟩
def dTb (t : List (List Nat)) : PyData := .tuple (t.map dT)
def scrT (t : List (List Nat)) (k : Nat) : Int := 0 - (t[k]!.length : Int)
def ordOf (t : List (List Nat)) : List Nat := byRank (scrT t) t.length
def Ring3 (t : List (List Nat)) (a b c : Nat) : Prop := b ∈ t[a]! ∧ c ∈ t[b]! ∧ a ∈ t[c]!
def HasRing (t : List (List Nat)) : Prop := ∃ a b c, a < t.length ∧ b < t.length ∧ c < t.length ∧ Ring3 t a b c
theorem tab_bang {o : List Nat} {a : Nat} (ha : a < o.length) : (tab o)[a]! = beats o a := by
  have := tab_at (o := o) ha
  rw [List.getElem!_eq_getElem?_getD, this]
  rfl
theorem tab_noring {o : List Nat} (ho : Ord o) : ¬ HasRing (tab o) := by
  rintro ⟨a, b, c, ha, hb, hc, h1, h2, h3⟩
  rw [tab_len] at ha hb hc
  rw [tab_bang ha, ho.mem_beats ha] at h1
  rw [tab_bang hb, ho.mem_beats hb] at h2
  rw [tab_bang hc, ho.mem_beats hc] at h3
  omega
theorem noring_lt {n : Nat} {t : List (List Nat)} (ht : IsTable n t) (h : ¬ HasRing t) {a b : Nat} (ha : a < n) (hb : b ∈ t[a]!) : t[b]!.length < t[a]!.length := by
  have hbn := ht.lt a ha b hb
  have hab := ((ht.tour a b ha hbn).mp hb)
  have hsub : ∀ c ∈ t[b]!, c ∈ t[a]! := fun c hc => by
    have hcn := ht.lt b hbn c hc
    rw [ht.tour a c ha hcn]
    refine ⟨fun e => ?_, fun z => h ⟨a, b, c, by rw [ht.len]; exact ha, by rw [ht.len]; exact hbn, by rw [ht.len]; exact hcn, hb, hc, z⟩⟩
    subst e
    exact hab.2 hc
  have hnd : (b :: t[b]!).Nodup := by
    rw [List.nodup_cons]
    refine ⟨fun z => ?_, (ht.asc b hbn).imp fun h => by omega⟩
    exact ((ht.tour b b hbn hbn).mp z).1 rfl
  have hsub2 : ∀ c ∈ b :: t[b]!, c ∈ t[a]! := fun c hc => by
    rcases List.mem_cons.mp hc with rfl | hc
    · exact hb
    · exact hsub c hc
  have hle : (b :: t[b]!).length ≤ t[a]!.length := by
    have := nodup_len (ks := (b :: t[b]!).map fun c => t[a]!.idxOf c) (n := t[a]!.length) (by
      rw [List.nodup_iff_pairwise_ne, List.pairwise_map]
      rw [List.nodup_iff_pairwise_ne] at hnd
      refine List.Pairwise.imp_of_mem (fun {x y} hx hy hxy e => hxy ?_) hnd
      have e1 : t[a]![t[a]!.idxOf x]? = some x := by rw [List.getElem?_eq_getElem (List.idxOf_lt_length_iff.mpr (hsub2 x hx)), List.getElem_idxOf]
      have e2 : t[a]![t[a]!.idxOf y]? = some y := by rw [List.getElem?_eq_getElem (List.idxOf_lt_length_iff.mpr (hsub2 y hy)), List.getElem_idxOf]
      rw [e, e2] at e1
      cases e1
      rfl) (fun x hx => by
      obtain ⟨c, hc, rfl⟩ := List.mem_map.mp hx
      exact List.idxOf_lt_length_iff.mpr (hsub2 c hc))
    rwa [List.length_map] at this
  rw [List.length_cons] at hle
  omega
theorem ordOf_ord (t : List (List Nat)) : Ord (ordOf t) := byRank_ord _ _
theorem ordOf_len (t : List (List Nat)) : (ordOf t).length = t.length := byRank_len _ _
theorem noring_tab {n : Nat} {t : List (List Nat)} (ht : IsTable n t) (h : ¬ HasRing t) : tab (ordOf t) = t := by
  have hol := ordOf_len t
  have hn := ht.len
  have ho := ordOf_ord t
  have key : ∀ a b, a < n → b ∈ t[a]! → (ordOf t).idxOf a < (ordOf t).idxOf b := fun a b ha hb => by
    have hbn := ht.lt a ha b hb
    refine (byRank_idx (r := scrT t) (by omega) (by omega)).mpr (.inl ?_)
    have := noring_lt ht h ha hb
    unfold scrT
    omega
  apply List.ext_getElem
  · rw [tab_len, hol]
  · intro a h1 h2
    have han : a < n := by omega
    have e1 : (tab (ordOf t))[a] = beats (ordOf t) a := by
      have := tab_bang (o := ordOf t) (a := a) (by omega)
      rwa [getElem!_pos _ a h1] at this
    have e2 : t[a] = t[a]! := by rw [getElem!_pos t a h2]
    rw [e1, e2]
    refine asc_eq (beats_pair ho a) (ht.asc a han) fun b => ?_
    rw [ho.mem_beats (by omega), hol, hn]
    constructor
    · rintro ⟨hb, hlt⟩
      rw [ht.tour a b han hb]
      exact ⟨fun e => by subst e; omega, fun z => by have := key b a hb z; omega⟩
    · intro hb
      exact ⟨ht.lt a han b hb, key a b han hb⟩
theorem tab_inj {o o' : List Nat} (h : Ord o) (h' : Ord o') (e : tab o = tab o') : o = o' := by
  have hl : o.length = o'.length := by rw [← tab_len o, e, tab_len]
  have hi : ∀ k, k < o.length → o.idxOf k = o'.idxOf k := fun k hk => by
    have e1 := beats_len h hk
    have e2 := beats_len h' (k := k) (by omega)
    rw [← tab_bang hk, e, tab_bang (by omega), e2] at e1
    have := h.idx_lt hk
    have := h'.idx_lt (x := k) (by omega)
    omega
  apply List.ext_getElem hl
  intro i h1 h2
  have e1 := h.idx_at h1
  have hlt := h.at_lt h1
  rw [hi _ hlt] at e1
  have e2 := h'.at_idx (x := o[i]) (by omega)
  simp only [e1] at e2
  exact e2.symm
def ordD (t : List (List Nat)) : PyData := if tab (ordOf t) = t then dT (ordOf t) else .none
theorem while_any {t : Bx} {body : Sm} (I : Nat → Env → Store → Prop) {Q : Fl × Env × Store → Prop} (hb : ∀ m σ S, I m σ S → Rn (t σ S) fun p => if p.1 = true then Rn (body σ p.2) (fun q => ((q.1 = .nx ∨ q.1 = .ct) ∧ ∃ m', m' < m ∧ I m' q.2.1 q.2.2) ∨ (∃ d, q.1 = .rt d ∧ Q q)) else Q (.nx, σ, p.2)) :
    ∀ (n m : Nat) (σ : Env) (S : Store), m < n → I m σ S → Rn (whileF t body n σ S) Q
  | 0, m, σ, S, h, _ => by omega
  | n + 1, m, σ, S, h, hi => by
    have e : whileF t body (n + 1) σ S = bd (t σ S) fun b S1 => if b = true then bs (body σ S1) fun f σ2 S2 => (match f with
      | .nx => whileF t body n σ2 S2
      | .ct => whileF t body n σ2 S2
      | .bk => .ok (.nx, σ2, S2)
      | .rt d => .ok (.rt d, σ2, S2)) else .ok (.nx, σ, S1) := rfl
    rw [e]
    obtain ⟨⟨b, S1⟩, e1, h1⟩ := (hb m σ S hi).ex
    rw [bd_of e1]
    cases b with
    | false => exact h1
    | true =>
      rw [if_pos rfl]
      have h1 : Rn (body σ S1) _ := h1
      obtain ⟨⟨f, σ2, S2⟩, e2, h2⟩ := h1.ex
      rw [bs_of e2]
      rcases h2 with ⟨hf, m', hm, h2⟩ | ⟨d, hf, h2⟩
      · have := while_any I hb n m' σ2 S2 (by omega) h2
        rcases hf with hf | hf
        · have hf : f = .nx := hf
          subst hf
          exact this
        · have hf : f = .ct := hf
          subst hf
          exact this
      · have hf : f = .rt d := hf
        subst hf
        exact h2
structure Found (n : Nat) (t : List (List Nat)) (left found : List Nat) : Prop where
  perm : (found ++ left).Perm (List.range n)
  pw : found.Pairwise fun a b => b ∈ t[a]!
  over : ∀ a ∈ found, ∀ b ∈ left, b ∈ t[a]!
def topOf (t : List (List Nat)) (left : List Nat) : List Nat := left.filter fun x => !(left.any fun y => decide (x ∈ t[y]!))
theorem min_ex (f : Nat → Nat) : ∀ {xs : List Nat}, xs ≠ [] → ∃ x ∈ xs, ∀ y ∈ xs, f x ≤ f y
  | [], h => absurd rfl h
  | [x], _ => ⟨x, by simp, by simp⟩
  | x :: y :: xs, _ => by
    obtain ⟨m, h1, h2⟩ := min_ex f (xs := y :: xs) (by simp)
    by_cases z : f x ≤ f m
    · exact ⟨x, by simp, fun w hw => by
        rcases List.mem_cons.mp hw with rfl | hw
        · exact Nat.le_refl _
        · exact Nat.le_trans z (h2 w hw)⟩
    · exact ⟨m, List.mem_cons_of_mem _ h1, fun w hw => by
        rcases List.mem_cons.mp hw with rfl | hw
        · omega
        · exact h2 w hw⟩
theorem Found.lt {n : Nat} {t : List (List Nat)} {left found : List Nat} (h : Found n t left found) : (∀ x ∈ left, x < n) ∧ (∀ x ∈ found, x < n) :=
  ⟨fun x hx => List.mem_range.mp (h.perm.mem_iff.mp (List.mem_append_right _ hx)), fun x hx => List.mem_range.mp (h.perm.mem_iff.mp (List.mem_append_left _ hx))⟩
theorem Found.nd {n : Nat} {t : List (List Nat)} {left found : List Nat} (h : Found n t left found) : (found ++ left).Nodup := h.perm.nodup_iff.mpr List.nodup_range
theorem Found.none {n : Nat} {t : List (List Nat)} {left found : List Nat} (h : Found n t left found) (ht : IsTable n t) (hl : left ≠ []) (h0 : topOf t left = []) : ordD t = .none := by
  unfold ordD
  rw [if_neg]
  intro e
  obtain ⟨x, hx, hmin⟩ := min_ex (fun y => (ordOf t).idxOf y) hl
  have ho := ordOf_ord t
  have hol := ordOf_len t
  have hn := ht.len
  have : x ∈ topOf t left := by
    refine List.mem_filter.mpr ⟨hx, ?_⟩
    rw [Bool.not_eq_true', List.any_eq_false]
    intro y hy
    rw [decide_eq_true_eq]
    intro z
    have hyn := h.lt.1 y hy
    rw [← e, tab_bang (by omega), ho.mem_beats (by omega)] at z
    have := hmin y hy
    omega
  rw [h0] at this
  cases this
theorem Found.step {n : Nat} {t : List (List Nat)} {left found xs : List Nat} {x : Nat} (h : Found n t left found) (ht : IsTable n t) (h0 : topOf t left = x :: xs) : x ∈ left ∧ Found n t (left.erase x) (found ++ [x]) := by
  have hm : x ∈ topOf t left := by rw [h0]; simp
  obtain ⟨hx, hb⟩ := List.mem_filter.mp hm
  rw [Bool.not_eq_true', List.any_eq_false] at hb
  have hnl : left.Nodup := (List.nodup_append.mp h.nd).2.1
  refine ⟨hx, ⟨?_, ?_, ?_⟩⟩
  · rw [List.append_assoc]
    exact ((List.Perm.append_left found (List.perm_cons_erase hx)).symm).trans h.perm
  · rw [List.pairwise_append]
    exact ⟨h.pw, List.pairwise_singleton _ _, fun a ha b hb => by
      rw [List.mem_singleton.mp hb]
      exact h.over a ha x hx⟩
  · intro a ha b hb2
    have hbl := List.mem_of_mem_erase hb2
    rcases List.mem_append.mp ha with ha | ha
    · exact h.over a ha b hbl
    · rw [List.mem_singleton.mp ha]
      rw [ht.tour x b (h.lt.1 x hx) (h.lt.1 b hbl)]
      refine ⟨fun e => ?_, fun z => ?_⟩
      · subst e
        exact hnl.not_mem_erase hb2
      · have := hb b hbl
        rw [decide_eq_true_eq] at this
        exact this z
theorem Found.done {n : Nat} {t : List (List Nat)} {found : List Nat} (h : Found n t [] found) (ht : IsTable n t) : ordD t = dT found := by
  have hp : found.Perm (List.range n) := by simpa using h.perm
  have hfl : found.length = n := by rw [hp.length_eq, List.length_range]
  have ho : Ord found := by unfold Ord; rw [hfl]; exact hp
  have hn := ht.len
  have key : ∀ a b, a < n → b < n → found.idxOf a < found.idxOf b → b ∈ t[a]! := fun a b ha hb hlt => by
    have e1 := ho.at_idx (x := a) (by omega)
    have e2 := ho.at_idx (x := b) (by omega)
    have := List.pairwise_iff_getElem.mp h.pw _ _ (ho.idx_lt (by omega)) (ho.idx_lt (by omega)) hlt
    rw [e1, e2] at this
    exact this
  have e : tab found = t := by
    apply List.ext_getElem
    · rw [tab_len]; omega
    · intro a h1 h2
      have han : a < n := by omega
      have e1 : (tab found)[a] = beats found a := by
        have := tab_bang (o := found) (a := a) (by omega)
        rwa [getElem!_pos _ a h1] at this
      have e2 : t[a] = t[a]! := by rw [getElem!_pos t a h2]
      rw [e1, e2]
      refine asc_eq (beats_pair ho a) (ht.asc a han) fun b => ?_
      rw [ho.mem_beats (by omega), hfl]
      constructor
      · rintro ⟨hb, hlt⟩
        exact key a b han hb hlt
      · intro hb
        have hbn := ht.lt a han b hb
        refine ⟨hbn, ?_⟩
        have hab := (ht.tour a b han hbn).mp hb
        have h3 : ¬ found.idxOf b < found.idxOf a := fun z => hab.2 (key b a hbn han z)
        have h4 : found.idxOf a ≠ found.idxOf b := fun z => hab.1 (by
          have e1 : found[found.idxOf a]? = some a := by rw [List.getElem?_eq_getElem (ho.idx_lt (by omega)), List.getElem_idxOf]
          have e2 : found[found.idxOf b]? = some b := by rw [List.getElem?_eq_getElem (ho.idx_lt (by omega)), List.getElem_idxOf]
          rw [z, e2] at e1
          cases e1
          rfl)
        omega
  have hnr : ¬ HasRing t := by rw [← e]; exact tab_noring ho
  have e2 := noring_tab ht hnr
  have e3 : ordOf t = found := tab_inj (ordOf_ord t) ho (e2.trans e.symm)
  unfold ordD
  rw [if_pos e2, e3]
end Mi
end
section
namespace Mi
open PySem Mi Mi.L 
local macro_rules | `(tactic| wp_walk using $[$ts:term],*) => `(tactic| simp (disch := first | with_reducible assumption | omega | (simp only [List.length_set, List.length_append, List.length_cons, List.length_nil, List.length_map, List.length_range, List.length_replicate, Line]; omega) | (simp only [List.length_set, List.length_append, List.length_cons, List.length_nil, List.length_map, List.length_range, List.length_replicate]; done) | fail) only [au0, au1, au2, au3, au4, au5, au6, List.getElem?_map, dI, dT, List.getElem?_cons_zero, List.getElem?_cons_succ, List.set_cons_zero, List.set_cons_succ, List.map_cons, List.map_nil, List.length_cons, List.length_nil, List.cons_append, List.nil_append, List.append_nil, List.append_assoc, List.reduceReplicate, List.length_set, List.set_set, List.length_append, List.length_map, List.length_range, List.length_replicate, decide_true, decide_false, decide_eq_true_eq, Bool.not_eq_true', decide_eq_false_iff_not, Bool.true_and, Bool.false_and, Bool.not_true, Bool.not_false, Bool.false_eq_true, if_true, if_false, Int.toNat_natCast, Int.reduceToNat, Int.reducePow, Int.reduceMul, Int.reduceAdd, Int.reduceSub, Int.reduceNeg, Int.reduceLT, Int.reduceLE, Nat.sub_self, Nat.add_sub_cancel_left, Nat.reduceAdd, Nat.reduceSub, Nat.reduceLT, Nat.reduceLeDiff, Int.cast_ofNat_Int, true_or, or_true, true_and, and_true, $[$ts:term],*])
theorem insF_mono {P : List (List Nat)} {T : List (List (List Nat))} : ∀ (f a i : Nat) (row : Row) (path : List (Nat × Nat)) {R : Row × List (Nat × Nat)}, insF P T f a i row path = some R → insF P T (f + 1) a i row path = some R
  | 0, a, i, row, path, R, h => by cases h
  | f + 1, a, i, row, path, R, h => by
    rw [insF] at h ⊢
    split at h
    · rename_i hc
      rw [if_pos hc]
      split at h
      · rename_i he
        exact h
      · rename_i b he
        split at h
        · rename_i hb
          rw [if_pos hb]
          split at h
          · rename_i hb2
            rw [if_pos hb2]
            exact insF_mono f _ _ _ _ h
          · cases h
        · rename_i hb
          rw [if_neg hb]
          exact insF_mono f _ _ _ _ h
    · cases h
theorem insF_le {P : List (List Nat)} {T : List (List (List Nat))} {f a i : Nat} {row : Row} {path : List (Nat × Nat)} {R : Row × List (Nat × Nat)} (h : insF P T f a i row path = some R) : ∀ k, insF P T (f + k) a i row path = some R
  | 0 => h
  | k + 1 => insF_mono _ _ _ _ _ (insF_le h k)
theorem phi_free {n : Nat} {P : List (List Nat)} {row : Row} {i : Nat} (hn : row.length = n) (hf : ∃ t, t < row.length ∧ row[t]! = none) : phi P row i ≤ n * n := by
  obtain ⟨t, ht, h0⟩ := hf
  have e := sum_upd (f := wgt P row) (f' := fun s => if s = t then n else wgt P row s) (s0 := t) (fun s hs => by rw [if_neg hs]) row.length
  rw [if_pos ht, if_pos ht] at e
  have h1 : wgt P row t = 0 := by unfold wgt; rw [h0]
  have h2 : ∀ k, ((List.range k).map fun s => if s = t then n else wgt P row s).sum ≤ k * n := by
    intro k
    induction k with
    | zero => simp
    | succ k ih =>
      rw [List.range_succ, List.map_append, List.sum_append, Nat.succ_mul]
      have : (if k = t then n else wgt P row k) ≤ n := by
        split
        · omega
        · unfold wgt
          split <;> omega
      simp only [List.map_cons, List.map_nil, List.sum_cons, List.sum_nil]
      omega
  have h3 := h2 row.length
  unfold phi
  simp only [if_true] at e
  rw [hn] at e h3 ht ⊢
  omega
theorem Rw.fuel {n m : Nat} {P : List (List Nat)} {T : List (List (List Nat))} {row : Row} {done : List Nat} {a : Nat} (hP : Probes n P) (hm : P.length = m) (hT : Tabs n m T) (h : Rw n P row done) (hd : done.length < n) (hn : n ≤ 90) (ha : a < m) (hna : a ∉ done) :
    ∃ R, insF P T (n * n + 1) a 0 row [] = some R ∧ lay1 P T row a = R.1 := by
  have hfree := h.free hd
  have hnew : some a ∉ row := fun z => hna ((h.keys a).mp z)
  have hA : Ask P row a 0 := ⟨h.lay, fun s hs e => hnew (mem_row.mpr ⟨s, hs, e⟩), by omega, fun t ht => by simp at ht, hfree⟩
  have hphi := phi_free (P := P) (i := 0) h.len hfree
  obtain ⟨R, g1, _⟩ := insF_ex hP hm hT (n * n + 1) a 0 row [] h.len hA (by omega)
  have hnn : n * n ≤ 90 * 90 := Nat.mul_le_mul hn hn
  have g2 := insF_le g1 (10000 - (n * n + 1))
  rw [show n * n + 1 + (10000 - (n * n + 1)) = 10000 by omega] at g2
  exact ⟨R, g1, by unfold lay1; rw [g2]; rfl⟩
theorem insF_stay {P : List (List Nat)} {T : List (List (List Nat))} {s0 : Nat} (h0 : ∀ k i, k < P.length → 0 < i → i < P[k]!.length → P[k]![i]! ≠ s0) : ∀ (f a i : Nat) (row : Row) (path : List (Nat × Nat)) {R : Row × List (Nat × Nat)}, 0 < i → insF P T f a i row path = some R → R.1[s0]! = row[s0]!
  | 0, a, i, row, path, R, _, h => by cases h
  | f + 1, a, i, row, path, R, hi, h => by
    rw [insF] at h
    split at h
    · rename_i hc
      have hne := h0 a i hc.1 hi hc.2.1
      have hset : (row.set P[a]![i]! (some a))[s0]! = row[s0]! := by
        by_cases hs : s0 < row.length
        · rw [row_set hs, if_neg hne]
        · rw [getElem!_neg row s0 hs, getElem!_neg _ s0 (by rw [List.length_set]; exact hs)]
      split at h
      · cases h
        exact hset
      · rename_i b he
        split at h
        · split at h
          · rw [insF_stay h0 f _ _ _ _ (Nat.succ_pos _) h]
            exact hset
          · cases h
        · exact insF_stay h0 f _ _ _ _ (Nat.succ_pos _) h
    · cases h
theorem insF_first {P : List (List Nat)} {T : List (List (List Nat))} {s0 a f : Nat} {row : Row} {R : Row × List (Nat × Nat)} (h0 : ∀ k i, k < P.length → 0 < i → i < P[k]!.length → P[k]![i]! ≠ s0) (h1 : P[a]![0]! = s0) (h : insF P T f a 0 row [] = some R) :
    R.1[s0]! = match row[s0]! with
      | none => some a
      | some b => if b ∈ T[s0]![a]! then some a else some b := by
  cases f with
  | zero => cases h
  | succ f =>
    rw [insF] at h
    split at h
    · rename_i hc
      rw [h1] at h hc
      split at h
      · rename_i he
        try rw [he]
        cases h
        rw [row_set hc.2.2.1, if_pos rfl]
      · rename_i b he
        try rw [he]
        try dsimp only
        split at h
        · rename_i hb
          rw [if_pos hb]
          split at h
          · rw [insF_stay h0 f _ _ _ _ (Nat.succ_pos _) h, row_set hc.2.2.1, if_pos rfl]
          · cases h
        · rename_i hb
          rw [if_neg hb, insF_stay h0 f _ _ _ _ (Nat.succ_pos _) h, he]
    · cases h
theorem Rw.first {n m : Nat} {P : List (List Nat)} {T : List (List (List Nat))} {row : Row} {done : List Nat} {a s0 : Nat} (hP : Probes n P) (hm : P.length = m) (hT : Tabs n m T) (h : Rw n P row done) (hd : done.length < n) (hn : n ≤ 90) (ha : a < m) (hna : a ∉ done)
    (h0 : ∀ k i, k < P.length → 0 < i → i < P[k]!.length → P[k]![i]! ≠ s0) (h1 : P[a]![0]! = s0) : (lay1 P T row a)[s0]! = match row[s0]! with
      | none => some a
      | some b => if b ∈ T[s0]![a]! then some a else some b := by
  obtain ⟨R, g, e⟩ := h.fuel hP hm hT hd hn ha hna
  rw [e]
  exact insF_first h0 h1 g
end Mi
end
section
namespace Mi
open PySem Mi Mi.L 
local macro_rules | `(tactic| wp_walk using $[$ts:term],*) => `(tactic| simp (disch := first | with_reducible assumption | omega | (simp only [List.length_set, List.length_append, List.length_cons, List.length_nil, List.length_map, List.length_range, List.length_replicate, Line]; omega) | (simp only [List.length_set, List.length_append, List.length_cons, List.length_nil, List.length_map, List.length_range, List.length_replicate]; done) | fail) only [au0, au1, au2, au3, au4, au5, au6, List.getElem?_map, dI, dT, List.getElem?_cons_zero, List.getElem?_cons_succ, List.set_cons_zero, List.set_cons_succ, List.map_cons, List.map_nil, List.length_cons, List.length_nil, List.cons_append, List.nil_append, List.append_nil, List.append_assoc, List.reduceReplicate, List.length_set, List.set_set, List.length_append, List.length_map, List.length_range, List.length_replicate, decide_true, decide_false, decide_eq_true_eq, Bool.not_eq_true', decide_eq_false_iff_not, Bool.true_and, Bool.false_and, Bool.not_true, Bool.not_false, Bool.false_eq_true, if_true, if_false, Int.toNat_natCast, Int.reduceToNat, Int.reducePow, Int.reduceMul, Int.reduceAdd, Int.reduceSub, Int.reduceNeg, Int.reduceLT, Int.reduceLE, Nat.sub_self, Nat.add_sub_cancel_left, Nat.reduceAdd, Nat.reduceSub, Nat.reduceLT, Nat.reduceLeDiff, Int.cast_ofNat_Int, true_or, or_true, true_and, and_true, $[$ts:term],*])
theorem insF_inv {n m : Nat} {P : List (List Nat)} {T : List (List (List Nat))} (hP : Probes n P) (hm : P.length = m) (I : Nat → Nat → Row → Prop) (Z : Row → Prop)
    (h0 : ∀ a i row s, Ask P row a i → row.length = n → i < n → P[a]![i]! = s → s < n → I a i row → row[s]! = none → Z (row.set s (some a)))
    (h1 : ∀ a i row s b, Ask P row a i → row.length = n → i < n → P[a]![i]! = s → s < n → I a i row → row[s]! = some b → b ∈ T[s]![a]! → a ≠ b → b < m → I b (P[b]!.idxOf s + 1) (row.set s (some a)))
    (h2 : ∀ a i row s b, Ask P row a i → row.length = n → i < n → P[a]![i]! = s → s < n → I a i row → row[s]! = some b → b ∉ T[s]![a]! → a ≠ b → b < m → I a (i + 1) row) :
    ∀ (f a i : Nat) (row : Row) (path : List (Nat × Nat)) (R : Row × List (Nat × Nat)), row.length = n → Ask P row a i → I a i row → insF P T f a i row path = some R → Z R.1
  | 0, a, i, row, path, R, hn, h, hI, e => by cases e
  | f + 1, a, i, row, path, R, hn, h, hI, e => by
    have hi := h.lt hP hn
    rw [insF] at e
    split at e
    case isFalse => cases e
    rename_i hc
    have hs : P[a]![i]! < row.length := hc.2.2.1
    have hput := h.put hP hn hi
    have hpass : row[P[a]![i]!]! ≠ none → Ask P row a (i + 1) := fun h0 => ⟨h.lay, h.new, h.ak, fun t ht => by
      rcases take_succ_mem (by rw [hP.len h.ak]; exact hi) ht with ht | rfl
      · exact h.full t ht
      · exact h0, h.free⟩
    clear hc
    generalize hsd : P[a]![i]! = s at *
    have hL : (row.set s (some a)).length = row.length := List.length_set
    cases hr : row[s]! with
    | none =>
      rw [hr] at e
      cases e
      exact h0 a i row s h hn hi hsd (by omega) hI hr
    | some b =>
      rw [hr] at e
      dsimp only at e
      have hb := h.lay.kb s b hs hr
      have hsb : s ∈ P[b]! := hP.mem hb (by omega)
      have hab : a ≠ b := fun z => h.new s hs (by rw [z]; exact hr)
      split at e
      · rename_i hbt
        rw [if_pos ⟨hb, hsb⟩] at e
        have hib : P[b]!.idxOf s < n := by rw [← hP.len hb]; exact List.idxOf_lt_length_iff.mpr hsb
        have hA : Ask P (row.set s (some a)) b (P[b]!.idxOf s + 1) := by
          refine ⟨hput, fun t ht e => ?_, hb, fun t ht e => ?_, ?_⟩
          · rw [hL] at ht
            rw [row_set ht] at e
            split at e
            · cases e
              exact hab rfl
            · rename_i e0
              exact e0 (h.lay.inj s t b hs ht hr e)
          · rcases take_succ_mem (by rw [hP.len hb]; exact hib) ht with ht | rfl
            · have htl : t < row.length := by rw [hn]; exact hP.lt hb (List.mem_of_mem_take ht)
              rw [row_set htl] at e
              split at e
              · cases e
              · exact h.lay.full s b hs hr t ht e
            · have e1 : P[b]![P[b]!.idxOf s]! = s := by
                rw [getElem!_pos P[b]! _ (by rw [hP.len hb]; exact hib)]
                exact List.getElem_idxOf _
              rw [e1, row_set hs, if_pos rfl] at e
              cases e
          · obtain ⟨t, ht, e⟩ := h.free
            refine ⟨t, by rw [hL]; exact ht, ?_⟩
            rw [row_set ht, if_neg (by rintro rfl; rw [hr] at e; cases e)]
            exact e
        exact insF_inv hP hm I Z h0 h1 h2 f b _ _ _ R (by rw [hL]; exact hn) hA (h1 a i row s b h hn hi hsd (by omega) hI hr hbt hab (by omega)) e
      · rename_i hbt
        exact insF_inv hP hm I Z h0 h1 h2 f a (i + 1) row path R hn (hpass (by rw [hr]; simp)) (h2 a i row s b h hn hi hsd (by omega) hI hr hbt hab (by omega)) e
structure Even (n m : Nat) (T : List (List (List Nat))) : Prop extends Tabs n m T where
  tot : ∀ s a b, s < n → a < m → b < m → a ≠ b → (b ∈ T[s]![a]! ↔ a ∉ T[s]![b]!)
  tr : ∀ s a b c, s < n → a < m → b < m → c < m → b ∈ T[s]![a]! → c ∈ T[s]![b]! → c ∈ T[s]![a]!
def St (n : Nat) (P : List (List Nat)) (T : List (List (List Nat))) (row : Row) : Prop := ∀ s k, s < n → row[s]! = some k → ∀ t ∈ P[k]!.take (P[k]!.idxOf s), ∃ h, row[t]! = some h ∧ k ∈ T[t]![h]!
def AskS (P : List (List Nat)) (T : List (List (List Nat))) (row : Row) (a i : Nat) : Prop := ∀ t ∈ P[a]!.take i, ∃ h, row[t]! = some h ∧ a ∈ T[t]![h]!
theorem mem_takeI {xs : List Nat} {t i : Nat} (hn : xs.Nodup) (ht : t ∈ xs) : t ∈ xs.take i ↔ xs.idxOf t < i := by
  constructor
  · intro h
    obtain ⟨j, hj, e⟩ := List.mem_iff_getElem.mp h
    rw [List.length_take] at hj
    rw [List.getElem_take] at e
    have := hn.idxOf_getElem j (by omega)
    rw [e] at this
    omega
  · intro h
    have hl := List.idxOf_lt_length_iff.mpr ht
    exact List.mem_iff_getElem.mpr ⟨xs.idxOf t, by rw [List.length_take]; omega, by rw [List.getElem_take]; exact List.getElem_idxOf _⟩
section
variable {n m : Nat} {P : List (List Nat)} {T : List (List (List Nat))}
theorem Probes.nd (hP : Probes n P) {k : Nat} (hk : k < P.length) : P[k]!.Nodup := (hP.perm k hk).nodup_iff.mpr List.nodup_range
theorem Probes.inj (hP : Probes n P) {k s t : Nat} (hk : k < P.length) (hs : s < n) (h : P[k]!.idxOf s = P[k]!.idxOf t) : s = t := by
  have h1 := hP.mem hk hs
  have hl := List.idxOf_lt_length_iff.mpr h1
  have e1 : P[k]![P[k]!.idxOf s]! = s := by rw [getElem!_pos P[k]! _ hl]; exact List.getElem_idxOf _
  have e2 : P[k]![P[k]!.idxOf t]! = t := by rw [getElem!_pos P[k]! _ (by omega)]; exact List.getElem_idxOf _
  rw [← e1, h, e2]
theorem insF_st (hP : Probes n P) (hm : P.length = m) (hE : Even n m T) {f a i : Nat} {row : Row} {path : List (Nat × Nat)} {R : Row × List (Nat × Nat)} (hn : row.length = n) (hA : Ask P row a i) (hS : St n P T row) (hQ : AskS P T row a i)
    (h : insF P T f a i row path = some R) : St n P T R.1 := by
  refine insF_inv hP hm (fun a i row => St n P T row ∧ AskS P T row a i) (St n P T) ?_ ?_ ?_ f a i row path R hn hA ⟨hS, hQ⟩ h
  · rintro a i row s hA hn hi hs hsn ⟨hS, hQ⟩ hr u k hu e t ht
    have hidx := hP.idx hA.ak hi
    rw [row_set (by omega)] at e
    split at e
    · rename_i e0
      cases e
      subst e0
      rw [← hs, hidx] at ht
      have htn : t < n := hP.lt hA.ak (List.mem_of_mem_take ht)
      obtain ⟨b, h1, h2⟩ := hQ t ht
      refine ⟨b, ?_, h2⟩
      rw [row_set (by omega), if_neg (by rintro rfl; rw [hr] at h1; cases h1)]
      exact h1
    · obtain ⟨b, h1, h2⟩ := hS u k hu e t ht
      have htn : t < n := hP.lt (hA.lay.kb u k (by omega) e) (List.mem_of_mem_take ht)
      refine ⟨b, ?_, h2⟩
      rw [row_set (by omega), if_neg (by rintro rfl; rw [hr] at h1; cases h1)]
      exact h1
  · rintro a i row s b hA hn hi hs hsn ⟨hS, hQ⟩ hr hbt hab hbm
    have hidx := hP.idx hA.ak hi
    have up : ∀ t k, t < n → k < m → (∃ h, row[t]! = some h ∧ k ∈ T[t]![h]!) → ∃ h, (row.set s (some a))[t]! = some h ∧ k ∈ T[t]![h]! := fun t k ht hk ⟨h, h1, h2⟩ => by
      rw [row_set (by omega)]
      split
      · rename_i e0
        subst e0
        rw [hr] at h1
        cases h1
        exact ⟨a, rfl, hE.tr s a b k hsn (by rw [← hm]; exact hA.ak) hbm hk hbt h2⟩
      · exact ⟨h, h1, h2⟩
    refine ⟨fun u k hu e t ht => ?_, fun t ht => ?_⟩
    · rw [row_set (by omega)] at e
      split at e
      · rename_i e0
        cases e
        subst e0
        rw [← hs, hidx] at ht
        exact up t a (hP.lt hA.ak (List.mem_of_mem_take ht)) (by rw [← hm]; exact hA.ak) (hQ t ht)
      · have hk := hA.lay.kb u k (by omega) e
        exact up t k (hP.lt hk (List.mem_of_mem_take ht)) (by omega) (hS u k hu e t ht)
    · have hb : b < P.length := by omega
      have hsb := hP.mem hb hsn
      rcases take_succ_mem (List.idxOf_lt_length_iff.mpr hsb) ht with ht | e
      · exact up t b (hP.lt hb (List.mem_of_mem_take ht)) hbm (hS s b hsn hr t ht)
      · rw [getElem!_pos P[b]! _ (List.idxOf_lt_length_iff.mpr hsb), List.getElem_idxOf] at e
        subst e
        exact ⟨a, by rw [row_set (by omega), if_pos rfl], hbt⟩
  · rintro a i row s b hA hn hi hs hsn ⟨hS, hQ⟩ hr hbt hab hbm
    refine ⟨hS, fun t ht => ?_⟩
    rcases take_succ_mem (by rw [hP.len hA.ak]; exact hi) ht with ht | e
    · exact hQ t ht
    · rw [hs] at e
      subst e
      exact ⟨b, hr, (hE.tot _ b a hsn hbm (by rw [← hm]; exact hA.ak) (Ne.symm hab)).mpr hbt⟩
structure Op (n : Nat) (P : List (List Nat)) (M : Row) (a i : Nat) (row : Row) : Prop where
  keys : ∀ s k, s < n → row[s]! = some k → ∃ u, u < n ∧ M[u]! = some k ∧ P[k]!.idxOf s ≤ P[k]!.idxOf u
  ask : ∃ u, u < n ∧ M[u]! = some a ∧ i ≤ P[a]!.idxOf u
def Ahead (n : Nat) (P : List (List Nat)) (M row : Row) : Prop := ∀ s k, s < n → row[s]! = some k → ∃ u, u < n ∧ M[u]! = some k ∧ P[k]!.idxOf s ≤ P[k]!.idxOf u
theorem insF_op (hP : Probes n P) (hm : P.length = m) (hE : Even n m T) {M : Row} (hM : Lay P M) (hMn : M.length = n) (hMs : St n P T M) {f a i : Nat} {row : Row} {path : List (Nat × Nat)} {R : Row × List (Nat × Nat)} (hn : row.length = n) (hA : Ask P row a i) (hO : Op n P M a i row)
    (h : insF P T f a i row path = some R) : Ahead n P M R.1 := by
  refine insF_inv hP hm (fun a i row => Op n P M a i row) (Ahead n P M) ?_ ?_ ?_ f a i row path R hn hA hO h
  · rintro a i row s hA hn hi hs hsn hO hr u k hu e
    rw [row_set (by omega)] at e
    split at e
    · rename_i e0
      cases e
      subst e0
      have hidx := hP.idx hA.ak hi
      rw [hs] at hidx
      rw [hidx]
      exact hO.ask
    · exact hO.keys u k hu e
  · rintro a i row s b hA hn hi hs hsn hO hr hbt hab hbm
    have hidx := hP.idx hA.ak hi
    rw [hs] at hidx
    have ham : a < m := by rw [← hm]; exact hA.ak
    refine ⟨fun u k hu e => ?_, ?_⟩
    · rw [row_set (by omega)] at e
      split at e
      · rename_i e0
        cases e
        subst e0
        rw [hidx]
        exact hO.ask
      · exact hO.keys u k hu e
    · obtain ⟨u, hu, h1, h2⟩ := hO.keys s b hsn hr
      refine ⟨u, hu, h1, ?_⟩
      have hb : b < P.length := by omega
      by_cases e : P[b]!.idxOf s = P[b]!.idxOf u
      · have e := hP.inj hb hsn e
        subst e
        obtain ⟨v, hv, g1, g2⟩ := hO.ask
        have hvs : s ≠ v := by rintro rfl; rw [h1] at g1; cases g1; exact hab rfl
        have hlt : P[a]!.idxOf s < P[a]!.idxOf v := by
          rw [hidx]
          rcases Nat.lt_or_eq_of_le g2 with g | g
          · exact g
          · exact absurd (hP.inj hA.ak hsn (by rw [hidx, g])) hvs
        obtain ⟨c, q1, q2⟩ := hMs v a hv g1 s ((mem_takeI (hP.nd hA.ak) (hP.mem hA.ak hsn)).mpr hlt)
        rw [h1] at q1
        cases q1
        exact absurd q2 ((hE.tot s a b hsn ham hbm hab).mp hbt)
      · omega
  · rintro a i row s b hA hn hi hs hsn hO hr hbt hab hbm
    have hidx := hP.idx hA.ak hi
    rw [hs] at hidx
    have ham : a < m := by rw [← hm]; exact hA.ak
    refine ⟨hO.keys, ?_⟩
    obtain ⟨v, hv, g1, g2⟩ := hO.ask
    refine ⟨v, hv, g1, ?_⟩
    rcases Nat.lt_or_eq_of_le g2 with g | g
    · omega
    · exfalso
      have e := hP.inj hA.ak hsn (hidx.trans g)
      rw [← e] at g1
      clear g g2 hv e v
      obtain ⟨u, hu, h1, h2⟩ := hO.keys s b hsn hr
      have hb : b < P.length := by omega
      have hus : s ≠ u := by rintro rfl; rw [g1] at h1; cases h1; exact hab rfl
      have hlt : P[b]!.idxOf s < P[b]!.idxOf u := by
        rcases Nat.lt_or_eq_of_le h2 with g | g
        · exact g
        · exact absurd (hP.inj hb hsn g) hus
      obtain ⟨c, q1, q2⟩ := hMs u b hu h1 s ((mem_takeI (hP.nd hb) (hP.mem hb hsn)).mpr hlt)
      rw [g1] at q1
      cases q1
      exact hbt q2
structure Best (n m : Nat) (P : List (List Nat)) (T : List (List (List Nat))) (ks : List Nat) (row : Row) : Prop where
  lay : Lay P row
  len : row.length = n
  keys : ∀ k, some k ∈ row ↔ k ∈ ks
  st : St n P T row
  op : ∀ M : Row, Lay P M → M.length = n → St n P T M → (∀ k ∈ ks, some k ∈ M) → Ahead n P M row
theorem Best.step (hP : Probes n P) (hm : P.length = m) (hE : Even n m T) {ks : List Nat} {row : Row} {a f : Nat} {R : Row × List (Nat × Nat)} (h : Best n m P T ks row) (ha : a < m) (hna : a ∉ ks) (hfree : ∃ t, t < row.length ∧ row[t]! = none) (hf : phi P row 0 ≤ f) (hR : insF P T f a 0 row [] = some R) : Best n m P T (ks ++ [a]) R.1 := by
  have hnew : some a ∉ row := fun z => hna ((h.keys a).mp z)
  have hA : Ask P row a 0 := ⟨h.lay, fun s hs e => hnew (mem_row.mpr ⟨s, hs, e⟩), by omega, fun t ht => by simp at ht, hfree⟩
  obtain ⟨R', g1, g2, g3, g4, g5⟩ := insF_ex hP hm hE.toTabs f a 0 row [] h.len hA hf
  rw [hR] at g1
  cases g1
  refine ⟨g2, g3, fun k => ?_, insF_st hP hm hE h.len hA h.st (fun t ht => by simp at ht) hR, fun M h1 h2 h3 h4 => ?_⟩
  · rw [g4, h.keys, List.mem_append, List.mem_singleton]
    exact or_comm
  · refine insF_op hP hm hE h1 h2 h3 h.len hA ⟨h.op M h1 h2 h3 fun k hk => h4 k (List.mem_append_left _ hk), ?_⟩ hR
    obtain ⟨u, hu, e⟩ := mem_row.mp (h4 a (by simp))
    exact ⟨u, by omega, e, Nat.zero_le _⟩
theorem Best.nil (n : Nat) : Best n m P T [] (List.replicate n none) := by
  have h0 : ∀ s, s < n → (List.replicate n (none : Option Nat))[s]! = none := fun s hs => by rw [getElem!_pos _ s (by simpa using hs)]; simp
  refine ⟨⟨fun s t k hs ht e1 => ?_, fun s k hs e => ?_, fun s k hs e => ?_⟩, by simp, fun k => by simp, fun s k hs e => ?_, fun M _ _ _ _ s k hs e => ?_⟩
  · rw [h0 s (by simpa using hs)] at e1; cases e1
  · rw [h0 s (by simpa using hs)] at e; cases e
  · rw [h0 s (by simpa using hs)] at e; cases e
  · rw [h0 s hs] at e; cases e
  · rw [h0 s hs] at e; cases e
end
end Mi
end
section
namespace Mi
open PySem Mi Mi.L 
local macro_rules | `(tactic| wp_walk using $[$ts:term],*) => `(tactic| simp (disch := first | with_reducible assumption | omega | (simp only [List.length_set, List.length_append, List.length_cons, List.length_nil, List.length_map, List.length_range, List.length_replicate, Line]; omega) | (simp only [List.length_set, List.length_append, List.length_cons, List.length_nil, List.length_map, List.length_range, List.length_replicate]; done) | fail) only [au0, au1, au2, au3, au4, au5, au6, List.getElem?_map, dI, dT, List.getElem?_cons_zero, List.getElem?_cons_succ, List.set_cons_zero, List.set_cons_succ, List.map_cons, List.map_nil, List.length_cons, List.length_nil, List.cons_append, List.nil_append, List.append_nil, List.append_assoc, List.reduceReplicate, List.length_set, List.set_set, List.length_append, List.length_map, List.length_range, List.length_replicate, decide_true, decide_false, decide_eq_true_eq, Bool.not_eq_true', decide_eq_false_iff_not, Bool.true_and, Bool.false_and, Bool.not_true, Bool.not_false, Bool.false_eq_true, if_true, if_false, Int.toNat_natCast, Int.reduceToNat, Int.reducePow, Int.reduceMul, Int.reduceAdd, Int.reduceSub, Int.reduceNeg, Int.reduceLT, Int.reduceLE, Nat.sub_self, Nat.add_sub_cancel_left, Nat.reduceAdd, Nat.reduceSub, Nat.reduceLT, Nat.reduceLeDiff, Int.cast_ofNat_Int, true_or, or_true, true_and, and_true, $[$ts:term],*])
def lkN : List (Nat × Nat) → Nat → Option Nat
  | [], _ => none
  | p :: r, s => if p.1 = s then some p.2 else lkN r s
theorem lkN_cons (p : Nat × Nat) (r : List (Nat × Nat)) (s : Nat) : lkN (p :: r) s = if p.1 = s then some p.2 else lkN r s := rfl
def putN (L : List (Nat × Nat)) (s k : Nat) : List (Nat × Nat) := if (lkN L s).isSome = true then L.map fun p => if p.1 = s then (p.1, k) else p else L ++ [(s, k)]
theorem lkN_map (L : List (Nat × Nat)) (s k t : Nat) : lkN (L.map fun p => if p.1 = s then (p.1, k) else p) t = (lkN L t).map fun x => if t = s then k else x := by
  induction L with
  | nil => rfl
  | cons p r ih =>
    rw [List.map_cons]
    by_cases h : p.1 = s
    · rw [if_pos h]
      rw [lkN_cons, lkN_cons]
      by_cases e : p.1 = t
      · rw [if_pos e, if_pos e]
        simp [← e, h]
      · rw [if_neg e, if_neg e]
        exact ih
    · rw [if_neg h]
      rw [lkN_cons, lkN_cons]
      by_cases e : p.1 = t
      · rw [if_pos e, if_pos e]
        have : ¬ t = s := fun z => h (e.trans z)
        simp [this]
      · rw [if_neg e, if_neg e]
        exact ih
theorem lkN_app (L : List (Nat × Nat)) (s k t : Nat) : lkN (L ++ [(s, k)]) t = (lkN L t).or (if s = t then some k else none) := by
  induction L with
  | nil => rfl
  | cons p r ih =>
    rw [List.cons_append, lkN_cons, lkN_cons]
    by_cases e : p.1 = t
    · rw [if_pos e, if_pos e]
      rfl
    · rw [if_neg e, if_neg e]
      exact ih
theorem lkN_put (L : List (Nat × Nat)) (s k t : Nat) : lkN (putN L s k) t = if t = s then some k else lkN L t := by
  unfold putN
  by_cases h : (lkN L s).isSome = true
  · rw [if_pos h, lkN_map]
    by_cases e : t = s
    · subst e
      rw [if_pos rfl]
      obtain ⟨x, hx⟩ := Option.isSome_iff_exists.mp h
      rw [hx]
      simp
    · rw [if_neg e]
      simp [e]
  · rw [if_neg h, lkN_app]
    have h0 : lkN L s = none := by simpa using h
    by_cases e : t = s
    · subst e
      rw [if_pos rfl, h0]
      simp
    · rw [if_neg e, if_neg (Ne.symm e)]
      simp
theorem mem_keysN {L : List (Nat × Nat)} {s : Nat} : s ∈ L.map (·.1) ↔ (lkN L s).isSome = true := by
  induction L with
  | nil => simp [lkN]
  | cons p r ih =>
    rw [List.map_cons, List.mem_cons, ih]
    rw [lkN_cons]
    by_cases e : p.1 = s
    · simp [e]
    · rw [if_neg e]
      exact ⟨fun h => h.resolve_left (Ne.symm e), .inr⟩
theorem putN_nd {L : List (Nat × Nat)} (h : (L.map (·.1)).Nodup) (s k : Nat) : ((putN L s k).map (·.1)).Nodup := by
  unfold putN
  by_cases e : (lkN L s).isSome = true
  · rw [if_pos e, List.map_map]
    have : (L.map ((fun p : Nat × Nat => p.1) ∘ fun p => if p.1 = s then (p.1, k) else p)) = L.map (·.1) := List.map_congr_left fun p _ => by
      show (if p.1 = s then (p.1, k) else p).1 = p.1
      split <;> rfl
    rw [this]
    exact h
  · rw [if_neg e, List.map_append, List.nodup_append]
    refine ⟨h, by simp, fun a ha b hb => ?_⟩
    have hb : b = s := by simpa using hb
    subst hb
    rintro rfl
    exact e (mem_keysN.mp ha)
theorem lkN_mem {L : List (Nat × Nat)} (h : (L.map (·.1)).Nodup) {p : Nat × Nat} (hp : p ∈ L) : lkN L p.1 = some p.2 := by
  induction L with
  | nil => cases hp
  | cons q r ih =>
    rw [List.map_cons, List.nodup_cons] at h
    rw [lkN_cons]
    rcases List.mem_cons.mp hp with rfl | hp
    · rw [if_pos rfl]
    · rw [if_neg, ih h.2 hp]
      intro e
      exact h.1 (e ▸ List.mem_map_of_mem hp)
theorem lkN_in {L : List (Nat × Nat)} {s k : Nat} (h : lkN L s = some k) : (s, k) ∈ L := by
  induction L with
  | nil => cases h
  | cons q r ih =>
    rw [lkN_cons] at h
    split at h
    · rename_i e
      cases h
      subst e
      exact List.mem_cons_self
    · exact List.mem_cons_of_mem _ (ih h)
theorem keys_le {L : List (Nat × Nat)} {n : Nat} (h : (L.map (·.1)).Nodup) (hb : ∀ s, (lkN L s).isSome = true → s < n) : L.length ≤ n := by
  have : (L.map (·.1)).length ≤ (List.range n).length := List.Nodup.length_le_of_subset h fun x hx => List.mem_range.mpr (hb x (mem_keysN.mp hx))
  simpa using this
structure DRep (L : List (Nat × Nat)) (row : Row) : Prop where
  nd : (L.map (·.1)).Nodup
  at_ : ∀ s, lkN L s = row[s]!
theorem row_out {row : Row} {s : Nat} (h : row.length ≤ s) : row[s]! = none := by rw [getElem!_neg row s (by omega)]; rfl
theorem DRep.nil (n : Nat) : DRep [] (List.replicate n none) := ⟨List.nodup_nil, fun s => by
  by_cases h : s < n
  · rw [getElem!_pos _ s (by simpa using h)]; simp [lkN]
  · rw [row_out (by simpa using h)]; rfl⟩
theorem DRep.put {L : List (Nat × Nat)} {row : Row} (h : DRep L row) {s : Nat} (hs : s < row.length) (k : Nat) : DRep (putN L s k) (row.set s (some k)) := ⟨putN_nd h.nd s k, fun t => by
  rw [lkN_put]
  by_cases ht : t < row.length
  · rw [row_set ht]
    by_cases e : t = s
    · rw [if_pos e, if_pos e.symm]
    · rw [if_neg e, if_neg (Ne.symm e)]
      exact h.at_ t
  · rw [if_neg (by omega), row_out (by rw [List.length_set]; omega), h.at_ t, row_out (by omega)]⟩
theorem DRep.le {L : List (Nat × Nat)} {row : Row} (h : DRep L row) : L.length ≤ row.length := keys_le h.nd fun s hs => by
  rw [h.at_ s] at hs
  by_cases e : s < row.length
  · exact e
  · rw [row_out (by omega)] at hs; cases hs
end Mi
end
section
namespace Mi.L
open PySem Mi
noncomputable section
end
end Mi.L
end
section
namespace Mi
open PySem Mi Mi.L 
local macro_rules | `(tactic| wp_walk using $[$ts:term],*) => `(tactic| simp (disch := first | with_reducible assumption | omega | (simp only [List.length_set, List.length_append, List.length_cons, List.length_nil, List.length_map, List.length_range, List.length_replicate, Line]; omega) | (simp only [List.length_set, List.length_append, List.length_cons, List.length_nil, List.length_map, List.length_range, List.length_replicate]; done) | fail) only [au0, au1, au2, au3, au4, au5, au6, List.getElem?_map, dI, dT, List.getElem?_cons_zero, List.getElem?_cons_succ, List.set_cons_zero, List.set_cons_succ, List.map_cons, List.map_nil, List.length_cons, List.length_nil, List.cons_append, List.nil_append, List.append_nil, List.append_assoc, List.reduceReplicate, List.length_set, List.set_set, List.length_append, List.length_map, List.length_range, List.length_replicate, decide_true, decide_false, decide_eq_true_eq, Bool.not_eq_true', decide_eq_false_iff_not, Bool.true_and, Bool.false_and, Bool.not_true, Bool.not_false, Bool.false_eq_true, if_true, if_false, Int.toNat_natCast, Int.reduceToNat, Int.reducePow, Int.reduceMul, Int.reduceAdd, Int.reduceSub, Int.reduceNeg, Int.reduceLT, Int.reduceLE, Nat.sub_self, Nat.add_sub_cancel_left, Nat.reduceAdd, Nat.reduceSub, Nat.reduceLT, Nat.reduceLeDiff, Int.cast_ofNat_Int, true_or, or_true, true_and, and_true, $[$ts:term],*])
theorem mem_beats {o : List Nat} (ho : Ord o) {a b : Nat} (hb : b < o.length) : b ∈ beats o a ↔ o.idxOf a < o.idxOf b := by
  have hn : o.Nodup := ho.nodup_iff.mpr List.nodup_range
  have hm : b ∈ o := ho.mem_iff.mpr (List.mem_range.mpr hb)
  have h1 : b ∈ beats o a ↔ b ∈ o.drop (o.idxOf a + 1) := by
    unfold beats
    exact (sortN_perm _).mem_iff
  rw [h1]
  have h2 := mem_takeI (i := o.idxOf a + 1) hn hm
  have h3 : b ∈ o.take (o.idxOf a + 1) ∨ b ∈ o.drop (o.idxOf a + 1) := by
    rw [← List.mem_append, List.take_append_drop]
    exact hm
  have h4 : ¬ (b ∈ o.take (o.idxOf a + 1) ∧ b ∈ o.drop (o.idxOf a + 1)) := fun ⟨x, y⟩ => by
    have hn2 := hn
    rw [← List.take_append_drop (o.idxOf a + 1) o, List.nodup_append] at hn2
    exact hn2.2.2 b x b y rfl
  constructor
  · intro h
    rcases Nat.lt_or_ge (o.idxOf a) (o.idxOf b) with g | g
    · exact g
    · exact absurd ⟨h2.mpr (by omega), h⟩ h4
  · intro h
    rcases h3 with g | g
    · have := h2.mp g
      omega
    · exact g
structure Ords (n m : Nat) (os : List (List Nat)) : Prop where
  len : os.length = n
  ord : ∀ o ∈ os, Ord o ∧ o.length = m
def tabs (os : List (List Nat)) : List (List (List Nat)) := os.map tab
section
variable {n m : Nat} {os : List (List Nat)}
theorem Ords.at (h : Ords n m os) {s : Nat} (hs : s < n) : Ord os[s]! ∧ os[s]!.length = m := by
  rw [getElem!_pos os s (by rw [h.len]; exact hs)]
  exact h.ord _ (List.getElem_mem _)
theorem tabs_at (h : Ords n m os) {s : Nat} (hs : s < n) : (tabs os)[s]! = tab os[s]! := by
  unfold tabs
  rw [getElem!_pos _ s (by rw [List.length_map, h.len]; exact hs), getElem!_pos os s (by rw [h.len]; exact hs), List.getElem_map]
theorem tabs_bang (h : Ords n m os) {s a : Nat} (hs : s < n) (ha : a < m) : (tabs os)[s]![a]! = beats os[s]! a := by
  rw [tabs_at h hs, tab_bang (by rw [(h.at hs).2]; exact ha)]
theorem idx_inj {o : List Nat} (ho : Ord o) {a b : Nat} (ha : a < o.length) (h : o.idxOf a = o.idxOf b) : a = b := by
  have hm : a ∈ o := ho.mem_iff.mpr (List.mem_range.mpr ha)
  have hl := List.idxOf_lt_length_iff.mpr hm
  have e1 : o[o.idxOf a]! = a := by rw [getElem!_pos o _ hl]; exact List.getElem_idxOf _
  have e2 : o[o.idxOf b]! = b := by rw [getElem!_pos o _ (by omega)]; exact List.getElem_idxOf _
  rw [← e1, h, e2]
theorem Ords.even (h : Ords n m os) : Even n m (tabs os) where
  len := by unfold tabs; rw [List.length_map, h.len]
  tl := fun s hs => by rw [tabs_at h hs, tab, List.length_map, List.length_range, (h.at hs).2]
  tot := fun s a b hs ha hb hab => by
    obtain ⟨h1, h2⟩ := h.at hs
    rw [tabs_bang h hs ha, tabs_bang h hs hb, mem_beats h1 (by omega), mem_beats h1 (by omega)]
    have : os[s]!.idxOf a ≠ os[s]!.idxOf b := fun e => hab (idx_inj h1 (by omega) e)
    omega
  tr := fun s a b c hs ha hb hc => by
    obtain ⟨h1, h2⟩ := h.at hs
    rw [tabs_bang h hs ha, tabs_bang h hs hb, mem_beats h1 (by omega), mem_beats h1 (by omega), mem_beats h1 (by omega)]
    omega
end
theorem for_ret {α : Type} {tg : Tg} {body : Sm} (f : α → PyData) (I : Nat → Env → Store → Prop) (R : Fl × Env × Store → Prop) : ∀ (xs : List α) (k : Nat) (σ : Env) (S : Store), I k σ S →
    (∀ (j : Nat) (x : α) (σ : Env) (S : Store), xs[j]? = some x → I (k + j) σ S → Rn (bx (tg (f x) σ) fun σ1 => body σ1 S) fun p => ((p.1 = .nx ∨ p.1 = .ct) ∧ I (k + j + 1) p.2.1 p.2.2) ∨ (∃ d, p.1 = .rt d ∧ R p)) →
    Rn (forL tg [] body (xs.map f) σ S) fun p => (p.1 = .nx ∧ I (k + xs.length) p.2.1 p.2.2) ∨ (∃ d, p.1 = .rt d ∧ R p)
  | [], k, σ, S, h, _ => .inl ⟨rfl, h⟩
  | x :: xs, k, σ, S, h, hb => by
    have h0 := hb 0 x σ S rfl h
    obtain ⟨⟨fl, σ2, S2⟩, e1, h1⟩ := h0.ex
    obtain ⟨σ1, e2, e3⟩ := bx_okE e1
    have step : forL tg [] body ((x :: xs).map f) σ S = match fl with
      | .nx => forL tg [] body (xs.map f) σ2 S2
      | .ct => forL tg [] body (xs.map f) σ2 S2
      | .bk => .ok (.nx, σ2, S2)
      | .rt d => .ok (.rt d, σ2, S2) := by
      rw [List.map_cons]
      show bx (tg (f x) σ) _ = _
      rw [bx_of e2, bs_of e3]
      cases fl <;> rfl
    rw [step]
    rcases h1 with ⟨hf, hI⟩ | ⟨d, hf, hR⟩
    · have ih := for_ret f I R xs (k + 1) σ2 S2 hI fun j y σ S hy hi => by
        have e : k + 1 + j = k + (j + 1) := by omega
        rw [e] at hi ⊢
        exact hb (j + 1) y σ S (by simpa using hy) hi
      have e : k + 1 + xs.length = k + (x :: xs).length := by rw [List.length_cons]; omega
      rw [e] at ih
      rcases hf with hf | hf
      · have hf : fl = .nx := hf
        subst hf
        exact ih
      · have hf : fl = .ct := hf
        subst hf
        exact ih
    · have hf : fl = .rt d := hf
      subst hf
      exact .inr ⟨d, rfl, hR⟩
end Mi
end
section
namespace Mi
open PySem Mi Mi.L 
local macro_rules | `(tactic| wp_walk using $[$ts:term],*) => `(tactic| simp (disch := first | with_reducible assumption | omega | (simp only [List.length_set, List.length_append, List.length_cons, List.length_nil, List.length_map, List.length_range, List.length_replicate, Line]; omega) | (simp only [List.length_set, List.length_append, List.length_cons, List.length_nil, List.length_map, List.length_range, List.length_replicate]; done) | fail) only [au0, au1, au2, au3, au4, au5, au6, List.getElem?_map, dI, dT, List.getElem?_cons_zero, List.getElem?_cons_succ, List.set_cons_zero, List.set_cons_succ, List.map_cons, List.map_nil, List.length_cons, List.length_nil, List.cons_append, List.nil_append, List.append_nil, List.append_assoc, List.reduceReplicate, List.length_set, List.set_set, List.length_append, List.length_map, List.length_range, List.length_replicate, decide_true, decide_false, decide_eq_true_eq, Bool.not_eq_true', decide_eq_false_iff_not, Bool.true_and, Bool.false_and, Bool.not_true, Bool.not_false, Bool.false_eq_true, if_true, if_false, Int.toNat_natCast, Int.reduceToNat, Int.reducePow, Int.reduceMul, Int.reduceAdd, Int.reduceSub, Int.reduceNeg, Int.reduceLT, Int.reduceLE, Nat.sub_self, Nat.add_sub_cancel_left, Nat.reduceAdd, Nat.reduceSub, Nat.reduceLT, Nat.reduceLeDiff, Int.cast_ofNat_Int, true_or, or_true, true_and, and_true, $[$ts:term],*])
theorem pNotIn_nat (k : Nat) (xs : List Nat) : pNotIn (.int k) (.tuple (xs.map dI)) = .ok (.bool (!decide (k ∈ xs))) := by
  show when_ (flat? (dI k) && flat? (.tuple (xs.map dI))) _ = _
  rw [flat_int, flat_nats, inItems_nat]
  rfl
theorem Ask.swap {n : Nat} {P : List (List Nat)} {row : Row} {a i s b : Nat} (hP : Probes n P) (hn : row.length = n) (h : Ask P row a i) (hi : i < n) (hsd : P[a]![i]! = s) (hr : row[s]! = some b) : Ask P (row.set s (some a)) b (P[b]!.idxOf s + 1) ∧ a ≠ b ∧ b < P.length ∧ s ∈ P[b]! ∧ s < n := by
  have hs : P[a]![i]! < row.length := by
    rw [hn]
    refine hP.lt h.ak ?_
    rw [getElem!_pos P[a]! i (by rw [hP.len h.ak]; exact hi)]
    exact List.getElem_mem _
  have hput := h.put hP hn hi
  rw [hsd] at hs hput
  have hL : (row.set s (some a)).length = row.length := List.length_set
  have hb := h.lay.kb s b hs hr
  have hsb : s ∈ P[b]! := hP.mem hb (by omega)
  have hab : a ≠ b := fun z => h.new s hs (by rw [z]; exact hr)
  have hib : P[b]!.idxOf s < n := by rw [← hP.len hb]; exact List.idxOf_lt_length_iff.mpr hsb
  refine ⟨⟨hput, fun t ht e => ?_, hb, fun t ht e => ?_, ?_⟩, hab, hb, hsb, by omega⟩
  · rw [hL] at ht
    rw [row_set ht] at e
    split at e
    · cases e
      exact hab rfl
    · rename_i e0
      exact e0 (h.lay.inj s t b hs ht hr e)
  · rcases take_succ_mem (by rw [hP.len hb]; exact hib) ht with ht | rfl
    · have htl : t < row.length := by rw [hn]; exact hP.lt hb (List.mem_of_mem_take ht)
      rw [row_set htl] at e
      split at e
      · cases e
      · exact h.lay.full s b hs hr t ht e
    · have e1 : P[b]![P[b]!.idxOf s]! = s := by
        rw [getElem!_pos P[b]! _ (by rw [hP.len hb]; exact hib)]
        exact List.getElem_idxOf _
      rw [e1, row_set hs, if_pos rfl] at e
      cases e
  · obtain ⟨t, ht, e⟩ := h.free
    refine ⟨t, by rw [hL]; exact ht, ?_⟩
    rw [row_set ht, if_neg (by rintro rfl; rw [hr] at e; cases e)]
    exact e
theorem Ask.slot {n : Nat} {P : List (List Nat)} {row : Row} {a i : Nat} (hP : Probes n P) (h : Ask P row a i) (hi : i < n) : P[a]![i]! < n := by
  refine hP.lt h.ak ?_
  rw [getElem!_pos P[a]! i (by rw [hP.len h.ak]; exact hi)]
  exact List.getElem_mem _
section
variable {n m : Nat} {P : List (List Nat)} {T : List (List (List Nat))} (hP : Probes n P) (hm : P.length = m) (hE : Even n m T) {S : Store}
include hP hm hE
end
end Mi
end
section
namespace Mi
open PySem Mi Mi.L 
local macro_rules | `(tactic| wp_walk using $[$ts:term],*) => `(tactic| simp (disch := first | with_reducible assumption | omega | (simp only [List.length_set, List.length_append, List.length_cons, List.length_nil, List.length_map, List.length_range, List.length_replicate, Line]; omega) | (simp only [List.length_set, List.length_append, List.length_cons, List.length_nil, List.length_map, List.length_range, List.length_replicate]; done) | fail) only [au0, au1, au2, au3, au4, au5, au6, List.getElem?_map, dI, dT, List.getElem?_cons_zero, List.getElem?_cons_succ, List.set_cons_zero, List.set_cons_succ, List.map_cons, List.map_nil, List.length_cons, List.length_nil, List.cons_append, List.nil_append, List.append_nil, List.append_assoc, List.reduceReplicate, List.length_set, List.set_set, List.length_append, List.length_map, List.length_range, List.length_replicate, decide_true, decide_false, decide_eq_true_eq, Bool.not_eq_true', decide_eq_false_iff_not, Bool.true_and, Bool.false_and, Bool.not_true, Bool.not_false, Bool.false_eq_true, if_true, if_false, Int.toNat_natCast, Int.reduceToNat, Int.reducePow, Int.reduceMul, Int.reduceAdd, Int.reduceSub, Int.reduceNeg, Int.reduceLT, Int.reduceLE, Nat.sub_self, Nat.add_sub_cancel_left, Nat.reduceAdd, Nat.reduceSub, Nat.reduceLT, Nat.reduceLeDiff, Int.cast_ofNat_Int, true_or, or_true, true_and, and_true, $[$ts:term],*])
end Mi
end
section
namespace Mi
open PySem Mi Mi.L 
local macro_rules | `(tactic| wp_walk using $[$ts:term],*) => `(tactic| simp (disch := first | with_reducible assumption | omega | (simp only [List.length_set, List.length_append, List.length_cons, List.length_nil, List.length_map, List.length_range, List.length_replicate, Line]; omega) | (simp only [List.length_set, List.length_append, List.length_cons, List.length_nil, List.length_map, List.length_range, List.length_replicate]; done) | fail) only [au0, au1, au2, au3, au4, au5, au6, List.getElem?_map, dI, dT, List.getElem?_cons_zero, List.getElem?_cons_succ, List.set_cons_zero, List.set_cons_succ, List.map_cons, List.map_nil, List.length_cons, List.length_nil, List.cons_append, List.nil_append, List.append_nil, List.append_assoc, List.reduceReplicate, List.length_set, List.set_set, List.length_append, List.length_map, List.length_range, List.length_replicate, decide_true, decide_false, decide_eq_true_eq, Bool.not_eq_true', decide_eq_false_iff_not, Bool.true_and, Bool.false_and, Bool.not_true, Bool.not_false, Bool.false_eq_true, if_true, if_false, Int.toNat_natCast, Int.reduceToNat, Int.reducePow, Int.reduceMul, Int.reduceAdd, Int.reduceSub, Int.reduceNeg, Int.reduceLT, Int.reduceLE, Nat.sub_self, Nat.add_sub_cancel_left, Nat.reduceAdd, Nat.reduceSub, Nat.reduceLT, Nat.reduceLeDiff, Int.cast_ofNat_Int, true_or, or_true, true_and, and_true, $[$ts:term],*])
def tri (p : Int × Nat × Nat) : PyData := .tuple [.int p.1, .int p.2.1, .int p.2.2]
theorem sortOk_tri (xs : List (Int × Nat × Nat)) : sortOk (xs.map tri) = true := by
  unfold sortOk
  simp only [Bool.and_eq_true, List.all_eq_true, Bool.or_eq_true, List.mem_map, forall_exists_index, and_imp]
  refine ⟨⟨?_, .inl ?_⟩, ?_⟩
  · rintro _ p _ rfl _ q _ rfl
    rfl
  · rintro _ p _ rfl
    rfl
  · rintro _ p _ rfl
    simp [tri, PyData.depth, PyData.depthAll]
end Mi
end
section
namespace Mi
open PySem Mi Mi.L 
local macro_rules | `(tactic| wp_walk using $[$ts:term],*) => `(tactic| simp (disch := first | with_reducible assumption | omega | (simp only [List.length_set, List.length_append, List.length_cons, List.length_nil, List.length_map, List.length_range, List.length_replicate, Line]; omega) | (simp only [List.length_set, List.length_append, List.length_cons, List.length_nil, List.length_map, List.length_range, List.length_replicate]; done) | fail) only [au0, au1, au2, au3, au4, au5, au6, List.getElem?_map, dI, dT, List.getElem?_cons_zero, List.getElem?_cons_succ, List.set_cons_zero, List.set_cons_succ, List.map_cons, List.map_nil, List.length_cons, List.length_nil, List.cons_append, List.nil_append, List.append_nil, List.append_assoc, List.reduceReplicate, List.length_set, List.set_set, List.length_append, List.length_map, List.length_range, List.length_replicate, decide_true, decide_false, decide_eq_true_eq, Bool.not_eq_true', decide_eq_false_iff_not, Bool.true_and, Bool.false_and, Bool.not_true, Bool.not_false, Bool.false_eq_true, if_true, if_false, Int.toNat_natCast, Int.reduceToNat, Int.reducePow, Int.reduceMul, Int.reduceAdd, Int.reduceSub, Int.reduceNeg, Int.reduceLT, Int.reduceLE, Nat.sub_self, Nat.add_sub_cancel_left, Nat.reduceAdd, Nat.reduceSub, Nat.reduceLT, Nat.reduceLeDiff, Int.cast_ofNat_Int, true_or, or_true, true_and, and_true, $[$ts:term],*])
theorem eqvAll_rows : ∀ u v : Row, PyData.eqvAll (u.map dO) (v.map dO) = decide (u = v)
  | [], [] => rfl
  | [], _ :: _ => by simp [PyData.eqvAll]
  | _ :: _, [] => by simp [PyData.eqvAll]
  | x :: u, y :: v => by
    have e : PyData.eqv (dO x) (dO y) = decide (x = y) := by
      cases y with
      | none => exact eqv_dO1 x
      | some k => exact eqv_dO x k
    rw [List.map_cons, List.map_cons, PyData.eqvAll, eqvAll_rows u v, e]
    by_cases h1 : x = y
    · by_cases h2 : u = v
      · subst h1 h2; simp
      · simp [h1, h2]
    · simp [h1]
theorem pNe_rows (u v : Row) : pNe (.tuple (u.map dO)) (.tuple (v.map dO)) = .ok (.bool (!decide (u = v))) := by
  unfold pNe
  rw [flat_row u, flat_row v, PyData.eqv, eqvAll_rows]
  rfl
end Mi
end
section
namespace Mi.L
open PySem Mi
noncomputable section
end
end Mi.L
end
section
namespace Mi
open PySem Mi Mi.L 
local macro_rules | `(tactic| wp_walk using $[$ts:term],*) => `(tactic| simp (disch := first | with_reducible assumption | omega | (simp only [List.length_set, List.length_append, List.length_cons, List.length_nil, List.length_map, List.length_range, List.length_replicate, Line]; omega) | (simp only [List.length_set, List.length_append, List.length_cons, List.length_nil, List.length_map, List.length_range, List.length_replicate]; done) | fail) only [au0, au1, au2, au3, au4, au5, au6, List.getElem?_map, dI, dT, List.getElem?_cons_zero, List.getElem?_cons_succ, List.set_cons_zero, List.set_cons_succ, List.map_cons, List.map_nil, List.length_cons, List.length_nil, List.cons_append, List.nil_append, List.append_nil, List.append_assoc, List.reduceReplicate, List.length_set, List.set_set, List.length_append, List.length_map, List.length_range, List.length_replicate, decide_true, decide_false, decide_eq_true_eq, Bool.not_eq_true', decide_eq_false_iff_not, Bool.true_and, Bool.false_and, Bool.not_true, Bool.not_false, Bool.false_eq_true, if_true, if_false, Int.toNat_natCast, Int.reduceToNat, Int.reducePow, Int.reduceMul, Int.reduceAdd, Int.reduceSub, Int.reduceNeg, Int.reduceLT, Int.reduceLE, Nat.sub_self, Nat.add_sub_cancel_left, Nat.reduceAdd, Nat.reduceSub, Nat.reduceLT, Nat.reduceLeDiff, Int.cast_ofNat_Int, true_or, or_true, true_and, and_true, $[$ts:term],*])
section
variable {own : List Nat} {tg : Tg} {cond : Bx} {kx vx : Ex} {g : List (Nat × Cell)} {σ : Env}
end
structure KRep (L : List (Nat × Nat)) (row : Row) : Prop where
  nd : (L.map (·.1)).Nodup
  at_ : ∀ k s, lkN L k = some s ↔ s < row.length ∧ row[s]! = some k
theorem cut_take {α : Type} (f : α → PyData) (o : List α) (v : Nat) : cut (o.map f) none (some (v : Int)) = (o.take v).map f := by
  unfold cut sIx
  have : ¬ ((v : Int) < 0) := by omega
  simp only [if_neg this, List.drop_zero, Nat.sub_zero, List.length_map]
  rw [show (min (v : Int) (o.length : Int)).toNat = min v o.length by omega, ← List.map_take]
  congr 1
  rw [List.take_eq_take_iff]
  omega
end Mi
end
section
namespace Mi
open PySem Mi Mi.L 
local macro_rules | `(tactic| wp_walk using $[$ts:term],*) => `(tactic| simp (disch := first | with_reducible assumption | omega | (simp only [List.length_set, List.length_append, List.length_cons, List.length_nil, List.length_map, List.length_range, List.length_replicate, Line]; omega) | (simp only [List.length_set, List.length_append, List.length_cons, List.length_nil, List.length_map, List.length_range, List.length_replicate]; done) | fail) only [au0, au1, au2, au3, au4, au5, au6, List.getElem?_map, dI, dT, List.getElem?_cons_zero, List.getElem?_cons_succ, List.set_cons_zero, List.set_cons_succ, List.map_cons, List.map_nil, List.length_cons, List.length_nil, List.cons_append, List.nil_append, List.append_nil, List.append_assoc, List.reduceReplicate, List.length_set, List.set_set, List.length_append, List.length_map, List.length_range, List.length_replicate, decide_true, decide_false, decide_eq_true_eq, Bool.not_eq_true', decide_eq_false_iff_not, Bool.true_and, Bool.false_and, Bool.not_true, Bool.not_false, Bool.false_eq_true, if_true, if_false, Int.toNat_natCast, Int.reduceToNat, Int.reducePow, Int.reduceMul, Int.reduceAdd, Int.reduceSub, Int.reduceNeg, Int.reduceLT, Int.reduceLE, Nat.sub_self, Nat.add_sub_cancel_left, Nat.reduceAdd, Nat.reduceSub, Nat.reduceLT, Nat.reduceLeDiff, Int.cast_ofNat_Int, true_or, or_true, true_and, and_true, $[$ts:term],*])
section
variable {n m : Nat} {P : List (List Nat)} {T : List (List (List Nat))}
end
section
variable {n m h : Nat} {P : List (List Nat)} {T : List (List (List Nat))}
end
end Mi
end
section
namespace Mi
open PySem Mi Mi.L 
local macro_rules | `(tactic| wp_walk using $[$ts:term],*) => `(tactic| simp (disch := first | with_reducible assumption | omega | (simp only [List.length_set, List.length_append, List.length_cons, List.length_nil, List.length_map, List.length_range, List.length_replicate, Line]; omega) | (simp only [List.length_set, List.length_append, List.length_cons, List.length_nil, List.length_map, List.length_range, List.length_replicate]; done) | fail) only [au0, au1, au2, au3, au4, au5, au6, List.getElem?_map, dI, dT, List.getElem?_cons_zero, List.getElem?_cons_succ, List.set_cons_zero, List.set_cons_succ, List.map_cons, List.map_nil, List.length_cons, List.length_nil, List.cons_append, List.nil_append, List.append_nil, List.append_assoc, List.reduceReplicate, List.length_set, List.set_set, List.length_append, List.length_map, List.length_range, List.length_replicate, decide_true, decide_false, decide_eq_true_eq, Bool.not_eq_true', decide_eq_false_iff_not, Bool.true_and, Bool.false_and, Bool.not_true, Bool.not_false, Bool.false_eq_true, if_true, if_false, Int.toNat_natCast, Int.reduceToNat, Int.reducePow, Int.reduceMul, Int.reduceAdd, Int.reduceSub, Int.reduceNeg, Int.reduceLT, Int.reduceLE, Nat.sub_self, Nat.add_sub_cancel_left, Nat.reduceAdd, Nat.reduceSub, Nat.reduceLT, Nat.reduceLeDiff, Int.cast_ofNat_Int, true_or, or_true, true_and, and_true, $[$ts:term],*])
theorem take2_all {b : Nat} {S : Store} {i : Nat} {n : Int} (h : PotAt b S i) (hb : b < 2 ^ 60) (hn : 0 < n) (hn2 : n < 2 ^ 200) : ∃ (v : Nat) (c : Cell), (v : Int) < n ∧ PotAt (b + 1) (S.set i c) i ∧ ∀ L, f_l_take [.ref i, .p (.int n)] (S ++ L) = .ok (.p (.int v), S.set i c ++ L) := by
  obtain ⟨g, m, c, hS, hg, hm0, hm1, hc0, hc1⟩ := h
  have hi : i < S.length := (List.getElem?_eq_some_iff.mp hS).1
  have hmod : ∀ x : Int, 0 ≤ x % n ∧ x % n < n := fun x => ⟨Int.emod_nonneg _ (by omega), Int.emod_lt_of_pos _ hn⟩
  by_cases hgp : 0 < g
  · obtain ⟨v, hv⟩ := Int.eq_ofNat_of_zero_le (hmod g).1
    refine ⟨v, .lst [.int (g / n), .int m, .int c], by have := (hmod g).2; omega, ⟨g / n, m, c, by rw [List.getElem?_set_self hi], Int.ediv_nonneg hg (by omega), hm0, hm1, hc0, by omega⟩, fun L => fn_rn rfl ?_⟩
    unfold b_l_take
    wp_walk using hS, hv, hgp
  · have hg0 : g = 0 := by omega
    subst hg0
    obtain ⟨p, hp, hp0, hp1⟩ : ∃ p : Int, atD [.int 2305843009213693951, .int 2305843009213693921, .int 2305843009213693907, .int 2305843009213693723] ((c + 1) % 4) = some (PyData.int p) ∧ 0 < p ∧ p < 2 ^ 62 := by
      have h5 : 0 ≤ (c + 1) % 4 ∧ (c + 1) % 4 < 4 := ⟨Int.emod_nonneg _ (by omega), Int.emod_lt_of_pos _ (by omega)⟩
      generalize (c + 1) % 4 = r at h5
      have : r = 0 ∨ r = 1 ∨ r = 2 ∨ r = 3 := by omega
      rcases this with rfl | rfl | rfl | rfl
      · exact ⟨2305843009213693951, rfl, by omega, by omega⟩
      · exact ⟨2305843009213693921, rfl, by omega, by omega⟩
      · exact ⟨2305843009213693907, rfl, by omega, by omega⟩
      · exact ⟨2305843009213693723, rfl, by omega, by omega⟩
    have hc2 : c + 1 < 2 ^ 61 := by omega
    obtain ⟨hq1, hq0⟩ := sq_bound (show 0 ≤ c + 1 by omega) hc2
    have hA : 15485863 * (c + 1) * (c + 1) = 15485863 * ((c + 1) * (c + 1)) := Int.mul_assoc _ _ _
    have hA1 : m + 15485863 * (c + 1) * (c + 1) + 7 < 2 ^ 200 := by rw [hA]; omega
    have hA2 : -(2 ^ 200) < m + 15485863 * (c + 1) * (c + 1) + 7 := by rw [hA]; omega
    have ev : ∀ L : List Cell, b_l_take (start 5 [D.ref i, .p (.int n)]) (S ++ L) = b_l_take [some (.ref i), some (.p (.int n)), none, none, none] (S ++ L) := fun L => rfl
    generalize hM : (m + 15485863 * (c + 1) * (c + 1) + 7) ^ 3 % p = M
    have hM0 : 0 ≤ M := by rw [← hM]; exact Int.emod_nonneg _ (by omega)
    have hM1 : M < 2 ^ 62 := by have := Int.emod_lt_of_pos ((m + 15485863 * (c + 1) * (c + 1) + 7) ^ 3) hp0; omega
    have hN0 := Int.emod_nonneg M (show (1000003 : Int) ≠ 0 by decide)
    have hN1 := Int.emod_lt_of_pos M (show (0 : Int) < 1000003 by decide)
    obtain ⟨v, hv⟩ := Int.eq_ofNat_of_zero_le (hmod (M * (M % 1000003 + (c + 1)) % p / 4099)).1
    refine ⟨v, .lst [.int 0, .int m, .int (c + 1)], by have := (hmod (M * (M % 1000003 + (c + 1)) % p / 4099)).2; omega, ⟨0, m, c + 1, by rw [List.getElem?_set_self hi], Int.le_refl _, hm0, hm1, by omega, by omega⟩, fun L => fn_rn rfl ?_⟩
    rw [ev]
    unfold b_l_take
    wp_walk using hS, hp, hM, hv
theorem of_all {b : Nat} {S : Store} {i : Nat} {xs : List PyData} (h : PotAt b S i) (hb : b < 2 ^ 60) (h0 : 0 < xs.length) (hz : xs.length < 2 ^ 60) : ∃ (x : PyData) (c : Cell), x ∈ xs ∧ PotAt (b + 1) (S.set i c) i ∧ ∀ L, f_l_of [.ref i, .p (.list xs)] (S ++ L) = .ok (.p x, S.set i c ++ L) := by
  obtain ⟨v, c, hv, hp, e⟩ := take2_all (n := (xs.length : Int)) h hb (by omega) (by omega)
  have hk : v < xs.length := by omega
  refine ⟨xs[v], c, List.getElem_mem hk, hp, fun L => fn_rn rfl ?_⟩
  have ha : xs[v]? = some xs[v] := List.getElem?_eq_getElem hk
  unfold b_l_of
  wp_walk using e, ha
theorem pot2_ok {S : Store} {ns : List Int} {k : Nat} (hk : k < 100) : ∃ c, f_l_pot [.scr ns, .p (.int k)] S = .ok (.ref S.length, S ++ [c]) ∧ PotAt 0 (S ++ [c]) S.length := by
  obtain ⟨cell, hcell⟩ : ∃ cell : Int, mIf (tE (mO2 pLt (mV 1) (mLen (mV 0)))) (mIx (mV 0) (mV 1)) (mO2 pAdd (mO2 pMul (mC (.int 7)) (mV 1)) (mC (.int 5))) [some (.scr ns), some (.p (.int k)), none, none] S = .ok (.p (.int cell), S) := by
    by_cases hlt : k < ns.length
    · refine ⟨ns[k]!, ?_⟩
      have hlt' : (k : Int) < ns.length := by omega
      have e : (ns.map PyData.int)[k]? = some (.int ns[k]!) := by rw [List.getElem?_map, List.getElem?_eq_getElem hlt, getElem!_pos ns k hlt]; rfl
      have e2 : (ns[k]?).map PyData.int = some (.int ns[k]!) := by rw [← List.getElem?_map]; exact e
      wp_walk using hlt', e2
    · refine ⟨7 * k + 5, ?_⟩
      have hlt' : ¬ (k : Int) < ns.length := by omega
      wp_walk using hlt'
  have mulB : ∀ x y : Int, x.natAbs.log2 < 5000 → y.natAbs.log2 < 5000 → pMul (.int x) (.int y) = .ok (.int (x * y)) := fun x y h1 h2 => when_of (decide_eq_true (by omega))
  have m1 : pMul (.int (10 ^ 60)) (.int (10 ^ 60)) = .ok (.int (10 ^ 60 * 10 ^ 60)) := mulB _ _ (by decide +kernel) (by decide +kernel)
  have m2 : pMul (.int (10 ^ 60 * 10 ^ 60)) (.int (10 ^ 60)) = .ok (.int (10 ^ 60 * 10 ^ 60 * 10 ^ 60)) := mulB _ _ (by decide +kernel) (by decide +kernel)
  have hB : (0 : Int) < 10 ^ 60 * 10 ^ 60 * 10 ^ 60 := by decide +kernel
  have hB2 : (10 : Int) ^ 60 * 10 ^ 60 * 10 ^ 60 < 2 ^ 600 := by decide +kernel
  have p60 : pPow (.int 10) (.int 60) = .ok (.int (10 ^ 60)) := au_pow 10 60 (by decide) (by decide) (by decide) (by decide)
  have p18 : pPow (.int 10) (.int 18) = .ok (.int (10 ^ 18)) := au_pow 10 18 (by decide) (by decide) (by decide) (by decide)
  generalize (10 : Int) ^ 60 * 10 ^ 60 * 10 ^ 60 = B at m2 hB hB2
  generalize (10 : Int) ^ 60 * 10 ^ 60 = B1 at m1 m2
  generalize (10 : Int) ^ 60 = B0 at m1 m2 p60
  generalize (10 : Int) ^ 18 = B18 at p18
  have hd0 := Int.emod_nonneg (if cell < 0 then -cell else cell) (show B ≠ 0 by omega)
  have hd1 := Int.emod_lt_of_pos (if cell < 0 then -cell else cell) hB
  have m3 : ∀ b : Prop, [Decidable b] → pMul (.int ((if cell < 0 then -cell else cell) % B)) (.int (if b then 1 else 0)) = .ok (.int ((if cell < 0 then -cell else cell) % B * (if b then 1 else 0))) := fun b _ => mulB _ _ (by
    have := log_lt (k := 600) hd0 (by omega) (by decide)
    omega) (by split <;> decide)
  have nn : ∀ b : Prop, [Decidable b] → (0 : Int) ≤ if b then 1 else 0 := fun b _ => by split <;> decide
  have hm0 := Int.emod_nonneg cell (show (2305843009213693951 : Int) ≠ 0 by decide)
  have hm1 := Int.emod_lt_of_pos cell (show (0 : Int) < 2305843009213693951 by decide)
  have hM0 := Int.emod_nonneg (cell % 2305843009213693951 * 1000003 + 104729 * k + 71) (show (2305843009213693921 : Int) ≠ 0 by decide)
  have hM1 := Int.emod_lt_of_pos (cell % 2305843009213693951 * 1000003 + 104729 * k + 71) (show (0 : Int) < 2305843009213693921 by decide)
  have hg : 0 ≤ (if cell < 0 then -cell else cell) % B * (if B18 ≤ (if cell < 0 then -cell else cell) then 1 else 0) := Int.mul_nonneg hd0 (nn _)
  refine ⟨.lst [.int ((if cell < 0 then -cell else cell) % B * (if B18 ≤ (if cell < 0 then -cell else cell) then 1 else 0)), .int ((cell % 2305843009213693951 * 1000003 + 104729 * k + 71) % 2305843009213693921), .int 0], ?_, ⟨_, _, 0, by simp, hg, hM0, by omega, Int.le_refl _, by omega⟩⟩
  refine fn_rn rfl ?_
  unfold b_l_pot
  have ev : start 4 [D.scr ns, D.p (.int k)] = [some (.scr ns), some (.p (.int k)), none, none] := rfl
  rw [ev, au_Seq, au_Asg, hcell]
  wp_walk using p60, p18, m1, m2, m3
end Mi
end
section
namespace Mi
open PySem Mi Mi.L
local macro_rules | `(tactic| wp_walk using $[$ts:term],*) => `(tactic| simp (disch := first | with_reducible assumption | omega | (simp only [List.length_set, List.length_append, List.length_cons, List.length_nil, List.length_map, List.length_range, List.length_replicate, Line]; omega) | (simp only [List.length_set, List.length_append, List.length_cons, List.length_nil, List.length_map, List.length_range, List.length_replicate]; done) | fail) only [au0, au1, au2, au3, au4, au5, au6, List.getElem?_map, dI, dT, List.getElem?_cons_zero, List.getElem?_cons_succ, List.set_cons_zero, List.set_cons_succ, List.map_cons, List.map_nil, List.length_cons, List.length_nil, List.cons_append, List.nil_append, List.append_nil, List.append_assoc, List.reduceReplicate, List.length_set, List.set_set, List.length_append, List.length_map, List.length_range, List.length_replicate, decide_true, decide_false, decide_eq_true_eq, Bool.not_eq_true', decide_eq_false_iff_not, Bool.true_and, Bool.false_and, Bool.not_true, Bool.not_false, Bool.false_eq_true, if_true, if_false, Int.toNat_natCast, Int.reduceToNat, Int.reducePow, Int.reduceMul, Int.reduceAdd, Int.reduceSub, Int.reduceNeg, Int.reduceLT, Int.reduceLE, Nat.sub_self, Nat.add_sub_cancel_left, Nat.reduceAdd, Nat.reduceSub, Nat.reduceLT, Nat.reduceLeDiff, Int.cast_ofNat_Int, true_or, or_true, true_and, and_true, $[$ts:term],*])
theorem ne_nilN (xs : List Nat) : pNe (.list (xs.map dI)) (.list []) = .ok (.bool (!decide (xs = []))) := pNe_nl xs []
theorem eraseI_at (xs : List Nat) (k : Nat) : (xs.map dI).eraseIdx k = (xs.eraseIdx k).map dI := by
  induction xs generalizing k with
  | nil => rfl
  | cons x xs ih =>
    cases k with
    | zero => rfl
    | succ k => simp [ih]
theorem shuf_ok {b : Nat} {S : Store} {i n : Nat} (h : PotAt b S i) (hb : b < 2 ^ 50) (hn : n ≤ 100) (L : Store) : ∃ (o : List Nat) (c : Cell), Ord o ∧ o.length = n ∧ PotAt (b + n) (S.set i c) i ∧ f_l_shuffled [.ref i, .p (.int n)] (S ++ L) = .ok (.p (.tuple (o.map dI)), S.set i c ++ L) := by
  have hi := h.lt
  suffices hh : Rn (f_l_shuffled [.ref i, .p (.int n)] (S ++ L)) fun z => ∃ (o : List Nat) (c : Cell), Ord o ∧ o.length = n ∧ PotAt (b + n) (S.set i c) i ∧ z = (.p (.tuple (o.map dI)), S.set i c ++ L) by
    obtain ⟨z, e, o, c, g1, g2, g3, rfl⟩ := hh.ex
    exact ⟨o, c, g1, g2, g3, e⟩
  have hrg : pRgL (.int 0) (.int n) = .ok (.list ((List.range n).map dI)) := pRgL_nat (by omega)
  refine fn_rnQ rfl ?_
  unfold b_l_shuffled
  wp_walk using hrg, hi
  refine Rn.bs (Rn.mono (Q := fun p => ∃ (found : List Nat) (c : Cell), found.Perm (List.range n) ∧ PotAt (b + n) (S.set i c) i ∧ p = (.nx, [some (.ref i), some (.p (.int n)), some (.ref (S.length + L.length)), some (.ref (S.length + (L.length + 1)))], S.set i c ++ (L ++ [.lst [], .lst (found.map dI)]))) (while_any (fun m σ S' => ∃ (left found : List Nat) (c : Cell), m = left.length ∧ (left ++ found).Perm (List.range n) ∧ PotAt (b + found.length) (S.set i c) i ∧ σ = [some (.ref i), some (.p (.int n)), some (.ref (S.length + L.length)), some (.ref (S.length + (L.length + 1)))] ∧ S' = S.set i c ++ (L ++ [.lst (left.map dI), .lst (found.map dI)])) ?_ FUEL n _ _ (by unfold FUEL; omega) ?_) ?_)
  · rintro m σ S' ⟨left, found, c, rfl, hp, hpot, rfl, rfl⟩
    have hlp := hp.length_eq
    rw [List.length_append, List.length_range] at hlp
    by_cases hl0 : left = []
    · subst hl0
      have q0 : pNe (.list []) (.list []) = .ok (.bool false) := ne_nilN []
      wp_walk using q0, hi
      exact ⟨found, c, by simpa using hp, hpot.mono (by simp at hlp; omega), rfl⟩
    · have q0 := ne_nilN left
      have hpos : 0 < left.length := List.length_pos_iff.mpr hl0
      obtain ⟨v, c2, hv, p2, e2⟩ := take2_all (n := (left.length : Int)) hpot (by omega) (by omega) (by omega)
      simp only [List.set_set] at e2 p2
      have e2' := e2 (L ++ [.lst (left.map dI), .lst (found.map dI)])
      have hvl : v < left.length := by omega
      have q1 : Option.map dI left[v]? = some (.int left[v]!) := by
        rw [List.getElem?_eq_getElem hvl, getElem!_pos left v hvl]
        rfl
      wp_walk using q0, hl0, e2', q1, eraseI_at, hi
      refine .inl ⟨(left.eraseIdx v).length, by rw [List.length_eraseIdx_of_lt hvl]; omega, left.eraseIdx v, found ++ [left[v]!], c2, rfl, ?_, ?_, ?_⟩
      · refine List.Perm.trans ?_ hp
        rw [← List.append_assoc, getElem!_pos left v hvl]
        exact (List.perm_append_singleton _ _).trans ((erase_perm hvl).append_right found)
      · rw [List.length_append, List.length_singleton, ← Nat.add_assoc]
        exact p2
      · rw [List.map_append]
        rfl
  · exact ⟨List.range n, [], S[i], by simp, by simp, by rw [List.set_getElem_self]; exact h, rfl, by rw [List.set_getElem_self]; rfl⟩
  · rintro p ⟨found, c, hp, hpot, rfl⟩
    wp_walk using hi
    refine ⟨found, c, ?_, ?_, hpot, rfl⟩
    · unfold Ord
      rw [hp.length_eq, List.length_range]
      exact hp
    · rw [hp.length_eq, List.length_range]
theorem ruleOf2_ok {os : List (List Nat)} {n : Nat} (h : ∀ o ∈ os, Ord o ∧ o.length = n) (hn : n ≤ 100) (hl : os.length ≤ 1000) {q : PyData} (hq : q = .list (os.map dT) ∨ q = .tuple (os.map dT)) (S : Store) : f_l_rule_of [.p q] S = .ok (.p (.tuple ((os.map tab).map dTb)), S) := by
  refine fn_rn rfl ?_
  unfold b_l_rule_of
  have go : Rn (forL (gN 2) [] (sDrop (mAppend (mV 1) (mO1 pTuple (mComp [3] (iR1 (mLen (mV 2))) (gN 3) tYes (mO1 pTuple (mO1 pSorted (mCut (mV 2) (oE (mO2 pAdd (mIndex (mV 2) (mV 3)) (mC (.int 1)))) oNo))))))) (os.map dT) [some (.p q), some (.ref S.length), none, none] (S ++ [.lst []])) fun p => ∃ t2 : Option D, p = (.nx, [some (.p q), some (.ref S.length), t2, none], S ++ [.lst ((os.map tab).map dTb)]) := by
    refine for_map dT (fun k σ S' => ∃ t2 : Option D, σ = [some (.p q), some (.ref S.length), t2, none] ∧ S' = S ++ [.lst (((os.take k).map tab).map dTb)]) (Q := fun p => ∃ t2 : Option D, p = (.nx, [some (.p q), some (.ref S.length), t2, none], S ++ [.lst ((os.map tab).map dTb)])) ?_ (fun _ _ _ _ => stand_nil _) ?_ ?_
    · exact ⟨_, rfl, rfl⟩
    · rintro k o σ S' hx ⟨t2, rfl, rfl⟩
      obtain ⟨hk, ex0⟩ := List.getElem?_eq_some_iff.mp hx
      obtain ⟨ho, hol⟩ := h o (ex0 ▸ List.getElem_mem _)
      have hkl : (os.take k).length ≤ 1000 := by rw [List.length_take]; omega
      have htk : os.take (k + 1) = os.take k ++ [o] := by rw [List.take_succ, hx]; rfl
      wp_walk using hol
      rw [comp_val dI (fun k => .tuple ((beats o k).map dI)) (stand_nil _)]
      · wp_walk using hol
        refine ⟨_, rfl, ?_⟩
        rw [htk, List.map_append, List.map_append]
        simp only [List.map_cons, List.map_nil, dTb, tab, List.map_map, hol]
        rfl
      · intro k hk acc
        have hk' : k < o.length := by rw [hol]; exact List.mem_range.mp hk
        have hi : pIndex (.tuple (o.map dI)) (.int k) = .ok (.int (o.idxOf k : Nat)) := pIndex_nat (ho.mem.mpr hk')
        have hx := ho.idx_lt hk'
        have hc : cut (o.map dI) (some ((o.idxOf k : Int) + 1)) none = (o.drop (o.idxOf k + 1)).map dI := by
          rw [List.map_drop]
          exact cut_from (o.map dI) (o.idxOf k + 1) (by rw [List.length_map]; omega)
        have hs := pSorted_t (o.drop (o.idxOf k + 1))
        wp_walk using hi, hc, hs
        try rfl
    · rintro σ S' ⟨t2, rfl, rfl⟩
      rw [List.take_length]
      exact ⟨t2, rfl⟩
  rcases hq with rfl | rfl
  · wp_walk using hl
    refine Rn.bs (go.mono ?_)
    rintro p ⟨t2, rfl⟩
    wp_walk using hl
  · wp_walk using hl
    refine Rn.bs (go.mono ?_)
    rintro p ⟨t2, rfl⟩
    wp_walk using hl
end Mi
end
section
namespace Mi
open PySem PySem.Spec PyProof.Rows L2
inductive Kx where
  | cap (j : Nat)
  | par
  | int (n : Int)
  | neg (a : Kx)
  | sub (a b : Kx)
  | mul (a b : Kx)
  | ix (a b : Kx)
  | idx (a b : Kx)
  | tup (a b : Kx)
def kNeg : PyData → Option PyData
  | .int n => some (.int (-n))
  | _ => none
def kSub : PyData → PyData → Option PyData
  | .int n, .int m => some (.int (n - m))
  | _, _ => none
def kMul : PyData → PyData → Option PyData
  | .int n, .int m => if mulOk n m = true then some (.int (n * m)) else none
  | _, _ => none
def kIx : PyData → PyData → Option PyData
  | .tuple ds, .int i => if ds.length ≤ 1000000 then atD ds i else none
  | _, _ => none
def kIdx : PyData → PyData → Option PyData
  | .tuple ds, .int i => (ints? ds).bind fun ns => if i ∈ ns then some (.int (ns.idxOf i : Nat)) else none
  | _, _ => none
def Kx.ev (us : List PyData) (x : PyData) : Kx → Option PyData
  | .cap j => us[j]?
  | .par => some x
  | .int n => some (.int n)
  | .neg a => (a.ev us x).bind kNeg
  | .sub a b => (a.ev us x).bind fun u => (b.ev us x).bind (kSub u)
  | .mul a b => (a.ev us x).bind fun u => (b.ev us x).bind (kMul u)
  | .ix a b => (a.ev us x).bind fun u => (b.ev us x).bind (kIx u)
  | .idx a b => (a.ev us x).bind fun u => (b.ev us x).bind (kIdx u)
  | .tup a b => (a.ev us x).bind fun u => (b.ev us x).bind fun v => some (.tuple [u, v])
inductive KxIs (cs : List Str) (px : Str) : Kx → Expr → Prop
  | cap {j : Nat} {x : Str} {pos : Pos} : cs[j]? = some x → (x == ("__debug__" : Str)) = false → (x == ("__classdict__" : Str)) = false → KxIs cs px (.cap j) (.Name x pos)
  | par {pos : Pos} : (px == ("__debug__" : Str)) = false → KxIs cs px .par (.Name px pos)
  | int {n : Int} {j : Nat} {pos : Pos} : KxIs cs px (.int n) (.Constant (.int n) j pos)
  | neg {a : Kx} {e : Expr} {pos : Pos} : KxIs cs px a e → KxIs cs px (.neg a) (.UnaryOp .USub e pos)
  | sub {a b : Kx} {e f : Expr} {pos : Pos} : KxIs cs px a e → KxIs cs px b f → KxIs cs px (.sub a b) (.BinOp e .Sub f pos)
  | mul {a b : Kx} {e f : Expr} {pos : Pos} : KxIs cs px a e → KxIs cs px b f → KxIs cs px (.mul a b) (.BinOp e .Mult f pos)
  | ix {a b : Kx} {e f : Expr} {pos : Pos} : KxIs cs px a e → KxIs cs px b f → PlainIx f → KxIs cs px (.ix a b) (.Subscript e f pos)
  | idx {a b : Kx} {o e : Expr} {apos cpos : Pos} : KxIs cs px a o → KxIs cs px b e → (∀ env : PySem.Env, attributeBase o "index" env (eval o env) = eval o env) →
      (∀ env : PySem.Env, ((backTo cpos (starEach [e] env)).all (fun x => !x.1) && (backToKw cpos (keywordEach [] env)).all (fun x => x.1.isSome)
      && decide ([e].length + ([] : List Keyword).length + (if ([] : List Keyword).isEmpty then 0 else 1) < 30)) = true) → (apos.endLine == cpos.line) = true →
      (∀ env : PySem.Env, starEach [e] env = (false, eval e env) :: starEach [] env) → KxIs cs px (.idx a b) (.Call (.Attribute o "index" apos) [e] [] cpos)
  | tup {a b : Kx} {e f : Expr} {j : Nat} {pos : Pos} : KxIs cs px a e → KxIs cs px b f → (∀ env : PySem.Env, backTo pos (starEach [e, f] env) = [(false, eval e env), (false, eval f env)]) → KxIs cs px (.tup a b) (.Tuple [e, f] j pos)
mutual
def tupOnly : PyData → Bool
  | .int _ => true
  | .tuple ds => tupOnlyL ds
  | _ => false
def tupOnlyL : List PyData → Bool
  | [] => true
  | d :: ds => tupOnly d && tupOnlyL ds
end
mutual
inductive Rv (h : Heap) : Value → PyData → Prop
  | int (i : Int) (t : Tok) : Rv h (.int i t) (.int i)
  | tup {a : Addr} {o : Obj} {vs : Array Value} {n : Nat} {ds : List PyData} : h.get? a = some o → o.cls = .type "tuple" → o.dict = none → o.data = .seq vs n → Rvs h vs.toList ds → Rv h (.ref a) (.tuple ds)
inductive Rvs (h : Heap) : List Value → List PyData → Prop
  | nil : Rvs h [] []
  | cons {v : Value} {vs : List Value} {d : PyData} {ds : List PyData} : Rv h v d → Rvs h vs ds → Rvs h (v :: vs) (d :: ds)
end
mutual
theorem Rv.keep {h h' : Heap} (k : ∀ b o, h.get? b = some o → h'.get? b = some o) : ∀ (d : PyData) (v : Value), Rv h v d → Rv h' v d
  | .int _, _, .int i t => .int i t
  | .tuple ds, _, .tup h1 h2 h3 h4 h5 => .tup (k _ _ h1) h2 h3 h4 (Rvs.keep k ds _ h5)
theorem Rvs.keep {h h' : Heap} (k : ∀ b o, h.get? b = some o → h'.get? b = some o) : ∀ (ds : List PyData) (vs : List Value), Rvs h vs ds → Rvs h' vs ds
  | [], _, .nil => .nil
  | d :: ds, _, .cons a b => .cons (Rv.keep k d _ a) (Rvs.keep k ds _ b)
end
mutual
theorem Rv.reads {h : Heap} : ∀ (d : PyData) (v : Value), Rv h v d → Reads h v d []
  | .int _, _, .int i t => .int i t
  | .tuple ds, _, .tup h1 h2 h3 h4 h5 => .tuple h1 h2 h4 (Rvs.reads ds _ h5)
theorem Rvs.reads {h : Heap} : ∀ (ds : List PyData) (vs : List Value), Rvs h vs ds → ReadsAll h vs ds []
  | [], _, .nil => .nil
  | d :: ds, _, .cons a b => .cons (as := []) (bs := []) (Rv.reads d _ a) (Rvs.reads ds _ b)
end
theorem Rvs.at {h : Heap} : ∀ {vs : List Value} {ds : List PyData}, Rvs h vs ds → ∀ {i : Nat} {d : PyData}, ds[i]? = some d → ∃ v, vs[i]? = some v ∧ Rv h v d
  | _, _, .nil, i, d, e => by simp at e
  | _, _, .cons a t, 0, d, e => by
    simp at e
    subst e
    exact ⟨_, rfl, a⟩
  | _, _, .cons a t, i + 1, d, e => by
    obtain ⟨v, h1, h2⟩ := Rvs.at t (i := i) (by simpa using e)
    exact ⟨v, by simpa using h1, h2⟩
theorem Rvs.length {h : Heap} : ∀ {vs : List Value} {ds : List PyData}, Rvs h vs ds → vs.length = ds.length
  | _, _, .nil => rfl
  | _, _, .cons _ t => congrArg (· + 1) (Rvs.length t)
theorem Rvs.ints {h : Heap} : ∀ {vs : List Value} {ds : List PyData} {ns : List Int}, Rvs h vs ds → ints? ds = some ns → IntsAre vs ns
  | _, _, ns, .nil, e => by
    simp [ints?] at e
    subst e
    exact .nil
  | _, _, ns, .cons (.int i t) r, e => by
    simp only [ints?, Option.map_eq_some_iff] at e
    obtain ⟨ms, h1, h2⟩ := e
    subst h2
    exact .cons _ _ (Rvs.ints r h1)
  | _, _, ns, .cons (.tup _ _ _ _ _) r, e => by simp [ints?] at e
section
variable {P : Program} {w : World} {L : Addr → Prop} {H : Hp} {h : Heap}
mutual
theorem Pd.rv (ok : HOk P w H h) : ∀ (d : PyData) (v : V) (u : Value), tupOnly d = true → Pd L H v d → RelV v u → Rv h u d
  | .int _, _, _, _, .int i, r => by
    obtain ⟨t, rfl⟩ := r
    exact .int i t
  | .tuple ds, _, _, q, .tup (xs := xs) hT r, ru => by
    obtain ⟨o, hH, hd, hc⟩ := hT
    cases ru
    obtain ⟨e, _, its, hv, o', e', hc', n, hd'⟩ := ok _ _ hH
    rw [e] at e'
    cases e'
    exact .tup e hc hd hd' (by rw [List.toList_toArray]; exact Pds.rv ok ds _ _ q r hv)
theorem Pds.rv (ok : HOk P w H h) : ∀ (ds : List PyData) (vs : List V) (us : List Value), tupOnlyL ds = true → Pds L H vs ds → Vals vs us → Rvs h us ds
  | [], _, _, _, .nil, r => by
    cases r
    exact .nil
  | d :: ds, _, _, q, .cons a b, r => by
    rw [tupOnlyL, Bool.and_eq_true] at q
    cases r with
    | cons r1 r2 => exact .cons (Pd.rv ok d _ _ q.1 a r1) (Pds.rv ok ds _ _ q.2 b r2)
end
end
section
variable {prog : Program} {w : World} {A : Around} {env : PySem.Env} {h0 : Heap} {e f : Expr} {d d' : PyData}
structure KxEnv (env : PySem.Env) (h0 : Heap) (cs : List Str) (px : Str) (us : List PyData) (x : PyData) : Prop where
  kind : env.scope.kind = .function
  cap : ∀ (j : Nat) (y : Str) (d : PyData), cs[j]? = some y → us[j]? = some d → env.kindOf y = some .free ∧ ∃ (c : Addr) (u : Value), env.cells.lookup y = some c ∧ h0.IsCell c (some u) ∧ Rv h0 u d
  par : env.kindOf px = some .local ∧ ∃ (m : Str → Option Value) (u : Value), h0.Ns env.locals m ∧ m px = some u ∧ Rv h0 u x
end
end Mi
end
section
namespace Mi
open PySem PySem.Spec PySem.Calls PyProof.Rows PySem.W
open PyProof.Rows (seqObj)
section
variable {prog : Program} {w : World} {A : Around} {E : Value → Shared → Prop} {s : Shared}
variable {β : Type} {vs : List Value} {bs : List β} {R : Value → β → Prop}
end
end Mi
namespace Mi
open PySem PySem.Spec PyProof.Rows L2
section
variable {X : Cx} {pins : List (Addr × Obj)} {σ : L2.St} {H : Hp} {s : Shared}
end
end Mi
end
section
namespace Mi
open PySem PySem.Spec PyProof.Rows L2
section
variable {ρ : List Addr} {S : Store} {H H2 : Hp} {P : Nat} {q : Str} {ps ps2 : Array Value}
end
end Mi
end
section
namespace Mi.L
open PySem Mi
noncomputable section
end
end Mi.L
end
section
namespace Mi
open PySem Mi Mi.L 
local macro_rules | `(tactic| wp_walk using $[$ts:term],*) => `(tactic| simp (disch := first | with_reducible assumption | omega | (simp only [List.length_set, List.length_append, List.length_cons, List.length_nil, List.length_map, List.length_range, List.length_replicate, Line]; omega) | (simp only [List.length_set, List.length_append, List.length_cons, List.length_nil, List.length_map, List.length_range, List.length_replicate]; done) | fail) only [au0, au1, au2, au3, au4, au5, au6, List.getElem?_map, dI, dT, List.getElem?_cons_zero, List.getElem?_cons_succ, List.set_cons_zero, List.set_cons_succ, List.map_cons, List.map_nil, List.length_cons, List.length_nil, List.cons_append, List.nil_append, List.append_nil, List.append_assoc, List.reduceReplicate, List.length_set, List.set_set, List.length_append, List.length_map, List.length_range, List.length_replicate, decide_true, decide_false, decide_eq_true_eq, Bool.not_eq_true', decide_eq_false_iff_not, Bool.true_and, Bool.false_and, Bool.not_true, Bool.not_false, Bool.false_eq_true, if_true, if_false, Int.toNat_natCast, Int.reduceToNat, Int.reducePow, Int.reduceMul, Int.reduceAdd, Int.reduceSub, Int.reduceNeg, Int.reduceLT, Int.reduceLE, Nat.sub_self, Nat.add_sub_cancel_left, Nat.reduceAdd, Nat.reduceSub, Nat.reduceLT, Nat.reduceLeDiff, Int.cast_ofNat_Int, true_or, or_true, true_and, and_true, $[$ts:term],*])
end Mi
end
section
namespace Mi
open PySem Mi Mi.L
local macro_rules | `(tactic| wp_walk using $[$ts:term],*) => `(tactic| simp (disch := first | with_reducible assumption | omega | (simp only [List.length_set, List.length_append, List.length_cons, List.length_nil, List.length_map, List.length_range, List.length_replicate, Line]; omega) | (simp only [List.length_set, List.length_append, List.length_cons, List.length_nil, List.length_map, List.length_range, List.length_replicate]; done) | fail) only [au0, au1, au2, au3, au4, au5, au6, List.getElem?_map, dI, dT, List.getElem?_cons_zero, List.getElem?_cons_succ, List.set_cons_zero, List.set_cons_succ, List.map_cons, List.map_nil, List.length_cons, List.length_nil, List.cons_append, List.nil_append, List.append_nil, List.append_assoc, List.reduceReplicate, List.length_set, List.set_set, List.length_append, List.length_map, List.length_range, List.length_replicate, decide_true, decide_false, decide_eq_true_eq, Bool.not_eq_true', decide_eq_false_iff_not, Bool.true_and, Bool.false_and, Bool.not_true, Bool.not_false, Bool.false_eq_true, if_true, if_false, Int.toNat_natCast, Int.reduceToNat, Int.reducePow, Int.reduceMul, Int.reduceAdd, Int.reduceSub, Int.reduceNeg, Int.reduceLT, Int.reduceLE, Nat.sub_self, Nat.add_sub_cancel_left, Nat.reduceAdd, Nat.reduceSub, Nat.reduceLT, Nat.reduceLeDiff, Int.cast_ofNat_Int, true_or, or_true, true_and, and_true, $[$ts:term],*])
theorem rot_perm {n v : Nat} (hv : v < n) : ((List.range n).map fun t => (v + t) % n).Perm (List.range n) := by
  have nd : ((List.range n).map fun t => (v + t) % n).Nodup := List.pairwise_map.mpr (List.nodup_range.imp_of_mem fun {a b} ha hb hne e => hne (by
    rw [List.mem_range] at ha hb
    have h1 := Nat.div_add_mod (v + a) n
    have h2 := Nat.div_add_mod (v + b) n
    have q1 : (v + a) / n < 2 := Nat.div_lt_of_lt_mul (by omega)
    have q2 : (v + b) / n < 2 := Nat.div_lt_of_lt_mul (by omega)
    generalize (v + a) / n = x at *
    generalize (v + b) / n = y at *
    have : x = 0 ∨ x = 1 := by omega
    have : y = 0 ∨ y = 1 := by omega
    rcases ‹x = 0 ∨ x = 1› with rfl | rfl <;> rcases ‹y = 0 ∨ y = 1› with rfl | rfl <;> simp at h1 h2 <;> omega))
  refine (List.perm_ext_iff_of_nodup nd List.nodup_range).mpr ?_
  · intro x
    rw [List.mem_map, List.mem_range]
    constructor
    · rintro ⟨t, _, rfl⟩
      exact Nat.mod_lt _ (by omega)
    · intro hx
      by_cases h : v ≤ x
      · exact ⟨x - v, List.mem_range.mpr (by omega), by rw [Nat.add_sub_cancel' h]; exact Nat.mod_eq_of_lt hx⟩
      · refine ⟨n + x - v, List.mem_range.mpr (by omega), ?_⟩
        rw [show v + (n + x - v) = x + n by omega, Nat.add_mod_right]
        exact Nat.mod_eq_of_lt hx
theorem front_perm {n k : Nat} {f o : List Nat} (hf : f.Perm (List.range n)) (ho : o.Perm (List.range n)) : (f.take k ++ o.filter fun s => !decide (s ∈ f.take k)).Perm (List.range n) := by
  have hfn : f.Nodup := hf.nodup_iff.mpr List.nodup_range
  have hon : o.Nodup := ho.nodup_iff.mpr List.nodup_range
  refine (List.perm_ext_iff_of_nodup ?_ List.nodup_range).mpr ?_
  · refine List.nodup_append.mpr ⟨(List.take_sublist k f).nodup hfn, hon.filter _, ?_⟩
    intro a ha b hb e
    subst e
    have := (List.mem_filter.mp hb).2
    simp [ha] at this
  · intro x
    rw [List.mem_append, List.mem_filter]
    constructor
    · rintro (h | ⟨h, _⟩)
      · exact hf.mem_iff.mp (List.mem_of_mem_take h)
      · exact ho.mem_iff.mp h
    · intro h
      by_cases hx : x ∈ f.take k
      · exact .inl hx
      · exact .inr ⟨ho.mem_iff.mpr h, by simp [hx]⟩
theorem Probes.snoc {n : Nat} {P : List (List Nat)} {o : List Nat} (hP : Probes n P) (ho : o.Perm (List.range n)) : Probes n (P ++ [o]) := ⟨fun k hk => by
  rw [List.length_append, List.length_singleton] at hk
  by_cases h : k < P.length
  · rw [getElem!_pos (P ++ [o]) k (by simp; omega), List.getElem_append_left h, ← getElem!_pos P k h]
    exact hP.perm k h
  · have : k = P.length := by omega
    subst this
    rw [getElem!_pos (P ++ [o]) P.length (by simp)]
    simpa using ho⟩
theorem cut_takeN (o : List Nat) (v : Nat) : cut (o.map dI) none (some (v : Int)) = (o.take v).map dI := cut_take dI o v
theorem tried_ok {b : Nat} {S : Store} {i m n w : Nat} (h : PotAt b S i) (hb : b < 2 ^ 45) (hm : m ≤ 100) (hn0 : 0 < n) (hn : n ≤ 100) (hw : w < 3) (L : Store) :
    ∃ (P : List (List Nat)) (c : Cell), Probes n P ∧ P.length = m ∧ PotAt (b + 20000) (S.set i c) i ∧ f_l_tried [.ref i, .p (.int m), .p (.int n), .p (.int w)] (S ++ L) = .ok (.p (.tuple (P.map dT)), S.set i c ++ L) := by
  have hi := h.lt
  suffices hs : Rn (f_l_tried [.ref i, .p (.int m), .p (.int n), .p (.int w)] (S ++ L)) fun q => ∃ (P : List (List Nat)) (c : Cell), Probes n P ∧ P.length = m ∧ PotAt (b + 20000) (S.set i c) i ∧ q = (.p (.tuple (P.map dT)), S.set i c ++ L) by
    obtain ⟨q, e, P, c, h1, h2, h3, rfl⟩ := hs.ex
    exact ⟨P, c, h1, h2, h3, e⟩
  obtain ⟨f, c1, hf, hfl, p1, e1⟩ := shuf_ok h (by omega) hn L
  obtain ⟨v, c2, hv, p2, e2⟩ := take2_all (n := ((min 3 n : Nat) : Int)) p1 (by omega) (by omega) (by omega)
  simp only [List.set_set] at e2 p2
  have e2' := e2 L
  rw [show ((min 3 n : Nat) : Int) = min 3 (n : Int) by omega] at e2'
  have hfp : f.Perm (List.range n) := by rw [← hfl]; exact hf
  refine fn_rnQ rfl ?_
  unfold b_l_tried
  wp_walk using hi, e1, e2'
  refine Rn.bs ((for_range (fun j σ S' => ∃ (P : List (List Nat)) (c : Cell) (t7 t8 t9 t10 t11 : Option D), Probes n P ∧ P.length = j ∧ PotAt (b + n + 1 + j * 101) (S.set i c) i ∧ S' = S.set i c ++ (L ++ [.lst (P.map dT)]) ∧
      σ = [some (.ref i), some (.p (.int m)), some (.p (.int n)), some (.p (.int w)), some (.p (.tuple (f.map dI))), some (.p (.int (1 + (v : Int)))), some (.ref (S.length + L.length)), t7, t8, t9, t10, t11])
    (Q := fun q => q.1 = .nx ∧ ∃ (P : List (List Nat)) (c : Cell) (t7 t8 t9 t10 t11 : Option D), Probes n P ∧ P.length = m ∧ PotAt (b + n + 1 + m * 101) (S.set i c) i ∧ q.2.2 = S.set i c ++ (L ++ [.lst (P.map dT)]) ∧
      q.2.1 = [some (.ref i), some (.p (.int m)), some (.p (.int n)), some (.p (.int w)), some (.p (.tuple (f.map dI))), some (.p (.int (1 + (v : Int)))), some (.ref (S.length + L.length)), t7, t8, t9, t10, t11])
    ⟨[], c2, none, none, none, none, none, ⟨fun k hk => by cases hk⟩, rfl, by simpa using p2, rfl, rfl⟩ (fun _ _ _ _ => stand_nil _) ?_ ?_).mono ?_)
  · rintro j σ S' hj ⟨P, c, t7, t8, t9, t10, t11, hP, hPl, hp, rfl, rfl⟩
    have hbj : b + n + 1 + j * 101 < 2 ^ 46 := by
      have : j * 101 ≤ 100 * 101 := Nat.mul_le_mul (by omega) (by omega)
      omega
    have fin : ∀ (o : List Nat) (c' : Cell) (u7 u8 u9 u10 u11 : Option D), o.Perm (List.range n) → PotAt (b + n + 1 + j * 101 + 101) (S.set i c') i → ∃ (P' : List (List Nat)) (c : Cell) (t7 t8 t9 t10 t11 : Option D), Probes n P' ∧ P'.length = j + 1 ∧ PotAt (b + n + 1 + (j + 1) * 101) (S.set i c) i ∧ S.set i c' ++ (L ++ [.lst (P.map dT ++ [.tuple (o.map dI)])]) = S.set i c ++ (L ++ [.lst (P'.map dT)]) ∧
        [some (.ref i), some (.p (.int m)), some (.p (.int n)), some (.p (.int w)), some (.p (.tuple (f.map dI))), some (.p (.int (1 + (v : Int)))), some (.ref (S.length + L.length)), u7, u8, u9, u10, u11] = [some (.ref i), some (.p (.int m)), some (.p (.int n)), some (.p (.int w)), some (.p (.tuple (f.map dI))), some (.p (.int (1 + (v : Int)))), some (.ref (S.length + L.length)), t7, t8, t9, t10, t11] := fun o c' u7 u8 u9 u10 u11 ho hp' => by
      refine ⟨P ++ [o], c', u7, u8, u9, u10, u11, hP.snoc ho, by simp [hPl], hp'.mono (by rw [Nat.add_mul j 1 101]; omega), ?_, rfl⟩
      rw [List.map_append]
      rfl
    have hw3 : w = 0 ∨ w = 1 ∨ w = 2 := by omega
    rcases hw3 with rfl | rfl | rfl
    · obtain ⟨a, c3, ha, p3, e3⟩ := take2_all (n := (n : Int)) hp (by omega) (by omega) (by omega)
      simp only [List.set_set] at e3 p3
      have e3' := e3 (L ++ [.lst (P.map dT)])
      wp_walk using hi, e3', hPl
      rw [comp_val dI (fun t => .int (((a + t) % n : Nat))) (stand_nil _)]
      · wp_walk using hi, hPl
        have := fin ((List.range n).map fun t => (a + t) % n) c3 (some (.p (.int j))) (some (.p (.int a))) t9 t10 t11 (rot_perm (by omega)) (p3.mono (by omega))
        rw [List.map_map] at this
        exact this
      · intro t ht acc
        wp_walk using wipe, hi
        rw [Int.natCast_emod, Int.natCast_add]
    · obtain ⟨o, c3, ho, hol, p3, e3⟩ := shuf_ok hp (by omega) hn (L ++ [.lst (P.map dT)])
      simp only [List.set_set] at e3 p3
      have hop : o.Perm (List.range n) := by rw [← hol]; exact ho
      have hv1 : (1 + (v : Int)) = ((1 + v : Nat) : Int) := by omega
      have hc := cut_takeN f (1 + v)
      rw [← hv1] at hc
      have hfl' : f.length ≤ 100 := by omega
      wp_walk using hi, e3, hPl, hc, hfl, hol
      rw [comp_if dI dI (fun s => !decide (s ∈ f.take (1 + v))) (stand_nil _)]
      · have hfo : (o.filter fun s => !decide (s ∈ f.take (1 + v))).length ≤ 100 := Nat.le_trans (List.length_filter_le _ _) (by omega)
        have htk : (f.take (1 + v)).length ≤ 100 := by rw [List.length_take]; omega
        wp_walk using hi, hPl, hc, hfl, hfo, htk
        have := fin (f.take (1 + v) ++ o.filter fun s => !decide (s ∈ f.take (1 + v))) c3 (some (.p (.int j))) t8 (some (.p (.list ((o.filter fun s => !decide (s ∈ f.take (1 + v))).map dI)))) t10 t11 (front_perm hfp hop) (p3.mono (by omega))
        rw [List.map_append] at this
        exact this
      · intro s hs acc
        have := pNotIn_nat s (f.take (1 + v))
        wp_walk using wipe, hi, hc, hfl, this
      · intro s hs hk acc
        wp_walk using wipe, hi
    · obtain ⟨o, c3, ho, hol, p3, e3⟩ := shuf_ok hp (by omega) hn (L ++ [.lst (P.map dT)])
      simp only [List.set_set] at e3 p3
      have hop : o.Perm (List.range n) := by rw [← hol]; exact ho
      wp_walk using hi, e3, hPl
      exact fin o c3 _ _ _ _ _ hop (p3.mono (by omega))
  · rintro σ S' ⟨P, c, t7, t8, t9, t10, t11, hP, hPl, hp, rfl, rfl⟩
    exact ⟨rfl, P, c, t7, t8, t9, t10, t11, hP, hPl, hp, rfl, rfl⟩
  · rintro ⟨fl, σ, S'⟩ ⟨h1, P, c, t7, t8, t9, t10, t11, hP, hPl, hp, h2, h3⟩
    have h1 : fl = .nx := h1
    have h2 : S' = _ := h2
    have h3 : σ = _ := h3
    subst h1 h2 h3
    have hmm : m * 101 ≤ 100 * 101 := Nat.mul_le_mul (by omega) (by omega)
    wp_walk using hi, hPl
    exact ⟨P, c, hP, hPl, hp.mono (by omega), rfl⟩
end Mi
end
section
namespace Mi
open PySem Mi Mi.L
local macro_rules | `(tactic| wp_walk using $[$ts:term],*) => `(tactic| simp (disch := first | with_reducible assumption | omega | (simp only [List.length_set, List.length_append, List.length_cons, List.length_nil, List.length_map, List.length_range, List.length_replicate, Line]; omega) | (simp only [List.length_set, List.length_append, List.length_cons, List.length_nil, List.length_map, List.length_range, List.length_replicate]; done) | fail) only [au0, au1, au2, au3, au4, au5, au6, List.getElem?_map, dI, dT, List.getElem?_cons_zero, List.getElem?_cons_succ, List.set_cons_zero, List.set_cons_succ, List.map_cons, List.map_nil, List.length_cons, List.length_nil, List.cons_append, List.nil_append, List.append_nil, List.append_assoc, List.reduceReplicate, List.length_set, List.set_set, List.length_append, List.length_map, List.length_range, List.length_replicate, decide_true, decide_false, decide_eq_true_eq, Bool.not_eq_true', decide_eq_false_iff_not, Bool.true_and, Bool.false_and, Bool.not_true, Bool.not_false, Bool.false_eq_true, if_true, if_false, Int.toNat_natCast, Int.reduceToNat, Int.reducePow, Int.reduceMul, Int.reduceAdd, Int.reduceSub, Int.reduceNeg, Int.reduceLT, Int.reduceLE, Nat.sub_self, Nat.add_sub_cancel_left, Nat.reduceAdd, Nat.reduceSub, Nat.reduceLT, Nat.reduceLeDiff, Int.cast_ofNat_Int, true_or, or_true, true_and, and_true, $[$ts:term],*])
theorem orders_ok {b : Nat} {S : Store} {i m n : Nat} {P : List (List Nat)} (h : PotAt b S i) (hb : b < 2 ^ 45) (hm1 : 0 < m) (hm : m ≤ 100) (hn0 : 0 < n) (hn : n ≤ 100) (hP : Probes n P) (hPl : P.length = m) (L : Store) :
    ∃ (os : List (List Nat)) (c : Cell), Ords n m os ∧ PotAt (b + 20000) (S.set i c) i ∧ f_l_orders [.ref i, .p (.tuple (P.map dT))] (S ++ L) = .ok (.p (.tuple (os.map dT)), S.set i c ++ L) := by
  have hi := h.lt
  suffices hs : Rn (f_l_orders [.ref i, .p (.tuple (P.map dT))] (S ++ L)) fun q => ∃ (os : List (List Nat)) (c : Cell), Ords n m os ∧ PotAt (b + 20000) (S.set i c) i ∧ q = (.p (.tuple (os.map dT)), S.set i c ++ L) by
    obtain ⟨q, e, os, c, h1, h2, rfl⟩ := hs.ex
    exact ⟨os, c, h1, h2, e⟩
  obtain ⟨w, c1, hw, p1, e1⟩ := take2_all (n := (3 : Int)) h (by omega) (by omega) (by omega)
  have e1' := e1 L
  have q0 : Option.map dT P[0]? = some (.tuple (P[0]!.map dI)) := bangT (by omega)
  have hl0 : P[0]!.length = n := hP.len (by omega)
  refine fn_rnQ rfl ?_
  unfold b_l_orders
  wp_walk using hi, e1', q0, hl0
  refine Rn.bs ((for_range (fun j σ S' => ∃ (os : List (List Nat)) (c : Cell) (t4 t5 t6 t7 t8 t9 : Option D), Ords j m os ∧ PotAt (b + 1 + j * 101) (S.set i c) i ∧ S' = S.set i c ++ (L ++ [.lst (os.map dT)]) ∧
      σ = [some (.ref i), some (.p (.tuple (P.map dT))), some (.p (.int w)), some (.ref (S.length + L.length)), t4, t5, t6, t7, t8, t9])
    (Q := fun q => q.1 = .nx ∧ ∃ (os : List (List Nat)) (c : Cell) (t4 t5 t6 t7 t8 t9 : Option D), Ords n m os ∧ PotAt (b + 1 + n * 101) (S.set i c) i ∧ q.2.2 = S.set i c ++ (L ++ [.lst (os.map dT)]) ∧
      q.2.1 = [some (.ref i), some (.p (.tuple (P.map dT))), some (.p (.int w)), some (.ref (S.length + L.length)), t4, t5, t6, t7, t8, t9])
    ⟨[], c1, none, none, none, none, none, none, ⟨rfl, by simp⟩, by simpa using p1, rfl, rfl⟩ (fun _ _ _ _ => stand_nil _) ?_ ?_).mono ?_)
  · rintro j σ S' hj ⟨os, c, t4, t5, t6, t7, t8, t9, hos, hp, rfl, rfl⟩
    have hbj : b + 1 + j * 101 < 2 ^ 46 := by
      have : j * 101 ≤ 100 * 101 := Nat.mul_le_mul (by omega) (by omega)
      omega
    have fin : ∀ (o : List Nat) (c' : Cell) (u4 u5 u6 u7 u8 u9 : Option D), o.Perm (List.range m) → PotAt (b + 1 + j * 101 + 101) (S.set i c') i → ∃ (os' : List (List Nat)) (c : Cell) (t4 t5 t6 t7 t8 t9 : Option D), Ords (j + 1) m os' ∧ PotAt (b + 1 + (j + 1) * 101) (S.set i c) i ∧ S.set i c' ++ (L ++ [.lst (os.map dT ++ [.tuple (o.map dI)])]) = S.set i c ++ (L ++ [.lst (os'.map dT)]) ∧
        [some (.ref i), some (.p (.tuple (P.map dT))), some (.p (.int w)), some (.ref (S.length + L.length)), u4, u5, u6, u7, u8, u9] = [some (.ref i), some (.p (.tuple (P.map dT))), some (.p (.int w)), some (.ref (S.length + L.length)), t4, t5, t6, t7, t8, t9] := fun o c' u4 u5 u6 u7 u8 u9 ho hp' => by
      have hl : o.length = m := by rw [ho.length_eq, List.length_range]
      refine ⟨os ++ [o], c', u4, u5, u6, u7, u8, u9, ⟨by rw [List.length_append, hos.len]; rfl, fun x hx => ?_⟩, hp'.mono (by rw [Nat.add_mul j 1 101]; omega), ?_, rfl⟩
      · rcases List.mem_append.mp hx with hx | hx
        · exact hos.ord x hx
        · rw [List.mem_singleton.mp hx]
          exact ⟨by unfold Ord; rw [hl]; exact ho, hl⟩
      · rw [List.map_append]
        rfl
    have hosl := hos.len
    obtain ⟨o, c3, ho, hol, p3, e3⟩ := shuf_ok hp (by omega) hm (L ++ [.lst (os.map dT)])
    simp only [List.set_set] at e3 p3
    have hop : o.Perm (List.range m) := by rw [← hol]; exact ho
    by_cases hw0 : (0 : Int) < w
    · generalize hts : o.map (fun k => ((0 - (P[k]!.idxOf j : Int), o.idxOf k, k) : Int × Nat × Nat)) = ts
      obtain ⟨ss, hss, hsort⟩ : ∃ ss : List (Int × Nat × Nat), ss.Perm ts ∧ sortD (ts.map tri) = ss.map tri := ⟨_, List.mergeSort_perm ts _, (PySem.W.sort_maps tri fun a _ b _ => rfl).symm⟩
      have hps : pSorted (.list (ts.map tri)) = .ok (.list (ss.map tri)) := pSorted_of (sortOk_tri ts) hsort
      have hto : ts.map (fun p => p.2.2) = o := by rw [← hts, List.map_map]; exact List.map_id' o
      generalize ho2 : ss.map (fun p => p.2.2) = o2
      have hop2 : o2.Perm (List.range m) := by
        rw [← ho2]
        refine (hss.map _).trans ?_
        rw [hto]
        exact hop
      have hsl : ss.length = m := by rw [← List.length_map (f := fun p : Int × Nat × Nat => p.2.2), ho2, hop2.length_eq, List.length_range]
      have hcv : ∀ (σ : Env) (S' : Store), σ.length = 10 → compL [7, 8, 9] (gT [gN 8, gN 9, gN 7]) tYes (mV 7) [] σ (ss.map tri) [] S' = .ok (.p (.list (o2.map dI)), S') := fun σ S' hσ => by
        rw [← ho2, List.map_map]
        refine comp_val tri (fun p => .int p.2.2) (stand_nil _) fun p hp acc => ?_
        match σ, hσ with
        | [u0, u1, u2, u3, u4, u5, u6, u7, u8, u9], _ =>
          wp_walk using wipe, tri
      have hce : ∀ (σ : Env) (S' : Store), (∃ t6 t7 t8 t9 : Option D, σ = [some (.ref i), some (.p (.tuple (P.map dT))), some (.p (.int w)), some (.ref (S.length + L.length)), some (.p (.int j)), some (.p (.tuple (o.map dI))), t6, t7, t8, t9]) →
          compL [7] (gN 7) tYes (mTup (aCons (mO2 pSub (mC (.int 0)) (mIndex (mIx (mV 1) (mV 7)) (mV 4))) (aCons (mIndex (mV 5) (mV 7)) (aCons (mV 7) aNil)))) [] σ (o.map dI) [] S' = .ok (.p (.list (ts.map tri)), S') := fun σ S' hσ => by
        obtain ⟨t6, t7, t8, t9, rfl⟩ := hσ
        rw [← hts, List.map_map]
        refine comp_val dI (fun k => tri (0 - (P[k]!.idxOf j : Int), o.idxOf k, k)) (stand_nil _) fun k hk acc => ?_
        have hk' : k < P.length := by
          have := hop.mem_iff.mp hk
          rw [List.mem_range] at this
          omega
        have e2 : Option.map dT P[k]? = some (.tuple (P[k]!.map dI)) := bangT hk'
        have e7 : pIndex (.tuple (P[k]!.map dI)) (.int j) = .ok (.int (P[k]!.idxOf j : Nat)) := pIndex_nat (hP.mem hk' hj)
        have e8 : pIndex (.tuple (o.map dI)) (.int k) = .ok (.int (o.idxOf k : Nat)) := pIndex_nat hk
        wp_walk using wipe, e2, e7, e8
        rfl
      have hce' := hce _ (S.set i c3 ++ (L ++ [.lst (os.map dT)])) ⟨t6, t7, t8, t9, rfl⟩
      have hcv' := hcv [some (.ref i), some (.p (.tuple (P.map dT))), some (.p (.int w)), some (.ref (S.length + L.length)), some (.p (.int j)), some (.p (.tuple (o.map dI))), some (.p (.list (ss.map tri))), t7, t8, t9] (S.set i c3 ++ (L ++ [.lst (os.map dT)])) rfl
      wp_walk using hi, e3, hPl, hw0, hol, hsl, hosl, hce', hps, hcv'
      exact fin o2 c3 _ _ _ _ _ _ hop2 (p3.mono (by omega))
    · wp_walk using hi, e3, hPl, hw0, hosl
      exact fin o c3 _ _ _ _ _ _ hop (p3.mono (by omega))
  · rintro σ S' ⟨os, c, t4, t5, t6, t7, t8, t9, hos, hp, rfl, rfl⟩
    exact ⟨rfl, os, c, t4, t5, t6, t7, t8, t9, hos, hp, rfl, rfl⟩
  · rintro ⟨fl, σ, S'⟩ ⟨h1, os, c, t4, t5, t6, t7, t8, t9, hos, hp, h2, h3⟩
    have h1 : fl = .nx := h1
    have h2 : S' = _ := h2
    have h3 : σ = _ := h3
    subst h1 h2 h3
    have hosl := hos.len
    have hmm : n * 101 ≤ 100 * 101 := Nat.mul_le_mul (by omega) (by omega)
    wp_walk using hi, hosl
    exact ⟨os, c, hos, hp.mono (by omega), rfl⟩
end Mi
end
section
namespace Mi
open PySem Mi Mi.L 
local macro_rules | `(tactic| wp_walk using $[$ts:term],*) => `(tactic| simp (disch := first | with_reducible assumption | omega | (simp only [List.length_set, List.length_append, List.length_cons, List.length_nil, List.length_map, List.length_range, List.length_replicate, Line]; omega) | (simp only [List.length_set, List.length_append, List.length_cons, List.length_nil, List.length_map, List.length_range, List.length_replicate]; done) | fail) only [au0, au1, au2, au3, au4, au5, au6, List.getElem?_map, dI, dT, List.getElem?_cons_zero, List.getElem?_cons_succ, List.set_cons_zero, List.set_cons_succ, List.map_cons, List.map_nil, List.length_cons, List.length_nil, List.cons_append, List.nil_append, List.append_nil, List.append_assoc, List.reduceReplicate, List.length_set, List.set_set, List.length_append, List.length_map, List.length_range, List.length_replicate, decide_true, decide_false, decide_eq_true_eq, Bool.not_eq_true', decide_eq_false_iff_not, Bool.true_and, Bool.false_and, Bool.not_true, Bool.not_false, Bool.false_eq_true, if_true, if_false, Int.toNat_natCast, Int.reduceToNat, Int.reducePow, Int.reduceMul, Int.reduceAdd, Int.reduceSub, Int.reduceNeg, Int.reduceLT, Int.reduceLE, Nat.sub_self, Nat.add_sub_cancel_left, Nat.reduceAdd, Nat.reduceSub, Nat.reduceLT, Nat.reduceLeDiff, Int.cast_ofNat_Int, true_or, or_true, true_and, and_true, $[$ts:term],*])
end Mi
end
section
namespace Mi
open PySem
def keyP (u : PyData) : R (List Int) := orNo (intsT u)
def nI (k : Nat) : Int := k
def oI : Option Nat → Int
  | none => -1
  | some k => k
theorem ints_dI : ∀ ks : List Nat, ints? (ks.map dI) = some (ks.map nI)
  | [] => rfl
  | k :: ks => by
    rw [List.map_cons]
    show (ints? (ks.map dI)).map _ = _
    rw [ints_dI ks]
    rfl
theorem ints_dO : ∀ r : Row, ints? (r.map dO) = some (r.map oI)
  | [] => rfl
  | x :: r => by
    rw [List.map_cons]
    cases x <;> (show (ints? (r.map dO)).map _ = _; rw [ints_dO r]; rfl)
theorem keyP_nil : keyP (.tuple []) = .ok [] := rfl
theorem keyP_nat (ks : List Nat) : keyP (.tuple (ks.map dI)) = .ok (ks.map nI) := by
  show orNo (ints? (ks.map dI)) = _
  rw [ints_dI ks]
  rfl
theorem keyP_row (r : Row) : keyP (.tuple (r.map dO)) = .ok (r.map oI) := by
  show orNo (ints? (r.map dO)) = _
  rw [ints_dO r]
  rfl
section
variable (a b o : Ex) (σ : Env) (S : Store) (d e : D) (u v z : PyData) (i j n : Nat) (zs : List Int) (kvs : Tv) (t : Bool)
def tv1F (n : Nat) (d : PyData) (S : Store) (zs : List Int) : R (D × Store) := tv1C n zs d S S[n]?
def tv1E (n : Nat) (x : D) (d : PyData) (S : Store) : R (D × Store) := bx (keyT S x) (tv1F n d S)
def tv1B (n : Nat) (x y : D) (S : Store) : R (D × Store) := bd (fz S y) (tv1E n x)
def tv1A (b : Ex) (n : Nat) (σ : Env) (x : D) (S : Store) : R (D × Store) := bd (b σ S) (tv1B n x)
theorem au_Tv0 : mTv0 σ S = .ok (.ref S.length, S ++ [.tdv true []]) := rfl
theorem au_Tv1 : mTv1 a b σ S = bd (a σ (S ++ [.tdv true []])) (tv1A b S.length σ) := rfl
theorem au_tv1A : tv1A b n σ d S = bd (b σ S) (tv1B n d) := rfl
theorem au_tv1B : tv1B n d e S = bd (fz S e) (tv1E n d) := rfl
theorem au_tv1E : tv1E n (.p u) v S = bx (keyP u) (tv1F n v S) := rfl
theorem au_tv1F : tv1F n u S zs = tv1C n zs u S S[n]? := rfl
theorem au_tv1C : tv1C i zs u S (some (.tdv true [])) = .ok (.ref i, S.set i (.tdv true [(zs, u)])) := rfl
def ixtE (S : Store) : Option PyData → R (D × Store)
  | some z => .ok (.p z, S)
  | none => .no
def ixtD (zs : List Int) (S : Store) : Option Cell → R (D × Store)
  | some (.tdv _ kvs) => ixtE S (lookT kvs zs)
  | _ => .no
def ixtC (x : D) (S : Store) (zs : List Int) : R (D × Store) := bx (tvOf S x) fun kvs => bx (orNo (lookT kvs zs)) fun z => .ok (.p z, S)
def ixtB (x y : D) (S : Store) : R (D × Store) := bx (keyT S y) (ixtC x S)
def ixtA (a : Ex) (σ : Env) (x : D) (S : Store) : R (D × Store) := bd (a σ S) (ixtB x)
theorem au_IxT : mIxT o a σ S = bd (o σ S) (ixtA a σ) := rfl
theorem au_ixtA : ixtA a σ d S = bd (a σ S) (ixtB d) := rfl
theorem au_ixtB : ixtB d (.p u) S = bx (keyP u) (ixtC d S) := rfl
theorem au_ixtC : ixtC (.ref i) S zs = ixtD zs S S[i]? := by
  show bx (tvC S[i]?) _ = _
  cases S[i]? with
  | none => rfl
  | some c =>
    cases c with
    | tdv b kvs =>
      show bx (orNo (lookT kvs zs)) _ = ixtE S (lookT kvs zs)
      cases lookT kvs zs <;> rfl
    | _ => rfl
theorem au_ixtD : ixtD zs S (some (.tdv t kvs)) = ixtE S (lookT kvs zs) := rfl
theorem au_ixtE : ixtE S (some z) = .ok (.p z, S) := rfl
def invD (g : Bool → Bool) (zs : List Int) (S : Store) : Option Cell → R (D × Store)
  | some (.tdv _ kvs) => .ok (.p (.bool (g (hasT kvs zs))), S)
  | _ => .no
def invC (g : Bool → Bool) (y : D) (S : Store) (zs : List Int) : R (D × Store) := bx (tvOf S y) fun kvs => .ok (.p (.bool (g (hasT kvs zs))), S)
def invB (g : Bool → Bool) (x y : D) (S : Store) : R (D × Store) := bx (keyT S x) (invC g y S)
def invA (g : Bool → Bool) (o : Ex) (σ : Env) (x : D) (S : Store) : R (D × Store) := bd (o σ S) (invB g x)
def yesB (b : Bool) : Bool := b
theorem au_InV : mInV a o σ S = bd (a σ S) (invA yesB o σ) := rfl
theorem au_NotInV : mNotInV a o σ S = bd (a σ S) (invA not o σ) := rfl
theorem au_invA (g : Bool → Bool) : invA g o σ d S = bd (o σ S) (invB g d) := rfl
theorem au_invB (g : Bool → Bool) : invB g (.p u) d S = bx (keyP u) (invC g d S) := rfl
theorem au_invC (g : Bool → Bool) : invC g (.ref i) S zs = invD g zs S S[i]? := by
  show bx (tvC S[i]?) _ = _
  cases S[i]? with
  | none => rfl
  | some c => cases c <;> rfl
theorem au_invD (g : Bool → Bool) : invD g zs S (some (.tdv t kvs)) = .ok (.p (.bool (g (hasT kvs zs))), S) := rfl
theorem au_yesB (b : Bool) : yesB b = b := rfl
def setvD (x : D) (d : PyData) (σ : Env) (S : Store) (zs : List Int) : R (Fl × Env × Store) := svD zs d σ S x
def setvC (x k : D) (σ : Env) (d : PyData) (S : Store) : R (Fl × Env × Store) := bx (keyT S k) (setvD x d σ S)
def setvB (y x : D) (σ : Env) (k : D) (S : Store) : R (Fl × Env × Store) := bd (fz S y) (setvC x k σ)
def setvA (i : Ex) (y : D) (σ : Env) (x : D) (S : Store) : R (Fl × Env × Store) := bd (i σ S) (setvB y x σ)
def setv0 (o i : Ex) (σ : Env) (y : D) (S : Store) : R (Fl × Env × Store) := bd (o σ S) (setvA i y σ)
theorem au_SetTv : sSetTv o b a σ S = bd (a σ S) (setv0 o b σ) := rfl
theorem au_setv0 : setv0 o b σ d S = bd (o σ S) (setvA b d σ) := rfl
theorem au_setvA : setvA b d σ e S = bd (b σ S) (setvB d e σ) := rfl
theorem au_setvB (k : D) : setvB d e σ k S = bd (fz S d) (setvC e k σ) := rfl
theorem au_setvC : setvC d (.p u) σ v S = bx (keyP u) (setvD d v σ S) := rfl
theorem au_setvD : setvD (.ref j) u σ S zs = svC j zs u σ S S[j]? := rfl
theorem au_svC : svC j zs u σ S (some (.tdv true kvs)) = when_ (decide (kvs.length < Line)) (.ok (.nx, σ, S.set j (.tdv true (putT kvs zs u)))) := rfl
def gtvD (zs : List Int) (z : D) (S : Store) : Option Cell → R (D × Store)
  | some (.tdv _ kvs) => gtT zs kvs S z
  | _ => .no
def gtvC (x z : D) (S : Store) (zs : List Int) : R (D × Store) := bx (tvOf S x) fun kvs => gtT zs kvs S z
def gtvB (x y z : D) (S : Store) : R (D × Store) := bx (keyT S y) (gtvC x z S)
def gtvA (b : Ex) (σ : Env) (x y : D) (S : Store) : R (D × Store) := bd (b σ S) (gtvB x y)
def isTvC : Option Cell → Bool
  | some (.tdv _ _) => true
  | _ => false
def gtv0 (a b : Ex) (σ : Env) (x : D) (S : Store) : R (D × Store) := when_ (isTv (tvOf S x)) (bd (a σ S) (gtvA b σ x))
theorem au_GetT : mGetT o a b σ S = bd (o σ S) (gtv0 a b σ) := rfl
theorem au_gtv0 : gtv0 a b σ (.ref i) S = when_ (isTvC S[i]?) (bd (a σ S) (gtvA b σ (.ref i))) := by
  show when_ (isTv (tvC S[i]?)) _ = _
  cases S[i]? with
  | none => rfl
  | some c => cases c <;> rfl
theorem au_isTvC : isTvC (some (.tdv t kvs)) = true := rfl
theorem au_gtvA : gtvA b σ d e S = bd (b σ S) (gtvB d e) := rfl
theorem au_gtvB : gtvB d (.p u) e S = bx (keyP u) (gtvC d e S) := rfl
theorem au_gtvC : gtvC (.ref i) d S zs = gtvD zs d S S[i]? := by
  show bx (tvC S[i]?) _ = _
  cases S[i]? with
  | none => rfl
  | some c => cases c <;> rfl
theorem au_gtvD : gtvD zs d S (some (.tdv t kvs)) = gtT zs kvs S d := rfl
theorem au_gtT : gtT zs kvs S (.p v) = .ok (.p ((lookT kvs zs).getD v), S) := rfl
def tvK (f : Store → Tv → R (D × Store)) (S : Store) : Option Cell → R (D × Store)
  | some (.tdv _ kvs) => f S kvs
  | _ => .no
def tvA (f : Store → Tv → R (D × Store)) (x : D) (S : Store) : R (D × Store) := bx (tvOf S x) (f S)
theorem au_SortTv : mSortTv o σ S = bd (o σ S) (tvA srT) := rfl
def lnT (S : Store) (kvs : Tv) : R (D × Store) := .ok (.p (.int kvs.length), S)
theorem au_LenTv : mLenTv o σ S = bd (o σ S) (tvA lnT) := rfl
theorem au_tvA (f : Store → Tv → R (D × Store)) : tvA f (.ref i) S = tvK f S S[i]? := by
  show bx (tvC S[i]?) _ = _
  cases S[i]? with
  | none => rfl
  | some c => cases c <;> rfl
theorem au_tvK (f : Store → Tv → R (D × Store)) : tvK f S (some (.tdv t kvs)) = f S kvs := rfl
theorem au_srT : srT S kvs = when_ (sortOk (kvs.map fun p => tuI p.1)) (.ok (.p (.list (sortD (kvs.map fun p => tuI p.1))), S)) := rfl
theorem au_lnT : lnT S kvs = .ok (.p (.int kvs.length), S) := rfl
def dpB (S : Store) : Option Tv → R (D × Store)
  | some kvs => .ok (.ref S.length, S ++ [.tdv true kvs])
  | none => .no
def dpA (x : D) (S : Store) : R (D × Store) := bx (dv S x) (dpT S)
theorem au_DictPT : mDictPT a σ S = bd (a σ S) dpA := rfl
theorem au_dpA (xs : List PyData) : dpA (.p (.list xs)) S = dpB S (mergeT [] xs) := by
  show bx (orNo (mergeT [] xs)) _ = _
  cases mergeT [] xs <;> rfl
theorem au_dpB : dpB S (some kvs) = .ok (.ref S.length, S ++ [.tdv true kvs]) := rfl
theorem au_iItT : iItemsT a σ S = bd (a σ S) itT := rfl
theorem au_itTv (ks : List (PyData × PyData)) : itT (.p (.dict ks)) S = when_ (!keyNT ks) (.ok (⟨pairsOf ks, []⟩, S)) := rfl
theorem au_iKsT : iKeysTv a σ S = bd (a σ S) ksD := rfl
theorem au_ksD : ksD (.ref i) S = ksC i S S[i]? := rfl
theorem au_ksC : ksC i S (some (.tdv t kvs)) = .ok (⟨kvs.map fun p => tuI p.1, []⟩, S.set i (.tdv false kvs)) := rfl
theorem au_fzT (kv : List Int × PyData) (r : Tv) : fzC S i (some (.tdv t (kv :: r))) = .ok (.dict ((kv :: r).map tvD), S.set i .dead) := rfl
end
def auT := And.intro @au_Tv0 <| And.intro @au_Tv1 <| And.intro @au_tv1A <| And.intro @au_tv1B <| And.intro @au_tv1E <| And.intro @au_tv1F <| And.intro @au_tv1C <| And.intro @au_IxT <| And.intro @au_ixtA <| And.intro @au_ixtB <| And.intro @au_ixtC <| And.intro @au_ixtD <| And.intro @au_ixtE <|
  And.intro @au_InV <| And.intro @au_NotInV <| And.intro @au_invA <| And.intro @au_invB <| And.intro @au_invC <| And.intro @au_invD <| And.intro @au_yesB <| And.intro @au_SetTv <| And.intro @au_setv0 <| And.intro @au_setvA <| And.intro @au_setvB <| And.intro @au_setvC <| And.intro @au_setvD <| And.intro @au_svC <|
  And.intro @au_GetT <| And.intro @au_gtv0 <| And.intro @au_isTvC <| And.intro @au_gtvA <| And.intro @au_gtvB <| And.intro @au_gtvC <| And.intro @au_gtvD <| And.intro @au_gtT <| And.intro @au_SortTv <| And.intro @au_LenTv <| And.intro @au_tvA <| And.intro @au_tvK <| And.intro @au_srT <| And.intro @au_lnT <|
  And.intro @au_DictPT <| And.intro @au_dpA <| And.intro @au_dpB <| And.intro @au_iItT <| And.intro @au_itTv <| And.intro @au_iKsT <| And.intro @au_ksD <| And.intro @au_ksC <| And.intro @au_fzT <| And.intro @keyP_nil <| And.intro @keyP_nat @keyP_row
section
variable {own vs1 : List Nat} {tg tg1 : Tg} {cond cond1 : Bx} {elt : Ex} {src1 : Is} {σ : Env}
theorem in_val (σ2 : Env) {β : Type} (f val : β → PyData) (kp : β → Bool) : ∀ (ys : List β) (acc : List PyData) (S : Store), acc.length + ys.length ≤ Line → (∀ y ∈ ys, ∀ acc, bx (tg1 (f y) (wipe σ2 vs1)) (fun σ3 => cond1 σ3 (S ++ [.lst acc])) = .ok (kp y, S ++ [.lst acc])) →
    (∀ y ∈ ys, kp y = true → ∀ acc, bx (tg1 (f y) (wipe σ2 vs1)) (fun σ3 => elt σ3 (S ++ [.lst acc])) = .ok (.p (val y), S ++ [.lst acc])) →
    inL vs1 tg1 cond1 elt σ2 (ys.map f) acc S = .ok (acc ++ (ys.filter kp).map val, S)
  | [], acc, S, _, _, _ => by simp [inL]
  | y :: ys, acc, S, hl, hc, he => by
    have hl : acc.length + (ys.length + 1) ≤ Line := hl
    rw [List.map_cons, inL]
    obtain ⟨σ1, h1, h2⟩ := bx_okE (hc y (by simp) acc)
    have tk : (S ++ [Cell.lst acc]).take S.length = S := by simp
    rw [bx_of h1, bd_of h2]
    cases hk : kp y with
    | true =>
      obtain ⟨σ2', h3, h4⟩ := bx_okE (he y (by simp) hk acc)
      rw [h1] at h3
      cases h3
      rw [if_pos rfl, bd_of h4, bd_of (fz_p _ _), when_of (by rw [stand_last]; simp; omega), tk, in_val σ2 f val kp ys _ S (by rw [List.length_append, List.length_singleton]; omega) (fun y hy => hc y (by simp [hy])) fun y hy => he y (by simp [hy])]
      simp [hk]
    | false =>
      rw [if_neg (by simp), when_of stand_last, tk, in_val σ2 f val kp ys _ S (by omega) (fun y hy => hc y (by simp [hy])) fun y hy => he y (by simp [hy])]
      simp [hk]
theorem out_val {α β : Type} (F : α → PyData) (f : α → β → PyData) (val : α → β → PyData) (ys : α → List β) (kp : α → β → Bool) (kq : α → Bool) {S : Store} (env : α → Env) :
    ∀ (xs : List α) (acc : List PyData), acc.length + (xs.flatMap ys).length ≤ Line →
    (∀ x ∈ xs, tg (F x) (wipe σ own) = .ok (env x)) → (∀ x ∈ xs, ∀ acc, cond (env x) (S ++ [.lst acc]) = .ok (kq x, S ++ [.lst acc])) →
    (∀ x ∈ xs, kq x = true → ∀ acc, src1 (env x) (S ++ [.lst acc]) = .ok (⟨(ys x).map (f x), []⟩, S ++ [.lst acc])) →
    (∀ x ∈ xs, kq x = true → ∀ y ∈ ys x, ∀ acc, bx (tg1 (f x y) (wipe (env x) vs1)) (fun σ3 => cond1 σ3 (S ++ [.lst acc])) = .ok (kp x y, S ++ [.lst acc])) →
    (∀ x ∈ xs, kq x = true → ∀ y ∈ ys x, kp x y = true → ∀ acc, bx (tg1 (f x y) (wipe (env x) vs1)) (fun σ3 => elt σ3 (S ++ [.lst acc])) = .ok (.p (val x y), S ++ [.lst acc])) →
    outL vs1 tg1 cond1 elt own tg cond src1 [] σ (xs.map F) acc S = .ok (.p (.list (acc ++ (xs.filter kq).flatMap fun x => ((ys x).filter (kp x)).map (val x))), S)
  | [], acc, _, _, _, _, _, _ => by
    rw [List.map_nil, outL, when_of (stand_nil _)]
    simp
  | x :: xs, acc, hl, h1, h2, h3, h4, h5 => by
    have tk : ∀ acc, (S ++ [Cell.lst acc]).take S.length = S := fun acc => by simp
    rw [List.flatMap_cons, List.length_append] at hl
    rw [List.map_cons, outL, when_of (stand_nil _), bx_of (h1 x (by simp)), bd_of (h2 x (by simp) acc)]
    cases hk : kq x with
    | true =>
      have hin : inL vs1 tg1 cond1 elt (env x) ((ys x).map (f x)) acc S = .ok (acc ++ ((ys x).filter (kp x)).map (val x), S) := in_val (env x) (f x) (val x) (kp x) (ys x) acc S (by omega) (h4 x (by simp) hk) (h5 x (by simp) hk)
      rw [if_pos rfl, bd_of (h3 x (by simp) hk acc), when_of (by rw [stand_last]; simp), tk, bd_of hin,
        out_val F f val ys kp kq env xs _ (by
          rw [List.length_append, List.length_map]
          have := List.length_filter_le (kp x) (ys x)
          omega) (fun y hy => h1 y (by simp [hy])) (fun y hy => h2 y (by simp [hy])) (fun y hy => h3 y (by simp [hy])) (fun y hy => h4 y (by simp [hy])) fun y hy => h5 y (by simp [hy])]
      simp [hk]
    | false =>
      rw [if_neg (by simp), when_of stand_last, tk, out_val F f val ys kp kq env xs _ (by omega) (fun y hy => h1 y (by simp [hy])) (fun y hy => h2 y (by simp [hy])) (fun y hy => h3 y (by simp [hy])) (fun y hy => h4 y (by simp [hy])) fun y hy => h5 y (by simp [hy])]
      simp [hk]
end
end Mi
end
section
namespace Mi
open PySem
def lastN (ks : List Nat) : Nat := ks.getLast?.getD 0
def subs (m : Nat) : Nat → List (List Nat)
  | 0 => [[]]
  | s + 1 => (subs m s).flatMap fun ks => ((List.range m).filter fun k => decide (ks = [] ∨ lastN ks < k)).map fun k => ks ++ [k]
theorem lastN_snoc (ks : List Nat) (k : Nat) : lastN (ks ++ [k]) = k := by unfold lastN; simp
abbrev Asc (ks : List Nat) : Prop := ks.Pairwise (· < ·)
theorem asc_snoc {ks : List Nat} {k : Nat} : Asc (ks ++ [k]) ↔ Asc ks ∧ (ks = [] ∨ lastN ks < k) := by
  rw [Asc, List.pairwise_append]
  constructor
  · rintro ⟨h1, _, h3⟩
    refine ⟨h1, ?_⟩
    rcases List.eq_nil_or_concat ks with rfl | ⟨l, x, rfl⟩
    · exact .inl rfl
    · rw [List.concat_eq_append] at h3 ⊢
      rw [lastN_snoc]
      exact .inr (h3 x (by simp) k (by simp))
  · rintro ⟨h1, h2⟩
    refine ⟨h1, by simp, fun x hx y hy => ?_⟩
    rw [List.mem_singleton.mp hy]
    rcases h2 with rfl | h2
    · simp at hx
    · rcases List.eq_nil_or_concat ks with rfl | ⟨l, z, rfl⟩
      · simp at hx
      · rw [List.concat_eq_append] at h1 h2 hx
        rw [lastN_snoc] at h2
        rcases List.mem_append.mp hx with hx | hx
        · have := (List.pairwise_append.mp h1).2.2 x hx z (by simp)
          omega
        · rw [List.mem_singleton.mp hx]
          exact h2
theorem mem_subs {m : Nat} : ∀ {s : Nat} {ks : List Nat}, ks ∈ subs m s ↔ ks.length = s ∧ Asc ks ∧ ∀ k ∈ ks, k < m
  | 0, ks => by
    unfold subs
    rw [List.mem_singleton]
    constructor
    · rintro rfl
      exact ⟨rfl, List.Pairwise.nil, by simp⟩
    · rintro ⟨h, _⟩
      exact List.length_eq_zero_iff.mp h
  | s + 1, ks => by
    unfold subs
    rw [List.mem_flatMap]
    constructor
    · rintro ⟨l, hl, hk⟩
      obtain ⟨k, h1, rfl⟩ := List.mem_map.mp hk
      obtain ⟨h2, h3⟩ := List.mem_filter.mp h1
      obtain ⟨e1, e2, e3⟩ := mem_subs.mp hl
      refine ⟨by simp [e1], asc_snoc.mpr ⟨e2, of_decide_eq_true h3⟩, fun x hx => ?_⟩
      rcases List.mem_append.mp hx with hx | hx
      · exact e3 x hx
      · rw [List.mem_singleton.mp hx]
        exact List.mem_range.mp h2
    · rintro ⟨h1, h2, h3⟩
      rcases List.eq_nil_or_concat ks with rfl | ⟨l, k, rfl⟩
      · simp at h1
      · rw [List.concat_eq_append] at *
        obtain ⟨h4, h5⟩ := asc_snoc.mp h2
        refine ⟨l, mem_subs.mpr ⟨by simpa using h1, h4, fun x hx => h3 x (by simp [hx])⟩, List.mem_map.mpr ⟨k, List.mem_filter.mpr ⟨List.mem_range.mpr (h3 k (by simp)), decide_eq_true h5⟩, rfl⟩⟩
theorem subs_nodup (m : Nat) : ∀ s, (subs m s).Nodup
  | 0 => by simp [subs]
  | s + 1 => by
    unfold subs
    rw [List.flatMap, List.nodup_iff_pairwise_ne, List.pairwise_flatten]
    refine ⟨fun l hl => ?_, ?_⟩
    · obtain ⟨ks, _, rfl⟩ := List.mem_map.mp hl
      rw [List.pairwise_map]
      refine List.Pairwise.imp ?_ (List.nodup_range.filter _)
      intro a b h e
      exact h (by simpa using e)
    · rw [List.pairwise_map]
      refine List.Pairwise.imp ?_ (subs_nodup m s)
      intro a b h x hx y hy e
      obtain ⟨_, _, rfl⟩ := List.mem_map.mp hx
      obtain ⟨_, _, rfl⟩ := List.mem_map.mp hy
      exact h (List.append_inj_left' e rfl)
def ascs : Nat → List (List Nat)
  | 0 => [[]]
  | m + 1 => ascs m ++ (ascs m).map (· ++ [m])
theorem ascs_len : ∀ m, (ascs m).length = 2 ^ m
  | 0 => rfl
  | m + 1 => by
    unfold ascs
    rw [List.length_append, List.length_map, ascs_len m, Nat.pow_succ]
    omega
theorem mem_ascs : ∀ {m : Nat} {ks : List Nat}, Asc ks → (∀ k ∈ ks, k < m) → ks ∈ ascs m
  | 0, ks, _, h => by
    cases ks with
    | nil => simp [ascs]
    | cons k ks => exact absurd (h k (by simp)) (by omega)
  | m + 1, ks, ha, h => by
    unfold ascs
    rcases List.eq_nil_or_concat ks with rfl | ⟨l, k, rfl⟩
    · exact List.mem_append_left _ (mem_ascs List.Pairwise.nil (by simp))
    · rw [List.concat_eq_append] at *
      have hk := h k (by simp)
      have hp := (List.pairwise_append.mp ha)
      by_cases e : k = m
      · subst e
        refine List.mem_append_right _ (List.mem_map.mpr ⟨l, mem_ascs hp.1 fun x hx => hp.2.2 x hx k (by simp), rfl⟩)
      · refine List.mem_append_left _ (mem_ascs ha fun x hx => ?_)
        rcases List.mem_append.mp hx with hx | hx
        · have := hp.2.2 x hx k (by simp)
          omega
        · rw [List.mem_singleton.mp hx]
          omega
theorem nodup_sub_len {α : Type} [BEq α] [LawfulBEq α] : ∀ {xs ys : List α}, xs.Nodup → (∀ x ∈ xs, x ∈ ys) → xs.length ≤ ys.length
  | [], ys, _, _ => Nat.zero_le _
  | x :: xs, ys, hn, h => by
    have hx := h x (by simp)
    have h1 := nodup_sub_len (xs := xs) (ys := ys.erase x) (List.nodup_cons.mp hn).2 fun y hy => (List.mem_erase_of_ne (fun e => (List.nodup_cons.mp hn).1 (by rw [← e]; exact hy))).mpr (h y (by simp [hy]))
    have h2 := List.length_erase_of_mem hx
    have h3 := List.length_pos_of_mem hx
    rw [List.length_cons]
    omega
def upto (m j : Nat) : List (List Nat) := (List.range j).flatMap fun s => subs m (s + 1)
theorem upto_succ (m j : Nat) : upto m (j + 1) = upto m j ++ subs m (j + 1) := by
  unfold upto
  rw [List.range_succ, List.flatMap_append]
  simp
theorem mem_upto {m j : Nat} {ks : List Nat} : ks ∈ upto m j ↔ ks ≠ [] ∧ ks.length ≤ j ∧ Asc ks ∧ ∀ k ∈ ks, k < m := by
  unfold upto
  rw [List.mem_flatMap]
  constructor
  · rintro ⟨s, hs, h⟩
    obtain ⟨h1, h2, h3⟩ := mem_subs.mp h
    have := List.mem_range.mp hs
    exact ⟨fun e => by subst e; simp at h1, by omega, h2, h3⟩
  · rintro ⟨h0, h1, h2, h3⟩
    have hp := List.length_pos_iff.mpr h0
    exact ⟨ks.length - 1, List.mem_range.mpr (by omega), mem_subs.mpr ⟨by omega, h2, h3⟩⟩
theorem upto_nodup (m : Nat) : ∀ j, (upto m j).Nodup
  | 0 => by simp [upto]
  | j + 1 => by
    rw [upto_succ, List.nodup_append]
    refine ⟨upto_nodup m j, subs_nodup m _, fun a ha b hb e => ?_⟩
    subst e
    have h1 := (mem_upto.mp ha).2.1
    have h2 := (mem_subs.mp hb).1
    omega
theorem upto_len (m j : Nat) : (upto m j).length ≤ 2 ^ m := by
  rw [← ascs_len m]
  exact nodup_sub_len (upto_nodup m j) fun ks h => mem_ascs (mem_upto.mp h).2.2.1 (mem_upto.mp h).2.2.2
theorem subs_len (m s : Nat) : (subs m s).length ≤ 2 ^ m := by
  rw [← ascs_len m]
  exact nodup_sub_len (subs_nodup m s) fun ks h => mem_ascs (mem_subs.mp h).2.1 (mem_subs.mp h).2.2
theorem Asc.nodup {ks : List Nat} (h : Asc ks) : ks.Nodup := h.imp fun h => Nat.ne_of_lt h
theorem erase_filter {ks : List Nat} (h : ks.Nodup) (k : Nat) : ks.filter (fun x => decide (x ≠ k)) = ks.erase k := by
  rw [h.erase_eq_filter]
  congr 1
  funext x
  by_cases e : x = k <;> simp [e]
theorem Asc.erase {ks : List Nat} (h : Asc ks) (k : Nat) : Asc (ks.erase k) := List.Pairwise.sublist List.erase_sublist h
section
variable (P : List (List Nat)) (T : List (List (List Nat))) (n : Nat)
def Uniq (ks : List Nat) : Prop := ∀ h : List Nat, h.Perm ks → rowOfH P T n h = rowOfH P T n ks.reverse
def lastH (ks : List Nat) (k : Nat) : List Nat := (ks.erase k).reverse ++ [k]
def oddK (ks : List Nat) : Option Nat := ks.find? fun k => decide (rowOfH P T n (lastH ks k) ≠ rowOfH P T n ks.reverse)
variable {P T n}
theorem rowOfH_snoc (h : List Nat) (k : Nat) : rowOfH P T n (h ++ [k]) = lay1 P T (rowOfH P T n h) k := by
  unfold rowOfH
  rw [List.foldl_append]
  rfl
theorem odd_none {ks : List Nat} (h : ∀ k ∈ ks, Uniq P T n (ks.erase k)) : oddK P T n ks = none ↔ Uniq P T n ks := by
  unfold oddK
  rw [List.find?_eq_none]
  constructor
  · intro hk l hl
    rcases List.eq_nil_or_concat l with rfl | ⟨l, k, rfl⟩
    · have : ks = [] := by simpa using hl.symm
      rw [this]
      rfl
    · rw [List.concat_eq_append] at hl ⊢
      have hmem : k ∈ ks := hl.mem_iff.mp (by simp)
      have hp : l.Perm (ks.erase k) := by
        have h1 : (l ++ [k]).Perm (k :: l) := by
          simpa using List.perm_append_comm (l₁ := l) (l₂ := [k])
        have := (h1.symm.trans hl).erase k
        simpa using this
      have h1 := hk k hmem
      have h1 : rowOfH P T n (lastH ks k) = rowOfH P T n ks.reverse := by
        simpa using h1
      rw [← h1, lastH, rowOfH_snoc, rowOfH_snoc, h k hmem l hp]
  · intro hu k hk
    have : rowOfH P T n (lastH ks k) = rowOfH P T n ks.reverse := by
      refine hu _ ?_
      unfold lastH
      refine (List.perm_append_comm).trans ?_
      show (k :: (ks.erase k).reverse).Perm ks
      exact ((List.reverse_perm _).cons k).trans (List.perm_cons_erase hk).symm
    simpa using this
theorem lastH_perm {ks : List Nat} {k : Nat} (hk : k ∈ ks) : (lastH ks k).Perm ks := by
  unfold lastH
  refine (List.perm_append_comm).trans ?_
  show (k :: (ks.erase k).reverse).Perm ks
  exact ((List.reverse_perm _).cons k).trans (List.perm_cons_erase hk).symm
theorem lastH_head (k : Nat) (ks : List Nat) : lastH (k :: ks) k = (k :: ks).reverse := by
  unfold lastH
  rw [List.erase_cons_head, List.reverse_cons]
theorem Uniq.perm {ks ls : List Nat} (h : Uniq P T n ks) (hp : ls.Perm ks) : Uniq P T n ls := fun l hl => by
  rw [h l (hl.trans hp), h ls.reverse ((List.reverse_perm ls).trans hp)]
end
end Mi
end
section
namespace Mi
open PySem Mi Mi.L 
local macro_rules | `(tactic| wp_walk using $[$ts:term],*) => `(tactic| simp (disch := first | with_reducible assumption | omega | (simp only [List.length_set, List.length_append, List.length_cons, List.length_nil, List.length_map, List.length_range, List.length_replicate, Line]; omega) | (simp only [List.length_set, List.length_append, List.length_cons, List.length_nil, List.length_map, List.length_range, List.length_replicate]; done) | fail) only [au0, au1, au2, au3, au4, au5, au6, List.getElem?_map, dI, dT, List.getElem?_cons_zero, List.getElem?_cons_succ, List.set_cons_zero, List.set_cons_succ, List.map_cons, List.map_nil, List.length_cons, List.length_nil, List.cons_append, List.nil_append, List.append_nil, List.append_assoc, List.reduceReplicate, List.length_set, List.set_set, List.length_append, List.length_map, List.length_range, List.length_replicate, decide_true, decide_false, decide_eq_true_eq, Bool.not_eq_true', decide_eq_false_iff_not, Bool.true_and, Bool.false_and, Bool.not_true, Bool.not_false, Bool.false_eq_true, if_true, if_false, Int.toNat_natCast, Int.reduceToNat, Int.reducePow, Int.reduceMul, Int.reduceAdd, Int.reduceSub, Int.reduceNeg, Int.reduceLT, Int.reduceLE, Nat.sub_self, Nat.add_sub_cancel_left, Nat.reduceAdd, Nat.reduceSub, Nat.reduceLT, Nat.reduceLeDiff, Int.cast_ofNat_Int, true_or, or_true, true_and, and_true, $[$ts:term],*])
theorem pIx_last (ks : List Nat) (k : Nat) : pIx (.tuple ((ks ++ [k]).map dI)) (.int (-1)) = .ok (.int k) := by
  have e : atD ((ks ++ [k]).map dI) (-1) = some (dI k) := by
    unfold atD ixN
    rw [if_neg (by omega), if_pos (by simp; omega)]
    have e : (-1 + (((ks ++ [k]).map dI).length : Int)).toNat = ks.length := by simp; omega
    show ((ks ++ [k]).map dI)[(-1 + (((ks ++ [k]).map dI).length : Int)).toNat]? = _
    rw [e, List.getElem?_map]
    simp
  show orNo (atD ((ks ++ [k]).map dI) (-1)) = _
  rw [e]
  rfl
theorem last_ne {ks : List Nat} (h : ks ≠ []) : pIx (.tuple (ks.map dI)) (.int (-1)) = .ok (.int (lastN ks)) := by
  rcases List.eq_nil_or_concat ks with rfl | ⟨l, k, rfl⟩
  · exact absurd rfl h
  · rw [List.concat_eq_append, pIx_last, lastN_snoc]
theorem pEq_nil (ks : List Nat) : pEq (.tuple (ks.map dI)) (.tuple []) = .ok (.bool (decide (ks = []))) := by
  unfold pEq
  rw [when_of (by rw [flat_t (fun x hx => by obtain ⟨k, _, rfl⟩ := List.mem_map.mp hx; exact fl_int _)]; rfl)]
  cases ks <;> rfl
theorem sets_of_ok {m s : Nat} (hm : m ≤ 16) (hs : s ≤ m) (S : Store) (hm8 : m ≤ 8) : f_sets_of [.p (.int m), .p (.int s)] S = .ok (.p (.list ((subs m s).map dT)), S) := by
  refine fn_rn rfl ?_
  unfold b_sets_of
  wp_walk using hs
  refine Rn.bs ((for_range (fun k σ S' => ∃ t3 t4 t5 : Option D, S' = S ∧ σ = [some (.p (.int m)), some (.p (.int s)), some (.p (.list ((subs m k).map dT))), t3, t4, t5]) (Q := fun q => ∃ t3 t4 t5 : Option D, q = (.nx, [some (.p (.int m)), some (.p (.int s)), some (.p (.list ((subs m s).map dT))), t3, t4, t5], S))
    ⟨_, _, _, rfl, rfl⟩ (fun _ _ _ _ => stand_nil _) ?_ ?_).mono ?_)
  · rintro j σ S' hj ⟨t3, t4, t5, rfl, rfl⟩
    have hc : mComp2 [4, 5] [5] (iE (mV 2)) (gN 4) tYes (iR1 (mV 0)) (gN 5) (tOr (tE (mO2 pEq (mV 4) (mTup aNil))) (tE (mO2 pGt (mV 5) (mIx (mV 4) (mO1 pNeg (mC (.int 1))))))) (mO2 pAdd (mV 4) (mTup (aCons (mV 5) aNil)))
        [some (.p (.int m)), some (.p (.int s)), some (.p (.list ((subs m j).map dT))), some (.p (.int j)), t4, t5] S' = .ok (.p (.list ((subs m (j + 1)).map dT)), S') := by
      have e0 : iE (mV 2) [some (.p (.int m)), some (.p (.int s)), some (.p (.list ((subs m j).map dT))), some (.p (.int j)), t4, t5] S' = .ok (⟨(subs m j).map dT, []⟩, S') := rfl
      show bd (iE (mV 2) _ _) _ = _
      rw [bd_of e0]
      show outL [5] (gN 5) _ _ [4, 5] (gN 4) tYes (iR1 (mV 0)) [] _ ((subs m j).map dT) [] S' = _
      have hlen : ((subs m j).flatMap fun _ => List.range m).length ≤ Line := by
        have h1 := subs_len m j
        have h2 : 2 ^ m ≤ 2 ^ 8 := Nat.pow_le_pow_right (by omega) hm8
        rw [List.length_flatMap]
        simp only [List.length_range, List.map_const', List.sum_replicate_nat]
        have h3 : (subs m j).length * m ≤ 256 * 8 := Nat.mul_le_mul (by omega) hm8
        have hL : Line = 16777216 := rfl
        omega
      rw [out_val dT (fun _ => dI) (fun ks k => dT (ks ++ [k])) (fun _ => List.range m) (fun ks k => decide (ks = [] ∨ lastN ks < k)) (fun _ => true)
        (fun ks => [some (.p (.int m)), some (.p (.int s)), some (.p (.list ((subs m j).map dT))), some (.p (.int j)), some (.p (dT ks)), none]) (subs m j) [] (by simpa using hlen)]
      · rw [List.nil_append, List.filter_eq_self.mpr (by simp)]
        show R.ok (D.p (PyData.list _), S') = .ok (D.p (PyData.list ((subs m (j + 1)).map dT)), S')
        congr 4
        show _ = ((subs m j).flatMap fun ks => ((List.range m).filter fun k => decide (ks = [] ∨ lastN ks < k)).map fun k => ks ++ [k]).map dT
        rw [List.map_flatMap]
        congr 1
        funext ks
        rw [List.map_map]
        rfl
      · intro ks _; rfl
      · intro ks _ acc; rfl
      · intro ks _ _ acc
        wp_walk using hm
      · intro ks hks _ k hk acc
        have hk' := List.mem_range.mp hk
        have q1 := pEq_nil ks
        by_cases h0 : ks = []
        · subst h0
          have q1 : pEq (.tuple []) (.tuple []) = .ok (.bool true) := q1
          wp_walk using wipe, q1
        · have q2 := last_ne h0
          wp_walk using wipe, q1, q2, h0
          simp [h0]
      · intro ks hks _ k hk _ acc
        have hl := (mem_subs.mp hks).1
        have hlb : ks.length ≤ 100 := by omega
        wp_walk using wipe, hlb
        simp [dT, dI]
    wp_walk using hc
    exact ⟨_, _, _, rfl⟩
  · rintro σ S' ⟨t3, t4, t5, rfl, rfl⟩
    exact ⟨_, _, _, rfl⟩
  · rintro q ⟨t3, t4, t5, rfl⟩
    wp_walk using hs
theorem pNe_nat (x y : Nat) : pNe (.int x) (.int y) = .ok (.bool (decide (x ≠ y))) := by
  have e : PyData.eqv (.int (x : Int)) (.int y) = decide (x = y) := eqv_nat x y
  unfold pNe
  rw [e, flat_int, flat_int]
  by_cases h : x = y <;> simp [h, when_]
theorem without_ok (ks : List Nat) (k : Nat) (hl : ks.length ≤ 1000) (S : Store) : f_without_key [.p (.tuple (ks.map dI)), .p (.int k)] S = .ok (.p (.tuple ((ks.filter fun x => decide (x ≠ k)).map dI)), S) := by
  refine fn_rn rfl ?_
  unfold b_without_key
  have hc : compL [2] (gN 2) (tE (mO2 pNe (mV 2) (mV 1))) (mV 2) [] [some (.p (.tuple (ks.map dI))), some (.p (.int k)), none] (ks.map dI) [] S = .ok (.p (.list ((ks.filter fun x => decide (x ≠ k)).map dI)), S) := by
    refine comp_if dI dI (fun x => decide (x ≠ k)) (stand_nil _) (fun x hx acc => ?_) (fun x hx _ acc => ?_)
    · have q := pNe_nat x k
      wp_walk using wipe, q
    · wp_walk using wipe
  wp_walk using hc, hl
section
variable {n m : Nat} {P : List (List Nat)} {T : List (List (List Nat))}
theorem ins_row (hP : Probes n P) (hm : P.length = m) (hT : Tabs n m T) (hn : n ≤ 90) (hn0 : 0 < n) {h : List Nat} {k : Nat} (hnd : (h ++ [k]).Nodup) (hk : ∀ x ∈ h ++ [k], x < m) (hl : (h ++ [k]).length ≤ n) :
    ∀ S, ∃ p, f_insert [.p (.tuple (P.map dT)), .p (dRule T), .p (.tuple ((rowOfH P T n h).map dO)), .p (.int k)] S = .ok (.p (.tuple [.tuple ((rowOfH P T n (h ++ [k])).map dO), p]), S) := by
  rw [List.length_append, List.length_singleton] at hl
  have hd := List.nodup_append.mp hnd
  have r := Rw.fold hP hm hT hn hn0 hd.1 (fun x hx => hk x (by simp [hx])) (by omega) h.length (Nat.le_refl _)
  rw [List.take_length] at r
  have := (r.step hP hm hT (a := k) (by omega) hn (hk k (by simp)) (fun z => hd.2.2 k z k (by simp) rfl)).1
  rw [rowOfH_snoc]
  exact this
def entF (P : List (List Nat)) (T : List (List (List Nat))) (n : Nat) (h : List Nat) : PyData := .tuple [.tuple ((rowOfH P T n h).map dO), .tuple (h.map dI)]
def kvF (P : List (List Nat)) (T : List (List (List Nat))) (n : Nat) (ks : List Nat) : List Int × PyData := (ks.map nI, entF P T n ks.reverse)
theorem nI_inj : ∀ {xs ys : List Nat}, xs.map nI = ys.map nI → xs = ys
  | [], [], _ => rfl
  | [], _ :: _, h => by cases h
  | _ :: _, [], h => by cases h
  | x :: xs, y :: ys, h => by
    rw [List.map_cons, List.map_cons, List.cons.injEq] at h
    obtain ⟨h1, h2⟩ := h
    have h1 : ((x : Nat) : Int) = y := h1
    rw [nI_inj h2, show x = y by omega]
theorem look_kv {L : List (List Nat)} {ks : List Nat} (h : ks ∈ L) : lookT (L.map (kvF P T n)) (ks.map nI) = some (entF P T n ks.reverse) := by
  unfold lookT
  rw [List.find?_map]
  have : (L.find? ((fun p => decide (p.1 = ks.map nI)) ∘ kvF P T n)) = some ks := by
    cases hf : L.find? ((fun p => decide (p.1 = ks.map nI)) ∘ kvF P T n) with
    | none =>
      have := List.find?_eq_none.mp hf ks h
      simp [kvF] at this
    | some l =>
      have h1 := List.find?_some hf
      have h1 : l.map nI = ks.map nI := of_decide_eq_true h1
      rw [nI_inj h1]
  rw [this]
  rfl
theorem put_kv {L : List (List Nat)} {ks : List Nat} (h : ks ∉ L) : putT (L.map (kvF P T n)) (ks.map nI) (entF P T n ks.reverse) = (L ++ [ks]).map (kvF P T n) := by
  unfold putT
  rw [if_neg, List.map_append]
  · rfl
  · intro hm
    obtain ⟨p, hp, e⟩ := List.mem_map.mp hm
    obtain ⟨l, hl, rfl⟩ := List.mem_map.mp hp
    have e : l.map nI = ks.map nI := e
    rw [nI_inj e] at hl
    exact h hl
theorem lastIns_ok (hP : Probes n P) (hm : P.length = m) (hT : Tabs n m T) (hn : n ≤ 90) (hn0 : 0 < n) {ks : List Nat} (hnd : ks.Nodup) (hk : ∀ x ∈ ks, x < m) (hl : ks.length ≤ n) {S : Store} {r : Nat} {b : Bool} {L : List (List Nat)} (hr : S[r]? = some (.tdv b (L.map (kvF P T n)))) (hL : ∀ k ∈ ks, ks.erase k ∈ L) :
    f_last_inserts [.p (.tuple (P.map dT)), .p (dRule T), .ref r, .p (.tuple (ks.map dI))] S = .ok (.p (.list (ks.map fun k => entF P T n (lastH ks k))), S) := by
  have hrl := (List.getElem?_eq_some_iff.mp hr).1
  refine fn_rn rfl ?_
  unfold b_last_inserts
  wp_walk using hl
  refine Rn.bs ((for_map dI (fun j σ S' => ∃ t5 t6 t7 : Option D, S' = S ++ [.lst ((ks.take j).map fun k => entF P T n (lastH ks k))] ∧ σ = [some (.p (.tuple (P.map dT))), some (.p (dRule T)), some (.ref r), some (.p (.tuple (ks.map dI))), some (.ref S.length), t5, t6, t7])
    (Q := fun q => ∃ t5 t6 t7 : Option D, q = (.nx, [some (.p (.tuple (P.map dT))), some (.p (dRule T)), some (.ref r), some (.p (.tuple (ks.map dI))), some (.ref S.length), t5, t6, t7], S ++ [.lst (ks.map fun k => entF P T n (lastH ks k))]))
    ⟨_, _, _, rfl, rfl⟩ (fun _ _ _ _ => stand_nil _) ?_ ?_).mono ?_)
  · rintro j k σ S' hj ⟨t5, t6, t7, rfl, rfl⟩
    obtain ⟨hj1, hx⟩ := List.getElem?_eq_some_iff.mp hj
    have hkm : k ∈ ks := hx ▸ List.getElem_mem hj1
    have hw := without_ok ks k (by omega) (S ++ [Cell.lst ((ks.take j).map fun k => entF P T n (lastH ks k))])
    rw [erase_filter hnd] at hw
    have hlk := look_kv (P := P) (T := T) (n := n) (hL k hkm)
    have hpm := lastH_perm hkm
    have hnd2 : ((ks.erase k).reverse ++ [k]).Nodup := hpm.nodup_iff.mpr hnd
    obtain ⟨p, hi⟩ := ins_row hP hm hT hn hn0 hnd2 (fun x hx => hk x (hpm.mem_iff.mp hx)) (by rw [show ((ks.erase k).reverse ++ [k]).length = ks.length from hpm.length_eq]; exact hl) (S ++ [Cell.lst ((ks.take j).map fun k => entF P T n (lastH ks k))])
    have hr2 : (S ++ [Cell.lst ((ks.take j).map fun k => entF P T n (lastH ks k))])[r]? = some (.tdv b (L.map (kvF P T n))) := by
      rw [List.getElem?_append_left hrl]
      exact hr
    have htk : ks.take (j + 1) = ks.take j ++ [k] := by rw [List.take_succ, hj]; rfl
    have hb1 : (ks.take j).length ≤ 90 := by rw [List.length_take]; omega
    have hb2 : (ks.erase k).reverse.length ≤ 90 := by rw [List.length_reverse]; exact Nat.le_trans (List.length_erase_le) (by omega)
    rw [htk]
    unfold entF at hlk
    generalize hks : (ks.erase k).reverse = h at *
    wp_walk using hw, auT, hr2, hlk, hi, hb1, hb2
    have he : entF P T n (lastH ks k) = .tuple [.tuple ((rowOfH P T n (h ++ [k])).map dO), .tuple (h.map dI ++ [.int k])] := by
      unfold entF lastH
      rw [hks, List.map_append]
      rfl
    rw [List.map_append, List.map_cons, List.map_nil, he]
    exact ⟨_, _, _, rfl, rfl⟩
  · rintro σ S' ⟨t5, t6, t7, rfl, rfl⟩
    rw [List.take_length]
    exact ⟨_, _, _, rfl⟩
  · rintro q ⟨t5, t6, t7, rfl⟩
    wp_walk using hl
end
section
variable {n m : Nat} {P : List (List Nat)} {T : List (List (List Nat))}
def pairF (ks : List Nat) (k : Nat) : PyData := .tuple [.tuple (ks.reverse.map dI), .tuple ((lastH ks k).map dI)]
structure OddAt (P : List (List Nat)) (T : List (List (List Nat))) (n m : Nat) (ks : List Nat) (k : Nat) : Prop where
  mem : k ∈ ks
  len : ks.length ≤ min m n
  asc : Asc ks
  lt : ∀ x ∈ ks, x < m
  odd : rowOfH P T n (lastH ks k) ≠ rowOfH P T n ks.reverse
  least : ∀ ls, ls.length < ks.length → Asc ls → (∀ x ∈ ls, x < m) → Uniq P T n ls
def Told (P : List (List Nat)) (T : List (List (List Nat))) (n m : Nat) (d : PyData) : Prop :=
  (d = .none ∧ ∀ ks ∈ upto m (min m n), Uniq P T n ks) ∨ ∃ ks k, d = pairF ks k ∧ OddAt P T n m ks k
def known (P : List (List Nat)) (T : List (List (List Nat))) (n : Nat) (L : List (List Nat)) : Tv := ([] :: L).map (kvF P T n)
theorem uniq_nil : Uniq P T n [] := fun h hp => by
  have : h = [] := by simpa using hp
  rw [this]
  rfl
theorem fz_known (S : Store) (i : Nat) (t : Bool) (L : List (List Nat)) : fzC S i (some (.tdv t (known P T n L))) = .ok (.dict ((known P T n L).map tvD), S.set i .dead) := rfl
theorem lastLook_ok {ks : List Nat} {x : Nat} {r : List Nat} (hks : ks = x :: r) (d0 d1 d3 d4 : Option D) {S : Store} {L : List (List Nat)} {t6 t7 : Option D} :
    Rn (forL (gT [gN 6, gN 7]) [] (sIf (tE (mO2 pNe (mV 6) (mIx (mIx (mV 5) (mC (.int 0))) (mC (.int 0)))))
      (sRet (mTup (aCons (mV 2) (aCons (mTup (aCons (mIx (mIx (mV 5) (mC (.int 0))) (mC (.int 1))) (aCons (mV 7) aNil))) aNil)))) sPass) (ks.map fun k => entF P T n (lastH ks k))
      [d0, d1, some (.ref S.length), d3, d4, some (.p (.list (ks.map fun k => entF P T n (lastH ks k)))), t6, t7] (S ++ [.tdv true (known P T n L)]))
      fun q => (q.1 = .nx ∧ (∃ t6 t7, q.2 = ([d0, d1, some (.ref S.length), d3, d4, some (.p (.list (ks.map fun k => entF P T n (lastH ks k)))), t6, t7], S ++ [.tdv true (known P T n L)])) ∧ ∀ k ∈ ks, rowOfH P T n (lastH ks k) = rowOfH P T n ks.reverse) ∨
        ∃ k ∈ ks, rowOfH P T n (lastH ks k) ≠ rowOfH P T n ks.reverse ∧ q.1 = .rt (.p (.tuple [.dict ((known P T n L).map tvD), pairF ks k])) ∧ q.2.2 = S ++ [.dead] := by
  have hh : (ks.map fun k => entF P T n (lastH ks k)) = .tuple [.tuple ((rowOfH P T n ks.reverse).map dO), .tuple (ks.reverse.map dI)] :: r.map fun k => entF P T n (lastH ks k) := by
    subst hks
    rw [List.map_cons, lastH_head]
    rfl
  refine (for_search (fun k => entF P T n (lastH ks k)) (fun σ S' => ∃ t6 t7, σ = [d0, d1, some (.ref S.length), d3, d4, some (.p (.list (ks.map fun k => entF P T n (lastH ks k)))), t6, t7] ∧ S' = S ++ [.tdv true (known P T n L)])
    (fun q => ∃ k ∈ ks, rowOfH P T n (lastH ks k) ≠ rowOfH P T n ks.reverse ∧ q.1 = .rt (.p (.tuple [.dict ((known P T n L).map tvD), pairF ks k])) ∧ q.2.2 = S ++ [.dead])
    (fun k => rowOfH P T n (lastH ks k) = rowOfH P T n ks.reverse) ks _ _ ⟨t6, t7, rfl, rfl⟩ ?_).mono ?_
  · rintro k hk σ S' ⟨t6, t7, rfl, rfl⟩
    have q := pNe_rows (rowOfH P T n (lastH ks k)) (rowOfH P T n ks.reverse)
    rw [hh]
    unfold entF
    by_cases he : rowOfH P T n (lastH ks k) = rowOfH P T n ks.reverse
    · rw [he] at q ⊢
      rw [decide_eq_true rfl] at q
      wp_walk using q
      exact .inl ⟨_, _, rfl⟩
    · rw [decide_eq_false he] at q
      have f := fz_known (P := P) (T := T) (n := n) (S ++ [Cell.tdv true (known P T n L)]) S.length true L
      wp_walk using q, f
      exact .inr ⟨_, rfl, k, hk, he, rfl⟩
  · rintro ⟨fl, σ, S'⟩ h
    rcases h with ⟨h1, ⟨t6, t7, h2, h3⟩, h4⟩ | ⟨d, h1, h2⟩
    · exact .inl ⟨h1, ⟨t6, t7, by rw [show σ = _ from h2, show S' = _ from h3]⟩, h4⟩
    · exact .inr h2
theorem mem_erase_known {s : Nat} {ks : List Nat} {i : Nat} (h : ks ∈ subs m (s + 1)) {k : Nat} (hk : k ∈ ks) : ks.erase k ∈ [] :: (upto m s ++ (subs m (s + 1)).take i) := by
  obtain ⟨h1, h2, h3⟩ := mem_subs.mp h
  have hl := List.length_erase_of_mem hk
  by_cases h0 : ks.erase k = []
  · rw [h0]
    simp
  · refine List.mem_cons_of_mem _ (List.mem_append_left _ (mem_upto.mpr ⟨h0, by omega, h2.erase k, fun x hx => h3 x (List.mem_of_mem_erase hx)⟩))
theorem known_put {L : List (List Nat)} {ks : List Nat} (h : ks ∉ [] :: L) : putT (known P T n L) (ks.map nI) (entF P T n ks.reverse) = known P T n (L ++ [ks]) := put_kv h
theorem known_len (L : List (List Nat)) : (known P T n L).length = L.length + 1 := by simp [known]
theorem set_turn (hP : Probes n P) (hm : P.length = m) (hT : Tabs n m T) (hn : n ≤ 16) (hn0 : 0 < n) (hm8 : m ≤ 8) {S : Store} {s i : Nat} {ks : List Nat} (hsm : s + 1 ≤ min m n) (hks : (subs m (s + 1))[i]? = some ks) (hu : ∀ ls ∈ upto m s, Uniq P T n ls) (d3 t5 t6 t7 : Option D) :
    Rn (sSeq (sAsg 5 (mCall f_last_inserts (aCons (mV 0) (aCons (mV 1) (aCons (mV 2) (aCons (mV 4) aNil))))))
        (sSeq (sFor (iE (mV 5)) (gT [gN 6, gN 7]) (sIf (tE (mO2 pNe (mV 6) (mIx (mIx (mV 5) (mC (.int 0))) (mC (.int 0))))) (sRet (mTup (aCons (mV 2) (aCons (mTup (aCons (mIx (mIx (mV 5) (mC (.int 0))) (mC (.int 1))) (aCons (mV 7) aNil))) aNil)))) (sPass)))
        (sSetTv (mV 2) (mV 4) (mIx (mV 5) (mC (.int 0)))))
      [some (.p (.tuple (P.map dT))), some (.p (dRule T)), some (.ref S.length), d3, some (.p (.tuple (ks.map dI))), t5, t6, t7] (S ++ [.tdv true (known P T n (upto m s ++ (subs m (s + 1)).take i))]))
      fun q => (q.1 = .nx ∧ (∃ t5 t6 t7, q.2 = ([some (.p (.tuple (P.map dT))), some (.p (dRule T)), some (.ref S.length), d3, some (.p (.tuple (ks.map dI))), t5, t6, t7], S ++ [.tdv true (known P T n (upto m s ++ (subs m (s + 1)).take (i + 1)))])) ∧ Uniq P T n ks) ∨
        ∃ (k : Nat) (kv : Tv), OddAt P T n m ks k ∧ q.1 = .rt (.p (.tuple [.dict (kv.map tvD), pairF ks k])) ∧ q.2.2 = S ++ [.dead] := by
  obtain ⟨hi, hx⟩ := List.getElem?_eq_some_iff.mp hks
  have hmem : ks ∈ subs m (s + 1) := hx ▸ List.getElem_mem hi
  obtain ⟨h1, h2, h3⟩ := mem_subs.mp hmem
  obtain ⟨x, r, hxr⟩ : ∃ x r, ks = x :: r := by
    cases ks with
    | nil => simp at h1
    | cons x r => exact ⟨x, r, rfl⟩
  have hue : ∀ k ∈ ks, Uniq P T n (ks.erase k) := fun k hk => by
    have := mem_erase_known (i := 0) hmem hk
    rw [List.take_zero, List.append_nil] at this
    rcases List.mem_cons.mp this with h0 | h0
    · rw [h0]; exact uniq_nil
    · exact hu _ h0
  have hleast : ∀ ls, ls.length < ks.length → Asc ls → (∀ x ∈ ls, x < m) → Uniq P T n ls := fun ls hl ha hlt => by
    by_cases h0 : ls = []
    · rw [h0]; exact uniq_nil
    · exact hu _ (mem_upto.mpr ⟨h0, by omega, ha, hlt⟩)
  have hnew : ks ∉ [] :: (upto m s ++ (subs m (s + 1)).take i) := by
    intro h
    rcases List.mem_cons.mp h with h | h
    · rw [h] at h1; simp at h1
    · rcases List.mem_append.mp h with h | h
      · have := (mem_upto.mp h).2.1
        omega
      · obtain ⟨j, hj, e⟩ := List.mem_iff_getElem.mp h
        rw [List.length_take] at hj
        rw [List.getElem_take] at e
        have := (List.getElem_inj (subs_nodup m (s + 1))).mp (e.trans hx.symm)
        omega
  have htk : (subs m (s + 1)).take (i + 1) = (subs m (s + 1)).take i ++ [ks] := by rw [List.take_succ, hks]; rfl
  rw [htk, ← List.append_assoc]
  generalize hL : upto m s ++ (subs m (s + 1)).take i = L at *
  have hLl : L.length ≤ 2 * 2 ^ m := by
    rw [← hL, List.length_append, List.length_take]
    have := upto_len m s
    have := subs_len m (s + 1)
    omega
  have h28 : 2 ^ m ≤ 2 ^ 8 := Nat.pow_le_pow_right (by omega) hm8
  have hlast := lastIns_ok hP hm hT (by omega) hn0 h2.nodup h3 (by omega) (S := S ++ [.tdv true (known P T n L)]) (r := S.length) (b := true) (L := [] :: L) (by simp [known]) (fun k hk => by rw [← hL]; exact mem_erase_known hmem hk)
  have hin := lastLook_ok (P := P) (T := T) (n := n) hxr (some (.p (.tuple (P.map dT)))) (some (.p (dRule T))) d3 (some (.p (.tuple (ks.map dI)))) (S := S) (L := L) (t6 := t6) (t7 := t7)
  have hh : (ks.map fun k => entF P T n (lastH ks k)) = entF P T n ks.reverse :: r.map fun k => entF P T n (lastH ks k) := by
    rw [hxr, List.map_cons, lastH_head]
  wp_walk using hlast
  refine Rn.bs (hin.mono ?_)
  rintro ⟨fl, σ, S'⟩ h
  rcases h with ⟨e1, ⟨t6, t7, e2⟩, e3⟩ | ⟨k, e1, e2, e3, e4⟩
  · have e1 : fl = .nx := e1
    have e2a : σ = _ := congrArg Prod.fst e2
    have e2b : S' = _ := congrArg Prod.snd e2
    subst e1 e2a e2b
    have hput := known_put (P := P) (T := T) (n := n) hnew
    have hkl : (known P T n L).length ≤ 5000 := by rw [known_len]; omega
    have hodd : oddK P T n ks = none := by
      unfold oddK
      rw [List.find?_eq_none]
      intro k hk
      simpa using e3 k hk
    rw [hh]
    wp_walk using auT, hput, hkl
    exact .inl ⟨⟨_, _, _, rfl⟩, (odd_none hue).mp hodd⟩
  · have e3 : fl = _ := e3
    have e4 : S' = _ := e4
    subst e3 e4
    wp_walk using auT
    exact .inr ⟨k, _, ⟨e1, by omega, h2, h3, e2, hleast⟩, rfl⟩
theorem rgD_one (k : Nat) : rgD 1 ((k : Int) + 1) = (List.range k).map fun j : Nat => PyData.int (1 + (j : Int)) := by
  unfold rgD
  rw [show ((k : Int) + 1 - 1).toNat = k by omega]
theorem size_turn (hP : Probes n P) (hm : P.length = m) (hT : Tabs n m T) (hn : n ≤ 16) (hn0 : 0 < n) (hm8 : m ≤ 8) {S : Store} {s : Nat} (hsm : s + 1 ≤ min m n) (hu : ∀ ls ∈ upto m s, Uniq P T n ls) (d3 t4 t5 t6 t7 : Option D) :
    Rn (forL (gN 4) [] (sSeq (sAsg 5 (mCall f_last_inserts (aCons (mV 0) (aCons (mV 1) (aCons (mV 2) (aCons (mV 4) aNil))))))
        (sSeq (sFor (iE (mV 5)) (gT [gN 6, gN 7]) (sIf (tE (mO2 pNe (mV 6) (mIx (mIx (mV 5) (mC (.int 0))) (mC (.int 0))))) (sRet (mTup (aCons (mV 2) (aCons (mTup (aCons (mIx (mIx (mV 5) (mC (.int 0))) (mC (.int 1))) (aCons (mV 7) aNil))) aNil)))) (sPass)))
        (sSetTv (mV 2) (mV 4) (mIx (mV 5) (mC (.int 0)))))) ((subs m (s + 1)).map dT)
      [some (.p (.tuple (P.map dT))), some (.p (dRule T)), some (.ref S.length), d3, t4, t5, t6, t7] (S ++ [.tdv true (known P T n (upto m s))]))
      fun q => (q.1 = .nx ∧ (∃ t4 t5 t6 t7, q.2 = ([some (.p (.tuple (P.map dT))), some (.p (dRule T)), some (.ref S.length), d3, t4, t5, t6, t7], S ++ [.tdv true (known P T n (upto m (s + 1)))])) ∧ ∀ ls ∈ upto m (s + 1), Uniq P T n ls) ∨
        ∃ (ks : List Nat) (k : Nat) (kv : Tv), OddAt P T n m ks k ∧ q.1 = .rt (.p (.tuple [.dict (kv.map tvD), pairF ks k])) ∧ q.2.2 = S ++ [.dead] := by
  refine (for_ret dT (fun i σ S' => (∃ t4 t5 t6 t7, σ = [some (.p (.tuple (P.map dT))), some (.p (dRule T)), some (.ref S.length), d3, t4, t5, t6, t7]) ∧ S' = S ++ [.tdv true (known P T n (upto m s ++ (subs m (s + 1)).take i))] ∧ ∀ ls ∈ (subs m (s + 1)).take i, Uniq P T n ls)
    (fun q => ∃ (ks : List Nat) (k : Nat) (kv : Tv), OddAt P T n m ks k ∧ q.1 = .rt (.p (.tuple [.dict (kv.map tvD), pairF ks k])) ∧ q.2.2 = S ++ [.dead]) (subs m (s + 1)) 0 _ _ ⟨⟨_, _, _, _, rfl⟩, by simp, by simp⟩ ?_).mono ?_
  · rintro i ks σ S' hks ⟨⟨t4, t5, t6, t7, rfl⟩, rfl, h3⟩
    rw [Nat.zero_add] at h3 ⊢
    have ht := set_turn hP hm hT hn hn0 hm8 (S := S) hsm hks hu d3 t5 t6 t7
    refine Rn.bx (Rn.of (a := [some (.p (.tuple (P.map dT))), some (.p (dRule T)), some (.ref S.length), d3, some (.p (.tuple (ks.map dI))), t5, t6, t7]) rfl (ht.mono ?_))
    rintro ⟨fl, σ, S'⟩ h
    rcases h with ⟨e1, ⟨t5, t6, t7, e2⟩, e3⟩ | ⟨k, kv, e1, e2, e3⟩
    · have e1 : fl = .nx := e1
      have e2a : σ = _ := congrArg Prod.fst e2
      have e2b : S' = _ := congrArg Prod.snd e2
      subst e1 e2a e2b
      refine .inl ⟨.inl rfl, ⟨_, _, _, _, rfl⟩, rfl, fun ls hl => ?_⟩
      have htk : (subs m (s + 1)).take (i + 1) = (subs m (s + 1)).take i ++ [ks] := by rw [List.take_succ, hks]; rfl
      rw [htk] at hl
      rcases List.mem_append.mp hl with hl | hl
      · exact h3 ls hl
      · rw [List.mem_singleton.mp hl]
        exact e3
    · exact .inr ⟨_, e2, ks, k, kv, e1, e2, e3⟩
  · rintro ⟨fl, σ, S'⟩ h
    rcases h with ⟨e1, ⟨t4, t5, t6, t7, e2⟩, e3, e4⟩ | ⟨d, e1, e2⟩
    · have e2 : σ = _ := e2
      have e3 : S' = _ := e3
      rw [Nat.zero_add, List.take_length, ← upto_succ] at e3
      rw [Nat.zero_add, List.take_length] at e4
      refine .inl ⟨e1, ⟨_, _, _, _, show (σ, S') = _ by rw [e2, e3]⟩, fun ls hl => ?_⟩
      rw [upto_succ] at hl
      rcases List.mem_append.mp hl with hl | hl
      · exact hu ls hl
      · exact e4 ls hl
    · exact .inr e2
theorem search_ok (hP : Probes n P) (hm : P.length = m) (hT : Tabs n m T) (hn : n ≤ 16) (hn0 : 0 < n) (hm8 : m ≤ 8) (S : Store) :
    ∃ (kv : Tv) (d : PyData), f_search_sets [.p (.tuple (P.map dT)), .p (dRule T)] S = .ok (.p (.tuple [.dict (kv.map tvD), d]), S) ∧ Told P T n m d ∧ (d = .none → kv = known P T n (upto m (min m n))) := by
  have hr := rep_none n (by omega)
  have htl : T.length = n := hT.len
  suffices Rn (f_search_sets [.p (.tuple (P.map dT)), .p (dRule T)] S) fun q => ∃ (kv : Tv) (d : PyData), q = (.p (.tuple [.dict (kv.map tvD), d]), S) ∧ Told P T n m d ∧ (d = .none → kv = known P T n (upto m (min m n))) by
    obtain ⟨q, e, kv, d, rfl, h⟩ := this.ex
    exact ⟨kv, d, e, h⟩
  refine fn_rnQ rfl ?_
  unfold b_search_sets
  have hd : dRule T = .tuple (T.map fun t => .tuple (t.map dT)) := rfl
  rw [hd]
  have hmin : (min (m : Int) n) = ((min m n : Nat) : Int) := by omega
  wp_walk using auT, hr, hm, htl
  rw [hmin, rgD_one, ← hd]
  refine Rn.bs ((for_ret (fun j : Nat => PyData.int (1 + (j : Int))) (fun j σ S' => (∃ t3 t4 t5 t6 t7, σ = [some (.p (.tuple (P.map dT))), some (.p (dRule T)), some (.ref S.length), t3, t4, t5, t6, t7]) ∧ S' = S ++ [.tdv true (known P T n (upto m j))] ∧ ∀ ls ∈ upto m j, Uniq P T n ls)
    (fun q => ∃ (ks : List Nat) (k : Nat) (kv : Tv), OddAt P T n m ks k ∧ q.1 = .rt (.p (.tuple [.dict (kv.map tvD), pairF ks k])) ∧ q.2.2 = S ++ [.dead]) (List.range (min m n)) 0 _ _ ⟨⟨_, _, _, _, _, rfl⟩, rfl, by simp [upto]⟩ ?_).mono ?_)
  · rintro j x σ S' hx ⟨⟨t3, t4, t5, t6, t7, rfl⟩, rfl, h3⟩
    obtain ⟨hj, e⟩ := List.getElem?_eq_some_iff.mp hx
    rw [List.getElem_range] at e
    rw [List.length_range] at hj
    subst e
    rw [Nat.zero_add] at h3 ⊢
    have hs := sets_of_ok (m := m) (s := j + 1) (by omega) (by omega) (S ++ [.tdv true (known P T n (upto m j))]) hm8
    have e1 : (1 : Int) + (j : Int) = ((j + 1 : Nat) : Int) := by omega
    have hz := size_turn hP hm hT hn hn0 hm8 (S := S) (s := j) (by omega) h3 (some (.p (.int ((j + 1 : Nat) : Int)))) t4 t5 t6 t7
    rw [e1]
    wp_walk using hs, hm
    have hz2 := hz.mono (Q' := fun q => ((q.1 = .nx ∨ q.1 = .ct) ∧ (∃ t3 t4 t5 t6 t7, q.2.1 = [some (.p (.tuple (P.map dT))), some (.p (dRule T)), some (.ref S.length), t3, t4, t5, t6, t7]) ∧ q.2.2 = S ++ [.tdv true (known P T n (upto m (j + 1)))] ∧ ∀ ls ∈ upto m (j + 1), Uniq P T n ls) ∨ ∃ d, q.1 = .rt d ∧ ∃ (ks : List Nat) (k : Nat) (kv : Tv), OddAt P T n m ks k ∧ q.1 = .rt (.p (.tuple [.dict (kv.map tvD), pairF ks k])) ∧ q.2.2 = S ++ [.dead]) (by
      rintro ⟨fl, σ, S'⟩ h
      rcases h with ⟨e1, ⟨t4, t5, t6, t7, e2⟩, e3⟩ | ⟨ks, k, kv, e1, e2, e3⟩
      · have e2a : σ = _ := congrArg Prod.fst e2
        have e2b : S' = _ := congrArg Prod.snd e2
        exact .inl ⟨.inl e1, ⟨_, _, _, _, _, e2a⟩, e2b, e3⟩
      · exact .inr ⟨_, e2, ks, k, kv, e1, e2, e3⟩)
    exact hz2
  · rintro ⟨fl, σ, S'⟩ h
    rcases h with ⟨e1, ⟨t3, t4, t5, t6, t7, e2⟩, e3, e4⟩ | ⟨d, e1, ks, k, kv, e2, e3, e4⟩
    · have e1 : fl = .nx := e1
      have e2 : σ = _ := e2
      have hz : 0 + (List.range (min m n)).length = min m n := by rw [Nat.zero_add, List.length_range]
      have e3 : S' = S ++ [Cell.tdv true (known P T n (upto m (min m n)))] := by
        rw [← hz]
        exact e3
      rw [hz] at e4
      subst e1 e2 e3
      have f := fz_known (P := P) (T := T) (n := n) (S ++ [Cell.tdv true (known P T n (upto m (min m n)))]) S.length true (upto m (min m n))
      rw [hz]
      wp_walk using f
      exact ⟨known P T n (upto m (min m n)), _, rfl, .inl ⟨rfl, e4⟩, fun _ => rfl⟩
    · have e3 : fl = _ := e3
      have e4 : S' = _ := e4
      subst e3 e4
      wp_walk using auT
      exact ⟨kv, _, rfl, .inr ⟨ks, k, rfl, e2⟩, fun h => by cases h⟩
theorem check8_ok (hm : P.length = m) (hm8 : m ≤ 8) (S : Store) : f_check_count [.p (.tuple (P.map dT))] S = .ok (.p .none, S) := by
  refine fn_rn rfl ?_
  unfold b_check_count
  have h : ¬ (8 < (m : Int)) := by omega
  wp_walk using hm, h
theorem unlike_ok (hP : Probes n P) (hm : P.length = m) (hT : Tabs n m T) (hn : n ≤ 16) (hn0 : 0 < n) (hm8 : m ≤ 8) (S : Store) :
    ∃ d, f_unlike [.p (.tuple (P.map dT)), .p (dRule T)] S = .ok (.p d, S) ∧ Told P T n m d := by
  obtain ⟨kv, d, h1, h2, _⟩ := search_ok hP hm hT hn hn0 hm8 S
  refine ⟨d, fn_rn rfl ?_, h2⟩
  unfold b_unlike
  have hc := check8_ok hm hm8 S
  wp_walk using hc, h1
end
end Mi
end
section
namespace Mi
open PySem Mi Mi.L 
local macro_rules | `(tactic| wp_walk using $[$ts:term],*) => `(tactic| simp (disch := first | with_reducible assumption | omega | (simp only [List.length_set, List.length_append, List.length_cons, List.length_nil, List.length_map, List.length_range, List.length_replicate, Line]; omega) | (simp only [List.length_set, List.length_append, List.length_cons, List.length_nil, List.length_map, List.length_range, List.length_replicate]; done) | fail) only [au0, au1, au2, au3, au4, au5, au6, List.getElem?_map, dI, dT, List.getElem?_cons_zero, List.getElem?_cons_succ, List.set_cons_zero, List.set_cons_succ, List.map_cons, List.map_nil, List.length_cons, List.length_nil, List.cons_append, List.nil_append, List.append_nil, List.append_assoc, List.reduceReplicate, List.length_set, List.set_set, List.length_append, List.length_map, List.length_range, List.length_replicate, decide_true, decide_false, decide_eq_true_eq, Bool.not_eq_true', decide_eq_false_iff_not, Bool.true_and, Bool.false_and, Bool.not_true, Bool.not_false, Bool.false_eq_true, if_true, if_false, Int.toNat_natCast, Int.reduceToNat, Int.reducePow, Int.reduceMul, Int.reduceAdd, Int.reduceSub, Int.reduceNeg, Int.reduceLT, Int.reduceLE, Nat.sub_self, Nat.add_sub_cancel_left, Nat.reduceAdd, Nat.reduceSub, Nat.reduceLT, Nat.reduceLeDiff, Int.cast_ofNat_Int, true_or, or_true, true_and, and_true, $[$ts:term],*])
mutual
theorem tupOnly_iI : ∀ o : List Nat, tupOnlyL (o.map dI) = true
  | [] => rfl
  | n :: o => by
    show (tupOnly (dI n) && tupOnlyL (o.map dI)) = true
    rw [tupOnly_iI o]
    rfl
end
end Mi
end
section
namespace Mi
open PySem Mi Mi.L 
local macro_rules | `(tactic| wp_walk using $[$ts:term],*) => `(tactic| simp (disch := first | with_reducible assumption | omega | (simp only [List.length_set, List.length_append, List.length_cons, List.length_nil, List.length_map, List.length_range, List.length_replicate, Line]; omega) | (simp only [List.length_set, List.length_append, List.length_cons, List.length_nil, List.length_map, List.length_range, List.length_replicate]; done) | fail) only [au0, au1, au2, au3, au4, au5, au6, List.getElem?_map, dI, dT, List.getElem?_cons_zero, List.getElem?_cons_succ, List.set_cons_zero, List.set_cons_succ, List.map_cons, List.map_nil, List.length_cons, List.length_nil, List.cons_append, List.nil_append, List.append_nil, List.append_assoc, List.reduceReplicate, List.length_set, List.set_set, List.length_append, List.length_map, List.length_range, List.length_replicate, decide_true, decide_false, decide_eq_true_eq, Bool.not_eq_true', decide_eq_false_iff_not, Bool.true_and, Bool.false_and, Bool.not_true, Bool.not_false, Bool.false_eq_true, if_true, if_false, Int.toNat_natCast, Int.reduceToNat, Int.reducePow, Int.reduceMul, Int.reduceAdd, Int.reduceSub, Int.reduceNeg, Int.reduceLT, Int.reduceLE, Nat.sub_self, Nat.add_sub_cancel_left, Nat.reduceAdd, Nat.reduceSub, Nat.reduceLT, Nat.reduceLeDiff, Int.cast_ofNat_Int, true_or, or_true, true_and, and_true, $[$ts:term],*])
end Mi
end
section
namespace Mi
open PySem Mi Mi.L 
local macro_rules | `(tactic| wp_walk using $[$ts:term],*) => `(tactic| simp (disch := first | with_reducible assumption | omega | (simp only [List.length_set, List.length_append, List.length_cons, List.length_nil, List.length_map, List.length_range, List.length_replicate, Line]; omega) | (simp only [List.length_set, List.length_append, List.length_cons, List.length_nil, List.length_map, List.length_range, List.length_replicate]; done) | fail) only [au0, au1, au2, au3, au4, au5, au6, List.getElem?_map, dI, dT, List.getElem?_cons_zero, List.getElem?_cons_succ, List.set_cons_zero, List.set_cons_succ, List.map_cons, List.map_nil, List.length_cons, List.length_nil, List.cons_append, List.nil_append, List.append_nil, List.append_assoc, List.reduceReplicate, List.length_set, List.set_set, List.length_append, List.length_map, List.length_range, List.length_replicate, decide_true, decide_false, decide_eq_true_eq, Bool.not_eq_true', decide_eq_false_iff_not, Bool.true_and, Bool.false_and, Bool.not_true, Bool.not_false, Bool.false_eq_true, if_true, if_false, Int.toNat_natCast, Int.reduceToNat, Int.reducePow, Int.reduceMul, Int.reduceAdd, Int.reduceSub, Int.reduceNeg, Int.reduceLT, Int.reduceLE, Nat.sub_self, Nat.add_sub_cancel_left, Nat.reduceAdd, Nat.reduceSub, Nat.reduceLT, Nat.reduceLeDiff, Int.cast_ofNat_Int, true_or, or_true, true_and, and_true, $[$ts:term],*])
structure HalfR (n : Nat) (R : Nat → Nat → Prop) (rows : List (List Nat)) : Prop where
  len : rows.length = n
  nd : ∀ a, a < n → rows[a]!.Nodup
  only : ∀ a b, a < n → b ∈ rows[a]! → b < n ∧ R a b
  tour : ∀ a b, a < n → b < n → R a b → (b ∈ rows[a]! ↔ a ∉ rows[b]!)
theorem HalfR.step {n w l : Nat} {R R' : Nat → Nat → Prop} {rows : List (List Nat)} (h : HalfR n R rows) (hw : w < n) (hl : l < n) (hne : w ≠ l) (n1 : ¬ R w l) (n2 : ¬ R l w) (hR : ∀ a b, R' a b ↔ R a b ∨ (a = w ∧ b = l) ∨ (a = l ∧ b = w)) :
    HalfR n R' (rows.set w (rows[w]! ++ [l])) := by
  have hlen := h.len
  have g : ∀ a, a < n → (rows.set w (rows[w]! ++ [l]))[a]! = if w = a then rows[w]! ++ [l] else rows[a]! := fun a ha => bang_set (by omega)
  have nwl : l ∉ rows[w]! := fun z => n1 (h.only w l hw z).2
  have nlw : w ∉ rows[l]! := fun z => n2 (h.only l w hl z).2
  refine ⟨by rw [List.length_set]; exact hlen, fun a ha => ?_, fun a b ha hb => ?_, fun a b ha hb hab => ?_⟩
  · rw [g a ha]
    split
    · rename_i e
      subst e
      rw [List.nodup_append]
      exact ⟨h.nd w ha, by simp, fun x hx y hy => by
        rw [List.mem_singleton.mp hy]
        rintro rfl
        exact nwl hx⟩
    · exact h.nd a ha
  · rw [g a ha] at hb
    split at hb
    · rename_i e
      subst e
      rcases List.mem_append.mp hb with hb | hb
      · exact ⟨(h.only w b ha hb).1, (hR _ _).mpr (.inl (h.only w b ha hb).2)⟩
      · rw [List.mem_singleton.mp hb]
        exact ⟨hl, (hR _ _).mpr (.inr (.inl ⟨rfl, rfl⟩))⟩
    · exact ⟨(h.only a b ha hb).1, (hR _ _).mpr (.inl (h.only a b ha hb).2)⟩
  · rw [g a ha, g b hb]
    have hab := (hR a b).mp hab
    by_cases e1 : w = a
    · subst e1
      by_cases e2 : b = l
      · subst e2
        rw [if_pos rfl, if_neg hne]
        exact ⟨fun _ => nlw, fun _ => List.mem_append_right _ (List.mem_singleton.mpr rfl)⟩
      · have hr : R w b := by
          rcases hab with z | ⟨_, z⟩ | ⟨z, _⟩
          · exact z
          · exact absurd z e2
          · exact absurd z hne
        by_cases e3 : w = b
        · subst e3
          have := h.tour w w ha hb hr
          by_cases z : w ∈ rows[w]! <;> simp [z] at this
        · rw [if_pos rfl, if_neg e3]
          rw [← h.tour w b ha hb hr, List.mem_append, List.mem_singleton]
          simp [e2]
    · rw [if_neg e1]
      by_cases e2 : w = b
      · subst e2
        rw [if_pos rfl]
        by_cases e3 : a = l
        · subst e3
          exact ⟨fun z => absurd z nlw, fun z => absurd (List.mem_append_right _ (List.mem_singleton.mpr rfl)) z⟩
        · have hr : R a w := by
            rcases hab with z | ⟨z, _⟩ | ⟨z, _⟩
            · exact z
            · exact absurd z.symm e1
            · exact absurd z e3
          rw [h.tour a w ha hb hr, List.mem_append, List.mem_singleton]
          simp [e3]
      · rw [if_neg e2]
        refine h.tour a b ha hb ?_
        rcases hab with z | ⟨z, _⟩ | ⟨_, z⟩
        · exact z
        · exact absurd z.symm e1
        · exact absurd z.symm e2
theorem HalfR.done {n : Nat} {R : Nat → Nat → Prop} {rows : List (List Nat)} (h : HalfR n R rows) (hR : ∀ a b, a < n → b < n → (R a b ↔ a ≠ b)) : IsTable n (rows.map sortN) := by
  have hl := h.len
  have g : ∀ a, a < n → (rows.map sortN)[a]! = sortN rows[a]! := fun a ha => by
    rw [getElem!_pos _ a (by rw [List.length_map]; omega), getElem!_pos _ a (by omega), List.getElem_map]
  refine ⟨by rw [List.length_map]; exact hl, fun a ha => ?_, fun a ha b hb => ?_, fun a b ha hb => ?_⟩
  · rw [g a ha]
    have h1 := sortN_sorted rows[a]!
    have h2 : (sortN rows[a]!).Nodup := (sortN_perm _).nodup_iff.mpr (h.nd a ha)
    rw [List.nodup_iff_pairwise_ne] at h2
    exact (h1.and h2).imp fun ⟨u, v⟩ => by omega
  · rw [g a ha, sortN_mem] at hb
    exact (h.only a b ha hb).1
  · rw [g a ha, g b hb, sortN_mem, sortN_mem]
    constructor
    · intro z
      have z2 := (hR a b ha hb).mp (h.only a b ha z).2
      exact ⟨z2, (h.tour a b ha hb ((hR a b ha hb).mpr z2)).mp z⟩
    · rintro ⟨z1, z2⟩
      exact (h.tour a b ha hb ((hR a b ha hb).mpr z1)).mpr z2
end Mi
end
section
namespace Mi
open PySem Mi Mi.L 
local macro_rules | `(tactic| wp_walk using $[$ts:term],*) => `(tactic| simp (disch := first | with_reducible assumption | omega | (simp only [List.length_set, List.length_append, List.length_cons, List.length_nil, List.length_map, List.length_range, List.length_replicate, Line]; omega) | (simp only [List.length_set, List.length_append, List.length_cons, List.length_nil, List.length_map, List.length_range, List.length_replicate]; done) | fail) only [au0, au1, au2, au3, au4, au5, au6, List.getElem?_map, dI, dT, List.getElem?_cons_zero, List.getElem?_cons_succ, List.set_cons_zero, List.set_cons_succ, List.map_cons, List.map_nil, List.length_cons, List.length_nil, List.cons_append, List.nil_append, List.append_nil, List.append_assoc, List.reduceReplicate, List.length_set, List.set_set, List.length_append, List.length_map, List.length_range, List.length_replicate, decide_true, decide_false, decide_eq_true_eq, Bool.not_eq_true', decide_eq_false_iff_not, Bool.true_and, Bool.false_and, Bool.not_true, Bool.not_false, Bool.false_eq_true, if_true, if_false, Int.toNat_natCast, Int.reduceToNat, Int.reducePow, Int.reduceMul, Int.reduceAdd, Int.reduceSub, Int.reduceNeg, Int.reduceLT, Int.reduceLE, Nat.sub_self, Nat.add_sub_cancel_left, Nat.reduceAdd, Nat.reduceSub, Nat.reduceLT, Nat.reduceLeDiff, Int.cast_ofNat_Int, true_or, or_true, true_and, and_true, $[$ts:term],*])
end Mi
end
section
namespace Mi
open PySem Mi Mi.L 
local macro_rules | `(tactic| wp_walk using $[$ts:term],*) => `(tactic| simp (disch := first | with_reducible assumption | omega | (simp only [List.length_set, List.length_append, List.length_cons, List.length_nil, List.length_map, List.length_range, List.length_replicate, Line]; omega) | (simp only [List.length_set, List.length_append, List.length_cons, List.length_nil, List.length_map, List.length_range, List.length_replicate]; done) | fail) only [au0, au1, au2, au3, au4, au5, au6, List.getElem?_map, dI, dT, List.getElem?_cons_zero, List.getElem?_cons_succ, List.set_cons_zero, List.set_cons_succ, List.map_cons, List.map_nil, List.length_cons, List.length_nil, List.cons_append, List.nil_append, List.append_nil, List.append_assoc, List.reduceReplicate, List.length_set, List.set_set, List.length_append, List.length_map, List.length_range, List.length_replicate, decide_true, decide_false, decide_eq_true_eq, Bool.not_eq_true', decide_eq_false_iff_not, Bool.true_and, Bool.false_and, Bool.not_true, Bool.not_false, Bool.false_eq_true, if_true, if_false, Int.toNat_natCast, Int.reduceToNat, Int.reducePow, Int.reduceMul, Int.reduceAdd, Int.reduceSub, Int.reduceNeg, Int.reduceLT, Int.reduceLE, Nat.sub_self, Nat.add_sub_cancel_left, Nat.reduceAdd, Nat.reduceSub, Nat.reduceLT, Nat.reduceLeDiff, Int.cast_ofNat_Int, true_or, or_true, true_and, and_true, $[$ts:term],*])
end Mi
end
section
namespace Mi
open PySem Mi Mi.L
local macro_rules | `(tactic| wp_walk using $[$ts:term],*) => `(tactic| simp (disch := first | with_reducible assumption | omega | (simp only [List.length_set, List.length_append, List.length_cons, List.length_nil, List.length_map, List.length_range, List.length_replicate, Line]; omega) | (simp only [List.length_set, List.length_append, List.length_cons, List.length_nil, List.length_map, List.length_range, List.length_replicate]; done) | fail) only [au0, au1, au2, au3, au4, au5, au6, List.getElem?_map, dI, dT, List.getElem?_cons_zero, List.getElem?_cons_succ, List.set_cons_zero, List.set_cons_succ, List.map_cons, List.map_nil, List.length_cons, List.length_nil, List.cons_append, List.nil_append, List.append_nil, List.append_assoc, List.reduceReplicate, List.length_set, List.set_set, List.length_append, List.length_map, List.length_range, List.length_replicate, decide_true, decide_false, decide_eq_true_eq, Bool.not_eq_true', decide_eq_false_iff_not, Bool.true_and, Bool.false_and, Bool.not_true, Bool.not_false, Bool.false_eq_true, if_true, if_false, Int.toNat_natCast, Int.reduceToNat, Int.reducePow, Int.reduceMul, Int.reduceAdd, Int.reduceSub, Int.reduceNeg, Int.reduceLT, Int.reduceLE, Nat.sub_self, Nat.add_sub_cancel_left, Nat.reduceAdd, Nat.reduceSub, Nat.reduceLT, Nat.reduceLeDiff, Int.cast_ofNat_Int, true_or, or_true, true_and, and_true, $[$ts:term],*])
end Mi
end
section
namespace Mi
open PySem Mi Mi.L
local macro_rules | `(tactic| wp_walk using $[$ts:term],*) => `(tactic| simp (disch := first | with_reducible assumption | omega | (simp only [List.length_set, List.length_append, List.length_cons, List.length_nil, List.length_map, List.length_range, List.length_replicate, Line]; omega) | (simp only [List.length_set, List.length_append, List.length_cons, List.length_nil, List.length_map, List.length_range, List.length_replicate]; done) | fail) only [au0, au1, au2, au3, au4, au5, au6, List.getElem?_map, dI, dT, List.getElem?_cons_zero, List.getElem?_cons_succ, List.set_cons_zero, List.set_cons_succ, List.map_cons, List.map_nil, List.length_cons, List.length_nil, List.cons_append, List.nil_append, List.append_nil, List.append_assoc, List.reduceReplicate, List.length_set, List.set_set, List.length_append, List.length_map, List.length_range, List.length_replicate, decide_true, decide_false, decide_eq_true_eq, Bool.not_eq_true', decide_eq_false_iff_not, Bool.true_and, Bool.false_and, Bool.not_true, Bool.not_false, Bool.false_eq_true, if_true, if_false, Int.toNat_natCast, Int.reduceToNat, Int.reducePow, Int.reduceMul, Int.reduceAdd, Int.reduceSub, Int.reduceNeg, Int.reduceLT, Int.reduceLE, Nat.sub_self, Nat.add_sub_cancel_left, Nat.reduceAdd, Nat.reduceSub, Nat.reduceLT, Nat.reduceLeDiff, Int.cast_ofNat_Int, true_or, or_true, true_and, and_true, $[$ts:term],*])
theorem atR {ts : List (List (List Nat))} {k : Nat} (h : k < ts.length) : Option.map dTb ts[k]? = some (.tuple (ts[k]!.map dT)) := by
  rw [List.getElem?_eq_getElem h, getElem!_pos ts k h]
  rfl
theorem put2_ok {n m : Nat} {P : List (List Nat)} {T : List (List (List Nat))} {row0 : Row} {a0 : Nat} {R : Row × List (Nat × Nat)} (hT : ∀ s, s < n → IsTable m T[s]!) (hTl : T.length = n) (hPm : P.length = m) (hn : n ≤ 90) (hl : row0.length = n) (h : insF P T (n * n + 1) a0 0 row0 [] = some R)
    (hinj : ∀ s t k, s < n → t < n → row0[s]! = some k → row0[t]! = some k → s = t) (hkb : ∀ s k, s < n → row0[s]! = some k → k < m) (hnew : ∀ s, s < n → row0[s]! ≠ some a0) (S : Store) :
    ∃ p, f_l_put [.p (.tuple (P.map dT)), .p (.tuple (T.map dTb)), .p (.tuple (row0.map dO)), .p (.int a0)] S = .ok (.p (.tuple [.tuple (R.1.map dO), p]), S) := by
  have hnn : n * n ≤ 90 * 90 := Nat.mul_le_mul hn hn
  suffices hh : Rn (f_l_put [.p (.tuple (P.map dT)), .p (.tuple (T.map dTb)), .p (.tuple (row0.map dO)), .p (.int a0)] S) fun z => ∃ p, z = (.p (.tuple [.tuple (R.1.map dO), p]), S) by
    obtain ⟨z, e, p, rfl⟩ := hh.ex
    exact ⟨p, e⟩
  have hmul : (n : Int) * n + 1 = (n * n + 1 : Nat) := by rw [Int.natCast_add, Int.natCast_mul]; rfl
  refine fn_rnQ rfl ?_
  unfold b_l_put
  wp_walk using hl, hmul
  refine Rn.bs ((for_ret dI (fun t σ S' => ∃ (a i f : Nat) (row : Row) (path : List (Nat × Nat)) (t8 t9 t10 : Option D), f + t = n * n + 1 ∧ insF P T f a i row path = some R ∧ row.length = n ∧ path.length ≤ t ∧ (∀ s t k, s < n → t < n → row[s]! = some k → row[t]! = some k → s = t) ∧ (∀ s k, s < n → row[s]! = some k → k < m) ∧ (∀ s, s < n → row[s]! ≠ some a) ∧ σ = [some (.p (.tuple (P.map dT))), some (.p (.tuple (T.map dTb))), some (.p (.tuple (row0.map dO))), some (.p (.int a0)), some (.ref S.length), some (.ref (S.length + 1)), some (.p (.int a)), some (.p (.int i)), t8, t9, t10] ∧ S' = S ++ [.lst (row.map dO), .lst (path.map dPr)]) (fun p => ∃ σ S' q, p = (.rt (.p (.tuple [.tuple (R.1.map dO), q])), σ, S ++ S')) _ 0 _ _ ?_ ?_).mono ?_)
  · exact ⟨a0, 0, n * n + 1, row0, [], none, none, none, rfl, h, hl, by simp, hinj, hkb, hnew, rfl, rfl⟩
  · rintro t x σ S' hx ⟨a, i, f, row, path, t8, t9, t10, hft, hm, hrl, hp, hi1, hi2, hi3, rfl, rfl⟩
    cases f with
    | zero => cases hm
    | succ f =>
      rw [insF] at hm
      split at hm
      · rename_i hc
        obtain ⟨c1, c2, c3, c4, c5⟩ := hc
        have e1 := bangT (xs := P) c1
        have e2 : Option.map dI P[a]![i]? = some (.int P[a]![i]!) := by
          rw [List.getElem?_eq_getElem c2, getElem!_pos P[a]! i c2]
          rfl
        have e4 := atR (ts := T) c4
        have e3 : Option.map dO row[P[a]![i]!]? = some (dO row[P[a]![i]!]!) := by
          rw [List.getElem?_eq_getElem c3, getElem!_pos row _ c3]
          rfl
        have hsn : P[a]![i]! < n := by omega
        have han : a < m := by omega
        have htt := hT _ hsn
        have hnn1 : path.length ≤ 8200 := by omega
        generalize P[a]![i]! = s at *
        cases hr : row[s]! with
        | none =>
          rw [hr] at hm e3
          cases hm
          have z1 : pNe (.int (-1)) (.int (-1)) = .ok (.bool false) := rfl
          wp_walk using e1, e2, e3, dO, z1
          refine .inr ⟨_, rfl, ?_⟩
          have x1 : (row.map dO).set s (.int a) = (row.set s (some a)).map dO := by
            rw [List.map_set]
            rfl
          rw [x1]
          exact ⟨_, _, _, rfl⟩
        | some b =>
          rw [hr] at hm e3
          dsimp only at hm
          have hbm := hi2 s b hsn hr
          have hTsl := htt.len
          have hab : a ≠ b := fun z => hi3 s hsn (by rw [z]; exact hr)
          have hne : ¬ ((b : Int) = -1) := by omega
          have z1 : pNe (.int b) (.int (-1)) = .ok (.bool true) := by
            rw [pNe_int, decide_eq_false hne]
            rfl
          have e5 := bangT (xs := T[s]!) (k := b) (by rw [htt.len]; omega)
          have q3 : pIn (.int a) (.tuple (T[s]![b]!.map dI)) = .ok (.bool (decide (a ∈ T[s]![b]!))) := pIn_nat a _
          have hto := htt.tour a b han hbm
          split at hm
          · rename_i hb
            have hna := (hto.mp hb).2
            split at hm
            · rename_i hb2
              have e6 := bangT hb2.1
              have e7 : pIndex (.tuple (P[b]!.map dI)) (.int s) = .ok (.int (P[b]!.idxOf s : Nat)) := pIndex_nat hb2.2
              wp_walk using e1, e2, e3, e4, e5, dO, hne, z1, q3, hna, e6, e7
              refine .inl ⟨b, P[b]!.idxOf s + 1, f, row.set s (some a), path ++ [(a, s)], _, _, _, by omega, hm, by rw [List.length_set]; exact hrl, by rw [List.length_append]; simp; omega, fun u v k hu hv h1 h2 => ?_, fun u k hu h1 => ?_, fun u hu h1 => ?_, rfl, ?_⟩
              · rw [row_set (by omega)] at h1 h2
                split at h1
                · split at h2
                  · omega
                  · cases h1
                    exact absurd h2 (hi3 v hv)
                · split at h2
                  · cases h2
                    exact absurd h1 (hi3 u hu)
                  · exact hi1 u v k hu hv h1 h2
              · rw [row_set (by omega)] at h1
                split at h1
                · cases h1
                  exact han
                · exact hi2 u k hu h1
              · rw [row_set (by omega)] at h1
                split at h1
                · cases h1
                  exact hab rfl
                · rename_i hsu
                  exact hsu (hi1 s u b hsn hu hr h1)
              · rw [List.map_set, List.map_append]
                rfl
            · cases hm
          · rename_i hb
            have hya : a ∈ T[s]![b]! := Classical.byContradiction fun z => hb (hto.mpr ⟨hab, z⟩)
            wp_walk using e1, e2, e3, e4, e5, dO, hne, z1, q3, hya
            exact .inl ⟨a, i + 1, f, row, path, _, _, _, by omega, hm, hrl, by omega, hi1, hi2, hi3, rfl, rfl⟩
      · cases hm
  · rintro ⟨fl, σ, S'⟩ (⟨h1, a, i, f, row, path, t8, t9, t10, hft, hm, _⟩ | ⟨d, h1, σ2, S2, q, h2⟩)
    · exfalso
      rw [List.length_range, Nat.zero_add] at hft
      have : f = 0 := by omega
      subst this
      cases hm
    · cases h2
      wp_walk using hl
      exact ⟨q, rfl⟩
theorem put2_turn {n m : Nat} {P : List (List Nat)} {T : List (List (List Nat))} (hP : Probes n P) (hm : P.length = m) (hT : Tabs n m T) (hTt : ∀ s, s < n → IsTable m T[s]!) (hn : n ≤ 90) (hn0 : 0 < n) {h : List Nat} (hnd : h.Nodup) (hk : ∀ k ∈ h, k < m) (hl : h.length ≤ n) {j x : Nat} (hx : h[j]? = some x) (S : Store) :
    ∃ p, f_l_put [.p (.tuple (P.map dT)), .p (.tuple (T.map dTb)), .p (.tuple ((rowOfH P T n (h.take j)).map dO)), .p (.int x)] S = .ok (.p (.tuple [.tuple ((rowOfH P T n (h.take (j + 1))).map dO), p]), S) := by
  obtain ⟨hj, e0⟩ := List.getElem?_eq_some_iff.mp hx
  have ih := Rw.fold hP hm hT hn hn0 hnd hk hl j (by omega)
  have e : h.take (j + 1) = h.take j ++ [x] := by rw [List.take_succ, hx]; rfl
  have hxm : x < m := hk _ (e0 ▸ List.getElem_mem _)
  have hnx : x ∉ h.take j := by
    intro z
    obtain ⟨i, hi, e2⟩ := List.mem_iff_getElem.mp z
    rw [List.length_take] at hi
    rw [List.getElem_take] at e2
    have h1 := hnd.idxOf_getElem i (by omega)
    have h2 := hnd.idxOf_getElem j (by omega)
    rw [e2] at h1
    rw [e0] at h2
    omega
  obtain ⟨R, g1, g2⟩ := ih.fuel hP hm hT (by rw [List.length_take]; omega) hn hxm hnx
  have hlen := ih.len
  obtain ⟨p, ep⟩ := put2_ok hTt hT.len hm hn hlen g1 (fun s t k hs ht h1 h2 => ih.lay.inj s t k (by omega) (by omega) h1 h2) (fun s k hs h1 => by have := ih.lay.kb s k (by omega) h1; omega) (fun s hs h1 => hnx ((ih.keys x).mp (mem_row.mpr ⟨s, by omega, h1⟩))) S
  refine ⟨p, ?_⟩
  unfold rowOfH
  rw [e, List.foldl_append]
  show _ = Mi.R.ok (D.p (.tuple [.tuple ((lay1 P T _ x).map dO), p]), S)
  rw [g2]
  exact ep
theorem laid2_ok {n m : Nat} {P : List (List Nat)} {T : List (List (List Nat))} (hP : Probes n P) (hm : P.length = m) (hT : Tabs n m T) (hTt : ∀ s, s < n → IsTable m T[s]!) (hn : n ≤ 90) (hn0 : 0 < n) {h : List Nat} (hnd : h.Nodup) (hk : ∀ k ∈ h, k < m) (hl : h.length ≤ n) (S : Store) :
    f_l_laid2 [.p (.tuple (P.map dT)), .p (.tuple (T.map dTb)), .p (.tuple (h.map dI))] S = .ok (.p (.tuple ((rowOfH P T n h).map dO)), S) := by
  have hr := rep_none n (by omega)
  have htl : T.length = n := hT.len
  refine fn_rn rfl ?_
  unfold b_l_laid2
  wp_walk using hr, htl
  refine Rn.bs ((for_map dI (fun j σ S' => ∃ t4 : Option D, σ = [some (.p (.tuple (P.map dT))), some (.p (.tuple (T.map dTb))), some (.p (.tuple (h.map dI))), some (.p (.tuple ((rowOfH P T n (h.take j)).map dO))), t4] ∧ S' = S) (Q := fun p => ∃ t4 : Option D, p = (.nx, [some (.p (.tuple (P.map dT))), some (.p (.tuple (T.map dTb))), some (.p (.tuple (h.map dI))), some (.p (.tuple ((rowOfH P T n h).map dO))), t4], S)) ?_ (fun _ _ _ _ => stand_nil _) ?_ ?_).mono ?_)
  · exact ⟨_, rfl, rfl⟩
  · rintro j x σ S' hx ⟨t4, rfl, rfl⟩
    obtain ⟨p, e⟩ := put2_turn hP hm hT hTt hn hn0 hnd hk hl hx S'
    wp_walk using e
    exact ⟨_, rfl⟩
  · rintro σ S' ⟨t4, rfl, rfl⟩
    rw [List.take_length]
    exact ⟨t4, rfl⟩
  · rintro p ⟨t4, rfl⟩
    wp_walk using hr
theorem Ords.tables {n m : Nat} {os : List (List Nat)} (h : Ords n m os) {s : Nat} (hs : s < n) : IsTable m (tabs os)[s]! := by
  rw [tabs_at h hs]
  obtain ⟨h1, h2⟩ := h.at hs
  rw [← h2]
  exact tab_table h1
end Mi
end
section
namespace Mi
open PySem Mi Mi.L
local macro_rules | `(tactic| wp_walk using $[$ts:term],*) => `(tactic| simp (disch := first | with_reducible assumption | omega | (simp only [List.length_set, List.length_append, List.length_cons, List.length_nil, List.length_map, List.length_range, List.length_replicate, Line]; omega) | (simp only [List.length_set, List.length_append, List.length_cons, List.length_nil, List.length_map, List.length_range, List.length_replicate]; done) | fail) only [au0, au1, au2, au3, au4, au5, au6, List.getElem?_map, dI, dT, List.getElem?_cons_zero, List.getElem?_cons_succ, List.set_cons_zero, List.set_cons_succ, List.map_cons, List.map_nil, List.length_cons, List.length_nil, List.cons_append, List.nil_append, List.append_nil, List.append_assoc, List.reduceReplicate, List.length_set, List.set_set, List.length_append, List.length_map, List.length_range, List.length_replicate, decide_true, decide_false, decide_eq_true_eq, Bool.not_eq_true', decide_eq_false_iff_not, Bool.true_and, Bool.false_and, Bool.not_true, Bool.not_false, Bool.false_eq_true, if_true, if_false, Int.toNat_natCast, Int.reduceToNat, Int.reducePow, Int.reduceMul, Int.reduceAdd, Int.reduceSub, Int.reduceNeg, Int.reduceLT, Int.reduceLE, Nat.sub_self, Nat.add_sub_cancel_left, Nat.reduceAdd, Nat.reduceSub, Nat.reduceLT, Nat.reduceLeDiff, Int.cast_ofNat_Int, true_or, or_true, true_and, and_true, $[$ts:term],*])
def candB (P : List (List Nat)) (row : Row) (s k : Nat) : Bool := (List.range row.length).any fun t => decide (row[t]! = some k) && decide (P[k]!.idxOf s < P[k]!.idxOf t)
def nextO (P os : List (List Nat)) (row : Row) (s : Nat) : Option Nat := match row[s]! with
  | none => none
  | some a => (os[s]!.drop (os[s]!.idxOf a + 1)).find? (candB P row s)
theorem candB_iff {P : List (List Nat)} {row : Row} {s k : Nat} : candB P row s k = true ↔ ∃ t, t < row.length ∧ row[t]! = some k ∧ P[k]!.idxOf s < P[k]!.idxOf t := by
  unfold candB
  rw [List.any_eq_true]
  constructor
  · rintro ⟨t, ht, h⟩
    simp only [Bool.and_eq_true, decide_eq_true_eq] at h
    exact ⟨t, List.mem_range.mp ht, h⟩
  · rintro ⟨t, ht, h⟩
    exact ⟨t, List.mem_range.mpr ht, by simpa using h⟩
section
variable {n m : Nat} {P os : List (List Nat)} {row : Row} (hP : Probes n P) (hm : P.length = m) (hO : Ords n m os) (hrow : row.length = n) (hkb : ∀ s k, s < n → row[s]! = some k → k < m)
include hO hrow hkb
include hP hm
end
end Mi
end
section
namespace Mi
open PySem Mi Mi.L
local macro_rules | `(tactic| wp_walk using $[$ts:term],*) => `(tactic| simp (disch := first | with_reducible assumption | omega | (simp only [List.length_set, List.length_append, List.length_cons, List.length_nil, List.length_map, List.length_range, List.length_replicate, Line]; omega) | (simp only [List.length_set, List.length_append, List.length_cons, List.length_nil, List.length_map, List.length_range, List.length_replicate]; done) | fail) only [au0, au1, au2, au3, au4, au5, au6, List.getElem?_map, dI, dT, List.getElem?_cons_zero, List.getElem?_cons_succ, List.set_cons_zero, List.set_cons_succ, List.map_cons, List.map_nil, List.length_cons, List.length_nil, List.cons_append, List.nil_append, List.append_nil, List.append_assoc, List.reduceReplicate, List.length_set, List.set_set, List.length_append, List.length_map, List.length_range, List.length_replicate, decide_true, decide_false, decide_eq_true_eq, Bool.not_eq_true', decide_eq_false_iff_not, Bool.true_and, Bool.false_and, Bool.not_true, Bool.not_false, Bool.false_eq_true, if_true, if_false, Int.toNat_natCast, Int.reduceToNat, Int.reducePow, Int.reduceMul, Int.reduceAdd, Int.reduceSub, Int.reduceNeg, Int.reduceLT, Int.reduceLE, Nat.sub_self, Nat.add_sub_cancel_left, Nat.reduceAdd, Nat.reduceSub, Nat.reduceLT, Nat.reduceLeDiff, Int.cast_ofNat_Int, true_or, or_true, true_and, and_true, $[$ts:term],*])
def ringGo (to : Nat → Option Nat) (s : Nat) : Nat → List Nat → Nat → List Nat × Nat
  | 0, row, here => (row, here)
  | f + 1, row, here => if s < here ∧ here ∉ row then (match to here with
    | some t => ringGo to s f (row ++ [here]) t
    | none => (row, here)) else (row, here)
def ringAt (to : Nat → Option Nat) (n s : Nat) : Option (List Nat) := match to s with
  | none => none
  | some h => if (ringGo to s n [s] h).2 = s then some (ringGo to s n [s] h).1 else none
def ringsF (to : Nat → Option Nat) (n : Nat) : List (List Nat) := (List.range n).filterMap (ringAt to n)
def stepF (P os : List (List Nat)) (row : Row) (s : Nat) : Option Nat := (nextO P os row s).map fun k => row.idxOf (some k)
end Mi
end
section
namespace Mi
open PySem Mi Mi.L
local macro_rules | `(tactic| wp_walk using $[$ts:term],*) => `(tactic| simp (disch := first | with_reducible assumption | omega | (simp only [List.length_set, List.length_append, List.length_cons, List.length_nil, List.length_map, List.length_range, List.length_replicate, Line]; omega) | (simp only [List.length_set, List.length_append, List.length_cons, List.length_nil, List.length_map, List.length_range, List.length_replicate]; done) | fail) only [au0, au1, au2, au3, au4, au5, au6, List.getElem?_map, dI, dT, List.getElem?_cons_zero, List.getElem?_cons_succ, List.set_cons_zero, List.set_cons_succ, List.map_cons, List.map_nil, List.length_cons, List.length_nil, List.cons_append, List.nil_append, List.append_nil, List.append_assoc, List.reduceReplicate, List.length_set, List.set_set, List.length_append, List.length_map, List.length_range, List.length_replicate, decide_true, decide_false, decide_eq_true_eq, Bool.not_eq_true', decide_eq_false_iff_not, Bool.true_and, Bool.false_and, Bool.not_true, Bool.not_false, Bool.false_eq_true, if_true, if_false, Int.toNat_natCast, Int.reduceToNat, Int.reducePow, Int.reduceMul, Int.reduceAdd, Int.reduceSub, Int.reduceNeg, Int.reduceLT, Int.reduceLE, Nat.sub_self, Nat.add_sub_cancel_left, Nat.reduceAdd, Nat.reduceSub, Nat.reduceLT, Nat.reduceLeDiff, Int.cast_ofNat_Int, true_or, or_true, true_and, and_true, $[$ts:term],*])
section
variable {n m : Nat} {P os : List (List Nat)} {row : Row}
theorem nextO_mem {s k : Nat} (h : nextO P os row s = some k) : some k ∈ row ∧ s < row.length := by
  unfold nextO at h
  cases hr : row[s]! with
  | none => rw [hr] at h; cases h
  | some a =>
    rw [hr] at h
    dsimp only at h
    obtain ⟨t, ht, e, _⟩ := candB_iff.mp (List.find?_some h)
    refine ⟨?_, ?_⟩
    · rw [getElem!_pos row t ht] at e
      rw [← e]
      exact List.getElem_mem _
    · rcases Nat.lt_or_ge s row.length with h | h
      · exact h
      · rw [row_out h] at hr
        cases hr
theorem stepF_lt {s t : Nat} (h : stepF P os row s = some t) : t < row.length ∧ s < row.length := by
  unfold stepF at h
  obtain ⟨k, hk, rfl⟩ := Option.map_eq_some_iff.mp h
  obtain ⟨h1, h2⟩ := nextO_mem hk
  exact ⟨List.idxOf_lt_length_iff.mpr h1, h2⟩
variable (hP : Probes n P) (hm : P.length = m) (hO : Ords n m os) (hrow : row.length = n) (hkb : ∀ s k, s < n → row[s]! = some k → k < m)
include hP hm hO hrow hkb
end
end Mi
end
section
namespace Mi
open PySem Mi Mi.L
local macro_rules | `(tactic| wp_walk using $[$ts:term],*) => `(tactic| simp (disch := first | with_reducible assumption | omega | (simp only [List.length_set, List.length_append, List.length_cons, List.length_nil, List.length_map, List.length_range, List.length_replicate, Line]; omega) | (simp only [List.length_set, List.length_append, List.length_cons, List.length_nil, List.length_map, List.length_range, List.length_replicate]; done) | fail) only [au0, au1, au2, au3, au4, au5, au6, List.getElem?_map, dI, dT, List.getElem?_cons_zero, List.getElem?_cons_succ, List.set_cons_zero, List.set_cons_succ, List.map_cons, List.map_nil, List.length_cons, List.length_nil, List.cons_append, List.nil_append, List.append_nil, List.append_assoc, List.reduceReplicate, List.length_set, List.set_set, List.length_append, List.length_map, List.length_range, List.length_replicate, decide_true, decide_false, decide_eq_true_eq, Bool.not_eq_true', decide_eq_false_iff_not, Bool.true_and, Bool.false_and, Bool.not_true, Bool.not_false, Bool.false_eq_true, if_true, if_false, Int.toNat_natCast, Int.reduceToNat, Int.reducePow, Int.reduceMul, Int.reduceAdd, Int.reduceSub, Int.reduceNeg, Int.reduceLT, Int.reduceLE, Nat.sub_self, Nat.add_sub_cancel_left, Nat.reduceAdd, Nat.reduceSub, Nat.reduceLT, Nat.reduceLeDiff, Int.cast_ofNat_Int, true_or, or_true, true_and, and_true, $[$ts:term],*])
def behindF (row : Row) (r : List Nat) : Row := (r.zip (r.drop 1 ++ r.take 1)).foldl (fun acc p => acc.set p.1 row[p.2]!) row
theorem fold_set_len (row : Row) : ∀ (xs : List (Nat × Nat)) (acc : Row), (xs.foldl (fun acc p => acc.set p.1 row[p.2]!) acc).length = acc.length
  | [], _ => rfl
  | x :: xs, acc => by rw [List.foldl_cons, fold_set_len row xs, List.length_set]
theorem behindF_len (row : Row) (r : List Nat) : (behindF row r).length = row.length := fold_set_len row _ row
theorem fold_set_out (row : Row) (s : Nat) : ∀ (xs : List (Nat × Nat)) (acc : Row), (∀ p ∈ xs, p.1 ≠ s) → (xs.foldl (fun acc p => acc.set p.1 row[p.2]!) acc)[s]! = acc[s]!
  | [], _, _ => rfl
  | x :: xs, acc, h => by
    rw [List.foldl_cons, fold_set_out row s xs _ fun p hp => h p (List.mem_cons_of_mem _ hp)]
    by_cases hs : s < acc.length
    · rw [row_set hs, if_neg (h x List.mem_cons_self)]
    · rw [row_out (by rw [List.length_set]; omega), row_out (by omega)]
theorem fold_set_in (row : Row) : ∀ (xs : List (Nat × Nat)) (acc : Row), (xs.map (·.1)).Nodup → (∀ p ∈ xs, p.1 < acc.length) → ∀ p ∈ xs, (xs.foldl (fun acc p => acc.set p.1 row[p.2]!) acc)[p.1]! = row[p.2]!
  | x :: xs, acc, hn, hb, p, hp => by
    rw [List.map_cons, List.nodup_cons] at hn
    rw [List.foldl_cons]
    rcases List.mem_cons.mp hp with rfl | hp'
    · rw [fold_set_out row p.1 xs _ fun q hq e => hn.1 (List.mem_map.mpr ⟨q, hq, e⟩), row_set (hb p List.mem_cons_self), if_pos rfl]
    · exact fold_set_in row xs _ hn.2 (fun q hq => by rw [List.length_set]; exact hb q (List.mem_cons_of_mem _ hq)) p hp'
def nxtR (r : List Nat) (s : Nat) : Nat := if s ∈ r then (r.drop 1 ++ r.take 1)[r.idxOf s]! else s
theorem rot_len (r : List Nat) : (r.drop 1 ++ r.take 1).length = r.length := by
  rw [List.length_append, List.length_drop, List.length_take]
  omega
theorem rotL_perm (r : List Nat) : (r.drop 1 ++ r.take 1).Perm r := by
  refine List.perm_append_comm.trans ?_
  rw [List.take_append_drop]
theorem zip_keys (r : List Nat) : (r.zip (r.drop 1 ++ r.take 1)).map (·.1) = r := by
  refine List.map_fst_zip ?_
  rw [rot_len]
  omega
theorem behindF_at {row : Row} {r : List Nat} (hn : r.Nodup) (hb : ∀ x ∈ r, x < row.length) (s : Nat) : (behindF row r)[s]! = row[nxtR r s]! := by
  unfold behindF nxtR
  by_cases hs : s ∈ r
  · rw [if_pos hs]
    have hi := List.idxOf_lt_length_iff.mpr hs
    have hi2 : r.idxOf s < (r.zip (r.drop 1 ++ r.take 1)).length := by rw [List.length_zip, rot_len]; omega
    have hp : (s, (r.drop 1 ++ r.take 1)[r.idxOf s]!) ∈ r.zip (r.drop 1 ++ r.take 1) := by
      have := List.getElem_mem hi2
      rw [List.getElem_zip] at this
      rw [getElem!_pos _ _ (by rw [rot_len]; exact hi)]
      rwa [List.getElem_idxOf hi] at this
    exact fold_set_in row _ row (by rw [zip_keys]; exact hn) (fun p hp => hb _ (List.of_mem_zip hp).1) _ hp
  · rw [if_neg hs]
    exact fold_set_out row s _ row fun p hp e => hs (e ▸ (List.of_mem_zip hp).1)
theorem nxtR_mem {r : List Nat} {s : Nat} (h : s ∈ r) : nxtR r s ∈ r := by
  unfold nxtR
  rw [if_pos h]
  have hi := List.idxOf_lt_length_iff.mpr h
  rw [getElem!_pos _ _ (by rw [rot_len]; exact hi)]
  exact (rotL_perm r).mem_iff.mp (List.getElem_mem _)
theorem nxtR_inj {r : List Nat} (hn : r.Nodup) {s t : Nat} (e : nxtR r s = nxtR r t) : s = t := by
  by_cases hs : s ∈ r <;> by_cases ht : t ∈ r
  · unfold nxtR at e
    rw [if_pos hs, if_pos ht] at e
    have hi := List.idxOf_lt_length_iff.mpr hs
    have hj := List.idxOf_lt_length_iff.mpr ht
    rw [getElem!_pos _ _ (by rw [rot_len]; exact hi), getElem!_pos _ _ (by rw [rot_len]; exact hj)] at e
    have hnd : (r.drop 1 ++ r.take 1).Nodup := (rotL_perm r).nodup_iff.mpr hn
    have e2 := (List.getElem_inj hnd).mp e
    have e3 := List.getElem_idxOf hi
    have e4 := List.getElem_idxOf hj
    rw [← e3, ← e4]
    congr 1
  · have := nxtR_mem hs
    rw [e] at this
    unfold nxtR at this
    rw [if_neg ht] at this
    exact absurd this ht
  · have := nxtR_mem ht
    rw [← e] at this
    unfold nxtR at this
    rw [if_neg hs] at this
    exact absurd this hs
  · unfold nxtR at e
    rwa [if_neg hs, if_neg ht] at e
theorem nxtR_surj {r : List Nat} (hn : r.Nodup) {s : Nat} (h : s ∈ r) : ∃ u, u ∈ r ∧ nxtR r u = s := by
  have hs : s ∈ r.drop 1 ++ r.take 1 := (rotL_perm r).mem_iff.mpr h
  obtain ⟨i, hi, e⟩ := List.mem_iff_getElem.mp hs
  have hir : i < r.length := by rw [← rot_len r]; exact hi
  refine ⟨r[i], List.getElem_mem _, ?_⟩
  unfold nxtR
  rw [if_pos (List.getElem_mem _), hn.idxOf_getElem i hir, getElem!_pos (r.drop 1 ++ r.take 1) i hi]
  exact e
structure Has (n : Nat) (row : Row) (ks : List Nat) : Prop where
  len : row.length = n
  inj : ∀ s t k, s < n → t < n → row[s]! = some k → row[t]! = some k → s = t
  keys : ∀ k, some k ∈ row ↔ k ∈ ks
theorem Has.behind {n : Nat} {row : Row} {ks r : List Nat} (h : Has n row ks) (hn : r.Nodup) (hb : ∀ x ∈ r, x < n) : Has n (behindF row r) ks := by
  have hb' : ∀ x ∈ r, x < row.length := fun x hx => by rw [h.len]; exact hb x hx
  have hlt : ∀ s, s < n → nxtR r s < n := fun s hs => by
    by_cases hm : s ∈ r
    · exact hb _ (nxtR_mem hm)
    · unfold nxtR; rw [if_neg hm]; exact hs
  have hlen : (behindF row r).length = n := by rw [behindF_len, h.len]
  refine ⟨hlen, fun s t k hs ht e1 e2 => ?_, fun k => ?_⟩
  · rw [behindF_at hn hb'] at e1 e2
    exact nxtR_inj hn (h.inj _ _ k (hlt s hs) (hlt t ht) e1 e2)
  · rw [← h.keys k, mem_row, mem_row]
    constructor
    · rintro ⟨s, hs, e⟩
      rw [behindF_at hn hb'] at e
      exact ⟨_, by rw [h.len]; exact hlt s (by omega), e⟩
    · rintro ⟨s, hs, e⟩
      have hsn : s < n := by rw [← h.len]; exact hs
      obtain ⟨u, hu, e2⟩ : ∃ u, u < n ∧ nxtR r u = s := by
        by_cases hm : s ∈ r
        · obtain ⟨u, hu, e2⟩ := nxtR_surj hn hm
          exact ⟨u, hb u hu, e2⟩
        · exact ⟨s, hsn, by unfold nxtR; rw [if_neg hm]⟩
      exact ⟨u, by rw [hlen]; exact hu, by rw [behindF_at hn hb', e2]; exact e⟩
theorem Has.kb {n m : Nat} {row : Row} {ks : List Nat} (h : Has n row ks) (hk : ∀ k ∈ ks, k < m) : ∀ s k, s < n → row[s]! = some k → k < m := fun s k hs e => hk k ((h.keys k).mp (mem_row.mpr ⟨s, by rw [h.len]; exact hs, e⟩))
theorem ringGo_inv {to : Nat → Option Nat} {n s : Nat} (hto : ∀ s t, to s = some t → t < n) : ∀ (f : Nat) (row : List Nat) (here : Nat), row.Nodup → (∀ x ∈ row, x < n) → here < n → row ≠ [] → (ringGo to s f row here).1.Nodup ∧ (∀ x ∈ (ringGo to s f row here).1, x < n) ∧ (ringGo to s f row here).1 ≠ []
  | 0, row, here, h1, h2, _, h4 => ⟨h1, h2, h4⟩
  | f + 1, row, here, h1, h2, h3, h4 => by
    rw [ringGo]
    by_cases hc : s < here ∧ here ∉ row
    · rw [if_pos hc]
      cases ht : to here with
      | none => exact ⟨h1, h2, h4⟩
      | some t =>
        refine ringGo_inv hto f (row ++ [here]) t ?_ ?_ (hto _ _ ht) (by simp)
        · rw [List.nodup_append]
          exact ⟨h1, by simp, fun a ha b hb e => hc.2 (by rw [List.mem_singleton.mp hb] at e; rw [← e]; exact ha)⟩
        · intro x hx
          rcases List.mem_append.mp hx with hx | hx
          · exact h2 x hx
          · rw [List.mem_singleton.mp hx]; exact h3
    · rw [if_neg hc]
      exact ⟨h1, h2, h4⟩
theorem ringsF_mem {to : Nat → Option Nat} {n : Nat} (hto : ∀ s t, to s = some t → t < n) {r : List Nat} (h : r ∈ ringsF to n) : r.Nodup ∧ (∀ x ∈ r, x < n) ∧ r ≠ [] := by
  unfold ringsF at h
  obtain ⟨s, hs, e⟩ := List.mem_filterMap.mp h
  have hsn := List.mem_range.mp hs
  unfold ringAt at e
  split at e
  · cases e
  · rename_i t ht
    split at e
    · cases e
      exact ringGo_inv hto n [s] t (by simp) (by simpa using hsn) (hto _ _ ht) (by simp)
    · cases e
inductive Moved (P os : List (List Nat)) (n : Nat) (row0 : Row) : Row → Prop
  | refl : Moved P os n row0 row0
  | step {row : Row} {r : List Nat} : Moved P os n row0 row → r ∈ ringsF (stepF P os row) n → Moved P os n row0 (behindF row r)
theorem Moved.has {P os : List (List Nat)} {n : Nat} {row0 row : Row} {ks : List Nat} (h : Moved P os n row0 row) (h0 : Has n row0 ks) : Has n row ks := by
  induction h with
  | refl => exact h0
  | step _ hr ih =>
    obtain ⟨g1, g2, _⟩ := ringsF_mem (fun s t e => by have := (stepF_lt e).1; rw [ih.len] at this; exact this) hr
    exact ih.behind g1 g2
end Mi
end
section
namespace Mi
open PySem Mi Mi.L
local macro_rules | `(tactic| wp_walk using $[$ts:term],*) => `(tactic| simp (disch := first | with_reducible assumption | omega | (simp only [List.length_set, List.length_append, List.length_cons, List.length_nil, List.length_map, List.length_range, List.length_replicate, Line]; omega) | (simp only [List.length_set, List.length_append, List.length_cons, List.length_nil, List.length_map, List.length_range, List.length_replicate]; done) | fail) only [au0, au1, au2, au3, au4, au5, au6, List.getElem?_map, dI, dT, List.getElem?_cons_zero, List.getElem?_cons_succ, List.set_cons_zero, List.set_cons_succ, List.map_cons, List.map_nil, List.length_cons, List.length_nil, List.cons_append, List.nil_append, List.append_nil, List.append_assoc, List.reduceReplicate, List.length_set, List.set_set, List.length_append, List.length_map, List.length_range, List.length_replicate, decide_true, decide_false, decide_eq_true_eq, Bool.not_eq_true', decide_eq_false_iff_not, Bool.true_and, Bool.false_and, Bool.not_true, Bool.not_false, Bool.false_eq_true, if_true, if_false, Int.toNat_natCast, Int.reduceToNat, Int.reducePow, Int.reduceMul, Int.reduceAdd, Int.reduceSub, Int.reduceNeg, Int.reduceLT, Int.reduceLE, Nat.sub_self, Nat.add_sub_cancel_left, Nat.reduceAdd, Nat.reduceSub, Nat.reduceLT, Nat.reduceLeDiff, Int.cast_ofNat_Int, true_or, or_true, true_and, and_true, $[$ts:term],*])
theorem fold_put_lk : ∀ (L acc : List (Nat × Nat)) (s : Nat), (L.map (·.1)).Nodup → lkN (L.foldl (fun a p => putN a p.1 p.2) acc) s = (lkN L s).or (lkN acc s)
  | [], acc, s, _ => by
    rw [show lkN [] s = none from rfl, Option.none_or]
    rfl
  | p :: L, acc, s, hn => by
    rw [List.map_cons, List.nodup_cons] at hn
    rw [List.foldl_cons, fold_put_lk L _ s hn.2, lkN_put, lkN_cons]
    by_cases h : p.1 = s
    · subst h
      have : lkN L p.1 = none := by
        cases hl : lkN L p.1 with
        | none => rfl
        | some x => exact absurd (mem_keysN.mpr (by rw [hl]; rfl)) hn.1
      rw [this, if_pos rfl, if_pos rfl]
      rfl
    · rw [if_neg (fun e => h e.symm), if_neg h]
theorem lkN_iff {L : List (Nat × Nat)} (h : (L.map (·.1)).Nodup) {s k : Nat} : lkN L s = some k ↔ (s, k) ∈ L := ⟨lkN_in, fun hp => lkN_mem h hp⟩
structure WS where
  own : List (Nat × Nat)
  wait : List Nat
  qs : List (List Nat)
def wStep (P : List (List Nat)) (st : WS) (s : Nat) (w : List Nat) : WS :=
  match st.qs[s]!.getLast? with
  | none => ⟨st.own, w, st.qs⟩
  | some k => match lkN st.own k with
    | none => ⟨putN st.own k s, w, st.qs.set s st.qs[s]!.dropLast⟩
    | some t => if P[k]!.idxOf s < P[k]!.idxOf t then ⟨putN st.own k s, w ++ [t], st.qs.set s st.qs[s]!.dropLast⟩ else ⟨st.own, w ++ [s], st.qs.set s st.qs[s]!.dropLast⟩
def wMeas (st : WS) : Nat := 2 * (st.qs.map List.length).sum + st.wait.length
structure WInv (n : Nat) (ks : List Nat) (st : WS) : Prop where
  nd : (st.own.map (·.1)).Nodup
  own : ∀ k s, lkN st.own k = some s → s < n ∧ k ∈ ks ∧ s ∉ st.wait
  inj : ∀ k k' s, lkN st.own k = some s → lkN st.own k' = some s → k = k'
  wait : ∀ s ∈ st.wait, s < n
  wnd : st.wait.Nodup
  ql : st.qs.length = n
  qs : ∀ s, s < n → ∀ k ∈ st.qs[s]!, k ∈ ks
theorem getLast_split {α : Type} {xs : List α} {x : α} (h : xs.getLast? = some x) : xs = xs.dropLast ++ [x] := by
  cases xs with
  | nil => cases h
  | cons y ys =>
    rw [List.getLast?_eq_some_getLast (by simp)] at h
    cases h
    exact (List.dropLast_concat_getLast (by simp)).symm
theorem sumq_set : ∀ (xs : List (List Nat)) (s : Nat) (q : List Nat), s < xs.length → ((xs.set s q).map List.length).sum + xs[s]!.length = (xs.map List.length).sum + q.length
  | x :: xs, 0, q, _ => by
    show (q.length + (xs.map List.length).sum) + x.length = x.length + (xs.map List.length).sum + q.length
    omega
  | x :: xs, s + 1, q, h => by
    have ih := sumq_set xs s q (by simpa using h)
    show (x.length + ((xs.set s q).map List.length).sum) + (x :: xs)[s + 1]!.length = x.length + (xs.map List.length).sum + q.length
    have e : (x :: xs)[s + 1]! = xs[s]! := by simp
    rw [e]
    omega
theorem WInv.step {n : Nat} {P : List (List Nat)} {ks : List Nat} {st : WS} {s : Nat} (h : WInv n ks st) (hs : st.wait.getLast? = some s) : WInv n ks (wStep P st s st.wait.dropLast) ∧ wMeas (wStep P st s st.wait.dropLast) < wMeas st := by
  have hw := getLast_split hs
  generalize st.wait.dropLast = w at *
  have hsn : s < n := h.wait s (by rw [hw]; simp)
  have hwn := h.wnd
  rw [hw, List.nodup_append] at hwn
  have hsw : s ∉ w := fun hm => hwn.2.2 s hm s (by simp) rfl
  have hwb : ∀ x ∈ w, x < n := fun x hx => h.wait x (by rw [hw]; simp [hx])
  have how : ∀ k t, lkN st.own k = some t → t < n ∧ k ∈ ks ∧ t ∉ w ∧ t ≠ s := fun k t e => by
    obtain ⟨a, b, c⟩ := h.own k t e
    rw [hw, List.mem_append, not_or] at c
    exact ⟨a, b, c.1, by simpa using c.2⟩
  unfold wMeas wStep
  cases hq : st.qs[s]!.getLast? with
  | none =>
    refine ⟨⟨h.nd, fun k t e => ⟨(how k t e).1, (how k t e).2.1, (how k t e).2.2.1⟩, h.inj, hwb, hwn.1, h.ql, h.qs⟩, ?_⟩
    dsimp only
    rw [hw, List.length_append]
    simp
  | some k =>
    have hqs := getLast_split hq
    have hk : k ∈ ks := h.qs s hsn k (by rw [hqs]; simp)
    have hql : (st.qs.set s st.qs[s]!.dropLast).length = n := by rw [List.length_set, h.ql]
    have hqm : ∀ u, u < n → ∀ x ∈ (st.qs.set s st.qs[s]!.dropLast)[u]!, x ∈ ks := fun u hu x hx => by
      rw [getElem!_pos _ u (by rw [hql]; exact hu), List.getElem_set] at hx
      split at hx
      · exact h.qs s hsn x ((List.dropLast_sublist _).subset hx)
      · exact h.qs u hu x (by rw [getElem!_pos _ u (by rw [h.ql]; exact hu)]; exact hx)
    have hsum := sumq_set st.qs s st.qs[s]!.dropLast (by rw [h.ql]; exact hsn)
    have hdl : st.qs[s]!.length = st.qs[s]!.dropLast.length + 1 := by
      conv => lhs; rw [hqs]
      simp
    dsimp only
    cases ho : lkN st.own k with
    | none =>
      dsimp only
      refine ⟨⟨putN_nd h.nd k s, fun x t e => ?_, fun x y t e1 e2 => ?_, hwb, hwn.1, hql, hqm⟩, ?_⟩
      · have e : lkN (putN st.own k s) x = some t := e
        rw [lkN_put] at e
        split at e
        · cases e
          rename_i hx
          exact ⟨hsn, by rw [hx]; exact hk, hsw⟩
        · have := how x t e
          exact ⟨this.1, this.2.1, this.2.2.1⟩
      · have e1 : lkN (putN st.own k s) x = some t := e1
        have e2 : lkN (putN st.own k s) y = some t := e2
        rw [lkN_put] at e1 e2
        split at e1 <;> split at e2
        · omega
        · cases e1
          exact absurd rfl (how y _ e2).2.2.2
        · cases e2
          exact absurd rfl (how x _ e1).2.2.2
        · exact h.inj x y t e1 e2
      · rw [hw, List.length_append]
        simp only [List.length_singleton]
        omega
    | some t =>
      dsimp only
      have hot := how k t ho
      by_cases hc : P[k]!.idxOf s < P[k]!.idxOf t
      · rw [if_pos hc]
        refine ⟨⟨putN_nd h.nd k s, fun x u e => ?_, fun x y u e1 e2 => ?_, fun u hu => ?_, ?_, hql, hqm⟩, ?_⟩
        · have e : lkN (putN st.own k s) x = some u := e
          rw [lkN_put] at e
          split at e
          · cases e
            rename_i hx
            refine ⟨hsn, by rw [hx]; exact hk, ?_⟩
            rw [List.mem_append, not_or]
            exact ⟨hsw, by simpa using fun e => hot.2.2.2 e.symm⟩
          · rename_i hx
            have := how x u e
            refine ⟨this.1, this.2.1, ?_⟩
            rw [List.mem_append, not_or]
            refine ⟨this.2.2.1, ?_⟩
            intro hm
            rw [List.mem_singleton.mp hm] at e
            exact hx (h.inj x k t e ho)
        · have e1 : lkN (putN st.own k s) x = some u := e1
          have e2 : lkN (putN st.own k s) y = some u := e2
          rw [lkN_put] at e1 e2
          split at e1 <;> split at e2
          · omega
          · cases e1
            exact absurd rfl (how y _ e2).2.2.2
          · cases e2
            exact absurd rfl (how x _ e1).2.2.2
          · exact h.inj x y u e1 e2
        · rcases List.mem_append.mp hu with hu | hu
          · exact hwb u hu
          · rw [List.mem_singleton.mp hu]; exact hot.1
        · rw [List.nodup_append]
          exact ⟨hwn.1, by simp, fun a ha b hb e => hot.2.2.1 (by rw [List.mem_singleton.mp hb] at e; rw [← e]; exact ha)⟩
        · dsimp only
          rw [hw, List.length_append, List.length_append]
          simp only [List.length_singleton]
          omega
      · rw [if_neg hc]
        refine ⟨⟨h.nd, fun x u e => ?_, h.inj, fun u hu => ?_, ?_, hql, hqm⟩, ?_⟩
        · have := how x u e
          refine ⟨this.1, this.2.1, ?_⟩
          rw [List.mem_append, not_or]
          exact ⟨this.2.2.1, by simpa using this.2.2.2⟩
        · rcases List.mem_append.mp hu with hu | hu
          · exact hwb u hu
          · rw [List.mem_singleton.mp hu]; exact hsn
        · rw [List.nodup_append]
          exact ⟨hwn.1, by simp, fun a ha b hb e => hsw (by rw [List.mem_singleton.mp hb] at e; rw [← e]; exact ha)⟩
        · dsimp only
          rw [hw, List.length_append]
          simp only [List.length_singleton]
          omega
def bySlot (own : List (Nat × Nat)) : List (Nat × Nat) := (own.map fun p => (p.2, p.1)).foldl (fun a p => putN a p.1 p.2) []
def wRow (n : Nat) (own : List (Nat × Nat)) : Row := (List.range n).map fun s => lkN (bySlot own) s
theorem WInv.vals {n : Nat} {ks : List Nat} {st : WS} (h : WInv n ks st) : ((st.own.map fun p => (p.2, p.1)).map (·.1)).Nodup := by
  rw [List.map_map, List.nodup_iff_pairwise_ne, List.pairwise_map]
  have hn := h.nd
  rw [List.nodup_iff_pairwise_ne, List.pairwise_map] at hn
  refine hn.imp_of_mem fun {p q} hp hq hne e => hne ?_
  have e1 := (lkN_iff h.nd).mpr hp
  have e2 := (lkN_iff h.nd).mpr hq
  have e : p.2 = q.2 := e
  rw [← e] at e2
  exact h.inj p.1 q.1 p.2 e1 e2
theorem WInv.slot {n : Nat} {ks : List Nat} {st : WS} (h : WInv n ks st) (s k : Nat) : lkN (bySlot st.own) s = some k ↔ lkN st.own k = some s := by
  unfold bySlot
  rw [fold_put_lk _ _ _ h.vals, show lkN [] s = none from rfl, Option.or_none, lkN_iff h.vals, lkN_iff h.nd, List.mem_map]
  constructor
  · rintro ⟨p, hp, e⟩
    cases e
    exact hp
  · intro hp
    exact ⟨(k, s), hp, rfl⟩
theorem wRow_at {n s : Nat} (own : List (Nat × Nat)) (hs : s < n) : (wRow n own)[s]! = lkN (bySlot own) s := by
  unfold wRow
  rw [getElem!_pos _ s (by simpa using hs), List.getElem_map, List.getElem_range]
theorem WInv.has {n : Nat} {ks : List Nat} {st : WS} (h : WInv n ks st) : Has n (wRow n st.own) (st.own.map (·.1)) := by
  have hl : (wRow n st.own).length = n := by unfold wRow; simp
  refine ⟨hl, fun s t k hs ht e1 e2 => ?_, fun k => ?_⟩
  · rw [wRow_at _ hs, h.slot] at e1
    rw [wRow_at _ ht, h.slot, e1] at e2
    exact Option.some.inj e2
  · rw [mem_row, mem_keysN]
    constructor
    · rintro ⟨s, hs, e⟩
      rw [hl] at hs
      rw [wRow_at _ hs, h.slot] at e
      rw [e]
      rfl
    · intro hk
      obtain ⟨s, hs⟩ := Option.isSome_iff_exists.mp hk
      have hsn := (h.own k s hs).1
      exact ⟨s, by rw [hl]; exact hsn, by rw [wRow_at _ hsn, h.slot]; exact hs⟩
theorem WInv.keys {n : Nat} {ks : List Nat} {st : WS} (h : WInv n ks st) : ∀ k ∈ st.own.map (·.1), k ∈ ks := fun k hk => by
  obtain ⟨s, hs⟩ := Option.isSome_iff_exists.mp (mem_keysN.mp hk)
  exact (h.own k s hs).2.1
end Mi
end
section
namespace Mi
open PySem Mi Mi.L
local macro_rules | `(tactic| wp_walk using $[$ts:term],*) => `(tactic| simp (disch := first | with_reducible assumption | omega | (simp only [List.length_set, List.length_append, List.length_cons, List.length_nil, List.length_map, List.length_range, List.length_replicate, Line]; omega) | (simp only [List.length_set, List.length_append, List.length_cons, List.length_nil, List.length_map, List.length_range, List.length_replicate]; done) | fail) only [au0, au1, au2, au3, au4, au5, au6, List.getElem?_map, dI, dT, List.getElem?_cons_zero, List.getElem?_cons_succ, List.set_cons_zero, List.set_cons_succ, List.map_cons, List.map_nil, List.length_cons, List.length_nil, List.cons_append, List.nil_append, List.append_nil, List.append_assoc, List.reduceReplicate, List.length_set, List.set_set, List.length_append, List.length_map, List.length_range, List.length_replicate, decide_true, decide_false, decide_eq_true_eq, Bool.not_eq_true', decide_eq_false_iff_not, Bool.true_and, Bool.false_and, Bool.not_true, Bool.not_false, Bool.false_eq_true, if_true, if_false, Int.toNat_natCast, Int.reduceToNat, Int.reducePow, Int.reduceMul, Int.reduceAdd, Int.reduceSub, Int.reduceNeg, Int.reduceLT, Int.reduceLE, Nat.sub_self, Nat.add_sub_cancel_left, Nat.reduceAdd, Nat.reduceSub, Nat.reduceLT, Nat.reduceLeDiff, Int.cast_ofNat_Int, true_or, or_true, true_and, and_true, $[$ts:term],*])
end Mi
end
section
namespace Mi
open PySem Mi Mi.L
local macro_rules | `(tactic| wp_walk using $[$ts:term],*) => `(tactic| simp (disch := first | with_reducible assumption | omega | (simp only [List.length_set, List.length_append, List.length_cons, List.length_nil, List.length_map, List.length_range, List.length_replicate, Line]; omega) | (simp only [List.length_set, List.length_append, List.length_cons, List.length_nil, List.length_map, List.length_range, List.length_replicate]; done) | fail) only [au0, au1, au2, au3, au4, au5, au6, List.getElem?_map, dI, dT, List.getElem?_cons_zero, List.getElem?_cons_succ, List.set_cons_zero, List.set_cons_succ, List.map_cons, List.map_nil, List.length_cons, List.length_nil, List.cons_append, List.nil_append, List.append_nil, List.append_assoc, List.reduceReplicate, List.length_set, List.set_set, List.length_append, List.length_map, List.length_range, List.length_replicate, decide_true, decide_false, decide_eq_true_eq, Bool.not_eq_true', decide_eq_false_iff_not, Bool.true_and, Bool.false_and, Bool.not_true, Bool.not_false, Bool.false_eq_true, if_true, if_false, Int.toNat_natCast, Int.reduceToNat, Int.reducePow, Int.reduceMul, Int.reduceAdd, Int.reduceSub, Int.reduceNeg, Int.reduceLT, Int.reduceLE, Nat.sub_self, Nat.add_sub_cancel_left, Nat.reduceAdd, Nat.reduceSub, Nat.reduceLT, Nat.reduceLeDiff, Int.cast_ofNat_Int, true_or, or_true, true_and, and_true, $[$ts:term],*])
section
variable {S : Store} {c : Cell} {w : List Nat} {qs : List (List Nat)}
end
structure IsQ (t : List (List Nat)) (ks q : List Nat) : Prop where
  perm : q.Perm ks
  asc : q.Pairwise fun a b => t[a]!.length ≤ t[b]!.length
end Mi
end
section
namespace Mi.L
open PySem Mi
noncomputable section
end
end Mi.L
end
section
namespace Mi
open PySem Mi Mi.L
local macro_rules | `(tactic| wp_walk using $[$ts:term],*) => `(tactic| simp (disch := first | with_reducible assumption | omega | (simp only [List.length_set, List.length_append, List.length_cons, List.length_nil, List.length_map, List.length_range, List.length_replicate, Line]; omega) | (simp only [List.length_set, List.length_append, List.length_cons, List.length_nil, List.length_map, List.length_range, List.length_replicate]; done) | fail) only [au0, au1, au2, au3, au4, au5, au6, List.getElem?_map, dI, dT, List.getElem?_cons_zero, List.getElem?_cons_succ, List.set_cons_zero, List.set_cons_succ, List.map_cons, List.map_nil, List.length_cons, List.length_nil, List.cons_append, List.nil_append, List.append_nil, List.append_assoc, List.reduceReplicate, List.length_set, List.set_set, List.length_append, List.length_map, List.length_range, List.length_replicate, decide_true, decide_false, decide_eq_true_eq, Bool.not_eq_true', decide_eq_false_iff_not, Bool.true_and, Bool.false_and, Bool.not_true, Bool.not_false, Bool.false_eq_true, if_true, if_false, Int.toNat_natCast, Int.reduceToNat, Int.reducePow, Int.reduceMul, Int.reduceAdd, Int.reduceSub, Int.reduceNeg, Int.reduceLT, Int.reduceLE, Nat.sub_self, Nat.add_sub_cancel_left, Nat.reduceAdd, Nat.reduceSub, Nat.reduceLT, Nat.reduceLeDiff, Int.cast_ofNat_Int, true_or, or_true, true_and, and_true, $[$ts:term],*])
section
variable {n m : Nat} {P os : List (List Nat)} {row : Row} {ks : List Nat}
end
end Mi
end
section
namespace Mi
open PySem Mi Mi.L
local macro_rules | `(tactic| wp_walk using $[$ts:term],*) => `(tactic| simp (disch := first | with_reducible assumption | omega | (simp only [List.length_set, List.length_append, List.length_cons, List.length_nil, List.length_map, List.length_range, List.length_replicate, Line]; omega) | (simp only [List.length_set, List.length_append, List.length_cons, List.length_nil, List.length_map, List.length_range, List.length_replicate]; done) | fail) only [au0, au1, au2, au3, au4, au5, au6, List.getElem?_map, dI, dT, List.getElem?_cons_zero, List.getElem?_cons_succ, List.set_cons_zero, List.set_cons_succ, List.map_cons, List.map_nil, List.length_cons, List.length_nil, List.cons_append, List.nil_append, List.append_nil, List.append_assoc, List.reduceReplicate, List.length_set, List.set_set, List.length_append, List.length_map, List.length_range, List.length_replicate, decide_true, decide_false, decide_eq_true_eq, Bool.not_eq_true', decide_eq_false_iff_not, Bool.true_and, Bool.false_and, Bool.not_true, Bool.not_false, Bool.false_eq_true, if_true, if_false, Int.toNat_natCast, Int.reduceToNat, Int.reducePow, Int.reduceMul, Int.reduceAdd, Int.reduceSub, Int.reduceNeg, Int.reduceLT, Int.reduceLE, Nat.sub_self, Nat.add_sub_cancel_left, Nat.reduceAdd, Nat.reduceSub, Nat.reduceLT, Nat.reduceLeDiff, Int.cast_ofNat_Int, true_or, or_true, true_and, and_true, $[$ts:term],*])
section
variable {n m : Nat} {P os : List (List Nat)} (hP : Probes n P) (hm : P.length = m) (hO : Ords n m os)
include hP hm hO
end
end Mi
end
section
namespace Mi
open PySem Mi Mi.L 
local macro_rules | `(tactic| wp_walk using $[$ts:term],*) => `(tactic| simp (disch := first | with_reducible assumption | omega | (simp only [List.length_set, List.length_append, List.length_cons, List.length_nil, List.length_map, List.length_range, List.length_replicate, Line]; omega) | (simp only [List.length_set, List.length_append, List.length_cons, List.length_nil, List.length_map, List.length_range, List.length_replicate]; done) | fail) only [au0, au1, au2, au3, au4, au5, au6, List.getElem?_map, dI, dT, List.getElem?_cons_zero, List.getElem?_cons_succ, List.set_cons_zero, List.set_cons_succ, List.map_cons, List.map_nil, List.length_cons, List.length_nil, List.cons_append, List.nil_append, List.append_nil, List.append_assoc, List.reduceReplicate, List.length_set, List.set_set, List.length_append, List.length_map, List.length_range, List.length_replicate, decide_true, decide_false, decide_eq_true_eq, Bool.not_eq_true', decide_eq_false_iff_not, Bool.true_and, Bool.false_and, Bool.not_true, Bool.not_false, Bool.false_eq_true, if_true, if_false, Int.toNat_natCast, Int.reduceToNat, Int.reducePow, Int.reduceMul, Int.reduceAdd, Int.reduceSub, Int.reduceNeg, Int.reduceLT, Int.reduceLE, Nat.sub_self, Nat.add_sub_cancel_left, Nat.reduceAdd, Nat.reduceSub, Nat.reduceLT, Nat.reduceLeDiff, Int.cast_ofNat_Int, true_or, or_true, true_and, and_true, $[$ts:term],*])
structure GoodT (n m : Nat) (T : List (List (List Nat))) : Prop where
  len : T.length = n
  tab : ∀ t ∈ T, IsTable m t
theorem GoodT.tabs {n m : Nat} {T : List (List (List Nat))} (h : GoodT n m T) : Tabs n m T := ⟨h.len, fun s hs => (h.tab _ (by
  have hl := h.len
  rw [getElem!_pos T s (by omega)]
  exact List.getElem_mem _)).len⟩
theorem Ords.good {n m : Nat} {os : List (List Nat)} (h : Ords n m os) : GoodT n m (Mi.tabs os) := by
  have hl := h.even.toTabs.len
  refine ⟨hl, fun t ht => ?_⟩
  obtain ⟨s, hs, e⟩ := List.mem_iff_getElem.mp ht
  have := h.tables (s := s) (by omega)
  rw [getElem!_pos _ s hs, e] at this
  exact this
theorem nice_rule {n m : Nat} {T : List (List (List Nat))} (h : GoodT n m T) (hn : n ≤ 16) (hm : m ≤ 16) : Nice (dRule T) 3 18020 := by
  unfold dRule
  refine Nice.tuple (dp := 2) (B := 1124) (n := 16) (fun x hx => ?_) (by rw [List.length_map, h.len]; exact hn)
  obtain ⟨t, ht, rfl⟩ := List.mem_map.mp hx
  have h1 := h.tab t ht
  refine Nice.tuple (dp := 1) (B := 68) (n := 16) (fun y hy => ?_) (by rw [List.length_map, h1.len]; exact hm)
  obtain ⟨r, hr, rfl⟩ := List.mem_map.mp hy
  obtain ⟨a, ha, e⟩ := List.mem_iff_getElem.mp hr
  have hl := h1.len
  have e2 : r = t[a]! := by rw [getElem!_pos t a ha]; exact e.symm
  have hlt : ∀ x ∈ r, x < m := fun x hx => h1.lt a (by omega) x (by rw [← e2]; exact hx)
  refine nice_dT (fun x hx => by have := hlt x hx; omega) ?_
  have hnd : r.Nodup := by
    rw [e2]
    have := h1.asc a (by omega)
    rw [List.nodup_iff_pairwise_ne]
    exact this.imp fun z => by omega
  exact Nat.le_trans (nodup_len hnd hlt) hm
theorem nice_probes {n m : Nat} {P : List (List Nat)} (hP : Probes n P) (hm : P.length = m) (hn : n ≤ 16) (hm1 : m ≤ 16) : Nice (.tuple (P.map dT)) 2 1124 := Nice.tuple (xs := P.map dT) (dp := 1) (B := 68) (n := 16) (fun x hx => by
    obtain ⟨o, ho, rfl⟩ := List.mem_map.mp hx
    obtain ⟨k, hk, e⟩ := List.mem_iff_getElem.mp ho
    have e2 : o = P[k]! := by rw [getElem!_pos P k hk]; exact e.symm
    rw [e2]
    exact nice_dT (fun x hx => by have := hP.lt hk hx; omega) (by rw [hP.len hk]; exact hn)) (by rw [List.length_map, hm]; exact hm1)
theorem settingT_repr {n m : Nat} {P : List (List Nat)} {T : List (List (List Nat))} (hP : Probes n P) (hm : P.length = m) (hT : GoodT n m T) (hn : n ≤ 16) (hm1 : m ≤ 16) : ∃ s, pRepr (.tuple [.tuple (P.map dT), dRule T]) = .ok (.str s) := by
  have h3 := Nice.tuple (xs := [.tuple (P.map dT), dRule T]) (dp := 3) (B := 18020) (n := 2) (fun x hx => by
    simp only [List.mem_cons, List.not_mem_nil, or_false] at hx
    rcases hx with rfl | rfl
    · exact (nice_probes hP hm hn hm1).mono (by omega) (by omega)
    · exact nice_rule hT hn hm1) (by simp)
  exact ⟨_, h3.repr (by omega) (by omega)⟩
end Mi
end
section
namespace Mi
open PySem Mi Mi.L 
local macro_rules | `(tactic| wp_walk using $[$ts:term],*) => `(tactic| simp (disch := first | with_reducible assumption | omega | (simp only [List.length_set, List.length_append, List.length_cons, List.length_nil, List.length_map, List.length_range, List.length_replicate, Line]; omega) | (simp only [List.length_set, List.length_append, List.length_cons, List.length_nil, List.length_map, List.length_range, List.length_replicate]; done) | fail) only [au0, au1, au2, au3, au4, au5, au6, List.getElem?_map, dI, dT, List.getElem?_cons_zero, List.getElem?_cons_succ, List.set_cons_zero, List.set_cons_succ, List.map_cons, List.map_nil, List.length_cons, List.length_nil, List.cons_append, List.nil_append, List.append_nil, List.append_assoc, List.reduceReplicate, List.length_set, List.set_set, List.length_append, List.length_map, List.length_range, List.length_replicate, decide_true, decide_false, decide_eq_true_eq, Bool.not_eq_true', decide_eq_false_iff_not, Bool.true_and, Bool.false_and, Bool.not_true, Bool.not_false, Bool.false_eq_true, if_true, if_false, Int.toNat_natCast, Int.reduceToNat, Int.reducePow, Int.reduceMul, Int.reduceAdd, Int.reduceSub, Int.reduceNeg, Int.reduceLT, Int.reduceLE, Nat.sub_self, Nat.add_sub_cancel_left, Nat.reduceAdd, Nat.reduceSub, Nat.reduceLT, Nat.reduceLeDiff, Int.cast_ofNat_Int, true_or, or_true, true_and, and_true, $[$ts:term],*])
section
variable {n m : Nat} {P : List (List Nat)} {T : List (List (List Nat))}
end
end Mi
end
section
namespace Mi
open PySem Mi Mi.L 
local macro_rules | `(tactic| wp_walk using $[$ts:term],*) => `(tactic| simp (disch := first | with_reducible assumption | omega | (simp only [List.length_set, List.length_append, List.length_cons, List.length_nil, List.length_map, List.length_range, List.length_replicate, Line]; omega) | (simp only [List.length_set, List.length_append, List.length_cons, List.length_nil, List.length_map, List.length_range, List.length_replicate]; done) | fail) only [au0, au1, au2, au3, au4, au5, au6, List.getElem?_map, dI, dT, List.getElem?_cons_zero, List.getElem?_cons_succ, List.set_cons_zero, List.set_cons_succ, List.map_cons, List.map_nil, List.length_cons, List.length_nil, List.cons_append, List.nil_append, List.append_nil, List.append_assoc, List.reduceReplicate, List.length_set, List.set_set, List.length_append, List.length_map, List.length_range, List.length_replicate, decide_true, decide_false, decide_eq_true_eq, Bool.not_eq_true', decide_eq_false_iff_not, Bool.true_and, Bool.false_and, Bool.not_true, Bool.not_false, Bool.false_eq_true, if_true, if_false, Int.toNat_natCast, Int.reduceToNat, Int.reducePow, Int.reduceMul, Int.reduceAdd, Int.reduceSub, Int.reduceNeg, Int.reduceLT, Int.reduceLE, Nat.sub_self, Nat.add_sub_cancel_left, Nat.reduceAdd, Nat.reduceSub, Nat.reduceLT, Nat.reduceLeDiff, Int.cast_ofNat_Int, true_or, or_true, true_and, and_true, $[$ts:term],*])
section
variable {n m : Nat} {P : List (List Nat)} {T : List (List (List Nat))} (hP : Probes n P) (hm : P.length = m) (hE : Even n m T)
include hP hm hE
end
end Mi
end
section
namespace Mi.L
open PySem Mi
noncomputable section
end
end Mi.L
end
section
namespace Mi
open PySem Mi Mi.L 
local macro_rules | `(tactic| wp_walk using $[$ts:term],*) => `(tactic| simp (disch := first | with_reducible assumption | omega | (simp only [List.length_set, List.length_append, List.length_cons, List.length_nil, List.length_map, List.length_range, List.length_replicate, Line]; omega) | (simp only [List.length_set, List.length_append, List.length_cons, List.length_nil, List.length_map, List.length_range, List.length_replicate]; done) | fail) only [au0, au1, au2, au3, au4, au5, au6, List.getElem?_map, dI, dT, List.getElem?_cons_zero, List.getElem?_cons_succ, List.set_cons_zero, List.set_cons_succ, List.map_cons, List.map_nil, List.length_cons, List.length_nil, List.cons_append, List.nil_append, List.append_nil, List.append_assoc, List.reduceReplicate, List.length_set, List.set_set, List.length_append, List.length_map, List.length_range, List.length_replicate, decide_true, decide_false, decide_eq_true_eq, Bool.not_eq_true', decide_eq_false_iff_not, Bool.true_and, Bool.false_and, Bool.not_true, Bool.not_false, Bool.false_eq_true, if_true, if_false, Int.toNat_natCast, Int.reduceToNat, Int.reducePow, Int.reduceMul, Int.reduceAdd, Int.reduceSub, Int.reduceNeg, Int.reduceLT, Int.reduceLE, Nat.sub_self, Nat.add_sub_cancel_left, Nat.reduceAdd, Nat.reduceSub, Nat.reduceLT, Nat.reduceLeDiff, Int.cast_ofNat_Int, true_or, or_true, true_and, and_true, $[$ts:term],*])
section
variable {S : Store} {c : Cell} {w : List Nat} {qs : List (List Nat)} {n : Nat}
end
end Mi
end
section
namespace Mi
open PySem Mi Mi.L 
local macro_rules | `(tactic| wp_walk using $[$ts:term],*) => `(tactic| simp (disch := first | with_reducible assumption | omega | (simp only [List.length_set, List.length_append, List.length_cons, List.length_nil, List.length_map, List.length_range, List.length_replicate, Line]; omega) | (simp only [List.length_set, List.length_append, List.length_cons, List.length_nil, List.length_map, List.length_range, List.length_replicate]; done) | fail) only [au0, au1, au2, au3, au4, au5, au6, List.getElem?_map, dI, dT, List.getElem?_cons_zero, List.getElem?_cons_succ, List.set_cons_zero, List.set_cons_succ, List.map_cons, List.map_nil, List.length_cons, List.length_nil, List.cons_append, List.nil_append, List.append_nil, List.append_assoc, List.reduceReplicate, List.length_set, List.set_set, List.length_append, List.length_map, List.length_range, List.length_replicate, decide_true, decide_false, decide_eq_true_eq, Bool.not_eq_true', decide_eq_false_iff_not, Bool.true_and, Bool.false_and, Bool.not_true, Bool.not_false, Bool.false_eq_true, if_true, if_false, Int.toNat_natCast, Int.reduceToNat, Int.reducePow, Int.reduceMul, Int.reduceAdd, Int.reduceSub, Int.reduceNeg, Int.reduceLT, Int.reduceLE, Nat.sub_self, Nat.add_sub_cancel_left, Nat.reduceAdd, Nat.reduceSub, Nat.reduceLT, Nat.reduceLeDiff, Int.cast_ofNat_Int, true_or, or_true, true_and, and_true, $[$ts:term],*])
section
variable {n m : Nat} {P : List (List Nat)} {T T' : List (List (List Nat))}
structure Up (n m k : Nat) (T T' : List (List (List Nat))) : Prop where
  oth : ∀ s x y, s < n → x < m → y < m → x ≠ k → y ≠ k → (x ∈ T'[s]![y]! ↔ x ∈ T[s]![y]!)
  own : ∀ s y, s < n → y < m → y ∈ T[s]![k]! → y ∈ T'[s]![k]!
end
end Mi
end
section
namespace Mi
open PySem Mi Mi.L 
local macro_rules | `(tactic| wp_walk using $[$ts:term],*) => `(tactic| simp (disch := first | with_reducible assumption | omega | (simp only [List.length_set, List.length_append, List.length_cons, List.length_nil, List.length_map, List.length_range, List.length_replicate, Line]; omega) | (simp only [List.length_set, List.length_append, List.length_cons, List.length_nil, List.length_map, List.length_range, List.length_replicate]; done) | fail) only [au0, au1, au2, au3, au4, au5, au6, List.getElem?_map, dI, dT, List.getElem?_cons_zero, List.getElem?_cons_succ, List.set_cons_zero, List.set_cons_succ, List.map_cons, List.map_nil, List.length_cons, List.length_nil, List.cons_append, List.nil_append, List.append_nil, List.append_assoc, List.reduceReplicate, List.length_set, List.set_set, List.length_append, List.length_map, List.length_range, List.length_replicate, decide_true, decide_false, decide_eq_true_eq, Bool.not_eq_true', decide_eq_false_iff_not, Bool.true_and, Bool.false_and, Bool.not_true, Bool.not_false, Bool.false_eq_true, if_true, if_false, Int.toNat_natCast, Int.reduceToNat, Int.reducePow, Int.reduceMul, Int.reduceAdd, Int.reduceSub, Int.reduceNeg, Int.reduceLT, Int.reduceLE, Nat.sub_self, Nat.add_sub_cancel_left, Nat.reduceAdd, Nat.reduceSub, Nat.reduceLT, Nat.reduceLeDiff, Int.cast_ofNat_Int, true_or, or_true, true_and, and_true, $[$ts:term],*])
structure WTb (n : Nat) (P : List (List Nat)) (T : List (List (List Nat))) (ks : List Nat) (st : WS) : Prop where
  srt : ∀ s, s < n → st.qs[s]!.Pairwise fun a b => a ∈ T[s]![b]!
  beat : ∀ k t, lkN st.own k = some t → ∀ c ∈ st.qs[t]!, c ∈ T[t]![k]!
  ask : ∀ k ∈ ks, ∀ t, t < n → k ∈ st.qs[t]! ∨ ∃ u, lkN st.own k = some u ∧ P[k]!.idxOf u ≤ P[k]!.idxOf t
  busy : ∀ s, s < n → s ∈ st.wait ∨ st.qs[s]! = [] ∨ ∃ k, lkN st.own k = some s
structure WT (n : Nat) (P : List (List Nat)) (T : List (List (List Nat))) (ks : List Nat) (st : WS) : Prop extends WTb n P T ks st where
  inv : WInv n ks st
section
variable {n m : Nat} {P : List (List Nat)} {T : List (List (List Nat))} {ks : List Nat} (hP : Probes n P) (hm : P.length = m) (hE : Even n m T) (hk : ∀ k ∈ ks, k < m)
include hP hm hE hk
end
end Mi
end
section
namespace Mi
open PySem Mi Mi.L 
local macro_rules | `(tactic| wp_walk using $[$ts:term],*) => `(tactic| simp (disch := first | with_reducible assumption | omega | (simp only [List.length_set, List.length_append, List.length_cons, List.length_nil, List.length_map, List.length_range, List.length_replicate, Line]; omega) | (simp only [List.length_set, List.length_append, List.length_cons, List.length_nil, List.length_map, List.length_range, List.length_replicate]; done) | fail) only [au0, au1, au2, au3, au4, au5, au6, List.getElem?_map, dI, dT, List.getElem?_cons_zero, List.getElem?_cons_succ, List.set_cons_zero, List.set_cons_succ, List.map_cons, List.map_nil, List.length_cons, List.length_nil, List.cons_append, List.nil_append, List.append_nil, List.append_assoc, List.reduceReplicate, List.length_set, List.set_set, List.length_append, List.length_map, List.length_range, List.length_replicate, decide_true, decide_false, decide_eq_true_eq, Bool.not_eq_true', decide_eq_false_iff_not, Bool.true_and, Bool.false_and, Bool.not_true, Bool.not_false, Bool.false_eq_true, if_true, if_false, Int.toNat_natCast, Int.reduceToNat, Int.reducePow, Int.reduceMul, Int.reduceAdd, Int.reduceSub, Int.reduceNeg, Int.reduceLT, Int.reduceLE, Nat.sub_self, Nat.add_sub_cancel_left, Nat.reduceAdd, Nat.reduceSub, Nat.reduceLT, Nat.reduceLeDiff, Int.cast_ofNat_Int, true_or, or_true, true_and, and_true, $[$ts:term],*])
theorem Has.put {n k s : Nat} {row : Row} {d : List Nat} (h : Has n row d) (hk : k ∉ d) (hs : s < n) (e : row[s]! = none) : Has n (row.set s (some k)) (d ++ [k]) := by
  have hl := h.len
  have hg : ∀ t, t < n → (row.set s (some k))[t]! = if s = t then some k else row[t]! := fun t ht => row_set (by omega)
  refine ⟨by rw [List.length_set]; exact hl, fun t u x ht hu e1 e2 => ?_, fun x => ?_⟩
  · rw [hg t ht] at e1
    rw [hg u hu] at e2
    by_cases h1 : s = t
    · by_cases h2 : s = u
      · rw [← h1, h2]
      · rw [if_pos h1] at e1
        rw [if_neg h2] at e2
        cases e1
        exact absurd ((h.keys k).mp (mem_row.mpr ⟨u, by omega, e2⟩)) hk
    · by_cases h2 : s = u
      · rw [if_neg h1] at e1
        rw [if_pos h2] at e2
        cases e2
        exact absurd ((h.keys k).mp (mem_row.mpr ⟨t, by omega, e1⟩)) hk
      · rw [if_neg h1] at e1
        rw [if_neg h2] at e2
        exact h.inj t u x ht hu e1 e2
  · rw [mem_row, List.mem_append, List.mem_singleton, ← h.keys, mem_row, List.length_set]
    constructor
    · rintro ⟨t, ht, e1⟩
      rw [hg t (by omega)] at e1
      by_cases h1 : s = t
      · rw [if_pos h1] at e1
        exact .inr (Option.some.inj e1).symm
      · rw [if_neg h1] at e1
        exact .inl ⟨t, ht, e1⟩
    · rintro (⟨t, ht, e1⟩ | rfl)
      · refine ⟨t, ht, ?_⟩
        rw [hg t (by omega), if_neg (fun z => by rw [← z, e] at e1; cases e1)]
        exact e1
      · exact ⟨s, by omega, by rw [hg s hs, if_pos rfl]⟩
theorem Has.drop {n k s : Nat} {row : Row} {d : List Nat} (h : Has n row (d ++ [k])) (hk : k ∉ d) (hs : s < n) (e : row[s]! = some k) : Has n (row.set s none) d := by
  have hl := h.len
  have hg : ∀ t, t < n → (row.set s none)[t]! = if s = t then none else row[t]! := fun t ht => row_set (by omega)
  refine ⟨by rw [List.length_set]; exact hl, fun t u x ht hu e1 e2 => ?_, fun x => ?_⟩
  · rw [hg t ht] at e1
    rw [hg u hu] at e2
    by_cases h1 : s = t
    · rw [if_pos h1] at e1; cases e1
    · by_cases h2 : s = u
      · rw [if_pos h2] at e2; cases e2
      · rw [if_neg h1] at e1
        rw [if_neg h2] at e2
        exact h.inj t u x ht hu e1 e2
  · have hx := h.keys x
    rw [List.mem_append, List.mem_singleton, mem_row] at hx
    rw [mem_row, List.length_set]
    constructor
    · rintro ⟨t, ht, e1⟩
      rw [hg t (by omega)] at e1
      by_cases h1 : s = t
      · rw [if_pos h1] at e1; cases e1
      · rw [if_neg h1] at e1
        rcases hx.mp ⟨t, ht, e1⟩ with g | g
        · exact g
        · rw [g] at e1
          exact absurd (h.inj s t k hs (by omega) e e1) h1
    · intro hd
      obtain ⟨t, ht, e1⟩ := hx.mpr (.inl hd)
      refine ⟨t, ht, ?_⟩
      rw [hg t (by omega), if_neg (fun z => by rw [← z, e] at e1; cases e1; exact hk hd)]
      exact e1
end Mi
end
section
namespace Mi
open PySem Mi Mi.L 
local macro_rules | `(tactic| wp_walk using $[$ts:term],*) => `(tactic| simp (disch := first | with_reducible assumption | omega | (simp only [List.length_set, List.length_append, List.length_cons, List.length_nil, List.length_map, List.length_range, List.length_replicate, Line]; omega) | (simp only [List.length_set, List.length_append, List.length_cons, List.length_nil, List.length_map, List.length_range, List.length_replicate]; done) | fail) only [au0, au1, au2, au3, au4, au5, au6, List.getElem?_map, dI, dT, List.getElem?_cons_zero, List.getElem?_cons_succ, List.set_cons_zero, List.set_cons_succ, List.map_cons, List.map_nil, List.length_cons, List.length_nil, List.cons_append, List.nil_append, List.append_nil, List.append_assoc, List.reduceReplicate, List.length_set, List.set_set, List.length_append, List.length_map, List.length_range, List.length_replicate, decide_true, decide_false, decide_eq_true_eq, Bool.not_eq_true', decide_eq_false_iff_not, Bool.true_and, Bool.false_and, Bool.not_true, Bool.not_false, Bool.false_eq_true, if_true, if_false, Int.toNat_natCast, Int.reduceToNat, Int.reducePow, Int.reduceMul, Int.reduceAdd, Int.reduceSub, Int.reduceNeg, Int.reduceLT, Int.reduceLE, Nat.sub_self, Nat.add_sub_cancel_left, Nat.reduceAdd, Nat.reduceSub, Nat.reduceLT, Nat.reduceLeDiff, Int.cast_ofNat_Int, true_or, or_true, true_and, and_true, $[$ts:term],*])
section
variable {n m : Nat} {P : List (List Nat)} {T : List (List (List Nat))}
end
end Mi
end
section
namespace Mi
open PySem Mi Mi.L 
local macro_rules | `(tactic| wp_walk using $[$ts:term],*) => `(tactic| simp (disch := first | with_reducible assumption | omega | (simp only [List.length_set, List.length_append, List.length_cons, List.length_nil, List.length_map, List.length_range, List.length_replicate, Line]; omega) | (simp only [List.length_set, List.length_append, List.length_cons, List.length_nil, List.length_map, List.length_range, List.length_replicate]; done) | fail) only [au0, au1, au2, au3, au4, au5, au6, List.getElem?_map, dI, dT, List.getElem?_cons_zero, List.getElem?_cons_succ, List.set_cons_zero, List.set_cons_succ, List.map_cons, List.map_nil, List.length_cons, List.length_nil, List.cons_append, List.nil_append, List.append_nil, List.append_assoc, List.reduceReplicate, List.length_set, List.set_set, List.length_append, List.length_map, List.length_range, List.length_replicate, decide_true, decide_false, decide_eq_true_eq, Bool.not_eq_true', decide_eq_false_iff_not, Bool.true_and, Bool.false_and, Bool.not_true, Bool.not_false, Bool.false_eq_true, if_true, if_false, Int.toNat_natCast, Int.reduceToNat, Int.reducePow, Int.reduceMul, Int.reduceAdd, Int.reduceSub, Int.reduceNeg, Int.reduceLT, Int.reduceLE, Nat.sub_self, Nat.add_sub_cancel_left, Nat.reduceAdd, Nat.reduceSub, Nat.reduceLT, Nat.reduceLeDiff, Int.cast_ofNat_Int, true_or, or_true, true_and, and_true, $[$ts:term],*])
def extF (m : Nat) (ks : List Nat) : List (List Nat) := ((List.range m).filter fun k => decide (ks = [] ∨ lastN ks < k)).map fun k => ks ++ [k]
theorem subs_succ (m s : Nat) : subs m (s + 1) = (subs m s).flatMap (extF m) := rfl
theorem extF_len (m : Nat) (ks : List Nat) : (extF m ks).length ≤ m := by
  unfold extF
  rw [List.length_map]
  exact Nat.le_trans (List.length_filter_le _ _) (by simp)
theorem flatMap_cap {α β : Type} {f : α → List β} {k : Nat} (h : ∀ x, (f x).length ≤ k) : ∀ xs : List α, (xs.flatMap f).length ≤ xs.length * k
  | [] => by simp
  | x :: xs => by
    rw [List.flatMap_cons, List.length_append, List.length_cons, Nat.succ_mul]
    have := flatMap_cap h xs
    have := h x
    omega
theorem grp_in {m : Nat} (hm8 : m ≤ 8) {xs : List (List Nat)} (hx : xs.length ≤ 256) (hl : ∀ ks ∈ xs, ks.length ≤ 8) {g : List (Nat × Cell)} {S : Store} (hg : ∀ acc, stand g (S ++ [.lst acc]) = true) (t1 t2 t3 t4 t6 t7 : Option D) :
    Rn (forL (gN 6) g (sDrop (mExtend (mV 5) (mComp [7] (iR1 (mV 0)) (gN 7) (tOr (tE (mO2 pEq (mV 6) (mTup aNil))) (tE (mO2 pGt (mV 7) (mIx (mV 6) (mO1 pNeg (mC (.int 1))))))) (mO2 pAdd (mV 6) (mTup (aCons (mV 7) aNil)))))) (xs.map dT)
      [some (.p (.int m)), t1, t2, t3, t4, some (.ref S.length), t6, t7] (S ++ [.lst []])) fun q => q.1 = .nx ∧ ∃ t6 t7 : Option D, q.2.2 = S ++ [.lst ((xs.flatMap (extF m)).map dT)] ∧ q.2.1 = [some (.p (.int m)), t1, t2, t3, t4, some (.ref S.length), t6, t7] := by
  refine for_map dT (fun j σ S' => ∃ t6 t7 : Option D, S' = S ++ [.lst (((xs.take j).flatMap (extF m)).map dT)] ∧ σ = [some (.p (.int m)), t1, t2, t3, t4, some (.ref S.length), t6, t7])
    ⟨t6, t7, rfl, rfl⟩ (fun j σ S' ⟨_, _, h, _⟩ => by rw [h]; exact hg _) ?_ ?_
  · rintro j ks σ S' hj ⟨t6, t7, rfl, rfl⟩
    obtain ⟨hj1, hxx⟩ := List.getElem?_eq_some_iff.mp hj
    have hkl : ks.length ≤ 8 := hl ks (hxx ▸ List.getElem_mem hj1)
    have htk : xs.take (j + 1) = xs.take j ++ [ks] := by rw [List.take_succ, hj]; rfl
    have hfl : ((xs.take j).flatMap (extF m)).length ≤ 2048 := by
      have h1 := flatMap_cap (extF_len m) (xs.take j)
      have h2 : (xs.take j).length ≤ 256 := by rw [List.length_take]; omega
      have h3 : (xs.take j).length * m ≤ 256 * 8 := Nat.mul_le_mul h2 hm8
      omega
    rw [htk, List.flatMap_append]
    have hfm : [ks].flatMap (extF m) = extF m ks := by simp
    rw [hfm]
    generalize (xs.take j).flatMap (extF m) = acc at *
    have hex := extF_len m ks
    have c1 : ∀ (t7 : Option D) S', compL [7] (gN 7) (tOr (tE (mO2 pEq (mV 6) (mTup aNil))) (tE (mO2 pGt (mV 7) (mIx (mV 6) (mO1 pNeg (mC (.int 1))))))) (mO2 pAdd (mV 6) (mTup (aCons (mV 7) aNil))) [] [some (.p (.int m)), t1, t2, t3, t4, some (.ref S.length), some (.p (.tuple (ks.map dI))), t7] ((List.range m).map dI) [] S' = .ok (.p (.list ((extF m ks).map dT)), S') := fun t7 S' => by
      unfold extF
      rw [List.map_map]
      refine comp_if dI (dT ∘ fun k => ks ++ [k]) (fun k => decide (ks = [] ∨ lastN ks < k)) (stand_nil _) (fun k hk acc => ?_) (fun k hk hp acc => ?_)
      · have q1 := pEq_nil ks
        by_cases h0 : ks = []
        · subst h0
          have q1 : pEq (.tuple []) (.tuple []) = .ok (.bool true) := q1
          wp_walk using wipe, q1
        · have q2 := last_ne h0
          wp_walk using wipe, q1, q2, h0
          simp [h0]
      · wp_walk using wipe, hkl
        simp [dT, dI]
    have hr : dT ks = .tuple (ks.map dI) := rfl
    have hexb : (extF m ks).length ≤ 8 := by omega
    wp_walk using c1, hm8, hfl, hexb
    exact ⟨_, _, by rw [List.map_append], rfl⟩
  · rintro σ S' ⟨t6, t7, rfl, rfl⟩
    rw [List.take_length]
    exact ⟨rfl, t6, t7, rfl, rfl⟩
theorem groups_ok {m n : Nat} (hm8 : m ≤ 8) (hn : n ≤ 100) (S : Store) : f_l_groups [.p (.int m), .p (.int n)] S = .ok (.p (.list (([] :: upto m (min m n)).map dT)), S) := by
  refine fn_rn rfl ?_
  unfold b_l_groups
  have hmin : (min (m : Int) n) = ((min m n : Nat) : Int) := by omega
  wp_walk using hm8, hn
  rw [hmin]
  wp_walk using hm8
  have h28 : 2 ^ m ≤ 2 ^ 8 := Nat.pow_le_pow_right (by omega) hm8
  refine Rn.bs ((for_range (fun j σ S' => ∃ (d : D) (t4 t5 t6 t7 : Option D), S'.take S.length = S ∧ S.length ≤ S'.length ∧ (d = .p (.list ((subs m j).map dT)) ∨ ∃ r, S.length ≤ r ∧ d = .ref r ∧ S'[r]? = some (.lst ((subs m j).map dT))) ∧ σ = [some (.p (.int m)), some (.p (.int n)), some (.p (.list (([] :: upto m j).map dT))), some d, t4, t5, t6, t7])
    (Q := fun q => q.1 = .nx ∧ q.2.2.take S.length = S ∧ ∃ (t3 t4 t5 t6 t7 : Option D), q.2.1 = [some (.p (.int m)), some (.p (.int n)), some (.p (.list (([] :: upto m (min m n)).map dT))), t3, t4, t5, t6, t7])
    ⟨_, none, none, none, none, by simp, Nat.le_refl _, .inl rfl, rfl⟩ (fun _ _ _ _ => stand_nil _) ?_ ?_).mono ?_)
  · rintro j σ S' hj ⟨d, t4, t5, t6, t7, h1, h2, hd, rfl⟩
    have hb := subs_len m j
    have hbu := upto_len m j
    have hbs := subs_len m (j + 1)
    have hb1 : (subs m j).length ≤ 256 := by omega
    have hbu1 : (upto m j).length ≤ 256 := by omega
    have hbs1 : ((subs m j).flatMap (extF m)).length ≤ 256 := by rw [← subs_succ]; omega
    have hsl : ∀ ks ∈ subs m j, ks.length ≤ 8 := fun ks h => by have := (mem_subs.mp h).1; omega
    have hcon : (upto m j).map dT ++ ((subs m j).flatMap (extF m)).map dT = (upto m (j + 1)).map dT := by
      rw [upto_succ, subs_succ, ← List.map_append]
    have key := fun (g : List (Nat × Cell)) (hg : ∀ acc, stand g (S' ++ [.lst acc]) = true) (t3 t4 t6 t7 : Option D) => grp_in hm8 hb1 hsl hg (some (.p (.int n))) (some (.p (.list (([] :: upto m j).map dT)))) t3 t4 t6 t7
    rw [subs_succ]
    rcases hd with rfl | ⟨r, hSr, rfl, hr⟩
    · wp_walk using hb1
      refine Rn.bs ((key [] (fun _ => stand_nil _) _ _ _ _).mono ?_)
      rintro ⟨fl, σ, S2⟩ ⟨g1, u6, u7, g2, g3⟩
      have g1 : fl = .nx := g1
      have g2 : S2 = _ := g2
      have g3 : σ = _ := g3
      subst g1 g2 g3
      wp_walk using hbu1, hbs1
      rw [hcon]
      refine ⟨_, _, _, _, _, ?_, ?_, .inr ⟨S'.length, h2, rfl, ?_⟩, rfl⟩
      · rw [List.take_append_of_le_length h2, h1]
      · omega
      · rw [List.getElem?_append_right (Nat.le_refl _), Nat.sub_self]; rfl
    · have hrl : r < S'.length := (List.getElem?_eq_some_iff.mp hr).1
      have hr2 : ∀ acc, (S' ++ [Cell.lst acc])[r]? = some (.lst ((subs m j).map dT)) := fun acc => by rw [List.getElem?_append_left hrl]; exact hr
      wp_walk using hb1, hr2
      refine Rn.bs ((key [(r, .lst ((subs m j).map dT))] (fun acc => stand_one (hr2 acc)) _ _ _ _).mono ?_)
      rintro ⟨fl, σ, S2⟩ ⟨g1, u6, u7, g2, g3⟩
      have g1 : fl = .nx := g1
      have g2 : S2 = _ := g2
      have g3 : σ = _ := g3
      subst g1 g2 g3
      wp_walk using hbu1, hbs1
      rw [hcon]
      refine ⟨_, _, _, _, _, ?_, ?_, .inr ⟨S'.length, h2, rfl, ?_⟩, rfl⟩
      · rw [List.take_append_of_le_length h2, h1]
      · omega
      · rw [List.getElem?_append_right (Nat.le_refl _), Nat.sub_self]; rfl
  · rintro σ S' ⟨d, t4, t5, t6, t7, h1, h2, hd, rfl⟩
    exact ⟨rfl, h1, _, _, _, _, _, rfl⟩
  · rintro ⟨fl, σ, S'⟩ ⟨g1, h1, t3, t4, t5, t6, t7, g3⟩
    have g1 : fl = .nx := g1
    have g3 : σ = _ := g3
    subst g1 g3
    have h1 : S'.take S.length = S := h1
    wp_walk using h1
def hstF (ks h : List Nat) : List (List Nat) := (ks.filter fun k => decide (k ∉ h)).map fun k => h ++ [k]
def hists (ks : List Nat) : Nat → List (List Nat)
  | 0 => [[]]
  | j + 1 => (hists ks j).flatMap (hstF ks)
theorem mem_hists {ks : List Nat} : ∀ {j : Nat} {h : List Nat}, h ∈ hists ks j ↔ h.length = j ∧ h.Nodup ∧ ∀ k ∈ h, k ∈ ks
  | 0, h => by
    unfold hists
    rw [List.mem_singleton]
    constructor
    · rintro rfl
      exact ⟨rfl, List.nodup_nil, by simp⟩
    · rintro ⟨h, _⟩
      exact List.length_eq_zero_iff.mp h
  | j + 1, h => by
    unfold hists
    rw [List.mem_flatMap]
    constructor
    · rintro ⟨l, hl, hk⟩
      obtain ⟨k, h1, rfl⟩ := List.mem_map.mp hk
      obtain ⟨h2, h3⟩ := List.mem_filter.mp h1
      obtain ⟨e1, e2, e3⟩ := mem_hists.mp hl
      have h3 := of_decide_eq_true h3
      refine ⟨by simp [e1], List.nodup_append.mpr ⟨e2, by simp, fun a ha b hb e => h3 (by rw [← List.mem_singleton.mp hb, ← e]; exact ha)⟩, fun x hx => ?_⟩
      rcases List.mem_append.mp hx with hx | hx
      · exact e3 x hx
      · rw [List.mem_singleton.mp hx]
        exact h2
    · rintro ⟨h1, h2, h3⟩
      rcases List.eq_nil_or_concat h with rfl | ⟨l, k, rfl⟩
      · simp at h1
      · rw [List.concat_eq_append] at *
        have h4 := List.nodup_append.mp h2
        refine ⟨l, mem_hists.mpr ⟨by simpa using h1, h4.1, fun x hx => h3 x (by simp [hx])⟩, List.mem_map.mpr ⟨k, List.mem_filter.mpr ⟨h3 k (by simp), decide_eq_true fun z => h4.2.2 k z k (by simp) rfl⟩, rfl⟩⟩
theorem hists_cap {ks : List Nat} {a : Nat} (ha : ks.length ≤ a) : ∀ j, (hists ks j).length ≤ a ^ j
  | 0 => by simp [hists]
  | j + 1 => by
    unfold hists
    have h1 := flatMap_cap (f := hstF ks) (k := ks.length) (fun h => by unfold hstF; rw [List.length_map]; exact List.length_filter_le _ _) (hists ks j)
    have h2 := Nat.mul_le_mul (hists_cap ha j) ha
    rw [Nat.pow_succ]
    omega
theorem mem_hists_perm {ks h : List Nat} (hnd : ks.Nodup) : h ∈ hists ks ks.length ↔ h.Perm ks := by
  rw [mem_hists]
  constructor
  · rintro ⟨h1, h2, h3⟩
    exact (List.perm_ext_iff_of_nodup h2 hnd).mpr fun k => ⟨h3 k, fun hk => by
      apply Classical.byContradiction
      intro hn
      have := nodup_sub_len (xs := k :: h) (ys := ks) (List.nodup_cons.mpr ⟨hn, h2⟩) (fun x hx => by
        rcases List.mem_cons.mp hx with rfl | hx
        · exact hk
        · exact h3 x hx)
      rw [List.length_cons] at this
      omega⟩
  · intro hp
    exact ⟨hp.length_eq, hp.nodup_iff.mpr hnd, fun k hk => hp.mem_iff.mp hk⟩
theorem hst_in {ks : List Nat} (hk : ks.length ≤ 5) {xs : List (List Nat)} (hx : xs.length ≤ 3125) (hl : ∀ h ∈ xs, h.length ≤ 5) {g : List (Nat × Cell)} {S : Store} (hg : ∀ acc, stand g (S ++ [.lst acc]) = true) (t1 t2 t4 t5 : Option D) :
    Rn (forL (gN 4) g (sDrop (mExtend (mV 3) (mComp [5] (iE (mV 0)) (gN 5) (tE (mNotIn (mV 5) (mV 4))) (mO2 pAdd (mV 4) (mTup (aCons (mV 5) aNil)))))) (xs.map dT)
      [some (.p (.tuple (ks.map dI))), t1, t2, some (.ref S.length), t4, t5] (S ++ [.lst []])) fun q => q.1 = .nx ∧ ∃ t4 t5 : Option D, q.2.2 = S ++ [.lst ((xs.flatMap (hstF ks)).map dT)] ∧ q.2.1 = [some (.p (.tuple (ks.map dI))), t1, t2, some (.ref S.length), t4, t5] := by
  refine for_map dT (fun j σ S' => ∃ t4 t5 : Option D, S' = S ++ [.lst (((xs.take j).flatMap (hstF ks)).map dT)] ∧ σ = [some (.p (.tuple (ks.map dI))), t1, t2, some (.ref S.length), t4, t5])
    ⟨t4, t5, rfl, rfl⟩ (fun j σ S' ⟨_, _, h, _⟩ => by rw [h]; exact hg _) ?_ ?_
  · rintro j h σ S' hj ⟨t4, t5, rfl, rfl⟩
    obtain ⟨hj1, hxx⟩ := List.getElem?_eq_some_iff.mp hj
    have hkl : h.length ≤ 5 := hl h (hxx ▸ List.getElem_mem hj1)
    have htk : xs.take (j + 1) = xs.take j ++ [h] := by rw [List.take_succ, hj]; rfl
    have hcap : ∀ h, (hstF ks h).length ≤ 5 := fun h => by unfold hstF; rw [List.length_map]; exact Nat.le_trans (List.length_filter_le _ _) hk
    have hfl : ((xs.take j).flatMap (hstF ks)).length ≤ 15625 := by
      have h1 := flatMap_cap hcap (xs.take j)
      have h2 : (xs.take j).length ≤ 3125 := by rw [List.length_take]; omega
      omega
    rw [htk, List.flatMap_append]
    have hfm : [h].flatMap (hstF ks) = hstF ks h := by simp
    rw [hfm]
    generalize (xs.take j).flatMap (hstF ks) = acc at *
    have hex := hcap h
    have c1 : ∀ (t5 : Option D) S', compL [5] (gN 5) (tE (mNotIn (mV 5) (mV 4))) (mO2 pAdd (mV 4) (mTup (aCons (mV 5) aNil))) [] [some (.p (.tuple (ks.map dI))), t1, t2, some (.ref S.length), some (.p (.tuple (h.map dI))), t5] (ks.map dI) [] S' = .ok (.p (.list ((hstF ks h).map dT)), S') := fun t5 S' => by
      unfold hstF
      rw [List.map_map]
      refine comp_if dI (dT ∘ fun k => h ++ [k]) (fun k => decide (k ∉ h)) (stand_nil _) (fun k hk acc => ?_) (fun k hk hp acc => ?_)
      · have q := pNotIn_nat k h
        wp_walk using wipe, q
        simp
      · wp_walk using wipe, hkl
        simp [dT, dI]
    wp_walk using c1, hfl, hex, hk
    exact ⟨_, _, by rw [List.map_append], rfl⟩
  · rintro σ S' ⟨t4, t5, rfl, rfl⟩
    rw [List.take_length]
    exact ⟨rfl, t4, t5, rfl, rfl⟩
theorem histories_ok {ks : List Nat} (hk : ks.length ≤ 5) (S : Store) : f_l_histories [.p (.tuple (ks.map dI))] S = .ok (.p (.list ((hists ks ks.length).map dT)), S) := by
  refine fn_rn rfl ?_
  unfold b_l_histories
  wp_walk using hk
  have hcap : ∀ j, j ≤ ks.length → (hists ks j).length ≤ 3125 := fun j hj => by
    have h1 := hists_cap hk j
    have h2 : 5 ^ j ≤ 5 ^ 5 := Nat.pow_le_pow_right (by omega) (by omega)
    omega
  refine Rn.bs ((for_range (fun j σ S' => ∃ (d : D) (t2 t3 t4 t5 : Option D), S'.take S.length = S ∧ S.length ≤ S'.length ∧ (d = .p (.list ((hists ks j).map dT)) ∨ ∃ r, S.length ≤ r ∧ d = .ref r ∧ S'[r]? = some (.lst ((hists ks j).map dT))) ∧ σ = [some (.p (.tuple (ks.map dI))), some d, t2, t3, t4, t5])
    (Q := fun q => q.1 = .nx ∧ ∃ (d : D) (t2 t3 t4 t5 : Option D), q.2.2.take S.length = S ∧ S.length ≤ q.2.2.length ∧ (d = .p (.list ((hists ks ks.length).map dT)) ∨ ∃ r, S.length ≤ r ∧ d = .ref r ∧ q.2.2[r]? = some (.lst ((hists ks ks.length).map dT))) ∧ q.2.1 = [some (.p (.tuple (ks.map dI))), some d, t2, t3, t4, t5])
    ⟨_, none, none, none, none, by simp, Nat.le_refl _, .inl rfl, rfl⟩ (fun _ _ _ _ => stand_nil _) ?_ ?_).mono ?_)
  · rintro j σ S' hj ⟨d, t2, t3, t4, t5, h1, h2, hd, rfl⟩
    have hb := hcap j (by omega)
    have hsl : ∀ h ∈ hists ks j, h.length ≤ 5 := fun h hh => by have := (mem_hists.mp hh).1; omega
    have key := fun (g : List (Nat × Cell)) (hg : ∀ acc, stand g (S' ++ [.lst acc]) = true) (t1 t2 t4 t5 : Option D) => hst_in hk hb hsl hg t1 t2 t4 t5
    have hsucc : hists ks (j + 1) = (hists ks j).flatMap (hstF ks) := rfl
    rw [hsucc]
    rcases hd with rfl | ⟨r, hSr, rfl, hr⟩
    · wp_walk using hb
      refine Rn.bs ((key [] (fun _ => stand_nil _) _ _ _ _).mono ?_)
      rintro ⟨fl, σ, S2⟩ ⟨g1, u6, u7, g2, g3⟩
      have g1 : fl = .nx := g1
      have g2 : S2 = _ := g2
      have g3 : σ = _ := g3
      subst g1 g2 g3
      wp_walk using hb
      refine ⟨_, _, _, _, _, ?_, ?_, .inr ⟨S'.length, h2, rfl, ?_⟩, rfl⟩
      · rw [List.take_append_of_le_length h2, h1]
      · omega
      · rw [List.getElem?_append_right (Nat.le_refl _), Nat.sub_self]; rfl
    · have hrl : r < S'.length := (List.getElem?_eq_some_iff.mp hr).1
      have hr2 : ∀ acc, (S' ++ [Cell.lst acc])[r]? = some (.lst ((hists ks j).map dT)) := fun acc => by rw [List.getElem?_append_left hrl]; exact hr
      wp_walk using hb, hr2
      refine Rn.bs ((key [(r, .lst ((hists ks j).map dT))] (fun acc => stand_one (hr2 acc)) _ _ _ _).mono ?_)
      rintro ⟨fl, σ, S2⟩ ⟨g1, u6, u7, g2, g3⟩
      have g1 : fl = .nx := g1
      have g2 : S2 = _ := g2
      have g3 : σ = _ := g3
      subst g1 g2 g3
      wp_walk using hb
      refine ⟨_, _, _, _, _, ?_, ?_, .inr ⟨S'.length, h2, rfl, ?_⟩, rfl⟩
      · rw [List.take_append_of_le_length h2, h1]
      · omega
      · rw [List.getElem?_append_right (Nat.le_refl _), Nat.sub_self]; rfl
  · rintro σ S' ⟨d, t2, t3, t4, t5, h1, h2, hd, rfl⟩
    exact ⟨rfl, d, t2, t3, t4, t5, h1, h2, hd, rfl⟩
  · rintro ⟨fl, σ, S'⟩ ⟨g1, d, t2, t3, t4, t5, h1, h2, hd, g3⟩
    have g1 : fl = .nx := g1
    have g3 : σ = _ := g3
    subst g1 g3
    have h1 : S'.take S.length = S := h1
    rcases hd with rfl | ⟨r, hSr, rfl, hr⟩
    · wp_walk using h1
    · have hr : S'[r]? = _ := hr
      have hSr2 : ¬ r < S.length := by omega
      wp_walk using h1, hr, hSr2
end Mi
end
section
namespace Mi
open PySem Mi Mi.L 
local macro_rules | `(tactic| wp_walk using $[$ts:term],*) => `(tactic| simp (disch := first | with_reducible assumption | omega | (simp only [List.length_set, List.length_append, List.length_cons, List.length_nil, List.length_map, List.length_range, List.length_replicate, Line]; omega) | (simp only [List.length_set, List.length_append, List.length_cons, List.length_nil, List.length_map, List.length_range, List.length_replicate]; done) | fail) only [au0, au1, au2, au3, au4, au5, au6, List.getElem?_map, dI, dT, List.getElem?_cons_zero, List.getElem?_cons_succ, List.set_cons_zero, List.set_cons_succ, List.map_cons, List.map_nil, List.length_cons, List.length_nil, List.cons_append, List.nil_append, List.append_nil, List.append_assoc, List.reduceReplicate, List.length_set, List.set_set, List.length_append, List.length_map, List.length_range, List.length_replicate, decide_true, decide_false, decide_eq_true_eq, Bool.not_eq_true', decide_eq_false_iff_not, Bool.true_and, Bool.false_and, Bool.not_true, Bool.not_false, Bool.false_eq_true, if_true, if_false, Int.toNat_natCast, Int.reduceToNat, Int.reducePow, Int.reduceMul, Int.reduceAdd, Int.reduceSub, Int.reduceNeg, Int.reduceLT, Int.reduceLE, Nat.sub_self, Nat.add_sub_cancel_left, Nat.reduceAdd, Nat.reduceSub, Nat.reduceLT, Nat.reduceLeDiff, Int.cast_ofNat_Int, true_or, or_true, true_and, and_true, $[$ts:term],*])
structure Half2 (n : Nat) (A : Nat → Nat → Prop) (rows : List (List Nat)) : Prop where
  len : rows.length = n
  nd : ∀ a, a < n → rows[a]!.Nodup
  only : ∀ a b, a < n → b ∈ rows[a]! → b < n ∧ a ≠ b ∧ A a b
  tour : ∀ a b, a < n → b < n → A a b → (b ∈ rows[a]! ↔ a ∉ rows[b]!)
theorem Half2.congr {n : Nat} {A A' : Nat → Nat → Prop} {rows : List (List Nat)} (h : Half2 n A rows) (hA : ∀ a b, a < n → b < n → (A a b ↔ A' a b)) : Half2 n A' rows :=
  ⟨h.len, h.nd, fun a b ha hb => by
    obtain ⟨h1, h2, h3⟩ := h.only a b ha hb
    exact ⟨h1, h2, (hA a b ha h1).mp h3⟩, fun a b ha hb hab => h.tour a b ha hb ((hA a b ha hb).mpr hab)⟩
theorem Half2.step {n w l : Nat} {A : Nat → Nat → Prop} {rows : List (List Nat)} (h : Half2 n A rows) (hw : w < n) (hl : l < n) (hne : w ≠ l) (h1 : ¬ A w l) (h2 : ¬ A l w) :
    Half2 n (fun a b => A a b ∨ (a = w ∧ b = l) ∨ (a = l ∧ b = w)) (rows.set w (rows[w]! ++ [l])) := by
  have hlen := h.len
  have g : ∀ a, a < n → (rows.set w (rows[w]! ++ [l]))[a]! = if w = a then rows[w]! ++ [l] else rows[a]! := fun a ha => bang_set (by omega)
  have nwl : l ∉ rows[w]! := fun z => h1 (h.only w l hw z).2.2
  have nlw : w ∉ rows[l]! := fun z => h2 (h.only l w hl z).2.2
  have hm : ∀ a b, a < n → (b ∈ (rows.set w (rows[w]! ++ [l]))[a]! ↔ b ∈ rows[a]! ∨ (a = w ∧ b = l)) := fun a b ha => by
    rw [g a ha]
    by_cases e : w = a
    · subst e
      rw [if_pos rfl, List.mem_append, List.mem_singleton]
      simp
    · rw [if_neg e]
      constructor
      · exact .inl
      · rintro (z | ⟨z, _⟩)
        · exact z
        · exact absurd z.symm e
  refine ⟨by rw [List.length_set]; exact hlen, fun a ha => ?_, fun a b ha hb => ?_, fun a b ha hb hab => ?_⟩
  · rw [g a ha]
    split
    · rename_i e
      subst e
      rw [List.nodup_append]
      exact ⟨h.nd w ha, by simp, fun x hx y hy => by
        rw [List.mem_singleton.mp hy]
        rintro rfl
        exact nwl hx⟩
    · exact h.nd a ha
  · rcases (hm a b ha).mp hb with z | ⟨z1, z2⟩
    · have := h.only a b ha z
      exact ⟨this.1, this.2.1, .inl this.2.2⟩
    · subst z1 z2
      exact ⟨hl, hne, .inr (.inl ⟨rfl, rfl⟩)⟩
  · rw [hm a b ha, hm b a hb]
    rcases hab with z | ⟨z1, z2⟩ | ⟨z1, z2⟩
    · have h0 := h.tour a b ha hb z
      have e1 : ¬ (a = w ∧ b = l) := by rintro ⟨rfl, rfl⟩; exact h1 z
      have e2 : ¬ (b = w ∧ a = l) := by rintro ⟨rfl, rfl⟩; exact h2 z
      simp only [e1, e2, or_false]
      exact h0
    · subst z1 z2
      have e2 : ¬ (b = a ∧ a = b) := fun z => hne z.1.symm
      simp only [e2, or_false, nlw, not_false_eq_true, and_self, or_true]
    · subst z1 z2
      have e1 : ¬ (a = b ∧ b = a) := fun z => hne z.2
      simp only [e1, or_false, nlw, and_self, or_true, not_true_eq_false]
theorem Half2.done {n : Nat} {A : Nat → Nat → Prop} {rows : List (List Nat)} (h : Half2 n A rows) (hA : ∀ a b, a < n → b < n → a ≠ b → A a b) : IsTable n (rows.map sortN) := by
  have hl := h.len
  have g : ∀ a, a < n → (rows.map sortN)[a]! = sortN rows[a]! := fun a ha => by
    rw [getElem!_pos _ a (by rw [List.length_map]; omega), getElem!_pos _ a (by omega), List.getElem_map]
  refine ⟨by rw [List.length_map]; exact hl, fun a ha => ?_, fun a ha b hb => ?_, fun a b ha hb => ?_⟩
  · rw [g a ha]
    have h1 := sortN_sorted rows[a]!
    have h2 : (sortN rows[a]!).Nodup := (sortN_perm _).nodup_iff.mpr (h.nd a ha)
    rw [List.nodup_iff_pairwise_ne] at h2
    exact (h1.and h2).imp fun ⟨u, v⟩ => by omega
  · rw [g a ha, sortN_mem] at hb
    exact (h.only a b ha hb).1
  · rw [g a ha, g b hb, sortN_mem, sortN_mem]
    constructor
    · intro z
      have z2 := h.only a b ha z
      exact ⟨z2.2.1, (h.tour a b ha hb z2.2.2).mp z⟩
    · rintro ⟨z1, z2⟩
      exact (h.tour a b ha hb (hA a b ha hb z1)).mpr z2
def AskO (o : List Nat) (j q a b : Nat) : Prop := a ≠ b ∧ (min (o.idxOf a) (o.idxOf b) < j ∨ (min (o.idxOf a) (o.idxOf b) = j ∧ max (o.idxOf a) (o.idxOf b) < j + 1 + q))
theorem AskO.next {o : List Nat} (ho : Ord o) {j a b : Nat} (ha : a < o.length) (hb : b < o.length) : AskO o j (o.length - (j + 1)) a b ↔ AskO o (j + 1) 0 a b := by
  have h1 := ho.idx_lt ha
  have h2 := ho.idx_lt hb
  have h3 : o.idxOf a = o.idxOf b → a = b := fun z => by
    have e1 := ho.at_idx ha
    have e2 := ho.at_idx hb
    simp only [z] at e1
    omega
  unfold AskO
  by_cases e : a = b
  · simp [e]
  · have : o.idxOf a ≠ o.idxOf b := fun z => e (h3 z)
    simp only [ne_eq, e, not_false_eq_true, true_and]
    omega
theorem AskO.more {o : List Nat} (ho : Ord o) {j q a b : Nat} (hq : j + 1 + q < o.length) (ha : a < o.length) (hb : b < o.length) : AskO o j (q + 1) a b ↔ AskO o j q a b ∨ (a = o[j]! ∧ b = o[j + 1 + q]!) ∨ (a = o[j + 1 + q]! ∧ b = o[j]!) := by
  have i1 := ho.idx_at (i := j) (by omega)
  have i2 := ho.idx_at (i := j + 1 + q) hq
  have g1 : o[j]! = o[j]'(by omega) := getElem!_pos o j (by omega)
  have g2 : o[j + 1 + q]! = o[j + 1 + q] := getElem!_pos o _ hq
  have inj : ∀ x y, x < o.length → y < o.length → o.idxOf x = o.idxOf y → x = y := fun x y hx hy z => by
    have e1 := ho.at_idx hx
    have e2 := ho.at_idx hy
    simp only [z] at e1
    omega
  have l1 : o[j]! < o.length := by rw [g1]; exact ho.at_lt (by omega)
  have l2 : o[j + 1 + q]! < o.length := by rw [g2]; exact ho.at_lt hq
  rw [← g1] at i1
  rw [← g2] at i2
  have a1 : a = o[j]! ↔ o.idxOf a = j := ⟨fun z => by rw [z, i1], fun z => inj _ _ ha l1 (by rw [z, i1])⟩
  have a2 : a = o[j + 1 + q]! ↔ o.idxOf a = j + 1 + q := ⟨fun z => by rw [z, i2], fun z => inj _ _ ha l2 (by rw [z, i2])⟩
  have b1 : b = o[j]! ↔ o.idxOf b = j := ⟨fun z => by rw [z, i1], fun z => inj _ _ hb l1 (by rw [z, i1])⟩
  have b2 : b = o[j + 1 + q]! ↔ o.idxOf b = j + 1 + q := ⟨fun z => by rw [z, i2], fun z => inj _ _ hb l2 (by rw [z, i2])⟩
  have ab : a = b ↔ o.idxOf a = o.idxOf b := ⟨fun z => by rw [z], inj a b ha hb⟩
  unfold AskO
  rw [a1, a2, b1, b2, Ne, ab]
  omega
theorem chance_mem {x : PyData} (h : x ∈ [PyData.int (2 : Nat), .int (3 : Nat), .int (8 : Nat), .int (100 : Nat)]) : ∃ k : Nat, x = .int k ∧ 1 ≤ k ∧ k ≤ 100 := by
  simp only [List.mem_cons, List.not_mem_nil, or_false] at h
  rcases h with rfl | rfl | rfl | rfl <;> exact ⟨_, rfl, by omega⟩
theorem turnedRule_ok {b : Nat} {S : Store} {i n m : Nat} (h : PotAt b S i) (hb : b < 2 ^ 45) (hn : n ≤ 16) (hm : m ≤ 16) (L : Store) : ∃ (ts : List (List (List Nat))) (c : Cell), ts.length = m ∧ (∀ t ∈ ts, IsTable n t) ∧ PotAt (b + 600 * m) (S.set i c) i ∧ f_l_turned_rule [.ref i, .p (.int n), .p (.int m)] (S ++ L) = .ok (.p (.tuple (ts.map dTb)), S.set i c ++ L) := by
  have hi := h.lt
  suffices hh : Rn (f_l_turned_rule [.ref i, .p (.int n), .p (.int m)] (S ++ L)) fun z => ∃ (ts : List (List (List Nat))) (c : Cell), ts.length = m ∧ (∀ t ∈ ts, IsTable n t) ∧ PotAt (b + 600 * m) (S.set i c) i ∧ z = (.p (.tuple (ts.map dTb)), S.set i c ++ L) by
    obtain ⟨z, e, ts, c, g1, g2, g3, rfl⟩ := hh.ex
    exact ⟨ts, c, g1, g2, g3, e⟩
  refine fn_rnQ rfl ?_
  unfold b_l_turned_rule
  wp_walk using hi
  refine Rn.bs ((for_range (fun j σ S' => ∃ (t4 t5 t6 t7 t8 t9 t10 : Option D) (ts : List (List (List Nat))) (c : Cell) (J : Store), σ = [some (.ref i), some (.p (.int n)), some (.p (.int m)), some (.ref (S.length + L.length)), t4, t5, t6, t7, t8, t9, t10, none] ∧ S' = S.set i c ++ (L ++ (.lst (ts.map dTb) :: J)) ∧ ts.length = j ∧ (∀ t ∈ ts, IsTable n t) ∧ PotAt (b + 600 * j) (S.set i c) i) (Q := fun p => ∃ (t4 t5 t6 t7 t8 t9 t10 : Option D) (ts : List (List (List Nat))) (c : Cell) (J : Store), p = (.nx, [some (.ref i), some (.p (.int n)), some (.p (.int m)), some (.ref (S.length + L.length)), t4, t5, t6, t7, t8, t9, t10, none], S.set i c ++ (L ++ (.lst (ts.map dTb) :: J))) ∧ ts.length = m ∧ (∀ t ∈ ts, IsTable n t) ∧ PotAt (b + 600 * m) (S.set i c) i) ?_ (fun _ _ _ _ => stand_nil _) ?_ ?_).mono ?_)
  · exact ⟨_, _, _, _, _, _, _, [], S[i], [], rfl, by rw [List.set_getElem_self]; rfl, rfl, by simp, by rw [List.set_getElem_self]; exact h⟩
  · rintro j σ S' hj ⟨t4, t5, t6, t7, t8, t9, t10, ts, c, J, rfl, rfl, htl, htt, hp⟩
    obtain ⟨o, c1, ho, hol, p1, e1⟩ := shuf_ok (n := n) hp (by omega) (by omega) (L ++ (.lst (ts.map dTb) :: J))
    obtain ⟨y, c2, hy, p2, e2⟩ := of_all (xs := [.int (2 : Nat), .int (3 : Nat), .int (8 : Nat), .int (100 : Nat)]) p1 (by omega) (by simp) (by simp)
    obtain ⟨ch, rfl, hch⟩ := chance_mem hy
    simp only [List.set_set] at e1 e2 p1 p2
    have e2' := e2 (L ++ (.lst (ts.map dTb) :: J))
    simp only [Int.cast_ofNat_Int] at e2'
    obtain ⟨k, hk⟩ : ∃ k, (S.set i c2 ++ (L ++ (.lst (ts.map dTb) :: J))).length = k := ⟨_, rfl⟩
    have k0 : ∀ σ, compNL [9] (gN 9) (mLst aNil) [] σ k ((List.range n).map dI) [] (S.set i c2 ++ (L ++ (.lst (ts.map dTb) :: (J ++ [.nst 0 []])))) = .ok (.rows k n (List.range' (k + 1) n), S.set i c2 ++ (L ++ (.lst (ts.map dTb) :: (J ++ nstS (pD (List.replicate n [])) k)))) := fun σ => by
      have := compN_val (own := [9]) (tg := gN 9) (elt := mLst aNil) (σ := σ) dI (fun _ => []) (xs := List.range n) (S := S.set i c2 ++ (L ++ (.lst (ts.map dTb) :: J))) fun x _ T => rfl
      rw [hk, List.length_range] at this
      simp only [List.append_assoc, List.cons_append] at this
      rw [this]
      simp [pD, List.map_const']
    have hkl : S.length + (L.length + (J.length + 1)) = k := by
      rw [← hk]
      simp only [List.length_append, List.length_set, List.length_cons]
    wp_walk using au7, e1, e2', hkl, k0
    have hAl : ∀ c : Cell, (S.set i c ++ (L ++ (.lst (ts.map dTb) :: J))).length = k := fun c => by
      rw [← hkl]
      simp only [List.length_append, List.length_set, List.length_cons]
    have hrow : ∀ (c : Cell) (rows : List (List Nat)) (w : Nat), rows.length = n → w < n → rowOf (S.set i c ++ (L ++ (.lst (ts.map dTb) :: (J ++ nstS (pD rows) k)))) k n (List.range' (k + 1) n) w = .ok (.ref (k + 1 + w), S.set i c ++ (L ++ (.lst (ts.map dTb) :: (J ++ nstS (pD rows) k)))) := fun c rows w hl hw => by
      have hpl : (pD rows).length = n := by rw [pD, List.length_map, hl]
      have := nst_row (A := S.set i c ++ (L ++ (.lst (ts.map dTb) :: J))) (rows := pD rows) (r := w) (by omega)
      rw [hAl, hpl] at this
      simpa only [List.append_assoc, List.cons_append] using this
    have hget : ∀ (c : Cell) (rows : List (List Nat)) (w : Nat), rows.length = n → w < n → (S.set i c ++ (L ++ (.lst (ts.map dTb) :: (J ++ nstS (pD rows) k))))[k + 1 + w]? = some (.lst (rows[w]!.map dI)) := fun c rows w hl hw => by
      have hpl : (pD rows).length = n := by rw [pD, List.length_map, hl]
      have := nst_get (A := S.set i c ++ (L ++ (.lst (ts.map dTb) :: J))) (rows := pD rows) (r := w) (by omega)
      rw [hAl, pD_get (by omega)] at this
      simpa only [List.append_assoc, List.cons_append] using this
    have hput : ∀ (c : Cell) (rows : List (List Nat)) (w l : Nat), rows.length = n → w < n → (S.set i c ++ (L ++ (.lst (ts.map dTb) :: (J ++ nstS (pD rows) k)))).set (k + 1 + w) (.lst (rows[w]!.map dI ++ [.int l])) = S.set i c ++ (L ++ (.lst (ts.map dTb) :: (J ++ nstS (pD (rows.set w (rows[w]! ++ [l]))) k))) := fun c rows w l hl hw => by
      have hpl : (pD rows).length = n := by rw [pD, List.length_map, hl]
      have := nst_put (A := S.set i c ++ (L ++ (.lst (ts.map dTb) :: J))) (rows := pD rows) (r := w) (ys := (rows[w]! ++ [l]).map dI) (by omega)
      rw [hAl, pD_set, List.map_append] at this
      simpa only [List.append_assoc, List.cons_append, List.map_cons, List.map_nil, dI] using this
    have obang : ∀ a, a < n → o[a]! < n := fun a ha => by
      have := ho.at_lt (i := a) (by omega)
      rw [getElem!_pos o a (by omega)]
      omega
    refine Rn.bs ((for_idx (fun a => PyData.tuple [.int a, .int o[a]!]) (fun a σ S' => ∃ (t8 t9 t10 : Option D) (rows : List (List Nat)) (c : Cell), σ = [some (.ref i), some (.p (.int n)), some (.p (.int m)), some (.ref (S.length + L.length)), some (.p (.int j)), some (.p (.tuple (o.map dI))), some (.p (.int ch)), some (.rows k n (List.range' (k + 1) n)), t8, t9, t10, none] ∧ S' = S.set i c ++ (L ++ (.lst (ts.map dTb) :: (J ++ nstS (pD rows) k))) ∧ Half2 n (AskO o a 0) rows ∧ PotAt (b + 600 * j + 20 + 16 * a) (S.set i c) i) (Q := fun p => ∃ (t8 t9 t10 : Option D) (rows : List (List Nat)) (c : Cell), p = (.nx, [some (.ref i), some (.p (.int n)), some (.p (.int m)), some (.ref (S.length + L.length)), some (.p (.int j)), some (.p (.tuple (o.map dI))), some (.p (.int ch)), some (.rows k n (List.range' (k + 1) n)), t8, t9, t10, none], S.set i c ++ (L ++ (.lst (ts.map dTb) :: (J ++ nstS (pD rows) k)))) ∧ Half2 n (AskO o o.length 0) rows ∧ PotAt (b + 600 * j + 20 + 16 * o.length) (S.set i c) i) ?_ (fun _ _ _ _ => stand_nil _) ?_ ?_).mono ?_)
    · have g : ∀ a, a < n → (List.replicate n ([] : List Nat))[a]! = [] := fun a ha => by
        rw [getElem!_pos _ a (by rw [List.length_replicate]; exact ha), List.getElem_replicate]
      refine ⟨_, _, _, List.replicate n [], c2, rfl, rfl, ⟨List.length_replicate, fun a ha => ?_, fun a b ha hb => ?_, fun a b ha hb h => ?_⟩, p2.mono (by omega)⟩
      · rw [g a ha]
        exact List.nodup_nil
      · rw [g a ha] at hb
        cases hb
      · have h1 : o.idxOf a ≠ o.idxOf b := fun z => h.1 (by
          have e1 := ho.at_idx (x := a) (by omega)
          have e2 := ho.at_idx (x := b) (by omega)
          simp only [z] at e1
          omega)
        have := h.2
        omega
    · rintro a σ S' ha ⟨t8, t9, t10, rows, c3, rfl, rfl, hH, hp3⟩
      have han : a < n := by omega
      have hct : cut (o.map dI) (some ((a : Int) + 1)) none = (o.drop (a + 1)).map dI := by
        rw [List.map_drop]
        exact cut_from (o.map dI) (a + 1) (by rw [List.length_map]; omega)
      wp_walk using hct
      refine ((for_map dI (fun q σ S' => ∃ (t10 : Option D) (rows : List (List Nat)) (c : Cell), σ = [some (.ref i), some (.p (.int n)), some (.p (.int m)), some (.ref (S.length + L.length)), some (.p (.int j)), some (.p (.tuple (o.map dI))), some (.p (.int ch)), some (.rows k n (List.range' (k + 1) n)), some (.p (.int a)), some (.p (.int o[a]!)), t10, none] ∧ S' = S.set i c ++ (L ++ (.lst (ts.map dTb) :: (J ++ nstS (pD rows) k))) ∧ Half2 n (AskO o a q) rows ∧ PotAt (b + 600 * j + 20 + 16 * a + q) (S.set i c) i) (Q := fun p => ∃ (t10 : Option D) (rows : List (List Nat)) (c : Cell), p = (.nx, [some (.ref i), some (.p (.int n)), some (.p (.int m)), some (.ref (S.length + L.length)), some (.p (.int j)), some (.p (.tuple (o.map dI))), some (.p (.int ch)), some (.rows k n (List.range' (k + 1) n)), some (.p (.int a)), some (.p (.int o[a]!)), t10, none], S.set i c ++ (L ++ (.lst (ts.map dTb) :: (J ++ nstS (pD rows) k)))) ∧ Half2 n (AskO o (a + 1) 0) rows ∧ PotAt (b + 600 * j + 20 + 16 * a + 16) (S.set i c) i) ?_ (fun _ _ _ _ => stand_nil _) ?_ ?_).mono ?_)
      · exact ⟨_, rows, c3, rfl, rfl, hH, hp3⟩
      · rintro q x σ S' hx ⟨t10, rows, c4, rfl, rfl, hH, hp4⟩
        obtain ⟨hq, hx⟩ := List.getElem?_eq_some_iff.mp hx
        rw [List.length_drop] at hq
        rw [List.getElem_drop] at hx
        have hxo : x = o[a + 1 + q]! := by rw [← hx, getElem!_pos o _ (by omega)]
        have hxn : x < n := by rw [hxo]; exact obang _ (by omega)
        have hkn := obang a han
        have hidx1 : o.idxOf o[a]! = a := by rw [getElem!_pos o a (by omega)]; exact ho.idx_at (by omega)
        have hidx2 : o.idxOf x = a + 1 + q := by rw [← hx]; exact ho.idx_at (by omega)
        have hne : o[a]! ≠ x := fun z => by rw [z] at hidx1; omega
        have hna : ¬ AskO o a q o[a]! x := fun z => by
          have := z.2
          rw [hidx1, hidx2] at this
          omega
        have hna2 : ¬ AskO o a q x o[a]! := fun z => by
          have := z.2
          rw [hidx1, hidx2] at this
          omega
        obtain ⟨v, c5, hv, p5, e5⟩ := take2_all (n := (ch : Int)) hp4 (by omega) (by omega) (by omega)
        simp only [List.set_set] at e5 p5
        have e5' := e5 (L ++ (.lst (ts.map dTb) :: (J ++ nstS (pD rows) k)))
        have hrl := hH.len
        have hlen : ∀ w, w < n → rows[w]!.length ≤ 16 := fun w hw => Nat.le_trans (nodup_len (hH.nd w hw) fun x hx => (hH.only w x hw hx).1) hn
        by_cases hv1 : (v : Int) = 1
        · have r1 := hrow c5 rows x hrl hxn
          have r2 := hget c5 rows x hrl hxn
          have r3 := hput c5 rows x o[a]! hrl hxn
          have r4 := hlen x hxn
          generalize hT : S.set i c5 ++ (L ++ (.lst (ts.map dTb) :: (J ++ nstS (pD rows) k))) = T at *
          wp_walk using au7, e5', hv1, r1, r2, r3
          refine ⟨_, _, c5, rfl, rfl, (hH.step hxn hkn (fun z => hne z.symm) hna2 hna).congr fun u w hu hw => ?_, p5.mono (by omega)⟩
          rw [AskO.more ho (by omega) (by omega) (by omega), ← hxo]
          exact or_congr Iff.rfl or_comm
        · have r1 := hrow c5 rows o[a]! hrl hkn
          have r2 := hget c5 rows o[a]! hrl hkn
          have r3 := hput c5 rows o[a]! x hrl hkn
          have r4 := hlen o[a]! hkn
          generalize hT : S.set i c5 ++ (L ++ (.lst (ts.map dTb) :: (J ++ nstS (pD rows) k))) = T at *
          wp_walk using au7, e5', hv1, r1, r2, r3
          refine ⟨_, _, c5, rfl, rfl, (hH.step hkn hxn hne hna hna2).congr fun u w hu hw => ?_, p5.mono (by omega)⟩
          rw [AskO.more ho (by omega) (by omega) (by omega), ← hxo]
      · rintro σ S' ⟨t10, rows, c4, rfl, rfl, hH, hp4⟩
        rw [List.length_drop] at hH hp4
        refine ⟨t10, rows, c4, rfl, hH.congr fun u w hu hw => ?_, hp4.mono (by omega)⟩
        exact AskO.next ho (by omega) (by omega)
      · rintro p ⟨t10, rows, c4, rfl, hH, hp4⟩
        exact ⟨.inl rfl, _, _, _, rows, c4, rfl, rfl, hH, hp4.mono (by omega)⟩
    · rintro σ S' ⟨t8, t9, t10, rows, c3, rfl, rfl, hH, hp3⟩
      exact ⟨_, _, _, rows, c3, rfl, hH, hp3⟩
    · rintro p ⟨t8, t9, t10, rows, c3, rfl, hH, hp3⟩
      have hrl := hH.len
      have hpl : (pD rows).length = n := by rw [pD, List.length_map, hrl]
      have hrk := rows_ok (S.set i c3 ++ (L ++ (.lst (ts.map dTb) :: J))) (pD rows)
      rw [hAl, hpl] at hrk
      simp only [List.append_assoc, List.cons_append] at hrk
      have hlit : (pD rows).map PyData.list = rows.map fun r => PyData.list (r.map dI) := by
        unfold pD
        rw [List.map_map]
        rfl
      rw [hlit] at hrk
      have hst : stand [(k, Cell.nst n (List.range' (k + 1) n))] (S.set i c3 ++ (L ++ (.lst (ts.map dTb) :: (J ++ nstF (pD rows) k)))) = true := by
        have := standF (S.set i c3 ++ (L ++ (.lst (ts.map dTb) :: J))) (pD rows) []
        rw [hAl, hpl, List.append_nil] at this
        simpa only [List.append_assoc, List.cons_append] using this
      have htt2 := hH.done (fun a b ha hb hab => ⟨hab, by
        have h1 := ho.idx_lt (x := a) (by omega)
        omega⟩)
      wp_walk using au7, hrk
      rw [comp_val (fun r : List Nat => PyData.list (r.map dI)) (fun r => PyData.tuple ((sortN r).map dI)) hst]
      · wp_walk using au7
        refine ⟨_, _, _, _, _, _, _, ts ++ [rows.map sortN], c3, J ++ nstF (pD rows) k, rfl, ?_, by simp [htl], fun t ht => ?_, hp3.mono (by omega)⟩
        · rw [List.map_append, List.map_cons, List.map_nil]
          unfold dTb
          rw [List.map_map]
          rfl
        · rcases List.mem_append.mp ht with ht | ht
          · exact htt t ht
          · rw [List.mem_singleton.mp ht]
            exact htt2
      · intro r hr acc
        have e := pSorted_nl r
        wp_walk using e
  · rintro σ S' ⟨t4, t5, t6, t7, t8, t9, t10, ts, c, J, rfl, rfl, htl, htt, hp⟩
    exact ⟨_, _, _, _, _, _, _, ts, c, J, rfl, htl, htt, hp⟩
  · rintro p ⟨t4, t5, t6, t7, t8, t9, t10, ts, c, J, rfl, htl, htt, hp⟩
    wp_walk using hi
    exact ⟨ts, c, htl, htt, hp, rfl⟩
theorem plain_os (os : List (List Nat)) : (PyData.tuple (os.map dT)).plain = true := by
  rw [PyData.plain]
  exact plainAll_of fun x hx => by
    obtain ⟨b, _, rfl⟩ := List.mem_map.mp hx
    exact (fl_dT b).1
theorem isTuple_os (os : List (List Nat)) : pIsa "tuple" (.tuple (os.map dT)) = .ok (.bool true) := by
  unfold pIsa
  rw [plain_os]
  rfl
theorem someKeys_ok {ts : List (List (List Nat))} {n : Nat} (ht : ∀ t ∈ ts, IsTable n t) (h0 : 0 < ts.length) (hn : n ≤ 100) {o : List Nat} (ho : ∀ x ∈ o, x < n) (hol : o.length ≤ 100) (S : Store) : f_are_some_keys [.p (.tuple (ts.map dTb)), .p (.tuple (o.map dI))] S = .ok (.p (.bool true), S) := by
  have hm : ts[0]! ∈ ts := by rw [getElem!_pos ts 0 h0]; exact List.getElem_mem _
  have hl := (ht _ hm).len
  have e0 := atR h0
  have q4 : pIsa "tuple" (.tuple (o.map dI)) = .ok (.bool true) := isTuple_dT o
  refine fn_rn rfl ?_
  unfold b_are_some_keys
  wp_walk using q4, hol
  rw [comp_val dI (fun _ => .bool true) (stand_nil _)]
  · have q := pAll_true (α := Nat) o
    wp_walk using q
  · intro x hx acc
    have hxn := ho x hx
    have e : fIsInteger [.p (.int x), .p (.int 0), .p (.int ((n : Int) - 1))] (S ++ [.lst acc]) = .ok (.p (.bool true), S ++ [.lst acc]) := isInteger_ok (v := x) (by omega) (by omega) _
    wp_walk using e0, hl, e
theorem dRule_eq (T : List (List (List Nat))) : dRule T = .tuple (T.map dTb) := rfl
theorem dd_nat {h : List Nat} (hn : h.Nodup) : (dd (h.map fun k : Nat => (k : Int))).length = h.length := by
  have := dd_len (xs := h.map fun k : Nat => (k : Int)) (ys := h.map fun k : Nat => (k : Int)) (by
    rw [List.nodup_iff_pairwise_ne, List.pairwise_map]
    rw [List.nodup_iff_pairwise_ne] at hn
    exact hn.imp fun h => by omega) fun x => Iff.rfl
  rw [← this, List.length_map]
noncomputable def setLenK (x : D) (S1 : Store) : Mi.R (D × Store) := bx (dv S1 x) fun u => match u with
  | .tuple xs => bx (orNo (ints? xs)) fun ns => when_ (decide (ns.length ≤ 1000)) (.ok (.p (.int (dd ns).length), S1))
  | _ => .no
theorem au_SetLen (a : Ex) (σ : Env) (S : Store) : mSetLen a σ S = bd (a σ S) setLenK := rfl
theorem au_SetLenD (i : Nat) (a : Ex) (σ : Env) (S : Store) : mSetLenD i a σ S = when_ (decide (i < σ.length)) (bd (a σ S) setLenK) := rfl
theorem au_setLenK {h : List Nat} (hn : h.Nodup) (hl : h.length ≤ 1000) (S : Store) : setLenK (.p (.tuple (h.map dI))) S = .ok (.p (.int h.length), S) := by
  show bx (orNo (ints? (h.map dI))) _ = _
  rw [dT_ints, bx_of (show orNo (some _) = .ok _ from rfl), when_of (decide_eq_true (by rw [List.length_map]; exact hl)), dd_nat hn]
theorem isHistory_ok {ts : List (List (List Nat))} {m : Nat} (ht : ∀ t ∈ ts, IsTable m t) (h0 : 0 < ts.length) (hm : m ≤ 100) {h : List Nat} (hnd : h.Nodup) (hk : ∀ k ∈ h, k < m) (hl : h.length ≤ ts.length) (hl2 : ts.length ≤ 100) (S : Store) : f_is_history [.p (.tuple (ts.map dTb)), .p (.tuple (h.map dI))] S = .ok (.p (.bool true), S) := by
  have e1 := someKeys_ok ht h0 hm hk (by omega) S
  have e2 := au_setLenK hnd (by omega) S
  have hng : ¬ ((h.length : Int) > ts.length) := by omega
  have z1 : pGt (.int (h.length : Nat)) (.int (ts.length : Nat)) = .ok (.bool false) := by
    show Mi.R.ok (PyData.bool (decide _)) = _
    rw [decide_eq_false hng]
  have z2 : pEq (.int (h.length : Nat)) (.int (h.length : Nat)) = .ok (.bool true) := pEq_self (fl_dI _)
  refine fn_rn rfl ?_
  unfold b_is_history
  wp_walk using e1, au_SetLenD, e2, z1, z2
theorem sort_perm {a b : List Nat} (h : a.Perm b) (hn : a.Nodup) : sortN a = sortN b := by
  have h1 := sortN_sorted b
  have h2 : (sortN b).Nodup := (sortN_perm _).nodup_iff.mpr (h.nodup_iff.mp hn)
  rw [List.nodup_iff_pairwise_ne] at h2
  exact sort_eq hn ((h1.and h2).imp fun ⟨u, v⟩ => by omega) fun x => by rw [sortN_mem, h.mem_iff]
theorem showsUnlike_ok {n m : Nat} {P : List (List Nat)} {T : List (List (List Nat))} (hP : Probes n P) (hm : P.length = m) (hT : Tabs n m T) (ht : ∀ t ∈ T, IsTable m t) (hn : n ≤ 16) (hn0 : 0 < n) (hm16 : m ≤ 16) {h g : List Nat} (hnd : h.Nodup) (hk : ∀ k ∈ h, k < m) (hl : h.length ≤ n) (hp : g.Perm h) (S : Store) :
    f_shows_unlike [.p (.tuple (P.map dT)), .p (.tuple (T.map dTb)), .p (.tuple [.tuple (h.map dI), .tuple (g.map dI)])] S = .ok (.p (.bool (!decide (rowOfH P T n h = rowOfH P T n g))), S) := by
  have hgd : g.Nodup := hp.nodup_iff.mpr hnd
  have hgk : ∀ k ∈ g, k < m := fun k hk' => hk k (hp.mem_iff.mp hk')
  have hgl : g.length ≤ n := by rw [hp.length_eq]; exact hl
  have hTl := hT.len
  have e1 := layout_of_ok hP hm hT (by omega) hn0 hnd hk hl S
  have e2 := layout_of_ok hP hm hT (by omega) hn0 hgd hgk hgl S
  rw [dRule_eq] at e1 e2
  have q1 : pIsa "tuple" (.tuple [.tuple (h.map dI), .tuple (g.map dI)]) = .ok (.bool true) := isTuple_os [h, g]
  have q2 : pNe (.int 2) (.int 2) = .ok (.bool false) := rfl
  have q3 : pSorted (.tuple (h.map dI)) = .ok (.list ((sortN h).map dI)) := pSorted_t h
  have q4 : pSorted (.tuple (g.map dI)) = .ok (.list ((sortN h).map dI)) := by rw [← sort_perm hp hgd]; exact pSorted_t g
  have q5 : pEq (.list ((sortN h).map dI)) (.list ((sortN h).map dI)) = .ok (.bool true) := pEq_self (fl_dL _)
  have q6 := pNe_rows (rowOfH P T n h) (rowOfH P T n g)
  refine fn_rn rfl ?_
  unfold b_shows_unlike
  wp_walk using q1, q2
  rw [show [PyData.tuple (h.map dI), PyData.tuple (g.map dI)] = [h, g].map (fun o => PyData.tuple (o.map dI)) from rfl, comp_val (fun o : List Nat => PyData.tuple (o.map dI)) (fun _ => .bool true) (stand_nil _)]
  · have q := pAll_true (α := List Nat) [h, g]
    simp only [List.map_cons, List.map_nil] at q
    wp_walk using q, q3, q4, q5, e1, e2, q6
  · intro o ho acc
    have e3 : f_is_history [.p (.tuple (T.map dTb)), .p (.tuple (o.map dI))] (S ++ [.lst acc]) = .ok (.p (.bool true), S ++ [.lst acc]) := by
      simp only [List.mem_cons, List.not_mem_nil, or_false] at ho
      rcases ho with rfl | rfl
      · exact isHistory_ok ht (by omega) (by omega) hnd hk (by omega) (by omega) _
      · exact isHistory_ok ht (by omega) (by omega) hgd hgk (by omega) (by omega) _
    wp_walk using e3
end Mi
end
section
namespace Mi
open PySem Mi Mi.L 
local macro_rules | `(tactic| wp_walk using $[$ts:term],*) => `(tactic| simp (disch := first | with_reducible assumption | omega | (simp only [List.length_set, List.length_append, List.length_cons, List.length_nil, List.length_map, List.length_range, List.length_replicate, Line]; omega) | (simp only [List.length_set, List.length_append, List.length_cons, List.length_nil, List.length_map, List.length_range, List.length_replicate]; done) | fail) only [au0, au1, au2, au3, au4, au5, au6, List.getElem?_map, dI, dT, List.getElem?_cons_zero, List.getElem?_cons_succ, List.set_cons_zero, List.set_cons_succ, List.map_cons, List.map_nil, List.length_cons, List.length_nil, List.cons_append, List.nil_append, List.append_nil, List.append_assoc, List.reduceReplicate, List.length_set, List.set_set, List.length_append, List.length_map, List.length_range, List.length_replicate, decide_true, decide_false, decide_eq_true_eq, Bool.not_eq_true', decide_eq_false_iff_not, Bool.true_and, Bool.false_and, Bool.not_true, Bool.not_false, Bool.false_eq_true, if_true, if_false, Int.toNat_natCast, Int.reduceToNat, Int.reducePow, Int.reduceMul, Int.reduceAdd, Int.reduceSub, Int.reduceNeg, Int.reduceLT, Int.reduceLE, Nat.sub_self, Nat.add_sub_cancel_left, Nat.reduceAdd, Nat.reduceSub, Nat.reduceLT, Nat.reduceLeDiff, Int.cast_ofNat_Int, true_or, or_true, true_and, and_true, $[$ts:term],*])
theorem oI_inj : ∀ {u v : Row}, u.map oI = v.map oI → u = v
  | [], [], _ => rfl
  | [], _ :: _, h => by cases h
  | _ :: _, [], h => by cases h
  | x :: u, y :: v, h => by
    rw [List.map_cons, List.map_cons, List.cons.injEq] at h
    obtain ⟨h1, h2⟩ := h
    rw [oI_inj h2]
    have : x = y := by
      cases x with
      | none => cases y with
        | none => rfl
        | some b => have h1 : (-1 : Int) = (b : Int) := h1; omega
      | some a => cases y with
        | none => have h1 : (a : Int) = -1 := h1; omega
        | some b => have h1 : (a : Int) = (b : Int) := h1; rw [show a = b by omega]
    rw [this]
def metF (rows : List Row) : Tv := rows.foldl (fun acc r => putT acc (r.map oI) (.bool true)) []
theorem metF_snoc (rows : List Row) (r : Row) : metF (rows ++ [r]) = putT (metF rows) (r.map oI) (.bool true) := by
  unfold metF
  rw [List.foldl_append]
  rfl
theorem put_keysT (zs : List Int) (d : PyData) (xs : Tv) : (putT xs zs d).map (·.1) = if zs ∈ xs.map (·.1) then xs.map (·.1) else xs.map (·.1) ++ [zs] := by
  unfold putT
  have key : ∀ xs : Tv, (xs.map fun x => if x.1 = zs then (x.1, d) else x).map (·.1) = xs.map (·.1) := by
    intro xs
    induction xs with
    | nil => rfl
    | cons x xs ih =>
      rw [List.map_cons, List.map_cons, List.map_cons, ih]
      split <;> rfl
  split
  · exact key xs
  · rw [List.map_append]; rfl
theorem metF_keys : ∀ rows : List Row, ((metF rows).map (·.1)).Nodup ∧ ∀ k, k ∈ (metF rows).map (·.1) ↔ ∃ r ∈ rows, r.map oI = k := by
  suffices h : ∀ (rows : List Row) (acc : Tv) (done : List Row), (acc.map (·.1)).Nodup → (∀ k, k ∈ acc.map (·.1) ↔ ∃ r ∈ done, r.map oI = k) →
      ((rows.foldl (fun acc r => putT acc (r.map oI) (.bool true)) acc).map (·.1)).Nodup ∧ ∀ k, k ∈ (rows.foldl (fun acc r => putT acc (r.map oI) (.bool true)) acc).map (·.1) ↔ ∃ r ∈ done ++ rows, r.map oI = k by
    intro rows
    exact h rows [] [] (by simp) (by simp)
  intro rows
  induction rows with
  | nil => intro acc done h1 h2; rw [List.append_nil]; exact ⟨h1, h2⟩
  | cons r rows ih =>
    intro acc done h1 h2
    rw [List.foldl_cons]
    have hk := put_keysT (r.map oI) (.bool true) acc
    have := ih (putT acc (r.map oI) (.bool true)) (done ++ [r]) (by
      rw [hk]
      split
      · exact h1
      · rename_i hn
        exact List.nodup_append.mpr ⟨h1, by simp, fun x hx y hy e => hn (by rw [← List.mem_singleton.mp hy, ← e]; exact hx)⟩) (fun k => by
      rw [hk]
      split
      · rename_i hin
        rw [h2]
        constructor
        · rintro ⟨q, hq, e⟩
          exact ⟨q, by simp [hq], e⟩
        · rintro ⟨q, hq, e⟩
          rcases List.mem_append.mp hq with hq | hq
          · exact ⟨q, hq, e⟩
          · rw [List.mem_singleton.mp hq] at e
            rw [← e]
            exact (h2 _).mp hin
      · rw [List.mem_append, h2, List.mem_singleton]
        constructor
        · rintro (⟨q, hq, e⟩ | e)
          · exact ⟨q, by simp [hq], e⟩
          · exact ⟨r, by simp, e.symm⟩
        · rintro ⟨q, hq, e⟩
          rcases List.mem_append.mp hq with hq | hq
          · exact .inl ⟨q, hq, e⟩
          · rw [List.mem_singleton.mp hq] at e
            exact .inr e.symm)
    rw [List.append_assoc] at this
    exact this
theorem metF_one {rows : List Row} {r : Row} (hne : rows ≠ []) (h : ∀ q ∈ rows, q = r) : (metF rows).map (·.1) = [r.map oI] := by
  obtain ⟨h1, h2⟩ := metF_keys rows
  have hm : ∀ k ∈ (metF rows).map (·.1), k = r.map oI := fun k hk => by
    obtain ⟨q, hq, e⟩ := (h2 k).mp hk
    rw [← e, h q hq]
  obtain ⟨q, hq⟩ := List.exists_mem_of_ne_nil rows hne
  have hin : r.map oI ∈ (metF rows).map (·.1) := (h2 _).mpr ⟨q, hq, by rw [h q hq]⟩
  generalize (metF rows).map (·.1) = L at *
  cases L with
  | nil => cases hin
  | cons x L =>
    cases L with
    | nil => rw [hm x (by simp)]
    | cons y L =>
      have e1 := hm x (by simp)
      have e2 := hm y (by simp)
      rw [e1, e2] at h1
      simp at h1
theorem metF_two {rows : List Row} {r q : Row} (hr : r ∈ rows) (hq : q ∈ rows) (hne : r ≠ q) : 1 < (metF rows).length := by
  obtain ⟨h1, h2⟩ := metF_keys rows
  have a := (h2 _).mpr ⟨r, hr, rfl⟩
  have b := (h2 _).mpr ⟨q, hq, rfl⟩
  rw [← List.length_map (f := (·.1))]
  generalize (metF rows).map (·.1) = L at *
  cases L with
  | nil => cases a
  | cons x L =>
    cases L with
    | nil =>
      rw [List.mem_singleton] at a b
      exact absurd (oI_inj (a.trans b.symm)) hne
    | cons y L => simp
theorem metF_le : ∀ rows : List Row, (metF rows).length ≤ rows.length := by
  intro rows
  obtain ⟨h1, h2⟩ := metF_keys rows
  rw [← List.length_map (f := (·.1)), ← List.length_map (as := rows) (f := fun r : Row => r.map oI)]
  exact nodup_sub_len h1 fun k hk => by
    obtain ⟨r, hr, e⟩ := (h2 k).mp hk
    exact List.mem_map.mpr ⟨r, hr, e⟩
section
variable {n m : Nat} {P : List (List Nat)} {T : List (List (List Nat))}
theorem met_uniq {ks : List Nat} (hnd : ks.Nodup) : (1 < (metF ((hists ks ks.length).map (rowOfH P T n))).length) ↔ ¬ Uniq P T n ks := by
  constructor
  · intro h hu
    have := metF_one (rows := (hists ks ks.length).map (rowOfH P T n)) (r := rowOfH P T n ks.reverse) (fun e => by rw [e] at h; simp [metF] at h) (fun q hq => by
      obtain ⟨l, hl, rfl⟩ := List.mem_map.mp hq
      exact hu l ((mem_hists_perm hnd).mp hl))
    have := congrArg List.length this
    rw [List.length_map] at this
    rw [this] at h
    simp at h
  · intro h
    apply Classical.byContradiction
    intro hn
    refine h fun l hl => ?_
    apply Classical.byContradiction
    intro hne
    exact hn (metF_two (List.mem_map.mpr ⟨l, (mem_hists_perm hnd).mpr hl, rfl⟩) (List.mem_map.mpr ⟨ks.reverse, (mem_hists_perm hnd).mpr (List.reverse_perm ks), rfl⟩) hne)
theorem bang_tab (hT : ∀ t ∈ T, IsTable m t) (htl : T.length = n) : ∀ s, s < n → IsTable m T[s]! := fun s hs => hT _ (get_mem (by omega))
theorem tabs_of (hT : ∀ t ∈ T, IsTable m t) (htl : T.length = n) : Tabs n m T := ⟨htl, fun s hs => (bang_tab hT htl s hs).len⟩
theorem upto_sorted (m : Nat) : ∀ j, (upto m j).Pairwise fun a b => a.length ≤ b.length
  | 0 => by simp [upto]
  | j + 1 => by
    rw [upto_succ, List.pairwise_append]
    refine ⟨upto_sorted m j, List.pairwise_iff_getElem.mpr fun i k hi hk _ => ?_, fun a ha b hb => ?_⟩
    · rw [(mem_subs.mp (List.getElem_mem hi)).1, (mem_subs.mp (List.getElem_mem hk)).1]
      exact Nat.le_refl _
    · have := (mem_upto.mp ha).2.1
      rw [(mem_subs.mp hb).1]
      omega
theorem grps_sorted (m j : Nat) : ([] :: upto m j).Pairwise fun a b => a.length ≤ b.length :=
  List.pairwise_cons.mpr ⟨fun _ _ => Nat.zero_le _, upto_sorted m j⟩
theorem met_in (hP : Probes n P) (hm : P.length = m) (hT : ∀ t ∈ T, IsTable m t) (htl : T.length = n) (hn : n ≤ 90) (hn0 : 0 < n) {ks : List Nat} (hnd : ks.Nodup) (hk : ∀ k ∈ ks, k < m) (hl : ks.length ≤ n) (h5 : ks.length ≤ 5) (t4 : Option D) (S : Store) :
    Rn (forL (gN 4) [] (sSetTv (mV 3) (mCall Mi.L.f_l_laid2 (aCons (mV 0) (aCons (mV 1) (aCons (mV 4) aNil)))) (mC (.bool true))) ((hists ks ks.length).map dT)
      [some (.p (.tuple (P.map dT))), some (.p (.tuple (T.map dTb))), some (.p (.tuple (ks.map dI))), some (.ref S.length), t4] (S ++ [.tdv true []]))
      fun q => q.1 = .nx ∧ ∃ t4, q.2 = ([some (.p (.tuple (P.map dT))), some (.p (.tuple (T.map dTb))), some (.p (.tuple (ks.map dI))), some (.ref S.length), t4], S ++ [.tdv true (metF ((hists ks ks.length).map (rowOfH P T n)))]) := by
  refine for_map dT (fun j σ S' => ∃ t4 : Option D, σ = [some (.p (.tuple (P.map dT))), some (.p (.tuple (T.map dTb))), some (.p (.tuple (ks.map dI))), some (.ref S.length), t4] ∧ S' = S ++ [.tdv true (metF (((hists ks ks.length).take j).map (rowOfH P T n)))])
    ⟨t4, rfl, rfl⟩ (fun _ _ _ _ => stand_nil _) ?_ ?_
  · rintro j h σ S' hj ⟨t4, rfl, rfl⟩
    obtain ⟨hj1, hx⟩ := List.getElem?_eq_some_iff.mp hj
    have hp := (mem_hists_perm hnd).mp (hx ▸ List.getElem_mem hj1)
    have e := laid2_ok hP hm (tabs_of hT htl) (bang_tab hT htl) hn hn0 (hp.nodup_iff.mpr hnd) (fun k hk' => hk k (hp.mem_iff.mp hk')) (by rw [hp.length_eq]; exact hl) (S ++ [.tdv true (metF (((hists ks ks.length).take j).map (rowOfH P T n)))])
    have hml := metF_le (((hists ks ks.length).take j).map (rowOfH P T n))
    have hcap := hists_cap h5 ks.length
    have h55 : 5 ^ ks.length ≤ 5 ^ 5 := Nat.pow_le_pow_right (by omega) h5
    have hmb : (metF (((hists ks ks.length).take j).map (rowOfH P T n))).length ≤ 3125 := by
      rw [List.length_map, List.length_take] at hml
      omega
    have htk : (hists ks ks.length).take (j + 1) = (hists ks ks.length).take j ++ [h] := by rw [List.take_succ, hj]; rfl
    rw [htk, List.map_append]
    have hsn := metF_snoc (((hists ks ks.length).take j).map (rowOfH P T n)) (rowOfH P T n h)
    wp_walk using e, auT, hmb
    exact ⟨_, rfl, by rw [← hsn]⟩
  · rintro σ S' ⟨t4, rfl, rfl⟩
    rw [List.take_length]
    exact ⟨rfl, _, rfl⟩
theorem least_ok (hP : Probes n P) (hm : P.length = m) (hT : ∀ t ∈ T, IsTable m t) (htl : T.length = n) (hn : n ≤ 90) (hn0 : 0 < n) (h5 : min m n ≤ 5) (hm8 : m ≤ 8) (S : Store) :
    ∃ k : Nat, f_l_least_unlike [.p (.tuple (P.map dT)), .p (.tuple (T.map dTb))] S = .ok (.p (.int k), S) ∧ ((k = 0 ∧ ∀ ks ∈ upto m (min m n), Uniq P T n ks) ∨ (∃ ks ∈ upto m (min m n), k = ks.length ∧ ¬ Uniq P T n ks ∧ ∀ ls, ls.length < ks.length → Asc ls → (∀ x ∈ ls, x < m) → Uniq P T n ls)) := by
  suffices Rn (f_l_least_unlike [.p (.tuple (P.map dT)), .p (.tuple (T.map dTb))] S) fun q => ∃ k : Nat, q = (.p (.int k), S) ∧ ((k = 0 ∧ ∀ ks ∈ upto m (min m n), Uniq P T n ks) ∨ (∃ ks ∈ upto m (min m n), k = ks.length ∧ ¬ Uniq P T n ks ∧ ∀ ls, ls.length < ks.length → Asc ls → (∀ x ∈ ls, x < m) → Uniq P T n ls)) by
    obtain ⟨q, e, k, rfl, h⟩ := this.ex
    exact ⟨k, e, h⟩
  refine fn_rnQ rfl ?_
  unfold b_l_least_unlike
  have hg := groups_ok (m := m) (n := n) hm8 (by omega) S
  wp_walk using hm, htl, hg
  have hcons : dT [] :: (upto m (min m n)).map dT = ([] :: upto m (min m n)).map dT := rfl
  rw [show PyData.tuple [] = dT [] from rfl, hcons]
  refine Rn.bs ((for_ret dT (fun j σ S' => (∃ t2 t3 t4, σ = [some (.p (.tuple (P.map dT))), some (.p (.tuple (T.map dTb))), t2, t3, t4]) ∧ (∃ E, S' = S ++ E) ∧ ∀ ls ∈ ([] :: upto m (min m n)).take j, Uniq P T n ls)
    (fun q => (∃ E, q.2.2 = S ++ E) ∧ ∃ ks ∈ upto m (min m n), q.1 = .rt (.p (.int (ks.length : Nat))) ∧ ¬ Uniq P T n ks ∧ ∀ ls, ls.length < ks.length → Asc ls → (∀ x ∈ ls, x < m) → Uniq P T n ls) ([] :: upto m (min m n)) 0 _ _ ⟨⟨_, _, _, rfl⟩, ⟨[], by simp⟩, by simp⟩ ?_).mono ?_)
  · rintro j ks σ S' hj ⟨⟨t2, t3, t4, rfl⟩, ⟨E, rfl⟩, h3⟩
    rw [Nat.zero_add] at h3 ⊢
    obtain ⟨hj1, hx⟩ := List.getElem?_eq_some_iff.mp hj
    have hmem : ks ∈ [] :: upto m (min m n) := hx ▸ List.getElem_mem hj1
    have hks : ks.Nodup ∧ (∀ k ∈ ks, k < m) ∧ ks.length ≤ min m n ∧ Asc ks := by
      rcases List.mem_cons.mp hmem with rfl | h
      · exact ⟨by simp, by simp, Nat.zero_le _, List.Pairwise.nil⟩
      · obtain ⟨_, h2, h3, h4⟩ := mem_upto.mp h
        exact ⟨h3.nodup, h4, h2, h3⟩
    have hh := histories_ok (ks := ks) (by omega) (S ++ (E ++ [.tdv true []]))
    have hin := met_in hP hm hT htl hn hn0 hks.1 hks.2.1 (by omega) (by omega) (t4 := t4) (S ++ E)
    rw [List.append_assoc, List.length_append] at hin
    have hu := met_uniq (P := P) (T := T) (n := n) hks.1
    wp_walk using hh, auT, htl
    refine Rn.bs (hin.mono ?_)
    rintro ⟨fl, σ, S'⟩ ⟨g1, t4, g2⟩
    have g1 : fl = .nx := g1
    have g2a : σ = _ := congrArg Prod.fst g2
    have g2b : S' = _ := congrArg Prod.snd g2
    subst g1 g2a g2b
    have htk : ([] :: upto m (min m n)).take (j + 1) = ([] :: upto m (min m n)).take j ++ [ks] := by rw [List.take_succ, hj]; rfl
    have hkl : ks.length ≤ 5 := by omega
    by_cases hgt : 1 < (metF ((hists ks ks.length).map (rowOfH P T n))).length
    · have hgt2 : (1 : Int) < ((metF ((hists ks ks.length).map (rowOfH P T n))).length : Nat) := by omega
      wp_walk using auT, hgt2, hkl
      refine .inr ⟨_, rfl, ⟨_, rfl⟩, ks, ?_, rfl, hu.mp hgt, fun ls hls ha hlt => ?_⟩
      · rcases List.mem_cons.mp hmem with rfl | h
        · exact absurd uniq_nil (hu.mp hgt)
        · exact h
      · -- a lesser set came before
        apply Classical.byContradiction
        intro hnu
        have hlm : ls ∈ [] :: upto m (min m n) := by
          by_cases h0 : ls = []
          · rw [h0]; simp
          · exact List.mem_cons_of_mem _ (mem_upto.mpr ⟨h0, by omega, ha, hlt⟩)
        have hbef : ls ∈ ([] :: upto m (min m n)).take j := by
          obtain ⟨i, hi, e⟩ := List.mem_iff_getElem.mp hlm
          have hij : i < j := by
            apply Classical.byContradiction
            intro hge
            rcases Nat.lt_or_eq_of_le (Nat.le_of_not_lt hge) with hlt2 | he
            · have := List.pairwise_iff_getElem.mp (grps_sorted m (min m n)) j i hj1 hi hlt2
              rw [e, hx] at this
              omega
            · subst he
              rw [hx] at e
              rw [e] at hls
              omega
          exact List.mem_iff_getElem.mpr ⟨i, by rw [List.length_take]; omega, by rw [List.getElem_take]; exact e⟩
        exact hnu (h3 ls hbef)
    · have hgt2 : ¬ (1 : Int) < ((metF ((hists ks ks.length).map (rowOfH P T n))).length : Nat) := by omega
      wp_walk using auT, hgt2
      refine .inl ⟨⟨_, _, _, rfl⟩, ⟨_, rfl⟩, fun ls hl => ?_⟩
      rw [htk] at hl
      rcases List.mem_append.mp hl with hl | hl
      · exact h3 ls hl
      · rw [List.mem_singleton.mp hl]
        exact Classical.byContradiction fun z => hgt (hu.mpr z)
  · rintro ⟨fl, σ, S'⟩ h
    rcases h with ⟨e1, ⟨t2, t3, t4, e2⟩, ⟨E, e3⟩, e4⟩ | ⟨d, e1, ⟨E, e2⟩, ks, e3, e4, e5⟩
    · have e1 : fl = .nx := e1
      have e2 : σ = _ := e2
      have e3 : S' = _ := e3
      subst e1 e2 e3
      rw [Nat.zero_add, List.take_length] at e4
      wp_walk using auT
      exact ⟨0, rfl, .inl ⟨rfl, fun ks hk => e4 ks (List.mem_cons_of_mem _ hk)⟩⟩
    · have e2 : S' = _ := e2
      have e4 : fl = _ := e4
      subst e2 e4
      wp_walk using auT
      exact ⟨_, rfl, .inr ⟨ks, e3, rfl, e5⟩⟩
end
end Mi
end
section
namespace Mi
open PySem Mi Mi.L 
local macro_rules | `(tactic| wp_walk using $[$ts:term],*) => `(tactic| simp (disch := first | with_reducible assumption | omega | (simp only [List.length_set, List.length_append, List.length_cons, List.length_nil, List.length_map, List.length_range, List.length_replicate, Line]; omega) | (simp only [List.length_set, List.length_append, List.length_cons, List.length_nil, List.length_map, List.length_range, List.length_replicate]; done) | fail) only [au0, au1, au2, au3, au4, au5, au6, List.getElem?_map, dI, dT, List.getElem?_cons_zero, List.getElem?_cons_succ, List.set_cons_zero, List.set_cons_succ, List.map_cons, List.map_nil, List.length_cons, List.length_nil, List.cons_append, List.nil_append, List.append_nil, List.append_assoc, List.reduceReplicate, List.length_set, List.set_set, List.length_append, List.length_map, List.length_range, List.length_replicate, decide_true, decide_false, decide_eq_true_eq, Bool.not_eq_true', decide_eq_false_iff_not, Bool.true_and, Bool.false_and, Bool.not_true, Bool.not_false, Bool.false_eq_true, if_true, if_false, Int.toNat_natCast, Int.reduceToNat, Int.reducePow, Int.reduceMul, Int.reduceAdd, Int.reduceSub, Int.reduceNeg, Int.reduceLT, Int.reduceLE, Nat.sub_self, Nat.add_sub_cancel_left, Nat.reduceAdd, Nat.reduceSub, Nat.reduceLT, Nat.reduceLeDiff, Int.cast_ofNat_Int, true_or, or_true, true_and, and_true, $[$ts:term],*])
theorem fl_s (s : Str) : Fl1 (.str s) := ⟨rfl, by rw [PyData.depth]; omega⟩
end Mi
end
section
namespace Mi.K14Px
open PySem Mi Mi.L K14
local macro_rules | `(tactic| wp_walk using $[$ts:term],*) => `(tactic| simp (disch := first | with_reducible assumption | omega | (simp only [List.length_set, List.length_append, List.length_cons, List.length_nil, List.length_map, List.length_range, List.length_replicate, Line]; omega) | (simp only [List.length_set, List.length_append, List.length_cons, List.length_nil, List.length_map, List.length_range, List.length_replicate]; done) | fail) only [au0, au1, au2, au3, au4, au5, au6, List.getElem?_map, dI, dT, List.getElem?_cons_zero, List.getElem?_cons_succ, List.set_cons_zero, List.set_cons_succ, List.map_cons, List.map_nil, List.length_cons, List.length_nil, List.cons_append, List.nil_append, List.append_nil, List.append_assoc, List.reduceReplicate, List.length_set, List.set_set, List.length_append, List.length_map, List.length_range, List.length_replicate, decide_true, decide_false, decide_eq_true_eq, Bool.not_eq_true', decide_eq_false_iff_not, Bool.true_and, Bool.false_and, Bool.not_true, Bool.not_false, Bool.false_eq_true, if_true, if_false, Int.toNat_natCast, Int.reduceToNat, Int.reducePow, Int.reduceMul, Int.reduceAdd, Int.reduceSub, Int.reduceNeg, Int.reduceLT, Int.reduceLE, Nat.sub_self, Nat.add_sub_cancel_left, Nat.reduceAdd, Nat.reduceSub, Nat.reduceLT, Nat.reduceLeDiff, Int.cast_ofNat_Int, true_or, or_true, true_and, and_true, $[$ts:term],*])
theorem way_mem {x : PyData} (h : x ∈ [PyData.int (1 : Nat), .int (1 : Nat), .int (1 : Nat), .int (0 : Nat), .int (2 : Nat)]) : ∃ k : Nat, x = .int k ∧ k < 3 := by
  simp only [List.mem_cons, List.not_mem_nil, or_false] at h
  rcases h with rfl | rfl | rfl | rfl | rfl <;> exact ⟨_, rfl, by decide⟩
variable {n m : Nat} {P : List (List Nat)} {T : List (List (List Nat))}
noncomputable def restK : Sm := sSeq (sPar [5, 6, 7] (aCons (mO1 pRepr (mTup (aCons (mV 3) (aCons (mV 4) aNil)))) (aCons (mCall Mi.L.f_unlike (aCons (mV 3) (aCons (mV 4) aNil))) (aCons (mCall Mi.L.f_l_least_unlike (aCons (mV 3) (aCons (mV 4) aNil))) aNil))))
        (sSeq (sIf (tOr (tE (mO2 pEq (mV 7) (mC (.int 0)))) (tE (mIsN (mV 6)))) (sRet (mAnd (mO2 pEq (mV 7) (mC (.int 0))) (mAnd (mIsN (mV 6)) (mO2 pEq (mO1 pRepr (mTup (aCons (mV 3) (aCons (mV 4) aNil)))) (mV 5))))) (sPass))
        (sSeq (sIf (tOr (Mi.tNot (tE (mO1 (pIsa "tuple") (mV 6)))) (tOr (tE (mO2 pNe (mLen (mV 6)) (mC (.int 2)))) (tE (mO2 pIsNotB (mCall Mi.L.f_shows_unlike (aCons (mV 3) (aCons (mV 4) (aCons (mV 6) aNil)))) (mC (.bool true)))))) (sRet (mC (.bool false))) (sPass))
        (sSeq (sUnp (gT [gN 8, gN 9]) (mV 6))
        (sSeq (sIf (tOr (tE (mO2 pNe (mLen (mV 8)) (mV 7))) (tOr (tE (mO2 pNe (mSetLen (mV 8)) (mV 7))) (tE (mO2 pNe (mO1 pSorted (mV 8)) (mO1 pSorted (mV 9)))))) (sRet (mC (.bool false))) (sPass))
        (sRet (mAnd (mO2 pNe (mCall Mi.L.f_l_laid2 (aCons (mV 3) (aCons (mV 4) (aCons (mV 8) aNil)))) (mCall Mi.L.f_l_laid2 (aCons (mV 3) (aCons (mV 4) (aCons (mV 9) aNil))))) (mO2 pEq (mO1 pRepr (mTup (aCons (mV 3) (aCons (mV 4) aNil)))) (mV 5))))))))
theorem right_body : b__law_right = sSeq (sAsg 1 (mO2 pAdd (mC (.int 1)) (mCall Mi.L.f_l_take (aCons (mV 0) (aCons (mC (.int 5)) aNil)))))
        (sSeq (sAsg 2 (mO2 pMin2 (mC (.int 5)) (mO2 pAdd (mV 1) (mCall Mi.L.f_l_take (aCons (mV 0) (aCons (mC (.int 2)) aNil))))))
        (sSeq (sAsg 3 (mCall Mi.L.f_l_tried (aCons (mV 0) (aCons (mV 2) (aCons (mV 1) (aCons (mCall Mi.L.f_l_of (aCons (mV 0) (aCons (mLst (aCons (mC (.int 1)) (aCons (mC (.int 1)) (aCons (mC (.int 1)) (aCons (mC (.int 0)) (aCons (mC (.int 2)) aNil)))))) aNil))) aNil))))))
        (sSeq (sAsg 4 (mCall Mi.L.f_l_turned_rule (aCons (mV 0) (aCons (mV 2) (aCons (mV 1) aNil)))))
        (sSeq (sIf (tE (mO2 pEq (mCall Mi.L.f_l_take (aCons (mV 0) (aCons (mC (.int 5)) aNil))) (mC (.int 0)))) (sAsg 4 (mCall Mi.L.f_l_rule_of (aCons (mCall Mi.L.f_l_orders (aCons (mV 0) (aCons (mV 3) aNil))) aNil))) (sPass)) restK)))) := rfl
theorem rest_ok (hP : Probes n P) (hm : P.length = m) (hT : GoodT n m T) (hn : n ≤ 5) (hn0 : 0 < n) (hm5 : m ≤ 5) (t0 t1 t2 t5 t6 t7 t8 t9 : Option D) (S : Store) :
    Rn (restK [t0, t1, t2, some (.p (.tuple (P.map dT))), some (.p (.tuple (T.map dTb))), t5, t6, t7, t8, t9] S) fun q => q.1 = .rt (.p (.bool true)) ∧ q.2.2 = S := by
  obtain ⟨s, hs⟩ := settingT_repr hP hm hT (by omega) (by omega)
  rw [dRule_eq] at hs
  obtain ⟨d, hu, hd⟩ := unlike_ok hP hm hT.tabs (by omega) hn0 (by omega) S
  rw [dRule_eq] at hu
  obtain ⟨k, hl, hk⟩ := least_ok hP hm hT.tab hT.len (by omega) hn0 (by omega) (by omega) S
  have qs := pEq_self (fl_s s)
  unfold restK
  rcases hd with ⟨rfl, hall⟩ | ⟨ks, k0, rfl, ho⟩
  · obtain ⟨rfl, _⟩ : k = 0 ∧ True := by
      rcases hk with ⟨h0, _⟩ | ⟨ks, h1, h2, h3, _⟩
      · exact ⟨h0, trivial⟩
      · exact absurd (hall ks h1) h3
    have q0 : pEq (.int 0) (.int 0) = .ok (.bool true) := rfl
    have hl : f_l_least_unlike [.p (.tuple (P.map dT)), .p (.tuple (T.map dTb))] S = .ok (.p (.int 0), S) := hl
    wp_walk using hs, hu, hl, q0, qs
  · have hks0 : ks ≠ [] := List.ne_nil_of_mem ho.mem
    have hnu : ¬ Uniq P T n ks := fun h => ho.odd (h _ (lastH_perm ho.mem))
    obtain rfl : k = ks.length := by
      rcases hk with ⟨_, h0⟩ | ⟨ls, h1, h2, h3, h4⟩
      · exact absurd (h0 ks (mem_upto.mpr ⟨hks0, ho.len, ho.asc, ho.lt⟩)) hnu
      · rw [h2]
        obtain ⟨_, _, ha, hlt⟩ := mem_upto.mp h1
        apply Classical.byContradiction
        intro hne
        rcases Nat.lt_or_gt_of_ne hne with h | h
        · exact h3 (ho.least ls h ha hlt)
        · exact hnu (h4 ks h ho.asc ho.lt)
    have hnd : ks.reverse.Nodup := (List.reverse_perm ks).nodup_iff.mpr ho.asc.nodup
    have hkr : ∀ k ∈ ks.reverse, k < m := fun k h => ho.lt k (by simpa using h)
    have hlr : ks.reverse.length ≤ n := by have := ho.len; rw [List.length_reverse]; omega
    have hp : (lastH ks k0).Perm ks.reverse := (lastH_perm ho.mem).trans (List.reverse_perm ks).symm
    have hlp : 0 < ks.length := List.length_pos_iff.mpr hks0
    have q0 : pEq (.int (ks.length : Nat)) (.int 0) = .ok (.bool false) := by
      have : PyData.eqv (.int (ks.length : Nat)) (.int (0 : Nat)) = decide (ks.length = 0) := eqv_nat _ _
      show when_ _ (R.ok (PyData.bool (PyData.eqv (.int (ks.length : Nat)) (.int (0 : Nat))))) = _
      rw [this, decide_eq_false (by omega)]
      rfl
    have q1 : pIsa "tuple" (pairF ks k0) = .ok (.bool true) := isTuple_os [ks.reverse, lastH ks k0]
    have q2 : pNe (.int 2) (.int 2) = .ok (.bool false) := rfl
    have hsh := showsUnlike_ok hP hm hT.tabs hT.tab (by omega) hn0 (by omega) hnd hkr hlr hp S
    rw [decide_eq_false (fun e => ho.odd e.symm)] at hsh
    have q3 : pSorted (.tuple (ks.reverse.map dI)) = .ok (.list ((sortN ks.reverse).map dI)) := pSorted_t _
    have q4 : pSorted (.tuple ((lastH ks k0).map dI)) = .ok (.list ((sortN ks.reverse).map dI)) := by rw [← sort_perm hp (hp.nodup_iff.mpr hnd)]; exact pSorted_t _
    have q5 : pNe (.list ((sortN ks.reverse).map dI)) (.list ((sortN ks.reverse).map dI)) = .ok (.bool false) := ne_same (fl_dL _)
    have e1 := laid2_ok hP hm hT.tabs (bang_tab hT.tab hT.len) (by omega) hn0 hnd hkr hlr S
    have e2 := laid2_ok hP hm hT.tabs (bang_tab hT.tab hT.len) (by omega) hn0 (hp.nodup_iff.mpr hnd) (fun k h => hkr k (hp.mem_iff.mp h)) (by rw [hp.length_eq]; exact hlr) S
    have q6 := pNe_rows (rowOfH P T n ks.reverse) (rowOfH P T n (lastH ks k0))
    rw [decide_eq_false (fun e => ho.odd e.symm)] at q6
    have q7 : pNe (.int (ks.length : Nat)) (.int (ks.length : Nat)) = .ok (.bool false) := ne_same (fl_int _)
    have q8 : pIsNotB (.bool true) (.bool true) = .ok (.bool false) := rfl
    have hlen5 := ho.len
    have hb : ks.length ≤ 5 := by omega
    have hsl := au_setLenK hnd (by rw [List.length_reverse]; omega) S
    unfold pairF at hu q1
    rw [List.length_reverse] at hsl
    generalize hA : ks.reverse = A at *
    generalize hB : lastH ks k0 = B at *
    have hAl : A.length = ks.length := by rw [← hA, List.length_reverse]
    wp_walk using hs, hu, hl, q0, qs, q1, q2, hsh, q8, hAl, q7, au_SetLen, hsl, q3, q4, q5, e1, e2, q6, hb
theorem right_ok {b : Nat} {S : Store} {i : Nat} (h : PotAt b S i) (hb : b < 2 ^ 40) (L : Store) : ∃ c, PotAt (b + 100000) (S.set i c) i ∧ f__law_right [.ref i] (S ++ L) = .ok (.p (.bool true), S.set i c ++ L) := by
  have hi := h.lt
  obtain ⟨v1, c1, hv1, p1, e1⟩ := take2_all (n := 5) h (by omega) (by omega) (by omega)
  obtain ⟨v2, c2, hv2, p2, e2⟩ := take2_all (n := 2) p1 (by omega) (by omega) (by omega)
  obtain ⟨y, c3, hy, p3, e3⟩ := of_all (xs := [.int (1 : Nat), .int (1 : Nat), .int (1 : Nat), .int (0 : Nat), .int (2 : Nat)]) p2 (by omega) (by simp) (by simp)
  obtain ⟨w, rfl, hw⟩ := way_mem hy
  obtain ⟨n, hn⟩ : ∃ n : Nat, n = 1 + v1 := ⟨_, rfl⟩
  obtain ⟨m, hm⟩ : ∃ m : Nat, m = min 5 (n + v2) := ⟨_, rfl⟩
  have hnv : (1 : Int) + v1 = n := by omega
  have hmv : min (5 : Int) ((n : Int) + v2) = m := by omega
  have hn5 : n ≤ 5 := by omega
  have hm5 : m ≤ 5 := by omega
  simp only [List.set_set] at e2 e3 p2 p3
  obtain ⟨P, c4, hP, hPl, p4, e4⟩ := tried_ok (m := m) (n := n) p3 (by omega) (by omega) (by omega) (by omega) hw L
  simp only [List.set_set] at e4 p4
  obtain ⟨ts, c5, htl, htt, p5, e5⟩ := turnedRule_ok (n := m) (m := n) p4 (by omega) (by omega) (by omega) L
  simp only [List.set_set] at e5 p5
  obtain ⟨v6, c6, hv6, p6, e6⟩ := take2_all (n := 5) p5 (by omega) (by omega) (by omega)
  simp only [List.set_set] at e6 p6
  have e1' := e1 L
  have e2' := e2 L
  have e3' := e3 L
  have e6' := e6 L
  simp only [Int.cast_ofNat_Int] at e3'
  suffices hh : Rn (f__law_right [.ref i] (S ++ L)) fun z => ∃ c : Cell, PotAt (b + 100000) (S.set i c) i ∧ z = (.p (.bool true), S.set i c ++ L) by
    obtain ⟨z, e, c, g, rfl⟩ := hh.ex
    exact ⟨c, g, e⟩
  refine fn_rnQ rfl ?_
  rw [right_body]
  by_cases hv : v6 = 0
  · subst hv
    have q0 : pEq (.int 0) (.int 0) = .ok (.bool true) := rfl
    obtain ⟨os, c7, hO, p7, e7⟩ := orders_ok p6 (by omega) (by omega) (by omega) (by omega) (by omega) hP hPl L
    simp only [List.set_set] at e7 p7
    have e8 := ruleOf2_ok (os := os) (n := m) hO.ord (by omega) (by rw [hO.len]; omega) (.inr rfl) (S.set i c7 ++ L)
    have hr := rest_ok hP hPl hO.good hn5 (by omega) hm5 (some (.ref i)) (some (.p (.int n))) (some (.p (.int m))) none none none none none (S.set i c7 ++ L)
    have e9 : PyData.tuple ((os.map tab).map dTb) = .tuple ((tabs os).map dTb) := rfl
    have e6'' : f_l_take [.ref i, .p (.int 5)] (S.set i c5 ++ L) = .ok (.p (.int 0), S.set i c6 ++ L) := e6'
    wp_walk using e1', e2', e3', e4, e5, e6'', hnv, hmv, q0, e7, e8, e9
    refine hr.mono ?_
    rintro ⟨f, σ, X⟩ ⟨g1, g2⟩
    have g1 : f = .rt (.p (.bool true)) := g1
    have g2 : X = _ := g2
    subst g1 g2
    wp_walk using hi
    exact ⟨c7, p7.mono (by omega), rfl⟩
  · have q0 : pEq (.int (v6 : Nat)) (.int 0) = .ok (.bool false) := by
      have : PyData.eqv (.int (v6 : Nat)) (.int (0 : Nat)) = decide (v6 = 0) := eqv_nat _ _
      show when_ _ (R.ok (PyData.bool (PyData.eqv (.int (v6 : Nat)) (.int (0 : Nat))))) = _
      rw [this, decide_eq_false hv]
      rfl
    have hr := rest_ok hP hPl ⟨htl, htt⟩ hn5 (by omega) hm5 (some (.ref i)) (some (.p (.int n))) (some (.p (.int m))) none none none none none (S.set i c6 ++ L)
    wp_walk using e1', e2', e3', e4, e5, e6', hnv, hmv, q0
    refine hr.mono ?_
    rintro ⟨f, σ, X⟩ ⟨g1, g2⟩
    have g1 : f = .rt (.p (.bool true)) := g1
    have g2 : X = _ := g2
    subst g1 g2
    wp_walk using hi
    exact ⟨c6, p6.mono (by omega), rfl⟩
theorem law_ok (ns : List Int) (_ : ns.length ≤ 63) : f_law [.scr ns] [] = .ok (.p (.bool true), []) := by
  obtain ⟨n, hn, hmin⟩ : ∃ n : Nat, n ≤ 50 ∧ max (1 : Int) (min 3 ns.length) = n := ⟨(max (1 : Int) (min 3 ns.length)).toNat, by omega, by omega⟩
  refine fn_rn rfl ?_
  unfold b_law
  wp_walk using hmin
  refine Rn.bs ((for_range (fun k σ S' => ∃ t1 t2 t3 : Option D, σ = [some (.scr ns), t1, t2, t3]) (Q := fun p => ∃ (t1 t2 t3 : Option D) (S' : Store), p = (.nx, [some (.scr ns), t1, t2, t3], S')) ?_ (fun _ _ _ _ => stand_nil _) ?_ ?_).mono ?_)
  · exact ⟨_, _, _, rfl⟩
  · rintro j σ S' hj ⟨t1, t2, t3, rfl⟩
    obtain ⟨c, e, h⟩ := pot2_ok (S := S') (ns := ns) (k := j) (by omega)
    wp_walk using e
    refine Rn.bd (Rn.bd (Rn.bd (Rn.bd (comp_rn (fun k acc T => ∃ c : Cell, T = S' ++ [c] ∧ acc = List.replicate k (.bool true) ∧ PotAt (100000 * k) (S' ++ [c]) S'.length) (fun _ _ _ _ => stand_nil _) _ 0 _ _ ⟨c, rfl, rfl, h⟩ ?_ ?_))))
    · rintro k x acc T hx ⟨c, h1, h2, h3⟩
      subst h1 h2
      obtain ⟨hk, ex0⟩ := List.getElem?_eq_some_iff.mp hx
      have hk4 : k < 2 := by simpa using hk
      obtain ⟨c', p1, e1⟩ := right_ok h3 (by omega) [.lst (List.replicate (0 + k) (.bool true))]
      have es : (S' ++ [c]).set S'.length c' = S' ++ [c'] := by simp
      rw [es] at p1 e1
      simp only [List.append_assoc, List.cons_append, List.nil_append] at e1
      wp_walk using e1
      exact ⟨_, S' ++ [c'], by simp; rfl, by simp, c', rfl, by rw [List.replicate_succ'], p1.mono (by omega)⟩
    · rintro acc T ⟨c, h1, h2, h3⟩
      subst h1 h2
      have hall : pAll (.list [.bool true, .bool true]) = .ok (.bool true) := rfl
      wp_walk using hall
      exact ⟨Or.inl rfl, _, _, _, rfl⟩
  · rintro σ S' ⟨t1, t2, t3, rfl⟩
    exact ⟨t1, t2, t3, S', rfl⟩
  · rintro p ⟨t1, t2, t3, S', rfl⟩
    wp_walk using hmin
end Mi.K14Px
theorem PySem.Challenge.cw_samelayout_k14_unlike_histories_holds : PySem.Challenge.rw_samelayout_k14_unlike_histories.Holds := by
  exact K14.holds_of Mi.K14Px.law_ok
end
