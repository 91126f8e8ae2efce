import PyProof.Rows.All
import Wide.All
import OpenK.AllK
import Wide.FinOn
import HandS.ForMost
import HandS.Exc
import HandS.Wide
import HandS.TupAny
import HandS.TupMul
import HandS.TupLe
import HandS.Conv
import HandS.Zip
import HandS.Walk
import HandS.Deep
import HandS.NoneIn
import KE.DataCmp
import KE.DataFind
import KE.SortData
import HandS.Lambda
import HandS.HeadHook1
import KE.DataEq
import KE.DataIsa
import HandS.Base
import HandS.Style
import KE.GoesEnum
import KE.DatumIndex
import KE.SortCalls
import KE.LtData
import KE.LtSeq
import KE.DataMinMax
import KE.DataAny
import HandS.ReCall
import KE.KTupSum
import HandS.TupLen
import PyProof.CallFns
import KE.KIndexOf
import HandS.Defaults
import HandS.HeadEnd
import HandS.WordsExc
import HandS.HeadHook4
import HandS.DictComp
import HandS.More
import HandS.SetFor
import PyProof.StrBlockL
import KE.DatumOrd
import HandS.ExcInit
import HandS.ExcField
import HandS.ExcIs
import KE.KExcIs
import KE.SortKeyHeap
import HandS.SortKw
import HandS.HeadWalk
import HandS.NestedK
import HandS.HeadHook3
import HandS.Text
import PyProof.SumWalkG
import PyProof.ListOps
import PyProof.Rows.SeqMore
import HandS.ExcValue
import PyProof.Rows.SetFrom
import KE.KStateDown
import HandS.Head0
import HandS.Head1
import HandS.Head2
import HandS.HeadHook2
import KE.DatumMoreOrd
import KE.KSortTupAny
import PyProof.StrLawsChain
import PySem.Challenge.RW_samelayout_k49_values_that_are_no_texts
set_option Elab.async false
set_option autoImplicit false
set_option linter.all false
set_option maxRecDepth 100000
set_option maxHeartbeats 4000000
section
namespace Mi
open PySem
structure Tbl where
  C : Nat
  ver : Nat
  way : Str
  rule : Str
  held : List PyData
  kvs : List (PyData × PyData)
  wk : Bool
inductive Cell where
  | lst (xs : List PyData)
  | flst (xs : List PyData)
  | dct (t : Bool) (kvs : List (PyData × PyData))
  | fdct (t : Bool) (kvs : List (PyData × PyData))
  | nst (n : Nat) (rs : List Nat)
  | tab (P : Nat) (q : Str)
  | tdc (ks : List (List Int))
  | tdv (b : Bool) (kvs : List (List Int × PyData))
  | dead
  | tbl (t : Tbl)
  | inn
  | inf
  | obj (C : Nat) (fs : List (Str × PyData))
abbrev Store := List Cell
structure Exc where
  c : Str
  f : Option (Str × PyData)
inductive Dc where
  | p (d : PyData)
  | ref (i : Nat)
structure Fp where
  a : Nat
  e : List (Option Dc)
  s : List (Option L2.V)
inductive D where
  | p (d : PyData)
  | ref (i : Nat)
  | scr (ns : List Int)
  | rows (i n : Nat) (rs : List Nat)
  | fn (f : Fp) (c : Nat) (q : Str)
  | exn (e : Exc)
  | own (i k n : Nat)
abbrev Env := List (Option D)
inductive R (α : Type) where
  | ok (a : α)
  | ex (e : Exc) (S : Store)
  | no
inductive Fl where
  | nx | bk | ct
  | rt (d : D)
def bx {α β : Type} (x : R α) (f : α → R β) : R β := match x with
  | .ok a => f a
  | .ex e S => .ex e S
  | .no => .no
def bd {α β : Type} (x : R (α × Store)) (f : α → Store → R β) : R β := match x with
  | .ok p => f p.1 p.2
  | .ex e S => .ex e S
  | .no => .no
def bs {β : Type} (x : R (Fl × Env × Store)) (f : Fl → Env → Store → R β) : R β := match x with
  | .ok p => f p.1 p.2.1 p.2.2
  | .ex e S => .ex e S
  | .no => .no
section
variable {α β : Type}
@[simp] theorem bx_ok (a : α) (f : α → R β) : bx (.ok a) f = f a := rfl
@[simp] theorem bd_ok (a : α) (S : Store) (f : α → Store → R β) : bd (.ok (a, S)) f = f a S := rfl
@[simp] theorem bs_ok (a : Fl) (σ : Env) (S : Store) (f : Fl → Env → Store → R β) : bs (.ok (a, σ, S)) f = f a σ S := rfl
end
abbrev Ex := Env → Store → R (D × Store)
abbrev As := Env → Store → R (List D × Store)
abbrev Bx := Env → Store → R (Bool × Store)
abbrev Sm := Env → Store → R (Fl × Env × Store)
abbrev Fn := List D → Store → R (D × Store)
abbrev Tg := PyData → Env → R Env
structure Src where
  items : List PyData
  g : List (Nat × Cell)
abbrev Is := Env → Store → R (Src × Store)
def ownV (k n : Nat) : Option Cell → R PyData
  | some (.tbl t) => if t.ver = n then (match k with
    | 0 => .ok (.list t.held)
    | 1 => .ok (.dict t.kvs)
    | _ => .no) else .no
  | _ => .no
def ownD (k n : Nat) : Option Cell → Option (Bool × List (PyData × PyData))
  | some (.tbl t) => if t.ver = n then (match k with
    | 1 => some (false, t.kvs)
    | _ => none) else none
  | _ => none
def dv (S : Store) : D → R PyData
  | .p d => .ok d
  | .ref i => match S[i]? with
    | some (.lst xs) => .ok (.list xs)
    | some (.flst xs) => .ok (.list xs)
    | some (.dct _ kvs) => .ok (.dict kvs)
    | some (.fdct _ kvs) => .ok (.dict kvs)
    | some (.nst _ _) => .no
    | some (.tab _ _) => .no
    | some (.tdc _) => .no
    | some (.tdv _ _) => .no
    | some .dead => .no
    | some (.tbl _) => .no
    | some .inn => .no
    | some .inf => .no
    | some (.obj _ _) => .no
    | none => .no
  | .scr _ => .no
  | .rows _ _ _ => .no
  | .fn _ _ _ => .no
  | .exn _ => .no
  | .own i k n => ownV k n S[i]?
def dvr (S : Store) : D → R PyData
  | .scr ns => .ok (.list (ns.map .int))
  | .p d => .ok d
  | .ref i => dv S (.ref i)
  | .rows _ _ _ => .no
  | .fn _ _ _ => .no
  | .exn _ => .no
  | .own i k n => dv S (.own i k n)
def tvD (p : List Int × PyData) : PyData × PyData := (.tuple (p.1.map .int), p.2)
def fz (S : Store) : D → R (PyData × Store)
  | .p d => .ok (d, S)
  | .ref i => match S[i]? with
    | some (.lst xs) => .ok (.list xs, S.set i (.flst xs))
    | some (.flst xs) => .ok (.list xs, S)
    | some (.dct false (kv :: kvs)) => .ok (.dict (kv :: kvs), S.set i .dead)
    | some (.tdv _ (kv :: kvs)) => .ok (.dict ((kv :: kvs).map tvD), S.set i .dead)
    | _ => .no
  | .scr _ => .no
  | .rows _ _ _ => .no
  | .fn _ _ _ => .no
  | .exn _ => .no
  | .own _ _ _ => .no
def fzs : List D → Store → R (List PyData × Store)
  | [], S => .ok ([], S)
  | d :: ds, S => bd (fz S d) fun x S1 => bd (fzs ds S1) fun xs S2 => .ok (x :: xs, S2)
@[simp] theorem dv_p (S : Store) (d : PyData) : dv S (.p d) = .ok d := rfl
@[simp] theorem dvr_scr (S : Store) (ns : List Int) : dvr S (.scr ns) = .ok (.list (ns.map .int)) := rfl
@[simp] theorem dvr_p (S : Store) (d : PyData) : dvr S (.p d) = .ok d := rfl
@[simp] theorem dvr_ref (S : Store) (i : Nat) : dvr S (.ref i) = dv S (.ref i) := rfl
@[simp] theorem fz_p (S : Store) (d : PyData) : fz S (.p d) = .ok (d, S) := rfl
@[simp] theorem fzs_nil (S : Store) : fzs [] S = .ok ([], S) := rfl
@[simp] theorem fzs_cons (d : D) (ds : List D) (S : Store) : fzs (d :: ds) S = bd (fz S d) fun x S1 => bd (fzs ds S1) fun xs S2 => .ok (x :: xs, S2) := rfl
def b2i (b : Bool) : Int := if b then 1 else 0
abbrev Line : Nat := 16777216
def ints? : List PyData → Option (List Int)
  | [] => some []
  | .int i :: xs => (ints? xs).map (i :: ·)
  | _ :: _ => none
def bools? : List PyData → Option (List Bool)
  | [] => some []
  | .bool b :: xs => (bools? xs).map (b :: ·)
  | _ :: _ => none
def strs? : List PyData → Option (List Str)
  | [] => some []
  | .str b :: xs => (strs? xs).map (b :: ·)
  | _ :: _ => none
@[simp] theorem ints_map (xs : List Int) : ints? (xs.map .int) = some xs := by
  induction xs with
  | nil => rfl
  | cons x xs ih => simp [ints?, ih]
@[simp] theorem bools_map (xs : List Bool) : bools? (xs.map .bool) = some xs := by
  induction xs with
  | nil => rfl
  | cons x xs ih => simp [bools?, ih]
@[simp] theorem strs_map (xs : List Str) : strs? (xs.map .str) = some xs := by
  induction xs with
  | nil => rfl
  | cons x xs ih => simp [strs?, ih]
def items? : PyData → Option (List PyData)
  | .list xs => some xs
  | .tuple xs => some xs
  | _ => none
@[simp] theorem items_list (xs : List PyData) : items? (.list xs) = some xs := rfl
@[simp] theorem items_tuple (xs : List PyData) : items? (.tuple xs) = some xs := rfl
def orNo {α : Type} : Option α → R α
  | some a => .ok a
  | none => .no
@[simp] theorem orNo_some {α : Type} (a : α) : orNo (some a) = .ok a := rfl
def when_ {α : Type} (c : Bool) (r : R α) : R α := match c with
  | true => r
  | false => .no
@[simp] theorem when_true {α : Type} (r : R α) : when_ true r = r := rfl
def mulOk (i j : Int) : Bool := decide (i.natAbs.log2 + j.natAbs.log2 < 1000000)
def pAdd : PyData → PyData → R PyData
  | .int a, .int b => .ok (.int (a + b))
  | .str a, .str b => when_ (decide (a.length + b.length ≤ Line)) (.ok (.str (a ++ b)))
  | .tuple a, .tuple b => when_ (decide (a.length + b.length ≤ Line)) (.ok (.tuple (a ++ b)))
  | .list a, .list b => when_ (decide (a.length + b.length ≤ Line)) (.ok (.list (a ++ b)))
  | .int a, .bool b => .ok (.int (a + b2i b))
  | _, _ => .no
def pSub : PyData → PyData → R PyData
  | .int a, .int b => .ok (.int (a - b))
  | _, _ => .no
def pMul : PyData → PyData → R PyData
  | .int a, .int b => when_ (mulOk a b) (.ok (.int (a * b)))
  | .list a, .int k => when_ (decide (-(2 ^ 63) ≤ k ∧ k < 2 ^ 63 ∧ a.length * k.toNat ≤ Line)) (.ok (.list (List.replicate k.toNat a).flatten))
  | .tuple a, .int k => when_ (decide (a ≠ [] ∧ k ≤ 1000 ∧ 0 ≤ k ∧ a.length ≤ 1000)) (.ok (.tuple (List.replicate k.toNat a).flatten))
  | _, _ => .no
def pDiv : PyData → PyData → R PyData
  | .int a, .int b => when_ (decide (0 < b ∧ b.natAbs.log2 < 9000)) (.ok (.int (a / b)))
  | _, _ => .no
def pMod : PyData → PyData → R PyData
  | .int a, .int b => when_ (decide (0 < b)) (.ok (.int (a % b)))
  | _, _ => .no
def pPow : PyData → PyData → R PyData
  | .int a, .int b => when_ (decide (0 ≤ b ∧ b ≤ 1000 ∧ a.natAbs.log2 < 10000)) (.ok (.int (a ^ b.toNat)))
  | _, _ => .no
def pNeg : PyData → R PyData
  | .int a => .ok (.int (-a))
  | _ => .no
def pNot : PyData → R PyData
  | .bool a => .ok (.bool (!a))
  | _ => .no
def flat? (d : PyData) : Bool := d.plain && decide (d.depth ≤ 1000)
def pEq (x y : PyData) : R PyData := when_ (flat? x && flat? y) (.ok (.bool (PyData.eqv x y)))
def pNe (x y : PyData) : R PyData := when_ (flat? x && flat? y) (.ok (.bool (!PyData.eqv x y)))
def isNone : PyData → Bool
  | .none => true
  | _ => false
def cmp? (x y : PyData) : Bool := PySem.W.alike x y && !isNone x && flat? x && flat? y
def pLt (x y : PyData) : R PyData := match x, y with
  | .int a, .int b => .ok (.bool (decide (a < b)))
  | x, y => when_ (cmp? x y) (.ok (.bool (PySem.W.dataLt x y)))
def pGt (x y : PyData) : R PyData := match x, y with
  | .int a, .int b => .ok (.bool (decide (b < a)))
  | x, y => when_ (cmp? x y) (.ok (.bool (PySem.W.dataLt y x)))
def pLe (x y : PyData) : R PyData := match x, y with
  | .int a, .int b => .ok (.bool (decide (a ≤ b)))
  | x, y => when_ (cmp? x y) (.ok (.bool (!PySem.W.dataLt y x)))
def pGe (x y : PyData) : R PyData := match x, y with
  | .int a, .int b => .ok (.bool (decide (b ≤ a)))
  | x, y => when_ (cmp? x y) (.ok (.bool (!PySem.W.dataLt x y)))
def hasKey (kvs : List (PyData × PyData)) (k : PyData) : Bool := kvs.any fun kv => PyData.eqv kv.1 k
def look (kvs : List (PyData × PyData)) (k : PyData) : Option PyData := match kvs with
  | [] => none
  | (a, v) :: r => if PyData.eqv a k = true then some v else look r k
def put (kvs : List (PyData × PyData)) (k v : PyData) : List (PyData × PyData) :=
  if hasKey kvs k = true then kvs.map fun kv => if PyData.eqv kv.1 k = true then (kv.1, v) else kv else kvs ++ [(k, v)]
def flatKey : PyData → Bool
  | .int _ => true
  | .str _ => true
  | _ => false
def keyOk (t : Bool) : PyData → Bool
  | .int _ => !t
  | .str _ => !t
  | .tuple xs => t && xs.all flatKey
  | _ => false
def inItems (x : PyData) (xs : List PyData) : Bool := xs.any fun y => PyData.eqv y x
def pIn : PyData → PyData → R PyData
  | x, .list xs => when_ (flat? x && flat? (.list xs)) (.ok (.bool (inItems x xs)))
  | x, .tuple xs => when_ (flat? x && flat? (.tuple xs)) (.ok (.bool (inItems x xs)))
  | .str x, .str y => .ok (.bool (!(Builtin.Str.occurrences y x 0 y.length 1).isEmpty))
  | _, _ => .no
def pNotIn : PyData → PyData → R PyData
  | x, .list xs => when_ (flat? x && flat? (.list xs)) (.ok (.bool (!inItems x xs)))
  | x, .tuple xs => when_ (flat? x && flat? (.tuple xs)) (.ok (.bool (!inItems x xs)))
  | .str x, .str y => .ok (.bool (!(!(Builtin.Str.occurrences y x 0 y.length 1).isEmpty)))
  | _, _ => .no
def ixN (n : Nat) (i : Int) : Option Nat := if 0 ≤ i then (if i < n then some i.toNat else none) else if -(n : Int) ≤ i then some (i + n).toNat else none
def atD {α : Type} (xs : List α) (i : Int) : Option α := (ixN xs.length i).bind fun j => xs[j]?
def pIx : PyData → PyData → R PyData
  | .list xs, .int i => orNo (atD xs i)
  | .tuple xs, .int i => orNo (atD xs i)
  | .str z, .int i => when_ (decide (z.length ≤ Line)) (orNo ((atD z.cps.toList i).map fun c => .str ⟨#[c]⟩))
  | _, _ => .no
def sIx (n d : Nat) : Option Int → Nat
  | none => d
  | some v => (if v < 0 then max (v + (n : Int)) 0 else min v (n : Int)).toNat
def cut {α : Type} (xs : List α) (lo hi : Option Int) : List α := (xs.drop (sIx xs.length 0 lo)).take (sIx xs.length xs.length hi - sIx xs.length 0 lo)
def pCut (x : PyData) (lo hi : Option Int) : R PyData := match x with
  | .list xs => .ok (.list (cut xs lo hi))
  | .tuple xs => .ok (.tuple (cut xs lo hi))
  | _ => .no
def pLen : PyData → R PyData
  | .dict xs => .ok (.int xs.length)
  | .list xs => .ok (.int xs.length)
  | .tuple xs => .ok (.int xs.length)
  | .str z => when_ (decide (z.length ≤ Line)) (.ok (.int z.length))
  | _ => .no
def pAbs : PyData → R PyData
  | .int a => .ok (.int (if a < 0 then -a else a))
  | _ => .no
def pMax2 : PyData → PyData → R PyData
  | .int a, .int b => .ok (.int (if b > a then b else a))
  | _, _ => .no
def pMin2 : PyData → PyData → R PyData
  | .int a, .int b => .ok (.int (if b < a then b else a))
  | _, _ => .no
def pAll : PyData → R PyData
  | .list xs => orNo ((bools? xs).map fun bs => .bool (bs.all id))
  | _ => .no
def pInt : PyData → R PyData
  | .int a => .ok (.int a)
  | .bool b => .ok (.int (b2i b))
  | _ => .no
def pStr : PyData → R PyData
  | .int a => when_ (decide (a.natAbs.log2 < 1920)) (.ok (.str (toString a)))
  | _ => .no
def pRepr (x : PyData) : R PyData := when_ (x.showable && !x.hasDict && x.plain && decide (x.depth ≤ 1000) && decide (x.shown.length ≤ Line)) (.ok (.str x.shown))
def isDict0 : PyData → Bool
  | .dict [] => true
  | _ => false
def pList : PyData → R PyData
  | .list xs => .ok (.list xs)
  | .tuple xs => .ok (.list xs)
  | _ => .no
def pTuple : PyData → R PyData
  | .list xs => .ok (.tuple xs)
  | .tuple xs => .ok (.tuple xs)
  | _ => .no
def keyNT : List (PyData × PyData) → Bool
  | (.tuple _, _) :: _ => false
  | _ => true
def pIsa (T : String) (x : PyData) : R PyData := when_ (x.plain || isDict0 x) (match T with
  | "int" => .ok (.bool x.isInt)
  | "bool" => .ok (.bool x.isBool)
  | "str" => .ok (.bool x.isStr)
  | "tuple" => .ok (.bool x.isTuple)
  | "list" => .ok (.bool x.isList)
  | _ => .no)
def pIndex (a x : PyData) : R PyData := match x with
  | .int k => bx (orNo ((items? a).bind ints?)) fun ns => when_ (decide (k ∈ ns)) (.ok (.int (ns.idxOf k : Nat)))
  | .str k => bx (orNo ((items? a).bind strs?)) fun ns => when_ (decide (k ∈ ns)) (.ok (.int (ns.idxOf k : Nat)))
  | _ => .no
def mC (d : PyData) : Ex := fun _ S => .ok (.p d, S)
def mV (i : Nat) : Ex := fun σ S => match σ[i]? with
  | some (some d) => .ok (d, S)
  | _ => .no
def mO1 (f : PyData → R PyData) (a : Ex) : Ex := fun σ S => bd (a σ S) fun x S1 => bx (dv S1 x) fun u => bx (f u) fun z => .ok (.p z, S1)
def mO2 (f : PyData → PyData → R PyData) (a b : Ex) : Ex := fun σ S => bd (a σ S) fun x S1 => bd (b σ S1) fun y S2 => bx (dv S2 x) fun u => bx (dv S2 y) fun v => bx (f u v) fun z => .ok (.p z, S2)
def dictOf (S : Store) : D → Option (Bool × List (PyData × PyData))
  | .ref i => match S[i]? with
    | some (.dct t kvs) => some (t, kvs)
    | some (.fdct t kvs) => some (t, kvs)
    | _ => none
  | .own i k n => ownD k n S[i]?
  | _ => none
@[simp] theorem dictOf_p (S : Store) (d : PyData) : dictOf S (.p d) = none := rfl
@[simp] theorem dictOf_scr (S : Store) (ns : List Int) : dictOf S (.scr ns) = none := rfl
def mIn (a b : Ex) : Ex := fun σ S => bd (a σ S) fun x S1 => bd (b σ S1) fun y S2 => bx (dv S2 x) fun u => match dictOf S2 y with
  | some (t, kvs) => when_ (!t && keyOk t u) (.ok (.p (.bool (hasKey kvs u)), S2))
  | none => bx (dv S2 y) fun v => bx (pIn u v) fun z => .ok (.p z, S2)
def mNotIn (a b : Ex) : Ex := fun σ S => bd (a σ S) fun x S1 => bd (b σ S1) fun y S2 => bx (dv S2 x) fun u => match dictOf S2 y with
  | some (t, kvs) => when_ (!t && keyOk t u) (.ok (.p (.bool (!hasKey kvs u)), S2))
  | none => bx (dv S2 y) fun v => bx (pNotIn u v) fun z => .ok (.p z, S2)
def mIx (a b : Ex) : Ex := fun σ S => bd (a σ S) fun x S1 => bd (b σ S1) fun y S2 => match dictOf S2 x with
  | some (t, kvs) => bx (dv S2 y) fun v => when_ (!t && keyOk t v) (bx (orNo (look kvs v)) fun z => .ok (.p z, S2))
  | none => bx (dvr S2 x) fun u => bx (dv S2 y) fun v => bx (pIx u v) fun z => .ok (.p z, S2)
def mLen (a : Ex) : Ex := fun σ S => bd (a σ S) fun x S1 => bx (dvr S1 x) fun u => bx (pLen u) fun z => .ok (.p z, S1)
def mCh (f g : PyData → PyData → R PyData) (a b c : Ex) : Ex := fun σ S => bd (a σ S) fun x S1 => bd (b σ S1) fun y S2 => bx (dv S2 x) fun u => bx (dv S2 y) fun v => bx (f u v) fun z => match z with
  | .bool true => bd (c σ S2) fun t S3 => bx (dv S3 y) fun v' => bx (dv S3 t) fun w => bx (g v' w) fun z' => .ok (.p z', S3)
  | .bool false => .ok (.p (.bool false), S2)
  | _ => .no
def tE (a : Ex) : Bx := fun σ S => bd (a σ S) fun x S1 => match x with
  | .p (.bool b) => .ok (b, S1)
  | _ => .no
def tAnd (a b : Bx) : Bx := fun σ S => bd (a σ S) fun x S1 => if x = true then b σ S1 else .ok (false, S1)
def tOr (a b : Bx) : Bx := fun σ S => bd (a σ S) fun x S1 => if x = true then .ok (true, S1) else b σ S1
def tNot (a : Bx) : Bx := fun σ S => bd (a σ S) fun x S1 => .ok (!x, S1)
def tYes : Bx := fun _ S => .ok (true, S)
def mAnd (a b : Ex) : Ex := fun σ S => bd (a σ S) fun x S1 => match x with
  | .p (.bool true) => b σ S1
  | .p (.bool false) => .ok (.p (.bool false), S1)
  | _ => .no
def mOr (a b : Ex) : Ex := fun σ S => bd (a σ S) fun x S1 => match x with
  | .p (.bool false) => b σ S1
  | .p (.bool true) => .ok (.p (.bool true), S1)
  | _ => .no
def mIf (t : Bx) (a b : Ex) : Ex := fun σ S => bd (t σ S) fun x S1 => if x = true then a σ S1 else b σ S1
def isN : D → Bool
  | .p .none => true
  | _ => false
def mIsN (a : Ex) : Ex := fun σ S => bd (a σ S) fun x S1 => .ok (.p (.bool (isN x)), S1)
def mNotN (a : Ex) : Ex := fun σ S => bd (a σ S) fun x S1 => .ok (.p (.bool (!isN x)), S1)
def aNil : As := fun _ S => .ok ([], S)
def aCons (a : Ex) (r : As) : As := fun σ S => bd (a σ S) fun x S1 => bd (r σ S1) fun xs S2 => .ok (x :: xs, S2)
def mTup (as : As) : Ex := fun σ S => bd (as σ S) fun ds S1 => bd (fzs ds S1) fun xs S2 => when_ (decide (xs.length ≤ Line)) (.ok (.p (.tuple xs), S2))
def mLst (as : As) : Ex := fun σ S => bd (as σ S) fun ds S1 => bd (fzs ds S1) fun xs S2 => when_ (decide (xs.length ≤ Line)) (.ok (.p (.list xs), S2))
def mCall (f : Fn) (as : As) : Ex := fun σ S => bd (as σ S) fun ds S1 => f ds S1
def mNew (a : Ex) : Ex := fun σ S => bd (a σ S) fun x S1 => match x with
  | .p (.list xs) => .ok (.ref S1.length, S1 ++ [.lst xs])
  | _ => .no
def mDict (t : Bool) : Ex := fun _ S => .ok (.ref S.length, S ++ [.dct t []])
abbrev Po := Env → Store → R (Option Int × Store)
def oNo : Po := fun _ S => .ok (none, S)
def oE (a : Ex) : Po := fun σ S => bd (a σ S) fun x S1 => match x with
  | .p (.int i) => .ok (some i, S1)
  | _ => .no
def mCut (a : Ex) (lo hi : Po) : Ex := fun σ S => bd (a σ S) fun x S1 => bd (lo σ S1) fun l S2 => bd (hi σ S2) fun h S3 => bx (dv S3 x) fun u => bx (pCut u l h) fun z => .ok (.p z, S3)
def rgD (a b : Int) : List PyData := (List.range (b - a).toNat).map fun (i : Nat) => PyData.int (a + (i : Int))
def rgOk (a b : Int) : Bool := decide (-(2 ^ 62) ≤ a ∧ a.toNat < 2 ^ 62 ∧ -(2 ^ 62) ≤ b ∧ b.toNat < 2 ^ 62 ∧ (b - a).toNat ≤ 2 ^ 24)
def pRgL : PyData → PyData → R PyData
  | .int a, .int b => when_ (rgOk a b) (.ok (.list (rgD a b)))
  | _, _ => .no
def lstAt (S : Store) : D → Bool
  | .ref i => match S[i]? with
    | some (.lst _) => true
    | _ => false
  | _ => false
def mAppend (o a : Ex) : Ex := fun σ S => bd (o σ S) fun x S1 => when_ (lstAt S1 x) (bd (a σ S1) fun y S2 => bd (fz S2 y) fun d S3 => match x with
  | .ref i => match S3[i]? with
    | some (.lst xs) => when_ (decide (xs.length < Line)) (.ok (.p .none, S3.set i (.lst (xs ++ [d]))))
    | _ => .no
  | _ => .no)
def mExtend (o a : Ex) : Ex := fun σ S => bd (o σ S) fun x S1 => when_ (lstAt S1 x) (bd (a σ S1) fun y S2 => bx (dv S2 y) fun d => match x with
  | .ref i => match S2[i]?, d with
    | some (.lst xs), .list ys => when_ (decide (xs.length + ys.length ≤ Line)) (.ok (.p .none, S2.set i (.lst (xs ++ ys))))
    | _, _ => .no
  | _ => .no)
def mPop0 (o : Ex) : Ex := fun σ S => bd (o σ S) fun x S1 => match x with
  | .ref i => match S1[i]? with
    | some (.lst xs) => bx (orNo xs.getLast?) fun y => .ok (.p y, S1.set i (.lst xs.dropLast))
    | _ => .no
  | _ => .no
def mPop1 (o a : Ex) : Ex := fun σ S => bd (o σ S) fun x S1 => when_ (lstAt S1 x) (bd (a σ S1) fun y S2 => match x, y with
  | .ref i, .p (.int k) => match S2[i]? with
    | some (.lst xs) => when_ (decide (xs.length ≤ Line)) (bx (orNo (ixN xs.length k)) fun j => bx (orNo xs[j]?) fun z => .ok (.p z, S2.set i (.lst (xs.eraseIdx j))))
    | _ => .no
  | _, _ => .no)
def isTup : PyData → Bool
  | .tuple _ => true
  | _ => false
def mIndex (o a : Ex) : Ex := fun σ S => bd (o σ S) fun x S1 => bx (dv S1 x) fun u0 => when_ (items? u0).isSome (bd (a σ S1) fun y S2 => bx (dv S2 x) fun u => bx (dv S2 y) fun v => when_ (decide (isTup u0 = isTup u)) (bx (pIndex u v) fun z => .ok (.p z, S2)))
def srcOf (S : Store) : D → R Src
  | .p (.list xs) => .ok ⟨xs, []⟩
  | .p (.tuple xs) => .ok ⟨xs, []⟩
  | .ref i => match S[i]? with
    | some (.lst xs) => .ok ⟨xs, [(i, .lst xs)]⟩
    | some (.flst xs) => .ok ⟨xs, []⟩
    | _ => .no
  | _ => .no
def iE (a : Ex) : Is := fun σ S => bd (a σ S) fun x S1 => bx (srcOf S1 x) fun s => .ok (s, S1)
def iR1 (a : Ex) : Is := fun σ S => bd (a σ S) fun x S1 => match x with
  | .p (.int n) => when_ (decide (-(2 ^ 62) ≤ n ∧ n.toNat < 2 ^ 62)) (.ok (⟨rgD 0 n, []⟩, S1))
  | _ => .no
def iR2 (a b : Ex) : Is := fun σ S => bd (a σ S) fun x S1 => bd (b σ S1) fun y S2 => match x, y with
  | .p (.int m), .p (.int n) => when_ (decide (-(2 ^ 62) ≤ m ∧ m.toNat < 2 ^ 62 ∧ -(2 ^ 62) ≤ n ∧ n.toNat < 2 ^ 62)) (.ok (⟨rgD m n, []⟩, S2))
  | _, _ => .no
def numD (k : Nat) : List PyData → List PyData
  | [] => []
  | x :: xs => .tuple [.int k, x] :: numD (k + 1) xs
def iEnum (a : Ex) : Is := fun σ S => bd (a σ S) fun x S1 => bx (srcOf S1 x) fun s => .ok (⟨numD 0 s.items, s.g⟩, S1)
def tupD : D → Bool
  | .p (.tuple _) => true
  | _ => false
def zipD (xs ys : List PyData) : List PyData := (xs.zip ys).map fun p => .tuple [p.1, p.2]
def iZip (a b : Ex) : Is := fun σ S => bd (a σ S) fun x S1 => bd (b σ S1) fun y S2 => bx (srcOf S2 x) fun s => bx (srcOf S2 y) fun t => .ok (⟨zipD s.items t.items, s.g ++ t.g⟩, S2)
open Classical in
noncomputable def stand (g : List (Nat × Cell)) (S : Store) : Bool := decide (∀ p ∈ g, S[p.1]? = some p.2)
@[simp] theorem stand_nil (S : Store) : stand [] S = true := by unfold stand; simp
theorem stand_one {i : Nat} {c : Cell} {S : Store} (h : S[i]? = some c) : stand [(i, c)] S = true := by unfold stand; simp [h]
def gN (i : Nat) : Tg := fun x σ => .ok (σ.set i (some (.p x)))
def gAll : List Tg → List PyData → Env → R Env
  | [], [], σ => .ok σ
  | t :: ts, x :: xs, σ => bx (t x σ) fun σ1 => gAll ts xs σ1
  | _, _, _ => .no
def gT (ts : List Tg) : Tg := fun x σ => match x with
  | .tuple xs => gAll ts xs σ
  | .list xs => gAll ts xs σ
  | _ => .no
def wipe (σ : Env) : List Nat → Env
  | [] => σ
  | i :: r => (wipe σ r).set i none
section
variable (own : List Nat) (tg : Tg) (cond : Bx) (elt : Ex) (g : List (Nat × Cell)) (σ : Env)
noncomputable def compL : List PyData → List PyData → Store → R (D × Store)
  | [], acc, S => when_ (stand g (S ++ [.lst acc])) (.ok (.p (.list acc), S))
  | x :: xs, acc, S => when_ (stand g (S ++ [.lst acc])) (bx (tg x (wipe σ own)) fun σ1 => bd (cond σ1 (S ++ [.lst acc])) fun b S1 => if b = true then bd (elt σ1 S1) fun y S2 => bd (fz S2 y) fun d S3 => when_ (stand [(S.length, .lst acc)] S3) (compL xs (acc ++ [d]) (S3.take S.length))
      else when_ (stand [(S.length, .lst acc)] S1) (compL xs acc (S1.take S.length)))
end
noncomputable def mComp (own : List Nat) (src : Is) (tg : Tg) (cond : Bx) (elt : Ex) : Ex := fun σ S => bd (src σ S) fun s S1 => when_ (decide (s.items.length ≤ Line)) (compL own tg cond elt s.g σ s.items [] S1)
def sPass : Sm := fun σ S => .ok (.nx, σ, S)
def sSeq (a b : Sm) : Sm := fun σ S => bs (a σ S) fun f σ1 S1 => match f with
  | .nx => b σ1 S1
  | _ => .ok (f, σ1, S1)
def sAsg (i : Nat) (a : Ex) : Sm := fun σ S => bd (a σ S) fun x S1 => .ok (.nx, σ.set i (some x), S1)
def setAll : List Nat → List D → Env → Env
  | i :: is, d :: ds, σ => setAll is ds (σ.set i (some d))
  | _, _, σ => σ
def sPar (is : List Nat) (as : As) : Sm := fun σ S => bd (as σ S) fun ds S1 => when_ (decide (ds.length = is.length)) (.ok (.nx, setAll is ds σ, S1))
def pv : D → R PyData
  | .p d => .ok d
  | _ => .no
def sUnp (t : Tg) (a : Ex) : Sm := fun σ S => bd (a σ S) fun x S1 => bx (pv x) fun u => bx (t u σ) fun σ1 => .ok (.nx, σ1, S1)
def sDrop (a : Ex) : Sm := fun σ S => bd (a σ S) fun _ S1 => .ok (.nx, σ, S1)
def sRet (a : Ex) : Sm := fun σ S => bd (a σ S) fun x S1 => .ok (.rt x, σ, S1)
def sIf (t : Bx) (a b : Sm) : Sm := fun σ S => bd (t σ S) fun x S1 => if x = true then a σ S1 else b σ S1
def sBreak : Sm := fun σ S => .ok (.bk, σ, S)
def sCont : Sm := fun σ S => .ok (.ct, σ, S)
def sAug (i : Nat) (f : PyData → PyData → R PyData) (a : Ex) : Sm := fun σ S => match σ[i]? with
  | some (some (.p u)) => bd (a σ S) fun y S1 => bx (dv S1 y) fun v => bx (f u v) fun z => .ok (.nx, σ.set i (some (.p z)), S1)
  | _ => .no
def sSetL (o i a : Ex) : Sm := fun σ S => bd (a σ S) fun y S1 => bd (o σ S1) fun x S2 => bd (i σ S2) fun k S3 => bd (fz S3 y) fun d S4 => match x, k with
  | .ref j, .p (.int n) => match S4[j]? with
    | some (.lst xs) => bx (orNo (ixN xs.length n)) fun m => .ok (.nx, σ, S4.set j (.lst (xs.set m d)))
    | _ => .no
  | _, _ => .no
def sSetD (o i a : Ex) : Sm := fun σ S => bd (a σ S) fun y S1 => bd (o σ S1) fun x S2 => bd (i σ S2) fun k S3 => bd (fz S3 y) fun d S4 => bx (dv S4 k) fun kd => match x with
  | .ref j => match S4[j]? with
    | some (.dct t kvs) => when_ (!t && keyOk t kd && decide (kvs.length < Line)) (.ok (.nx, σ, S4.set j (.dct t (put kvs kd d))))
    | _ => .no
  | _ => .no
section
variable (tg : Tg) (g : List (Nat × Cell)) (body : Sm)
noncomputable def forL : List PyData → Sm
  | [], σ, S => when_ (stand g S) (.ok (.nx, σ, S))
  | x :: xs, σ, S => when_ (stand g S) (bx (tg x σ) fun σ1 => bs (body σ1 S) fun f σ2 S2 => match f with
    | .nx => forL xs σ2 S2
    | .ct => forL xs σ2 S2
    | .bk => .ok (.nx, σ2, S2)
    | .rt d => .ok (.rt d, σ2, S2))
end
noncomputable def sFor (src : Is) (tg : Tg) (body : Sm) : Sm := fun σ S => bd (src σ S) fun s S1 => forL tg s.g body s.items σ S1
section
variable (t : Bx) (body : Sm)
def whileF : Nat → Sm
  | 0, _, _ => .no
  | n + 1, σ, S => bd (t σ S) fun b S1 => if b = true then bs (body σ S1) fun f σ2 S2 => match f with
    | .nx => whileF n σ2 S2
    | .ct => whileF n σ2 S2
    | .bk => .ok (.nx, σ2, S2)
    | .rt d => .ok (.rt d, σ2, S2)
    else .ok (.nx, σ, S1)
end
def FUEL : Nat := 100000000
def sWhile (t : Bx) (body : Sm) : Sm := whileF t body FUEL
def sNever : Sm := fun _ _ => .no
def fin (n : Nat) (d : D) (S : Store) : R (D × Store) := match d with
  | .p x => .ok (.p x, S.take n)
  | .scr ns => .ok (.scr ns, S.take n)
  | .ref i => if i < n then .ok (.ref i, S.take n) else match S[i]? with
    | some (.lst xs) => .ok (.p (.list xs), S.take n)
    | some (.flst xs) => .ok (.p (.list xs), S.take n)
    | some (.tbl t) => when_ (!t.wk) (.ok (.ref n, S.take n ++ [.tbl t, .inn, .inn]))
    | some .inn => .no
    | some .inf => .no
    | some c => .ok (.ref n, S.take n ++ [c])
    | none => .no
  | .rows _ _ _ => .no
  | .fn _ _ _ => .no
  | .exn _ => .no
  | .own _ _ _ => .no
def finM (n : Nat) (d : D) (S : Store) : R (D × Store) := match d with
  | .p x => .ok (.p x, S.take n)
  | .scr ns => .ok (.scr ns, S.take n)
  | .ref i => if i < n then .ok (.ref i, S.take n) else match S[i]? with
    | some (.tbl t) => when_ (!t.wk) (.ok (.ref n, S.take n ++ [.tbl t, .inn, .inn]))
    | some .inn => .no
    | some .inf => .no
    | some c => .ok (.ref n, S.take n ++ [c])
    | none => .no
  | .rows _ _ _ => .no
  | .fn _ _ _ => .no
  | .exn _ => .no
  | .own _ _ _ => .no
def cutEx {α : Type} (n : Nat) : R α → R α
  | .ex e S => .ex e (S.take n)
  | r => r
def start (slots : Nat) (ds : List D) : Env := ds.map some ++ List.replicate (slots - ds.length) none
def fnOf (fi : Nat → D → Store → R (D × Store)) (np slots : Nat) (body : Sm) : Fn := fun ds S => when_ (decide (ds.length = np)) (cutEx S.length (bs (body (start slots ds) S) fun f _ S1 => match f with
  | .rt d => fi S.length d S1
  | .nx => fi S.length (.p .none) S1
  | _ => .no))
end Mi
end
section
namespace Mi
open PySem PySem.Spec PyProof.Rows L2
def Cell.free (c : Cell) : Bool := match c with
  | .lst _ => true
  | .dct _ _ => true
  | .nst _ _ => true
  | .tab _ _ => true
  | .tdc _ => true
  | .tdv b _ => b
  | .tbl _ => true
  | .inn => true
  | .obj _ _ => true
  | _ => false
def Cell.kd : Cell → Nat
  | .tbl _ => 2
  | .inn => 1
  | .inf => 1
  | _ => 0
def Live (ρ : List Addr) (S : Store) (a : Addr) : Prop := ∃ (i : Nat) (c : Cell), ρ[i]? = some a ∧ S[i]? = some c ∧ c.free = true
def TupAt (H : Hp) (a : Addr) (xs : List V) : Prop := ∃ o : Obj, H a = some (.frz o (.tup xs)) ∧ o.dict = none ∧ o.cls = .type "tuple"
theorem TupAt.sq {K : PySem.W.Frag} {H : Hp} {a : Addr} {xs : List V} (h : TupAt H a xs) : SqT K H a xs := by
  obtain ⟨o, h, _⟩ := h
  exact .inl (.inr ⟨o, h⟩)
section
variable (K : PySem.W.Frag)
def keyD : Key → PyData
  | .inl i => .int i
  | .inr x => .str x
def DTfv (o : Obj) (xs : List (List Int × Addr × V)) (a : Addr) (h : Heap) : Prop := ∃ (P : Program) (w : World) (es : Array DictEntry) (ep : Nat) (us : List Value), Vals (xs.map fun x => x.2.2) us ∧ h.get? a = some o ∧ o.ExactDict ∧ o.data = .dict es ep ∧
  es.toList = ((xs.zip us).map fun p => (p.1.1, p.1.2.1, p.2)).map (entryOfKey (tupleKind (PySem.intKind P w)))
def DtOk (xs : List (List Int × Addr × V)) (a : Addr) : Prop := xs ≠ [] ∧ (xs.map (·.1)).Nodup ∧ (a == sysModules) = false ∧ xs.length ≤ sizeLine
mutual
inductive Pd (L : Addr → Prop) (H : Hp) : V → PyData → Prop
  | non : Pd L H .non .none
  | bl (b : Bool) : Pd L H (.bl b) (.bool b)
  | int (i : Int) : Pd L H (.int i) (.int i)
  | str (x : Str) : Pd L H (.str x) (.str x)
  | lst {a : Addr} {xs : List V} {ds : List PyData} : H a = some (.lst xs) → ¬ L a → Pds L H xs ds → Pd L H (.ref a) (.list ds)
  | tup {a : Addr} {xs : List V} {ds : List PyData} : TupAt H a xs → Pds L H xs ds → Pd L H (.ref a) (.tuple ds)
  | dct {a : Addr} : H a = some (.dK []) → ¬ L a → Pd L H (.ref a) (.dict [])
  | dk {a : Addr} {us : List (Key × V)} {kvs : List (PyData × PyData)} : H a = some (.dK us) → ¬ L a → Kvp L H us kvs → us ≠ [] → Pd L H (.ref a) (.dict kvs)
  | dt {a : Addr} {o : Obj} {xs : List (List Int × Addr × V)} {kvs : List (PyData × PyData)} : H a = some (.ext (DTfv o xs a)) → ¬ L a → Kvt L H xs kvs → DtOk xs a → Pd L H (.ref a) (.dict kvs)
inductive Pds (L : Addr → Prop) (H : Hp) : List V → List PyData → Prop
  | nil : Pds L H [] []
  | cons {v : V} {vs : List V} {d : PyData} {ds : List PyData} : Pd L H v d → Pds L H vs ds → Pds L H (v :: vs) (d :: ds)
inductive Kvp (L : Addr → Prop) (H : Hp) : List (Key × V) → List (PyData × PyData) → Prop
  | nil : Kvp L H [] []
  | cons {k : Key} {v : V} {d : PyData} {r : List (Key × V)} {s : List (PyData × PyData)} : Pd L H v d → Kvp L H r s → Kvp L H ((k, v) :: r) ((keyD k, d) :: s)
inductive Kvt (L : Addr → Prop) (H : Hp) : List (List Int × Addr × V) → List (PyData × PyData) → Prop
  | nil : Kvt L H [] []
  | cons {k : List Int} {b : Addr} {v : V} {d : PyData} {r : List (List Int × Addr × V)} {s : List (PyData × PyData)} : TupAt H b (k.map V.int) → Pd L H v d → Kvt L H r s → Kvt L H ((k, b, v) :: r) ((.tuple (k.map .int), d) :: s)
end
structure Gr (L L' : Addr → Prop) (H H' : Hp) : Prop where
  live : ∀ a, L' a → L a ∨ H a = none
  keep : ∀ a o, H a = some o → ¬ L a → H' a = some o
  there : ∀ a, H' a = none → H a = none
  frzs : ∀ a o u, H a = some (.frz o u) → H' a = some (.frz o u)
end
section
variable {K : PySem.W.Frag} {L L' L'' : Addr → Prop} {H H' H'' : Hp}
theorem Gr.refl : Gr L L H H := ⟨fun _ h => .inl h, fun _ _ h _ => h, fun _ h => h, fun _ _ _ h => h⟩
theorem Gr.trans (a : Gr L L' H H') (b : Gr L' L'' H' H'') : Gr L L'' H H'' where
  live := fun x h => by
    rcases b.live x h with h | h
    · exact a.live x h
    · exact .inr (a.there x h)
  keep := fun x o h n => by
    refine b.keep x o (a.keep x o h n) fun z => ?_
    rcases a.live x z with z | z
    · exact n z
    · rw [h] at z; cases z
  there := fun x h => a.there x (b.there x h)
  frzs := fun x o u h => b.frzs x o u (a.frzs x o u h)
theorem Gr.tup {a : Addr} {xs : List V} (g : Gr L L' H H') (h : TupAt H a xs) : TupAt H' a xs := by
  obtain ⟨o, h1, h2⟩ := h
  exact ⟨o, g.frzs a o _ h1, h2⟩
mutual
theorem Pd.mono (g : Gr L L' H H') : ∀ (d : PyData) (v : V), Pd L H v d → Pd L' H' v d
  | .none, _, .non => .non
  | .bool _, _, .bl b => .bl b
  | .int _, _, .int i => .int i
  | .str _, _, .str x => .str x
  | .list ds, _, .lst (a := a) h n r => .lst (g.keep _ _ h n) (fun z => by
      rcases g.live a z with z | z
      · exact n z
      · rw [h] at z; cases z) (Pds.mono g ds _ r)
  | .tuple ds, _, .tup h r => .tup (g.tup h) (Pds.mono g ds _ r)
  | .dict [], _, .dct (a := a) h n => .dct (g.keep _ _ h n) (fun z => by
      rcases g.live a z with z | z
      · exact n z
      · rw [h] at z; cases z)
  | .dict kvs, _, .dk (a := a) h n r ne => .dk (g.keep _ _ h n) (fun z => by
      rcases g.live a z with z | z
      · exact n z
      · rw [h] at z; cases z) (Kvp.mono g kvs _ r) ne
  | .dict kvs, _, .dt (a := a) h n r ne => .dt (g.keep _ _ h n) (fun z => by
      rcases g.live a z with z | z
      · exact n z
      · rw [h] at z; cases z) (Kvt.mono g kvs _ r) ne
theorem Pds.mono (g : Gr L L' H H') : ∀ (ds : List PyData) (vs : List V), Pds L H vs ds → Pds L' H' vs ds
  | [], _, .nil => .nil
  | d :: ds, _, .cons a b => .cons (Pd.mono g d _ a) (Pds.mono g ds _ b)
theorem Kvp.mono (g : Gr L L' H H') : ∀ (ds : List (PyData × PyData)) (vs : List (Key × V)), Kvp L H vs ds → Kvp L' H' vs ds
  | [], _, .nil => .nil
  | (_, d) :: ds, _, .cons a b => .cons (Pd.mono g d _ a) (Kvp.mono g ds _ b)
theorem Kvt.mono (g : Gr L L' H H') : ∀ (ds : List (PyData × PyData)) (vs : List (List Int × Addr × V)), Kvt L H vs ds → Kvt L' H' vs ds
  | [], _, .nil => .nil
  | (_, d) :: ds, _, .cons t a b => .cons (g.tup t) (Pd.mono g d _ a) (Kvt.mono g ds _ b)
end
mutual
theorem Pd.less (g : ∀ a, L' a → L a) : ∀ (d : PyData) (v : V), Pd L H v d → Pd L' H v d
  | .none, _, .non => .non
  | .bool _, _, .bl b => .bl b
  | .int _, _, .int i => .int i
  | .str _, _, .str x => .str x
  | .list ds, _, .lst h n r => .lst h (fun z => n (g _ z)) (Pds.less g ds _ r)
  | .tuple ds, _, .tup h r => .tup h (Pds.less g ds _ r)
  | .dict [], _, .dct h n => .dct h (fun z => n (g _ z))
  | .dict kvs, _, .dk h n r ne => .dk h (fun z => n (g _ z)) (Kvp.less g kvs _ r) ne
  | .dict kvs, _, .dt h n r ne => .dt h (fun z => n (g _ z)) (Kvt.less g kvs _ r) ne
theorem Pds.less (g : ∀ a, L' a → L a) : ∀ (ds : List PyData) (vs : List V), Pds L H vs ds → Pds L' H vs ds
  | [], _, .nil => .nil
  | d :: ds, _, .cons a b => .cons (Pd.less g d _ a) (Pds.less g ds _ b)
theorem Kvp.less (g : ∀ a, L' a → L a) : ∀ (ds : List (PyData × PyData)) (vs : List (Key × V)), Kvp L H vs ds → Kvp L' H vs ds
  | [], _, .nil => .nil
  | (_, d) :: ds, _, .cons a b => .cons (Pd.less g d _ a) (Kvp.less g ds _ b)
theorem Kvt.less (g : ∀ a, L' a → L a) : ∀ (ds : List (PyData × PyData)) (vs : List (List Int × Addr × V)), Kvt L H vs ds → Kvt L' H vs ds
  | [], _, .nil => .nil
  | (_, d) :: ds, _, .cons t a b => .cons t (Pd.less g d _ a) (Kvt.less g ds _ b)
end
theorem Pds.length : ∀ {vs : List V} {ds : List PyData}, Pds L H vs ds → vs.length = ds.length
  | _, _, .nil => rfl
  | _, _, .cons _ t => congrArg (· + 1) (Pds.length t)
theorem Pds.at : ∀ {vs : List V} {ds : List PyData}, Pds L H vs ds → ∀ {i : Nat} {d : PyData}, ds[i]? = some d → ∃ v, vs[i]? = some v ∧ Pd L H v d
  | _, _, .nil, i, d, h => by simp at h
  | _, _, .cons a t, 0, d, h => by
    simp at h
    subst h
    exact ⟨_, rfl, a⟩
  | _, _, .cons a t, i + 1, d, h => by
    obtain ⟨v, h1, h2⟩ := Pds.at t (i := i) (by simpa using h)
    exact ⟨v, by simpa using h1, h2⟩
theorem Pds.append : ∀ {vs ws : List V} {ds es : List PyData}, Pds L H vs ds → Pds L H ws es → Pds L H (vs ++ ws) (ds ++ es)
  | _, _, _, _, .nil, b => b
  | _, _, _, _, .cons a t, b => .cons a (Pds.append t b)
theorem Pds.take : ∀ {vs : List V} {ds : List PyData} (n : Nat), Pds L H vs ds → Pds L H (vs.take n) (ds.take n)
  | _, _, 0, _ => .nil
  | _, _, _ + 1, .nil => .nil
  | _, _, n + 1, .cons a t => .cons a (Pds.take n t)
theorem Pds.drop : ∀ {vs : List V} {ds : List PyData} (n : Nat), Pds L H vs ds → Pds L H (vs.drop n) (ds.drop n)
  | _, _, 0, r => r
  | _, _, _ + 1, .nil => .nil
  | _, _, n + 1, .cons a t => Pds.drop n t
theorem Pds.set {v : V} {d : PyData} (r : Pd L H v d) : ∀ {vs : List V} {ds : List PyData} (i : Nat), Pds L H vs ds → Pds L H (vs.set i v) (ds.set i d)
  | _, _, _, .nil => .nil
  | _, _, 0, .cons _ t => .cons r t
  | _, _, i + 1, .cons a t => .cons a (Pds.set r i t)
theorem Pds.erase : ∀ {vs : List V} {ds : List PyData} (i : Nat), Pds L H vs ds → Pds L H (vs.eraseIdx i) (ds.eraseIdx i)
  | _, _, _, .nil => .nil
  | _, _, 0, .cons _ t => t
  | _, _, i + 1, .cons a t => .cons a (Pds.erase i t)
theorem Pds.rep {vs : List V} {ds : List PyData} (r : Pds L H vs ds) : ∀ k : Nat, Pds L H (List.replicate k vs).flatten (List.replicate k ds).flatten
  | 0 => .nil
  | k + 1 => by
    rw [List.replicate_succ, List.replicate_succ, List.flatten_cons, List.flatten_cons]
    exact Pds.append r (Pds.rep r k)
theorem Pds.dropLast {vs : List V} {ds : List PyData} (r : Pds L H vs ds) : Pds L H vs.dropLast ds.dropLast := by
  rw [List.dropLast_eq_take, List.dropLast_eq_take, r.length]
  exact Pds.take _ r
theorem Pds.ints : ∀ {ds : List PyData} {ns : List Int} {vs : List V}, Pds L H vs ds → ints? ds = some ns → vs = ns.map V.int
  | [], ns, _, .nil, h => by
    simp [ints?] at h
    subst h
    rfl
  | .int i :: ds, ns, _, .cons (.int _) t, h => by
    simp only [ints?, Option.map_eq_some_iff] at h
    obtain ⟨ms, h1, h2⟩ := h
    subst h2
    rw [Pds.ints t h1]
    rfl
  | .none :: ds, ns, _, _, h => by simp [ints?] at h
  | .bool _ :: ds, ns, _, _, h => by simp [ints?] at h
  | .str _ :: ds, ns, _, _, h => by simp [ints?] at h
  | .list _ :: ds, ns, _, _, h => by simp [ints?] at h
  | .tuple _ :: ds, ns, _, _, h => by simp [ints?] at h
  | .dict _ :: ds, ns, _, _, h => by simp [ints?] at h
theorem Pds.bools : ∀ {ds : List PyData} {ns : List Bool} {vs : List V}, Pds L H vs ds → bools? ds = some ns → vs = ns.map V.bl
  | [], ns, _, .nil, h => by
    simp [bools?] at h
    subst h
    rfl
  | .bool i :: ds, ns, _, .cons (.bl _) t, h => by
    simp only [bools?, Option.map_eq_some_iff] at h
    obtain ⟨ms, h1, h2⟩ := h
    subst h2
    rw [Pds.bools t h1]
    rfl
  | .none :: ds, ns, _, _, h => by simp [bools?] at h
  | .int _ :: ds, ns, _, _, h => by simp [bools?] at h
  | .str _ :: ds, ns, _, _, h => by simp [bools?] at h
  | .list _ :: ds, ns, _, _, h => by simp [bools?] at h
  | .tuple _ :: ds, ns, _, _, h => by simp [bools?] at h
  | .dict _ :: ds, ns, _, _, h => by simp [bools?] at h
theorem pds_ints : ∀ ns : List Int, Pds L H (ns.map V.int) (ns.map .int)
  | [] => .nil
  | n :: ns => .cons (.int n) (pds_ints ns)
mutual
theorem Pd.dp : ∀ (d : PyData) (v : V), d.plain = true → Pd L H v d → Dp K H v d
  | .none, _, _, .non => .non
  | .bool _, _, _, .bl b => .bl b
  | .int _, _, _, .int i => .int i
  | .str _, _, _, .str x => .str x
  | .list ds, _, p, .lst h _ r => .lst (.of h) (Pds.dp ds _ (by rwa [PyData.plain] at p) r)
  | .tuple ds, _, p, .tup h r => .tup h.sq (Pds.dp ds _ (by rwa [PyData.plain] at p) r)
  | .dict [], _, p, .dct _ _ => by simp [PyData.plain] at p
  | .dict _, _, p, .dk _ _ _ _ => by simp [PyData.plain] at p
  | .dict _, _, p, .dt _ _ _ _ => by simp [PyData.plain] at p
theorem Pds.dp : ∀ (ds : List PyData) (vs : List V), PyData.plainAll ds = true → Pds L H vs ds → DpAll K H vs ds
  | [], _, _, .nil => .nil
  | d :: ds, _, p, .cons a b => by
    rw [PyData.plainAll, Bool.and_eq_true] at p
    exact .cons (Pd.dp d _ p.1 a) (Pds.dp ds _ p.2 b)
end
end
section
variable (K : PySem.W.Frag)
inductive KvK (L : Addr → Prop) (H : Hp) : List (Key × V) → List (PyData × PyData) → Prop
  | nil : KvK L H [] []
  | cons {k : Key} {v : V} {d : PyData} {r : List (Key × V)} {s : List (PyData × PyData)} : Pd L H v d → KvK L H r s → KvK L H ((k, v) :: r) ((keyD k, d) :: s)
inductive KvT (L : Addr → Prop) (H : Hp) : List (List Key × V) → List (PyData × PyData) → Prop
  | nil : KvT L H [] []
  | cons {k : List Key} {v : V} {d : PyData} {r : List (List Key × V)} {s : List (PyData × PyData)} : Pd L H v d → KvT L H r s → KvT L H ((k, v) :: r) ((.tuple (k.map keyD), d) :: s)
def TabL (L : Addr → Prop) (H : Hp) (a : Addr) (q : Str) : Prop := ∃ ps : Array Value, H a = some (.tbl ps) ∧ TriplesOk ps.toList ∧ ∀ (pos : Pos) (cv : Value), codeAmong pos ps.toList = some cv → ∃ c, cv = .ref c ∧ H c = some (LamX.CodeO c q) ∧ ¬ L c
def DTfx (xs : List (List Int × Addr)) (a : Addr) (h : Heap) : Prop := ∃ (P : Program) (w : World) (o : Obj) (es : Array DictEntry) (ep : Nat), h.get? a = some o ∧ o.ExactDict ∧ o.data = .dict es ep ∧
  es.toList = (xs.map fun x => (x.1, x.2, Value.bool true)).map (entryOfKey (tupleKind (PySem.intKind P w)))
def TdAt (H : Hp) (a : Addr) (ks : List (List Int)) : Prop := ∃ xs : List (List Int × Addr), xs.map (·.1) = ks ∧ H a = some (.ext (DTfx xs a)) ∧ (∀ x ∈ xs, TupAt H x.2 (x.1.map V.int)) ∧ ks.Nodup ∧ (a == sysModules) = false ∧ ks.length ≤ sizeLine
inductive FsOk (L : Addr → Prop) (H : Hp) : List (Str × V) → List (Str × PyData) → Prop
  | nil : FsOk L H [] []
  | cons {n : Str} {v : V} {d : PyData} {r : List (Str × V)} {s : List (Str × PyData)} : Pd L H v d → FsOk L H r s → FsOk L H ((n, v) :: r) ((n, d) :: s)
def CellOk (L : Addr → Prop) (H : Hp) (a : Addr) : Cell → Prop
  | .lst xs => ∃ vs, H a = some (.lst vs) ∧ Pds L H vs xs
  | .flst xs => ∃ vs, H a = some (.lst vs) ∧ Pds L H vs xs
  | .dct false kvs => ∃ us, H a = some (.dK us) ∧ KvK L H us kvs
  | .dct true kvs => False
  | .fdct false kvs => ∃ o us, H a = some (.frz o (.dK us)) ∧ KvK L H us kvs
  | .fdct true kvs => False
  | .nst _ _ => ∃ vs, H a = some (.lst vs)
  | .tab P q => a = P ∧ TabL L H a q
  | .tdc ks => TdAt H a ks
  | .tdv _ kvs => ∃ (o : Obj) (xs : List (List Int × Addr × V)), H a = some (.ext (DTfv o xs a)) ∧ Kvt L H xs (kvs.map tvD) ∧ (xs.map (·.1)) = kvs.map (·.1) ∧ (kvs.map (·.1)).Nodup ∧ (a == sysModules) = false ∧ kvs.length ≤ sizeLine
  | .dead => ∃ o, H a = some o
  | .tbl t => ∃ dx fs, H a = some (.ins t.C dx fs)
  | .inn => ∃ o, H a = some o ∧ ((∃ vs, o = .lst vs) ∨ ∃ us, o = .dK us)
  | .inf => ∃ o, H a = some o
  | .obj C fs => ∃ dx us, H a = some (.ins C dx us) ∧ FsOk L H us fs
def tbFs (t : Tbl) (la da : Addr) : List (Str × V) := [("way_used", .str t.way), ("rule_used", .str t.rule), ("values_known", .ref da), ("slots_held", .ref la)]
def TbAt (ρ : List Addr) (S : Store) (H : Hp) (i : Nat) (x : Addr) (t : Tbl) : Prop := ∃ dx la da vs us, ρ[i + 1]? = some la ∧ ρ[i + 2]? = some da ∧ S[i + 1]? = some .inn ∧ H x = some (.ins t.C dx (tbFs t la da)) ∧ H la = some (.lst vs) ∧ Pds (Live ρ S) H vs t.held ∧ KvK (Live ρ S) H us t.kvs ∧
  ((t.wk = false ∧ S[i + 2]? = some .inn ∧ H da = some (.dK us)) ∨ (t.wk = true ∧ S[i + 2]? = some .inf ∧ ∃ o, H da = some (.frz o (.dK us))))
structure Ok (ρ : List Addr) (S : Store) (H : Hp) : Prop where
  len : ρ.length = S.length
  nd : ρ.Nodup
  cell : ∀ (i : Nat) (a : Addr) (c : Cell), ρ[i]? = some a → S[i]? = some c → CellOk (Live ρ S) H a c
  tb : ∀ (i : Nat) (x : Addr) (t : Tbl), ρ[i]? = some x → S[i]? = some (.tbl t) → TbAt ρ S H i x t
def Scr (H : Hp) (a : Addr) (ns : List Int) : Prop := (∃ o, H a = some (.frz o (.lst (ns.map V.int)))) ∨ ∀ H', SqL K H' a (ns.map V.int)
def RefAt (ρ : List Addr) (S : Store) (i : Nat) (a : Addr) : Prop := ρ[i]? = some a ∧ ∃ c, S[i]? = some c ∧ c.kd ≠ 1
def RowsAt (ρ : List Addr) (S : Store) (rs : List Nat) (as : List Addr) : Prop := as.length = rs.length ∧ ∀ (k j : Nat), rs[k]? = some j → ∃ b, as[k]? = some b ∧ RefAt ρ S j b
def NstOk (ρ : List Addr) (S : Store) (H : Hp) (v : V) (i n : Nat) (rs : List Nat) : Prop :=
  ∃ a n' rs', v = .ref a ∧ ρ[i]? = some a ∧ S[i]? = some (.nst n' rs') ∧ n ≤ n' ∧ (n' = n → rs' = rs ∧ ∃ as, H a = some (.lst (as.map V.ref)) ∧ RowsAt ρ S rs as)
def exnO (a : Addr) (C : Value) (d : Option Addr) : HO := .ext fun h => ∃ o : Obj, h.get? a = some o ∧ o.cls = C ∧ o.dict = d ∧ ∃ vs, o.data = .fields vs
def FldOk (ρ : List Addr) (S : Store) (H : Hp) (e : Exc) (C : Value) (d : Option Addr) : Prop := C = .ref (He.ga K e.c) ∧ match e.f with
  | none => d = none
  | some (n, x) => ∃ dd fs w, d = some dd ∧ H dd = some (.xd fs) ∧ ¬ Live ρ S dd ∧ fs.lookup n = some w ∧ Pd (Live ρ S) H w x
def DcOk (ρ : List Addr) (S : Store) (H : Hp) (v : V) : Dc → Prop
  | .p d => Pd (Live ρ S) H v d
  | .ref i => ∃ a, RefAt ρ S i a ∧ v = .ref a
def CapOk (ρ : List Addr) (S : Store) (H : Hp) (f : Fp) : Prop := ∀ (j : Nat) (d : Dc), f.e[j]? = some (some d) → ∃ w, f.s[j]? = some (some w) ∧ DcOk ρ S H w d
def DOk (ρ : List Addr) (S : Store) (H : Hp) (v : V) : D → Prop
  | .rows i n rs => NstOk ρ S H v i n rs
  | .own i k n => ∃ a t, v = .ref a ∧ S[i]? = some (.tbl t) ∧ n ≤ t.ver ∧ (t.ver = n → k < 2 ∧ ρ[i + 1 + k]? = some a)
  | .fn f c q => v = .ref f.a ∧ H c = some (LamX.CodeO c q) ∧ ¬ Live ρ S c ∧ CapOk ρ S H f
  | .exn e => ∃ a C d, v = .ref a ∧ ¬ Live ρ S a ∧ H a = some (exnO a C d) ∧ FldOk K ρ S H e C d
  | .p d => Pd (Live ρ S) H v d
  | .ref i => ∃ a, RefAt ρ S i a ∧ v = .ref a
  | .scr ns => ∃ a, v = .ref a ∧ Scr K H a ns
inductive Dv (L : Addr → Prop) (H : Hp) : V → PyData → Prop
  | data {v : V} {d : PyData} : Pd L H v d → Dv L H v d
  | lst {a : Addr} {vs : List V} {xs : List PyData} : H a = some (.lst vs) → Pds L H vs xs → Dv L H (.ref a) (.list xs)
  | dK {a : Addr} {us : List (Key × V)} {kvs : List (PyData × PyData)} : Rd H a (.dK us) → KvK L H us kvs → Dv L H (.ref a) (.dict kvs)
inductive Dr (L : Addr → Prop) (H : Hp) : V → PyData → Prop
  | dv {v : V} {d : PyData} : Dv L H v d → Dr L H v d
  | scr {a : Addr} {ns : List Int} : SqL K H a (ns.map V.int) → Dr L H (.ref a) (.list (ns.map .int))
structure Xt (ρ : List Addr) (S : Store) (H : Hp) (ρ' : List Addr) (S' : Store) (H' : Hp) : Prop where
  kd : ∀ (i : Nat) (c : Cell), S[i]? = some c → ∃ c', S'[i]? = some c' ∧ c'.kd = c.kd
  pre : ∀ (i : Nat) (a : Addr) (c : Cell), ρ[i]? = some a → S[i]? = some c → c.kd ≠ 1 → ρ'[i]? = some a
  gr : Gr (Live ρ S) (Live ρ' S') H H'
  nst : ∀ (i : Nat) (a : Addr) (n : Nat) (rs : List Nat), ρ[i]? = some a → S[i]? = some (.nst n rs) → ∃ n' rs', S'[i]? = some (.nst n' rs') ∧ n ≤ n' ∧ (n' = n → rs' = rs ∧ ∀ o, H a = some o → H' a = some o)
  ver : ∀ (i : Nat) (t : Tbl), S[i]? = some (.tbl t) → ∃ t', S'[i]? = some (.tbl t') ∧ t.ver ≤ t'.ver ∧ (t'.ver = t.ver → ∀ k, k < 2 → ρ'[i + 1 + k]? = ρ[i + 1 + k]?)
structure EnvOk (ρ : List Addr) (S : Store) (H : Hp) (env : Env) (σ : L2.St) : Prop where
  len : σ.length = env.length
  slot : ∀ (i : Nat) (d : D), env[i]? = some (some d) → ∃ v, σ[i]? = some (some v) ∧ DOk K ρ S H v d
end
section
variable {K : PySem.W.Frag} {L L' L'' : Addr → Prop} {ρ ρ' ρ'' : List Addr} {S S' S'' : Store} {H H' H'' : Hp} {env env' : Env} {σ σ' : L2.St}
theorem KvK.mono (g : Gr L L' H H') : ∀ {us : List (Key × V)} {kvs : List (PyData × PyData)}, KvK L H us kvs → KvK L' H' us kvs
  | _, _, .nil => .nil
  | _, _, .cons a t => .cons (Pd.mono g _ _ a) (KvK.mono g t)
theorem KvT.mono (g : Gr L L' H H') : ∀ {us : List (List Key × V)} {kvs : List (PyData × PyData)}, KvT L H us kvs → KvT L' H' us kvs
  | _, _, .nil => .nil
  | _, _, .cons a t => .cons (Pd.mono g _ _ a) (KvT.mono g t)
theorem KvK.less (g : ∀ a, L' a → L a) : ∀ {us : List (Key × V)} {kvs : List (PyData × PyData)}, KvK L H us kvs → KvK L' H us kvs
  | _, _, .nil => .nil
  | _, _, .cons a t => .cons (Pd.less g _ _ a) (KvK.less g t)
theorem KvT.less (g : ∀ a, L' a → L a) : ∀ {us : List (List Key × V)} {kvs : List (PyData × PyData)}, KvT L H us kvs → KvT L' H us kvs
  | _, _, .nil => .nil
  | _, _, .cons a t => .cons (Pd.less g _ _ a) (KvT.less g t)
theorem FsOk.mono (g : Gr L L' H H') : ∀ {us : List (Str × V)} {fs : List (Str × PyData)}, FsOk L H us fs → FsOk L' H' us fs
  | _, _, .nil => .nil
  | _, _, .cons a t => .cons (Pd.mono g _ _ a) (FsOk.mono g t)
theorem FsOk.less (g : ∀ a, L' a → L a) : ∀ {us : List (Str × V)} {fs : List (Str × PyData)}, FsOk L H us fs → FsOk L' H us fs
  | _, _, .nil => .nil
  | _, _, .cons a t => .cons (Pd.less g _ _ a) (FsOk.less g t)
theorem CellOk.less {a : Addr} {c : Cell} (g : ∀ a, L' a → L a) (h : CellOk L H a c) : CellOk L' H a c := by
  cases c with
  | lst xs => obtain ⟨vs, h1, h2⟩ := h; exact ⟨vs, h1, Pds.less g _ _ h2⟩
  | flst xs => obtain ⟨vs, h1, h2⟩ := h; exact ⟨vs, h1, Pds.less g _ _ h2⟩
  | dct t xs =>
    cases t with
    | true => exact h.elim
    | false => obtain ⟨vs, h1, h2⟩ := h; exact ⟨vs, h1, KvK.less g h2⟩
  | fdct t xs =>
    cases t with
    | true => exact h.elim
    | false => obtain ⟨o, vs, h1, h2⟩ := h; exact ⟨o, vs, h1, KvK.less g h2⟩
  | nst n rs => exact h
  | tdc ks => exact h
  | tdv b kvs => obtain ⟨o, xs, h1, h2, h3⟩ := h; exact ⟨o, xs, h1, Kvt.less g _ _ h2, h3⟩
  | dead => exact h
  | tbl t => exact h
  | inn => exact h
  | inf => exact h
  | obj C fs => obtain ⟨dx, us, h1, h2⟩ := h; exact ⟨dx, us, h1, FsOk.less g h2⟩
  | tab P q =>
    obtain ⟨h0, ps, h1, h2, h3⟩ := h
    exact ⟨h0, ps, h1, h2, fun pos cv e => by
      obtain ⟨c, e1, e2, e3⟩ := h3 pos cv e
      exact ⟨c, e1, e2, fun z => e3 (g _ z)⟩⟩
theorem CellOk.mono {a : Addr} {c : Cell} (g : Gr L L' H H') (ha : H' a = H a) (h : CellOk L H a c) : CellOk L' H' a c := by
  cases c with
  | lst xs => obtain ⟨vs, h1, h2⟩ := h; exact ⟨vs, ha.trans h1, Pds.mono g _ _ h2⟩
  | flst xs => obtain ⟨vs, h1, h2⟩ := h; exact ⟨vs, ha.trans h1, Pds.mono g _ _ h2⟩
  | dct t xs =>
    cases t with
    | true => exact h.elim
    | false => obtain ⟨vs, h1, h2⟩ := h; exact ⟨vs, ha.trans h1, KvK.mono g h2⟩
  | fdct t xs =>
    cases t with
    | true => exact h.elim
    | false => obtain ⟨o, vs, h1, h2⟩ := h; exact ⟨o, vs, ha.trans h1, KvK.mono g h2⟩
  | nst n rs => obtain ⟨vs, h1⟩ := h; exact ⟨vs, ha.trans h1⟩
  | tdc ks => obtain ⟨xs, h1, h2, h3, h4⟩ := h; exact ⟨xs, h1, ha.trans h2, fun x hx => g.tup (h3 x hx), h4⟩
  | tdv b kvs => obtain ⟨o, xs, h1, h2, h3⟩ := h; exact ⟨o, xs, ha.trans h1, Kvt.mono g _ _ h2, h3⟩
  | dead => obtain ⟨o, h1⟩ := h; exact ⟨o, ha.trans h1⟩
  | tbl t => obtain ⟨dx, fs, h1⟩ := h; exact ⟨dx, fs, ha.trans h1⟩
  | inn => obtain ⟨o, h1, h2⟩ := h; exact ⟨o, ha.trans h1, h2⟩
  | inf => obtain ⟨o, h1⟩ := h; exact ⟨o, ha.trans h1⟩
  | obj C fs => obtain ⟨dx, us, h1, h2⟩ := h; exact ⟨dx, us, ha.trans h1, FsOk.mono g h2⟩
  | tab P q =>
    obtain ⟨h0, ps, h1, h2, h3⟩ := h
    exact ⟨h0, ps, ha.trans h1, h2, fun pos cv e => by
      obtain ⟨c, e1, e2, e3⟩ := h3 pos cv e
      refine ⟨c, e1, g.keep _ _ e2 e3, fun z => ?_⟩
      rcases g.live c z with z | z
      · exact e3 z
      · rw [e2] at z; cases z⟩
theorem CellOk.some {a : Addr} {c : Cell} (h : CellOk L H a c) : ∃ o, H a = some o ∧ (c.free = true → ∀ (u1 : Obj) (u2 : HO), o ≠ .frz u1 u2) := by
  cases c with
  | lst xs => obtain ⟨vs, h1, h2⟩ := h; exact ⟨_, h1, fun _ _ _ z => by cases z⟩
  | flst xs => obtain ⟨vs, h1, h2⟩ := h; exact ⟨_, h1, fun _ _ _ z => by cases z⟩
  | dct t xs =>
    cases t with
    | true => exact h.elim
    | false => obtain ⟨vs, h1, h2⟩ := h; exact ⟨_, h1, fun _ _ _ z => by cases z⟩
  | fdct t xs =>
    cases t with
    | true => exact h.elim
    | false => obtain ⟨o, vs, h1, h2⟩ := h; exact ⟨_, h1, fun z => by cases z⟩
  | nst n rs => obtain ⟨vs, h1⟩ := h; exact ⟨_, h1, fun _ _ _ z => by cases z⟩
  | tab P q => obtain ⟨_, ps, h1, _⟩ := h; exact ⟨_, h1, fun _ _ _ z => by cases z⟩
  | tdc ks => obtain ⟨xs, _, h1, _⟩ := h; exact ⟨_, h1, fun _ _ _ z => by cases z⟩
  | tdv b kvs => obtain ⟨o, xs, h1, _⟩ := h; exact ⟨_, h1, fun _ _ _ z => by cases z⟩
  | dead => obtain ⟨o, h1⟩ := h; exact ⟨o, h1, fun z => by cases z⟩
  | tbl t => obtain ⟨dx, fs, h1⟩ := h; exact ⟨_, h1, fun _ _ _ z => by cases z⟩
  | inn => obtain ⟨o, h1, h2⟩ := h; exact ⟨o, h1, fun _ u1 u2 z => by rcases h2 with ⟨_, h2⟩ | ⟨_, h2⟩ <;> (rw [z] at h2; cases h2)⟩
  | inf => obtain ⟨o, h1⟩ := h; exact ⟨o, h1, fun z => by cases z⟩
  | obj C fs => obtain ⟨dx, us, h1, h2⟩ := h; exact ⟨_, h1, fun _ _ _ z => by cases z⟩
theorem TbAt.keep {i : Nat} {x : Addr} {t : Tbl} (h : TbAt ρ S H i x t) (g : Gr (Live ρ S) (Live ρ' S') H H') (hr : ∀ j, j = i ∨ j = i + 1 ∨ j = i + 2 → ρ'[j]? = ρ[j]?) (hS : ∀ j, j = i + 1 ∨ j = i + 2 → S'[j]? = S[j]?)
    (hH : ∀ j b, j = i ∨ j = i + 1 ∨ j = i + 2 → ρ[j]? = some b → H' b = H b) (hx : ρ[i]? = some x) : TbAt ρ' S' H' i x t := by
  obtain ⟨dx, la, da, vs, us, h1, h2, h3, h4, h5, h6, h7, h8⟩ := h
  have e0 := hH i x (.inl rfl) hx
  have e1 := hH (i + 1) la (.inr (.inl rfl)) h1
  have e2 := hH (i + 2) da (.inr (.inr rfl)) h2
  refine ⟨dx, la, da, vs, us, (hr _ (.inr (.inl rfl))).trans h1, (hr _ (.inr (.inr rfl))).trans h2, (hS _ (.inl rfl)).trans h3, e0.trans h4, e1.trans h5, Pds.mono g _ _ h6, h7.mono g, ?_⟩
  rcases h8 with ⟨a1, a2, a3⟩ | ⟨a1, a2, o, a3⟩
  · exact .inl ⟨a1, (hS _ (.inr rfl)).trans a2, e2.trans a3⟩
  · exact .inr ⟨a1, (hS _ (.inr rfl)).trans a2, o, e2.trans a3⟩
theorem kd_app {T : Store} : ∀ (i : Nat) (c : Cell), S[i]? = some c → ∃ c', (S ++ T)[i]? = some c' ∧ c'.kd = c.kd := fun i c h => ⟨c, by rw [List.getElem?_append_left (List.getElem?_eq_some_iff.mp h).1]; exact h, rfl⟩
theorem pre_app {r : List Addr} : ∀ (i : Nat) (a : Addr) (c : Cell), ρ[i]? = some a → S[i]? = some c → c.kd ≠ 1 → (ρ ++ r)[i]? = some a := fun i a c h _ _ => by
  rw [List.getElem?_append_left (List.getElem?_eq_some_iff.mp h).1]
  exact h
theorem Ok.tb_app (ok : Ok ρ S H) {r : List Addr} {T : Store} (g : Gr (Live ρ S) (Live (ρ ++ r) (S ++ T)) H H') (hH : ∀ b o, H b = some o → b ∈ ρ → H' b = some o) {i : Nat} {x : Addr} {t : Tbl} (h1 : ρ[i]? = some x) (h2 : S[i]? = some (.tbl t)) : TbAt (ρ ++ r) (S ++ T) H' i x t := by
  have q := ok.tb i x t h1 h2
  obtain ⟨dx, la, da, vs, us, q1, q2, q3, q4, q5, q6, q7, q8⟩ := ok.tb i x t h1 h2
  have l1 := (List.getElem?_eq_some_iff.mp q1).1
  have l2 := (List.getElem?_eq_some_iff.mp q2).1
  have hl := ok.len
  refine q.keep g (fun j hj => List.getElem?_append_left (by omega)) (fun j hj => List.getElem?_append_left (by omega)) (fun j b hj hb => ?_) h1
  have hs : j < S.length := by omega
  obtain ⟨o, ho, _⟩ := (ok.cell j b S[j] hb (List.getElem?_eq_getElem hs)).some
  rw [hH b o ho (List.mem_of_getElem? hb), ho]
theorem Ok.ver_app (ok : Ok ρ S H) {r : List Addr} {T : Store} : ∀ (i : Nat) (t : Tbl), S[i]? = some (.tbl t) → ∃ t', (S ++ T)[i]? = some (.tbl t') ∧ t.ver ≤ t'.ver ∧ (t'.ver = t.ver → ∀ k, k < 2 → (ρ ++ r)[i + 1 + k]? = ρ[i + 1 + k]?) := fun i t h => by
  obtain ⟨x, hx⟩ : ∃ x, ρ[i]? = some x := ⟨_, List.getElem?_eq_getElem (by rw [ok.len]; exact (List.getElem?_eq_some_iff.mp h).1)⟩
  obtain ⟨dx, la, da, vs, us, q1, q2, _⟩ := ok.tb i x t hx h
  have l2 := (List.getElem?_eq_some_iff.mp q2).1
  exact ⟨t, by rw [List.getElem?_append_left (List.getElem?_eq_some_iff.mp h).1]; exact h, Nat.le_refl _, fun _ k hk => List.getElem?_append_left (by omega)⟩
theorem kd0 {c : Cell} (h : c.kd = 0) : c.kd ≠ 1 := by rw [h]; decide
theorem RefAt.last {p : Addr} {c : Cell} (hl : ρ.length = S.length) (hk : c.kd ≠ 1) : RefAt (ρ ++ [p]) (S ++ [c]) S.length p := ⟨by rw [← hl]; simp, c, by simp, hk⟩
theorem Ok.tb_set {j : Nat} {c0 c : Cell} (ok : Ok ρ S H) (h2 : S[j]? = some c0) (h0 : c0.kd = 0) (hc : c.kd = 0) (g : Gr (Live ρ S) (Live ρ (S.set j c)) H H') (hH : ∀ (k : Nat) (b : Addr), j ≠ k → ρ[k]? = some b → H' b = H b) :
    ∀ (i : Nat) (x : Addr) (t : Tbl), ρ[i]? = some x → (S.set j c)[i]? = some (.tbl t) → TbAt ρ (S.set j c) H' i x t := fun i x t h1 h3 => by
  have hij : j ≠ i := by
    rintro rfl
    rw [List.getElem?_set_self (List.getElem?_eq_some_iff.mp h2).1] at h3
    cases h3
    cases hc
  rw [List.getElem?_set_ne hij] at h3
  have q := ok.tb i x t h1 h3
  obtain ⟨dx, la, da, vs, us, q1, q2, q3, q4, q5, q6, q7, q8⟩ := ok.tb i x t h1 h3
  have n1 : j ≠ i + 1 := by
    rintro rfl
    rw [q3] at h2
    cases h2
    cases h0
  have n2 : j ≠ i + 2 := by
    rintro rfl
    rcases q8 with ⟨_, q8, _⟩ | ⟨_, q8, _⟩ <;> (rw [q8] at h2; cases h2; cases h0)
  refine q.keep g (fun _ _ => rfl) (fun k hk => ?_) (fun k b hk hb => hH k b ?_ hb) h1
  · rcases hk with rfl | rfl
    · exact List.getElem?_set_ne n1
    · exact List.getElem?_set_ne n2
  · rcases hk with rfl | rfl | rfl
    · exact hij
    · exact n1
    · exact n2
theorem Xt.refl : Xt ρ S H ρ S H := ⟨fun i c h => ⟨c, h, rfl⟩, fun i a c h _ _ => h, Gr.refl, fun i a n rs _ h2 => ⟨n, rs, h2, Nat.le_refl _, fun _ => ⟨rfl, fun _ h => h⟩⟩, fun i t h => ⟨t, h, Nat.le_refl _, fun _ _ _ => rfl⟩⟩
theorem Xt.trans (a : Xt ρ S H ρ' S' H') (b : Xt ρ' S' H' ρ'' S'' H'') : Xt ρ S H ρ'' S'' H'' := by
  refine ⟨fun i c h => ?_, fun i x c h1 h2 h3 => ?_, a.gr.trans b.gr, fun i x k rs h1 h2 => ?_, fun i t h => ?_⟩
  · obtain ⟨c1, h1, e1⟩ := a.kd i c h
    obtain ⟨c2, h2, e2⟩ := b.kd i c1 h1
    exact ⟨c2, h2, e2.trans e1⟩
  · obtain ⟨c1, h4, e1⟩ := a.kd i c h2
    exact b.pre i x c1 (a.pre i x c h1 h2 h3) h4 (by rw [e1]; exact h3)
  · obtain ⟨k1, r1, e1, l1, q1⟩ := a.nst i x k rs h1 h2
    obtain ⟨k2, r2, e2, l2, q2⟩ := b.nst i x k1 r1 (a.pre i x _ h1 h2 (by simp [Cell.kd])) e1
    refine ⟨k2, r2, e2, Nat.le_trans l1 l2, fun e => ?_⟩
    have e1 : k1 = k := by omega
    have e2 : k2 = k1 := by omega
    obtain ⟨u1, w1⟩ := q1 e1
    obtain ⟨u2, w2⟩ := q2 e2
    exact ⟨u2.trans u1, fun o h => w2 o (w1 o h)⟩
  · obtain ⟨t1, h1, l1, q1⟩ := a.ver i t h
    obtain ⟨t2, h2, l2, q2⟩ := b.ver i t1 h1
    exact ⟨t2, h2, Nat.le_trans l1 l2, fun e k hk => (q2 (by omega) k hk).trans (q1 (by omega) k hk)⟩
theorem Xt.at {i : Nat} {a : Addr} (e : Xt ρ S H ρ' S' H') (h : RefAt ρ S i a) : RefAt ρ' S' i a := by
  obtain ⟨h1, c, h2, h3⟩ := h
  obtain ⟨c', h4, e4⟩ := e.kd i c h2
  exact ⟨e.pre i a c h1 h2 h3, c', h4, by rw [e4]; exact h3⟩
theorem Xt.le (e : Xt ρ S H ρ' S' H') : S.length ≤ S'.length := by
  apply Classical.byContradiction
  intro h
  obtain ⟨c', h1, _⟩ := e.kd S'.length S[S'.length] (List.getElem?_eq_getElem (by omega))
  have := (List.getElem?_eq_some_iff.mp h1).1
  omega
theorem kd_set {c c0 : Cell} {i : Nat} (h : S[i]? = some c0) (hc : c.kd = c0.kd) : ∀ (j : Nat) (d : Cell), S[j]? = some d → ∃ d', (S.set i c)[j]? = some d' ∧ d'.kd = d.kd := fun j d hd => by
  by_cases hj : i = j
  · subst hj
    rw [h] at hd
    cases hd
    exact ⟨c, by rw [List.getElem?_set_self (List.getElem?_eq_some_iff.mp h).1], hc⟩
  · exact ⟨d, by rw [List.getElem?_set_ne hj]; exact hd, rfl⟩
theorem ver_set {c c0 : Cell} {i : Nat} (h : S[i]? = some c0) (hc : c0.kd ≠ 2) : ∀ (j : Nat) (t : Tbl), S[j]? = some (.tbl t) → ∃ t', (S.set i c)[j]? = some (.tbl t') ∧ t.ver ≤ t'.ver ∧ (t'.ver = t.ver → ∀ k, k < 2 → ρ[j + 1 + k]? = ρ[j + 1 + k]?) := fun j t ht => by
  by_cases hj : i = j
  · subst hj
    rw [h] at ht
    cases ht
    exact absurd rfl hc
  · exact ⟨t, by rw [List.getElem?_set_ne hj]; exact ht, Nat.le_refl _, fun _ _ _ => rfl⟩
theorem RowsAt.mono {rs : List Nat} {as : List Addr} (e : Xt ρ S H ρ' S' H') (h : RowsAt ρ S rs as) : RowsAt ρ' S' rs as := ⟨h.1, fun k j hk => by
  obtain ⟨b, h1, h2⟩ := h.2 k j hk
  exact ⟨b, h1, e.at h2⟩⟩
theorem Xt.stay (e : Xt ρ S H ρ' S' H') {a : Addr} {o : HO} (h : H a = some o) (n : ¬ Live ρ S a) : H' a = some o ∧ ¬ Live ρ' S' a :=
  ⟨e.gr.keep a o h n, fun z => (e.gr.live a z).elim n fun y => by rw [h] at y; cases y⟩
theorem FldOk.mono {x : Exc} {C : Value} {d : Option Addr} (e : Xt ρ S H ρ' S' H') (h : FldOk K ρ S H x C d) : FldOk K ρ' S' H' x C d := by
  obtain ⟨h1, h2⟩ := h
  refine ⟨h1, ?_⟩
  split at h2
  · exact h2
  · obtain ⟨dd, fs, w, q1, q2, q3, q4, q5⟩ := h2
    obtain ⟨r1, r2⟩ := e.stay q2 q3
    exact ⟨dd, fs, w, q1, r1, r2, q4, Pd.mono e.gr _ _ q5⟩
theorem CapOk.mono {f : Fp} (e : Xt ρ S H ρ' S' H') (h : CapOk ρ S H f) : CapOk ρ' S' H' f := fun j d hd => by
  obtain ⟨w, h1, h2⟩ := h j d hd
  refine ⟨w, h1, ?_⟩
  cases d with
  | p d => exact Pd.mono e.gr d w h2
  | ref i =>
    obtain ⟨a, h3, h4⟩ := h2
    exact ⟨a, e.at h3, h4⟩
theorem DOk.mono {v : V} {d : D} (e : Xt ρ S H ρ' S' H') (h : DOk K ρ S H v d) : DOk K ρ' S' H' v d := by
  cases d with
  | fn f c q =>
    obtain ⟨h1, h2, h3, h4⟩ := h
    obtain ⟨r1, r2⟩ := e.stay h2 h3
    exact ⟨h1, r1, r2, h4.mono e⟩
  | own i k n =>
    obtain ⟨a, t, h1, h2, h3, h4⟩ := h
    obtain ⟨t', e1, l1, q1⟩ := e.ver i t h2
    refine ⟨a, t', h1, e1, Nat.le_trans h3 l1, fun z => ?_⟩
    obtain ⟨hk, h5⟩ := h4 (by omega)
    exact ⟨hk, (q1 (by omega) k hk).trans h5⟩
  | exn x =>
    obtain ⟨a, C, d, h1, h2, h3, h4⟩ := h
    obtain ⟨r1, r2⟩ := e.stay h3 h2
    exact ⟨a, C, d, h1, r2, r1, h4.mono e⟩
  | p d => exact Pd.mono e.gr d v h
  | ref i =>
    obtain ⟨a, h1, h2⟩ := h
    exact ⟨a, e.at h1, h2⟩
  | rows i n rs =>
    obtain ⟨a, k, r, h1, h2, h3, h4, h5⟩ := h
    obtain ⟨k2, r2, e1, l1, q1⟩ := e.nst i a k r h2 h3
    refine ⟨a, k2, r2, h1, e.pre i a _ h2 h3 (by simp [Cell.kd]), e1, Nat.le_trans h4 l1, fun z => ?_⟩
    have z1 : k2 = k := by omega
    obtain ⟨u1, w1⟩ := q1 z1
    obtain ⟨u2, as, w2, w3⟩ := h5 (by omega)
    exact ⟨u1.trans u2, as, w1 _ w2, w3.mono e⟩
  | scr ns =>
    obtain ⟨a, h1, h2⟩ := h
    refine ⟨a, h1, ?_⟩
    rcases h2 with ⟨o, h2⟩ | h2
    · exact .inl ⟨o, e.gr.frzs a o _ h2⟩
    · exact .inr h2
theorem EnvOk.mono (e : Xt ρ S H ρ' S' H') (h : EnvOk K ρ S H env σ) : EnvOk K ρ' S' H' env σ :=
  ⟨h.len, fun i d q => let ⟨v, h1, h2⟩ := h.slot i d q; ⟨v, h1, h2.mono e⟩⟩
theorem EnvOk.set {i : Nat} {d : D} {v : V} (h : EnvOk K ρ S H env σ) (r : DOk K ρ S H v d) : EnvOk K ρ S H (env.set i (some d)) (σ.set i (some v)) := by
  refine ⟨by simp [h.len], fun j d' q => ?_⟩
  by_cases hj : i = j
  · subst hj
    by_cases hl : i < env.length
    · rw [List.getElem?_set_self hl] at q
      cases q
      exact ⟨v, by rw [List.getElem?_set_self (by rw [h.len]; exact hl)], r⟩
    · rw [List.set_eq_of_length_le (by omega)] at q
      have := (List.getElem?_eq_some_iff.mp q).1
      omega
  · rw [List.getElem?_set_ne hj] at q ⊢
    exact h.slot j d' q
theorem EnvOk.none {i : Nat} (h : EnvOk K ρ S H env σ) : EnvOk K ρ S H (env.set i Option.none) (σ.set i Option.none) := by
  refine ⟨by simp [h.len], fun j d' q => ?_⟩
  by_cases hj : i = j
  · subst hj
    by_cases hl : i < env.length
    · rw [List.getElem?_set_self hl] at q
      cases q
    · rw [List.set_eq_of_length_le (by omega)] at q
      have := (List.getElem?_eq_some_iff.mp q).1
      omega
  · rw [List.getElem?_set_ne hj] at q ⊢
    exact h.slot j d' q
theorem EnvOk.wipe (h : EnvOk K ρ S H env σ) : ∀ own : List Nat, EnvOk K ρ S H (Mi.wipe env own) (L2.wipe σ own)
  | [] => h
  | i :: r => (EnvOk.wipe h r).none
theorem Ok.live {a : Addr} (ok : Ok ρ S H) (h : Live ρ S a) : ∃ o, H a = some o ∧ ∀ (u1 : Obj) (u2 : HO), o ≠ .frz u1 u2 := by
  obtain ⟨i, c, h1, h2, h3⟩ := h
  obtain ⟨o, q1, q2⟩ := (ok.cell i a c h1 h2).some
  exact ⟨o, q1, q2 h3⟩
theorem Ok.dv {v : V} {d : D} {u : PyData} (ok : Ok ρ S H) (h : DOk K ρ S H v d) (e : dv S d = .ok u) : Dv (Live ρ S) H v u := by
  cases d with
  | p d =>
    cases e
    exact .data h
  | ref i =>
    obtain ⟨a, h1, rfl⟩ := h
    cases hs : S[i]? with
    | none => simp only [Mi.dv, hs] at e; cases e
    | some c =>
      have q := ok.cell i a c h1.1 hs
      simp only [Mi.dv, hs] at e
      cases c with
      | lst xs => cases e; obtain ⟨vs, q1, q2⟩ := q; exact .lst q1 q2
      | flst xs => cases e; obtain ⟨vs, q1, q2⟩ := q; exact .lst q1 q2
      | dct t xs =>
        cases e
        cases t with
        | true => exact q.elim
        | false => obtain ⟨vs, q1, q2⟩ := q; exact .dK (.inl q1) q2
      | fdct t xs =>
        cases e
        cases t with
        | true => exact q.elim
        | false => obtain ⟨o, vs, q1, q2⟩ := q; exact .dK (.inr ⟨o, q1⟩) q2
      | nst n rs => cases e
      | tab P q => cases e
      | tdc ks => cases e
      | tdv b kvs => cases e
      | dead => cases e
      | tbl t => cases e
      | inn => cases e
      | inf => cases e
      | obj C fs => cases e
  | scr ns => cases e
  | rows i n rs => cases e
  | fn f c q => cases e
  | exn x => cases e
  | own i k n =>
    obtain ⟨a, t, rfl, hs, hn, h5⟩ := h
    obtain ⟨x, hx⟩ : ∃ x, ρ[i]? = some x := ⟨_, List.getElem?_eq_getElem (by rw [ok.len]; exact (List.getElem?_eq_some_iff.mp hs).1)⟩
    simp only [Mi.dv, ownV, hs] at e
    split at e
    · rename_i ev
      obtain ⟨hk, h6⟩ := h5 ev
      obtain ⟨dx, la, da, vs, us, q1, q2, q3, q4, q5, q6, q7, q8⟩ := ok.tb i x t hx hs
      match k, hk, e, h6 with
      | 0, _, e, h6 =>
        cases e
        rw [show i + 1 + 0 = i + 1 from rfl, q1] at h6
        cases h6
        exact .lst q5 q6
      | 1, _, e, h6 =>
        cases e
        rw [show i + 1 + 1 = i + 2 from rfl, q2] at h6
        cases h6
        rcases q8 with ⟨_, _, q8⟩ | ⟨_, _, o, q8⟩
        · exact .dK (.inl q8) q7
        · exact .dK (.inr ⟨o, q8⟩) q7
    · cases e
theorem Ok.dr {v : V} {d : D} {u : PyData} (ok : Ok ρ S H) (h : DOk K ρ S H v d) (e : dvr S d = .ok u) : Dr K (Live ρ S) H v u := by
  cases d with
  | p d => exact .dv (ok.dv h e)
  | ref i => exact .dv (ok.dv (d := .ref i) h e)
  | scr ns =>
    cases e
    obtain ⟨a, rfl, h⟩ := h
    refine .scr ?_
    rcases h with ⟨o, h⟩ | h
    · exact .inl (.inr ⟨o, h⟩)
    · exact h H
  | rows i n rs => cases e
  | fn f c q => cases e
  | exn x => cases e
  | own i k n => exact .dv (ok.dv (d := .own i k n) h e)
theorem Gr.new {p : Addr} {o : HO} (hp : H p = none) : Gr L L H (upd H p o) where
  live := fun a h => .inl h
  keep := fun a u h _ => by rw [upd_ne (ne_of_none h hp)]; exact h
  there := fun a h => by
    by_cases e : a = p
    · rw [e]; exact hp
    · rwa [upd_ne e] at h
  frzs := fun a o' u h => by rw [upd_ne (ne_of_none h hp)]; exact h
theorem nst_new {p : Addr} {o : HO} (hp : H p = none) : ∀ (i : Nat) (a : Addr) (n : Nat) (rs : List Nat), ρ[i]? = some a → S[i]? = some (.nst n rs) → ∃ n' rs', S[i]? = some (.nst n' rs') ∧ n ≤ n' ∧ (n' = n → rs' = rs ∧ ∀ u, H a = some u → upd H p o a = some u) :=
  fun i a n rs _ h2 => ⟨n, rs, h2, Nat.le_refl _, fun _ => ⟨rfl, fun u h => by rw [upd_ne (ne_of_none h hp)]; exact h⟩⟩
theorem Xt.new {p : Addr} {o : HO} (hp : H p = none) : Xt ρ S H ρ S (upd H p o) := ⟨fun i c h => ⟨c, h, rfl⟩, fun i a c h _ _ => h, Gr.new hp, nst_new hp, fun i t h => ⟨t, h, Nat.le_refl _, fun _ _ _ => rfl⟩⟩
theorem Ok.at (ok : Ok ρ S H) {i : Nat} {a : Addr} (h : ρ[i]? = some a) : ∃ o, H a = some o := by
  have hs : i < S.length := by rw [← ok.len]; exact (List.getElem?_eq_some_iff.mp h).1
  obtain ⟨o, h1, _⟩ := (ok.cell i a S[i] h (List.getElem?_eq_getElem hs)).some
  exact ⟨o, h1⟩
theorem Ok.new {p : Addr} {o : HO} (ok : Ok ρ S H) (hp : H p = none) : Ok ρ S (upd H p o) :=
  ⟨ok.len, ok.nd, fun i a c h1 h2 => by
    have q := ok.cell i a c h1 h2
    obtain ⟨u, hu, _⟩ := q.some
    exact q.mono (Gr.new hp) (upd_ne (ne_of_none hu hp)), fun i x t h1 h2 => (ok.tb i x t h1 h2).keep (Gr.new hp) (fun _ _ => rfl) (fun _ _ => rfl) (fun j b _ hb => by
    obtain ⟨u, hu⟩ := ok.at hb
    exact upd_ne (ne_of_none hu hp)) h1⟩
theorem Live.ne {p : Addr} (ok : Ok ρ S H) (hp : H p = none) : ¬ Live ρ S p := fun h => by
  obtain ⟨o, h1, _⟩ := ok.live h
  rw [hp] at h1
  cases h1
end
section
variable (K : PySem.W.Frag)
def Aft {α : Type} (ρ : List Addr) (S : Store) (H : Hp) (r : R α) (st : α → Store) (k : α → List Addr → Hp → Prop) : Prop := match r with
  | .ok a => ∀ ρ' H', Xt ρ S H ρ' (st a) H' → Ok ρ' (st a) H' → k a ρ' H'
  | .ex _ _ => False
  | .no => False
def TX (f : Ex) : TE := fun σ H Q => ∃ ρ env S, EnvOk K ρ S H env σ ∧ Ok ρ S H ∧ Aft ρ S H (f env S) (fun p => p.2) fun p ρ' H' => ∀ v, DOk K ρ' p.2 H' v p.1 → Q v H'
def TBx (f : Bx) : TT := fun σ H Q => ∃ ρ env S, EnvOk K ρ S H env σ ∧ Ok ρ S H ∧ Aft ρ S H (f env S) (fun p => p.2) fun p _ H' => Q p.1 H'
inductive DsOk (ρ : List Addr) (S : Store) (H : Hp) : List V → List D → Prop
  | nil : DsOk ρ S H [] []
  | cons {v : V} {vs : List V} {d : D} {ds : List D} : DOk K ρ S H v d → DsOk ρ S H vs ds → DsOk ρ S H (v :: vs) (d :: ds)
def TAs (f : As) : TA := fun σ H Q => ∃ ρ env S, EnvOk K ρ S H env σ ∧ Ok ρ S H ∧ Aft ρ S H (f env S) (fun p => p.2) fun p ρ' H' => ∀ vs, DsOk K ρ' p.2 H' vs p.1 → Q vs H'
def TN (f : Ex) : TE := fun σ H Q => ∃ ρ env S, EnvOk K ρ S H env σ ∧ Ok ρ S H ∧ Aft ρ S H (f env S) (fun p => p.2) fun p ρ' H' => ∃ xs, p.1 = .p (.list xs) ∧ ∀ a vs, H' a = none → Pds (Live ρ' p.2) H' vs xs → Q (.ref a) (upd H' a (.lst vs))
def FlOk (D' : Ends) (ρ : List Addr) (S : Store) (H : Hp) (env : Env) : Fl → Prop
  | .nx => ∀ σ, EnvOk K ρ S H env σ → D'.nx σ H
  | .bk => ∀ σ, EnvOk K ρ S H env σ → D'.bk σ H
  | .ct => ∀ σ, EnvOk K ρ S H env σ → D'.ct σ H
  | .rt d => ∀ v, DOk K ρ S H v d → D'.rt v H
def TSm (f : Sm) : TS := fun D' σ H => ∃ ρ env S, EnvOk K ρ S H env σ ∧ Ok ρ S H ∧ Aft ρ S H (f env S) (fun p => p.2.2) fun p ρ' H' => FlOk K D' ρ' p.2.2 H' p.2.1 p.1
end
section
variable {K : PySem.W.Frag} {ρ ρ' : List Addr} {S S' : Store} {H H' : Hp} {env env' : Env} {σ σ' : L2.St}
theorem DsOk.mono {ρ' : List Addr} (e : Xt ρ S H ρ' S' H') : ∀ {vs : List V} {ds : List D}, DsOk K ρ S H vs ds → DsOk K ρ' S' H' vs ds
  | _, _, .nil => .nil
  | _, _, .cons a t => .cons (a.mono e) (DsOk.mono e t)
theorem Aft.mono {α : Type} {r : R α} {st : α → Store} {k k' : α → List Addr → Hp → Prop} (h : Aft ρ S H r st k) (g : ∀ a ρ' H', Xt ρ S H ρ' (st a) H' → Ok ρ' (st a) H' → k a ρ' H' → k' a ρ' H') : Aft ρ S H r st k' := by
  cases r with
  | ok a => exact fun ρ' H' e o => g a ρ' H' e o (h ρ' H' e o)
  | ex e S => exact h
  | no => exact h
theorem Aft.from {α : Type} {r : R α} {st : α → Store} {k : α → List Addr → Hp → Prop} (e : Xt ρ S H ρ' S' H') (h : Aft ρ S H r st k) : Aft ρ' S' H' r st k := by
  cases r with
  | ok a => exact fun ρ'' H'' e' o => h ρ'' H'' (e.trans e') o
  | ex e S => exact h
  | no => exact h
theorem Aft.bd {α β : Type} {r : R (α × Store)} {f : α → Store → R β} {st : β → Store} {k : β → List Addr → Hp → Prop} (h : Aft ρ S H (Mi.bd r f) st k) :
    Aft ρ S H r (fun p => p.2) fun p ρ' H' => Aft ρ' p.2 H' (f p.1 p.2) st k := by
  cases r with
  | ok a => exact fun ρ' H' e o => Aft.from e h
  | ex e S => exact h
  | no => exact h
theorem Aft.bs {β : Type} {r : R (Fl × Env × Store)} {f : Fl → Env → Store → R β} {st : β → Store} {k : β → List Addr → Hp → Prop} (h : Aft ρ S H (Mi.bs r f) st k) :
    Aft ρ S H r (fun p => p.2.2) fun p ρ' H' => Aft ρ' p.2.2 H' (f p.1 p.2.1 p.2.2) st k := by
  cases r with
  | ok a => exact fun ρ' H' e o => Aft.from e h
  | ex e S => exact h
  | no => exact h
theorem Aft.bx {α β : Type} {r : R α} {f : α → R β} {st : β → Store} {k : β → List Addr → Hp → Prop} (h : Aft ρ S H (Mi.bx r f) st k) :
    ∃ a, r = .ok a ∧ Aft ρ S H (f a) st k := by
  cases r with
  | ok a => exact ⟨a, rfl, h⟩
  | ex e S => exact False.elim h
  | no => exact False.elim h
theorem Aft.when {β : Type} {c : Bool} {r : R β} {st : β → Store} {k : β → List Addr → Hp → Prop} (h : Aft ρ S H (when_ c r) st k) : c = true ∧ Aft ρ S H r st k := by
  cases c with
  | true => exact ⟨rfl, h⟩
  | false => exact False.elim h
theorem Aft.orNo {α β : Type} {o : Option α} {f : α → R β} {st : β → Store} {k : β → List Addr → Hp → Prop} (h : Aft ρ S H (Mi.bx (Mi.orNo o) f) st k) :
    ∃ a, o = some a ∧ Aft ρ S H (f a) st k := by
  cases o with
  | some a => exact ⟨a, rfl, h⟩
  | none => exact False.elim h
theorem Aft.at {α : Type} {a : α} {st : α → Store} {k : α → List Addr → Hp → Prop} (h : Aft ρ S H (.ok a) st k) (e : Xt ρ S H ρ' (st a) H') (o : Ok ρ' (st a) H') : k a ρ' H' := h ρ' H' e o
theorem Aft.here {α : Type} {a : α} {st : α → Store} {k : α → List Addr → Hp → Prop} (h : Aft ρ S H (.ok a) st k) (hs : st a = S) (o : Ok ρ S H) : k a ρ H := h ρ H (by rw [hs]; exact Xt.refl) (by rw [hs]; exact o)
end
section
variable {X : Cx} {e : Expr}
theorem PE.up {t t' : TE} (h : PE X e t) (g : ∀ σ H Q, t' σ H Q → t σ H Q) : PE X e t' := ⟨fun pins s σ H Q I q => h.run pins s σ H Q I (g σ H Q q)⟩
theorem PT.up {t t' : TT} (h : PT X e t) (g : ∀ σ H Q, t' σ H Q → t σ H Q) : PT X e t' := ⟨fun pins s σ H Q I q => h.run pins s σ H Q I (g σ H Q q)⟩
theorem PW.up {t t' : TT} (h : PW X e t) (g : ∀ σ H Q, t' σ H Q → t σ H Q) : PW X e t' := ⟨fun wh pins s σ H Q I q => h.run wh pins s σ H Q I (g σ H Q q)⟩
theorem PA.up {es : List Expr} {t t' : TA} (h : PA X es t) (g : ∀ σ H Q, t' σ H Q → t σ H Q) : PA X es t' := ⟨fun pos pins s σ H Q I q => h.run pos pins s σ H Q I (g σ H Q q)⟩
theorem PS.up {st : Stmt} {t t' : TS} (h : PS X st t) (g : ∀ D' σ H, t' D' σ H → t D' σ H) : PS X st t' := ⟨fun pins s σ H D' I q => h.run pins s σ H D' I (g D' σ H q)⟩
theorem PSs.up {st : List Stmt} {t t' : TS} (h : PSs X st t) (g : ∀ D' σ H, t' D' σ H → t D' σ H) : PSs X st t' := ⟨fun pins s σ H D' I q => h.run pins s σ H D' I (g D' σ H q)⟩
end
section
variable {X : Cx} {e a b c : Expr} {pos p : Pos} {fa fb fc : Ex}
theorem x_c {v : V} {d : PyData} (h : PE X e (tC v)) (hd : ∀ H L, Pd L H v d) : PE X e (TX X.K (mC d)) := PE.up h fun σ H Q ⟨ρ, env, S, eo, ok, q⟩ => by
  exact (Aft.here q rfl ok) v (hd H _)
theorem x_int {i : Int} {j : Nat} : PE X (.Constant (.int i) j pos) (TX X.K (mC (.int i))) := x_c pe_int fun _ _ => .int i
theorem x_bool {i : Bool} {j : Nat} : PE X (.Constant (.bool i) j pos) (TX X.K (mC (.bool i))) := x_c pe_bl fun _ _ => .bl i
theorem x_none {j : Nat} : PE X (.Constant .none j pos) (TX X.K (mC .none)) := x_c pe_non fun _ _ => .non
theorem x_str {i : Str} {j : Nat} : PE X (.Constant (.str i) j pos) (TX X.K (mC (.str i))) := x_c pe_str fun _ _ => .str i
theorem x_v (i : Nat) {x : Str} (hN : X.N[i]? = some x := by rfl) (hv : Vis X.env.scope x := by first | exact Or.inl rfl | exact Or.inr (Or.inl rfl) | exact Or.inr (Or.inr rfl)) (hd : (x == ("__debug__" : Str)) = false := by decide)
    (hcd : (x == ("__classdict__" : Str)) = false := by decide) : PE X (.Name x pos) (TX X.K (mV i)) := PE.up (pe_var hN hv hd hcd) fun σ H Q ⟨ρ, env, S, eo, ok, q⟩ => by
  unfold mV at q
  cases h : env[i]? with
  | none => rw [h] at q; exact False.elim q
  | some o =>
    cases o with
    | none => rw [h] at q; exact False.elim q
    | some d =>
      rw [h] at q
      obtain ⟨v, h1, h2⟩ := eo.slot i d h
      exact ⟨v, h1, (Aft.here q rfl ok) v h2⟩
def rD (K : PySem.W.Frag) (f : PyData → PyData → R PyData) : R2 := fun x y H Q => ∃ (ρ : List Addr) (S : Store) (u v z : PyData), Ok ρ S H ∧ Dv (Live ρ S) H x u ∧ Dv (Live ρ S) H y v ∧ f u v = .ok z ∧ ∀ H' w, Xt ρ S H ρ S H' → Ok ρ S H' → Pd (Live ρ S) H' w z → Q w H'
def rD1 (K : PySem.W.Frag) (f : PyData → R PyData) : V → Hp → VK → Prop := fun x H Q => ∃ (ρ : List Addr) (S : Store) (u z : PyData), Ok ρ S H ∧ Dv (Live ρ S) H x u ∧ f u = .ok z ∧ ∀ H' w, Xt ρ S H ρ S H' → Ok ρ S H' → Pd (Live ρ S) H' w z → Q w H'
theorem tO2 {K : PySem.W.Frag} {f : PyData → PyData → R PyData} {σ : L2.St} {H : Hp} {Q : VK} (h : TX K (mO2 f fa fb) σ H Q) : tOp (rD K f) (TX K fa) (TX K fb) σ H Q := by
  obtain ⟨ρ, env, S, eo, ok, q⟩ := h
  refine ⟨ρ, env, S, eo, ok, (Aft.bd q).mono fun p ρ1 H1 e1 o1 q1 v1 d1 => ?_⟩
  refine ⟨ρ1, env, p.2, eo.mono e1, o1, (Aft.bd q1).mono fun p2 ρ2 H2 e2 o2 q2 v2 d2 => ?_⟩
  obtain ⟨u, hu, q3⟩ := Aft.bx q2
  obtain ⟨w, hw, q4⟩ := Aft.bx q3
  obtain ⟨z, hz, q5⟩ := Aft.bx q4
  exact ⟨ρ2, p2.2, u, w, z, o2, o2.dv (d1.mono e2) hu, o2.dv d2 hw, hz, fun H' w' e' o' r' => q5 ρ2 H' e' o' w' r'⟩
theorem tO1 {K : PySem.W.Frag} {f : PyData → R PyData} {σ : L2.St} {H : Hp} {Q : VK} (h : TX K (mO1 f fa) σ H Q) : tUn (rD1 K f) (TX K fa) σ H Q := by
  obtain ⟨ρ, env, S, eo, ok, q⟩ := h
  refine ⟨ρ, env, S, eo, ok, (Aft.bd q).mono fun p ρ1 H1 e1 o1 q1 v1 d1 => ?_⟩
  obtain ⟨u, hu, q3⟩ := Aft.bx q1
  obtain ⟨z, hz, q5⟩ := Aft.bx q3
  exact ⟨ρ1, p.2, u, z, o1, o1.dv d1 hu, hz, fun H' w' e' o' r' => q5 ρ1 H' e' o' w' r'⟩
theorem x_op {op : Operator} {f : PyData → PyData → R PyData} (ho : OpR X (binaryOp op) (rD X.K f)) (ha : PE X a (TX X.K fa)) (hb : PE X b (TX X.K fb)) : PE X (.BinOp a op b pos) (TX X.K (mO2 f fa fb)) :=
  PE.up (pe_op ho ha hb) fun _ _ _ h => tO2 h
theorem x_un {op : UnaryOp} {f : PyData → R PyData} (ho : UnR X (unaryOp op) (rD1 X.K f)) (ha : PE X a (TX X.K fa)) : PE X (.UnaryOp op a pos) (TX X.K (mO1 f fa)) :=
  PE.up (pe_un ho ha) fun _ _ _ h => tO1 h
theorem x_cmp {op : CmpOp} {f : PyData → PyData → R PyData} (ho : OpR X (compareOp op) (rD X.K f)) (ha : PE X a (TX X.K fa)) (hb : PE X b (TX X.K fb)) (hm : behindInMarks op b = false := by first | exact nomark _ | rfl) :
    PE X (.Compare a [op] [b] pos) (TX X.K (mO2 f fa fb)) := PE.up (pe_cmpR ho ha hb hm) fun _ _ _ h => tO2 h
theorem t_of {σ : L2.St} {H : Hp} {K : PySem.W.Frag} {Q : Bool → Hp → Prop} (h : TBx K (tE fa) σ H Q) : TX K fa σ H fun x H' => ∃ k, x = .bl k ∧ Q k H' := by
  obtain ⟨ρ, env, S, eo, ok, q⟩ := h
  refine ⟨ρ, env, S, eo, ok, (Aft.bd q).mono fun p ρ1 H1 e1 o1 q1 v1 d1 => ?_⟩
  obtain ⟨d, S1⟩ := p
  cases d with
  | p d =>
    cases d with
    | bool k =>
      cases d1
      exact ⟨k, rfl, Aft.here q1 rfl o1⟩
    | _ => exact False.elim q1
  | _ => exact False.elim q1
theorem t_cmp {op : CmpOp} {f : PyData → PyData → R PyData} (ho : OpR X (compareOp op) (rD X.K f)) (ha : PE X a (TX X.K fa)) (hb : PE X b (TX X.K fb)) (hm : behindInMarks op b = false := by first | exact nomark _ | rfl) :
    PT X (.Compare a [op] [b] pos) (TBx X.K (tE (mO2 f fa fb))) := PT.up (pt_cmpR ho ha hb hm) fun _ _ _ h => tO2 (t_of h)
theorem t_val (ha : PE X e (TX X.K fa)) (he : ∀ whole, isTrue e X.env whole = (do let v ← whole; standAt e.pos; holding [v] (truthy v)) := by intro _; rfl) : PT X e (TBx X.K (tE fa)) :=
  PT.up (pt_val ha he) fun _ _ _ h => t_of h
end
section
variable {K : PySem.W.Frag} {L : Addr → Prop} {H : Hp} {v : V}
theorem Dv.int {i : Int} (h : Dv L H v (.int i)) : v = .int i := by
  cases h with
  | data h => cases h; rfl
theorem Dv.bool {i : Bool} (h : Dv L H v (.bool i)) : v = .bl i := by
  cases h with
  | data h => cases h; rfl
theorem Dv.str {i : Str} (h : Dv L H v (.str i)) : v = .str i := by
  cases h with
  | data h => cases h; rfl
theorem Dv.none (h : Dv L H v .none) : v = .non := by
  cases h with
  | data h => cases h; rfl
theorem Dv.tup {ds : List PyData} (h : Dv L H v (.tuple ds)) : ∃ a xs, v = .ref a ∧ TupAt H a xs ∧ Pds L H xs ds := by
  cases h with
  | data h => cases h with | tup h1 h2 => exact ⟨_, _, rfl, h1, h2⟩
theorem Dv.list {ds : List PyData} (h : Dv L H v (.list ds)) : ∃ a xs, v = .ref a ∧ H a = some (.lst xs) ∧ Pds L H xs ds := by
  cases h with
  | data h => cases h with | lst h1 _ h2 => exact ⟨_, _, rfl, h1, h2⟩
  | lst h1 h2 => exact ⟨_, _, rfl, h1, h2⟩
theorem Dv.seq {d : PyData} {ds : List PyData} (h : Dv L H v d) (e : items? d = some ds) : ∃ a xs, v = .ref a ∧ (H a = some (.lst xs) ∨ TupAt H a xs) ∧ Pds L H xs ds := by
  cases d with
  | list ys =>
    cases e
    obtain ⟨a, xs, h1, h2, h3⟩ := h.list
    exact ⟨a, xs, h1, .inl h2, h3⟩
  | tuple ys =>
    cases e
    obtain ⟨a, xs, h1, h2, h3⟩ := h.tup
    exact ⟨a, xs, h1, .inr h2, h3⟩
  | _ => cases e
theorem Dv.dp {d : PyData} (h : Dv L H v d) (p : d.plain = true) : Dp K H v d := by
  cases h with
  | data h => exact Pd.dp _ _ p h
  | lst h1 h2 => exact .lst (.of h1) (Pds.dp _ _ (by rwa [PyData.plain] at p) h2)
  | dK h1 h2 => simp [PyData.plain] at p
theorem flat_of {d : PyData} (h : flat? d = true) : d.plain = true ∧ d.depth ≤ 1000 := by
  unfold flat? at h
  rw [Bool.and_eq_true, decide_eq_true_eq] at h
  exact h
end
section
open HT
theorem tup_mul_same (l : Addr) (items : Array Value) (n : Nat) (dd : Option Addr) (sl : Array (Option Value)) (x : Int) (u : Tok) (c0 : (decide (x < -(2 ^ 63)) || decide (x ≥ 2 ^ 63)) = false) (c1 : (items.isEmpty || x == 1) = true) :
    Meets (Builtin.«tuple.__mul__» ⟨[.ref l, .int x u], []⟩) (fun _ R s => s.heap.get? l = some { cls := .type "tuple", dict := dd, data := .seq items n, slots := sl } ∧ R (.ok (.ret (Value.ref l))) s) :=
  .of_wp fun prog w A R s h => by
    obtain ⟨hp, g, d, tk, os⟩ := s
    obtain ⟨hl, h⟩ := h
    have f1 := AutoSeq1.idx_int
    wp_walk using wpAny_loadPart' hl
    repeat (first
      | (refine wpAny_ite_false (decide_eq_false (by rw [c0]; exact Bool.false_ne_true)) ?_; wp_walk using wpAny_loadPart' hl)
      | (refine wpAny_ite_true (decide_eq_true c1) ?_; wp_walk using wpAny_loadPart' hl))
    exact ⟨_, rfl, h⟩
theorem tup_mul_zero (l : Addr) (items : Array Value) (n : Nat) (dd : Option Addr) (sl : Array (Option Value)) (x : Int) (u : Tok) (c0 : (decide (x < -(2 ^ 63)) || decide (x ≥ 2 ^ 63)) = false) (c1 : (items.isEmpty || x == 1) = false) (c2 : (decide (x ≤ 0) || items.isEmpty) = true) :
    Meets (Builtin.«tuple.__mul__» ⟨[.ref l, .int x u], []⟩) (fun _ R s => s.heap.get? l = some { cls := .type "tuple", dict := dd, data := .seq items n, slots := sl } ∧
      R (.ok (.ret (Value.ref s.heap.objs.size))) { s with heap := s.heap.push { cls := Value.type "tuple", data := Data.seq #[] }, toks := s.toks }) :=
  .of_wp fun prog w A R s h => by
    obtain ⟨hp, g, d, tk, os⟩ := s
    obtain ⟨hl, h⟩ := h
    have f1 := AutoSeq1.idx_int
    wp_walk using wpAny_loadPart' hl
    repeat (first
      | (refine wpAny_ite_false (decide_eq_false (by rw [c0]; exact Bool.false_ne_true)) ?_; wp_walk using wpAny_loadPart' hl)
      | (refine wpAny_ite_false (decide_eq_false (by rw [c1]; exact Bool.false_ne_true)) ?_; wp_walk using wpAny_loadPart' hl)
      | (refine wpAny_ite_true (decide_eq_true c2) ?_; wp_walk using wpAny_loadPart' hl))
    exact ⟨_, rfl, h⟩
end
section
variable {X : Cx} {pins : List (Addr × Obj)} {s : Shared} {σ : L2.St} {H : Hp} {Q : VK} {ρ : List Addr} {S : Store}
theorem tup_made {ys : List V} {its : List Value} {tk : Nat} (I : L2.Inv X pins σ H s) (hv : Vals ys its) (hz : ys.length ≤ sizeLine)
    (q : ∀ (p : Addr) (H' : Hp), H p = none → (∃ o, H' = upd H p o ∧ TupAt H' p ys) → Q (.ref p) H') :
    EP X pins σ Q (.ref s.heap.objs.size) { s with heap := s.heap.push { cls := .type "tuple", data := .seq its.toArray }, toks := tk } := by
  have hf := I.hok.fresh (Nat.le_refl s.heap.objs.size)
  refine ⟨.ref s.heap.objs.size, upd H s.heap.objs.size (.frz { cls := .type "tuple", data := .seq its.toArray } (.tup ys)), I.laid (fun b ob z => Heap.get?_push_of_some _ z) (Nat.le_refl _) ?_, rfl, q _ _ hf ⟨_, rfl, _, upd_same, rfl, rfl⟩⟩
  exact ⟨Heap.get?_push_size _ rfl, hz, its, hv, IsTup.new _ _⟩
theorem tup_data {ys : List V} {ds : List PyData} {its : List Value} {tk : Nat} (I : L2.Inv X pins σ H s) (ok : Ok ρ S H) (hv : Vals ys its) (hz : ds.length ≤ Line) (r : Pds (Live ρ S) H ys ds)
    (q : ∀ H' w, Xt ρ S H ρ S H' → Ok ρ S H' → Pd (Live ρ S) H' w (.tuple ds) → Q w H') :
    EP X pins σ Q (.ref s.heap.objs.size) { s with heap := s.heap.push { cls := .type "tuple", data := .seq its.toArray }, toks := tk } := by
  refine tup_made I hv (by rw [r.length]; exact hz) fun p H' hp ⟨o, e, h⟩ => ?_
  subst e
  exact q _ _ (Xt.new hp) (ok.new hp) (.tup h (Pds.mono (Gr.new hp) _ _ r))
end
section
theorem tup_rep {X : Cx} {pins : List (Addr × Obj)} {s : Shared} {σ : L2.St} {H : Hp} {l : Addr} {k : Int} {xs : List V} {t : Tok} {Q : VK} (I : L2.Inv X pins σ H s) (hT : SqT X.K H l xs) (hx : xs ≠ []) (h0 : 0 ≤ k) (h1 : k ≤ 1000) (h2 : xs.length ≤ 1000)
    (q1 : k = 1 → EP X pins σ Q (.ref l) s) (q0 : k ≠ 1 → ∀ its tk, Vals (List.replicate k.toNat xs).flatten its → EP X pins σ Q (.ref s.heap.objs.size) { s with heap := s.heap.push { cls := .type "tuple", data := .seq its.toArray }, toks := tk }) : wpAny (model X.prog X.w) X.A (binaryOp .Mult (.ref l) (.int k t)) (EP X pins σ Q) X.xe s := by
  obtain ⟨its, r, ⟨⟨cls, dd, data, sl⟩, ho, hc, n, hd⟩, hs⟩ := I.tuple hT
  simp only at hc hd
  subst hc hd
  have hi : its.toArray.isEmpty = false := by
    cases r with
    | nil => exact absurd rfl hx
    | cons a b => rfl
  have c0 : (decide (k < -(2 ^ 63)) || decide (k ≥ 2 ^ 63)) = false := by
    have z1 : ¬ k < -(2 ^ 63) := by omega
    have z2 : ¬ k ≥ 2 ^ 63 := by omega
    rw [decide_eq_false z1, decide_eq_false z2]
    rfl
  have go := fun (Q' : Value → Shared → Prop) (z : wpAny (model X.prog X.w) X.A (call (.builtin "tuple.__mul__") [.ref l, .int k t]) Q' X.xe s) =>
    wpAny_binaryOp_repeat_ref (M := model X.prog X.w) (A := X.A) (E := X.xe) (s := s) (Q := Q') (T := "tuple") (U := "int") (a := .ref l) (n := .int k t) (by decide) ⟨_, ho, rfl⟩ (fun s' => typeIs_int s' k t) noFill_tuple_mul F.fills_int_mul F.slot_int_rmul repeat_tuple F.slot_int_index.lookup
      (call_meets F.slot_int_rmul (typeIs_int s k t) F.entry_int_rmul (F.args_int_rmul_2 _ _) (int_rmul_tuple k t l its.toArray n dd sl) ⟨ho, rfl, ⟨_, ho, rfl⟩, z⟩)
  refine go _ ?_
  by_cases e : k = 1
  · subst e
    exact call_meets F.slot_tuple_mul ⟨_, ho, rfl⟩ F.entry_tuple_mul (F.args_tuple_mul_2 _ _) (tup_mul_same l its.toArray n dd sl 1 t c0 (by rw [hi]; rfl)) ⟨ho, q1 rfl⟩
  · have c1 : (its.toArray.isEmpty || k == 1) = false := by
      rw [hi, Bool.false_or]
      exact beq_eq_false_iff_ne.mpr e
    by_cases e0 : k = 0
    · subst e0
      exact call_meets F.slot_tuple_mul ⟨_, ho, rfl⟩ F.entry_tuple_mul (F.args_tuple_mul_2 _ _) (tup_mul_zero l its.toArray n dd sl 0 t c0 c1 (by rfl)) ⟨ho, q0 (by decide) [] s.toks .nil⟩
    · have z0 : its.toArray.size = xs.length := by rw [List.size_toArray]; exact r.length.symm
      have z1 : ((xs.length : Nat) : Int) * k ≤ 1000 * k := Int.mul_le_mul_of_nonneg_right (by omega) h0
      have z2 : k.toNat * xs.length ≤ 1000 * 1000 := Nat.mul_le_mul (by omega) h2
      have c2 : (decide (k ≤ 0) || its.toArray.isEmpty) = false := by
        rw [hi, Bool.or_false]
        exact decide_eq_false (by omega)
      have c4 : Builtin.Tuple.tupleTooMany (((its.toArray.size : Nat) : Int) * k) = false := by
        unfold Builtin.Tuple.tupleTooMany
        rw [sizeLine_eq, z0]
        exact decide_eq_false (by omega)
      have w := tuple_mulW l its.toArray n dd sl k t c0 c1 c2 (by rw [z0]; omega) c4 (by rw [size_rep, List.size_toArray, PyProof.Rows.lm_len_rep_flat, sizeLine_eq, ← r.length]; omega)
      rw [size_rep] at w
      exact call_meets F.slot_tuple_mul ⟨_, ho, rfl⟩ F.entry_tuple_mul (F.args_tuple_mul_2 _ _) w ⟨ho, q0 e _ s.toks (r.rep k.toNat)⟩
end
section
variable {X : Cx}
theorem when_ok {α : Type} {c : Bool} {r : R α} {z : α} (h : when_ c r = .ok z) : c = true ∧ r = .ok z := by
  cases c with
  | true => exact ⟨rfl, h⟩
  | false => cases h
theorem op_pAdd : OpR X (binaryOp .Add) (rD X.K pAdd) := by
  intro pins s σ H x y v u Q I rx ry ⟨ρ, S, a, b, z, ok, da, db, hz, q⟩
  cases a with
  | int i =>
    cases b with
    | int j =>
      cases hz
      obtain rfl := da.int
      obtain rfl := db.int
      exact op_add pins s σ H _ _ v u Q I rx ry ⟨i, j, rfl, rfl, q H _ Xt.refl ok (.int _)⟩
    | bool k =>
      cases hz
      obtain rfl := da.int
      obtain rfl := db.bool
      exact op_add_ib pins s σ H _ _ v u Q I rx ry ⟨i, k, rfl, rfl, q H _ Xt.refl ok (by cases k <;> exact .int _)⟩
    | _ => cases hz
  | str i =>
    cases b with
    | str j =>
      obtain ⟨hc, hz⟩ := when_ok hz
      have hc : i.length + j.length ≤ Line := of_decide_eq_true hc
      cases hz
      obtain rfl := da.str
      obtain rfl := db.str
      exact op_add_str pins s σ H _ _ v u Q I rx ry ⟨i, j, rfl, rfl, hc, q H _ Xt.refl ok (.str _)⟩
    | _ => cases hz
  | tuple i =>
    cases b with
    | tuple j =>
      obtain ⟨hc, hz⟩ := when_ok hz
      have hc : i.length + j.length ≤ Line := of_decide_eq_true hc
      cases hz
      obtain ⟨a1, xs, rfl, h1, h2⟩ := da.tup
      obtain ⟨a2, ys, rfl, h3, h4⟩ := db.tup
      cases rx
      cases ry
      obtain ⟨its, r1, p1, _⟩ := I.tuple (h1.sq (K := X.K))
      obtain ⟨its2, r2, p2, _⟩ := I.tuple (h3.sq (K := X.K))
      by_cases e1 : its = []
      · subst e1
        cases r1
        cases h2
        exact cat_tup0 p1 p2 ⟨.ref a2, H, I, rfl, q H _ Xt.refl ok (.tup h3 h4)⟩
      · refine HT.cat_tup p1 p2 e1 (fun e => ?_) (fun _ => ?_) (by rw [← r1.length, ← r2.length, h2.length, h4.length]; exact hc)
        · subst e
          cases r2
          cases h4
          rw [List.append_nil] at q
          exact ⟨.ref a1, H, I, rfl, q H _ Xt.refl ok (.tup h1 h2)⟩
        · exact tup_data (tk := s.toks) I ok (r1.append r2) (by rw [List.length_append]; exact hc) (h2.append h4) q
    | _ => cases hz
  | list i =>
    cases b with
    | list j =>
      obtain ⟨hc, hz⟩ := when_ok hz
      have hc : i.length + j.length ≤ Line := of_decide_eq_true hc
      cases hz
      obtain ⟨a1, xs, rfl, h1, h2⟩ := da.list
      obtain ⟨a2, ys, rfl, h3, h4⟩ := db.list
      refine op_cat pins s σ H _ _ v u Q I rx ry ⟨a1, a2, xs, ys, rfl, rfl, h1, h3, by rw [h2.length, h4.length]; exact hc, fun p hp => ?_⟩
      exact q _ _ (Xt.new hp) (ok.new hp) (.lst upd_same (Live.ne ok hp) (Pds.mono (Gr.new hp) _ _ (h2.append h4)))
    | _ => cases hz
  | _ => cases hz
theorem op_pSub : OpR X (binaryOp .Sub) (rD X.K pSub) := by
  intro pins s σ H x y v u Q I rx ry ⟨ρ, S, a, b, z, ok, da, db, hz, q⟩
  cases a with
  | int i =>
    cases b with
    | int j =>
      cases hz
      obtain rfl := da.int
      obtain rfl := db.int
      exact op_sub pins s σ H _ _ v u Q I rx ry ⟨i, j, rfl, rfl, q H _ Xt.refl ok (.int _)⟩
    | _ => cases hz
  | _ => cases hz
theorem op_pDiv : OpR X (binaryOp .FloorDiv) (rD X.K pDiv) := by
  intro pins s σ H x y v u Q I rx ry ⟨ρ, S, a, b, z, ok, da, db, hz, q⟩
  cases a with
  | int i =>
    cases b with
    | int j =>
      obtain ⟨hc, hz⟩ := when_ok hz
      have hc := of_decide_eq_true hc
      cases hz
      obtain rfl := da.int
      obtain rfl := db.int
      exact op_fdivW pins s σ H _ _ v u Q I rx ry ⟨i, j, rfl, rfl, hc, q H _ Xt.refl ok (.int _)⟩
    | _ => cases hz
  | _ => cases hz
theorem op_pMod : OpR X (binaryOp .Mod) (rD X.K pMod) := by
  intro pins s σ H x y v u Q I rx ry ⟨ρ, S, a, b, z, ok, da, db, hz, q⟩
  cases a with
  | int i =>
    cases b with
    | int j =>
      obtain ⟨hc, hz⟩ := when_ok hz
      have hc := of_decide_eq_true hc
      cases hz
      obtain rfl := da.int
      obtain rfl := db.int
      exact op_mod pins s σ H _ _ v u Q I rx ry ⟨i, j, rfl, rfl, hc, q H _ Xt.refl ok (.int _)⟩
    | _ => cases hz
  | _ => cases hz
theorem intBits_log (x : Int) : Builtin.Int.intBits x ≤ x.natAbs.log2 + 1 := by
  unfold Builtin.Int.intBits
  split <;> omega
theorem op_pPow : OpR X (binaryOp .Pow) (rD X.K pPow) := by
  intro pins s σ H x y v u Q I rx ry ⟨ρ, S, a, b, z, ok, da, db, hz, q⟩
  cases a with
  | int i =>
    cases b with
    | int j =>
      obtain ⟨hc, hz⟩ := when_ok hz
      obtain ⟨h0, h1, h2⟩ := of_decide_eq_true hc
      cases hz
      obtain rfl := da.int
      obtain rfl := db.int
      obtain ⟨t, rfl⟩ := rx
      obtain ⟨t', rfl⟩ := ry
      refine pow_int h0 ?_ ⟨.int _, H, I.tok _, ⟨_, rfl⟩, q H _ Xt.refl ok (.int _)⟩
      have hb := intBits_log i
      have h3 : (Builtin.Int.intBits i : Int) ≤ 10000 := by omega
      have h4 : (Builtin.Int.intBits i : Int) * j ≤ 10000 * j := Int.mul_le_mul_of_nonneg_right h3 h0
      omega
    | _ => cases hz
  | _ => cases hz
theorem op_pMul : OpR X (binaryOp .Mult) (rD X.K pMul) := by
  intro pins s σ H x y v u Q I rx ry ⟨ρ, S, a, b, z, ok, da, db, hz, q⟩
  cases a with
  | int i =>
    cases b with
    | int j =>
      obtain ⟨hc, hz⟩ := when_ok hz
      have hc := of_decide_eq_true hc
      cases hz
      obtain rfl := da.int
      obtain rfl := db.int
      exact op_mulW pins s σ H _ _ v u Q I rx ry ⟨i, j, rfl, rfl, hc, q H _ Xt.refl ok (.int _)⟩
    | _ => cases hz
  | list i =>
    cases b with
    | int j =>
      obtain ⟨hc, hz⟩ := when_ok hz
      obtain ⟨h1, h2, h3⟩ := of_decide_eq_true hc
      cases hz
      obtain ⟨a1, xs, rfl, h4, h5⟩ := da.list
      obtain rfl := db.int
      refine op_rep pins s σ H _ _ v u Q I rx ry ⟨a1, j, xs, rfl, rfl, h4, h1, h2, by rw [h5.length]; exact h3, fun p hp => ?_⟩
      exact q _ _ (Xt.new hp) (ok.new hp) (.lst upd_same (Live.ne ok hp) (Pds.mono (Gr.new hp) _ _ (h5.rep _)))
    | _ => cases hz
  | tuple i =>
    cases b with
    | int j =>
      obtain ⟨hc, hz⟩ := when_ok hz
      obtain ⟨h0, h1, h2, h3⟩ := of_decide_eq_true hc
      cases hz
      obtain ⟨a1, xs, rfl, h4, h5⟩ := da.tup
      obtain rfl := db.int
      cases rx
      obtain ⟨t, rfl⟩ := ry
      refine tup_rep I (h4.sq (K := X.K)) (fun e => ?_) h2 h1 (by rw [h5.length]; exact h3) (fun e => ?_) fun e its tk hv => ?_
      · subst e
        cases h5
        exact h0 rfl
      · subst e
        have z : (List.replicate (1 : Int).toNat i).flatten = i := by simp
        rw [z] at q
        exact ⟨.ref a1, H, I, rfl, q H _ Xt.refl ok (.tup h4 h5)⟩
      · refine tup_data I ok hv ?_ (h5.rep _) q
        rw [PyProof.Rows.lm_len_rep_flat]
        have z2 : j.toNat * i.length ≤ 1000 * 1000 := Nat.mul_le_mul (by omega) h3
        show _ ≤ 16777216
        omega
    | _ => cases hz
  | _ => cases hz
theorem un_pNeg : UnR X (unaryOp .USub) (rD1 X.K pNeg) := by
  intro pins s σ H x v Q I rx ⟨ρ, S, a, z, ok, da, hz, q⟩
  cases a with
  | int i =>
    cases hz
    obtain rfl := da.int
    exact un_neg pins s σ H _ v Q I rx ⟨i, rfl, q H _ Xt.refl ok (.int _)⟩
  | _ => cases hz
variable (hr : X.A.units + 2000 < cLine)
include hr
theorem op_pEq : OpR X (compareOp .Eq) (rD X.K pEq) := by
  intro pins s σ H x y v u Q I rx ry ⟨ρ, S, a, b, z, ok, da, db, hz, q⟩
  obtain ⟨hc, hz⟩ := when_ok hz
  rw [Bool.and_eq_true] at hc
  obtain ⟨pa, la⟩ := flat_of hc.1
  obtain ⟨pb, lb⟩ := flat_of hc.2
  cases hz
  obtain ⟨as, r1⟩ := Dp.reads I a x v (da.dp pa) rx
  obtain ⟨bs, r2⟩ := Dp.reads I b y u (db.dp pb) ry
  exact PySem.SeqAt.eq_plain r1 r2 pa pb (by omega) ⟨.bl _, H, I, rfl, q H _ Xt.refl ok (.bl _)⟩
theorem op_pNe : OpR X (compareOp .NotEq) (rD X.K pNe) := by
  intro pins s σ H x y v u Q I rx ry ⟨ρ, S, a, b, z, ok, da, db, hz, q⟩
  obtain ⟨hc, hz⟩ := when_ok hz
  rw [Bool.and_eq_true] at hc
  obtain ⟨pa, la⟩ := flat_of hc.1
  obtain ⟨pb, lb⟩ := flat_of hc.2
  cases hz
  obtain ⟨as, r1⟩ := Dp.reads I a x v (da.dp pa) rx
  obtain ⟨bs, r2⟩ := Dp.reads I b y u (db.dp pb) ry
  exact PySem.SeqAt.ne_plain r1 r2 pa pb (by omega) ⟨.bl _, H, I, rfl, q H _ Xt.refl ok (.bl _)⟩
end
end Mi
end
section
namespace Mi
open PySem PySem.Spec PyProof.Rows L2
section
theorem cmp_of {x y : PyData} (h : cmp? x y = true) : PySem.W.alike x y = true ∧ x ≠ .none ∧ flat? x = true ∧ flat? y = true := by
  unfold cmp? at h
  simp only [Bool.and_eq_true] at h
  refine ⟨h.1.1.1, ?_, h.1.2, h.2⟩
  rintro rfl
  have := h.1.1.2
  simp [isNone] at this
theorem pLt_ok {a b z : PyData} (h : pLt a b = .ok z) : (∃ i j, a = .int i ∧ b = .int j ∧ z = .bool (decide (i < j))) ∨ (cmp? a b = true ∧ z = .bool (PySem.W.dataLt a b)) := by
  unfold pLt at h
  split at h
  · cases h
    exact .inl ⟨_, _, rfl, rfl, rfl⟩
  · obtain ⟨h1, h2⟩ := when_ok h
    cases h2
    exact .inr ⟨h1, rfl⟩
theorem pGt_ok {a b z : PyData} (h : pGt a b = .ok z) : (∃ i j, a = .int i ∧ b = .int j ∧ z = .bool (decide (j < i))) ∨ (cmp? a b = true ∧ z = .bool (PySem.W.dataLt b a)) := by
  unfold pGt at h
  split at h
  · cases h
    exact .inl ⟨_, _, rfl, rfl, rfl⟩
  · obtain ⟨h1, h2⟩ := when_ok h
    cases h2
    exact .inr ⟨h1, rfl⟩
theorem pLe_ok {a b z : PyData} (h : pLe a b = .ok z) : (∃ i j, a = .int i ∧ b = .int j ∧ z = .bool (decide (i ≤ j))) ∨ (cmp? a b = true ∧ z = .bool (!PySem.W.dataLt b a)) := by
  unfold pLe at h
  split at h
  · cases h
    exact .inl ⟨_, _, rfl, rfl, rfl⟩
  · obtain ⟨h1, h2⟩ := when_ok h
    cases h2
    exact .inr ⟨h1, rfl⟩
theorem pGe_ok {a b z : PyData} (h : pGe a b = .ok z) : (∃ i j, a = .int i ∧ b = .int j ∧ z = .bool (decide (j ≤ i))) ∨ (cmp? a b = true ∧ z = .bool (!PySem.W.dataLt a b)) := by
  unfold pGe at h
  split at h
  · cases h
    exact .inl ⟨_, _, rfl, rfl, rfl⟩
  · obtain ⟨h1, h2⟩ := when_ok h
    cases h2
    exact .inr ⟨h1, rfl⟩
end
structure Gd (X : Cx) : Prop where
  calm : X.calm = true
  hu : X.A.units + 2000 < cLine
  gs : X.A.guards = some []
  nd : X.N.Nodup
section
variable {X : Cx}
section
variable (G : Gd X)
include G
theorem op_pLt : OpR X (compareOp .Lt) (rD X.K pLt) := by
  intro pins s σ H x y v u Q I rx ry ⟨ρ, S, a, b, z, ok, da, db, hz, q⟩
  rcases pLt_ok hz with ⟨i, j, rfl, rfl, rfl⟩ | ⟨hc, rfl⟩
  · obtain rfl := da.int
    obtain rfl := db.int
    exact op_lt pins s σ H _ _ v u Q I rx ry ⟨i, j, rfl, rfl, q H _ Xt.refl ok (.bl _)⟩
  · obtain ⟨h1, h2, h3, h4⟩ := cmp_of hc
    obtain ⟨pa, la⟩ := flat_of h3
    obtain ⟨pb, lb⟩ := flat_of h4
    obtain ⟨as, r1⟩ := Dp.reads I a x v (da.dp pa) rx
    obtain ⟨bs, r2⟩ := Dp.reads I b y u (db.dp pb) ry
    exact PySem.W.lt_data r1 r2 h1 h2 (by have := G.hu; omega) ⟨.bl _, H, I, rfl, q H _ Xt.refl ok (.bl _)⟩
theorem op_pGt : OpR X (compareOp .Gt) (rD X.K pGt) := by
  intro pins s σ H x y v u Q I rx ry ⟨ρ, S, a, b, z, ok, da, db, hz, q⟩
  rcases pGt_ok hz with ⟨i, j, rfl, rfl, rfl⟩ | ⟨hc, rfl⟩
  · obtain rfl := da.int
    obtain rfl := db.int
    exact op_gt pins s σ H _ _ v u Q I rx ry ⟨i, j, rfl, rfl, q H _ Xt.refl ok (.bl _)⟩
  · obtain ⟨h1, h2, h3, h4⟩ := cmp_of hc
    obtain ⟨pa, la⟩ := flat_of h3
    obtain ⟨pb, lb⟩ := flat_of h4
    obtain ⟨as, r1⟩ := Dp.reads I a x v (da.dp pa) rx
    obtain ⟨bs, r2⟩ := Dp.reads I b y u (db.dp pb) ry
    exact PySem.W.gt_data r1 r2 h1 h2 (by have := G.hu; omega) ⟨.bl _, H, I, rfl, q H _ Xt.refl ok (.bl _)⟩
theorem op_pLe : OpR X (compareOp .LtE) (rD X.K pLe) := by
  intro pins s σ H x y v u Q I rx ry ⟨ρ, S, a, b, z, ok, da, db, hz, q⟩
  rcases pLe_ok hz with ⟨i, j, rfl, rfl, rfl⟩ | ⟨hc, rfl⟩
  · obtain rfl := da.int
    obtain rfl := db.int
    exact op_le pins s σ H _ _ v u Q I rx ry ⟨i, j, rfl, rfl, q H _ Xt.refl ok (.bl _)⟩
  · obtain ⟨h1, h2, h3, h4⟩ := cmp_of hc
    obtain ⟨pa, la⟩ := flat_of h3
    obtain ⟨pb, lb⟩ := flat_of h4
    obtain ⟨as, r1⟩ := Dp.reads I a x v (da.dp pa) rx
    obtain ⟨bs, r2⟩ := Dp.reads I b y u (db.dp pb) ry
    exact PySem.W.le_data r1 r2 h1 h2 (by have := G.hu; omega) ⟨.bl _, H, I, rfl, q H _ Xt.refl ok (.bl _)⟩
theorem op_pGe : OpR X (compareOp .GtE) (rD X.K pGe) := by
  intro pins s σ H x y v u Q I rx ry ⟨ρ, S, a, b, z, ok, da, db, hz, q⟩
  rcases pGe_ok hz with ⟨i, j, rfl, rfl, rfl⟩ | ⟨hc, rfl⟩
  · obtain rfl := da.int
    obtain rfl := db.int
    exact op_ge pins s σ H _ _ v u Q I rx ry ⟨i, j, rfl, rfl, q H _ Xt.refl ok (.bl _)⟩
  · obtain ⟨h1, h2, h3, h4⟩ := cmp_of hc
    obtain ⟨pa, la⟩ := flat_of h3
    obtain ⟨pb, lb⟩ := flat_of h4
    obtain ⟨as, r1⟩ := Dp.reads I a x v (da.dp pa) rx
    obtain ⟨bs, r2⟩ := Dp.reads I b y u (db.dp pb) ry
    exact PySem.W.ge_data r1 r2 h1 h2 (by have := G.hu; omega) ⟨.bl _, H, I, rfl, q H _ Xt.refl ok (.bl _)⟩
theorem op_eqG : OpR X (compareOp .Eq) (rD X.K pEq) := op_pEq G.hu
theorem op_neG : OpR X (compareOp .NotEq) (rD X.K pNe) := op_pNe G.hu
theorem flat_list {xs : List PyData} (h : flat? (.list xs) = true) : PyData.plainAll xs = true := by
  have := (flat_of h).1
  simpa [PyData.plain] using this
theorem flat_tuple {xs : List PyData} (h : flat? (.tuple xs) = true) : PyData.plainAll xs = true := by
  have := (flat_of h).1
  simpa [PyData.plain] using this
theorem op_pIn : OpR X (compareOp .In) (rD X.K pIn) := by
  intro pins s σ H x y v u Q I rx ry ⟨ρ, S, a, b, z, ok, da, db, hz, q⟩
  have hu := G.hu
  cases b with
  | list ys =>
    simp only [pIn] at hz
    obtain ⟨hc, hz⟩ := when_ok hz
    cases hz
    rw [Bool.and_eq_true] at hc
    obtain ⟨pa, la⟩ := flat_of hc.1
    obtain ⟨as, r1⟩ := Dp.reads I a x v (da.dp pa) rx
    obtain ⟨bs, r2⟩ := Dp.reads I (.list ys) y u (db.dp (flat_of hc.2).1) ry
    exact PySem.SeqAt.in_list_data r2 r1 (flat_list G hc.2) pa (by omega) ⟨.bl _, H, I, rfl, q H _ Xt.refl ok (.bl _)⟩
  | tuple ys =>
    simp only [pIn] at hz
    obtain ⟨hc, hz⟩ := when_ok hz
    cases hz
    rw [Bool.and_eq_true] at hc
    obtain ⟨pa, la⟩ := flat_of hc.1
    obtain ⟨as, r1⟩ := Dp.reads I a x v (da.dp pa) rx
    obtain ⟨bs, r2⟩ := Dp.reads I (.tuple ys) y u (db.dp (flat_of hc.2).1) ry
    exact PySem.SeqAt.in_tuple_data r2 r1 (flat_tuple G hc.2) pa (by omega) ⟨.bl _, H, I, rfl, q H _ Xt.refl ok (.bl _)⟩
  | str j =>
    cases a with
    | str i =>
      cases hz
      obtain rfl := da.str
      obtain rfl := db.str
      exact op_in_str pins s σ H _ _ v u Q I rx ry ⟨i, j, rfl, rfl, q H _ Xt.refl ok (.bl _)⟩
    | _ => cases hz
  | _ => cases a <;> cases hz
theorem op_pNotIn : OpR X (compareOp .NotIn) (rD X.K pNotIn) := by
  intro pins s σ H x y v u Q I rx ry ⟨ρ, S, a, b, z, ok, da, db, hz, q⟩
  have hu := G.hu
  cases b with
  | list ys =>
    simp only [pNotIn] at hz
    obtain ⟨hc, hz⟩ := when_ok hz
    cases hz
    rw [Bool.and_eq_true] at hc
    obtain ⟨pa, la⟩ := flat_of hc.1
    obtain ⟨as, r1⟩ := Dp.reads I a x v (da.dp pa) rx
    obtain ⟨bs, r2⟩ := Dp.reads I (.list ys) y u (db.dp (flat_of hc.2).1) ry
    exact PySem.SeqAt.notIn_list_data r2 r1 (flat_list G hc.2) pa (by omega) ⟨.bl _, H, I, rfl, q H _ Xt.refl ok (.bl _)⟩
  | tuple ys =>
    simp only [pNotIn] at hz
    obtain ⟨hc, hz⟩ := when_ok hz
    cases hz
    rw [Bool.and_eq_true] at hc
    obtain ⟨pa, la⟩ := flat_of hc.1
    obtain ⟨as, r1⟩ := Dp.reads I a x v (da.dp pa) rx
    obtain ⟨bs, r2⟩ := Dp.reads I (.tuple ys) y u (db.dp (flat_of hc.2).1) ry
    exact PySem.SeqAt.notIn_tuple_data r2 r1 (flat_tuple G hc.2) pa (by omega) ⟨.bl _, H, I, rfl, q H _ Xt.refl ok (.bl _)⟩
  | str j =>
    cases a with
    | str i =>
      cases hz
      obtain rfl := da.str
      obtain rfl := db.str
      exact op_notIn_str pins s σ H _ _ v u Q I rx ry ⟨i, j, rfl, rfl, q H _ Xt.refl ok (.bl _)⟩
    | _ => cases hz
  | _ => cases a <;> cases hz
end
section
variable {L : Addr → Prop} {H : Hp} {x : V} {d : PyData}
theorem key_K (h : Dv L H x d) (k : keyOk false d = true) : ∃ k : Key, x = kV k ∧ d = keyD k := by
  cases d with
  | int i => exact ⟨.inl i, h.int, rfl⟩
  | str i => exact ⟨.inr i, h.str, rfl⟩
  | _ => simp [keyOk] at k
theorem keyD_eqv (a b : Key) : PyData.eqv (keyD a) (keyD b) = decide (a = b) := by
  cases a with
  | inl i =>
    cases b with
    | inl j => rw [key_ll]; simp [keyD, PyData.eqv]
    | inr y => rw [key_lr]; simp [keyD, PyData.eqv]
  | inr x =>
    cases b with
    | inl j => rw [key_rl]; simp [keyD, PyData.eqv]
    | inr y =>
      rw [key_rr]
      simp only [keyD, PyData.eqv]
      exact (Bool.beq_eq_decide_eq x y)
theorem KvK.val : ∀ {us : List (Key × V)} {kvs : List (PyData × PyData)}, KvK L H us kvs → ∀ k : Key, (valV us k).isSome = hasKey kvs (keyD k)
  | _, _, .nil, k => rfl
  | _, _, .cons (k := k0) a t, k => by
    unfold hasKey
    rw [List.any_cons, keyD_eqv]
    by_cases e : k0 = k
    · rw [valV_pos (p := (k0, _)) e, decide_eq_true e]
      rfl
    · rw [valV_neg (p := (k0, _)) e, decide_eq_false e, Bool.false_or]
      exact KvK.val t k
theorem KvK.look : ∀ {us : List (Key × V)} {kvs : List (PyData × PyData)}, KvK L H us kvs → ∀ {k : Key} {z : PyData}, Mi.look kvs (keyD k) = some z → ∃ v, valV us k = some v ∧ Pd L H v z
  | _, _, .nil, k, z, h => by cases h
  | _, _, .cons (k := k0) (v := v0) a t, k, z, h => by
    unfold Mi.look at h
    rw [keyD_eqv] at h
    by_cases e : k0 = k
    · rw [decide_eq_true e, if_pos rfl] at h
      cases h
      exact ⟨v0, valV_pos (p := (k0, _)) e, a⟩
    · rw [decide_eq_false e, if_neg Bool.false_ne_true] at h
      rw [valV_neg (p := (k0, _)) e]
      exact KvK.look t h
end
end
end Mi
end
section
namespace Mi
open PySem PySem.Spec PyProof.Rows L2
section
variable {X : Cx} {e a b c : Expr} {pos p : Pos} {fa fb fc : Ex} {ga gb : Bx}
theorem Ok.dict {K : PySem.W.Frag} {ρ : List Addr} {S : Store} {H : Hp} {v : V} {d : D} {kvs : List (PyData × PyData)} (ok : Ok ρ S H) (h : DOk K ρ S H v d) (e : dictOf S d = some (false, kvs)) : ∃ a us, v = .ref a ∧ Rd H a (.dK us) ∧ KvK (Live ρ S) H us kvs := by
  cases d with
  | ref i =>
    obtain ⟨a, h1, rfl⟩ := h
    cases hs : S[i]? with
    | none => simp [Mi.dictOf, hs] at e
    | some c =>
      have q := ok.cell i a c h1.1 hs
      simp only [Mi.dictOf, hs] at e
      cases c with
      | dct t xs => cases e; obtain ⟨us, q1, q2⟩ := q; exact ⟨a, us, rfl, .inl q1, q2⟩
      | fdct t xs => cases e; obtain ⟨o, us, q1, q2⟩ := q; exact ⟨a, us, rfl, .inr ⟨o, q1⟩, q2⟩
      | _ => cases e
  | own i k n =>
    obtain ⟨a, t, rfl, hs, hn, h5⟩ := h
    obtain ⟨x, hx⟩ : ∃ x, ρ[i]? = some x := ⟨_, List.getElem?_eq_getElem (by rw [ok.len]; exact (List.getElem?_eq_some_iff.mp hs).1)⟩
    simp only [Mi.dictOf, ownD, hs] at e
    split at e
    · rename_i ev
      obtain ⟨hk, h6⟩ := h5 ev
      obtain ⟨dx, la, da, vs, us, q1, q2, q3, q4, q5, q6, q7, q8⟩ := ok.tb i x t hx hs
      match k, hk, e, h6 with
      | 0, _, e, h6 => cases e
      | 1, _, e, h6 =>
        cases e
        rw [show i + 1 + 1 = i + 2 from rfl, q2] at h6
        cases h6
        refine ⟨a, us, rfl, ?_, q7⟩
        rcases q8 with ⟨_, _, q8⟩ | ⟨_, _, o, q8⟩
        · exact .inl q8
        · exact .inr ⟨o, q8⟩
    · cases e
  | p d => cases e
  | scr ns => cases e
  | rows i n rs => cases e
  | fn f c q => cases e
  | exn x => cases e
def rInD (neg : Bool) : R2 := fun x y H Q => ∃ a o, y = .ref a ∧ DGet H a x o ∧ Q (.bl (if neg then !o.isSome else o.isSome)) H
theorem op_inD (G : Gd X) : OpR X (compareOp .In) (rInD false) := by
  intro pins s σ H x y v u Q I rx ry ⟨a, o, ey, g, q⟩
  subst ey
  cases ry
  exact d_in (by have := G.hu; omega) I g rx fun s3 I3 => ⟨.bl o.isSome, H, I3, rfl, q⟩
theorem op_notInD (G : Gd X) : OpR X (compareOp .NotIn) (rInD true) := by
  intro pins s σ H x y v u Q I rx ry ⟨a, o, ey, g, q⟩
  subst ey
  cases ry
  exact d_notIn (by have := G.hu; omega) I g rx fun s3 I3 => ⟨.bl (!o.isSome), H, I3, rfl, q⟩
def rIn' (K : PySem.W.Frag) : R2 := fun x y H Q => rD K pIn x y H Q ∨ rInD false x y H Q
def rNotIn' (K : PySem.W.Frag) : R2 := fun x y H Q => rD K pNotIn x y H Q ∨ rInD true x y H Q
theorem tIn {K : PySem.W.Frag} {σ : L2.St} {H : Hp} {Q : VK} (h : TX K (mIn fa fb) σ H Q) : tOp (rIn' K) (TX K fa) (TX K fb) σ H Q := by
  obtain ⟨ρ, env, S, eo, ok, q⟩ := h
  refine ⟨ρ, env, S, eo, ok, (Aft.bd q).mono fun p ρ1 H1 e1 o1 q1 v1 d1 => ?_⟩
  refine ⟨ρ1, env, p.2, eo.mono e1, o1, (Aft.bd q1).mono fun p2 ρ2 H2 e2 o2 q2 v2 d2 => ?_⟩
  obtain ⟨u, hu, q3⟩ := Aft.bx q2
  have du := o2.dv (d1.mono e2) hu
  cases hd : dictOf p2.2 p2.1 with
  | none =>
    simp only [hd] at q3
    obtain ⟨w, hw, q4⟩ := Aft.bx q3
    obtain ⟨z, hz, q5⟩ := Aft.bx q4
    exact .inl ⟨ρ2, p2.2, u, w, z, o2, du, o2.dv d2 hw, hz, fun H' w' e' o' r' => q5 ρ2 H' e' o' w' r'⟩
  | some tk =>
    obtain ⟨t, kvs⟩ := tk
    simp only [hd] at q3
    obtain ⟨hk, q4⟩ := Aft.when q3
    cases t with
    | true => cases hk
    | false =>
      obtain ⟨a, us, ea, ha, hr⟩ := o2.dict d2 hd
      obtain ⟨k, ek, rfl⟩ := key_K du hk
      refine .inr ⟨a, valV us k, ea, ?_, ?_⟩
      · rw [ek]
        exact .inl ⟨us, k, ha, rfl, rfl⟩
      · show Q (.bl (valV us k).isSome) H2
        rw [hr.val k]
        exact (Aft.here q4 rfl o2) _ (.bl _)
theorem tNotIn {K : PySem.W.Frag} {σ : L2.St} {H : Hp} {Q : VK} (h : TX K (mNotIn fa fb) σ H Q) : tOp (rNotIn' K) (TX K fa) (TX K fb) σ H Q := by
  obtain ⟨ρ, env, S, eo, ok, q⟩ := h
  refine ⟨ρ, env, S, eo, ok, (Aft.bd q).mono fun p ρ1 H1 e1 o1 q1 v1 d1 => ?_⟩
  refine ⟨ρ1, env, p.2, eo.mono e1, o1, (Aft.bd q1).mono fun p2 ρ2 H2 e2 o2 q2 v2 d2 => ?_⟩
  obtain ⟨u, hu, q3⟩ := Aft.bx q2
  have du := o2.dv (d1.mono e2) hu
  cases hd : dictOf p2.2 p2.1 with
  | none =>
    simp only [hd] at q3
    obtain ⟨w, hw, q4⟩ := Aft.bx q3
    obtain ⟨z, hz, q5⟩ := Aft.bx q4
    exact .inl ⟨ρ2, p2.2, u, w, z, o2, du, o2.dv d2 hw, hz, fun H' w' e' o' r' => q5 ρ2 H' e' o' w' r'⟩
  | some tk =>
    obtain ⟨t, kvs⟩ := tk
    simp only [hd] at q3
    obtain ⟨hk, q4⟩ := Aft.when q3
    cases t with
    | true => cases hk
    | false =>
      obtain ⟨a, us, ea, ha, hr⟩ := o2.dict d2 hd
      obtain ⟨k, ek, rfl⟩ := key_K du hk
      refine .inr ⟨a, valV us k, ea, ?_, ?_⟩
      · rw [ek]
        exact .inl ⟨us, k, ha, rfl, rfl⟩
      · show Q (.bl (!(valV us k).isSome)) H2
        rw [hr.val k]
        exact (Aft.here q4 rfl o2) _ (.bl _)
theorem x_in (G : Gd X) (ha : PE X a (TX X.K fa)) (hb : PE X b (TX X.K fb)) (hm : behindInMarks .In b = false := by rfl) : PE X (.Compare a [.In] [b] pos) (TX X.K (mIn fa fb)) :=
  PE.up (pe_cmpR (OpR.or (op_pIn G) (op_inD G)) ha hb hm) fun _ _ _ h => tIn h
theorem t_in (G : Gd X) (ha : PE X a (TX X.K fa)) (hb : PE X b (TX X.K fb)) (hm : behindInMarks .In b = false := by rfl) : PT X (.Compare a [.In] [b] pos) (TBx X.K (tE (mIn fa fb))) :=
  PT.up (pt_cmpR (OpR.or (op_pIn G) (op_inD G)) ha hb hm) fun _ _ _ h => tIn (t_of h)
theorem t_notIn (G : Gd X) (ha : PE X a (TX X.K fa)) (hb : PE X b (TX X.K fb)) (hm : behindInMarks .NotIn b = false := by rfl) : PT X (.Compare a [.NotIn] [b] pos) (TBx X.K (tE (mNotIn fa fb))) :=
  PT.up (pt_cmpR (OpR.or (op_pNotIn G) (op_notInD G)) ha hb hm) fun _ _ _ h => tNotIn (t_of h)
theorem Pds.atI {L : Addr → Prop} {H : Hp} {vs : List V} {ds : List PyData} (r : Pds L H vs ds) {i : Int} {d : PyData} (h : Mi.atD ds i = some d) : ∃ v, L2.atI vs i = some v ∧ Pd L H v d := by
  unfold Mi.atD at h
  cases hj : Mi.ixN ds.length i with
  | none => rw [hj] at h; cases h
  | some j =>
    rw [hj] at h
    obtain ⟨v, h1, h2⟩ := r.at (i := j) h
    refine ⟨v, ?_, h2⟩
    unfold L2.atI
    rw [r.length]
    have : L2.ixN ds.length i = some j := hj
    rw [this]
    exact h1
def rIxD (K : PySem.W.Frag) : R2 := fun x y H Q => ∃ (ρ : List Addr) (S : Store) (u v z : PyData), Ok ρ S H ∧ Dr K (Live ρ S) H x u ∧ Dv (Live ρ S) H y v ∧ pIx u v = .ok z ∧ ∀ H' w, Xt ρ S H ρ S H' → Ok ρ S H' → Pd (Live ρ S) H' w z → Q w H'
theorem ix_pIx : IxR X (rIxD X.K) := by
  intro value slice pins s σ H x y v u Q I rx ry ⟨ρ, S, a, b, z, ok, da, db, hz, q⟩ hs
  cases da with
  | scr h =>
    cases b with
    | int i =>
      simp only [pIx] at hz
      obtain rfl := db.int
      cases ha : Mi.atD (List.map PyData.int _) i with
      | none => rw [ha] at hz; cases hz
      | some d =>
        rw [ha] at hz
        cases hz
        obtain ⟨w, h1, h2⟩ := Pds.atI (pds_ints (L := Live ρ S) (H := H) _) ha
        exact ix_list value slice pins s σ H _ _ v u Q I rx ry ⟨_, _, i, w, rfl, rfl, h, h1, q H w Xt.refl ok h2⟩ hs
    | _ => cases hz
  | dv da =>
    cases b with
    | int i =>
      obtain rfl := db.int
      cases a with
      | list xs =>
        simp only [pIx] at hz
        obtain ⟨p, vs, rfl, h1, h2⟩ := da.list
        cases ha : Mi.atD xs i with
        | none => rw [ha] at hz; cases hz
        | some d =>
          rw [ha] at hz
          cases hz
          obtain ⟨w, h3, h4⟩ := h2.atI ha
          exact ix_list value slice pins s σ H _ _ v u Q I rx ry ⟨_, _, i, w, rfl, rfl, .of h1, h3, q H w Xt.refl ok h4⟩ hs
      | tuple xs =>
        simp only [pIx] at hz
        obtain ⟨p, vs, rfl, h1, h2⟩ := da.tup
        cases ha : Mi.atD xs i with
        | none => rw [ha] at hz; cases hz
        | some d =>
          rw [ha] at hz
          cases hz
          obtain ⟨w, h3, h4⟩ := h2.atI ha
          exact ix_tup value slice pins s σ H _ _ v u Q I rx ry ⟨_, _, i, w, rfl, rfl, h1.sq, h3, q H w Xt.refl ok h4⟩ hs
      | str t =>
        simp only [pIx] at hz
        obtain ⟨hc, hz⟩ := when_ok hz
        have hc : t.length ≤ Line := of_decide_eq_true hc
        obtain rfl := da.str
        cases ha : Mi.atD t.cps.toList i with
        | none => rw [ha] at hz; cases hz
        | some d =>
          rw [ha] at hz
          cases hz
          exact ix_str value slice pins s σ H _ _ v u Q I rx ry ⟨t, i, d, rfl, rfl, hc, ha, q H _ Xt.refl ok (.str _)⟩ hs
      | _ => cases hz
    | _ => cases a <;> cases hz
def rIxDict : R2 := fun x y H Q => ∃ a v, x = .ref a ∧ DGet H a y (some v) ∧ Q v H
theorem ix_dict (G : Gd X) : IxR X rIxDict := by
  intro value slice pins s σ H x y v u Q I rx ry ⟨a, w, ex, g, q⟩ hs
  subst ex
  cases rx
  exact tail_any (dict_typeIs I g) PySem.F.slot_dict_getitem.lookup (d_getItem (by have := G.hu; omega) I g ry fun w' s3 I3 rw' => ⟨w, H, I3, rw', q⟩) hs
theorem tIx {K : PySem.W.Frag} {σ : L2.St} {H : Hp} {Q : VK} (h : TX K (mIx fa fb) σ H Q) : tOp (fun x y H Q => rIxD K x y H Q ∨ rIxDict x y H Q) (TX K fa) (TX K fb) σ H Q := by
  obtain ⟨ρ, env, S, eo, ok, q⟩ := h
  refine ⟨ρ, env, S, eo, ok, (Aft.bd q).mono fun p ρ1 H1 e1 o1 q1 v1 d1 => ?_⟩
  refine ⟨ρ1, env, p.2, eo.mono e1, o1, (Aft.bd q1).mono fun p2 ρ2 H2 e2 o2 q2 v2 d2 => ?_⟩
  cases hd : dictOf p2.2 p.1 with
  | none =>
    simp only [hd] at q2
    obtain ⟨u, hu, q3⟩ := Aft.bx q2
    obtain ⟨w, hw, q4⟩ := Aft.bx q3
    obtain ⟨z, hz, q5⟩ := Aft.bx q4
    exact .inl ⟨ρ2, p2.2, u, w, z, o2, o2.dr (d1.mono e2) hu, o2.dv d2 hw, hz, fun H' w' e' o' r' => q5 ρ2 H' e' o' w' r'⟩
  | some tk =>
    obtain ⟨t, kvs⟩ := tk
    simp only [hd] at q2
    obtain ⟨u, hu, q3⟩ := Aft.bx q2
    obtain ⟨hk, q4⟩ := Aft.when q3
    cases t with
    | true => cases hk
    | false =>
      obtain ⟨a, us, ea, ha, hr⟩ := o2.dict (d1.mono e2) hd
      obtain ⟨k, ek, rfl⟩ := key_K (o2.dv d2 hu) hk
      obtain ⟨z, hz, q5⟩ := Aft.orNo q4
      obtain ⟨w, h1, h2⟩ := hr.look hz
      refine .inr ⟨a, w, ea, ?_, (Aft.here q5 rfl o2) _ h2⟩
      rw [ek, ← h1]
      exact .inl ⟨us, k, ha, rfl, rfl⟩
theorem x_ix (G : Gd X) (ha : PE X a (TX X.K fa)) (hb : PE X b (TX X.K fb)) (hs : PlainIx b := by intro _ _; rfl) : PE X (.Subscript a b pos) (TX X.K (mIx fa fb)) :=
  PE.up (pe_ix (IxR.or ix_pIx (ix_dict G)) ha hb hs) fun _ _ _ h => tIx h
end
end Mi
end
section
namespace Mi
open PySem PySem.Spec PyProof.Rows L2
section
variable {X : Cx} {e a b c : Expr} {pos p : Pos} {fa fb fc : Ex} {ga gb : Bx} {rest : List Expr}
theorem isN_eq {K : PySem.W.Frag} {ρ : List Addr} {S : Store} {H : Hp} {v : V} {d : D} (h : DOk K ρ S H v d) : isN d = decide (v = .non) := by
  cases d with
  | p d => cases h <;> rfl
  | ref i =>
    obtain ⟨a, _, rfl⟩ := h
    rfl
  | scr ns =>
    obtain ⟨a, rfl, _⟩ := h
    rfl
  | rows i n rs =>
    obtain ⟨a, _, _, rfl, _⟩ := h
    rfl
  | fn f c q =>
    obtain ⟨rfl, _⟩ := h
    rfl
  | exn x =>
    obtain ⟨a, _, _, rfl, _⟩ := h
    rfl
  | own i k n =>
    obtain ⟨a, _, rfl, _⟩ := h
    rfl
theorem tIs {K : PySem.W.Frag} {σ : L2.St} {H : Hp} {Q : VK} (h : TX K (mIsN fa) σ H Q) : tIsN (TX K fa) σ H Q := by
  obtain ⟨ρ, env, S, eo, ok, q⟩ := h
  refine ⟨ρ, env, S, eo, ok, (Aft.bd q).mono fun p ρ1 H1 e1 o1 q1 v1 d1 => ?_⟩
  have z := (Aft.here q1 rfl o1) (.bl (isN p.1)) (.bl _)
  rw [isN_eq d1] at z
  exact z
theorem tNot' {K : PySem.W.Frag} {σ : L2.St} {H : Hp} {Q : VK} (h : TX K (mNotN fa) σ H Q) : tNotN (TX K fa) σ H Q := by
  obtain ⟨ρ, env, S, eo, ok, q⟩ := h
  refine ⟨ρ, env, S, eo, ok, (Aft.bd q).mono fun p ρ1 H1 e1 o1 q1 v1 d1 => ?_⟩
  have z := (Aft.here q1 rfl o1) (.bl (!isN p.1)) (.bl _)
  rw [isN_eq d1] at z
  exact z
theorem t_isN {j : Nat} {p2 : Pos} (ha : PE X a (TX X.K fa)) : PT X (.Compare a [.Is] [.Constant .none j p2] pos) (TBx X.K (tE (mIsN fa))) := PT.up (pt_cmp (pc_isN ha)) fun _ _ _ h => tIs (t_of h)
theorem t_notN {j : Nat} {p2 : Pos} (ha : PE X a (TX X.K fa)) : PT X (.Compare a [.IsNot] [.Constant .none j p2] pos) (TBx X.K (tE (mNotN fa))) := PT.up (pt_cmp (pc_notN ha)) fun _ _ _ h => tNot' (t_of h)
theorem tCh {K : PySem.W.Frag} {f g : PyData → PyData → R PyData} {σ : L2.St} {H : Hp} {Q : VK} (h : TX K (mCh f g fa fb fc) σ H Q) : tChain (rD K f) (rD K g) (TX K fa) (TX K fb) (TX K fc) σ H Q := by
  obtain ⟨ρ, env, S, eo, ok, q⟩ := h
  refine ⟨ρ, env, S, eo, ok, (Aft.bd q).mono fun p ρ1 H1 e1 o1 q1 v1 d1 => ?_⟩
  refine ⟨ρ1, env, p.2, eo.mono e1, o1, (Aft.bd q1).mono fun p2 ρ2 H2 e2 o2 q2 v2 d2 => ?_⟩
  obtain ⟨u, hu, q3⟩ := Aft.bx q2
  obtain ⟨w, hw, q4⟩ := Aft.bx q3
  obtain ⟨z, hz, q5⟩ := Aft.bx q4
  refine ⟨ρ2, p2.2, u, w, z, o2, o2.dv (d1.mono e2) hu, o2.dv d2 hw, hz, fun H' w' e' o' r' => ?_⟩
  cases z with
  | bool k =>
    cases r'
    refine ⟨k, rfl, ?_⟩
    cases k with
    | true =>
      rw [if_pos rfl]
      refine ⟨ρ2, env, p2.2, (eo.mono (e1.trans e2)).mono e', o', ((Aft.bd q5).from e').mono fun p3 ρ3 H3 e3 o3 q6 v3 d3 => ?_⟩
      obtain ⟨w2, hw2, q7⟩ := Aft.bx q6
      obtain ⟨t2, ht2, q8⟩ := Aft.bx q7
      obtain ⟨z2, hz2, q9⟩ := Aft.bx q8
      exact ⟨ρ3, p3.2, w2, t2, z2, o3, o3.dv ((d2.mono e').mono e3) hw2, o3.dv d3 ht2, hz2, fun H4 w4 e4 o4 r4 => q9 ρ3 H4 e4 o4 w4 r4⟩
    | false =>
      rw [if_neg Bool.false_ne_true]
      exact q5 ρ2 H' e' o' _ (.bl _)
  | _ => exact False.elim q5
theorem x_ch {op op' : CmpOp} {f g : PyData → PyData → R PyData} (ho : OpR X (compareOp op) (rD X.K f)) (ho' : OpR X (compareOp op') (rD X.K g)) (ha : PE X a (TX X.K fa)) (hb : PE X b (TX X.K fb)) (hc : PE X c (TX X.K fc)) (hm : lastMarks [op, op'] [b, c] = false := by with_unfolding_all rfl) :
    PE X (.Compare a [op, op'] [b, c] pos) (TX X.K (mCh f g fa fb fc)) := PE.up (pe_chain ho ho' ha hb hc hm) fun _ _ _ h => tCh h
theorem w_and1 (ha : PT X a (TBx X.K ga)) : PW X (.BoolOp .And [a] pos) (TBx X.K ga) := pw_and1 ha
theorem w_or1 (ha : PT X a (TBx X.K ga)) : PW X (.BoolOp .Or [a] pos) (TBx X.K ga) := pw_or1 ha
theorem w_and (ha : PT X a (TBx X.K ga)) (hb : PW X (.BoolOp .And (b :: rest) pos) (TBx X.K gb)) : PW X (.BoolOp .And (a :: b :: rest) pos) (TBx X.K (tAnd ga gb)) := PW.up (pw_and ha hb) fun σ H Q ⟨ρ, env, S, eo, ok, q⟩ => by
  refine ⟨ρ, env, S, eo, ok, (Aft.bd q).mono fun p ρ1 H1 e1 o1 q1 => ?_⟩
  obtain ⟨k, S1⟩ := p
  cases k with
  | true => exact ⟨ρ1, env, S1, eo.mono e1, o1, q1⟩
  | false => exact Aft.here q1 rfl o1
theorem w_or (ha : PT X a (TBx X.K ga)) (hb : PW X (.BoolOp .Or (b :: rest) pos) (TBx X.K gb)) : PW X (.BoolOp .Or (a :: b :: rest) pos) (TBx X.K (tOr ga gb)) := PW.up (pw_or ha hb) fun σ H Q ⟨ρ, env, S, eo, ok, q⟩ => by
  refine ⟨ρ, env, S, eo, ok, (Aft.bd q).mono fun p ρ1 H1 e1 o1 q1 => ?_⟩
  obtain ⟨k, S1⟩ := p
  cases k with
  | true => exact Aft.here q1 rfl o1
  | false => exact ⟨ρ1, env, S1, eo.mono e1, o1, q1⟩
theorem t_not (ha : PT X a (TBx X.K ga)) : PT X (.UnaryOp .Not a pos) (TBx X.K (Mi.tNot ga)) := PT.up (pt_not ha) fun σ H Q ⟨ρ, env, S, eo, ok, q⟩ =>
  ⟨ρ, env, S, eo, ok, (Aft.bd q).mono fun p ρ1 H1 e1 o1 q1 => Aft.here q1 rfl o1⟩
theorem x_one {op : BoolOp} (ha : PE X a (TX X.K fa)) : PE X (.BoolOp op [a] pos) (TX X.K fa) := pe_one ha
theorem x_and (ha : PE X a (TX X.K fa)) (hb : PE X (.BoolOp .And (b :: rest) pos) (TX X.K fb)) : PE X (.BoolOp .And (a :: b :: rest) pos) (TX X.K (mAnd fa fb)) := PE.up (pe_and ha hb) fun σ H Q ⟨ρ, env, S, eo, ok, q⟩ => by
  refine ⟨ρ, env, S, eo, ok, (Aft.bd q).mono fun p ρ1 H1 e1 o1 q1 v1 d1 => ?_⟩
  obtain ⟨d, S1⟩ := p
  cases d with
  | p d =>
    cases d with
    | bool k =>
      cases d1
      refine ⟨k, rfl, ?_⟩
      cases k with
      | true => exact ⟨ρ1, env, S1, eo.mono e1, o1, q1⟩
      | false => exact (Aft.here q1 rfl o1) _ (.bl _)
    | _ => exact False.elim q1
  | _ => exact False.elim q1
theorem x_or (ha : PE X a (TX X.K fa)) (hb : PE X (.BoolOp .Or (b :: rest) pos) (TX X.K fb)) : PE X (.BoolOp .Or (a :: b :: rest) pos) (TX X.K (mOr fa fb)) := PE.up (pe_or ha hb) fun σ H Q ⟨ρ, env, S, eo, ok, q⟩ => by
  refine ⟨ρ, env, S, eo, ok, (Aft.bd q).mono fun p ρ1 H1 e1 o1 q1 v1 d1 => ?_⟩
  obtain ⟨d, S1⟩ := p
  cases d with
  | p d =>
    cases d with
    | bool k =>
      cases d1
      refine ⟨k, rfl, ?_⟩
      cases k with
      | true => exact (Aft.here q1 rfl o1) _ (.bl _)
      | false => exact ⟨ρ1, env, S1, eo.mono e1, o1, q1⟩
    | _ => exact False.elim q1
  | _ => exact False.elim q1
theorem x_not (ha : PE X a (TX X.K fa)) : PE X (.UnaryOp .Not a pos) (TX X.K (mO1 pNot fa)) := PE.up (pe_not ha) fun σ H Q h => by
  refine tO1 (f := pNot) h |> fun z => ?_
  obtain ⟨ρ, env, S, eo, ok, q⟩ := h
  refine ⟨ρ, env, S, eo, ok, (Aft.bd q).mono fun p ρ1 H1 e1 o1 q1 v1 d1 => ?_⟩
  obtain ⟨u, hu, q3⟩ := Aft.bx q1
  obtain ⟨z, hz, q5⟩ := Aft.bx q3
  have du := o1.dv d1 hu
  cases u with
  | bool k =>
    cases hz
    exact ⟨k, du.bool, (Aft.here q5 rfl o1) _ (.bl _)⟩
  | _ => cases hz
theorem x_if (ht : PT X c (TBx X.K ga)) (ha : PE X a (TX X.K fa)) (hb : PE X b (TX X.K fb)) : PE X (.IfExp c a b pos) (TX X.K (mIf ga fa fb)) := PE.up (pe_ifExp ht ha hb) fun σ H Q ⟨ρ, env, S, eo, ok, q⟩ => by
  refine ⟨ρ, env, S, eo, ok, (Aft.bd q).mono fun p ρ1 H1 e1 o1 q1 => ?_⟩
  obtain ⟨k, S1⟩ := p
  cases k with
  | true => exact ⟨ρ1, env, S1, eo.mono e1, o1, q1⟩
  | false => exact ⟨ρ1, env, S1, eo.mono e1, o1, q1⟩
variable {es : List Expr} {fs : As}
theorem a_nil : PA X [] (TAs X.K aNil) := PA.up pa_nil fun σ H Q ⟨ρ, env, S, eo, ok, q⟩ => (Aft.here q rfl ok) _ .nil
theorem a_cons (ha : PE X e (TX X.K fa)) (hr : PA X es (TAs X.K fs)) (hs : starEach (e :: es) X.env = (false, eval e X.env) :: starEach es X.env := by rfl) : PA X (e :: es) (TAs X.K (aCons fa fs)) :=
  PA.up (pa_cons ha hr hs) fun σ H Q ⟨ρ, env, S, eo, ok, q⟩ => by
    refine ⟨ρ, env, S, eo, ok, (Aft.bd q).mono fun p ρ1 H1 e1 o1 q1 v1 d1 => ?_⟩
    refine ⟨ρ1, env, p.2, eo.mono e1, o1, (Aft.bd q1).mono fun p2 ρ2 H2 e2 o2 q2 vs ds => ?_⟩
    exact (Aft.here q2 rfl o2) _ (.cons (d1.mono e2) ds)
theorem nodup_ixA {ρ : List Addr} (hN : ρ.Nodup) {i j : Nat} {x : Addr} (a : ρ[i]? = some x) (b : ρ[j]? = some x) : i = j := by
  obtain ⟨h1, e1⟩ := List.getElem?_eq_some_iff.mp a
  obtain ⟨h2, e2⟩ := List.getElem?_eq_some_iff.mp b
  exact (List.getElem_inj hN).mp (e1.trans e2.symm)
theorem Live.froze {ρ : List Addr} {S : Store} {i : Nat} {c : Cell} (hc : c.free = false) (x : Addr) (h : Live ρ (S.set i c) x) : Live ρ S x := by
  obtain ⟨j, c', h1, h2, h3⟩ := h
  by_cases hj : i = j
  · subst hj
    by_cases hl : i < S.length
    · rw [List.getElem?_set_self hl] at h2
      cases h2
      rw [hc] at h3
      cases h3
    · rw [List.set_eq_of_length_le (by omega)] at h2
      exact ⟨i, c', h1, h2, h3⟩
  · rw [List.getElem?_set_ne hj] at h2
    exact ⟨j, c', h1, h2, h3⟩
theorem Gr.less {L L' : Addr → Prop} {H : Hp} (g : ∀ a, L' a → L a) : Gr L L' H H := ⟨fun a h => .inl (g a h), fun _ _ h _ => h, fun _ h => h, fun _ _ _ h => h⟩
theorem nst_set {ρ : List Addr} {S : Store} {H H' : Hp} {i : Nat} {c c0 : Cell} (h : S[i]? = some c0) (hc : ∀ n rs, c0 ≠ .nst n rs) (hH : ∀ (j : Nat) (b : Addr), i ≠ j → ρ[j]? = some b → ∀ o, H b = some o → H' b = some o) :
    ∀ (j : Nat) (b : Addr) (n : Nat) (rs : List Nat), ρ[j]? = some b → S[j]? = some (.nst n rs) → ∃ n' rs', (S.set i c)[j]? = some (.nst n' rs') ∧ n ≤ n' ∧ (n' = n → rs' = rs ∧ ∀ o, H b = some o → H' b = some o) := fun j b n rs h1 h2 => by
  by_cases hj : i = j
  · subst hj
    rw [h] at h2
    cases h2
    exact absurd rfl (hc n rs)
  · exact ⟨n, rs, by rw [List.getElem?_set_ne hj]; exact h2, Nat.le_refl _, fun _ => ⟨rfl, hH j b hj h1⟩⟩
theorem Ok.freeze {ρ : List Addr} {S : Store} {H : Hp} {i : Nat} {a : Addr} {xs : List PyData} (ok : Ok ρ S H) (h1 : ρ[i]? = some a) (h2 : S[i]? = some (.lst xs) ∨ S[i]? = some (.flst xs)) :
    Ok ρ (S.set i (.flst xs)) H ∧ Xt ρ S H ρ (S.set i (.flst xs)) H ∧ Pd (Live ρ (S.set i (.flst xs))) H (.ref a) (.list xs) := by
  have hl : i < S.length := by
    rcases h2 with h2 | h2 <;> exact (List.getElem?_eq_some_iff.mp h2).1
  have g := Live.froze (ρ := ρ) (S := S) (i := i) (c := .flst xs) rfl
  have hcell : ∃ vs, H a = some (.lst vs) ∧ Pds (Live ρ S) H vs xs := by
    rcases h2 with h2 | h2
    · exact ok.cell i a _ h1 h2
    · exact ok.cell i a _ h1 h2
  obtain ⟨vs, q1, q2⟩ := hcell
  obtain ⟨c0, hc0, hk0, hn0⟩ : ∃ c0, S[i]? = some c0 ∧ c0.kd = 0 ∧ ∀ n rs, c0 ≠ .nst n rs := by
    rcases h2 with h2 | h2 <;> exact ⟨_, h2, rfl, fun _ _ z => by cases z⟩
  refine ⟨⟨by rw [List.length_set]; exact ok.len, ok.nd, fun j b c r1 r2 => ?_, ok.tb_set hc0 hk0 rfl (Gr.less g) fun _ _ _ _ => rfl⟩, ⟨kd_set hc0 hk0.symm, fun _ _ _ h _ _ => h, Gr.less g, nst_set hc0 hn0 fun _ _ _ _ _ h => h, ver_set hc0 (by rw [hk0]; decide)⟩, .lst q1 (fun z => ?_) (Pds.less g _ _ q2)⟩
  · by_cases hj : i = j
    · subst hj
      rw [List.getElem?_set_self hl] at r2
      cases r2
      rw [h1] at r1
      cases r1
      exact ⟨vs, q1, Pds.less g _ _ q2⟩
    · rw [List.getElem?_set_ne hj] at r2
      exact (ok.cell j b c r1 r2).less g
  · obtain ⟨j, c, r1, r2, r3⟩ := z
    have e : i = j := nodup_ixA ok.nd h1 r1
    subst e
    rw [List.getElem?_set_self hl] at r2
    cases r2
    cases r3
theorem Ok.dead {ρ : List Addr} {S : Store} {H : Hp} {i : Nat} {a : Addr} {c0 : Cell} (ok : Ok ρ S H) (h1 : ρ[i]? = some a) (h2 : S[i]? = some c0) (hc : ∀ n rs, c0 ≠ .nst n rs) (hk : c0.kd = 0 := by rfl) :
    Ok ρ (S.set i .dead) H ∧ Xt ρ S H ρ (S.set i .dead) H ∧ ¬ Live ρ (S.set i .dead) a ∧ ∀ x, Live ρ (S.set i .dead) x → Live ρ S x := by
  have hl : i < S.length := (List.getElem?_eq_some_iff.mp h2).1
  have g := Live.froze (ρ := ρ) (S := S) (i := i) (c := .dead) rfl
  obtain ⟨o, ho, _⟩ := (ok.cell i a _ h1 h2).some
  refine ⟨⟨by rw [List.length_set]; exact ok.len, ok.nd, fun j b c r1 r2 => ?_, ok.tb_set h2 hk rfl (Gr.less g) fun _ _ _ _ => rfl⟩, ⟨kd_set h2 hk.symm, fun _ _ _ h _ _ => h, Gr.less g, nst_set h2 hc fun _ _ _ _ _ h => h, ver_set h2 (by rw [hk]; decide)⟩, fun z => ?_, g⟩
  · by_cases hj : i = j
    · subst hj
      rw [List.getElem?_set_self hl] at r2
      cases r2
      rw [h1] at r1
      cases r1
      exact ⟨o, ho⟩
    · rw [List.getElem?_set_ne hj] at r2
      exact (ok.cell j b c r1 r2).less g
  · obtain ⟨j, c, r1, r2, r3⟩ := z
    have e : i = j := nodup_ixA ok.nd h1 r1
    subst e
    rw [List.getElem?_set_self hl] at r2
    cases r2
    cases r3
theorem KvK.kvp {L : Addr → Prop} {H : Hp} : ∀ {us : List (Key × V)} {kvs : List (PyData × PyData)}, KvK L H us kvs → Kvp L H us kvs
  | _, _, .nil => .nil
  | _, _, .cons a t => .cons a (KvK.kvp t)
theorem Aft.fz {K : PySem.W.Frag} {ρ : List Addr} {S : Store} {H : Hp} {d : D} {v : V} {β : Type} {f : PyData → Store → R β} {st : β → Store} {k : β → List Addr → Hp → Prop} (ok : Ok ρ S H) (r : DOk K ρ S H v d) (h : Aft ρ S H (Mi.bd (Mi.fz S d) f) st k) :
    ∃ x S', Xt ρ S H ρ S' H ∧ Ok ρ S' H ∧ Pd (Live ρ S') H v x ∧ Aft ρ S' H (f x S') st k := by
  cases d with
  | p d => exact ⟨d, S, Xt.refl, ok, r, h⟩
  | ref i =>
    obtain ⟨a, ⟨h1, _⟩, rfl⟩ := r
    cases hs : S[i]? with
    | none => simp only [Mi.fz, hs] at h; exact False.elim h
    | some c =>
      simp only [Mi.fz, hs] at h
      cases c with
      | lst xs =>
        obtain ⟨o1, x1, p1⟩ := ok.freeze h1 (.inl hs)
        exact ⟨_, _, x1, o1, p1, h.from x1⟩
      | flst xs =>
        obtain ⟨vs, q1, q2⟩ := ok.cell i a _ h1 hs
        refine ⟨_, S, Xt.refl, ok, .lst q1 (fun z => ?_) q2, h⟩
        obtain ⟨j, c, r1, r2, r3⟩ := z
        have e : i = j := nodup_ixA ok.nd h1 r1
        subst e
        rw [hs] at r2
        cases r2
        cases r3
      | dct b kvs =>
        cases b with
        | true => exact False.elim h
        | false =>
          cases kvs with
          | nil => exact False.elim h
          | cons kv kvs =>
            obtain ⟨us, q1, q2⟩ := ok.cell i a _ h1 hs
            obtain ⟨o1, x1, nl, g⟩ := ok.dead h1 hs fun _ _ z => by cases z
            exact ⟨_, _, x1, o1, .dk q1 nl (Kvp.less g _ _ q2.kvp) (fun z => by subst z; cases q2), h.from x1⟩
      | tdv b kvs =>
        cases kvs with
        | nil => exact False.elim h
        | cons kv kvs =>
          obtain ⟨o, xs, q1, q2, q3, q4, q5, q6⟩ := ok.cell i a _ h1 hs
          obtain ⟨o1, x1, nl, g⟩ := ok.dead h1 hs fun _ _ z => by cases z
          exact ⟨_, _, x1, o1, .dt q1 nl (Kvt.less g _ _ q2) ⟨fun z => (by subst z; cases q3), by rw [q3]; exact q4, q5, by rw [← List.length_map (f := fun x : List Int × Addr × V => x.1), q3, List.length_map]; exact q6⟩, h.from x1⟩
      | fdct _ _ => exact False.elim h
      | nst _ _ => exact False.elim h
      | tab _ _ => exact False.elim h
      | tdc _ => exact False.elim h
      | dead => exact False.elim h
      | tbl _ => exact False.elim h
      | inn => exact False.elim h
      | inf => exact False.elim h
      | obj _ _ => exact False.elim h
  | own i k n => exact False.elim h
  | scr ns => exact False.elim h
  | rows i n rs => exact False.elim h
  | fn f c q => exact False.elim h
  | exn x => exact False.elim h
end
end Mi
end
section
namespace Mi
open PySem PySem.Spec PyProof.Rows L2
section
variable {X : Cx} {e a b c : Expr} {pos p : Pos} {fa fb fc : Ex} {ga gb : Bx} {es : List Expr} {fs : As}
theorem Aft.fzs {K : PySem.W.Frag} {ρ : List Addr} {H : Hp} {β : Type} {st : β → Store} {k : β → List Addr → Hp → Prop} : ∀ {ds : List D} {vs : List V} {S : Store} {f : List PyData → Store → R β}, Ok ρ S H → DsOk K ρ S H vs ds → Aft ρ S H (Mi.bd (Mi.fzs ds S) f) st k →
    ∃ xs S', Xt ρ S H ρ S' H ∧ Ok ρ S' H ∧ Pds (Live ρ S') H vs xs ∧ Aft ρ S' H (f xs S') st k
  | [], _, S, f, ok, .nil, h => ⟨[], S, Xt.refl, ok, .nil, h⟩
  | d :: ds, _, S, f, ok, .cons r rs, h => by
    have e : Mi.bd (Mi.fzs (d :: ds) S) f = Mi.bd (Mi.fz S d) fun x S1 => Mi.bd (Mi.fzs ds S1) fun xs S2 => f (x :: xs) S2 := by
      show Mi.bd (Mi.bd (Mi.fz S d) _) f = _
      cases Mi.fz S d with
      | ok q =>
        simp only [Mi.bd]
        cases Mi.fzs ds q.2 <;> rfl
      | ex e S => rfl
      | no => rfl
    rw [e] at h
    obtain ⟨x, S1, x1, o1, p1, h1⟩ := Aft.fz ok r h
    obtain ⟨xs, S2, x2, o2, p2, h2⟩ := Aft.fzs o1 (rs.mono x1) h1
    exact ⟨x :: xs, S2, x1.trans x2, o2, .cons (Pd.mono x2.gr _ _ p1) p2, h2⟩
def rMk (mk : List PyData → PyData) (vs : List V) (H : Hp) (Q : VK) : Prop := ∃ (ρ : List Addr) (S : Store) (ds : List PyData), Ok ρ S H ∧ Pds (Live ρ S) H vs ds ∧ ds.length ≤ Line ∧ ∀ H' w, Xt ρ S H ρ S H' → Ok ρ S H' → Pd (Live ρ S) H' w (mk ds) → Q w H'
theorem tMk {K : PySem.W.Frag} {mk : List PyData → PyData} {σ : L2.St} {H : Hp} {Q : VK} (h : TX K (fun σ S => Mi.bd (fs σ S) fun ds S1 => Mi.bd (Mi.fzs ds S1) fun xs S2 => when_ (decide (xs.length ≤ Line)) (.ok (.p (mk xs), S2))) σ H Q) : TAs K fs σ H fun vs H1 => rMk mk vs H1 Q := by
  obtain ⟨ρ, env, S, eo, ok, q⟩ := h
  refine ⟨ρ, env, S, eo, ok, (Aft.bd q).mono fun p ρ1 H1 e1 o1 q1 vs ds => ?_⟩
  obtain ⟨xs, S2, x2, o2, p2, q2⟩ := Aft.fzs o1 ds q1
  obtain ⟨hz, q3⟩ := Aft.when q2
  exact ⟨ρ1, S2, xs, o2, p2, of_decide_eq_true hz, fun H' w e' o' r' => (Aft.at q3 e' o') w r'⟩
theorem x_tup {k : Nat} (h : PA X es (TAs X.K fs)) : PE X (.Tuple es k pos) (TX X.K (mTup fs)) := by
  refine ⟨fun pins s σ H Q I hq => ?_⟩
  refine wpAny_Tuple_spliced (thn (h.run pos pins s σ H _ I (tMk hq)) fun us s1 ⟨vs, H1, I1, r, ρ, S, ds, ok, pd, hz, q⟩ => ⟨?_, ?_⟩)
  · rw [← r.length, pd.length]
    exact hz
  · exact tup_data (tk := s1.toks) I1 ok r hz pd q
theorem x_of_new {f : Ex} (h : PE X e (TN X.K f)) (hl : ∀ σ S p, f σ S = .ok p → ∃ xs, p.1 = .p (.list xs)) : PE X e (TX X.K f) := PE.up h fun σ H Q ⟨ρ, env, S, eo, ok, q⟩ => by
  refine ⟨ρ, env, S, eo, ok, ?_⟩
  have hl := hl env S
  generalize f env S = r at q hl
  cases r with
  | ok p =>
    intro ρ1 H1 e1 o1
    obtain ⟨xs, hx⟩ := hl p rfl
    refine ⟨xs, hx, fun a vs ha pd => ?_⟩
    refine q ρ1 (upd H1 a (.lst vs)) (e1.trans (Xt.new ha)) (o1.new ha) (.ref a) ?_
    rw [hx]
    exact .lst upd_same (Live.ne o1 ha) (Pds.mono (Gr.new ha) _ _ pd)
  | ex e S => exact q
  | no => exact q
theorem Live.push {ρ : List Addr} {S : Store} {p : Addr} {c : Cell} (hl : ρ.length = S.length) {a : Addr} (h : Live (ρ ++ [p]) (S ++ [c]) a) : Live ρ S a ∨ a = p := by
  obtain ⟨i, c', h1, h2, h3⟩ := h
  by_cases hi : i < S.length
  · rw [List.getElem?_append_left (by omega)] at h1
    rw [List.getElem?_append_left hi] at h2
    exact .inl ⟨i, c', h1, h2, h3⟩
  · have e : i = S.length := by
      have := (List.getElem?_eq_some_iff.mp h2).1
      simp at this
      omega
    subst e
    rw [← hl, List.getElem?_append_right (Nat.le_refl _)] at h1
    simp at h1
    exact .inr h1.symm
theorem Live.old {ρ : List Addr} {S : Store} {p : Addr} {c : Cell} {a : Addr} (h : Live ρ S a) : Live (ρ ++ [p]) (S ++ [c]) a := by
  obtain ⟨i, c', h1, h2, h3⟩ := h
  refine ⟨i, c', ?_, ?_, h3⟩
  · rw [List.getElem?_append_left (List.getElem?_eq_some_iff.mp h1).1]
    exact h1
  · rw [List.getElem?_append_left (List.getElem?_eq_some_iff.mp h2).1]
    exact h2
theorem Live.last {ρ : List Addr} {S : Store} {p : Addr} {c : Cell} (hl : ρ.length = S.length) (hc : c.free = true) : Live (ρ ++ [p]) (S ++ [c]) p :=
  ⟨S.length, c, by rw [← hl]; simp, by simp, hc⟩
theorem Ok.bound {ρ : List Addr} {S : Store} {H : Hp} {a : Addr} (ok : Ok ρ S H) (h : a ∈ ρ) : ∃ o, H a = some o := by
  obtain ⟨i, hi⟩ := List.getElem?_of_mem h
  have hl := (List.getElem?_eq_some_iff.mp hi).1
  have hs : i < S.length := by rw [← ok.len]; exact hl
  obtain ⟨o, h1, _⟩ := (ok.cell i a S[i] hi (List.getElem?_eq_getElem hs)).some
  exact ⟨o, h1⟩
theorem Ok.push {ρ : List Addr} {S : Store} {H : Hp} {p : Addr} {o : HO} {c : Cell} (ok : Ok ρ S H) (h0 : H p = none) (hc : CellOk (Live (ρ ++ [p]) (S ++ [c])) (upd H p o) p c) (hk : c.kd = 0 := by rfl) :
    Ok (ρ ++ [p]) (S ++ [c]) (upd H p o) ∧ Xt ρ S H (ρ ++ [p]) (S ++ [c]) (upd H p o) := by
  have g : Gr (Live ρ S) (Live (ρ ++ [p]) (S ++ [c])) H (upd H p o) := ⟨fun a h => (Live.push ok.len h).imp id (fun e => by rw [e]; exact h0), (Gr.new (L := Live ρ S) h0).keep, (Gr.new (L := Live ρ S) h0).there, (Gr.new (L := Live ρ S) h0).frzs⟩
  refine ⟨⟨by simp [ok.len], ?_, fun i a c' h1 h2 => ?_, fun i x t h1 h2 => ?_⟩, ⟨kd_app, pre_app, g, fun i a n rs h1 h2 => ⟨n, rs, by
    rw [List.getElem?_append_left (List.getElem?_eq_some_iff.mp h2).1]
    exact h2, Nat.le_refl _, fun _ => ⟨rfl, fun u hu => by
    rw [upd_ne (ne_of_none hu h0)]
    exact hu⟩⟩, ok.ver_app⟩⟩
  case refine_3 =>
    by_cases hi : i < S.length
    · rw [List.getElem?_append_left (by rw [ok.len]; exact hi)] at h1
      rw [List.getElem?_append_left hi] at h2
      exact ok.tb_app g (fun b u hu _ => by rw [upd_ne (ne_of_none hu h0)]; exact hu) h1 h2
    · have e : i = S.length := by
        have := (List.getElem?_eq_some_iff.mp h2).1
        simp at this
        omega
      subst e
      have e2 : c = .tbl t := by simpa using h2
      rw [e2] at hk
      cases hk
  · rw [List.nodup_append]
    refine ⟨ok.nd, by simp, fun x hx y hy => ?_⟩
    have e : y = p := by simpa using hy
    subst e
    rintro rfl
    obtain ⟨o, h1⟩ := ok.bound hx
    rw [h0] at h1
    cases h1
  · by_cases hi : i < S.length
    · rw [List.getElem?_append_left (by rw [ok.len]; exact hi)] at h1
      rw [List.getElem?_append_left hi] at h2
      have q := ok.cell i a c' h1 h2
      obtain ⟨u, hu, _⟩ := q.some
      exact q.mono g (upd_ne (ne_of_none hu h0))
    · have e : i = S.length := by
        have := (List.getElem?_eq_some_iff.mp h2).1
        simp at this
        omega
      subst e
      have e1 : p = a := by
        rw [← ok.len] at h1
        simpa using h1
      have e2 : c = c' := by simpa using h2
      subst e1 e2
      exact hc
theorem Ok.pushL {ρ : List Addr} {S : Store} {H : Hp} {p : Addr} {vs : List V} {xs : List PyData} (ok : Ok ρ S H) (h0 : H p = none) (r : Pds (Live ρ S) H vs xs) :
    Ok (ρ ++ [p]) (S ++ [.lst xs]) (upd H p (.lst vs)) ∧ Xt ρ S H (ρ ++ [p]) (S ++ [.lst xs]) (upd H p (.lst vs)) := by
  refine ok.push h0 ⟨vs, upd_same, Pds.mono ⟨fun a h => (Live.push ok.len h).imp id (fun e => by rw [e]; exact h0), (Gr.new (L := Live ρ S) h0).keep, (Gr.new (L := Live ρ S) h0).there, (Gr.new (L := Live ρ S) h0).frzs⟩ _ _ r⟩
theorem x_new {f : Ex} (h : PE X e (TN X.K f)) : PE X e (TX X.K (mNew f)) := PE.up h fun σ H Q ⟨ρ, env, S, eo, ok, q⟩ => by
  refine ⟨ρ, env, S, eo, ok, (Aft.bd q).mono fun p ρ1 H1 e1 o1 q1 => ?_⟩
  obtain ⟨d, S1⟩ := p
  cases d with
  | p d =>
    cases d with
    | list xs =>
      refine ⟨xs, rfl, fun a vs ha pd => ?_⟩
      obtain ⟨o2, x2⟩ := o1.pushL ha pd
      exact (Aft.at q1 x2 o2) _ ⟨a, .last o1.len (kd0 rfl), rfl⟩
    | _ => exact False.elim q1
  | _ => exact False.elim q1
theorem n_lst (h : PA X es (TAs X.K fs)) : PE X (.List es pos) (TN X.K (mLst fs)) := PE.up (pe_lst h) fun σ H Q ⟨ρ, env, S, eo, ok, q⟩ => by
  refine ⟨ρ, env, S, eo, ok, (Aft.bd q).mono fun p ρ1 H1 e1 o1 q1 vs ds => ?_⟩
  obtain ⟨xs, S2, x2, o2, p2, q2⟩ := Aft.fzs o1 ds q1
  obtain ⟨hz, q3⟩ := Aft.when q2
  have hz : xs.length ≤ Line := of_decide_eq_true hz
  refine ⟨by rw [p2.length]; exact hz, fun a ha => ?_⟩
  obtain ⟨ys, e, q4⟩ := Aft.here q3 rfl o2
  cases e
  exact q4 a vs ha p2
theorem bd_inv {α β : Type} {x : R (α × Store)} {f : α → Store → R β} {z : β} (h : Mi.bd x f = .ok z) : ∃ a S, x = .ok (a, S) ∧ f a S = .ok z := by
  cases x with
  | ok p => exact ⟨p.1, p.2, rfl, h⟩
  | ex e S => cases h
  | no => cases h
theorem bx_inv {α β : Type} {x : R α} {f : α → R β} {z : β} (h : Mi.bx x f = .ok z) : ∃ a, x = .ok a ∧ f a = .ok z := by
  cases x with
  | ok p => exact ⟨p, rfl, h⟩
  | ex e S => cases h
  | no => cases h
theorem orNo_inv {α : Type} {o : Option α} {z : α} (h : orNo o = .ok z) : o = some z := by
  cases o with
  | some a => cases h; rfl
  | none => cases h
theorem isL_lst (σ : Env) (S : Store) (p : D × Store) (h : mLst fs σ S = .ok p) : ∃ xs, p.1 = .p (.list xs) := by
  obtain ⟨ds, S1, _, h⟩ := bd_inv h
  obtain ⟨xs, S2, _, h⟩ := bd_inv h
  obtain ⟨_, h⟩ := when_ok h
  cases h
  exact ⟨xs, rfl⟩
end
end Mi
end
section
namespace Mi
open PySem PySem.Spec PyProof.Rows L2
section
variable {ρ ρ' : List Addr} {S S' : Store} {H H' : Hp} {i n : Nat} {a : Addr}
theorem Live.at (h1 : ρ[i]? = some a) {c : Cell} (h2 : S[i]? = some c) (h3 : c.free = true) : Live ρ S a := ⟨i, c, h1, h2, h3⟩
theorem Live.swap {c c' : Cell} (h2 : S[i]? = some c) (hf : c.free = true) {b : Addr} (h : Live ρ (S.set i c') b) : Live ρ S b := by
  obtain ⟨j, d, q1, q2, q3⟩ := h
  by_cases hj : i = j
  · subst hj
    exact ⟨i, c, q1, h2, hf⟩
  · rw [List.getElem?_set_ne hj] at q2
    exact ⟨j, d, q1, q2, q3⟩
theorem Ok.put0 {c c' : Cell} {o : HO} (ok : Ok ρ S H) (h1 : ρ[i]? = some a) (h2 : S[i]? = some c) (hf : c.free = true) (hf' : c'.free = true)
    (hc : CellOk (Live ρ (S.set i c')) (upd H a o) a c')
    (hx : ∀ (j : Nat) (b : Addr) (n : Nat) (rs : List Nat), ρ[j]? = some b → S[j]? = some (.nst n rs) → ∃ n' rs', (S.set i c')[j]? = some (.nst n' rs') ∧ n ≤ n' ∧ (n' = n → rs' = rs ∧ ∀ u, H b = some u → upd H a o b = some u)) (hk : c.kd = 0 := by rfl) (hk' : c'.kd = 0 := by rfl) : Ok ρ (S.set i c') (upd H a o) ∧ Xt ρ S H ρ (S.set i c') (upd H a o) := by
  obtain ⟨u, hu, hm0⟩ := (ok.cell i a c h1 h2).some
  have hm := hm0 hf
  have hl : Live ρ S a := ⟨i, c, h1, h2, hf⟩
  have g : Gr (Live ρ S) (Live ρ (S.set i c')) H (upd H a o) := by
    refine ⟨fun b hb => .inl (Live.swap h2 hf hb), fun b u' hb nb => ?_, fun b hb => ?_, fun b u1 u2 hb => ?_⟩
    · rw [upd_ne (fun e => nb (by rw [e]; exact hl))]
      exact hb
    · by_cases e : b = a
      · subst e
        rw [upd_same] at hb
        cases hb
      · rwa [upd_ne e] at hb
    · rw [upd_ne]
      · exact hb
      · rintro rfl
        rw [hu] at hb
        cases hb
        exact hm _ _ rfl
  refine ⟨⟨by rw [List.length_set]; exact ok.len, ok.nd, fun j b d r1 r2 => ?_, ok.tb_set h2 hk hk' g fun k b hj r1 => upd_ne fun e => hj ?_⟩, ⟨kd_set h2 (hk'.trans hk.symm), fun _ _ _ h _ _ => h, g, hx, ver_set h2 (by rw [hk]; decide)⟩⟩
  case refine_2 =>
    subst e
    exact nodup_ixA ok.nd h1 r1
  by_cases hj : i = j
  · subst hj
    rw [List.getElem?_set_self (List.getElem?_eq_some_iff.mp h2).1] at r2
    cases r2
    rw [h1] at r1
    cases r1
    exact hc
  · rw [List.getElem?_set_ne hj] at r2
    refine (ok.cell j b d r1 r2).mono g (upd_ne fun e => hj ?_)
    subst e
    exact nodup_ixA ok.nd h1 r1
theorem Ok.put {c c' : Cell} {o : HO} (ok : Ok ρ S H) (h1 : ρ[i]? = some a) (h2 : S[i]? = some c) (hf : c.free = true) (hf' : c'.free = true)
    (hc : CellOk (Live ρ (S.set i c')) (upd H a o) a c') (hn : ∀ n rs, c ≠ .nst n rs := by intro _ _ z; cases z) (hk : c.kd = 0 := by rfl) (hk' : c'.kd = 0 := by rfl) : Ok ρ (S.set i c') (upd H a o) ∧ Xt ρ S H ρ (S.set i c') (upd H a o) :=
  ok.put0 h1 h2 hf hf' hc (nst_set h2 hn fun j b hj r1 o ho => by
    rw [upd_ne fun e => hj ?_]
    · exact ho
    · subst e
      exact nodup_ixA ok.nd h1 r1) hk hk'
theorem Ok.putN {n n' : Nat} {rs rs' : List Nat} {vs : List V} (ok : Ok ρ S H) (h1 : ρ[i]? = some a) (h2 : S[i]? = some (.nst n rs)) (hn : n < n') :
    Ok ρ (S.set i (.nst n' rs')) (upd H a (.lst vs)) ∧ Xt ρ S H ρ (S.set i (.nst n' rs')) (upd H a (.lst vs)) :=
  ok.put0 h1 h2 rfl rfl ⟨vs, upd_same⟩ fun j b m ms r1 r2 => by
    by_cases hj : i = j
    · subst hj
      rw [h2] at r2
      cases r2
      exact ⟨n', rs', by rw [List.getElem?_set_self (List.getElem?_eq_some_iff.mp h2).1], by omega, fun e => by omega⟩
    · refine ⟨m, ms, by rw [List.getElem?_set_ne hj]; exact r2, Nat.le_refl _, fun _ => ⟨rfl, fun o ho => ?_⟩⟩
      rw [upd_ne fun e => hj ?_]
      · exact ho
      · subst e
        exact nodup_ixA ok.nd h1 r1
theorem Ok.putL {xs ys : List PyData} {vs : List V} (ok : Ok ρ S H) (h1 : ρ[i]? = some a) (h2 : S[i]? = some (.lst xs)) (r : Pds (Live ρ S) H vs ys) :
    Ok ρ (S.set i (.lst ys)) (upd H a (.lst vs)) ∧ Xt ρ S H ρ (S.set i (.lst ys)) (upd H a (.lst vs)) := by
  obtain ⟨u, hu, hm0⟩ := (ok.cell i a _ h1 h2).some
  have hm := hm0 rfl
  have hl : Live ρ S a := ⟨i, _, h1, h2, rfl⟩
  refine ok.put h1 h2 rfl rfl ⟨vs, upd_same, Pds.mono (L := Live ρ S) (H := H) ⟨fun b hb => .inl (Live.swap h2 rfl hb), fun b u' hb nb => ?_, fun b hb => ?_, fun b u1 u2 hb => ?_⟩ _ _ r⟩
  · rw [upd_ne (fun e => nb (by rw [e]; exact hl))]
    exact hb
  · by_cases e : b = a
    · subst e
      rw [upd_same] at hb
      cases hb
    · rwa [upd_ne e] at hb
  · rw [upd_ne]
    · exact hb
    · rintro rfl
      rw [hu] at hb
      cases hb
      exact hm _ _ rfl
theorem Ok.tb_tab {j P : Nat} {q : Str} {a : Addr} (ok : Ok ρ S H) (ha : ρ[j]? = some a) (h2 : S[j]? = some (.tab P q)) (g : Gr (Live ρ S) (Live ρ S) H H') (keep : ∀ b o, H b = some o → b ≠ a → H' b = some o) :
    ∀ (i : Nat) (x : Addr) (t : Tbl), ρ[i]? = some x → S[i]? = some (.tbl t) → TbAt ρ S H' i x t := fun i x t h1 h3 => by
  have q0 := ok.tb i x t h1 h3
  obtain ⟨dx, la, da, vs, us, q1, q2, q3, q4, q5, q6, q7, q8⟩ := ok.tb i x t h1 h3
  have n0 : j ≠ i := by
    rintro rfl
    rw [h2] at h3
    cases h3
  have n1 : j ≠ i + 1 := by
    rintro rfl
    rw [q3] at h2
    cases h2
  have n2 : j ≠ i + 2 := by
    rintro rfl
    rcases q8 with ⟨_, q8, _⟩ | ⟨_, q8, _⟩ <;> (rw [q8] at h2; cases h2)
  refine q0.keep g (fun _ _ => rfl) (fun _ _ => rfl) (fun k b hk hb => ?_) h1
  have hs : k < S.length := by rw [← ok.len]; exact (List.getElem?_eq_some_iff.mp hb).1
  obtain ⟨o, ho, _⟩ := (ok.cell k b S[k] hb (List.getElem?_eq_getElem hs)).some
  rw [ho]
  refine keep b o ho fun e => ?_
  subst e
  have := nodup_ixA ok.nd ha hb
  rcases hk with rfl | rfl | rfl
  · exact n0 this
  · exact n1 this
  · exact n2 this
theorem Live.take {b : Addr} (h : Live (ρ.take n) (S.take n) b) : Live ρ S b := by
  obtain ⟨j, d, q1, q2, q3⟩ := h
  by_cases hj : j < n
  · rw [List.getElem?_take_of_lt hj] at q1 q2
    exact ⟨j, d, q1, q2, q3⟩
  · rw [List.getElem?_take_eq_none (by omega)] at q1
    cases q1
theorem Ok.trunc (ok : Ok ρ S H) (n : Nat) (hn : ∀ i t, i < n → S[i]? = some (.tbl t) → i + 2 < n) : Ok (ρ.take n) (S.take n) H := by
  refine ⟨by rw [List.length_take, List.length_take, ok.len], ok.nd.sublist (List.take_sublist ..), fun j b d q1 q2 => ?_, fun i x t q1 q2 => ?_⟩
  · by_cases hj : j < n
    · rw [List.getElem?_take_of_lt hj] at q1 q2
      exact (ok.cell j b d q1 q2).less fun x h => Live.take h
    · rw [List.getElem?_take_eq_none (by omega)] at q1
      cases q1
  · by_cases hj : i < n
    · rw [List.getElem?_take_of_lt hj] at q1 q2
      have h2 := hn i t hj q2
      exact (ok.tb i x t q1 q2).keep (Gr.less fun x h => Live.take h) (fun k hk => List.getElem?_take_of_lt (by omega)) (fun k hk => List.getElem?_take_of_lt (by omega)) (fun _ _ _ _ => rfl) q1
    · rw [List.getElem?_take_eq_none (by omega)] at q1
      cases q1
theorem Xt.tbn (e : Xt ρ S H ρ' S' H') (ok : Ok ρ S H) : ∀ i t, i < S.length → S'[i]? = some (.tbl t) → i + 2 < S.length := fun i t hi h => by
  obtain ⟨c', h1, h2⟩ := e.kd i S[i] (List.getElem?_eq_getElem hi)
  rw [h] at h1
  cases h1
  obtain ⟨t0, ht0⟩ : ∃ t0, S[i]? = some (.tbl t0) := by
    rw [List.getElem?_eq_getElem hi]
    generalize S[i] = c at h2
    cases c <;> first | exact ⟨_, rfl⟩ | cases h2
  obtain ⟨x, hx⟩ : ∃ x, ρ[i]? = some x := ⟨_, List.getElem?_eq_getElem (by rw [ok.len]; exact hi)⟩
  obtain ⟨_, _, _, _, _, _, q2, _⟩ := ok.tb i x t0 hx ht0
  have := (List.getElem?_eq_some_iff.mp q2).1
  rw [ok.len] at this
  exact this
theorem Xt.trunc (e : Xt ρ S H ρ' S' H') (ok : Ok ρ S H) (n : Nat) (hn : n = S.length) : Xt ρ S H (ρ'.take n) (S'.take n) H' := by
  have hl : ∀ {i : Nat} {c : Cell}, S[i]? = some c → i < n := fun h => by rw [hn]; exact (List.getElem?_eq_some_iff.mp h).1
  refine ⟨fun i c h => ?_, fun i a c h1 h2 h3 => ?_, ⟨fun b hb => e.gr.live b (Live.take hb), e.gr.keep, e.gr.there, e.gr.frzs⟩, fun i a k rs r1 r2 => ?_, fun i t h => ?_⟩
  · obtain ⟨c', q1, q2⟩ := e.kd i c h
    exact ⟨c', by rw [List.getElem?_take_of_lt (hl h)]; exact q1, q2⟩
  · rw [List.getElem?_take_of_lt (hl h2)]
    exact e.pre i a c h1 h2 h3
  · obtain ⟨k', rs', q1, q2⟩ := e.nst i a k rs r1 r2
    exact ⟨k', rs', by rw [List.getElem?_take_of_lt (hl r2)]; exact q1, q2⟩
  · obtain ⟨t', q1, q2, q3⟩ := e.ver i t h
    have h2 : i + 2 < n := by rw [hn]; exact e.tbn ok i t' (by rw [← hn]; exact hl h) q1
    exact ⟨t', by rw [List.getElem?_take_of_lt (hl h)]; exact q1, q2, fun z k hk => by
      rw [List.getElem?_take_of_lt (by omega)]
      exact q3 z k hk⟩
def del (H : Hp) (p : Addr) : Hp := fun a => if a = p then none else H a
theorem del_same {p : Addr} : del H p p = none := by simp [del]
theorem del_ne {p : Addr} (h : a ≠ p) : del H p a = H a := by simp [del, h]
theorem upd_del {p : Addr} {o : HO} (h : H p = some o) : upd (del H p) p o = H := by
  funext b
  by_cases e : b = p
  · subst e; rw [upd_same, h]
  · rw [upd_ne e, del_ne e]
section
variable {L L' : Addr → Prop} {p : Addr} {ys : List V}
mutual
theorem Pd.del (hp : H p = some (.lst ys)) (hL : L p) (hs : ∀ a, L' a → L a) : ∀ (d : PyData) (v : V), Pd L H v d → Pd L' (Mi.del H p) v d
  | .none, _, .non => .non
  | .bool _, _, .bl b => .bl b
  | .int _, _, .int i => .int i
  | .str _, _, .str x => .str x
  | .list ds, _, .lst (a := a) h n r => .lst (by
      rw [del_ne (fun e => n (by rw [e]; exact hL))]
      exact h) (fun z => n (hs a z)) (Pds.del hp hL hs ds _ r)
  | .tuple ds, _, .tup (a := a) ⟨o, h, h'⟩ r => .tup (by
      refine ⟨o, ?_, h'⟩
      rw [del_ne]
      · exact h
      · rintro rfl
        rw [hp] at h
        cases h) (Pds.del hp hL hs ds _ r)
  | .dict [], _, .dct (a := a) h n => .dct (by
      rw [del_ne (fun e => n (by rw [e]; exact hL))]
      exact h) (fun z => n (hs a z))
  | .dict kvs, _, .dk (a := a) h n r ne => .dk (by
      rw [del_ne (fun e => n (by rw [e]; exact hL))]
      exact h) (fun z => n (hs a z)) (Kvp.del hp hL hs kvs _ r) ne
  | .dict kvs, _, .dt (a := a) h n r ne => .dt (by
      rw [del_ne (fun e => n (by rw [e]; exact hL))]
      exact h) (fun z => n (hs a z)) (Kvt.del hp hL hs kvs _ r) ne
theorem Pds.del (hp : H p = some (.lst ys)) (hL : L p) (hs : ∀ a, L' a → L a) : ∀ (ds : List PyData) (vs : List V), Pds L H vs ds → Pds L' (Mi.del H p) vs ds
  | [], _, .nil => .nil
  | d :: ds, _, .cons a b => .cons (Pd.del hp hL hs d _ a) (Pds.del hp hL hs ds _ b)
theorem Kvp.del (hp : H p = some (.lst ys)) (hL : L p) (hs : ∀ a, L' a → L a) : ∀ (ds : List (PyData × PyData)) (vs : List (Key × V)), Kvp L H vs ds → Kvp L' (Mi.del H p) vs ds
  | [], _, .nil => .nil
  | (_, d) :: ds, _, .cons a b => .cons (Pd.del hp hL hs d _ a) (Kvp.del hp hL hs ds _ b)
theorem Kvt.del (hp : H p = some (.lst ys)) (hL : L p) (hs : ∀ a, L' a → L a) : ∀ (ds : List (PyData × PyData)) (vs : List (List Int × Addr × V)), Kvt L H vs ds → Kvt L' (Mi.del H p) vs ds
  | [], _, .nil => .nil
  | (_, d) :: ds, _, .cons ⟨o, h, h'⟩ a b => .cons (by
      refine ⟨o, ?_, h'⟩
      rw [del_ne]
      · exact h
      · rintro rfl
        rw [hp] at h
        cases h) (Pd.del hp hL hs d _ a) (Kvt.del hp hL hs ds _ b)
end
theorem KvK.del (hp : H p = some (.lst ys)) (hL : L p) (hs : ∀ a, L' a → L a) : ∀ {us : List (Key × V)} {kvs : List (PyData × PyData)}, KvK L H us kvs → KvK L' (Mi.del H p) us kvs
  | _, _, .nil => .nil
  | _, _, .cons a t => .cons (Pd.del hp hL hs _ _ a) (KvK.del hp hL hs t)
theorem KvT.del (hp : H p = some (.lst ys)) (hL : L p) (hs : ∀ a, L' a → L a) : ∀ {us : List (List Key × V)} {kvs : List (PyData × PyData)}, KvT L H us kvs → KvT L' (Mi.del H p) us kvs
  | _, _, .nil => .nil
  | _, _, .cons a t => .cons (Pd.del hp hL hs _ _ a) (KvT.del hp hL hs t)
theorem FsOk.del (hp : H p = some (.lst ys)) (hL : L p) (hs : ∀ a, L' a → L a) : ∀ {us : List (Str × V)} {fs : List (Str × PyData)}, FsOk L H us fs → FsOk L' (Mi.del H p) us fs
  | _, _, .nil => .nil
  | _, _, .cons a t => .cons (Pd.del hp hL hs _ _ a) (FsOk.del hp hL hs t)
theorem CellOk.del {b : Addr} {c : Cell} (hp : H p = Option.some (.lst ys)) (hL : L p) (hs : ∀ a, L' a → L a) (hb : b ≠ p) (h : CellOk L H b c) : CellOk L' (Mi.del H p) b c := by
  have ha : Mi.del H p b = H b := del_ne hb
  cases c with
  | lst xs => obtain ⟨vs, h1, h2⟩ := h; exact ⟨vs, ha.trans h1, Pds.del hp hL hs _ _ h2⟩
  | flst xs => obtain ⟨vs, h1, h2⟩ := h; exact ⟨vs, ha.trans h1, Pds.del hp hL hs _ _ h2⟩
  | dct t xs =>
    cases t with
    | true => exact h.elim
    | false => obtain ⟨vs, h1, h2⟩ := h; exact ⟨vs, ha.trans h1, KvK.del hp hL hs h2⟩
  | fdct t xs =>
    cases t with
    | true => exact h.elim
    | false => obtain ⟨o, vs, h1, h2⟩ := h; exact ⟨o, vs, ha.trans h1, KvK.del hp hL hs h2⟩
  | nst n rs => obtain ⟨vs, h1⟩ := h; exact ⟨vs, ha.trans h1⟩
  | tdv b kvs => obtain ⟨o, xs, h1, h2, h3⟩ := h; exact ⟨o, xs, ha.trans h1, Kvt.del hp hL hs _ _ h2, h3⟩
  | dead => obtain ⟨o, h1⟩ := h; exact ⟨o, ha.trans h1⟩
  | tbl t => obtain ⟨dx, fs, h1⟩ := h; exact ⟨dx, fs, ha.trans h1⟩
  | inn => obtain ⟨o, h1, h2⟩ := h; exact ⟨o, ha.trans h1, h2⟩
  | inf => obtain ⟨o, h1⟩ := h; exact ⟨o, ha.trans h1⟩
  | obj C fs => obtain ⟨dx, us, h1, h2⟩ := h; exact ⟨dx, us, ha.trans h1, FsOk.del hp hL hs h2⟩
  | tdc ks =>
    obtain ⟨xs, h1, h2, h3, h4⟩ := h
    refine ⟨xs, h1, ha.trans h2, fun x hx => ?_, h4⟩
    obtain ⟨o, q1, q2⟩ := h3 x hx
    refine ⟨o, (del_ne fun z => ?_).trans q1, q2⟩
    rw [z, hp] at q1
    cases q1
  | tab P q =>
    obtain ⟨h0, ps, h1, h2, h3⟩ := h
    exact ⟨h0, ps, ha.trans h1, h2, fun pos cv e => by
      obtain ⟨c, e1, e2, e3⟩ := h3 pos cv e
      refine ⟨c, e1, (del_ne fun z => ?_).trans e2, fun z => e3 (hs _ z)⟩
      rw [z, hp] at e2
      cases e2⟩
end
theorem Ok.pop {p : Addr} {acc : List PyData} (hl : ρ.length = S.length) (ok : Ok (ρ ++ [p]) (S ++ [.lst acc]) H) :
    ∃ vs, H p = some (.lst vs) ∧ Ok ρ S (del H p) ∧ Pds (Live ρ S) (del H p) vs acc := by
  have hP : Live (ρ ++ [p]) (S ++ [.lst acc]) p := Live.last hl rfl
  obtain ⟨vs, h1, h2⟩ := ok.cell S.length p (.lst acc) (by rw [← hl]; simp) (by simp)
  have hs : ∀ a, Live ρ S a → Live (ρ ++ [p]) (S ++ [.lst acc]) a := fun a h => Live.old h
  have nd := ok.nd
  rw [List.nodup_append] at nd
  refine ⟨vs, h1, ⟨hl, nd.1, fun i a c q1 q2 => ?_, fun i x t q1 q2 => ?_⟩, Pds.del h1 hP hs _ _ h2⟩
  · have hi := (List.getElem?_eq_some_iff.mp q2).1
    have q := ok.cell i a c (by rw [List.getElem?_append_left (by omega)]; exact q1) (by rw [List.getElem?_append_left hi]; exact q2)
    exact q.del h1 hP hs (nd.2.2 a (List.mem_of_getElem? q1) p (by simp))
  · have hi := (List.getElem?_eq_some_iff.mp q2).1
    obtain ⟨dx, la, da, ws, us, r1, r2, r3, r4, r5, r6, r7, r8⟩ := ok.tb i x t (by rw [List.getElem?_append_left (by omega)]; exact q1) (by rw [List.getElem?_append_left hi]; exact q2)
    have low : ∀ {j : Nat} {c : Cell}, (S ++ [Cell.lst acc])[j]? = some c → c.kd = 1 → j < S.length ∧ S[j]? = some c := fun {j c} h hk => by
      by_cases hj : j < S.length
      · rw [List.getElem?_append_left hj] at h
        exact ⟨hj, h⟩
      · have e : j = S.length := by
          have := (List.getElem?_eq_some_iff.mp h).1
          simp at this
          omega
        subst e
        have : c = .lst acc := by simpa using h.symm
        subst this
        cases hk
    obtain ⟨g1, g2⟩ := low r3 rfl
    have g3 : i + 2 < S.length ∧ (S[i + 2]? = (S ++ [Cell.lst acc])[i + 2]?) := by
      rcases r8 with ⟨_, r8, _⟩ | ⟨_, r8, _⟩
      · obtain ⟨z1, z2⟩ := low r8 rfl
        exact ⟨z1, z2.trans r8.symm⟩
      · obtain ⟨z1, z2⟩ := low r8 rfl
        exact ⟨z1, z2.trans r8.symm⟩
    rw [List.getElem?_append_left (by omega)] at r1 r2
    have ne : ∀ {j : Nat} {b : Addr}, ρ[j]? = some b → del H p b = H b := fun h => del_ne (nd.2.2 _ (List.mem_of_getElem? h) p (by simp))
    refine ⟨dx, la, da, ws, us, r1, r2, g2, (ne q1).trans r4, (ne r1).trans r5, Pds.del h1 hP hs _ _ r6, r7.del h1 hP hs, ?_⟩
    rcases r8 with ⟨z1, z2, z3⟩ | ⟨z1, z2, o, z3⟩
    · exact .inl ⟨z1, g3.2.trans z2, (ne r2).trans z3⟩
    · exact .inr ⟨z1, g3.2.trans z2, o, (ne r2).trans z3⟩
theorem Xt.drop {ρ1 ρc : List Addr} {S1 Sc : Store} {H1 H2 : Hp} {D : Addr} {acc : List PyData} (xtc : Xt ρ1 S1 H1 (ρc ++ [D]) (Sc ++ [.lst acc]) H2) (o1 : Ok ρ1 S1 H1) (hl : ρc.length = Sc.length) (hlen : Sc.length = S1.length) (hD : H1 D = none) : Xt ρ1 S1 H1 ρc Sc (del H2 D) := by
  have low : ∀ {i : Nat} {c : Cell}, S1[i]? = some c → i < Sc.length := fun h => by rw [hlen]; exact (List.getElem?_eq_some_iff.mp h).1
  refine ⟨fun i c h => ?_, fun i a c h1 h2 h3 => ?_, ⟨fun a ha => xtc.gr.live a (Live.old ha), fun a o ha na => ?_, fun a ha => ?_, fun a o u ha => ?_⟩, fun i a n rs r1 r2 => ?_, fun i t h => ?_⟩
  · obtain ⟨c', q1, q2⟩ := xtc.kd i c h
    rw [List.getElem?_append_left (low h)] at q1
    exact ⟨c', q1, q2⟩
  · have := xtc.pre i a c h1 h2 h3
    rwa [List.getElem?_append_left (by rw [hl]; exact low h2)] at this
  · rw [del_ne (ne_of_none ha hD)]
    exact xtc.gr.keep a o ha na
  · by_cases e : a = D
    · subst e; exact hD
    · rw [del_ne e] at ha
      exact xtc.gr.there a ha
  · rw [del_ne (ne_of_none ha hD)]
    exact xtc.gr.frzs a o u ha
  · obtain ⟨n', rs', q1, q2, q3⟩ := xtc.nst i a n rs r1 r2
    rw [List.getElem?_append_left (low r2)] at q1
    exact ⟨n', rs', q1, q2, fun e => ⟨(q3 e).1, fun o ho => by
      rw [del_ne (ne_of_none ho hD)]
      exact (q3 e).2 o ho⟩⟩
  · obtain ⟨t', q1, q2, q3⟩ := xtc.ver i t h
    rw [List.getElem?_append_left (low h)] at q1
    refine ⟨t', q1, q2, fun e k hk => ?_⟩
    have := q3 e k hk
    have h2 := Xt.refl.tbn o1 i t (by rw [← hlen]; exact low h) h
    rwa [List.getElem?_append_left (by omega)] at this
theorem take_snocA {ρ : List Addr} {n : Nat} {D : Addr} (h : ρ[n]? = some D) : ρ.take (n + 1) = ρ.take n ++ [D] := by
  rw [List.take_succ, h]
  rfl
end
end Mi
end
section
namespace Mi
open PySem PySem.Spec PyProof.Rows L2
section
variable (K : PySem.W.Frag)
def Rl (st : Bool) (L : Addr → Prop) (H : Hp) (v : V) (d : PyData) : Prop := match st with
  | true => Pd L H v d
  | false => ∃ T vs ds, v = .ref T ∧ d = .tuple ds ∧ SqT K H T vs ∧ Pds L H vs ds
def TTg (st : Bool) (is : List Nat) (t : Tg) : TG := fun v σ H Q => ∃ ρ env S d env', EnvOk K ρ S H env σ ∧ Ok ρ S H ∧ Rl K st (Live ρ S) H v d ∧ t d env = .ok env' ∧
  ∀ σ', EnvOk K ρ S H env' σ' → (∀ own, (∀ i ∈ is, i ∈ own) → L2.wipe σ' own = L2.wipe σ own) → Q σ' H
def TTgs (is : List Nat) (ts : List Tg) : TGs := fun vs σ H Q => ∃ ρ env S ds env', EnvOk K ρ S H env σ ∧ Ok ρ S H ∧ Pds (Live ρ S) H vs ds ∧ gAll ts ds env = .ok env' ∧
  ∀ σ', EnvOk K ρ S H env' σ' → (∀ own, (∀ i ∈ is, i ∈ own) → L2.wipe σ' own = L2.wipe σ own) → Q σ' H
end
theorem wipe_set1 {σ : L2.St} {i : Nat} {x y : Option V} : ∀ own : List Nat, (L2.wipe (σ.set i x) own).set i y = (L2.wipe σ own).set i y
  | [] => by
    show (σ.set i x).set i y = σ.set i y
    rw [List.set_set]
  | k :: r => by
    show ((L2.wipe (σ.set i x) r).set k none).set i y = ((L2.wipe σ r).set k none).set i y
    by_cases e : k = i
    · subst e
      rw [List.set_set, List.set_set]
      exact wipe_set1 r
    · rw [List.set_comm _ _ e, List.set_comm _ _ e, wipe_set1 r]
theorem wipe_set {σ : L2.St} {i : Nat} {x : Option V} : ∀ {own : List Nat}, i ∈ own → L2.wipe (σ.set i x) own = L2.wipe σ own
  | k :: r, h => by
    show (L2.wipe (σ.set i x) r).set k none = (L2.wipe σ r).set k none
    by_cases e : i = k
    · subst e
      exact wipe_set1 r
    · rw [wipe_set (by simpa [e] using h)]
section
variable {X : Cx}
theorem PG.up {e : Expr} {t t' : TG} (h : PG X e t) (g : ∀ v σ H Q, t' v σ H Q → t v σ H Q) : PG X e t' := ⟨fun pins s σ H v u Q I r q => h.run pins s σ H v u Q I r (g v σ H Q q)⟩
theorem PGs.up {e : List Expr} {t t' : TGs} (h : PGs X e t) (g : ∀ v σ H Q, t' v σ H Q → t v σ H Q) : PGs X e t' := ⟨fun pins s σ H v u Q I r q => h.run pins s σ H v u Q I r (g v σ H Q q)⟩
theorem PI.up {tg e : Expr} {t t' : TI} (h : PI X tg e t) (g : ∀ σ H Q, t' σ H Q → t σ H Q) : PI X tg e t' := ⟨fun pins s σ H Q I q => h.run pins s σ H Q I (g σ H Q q)⟩
theorem g_name (G : Gd X) (i : Nat) {x : Str} {pos : Pos} (hi : X.N[i]? = some x := by rfl) (hx : Loc X.env.scope x := by first | exact Or.inl rfl | exact Or.inr rfl) (hf : X.fn x = true ∨ X.env.scope.names.lookup x = some .local := by first | exact .inl rfl | exact .inr rfl | assumption) :
    PG X (.Name x pos) (TTg X.K true [i] (gN i)) := PG.up (pg_name G.nd hi hx hf) fun v σ H Q ⟨ρ, env, S, d, env', eo, ok, r, ht, q⟩ => by
  cases ht
  exact q _ (eo.set (d := .p d) r) fun own h => wipe_set (h i (by simp))
theorem gs_nil : PGs X [] (TTgs X.K [] []) := PGs.up pgs_nil fun vs σ H Q ⟨ρ, env, S, ds, env', eo, ok, r, ht, q⟩ => by
  cases r with
  | nil =>
    cases ht
    exact ⟨rfl, q _ eo fun _ _ => rfl⟩
  | cons a b => cases ht
theorem gs_cons {e : Expr} {es : List Expr} {i j : List Nat} {t : Tg} {ts : List Tg} (h1 : PG X e (TTg X.K true i t)) (h2 : PGs X es (TTgs X.K j ts))
    (hs : (assignEach (e :: es) X.env).map (·.2) = assign e X.env :: (assignEach es X.env).map (·.2) := by rfl) : PGs X (e :: es) (TTgs X.K (i ++ j) (t :: ts)) := PGs.up (pgs_cons h1 h2 hs) fun vs σ H Q ⟨ρ, env, S, ds, env', eo, ok, r, ht, q⟩ => by
  cases r with
  | nil => cases ht
  | @cons v0 vs0 d ds a b =>
    have ht : bx (t d env) (fun σ1 => gAll ts ds σ1) = .ok env' := ht
    obtain ⟨env1, h3, h4⟩ := bx_inv ht
    refine ⟨_, _, rfl, ρ, env, S, d, env1, eo, ok, a, h3, fun σ1 eo1 hw => ?_⟩
    refine ⟨ρ, env1, S, ds, env', eo1, ok, b, h4, fun σ2 eo2 hw2 => q σ2 eo2 fun own h => ?_⟩
    rw [hw2 own fun x hx => h x (List.mem_append_right _ hx), hw own fun x hx => h x (List.mem_append_left _ hx)]
theorem gAll_length : ∀ {ts : List Tg} {ds : List PyData} {σ σ' : Env}, gAll ts ds σ = .ok σ' → ds.length = ts.length
  | [], [], _, _, _ => rfl
  | [], _ :: _, _, _, h => by cases h
  | _ :: _, [], _, _, h => by cases h
  | t :: ts, d :: ds, σ, σ', h => by
    have h : bx (t d σ) (fun σ1 => gAll ts ds σ1) = .ok σ' := h
    obtain ⟨σ1, h3, h4⟩ := bx_inv h
    simp [gAll_length h4]
theorem PG.or {e : Expr} {t1 t2 : TG} (h1 : PG X e t1) (h2 : PG X e t2) : PG X e (fun v σ H Q => t1 v σ H Q ∨ t2 v σ H Q) :=
  ⟨fun pins s σ H v u Q I r hw => hw.elim (h1.run pins s σ H v u Q I r) (h2.run pins s σ H v u Q I r)⟩
theorem g_tup (G : Gd X) {st : Bool} {es : List Expr} {k : Nat} {pos : Pos} {is : List Nat} {ts : List Tg} (h : PGs X es (TTgs X.K is ts))
    (hn : (assignEach es X.env).length = ts.length := by rfl) (hst : (assignEach es X.env).findIdx? (·.1) = none := by rfl) : PG X (.Tuple es k pos) (TTg X.K st is (gT ts)) := PG.up (PG.or (pg_tup G.calm h hn hst) (pg_unl G.calm h hn hst)) fun v σ H Q ⟨ρ, env, S, d, env', eo, ok, r, ht, q⟩ => by
  cases d with
  | tuple ds =>
    have ht : gAll ts ds env = .ok env' := ht
    have hl := gAll_length ht
    cases st with
    | true =>
      cases r with
      | tup h1 h2 => exact .inl ⟨_, _, rfl, h1.sq, by rw [h2.length, hl], ρ, env, S, ds, env', eo, ok, h2, ht, q⟩
    | false =>
      obtain ⟨T, vs, ds', e1, e2, h1, h2⟩ := r
      cases e2
      exact .inl ⟨_, _, e1, h1, by rw [h2.length, hl], ρ, env, S, ds, env', eo, ok, h2, ht, q⟩
  | list ds =>
    have ht : gAll ts ds env = .ok env' := ht
    have hl := gAll_length ht
    cases st with
    | true =>
      cases r with
      | lst h1 h3 h2 => exact .inr ⟨_, _, rfl, .of h1, by rw [h2.length, hl], ρ, env, S, ds, env', eo, ok, h2, ht, q⟩
    | false =>
      obtain ⟨T, vs, ds', e1, e2, h1, h2⟩ := r
      cases e2
  | _ => cases ht
end
section
variable (K : PySem.W.Frag)
structure Wk (st : Bool) (J : It) (items : List PyData) (g : List (Nat × Cell)) (G : List Addr → Store → Hp → Prop) : Prop where
  mono : ∀ ρ S H ρ' S' H', G ρ S H → Xt ρ S H ρ' S' H' → G ρ' S' H'
  goes : ∀ i ρ S H, i < items.length → Ok ρ S H → G ρ S H → stand g S = true → J.go i H
  stops : ∀ ρ S H, Ok ρ S H → G ρ S H → stand g S = true → J.stop items.length H
  yld : ∀ i ρ S H x H' d, items[i]? = some d → Ok ρ S H → G ρ S H → stand g S = true → J.yld i H x H' → Xt ρ S H ρ S H' ∧ Ok ρ S H' ∧ Rl K st (Live ρ S) H' x d
def TIs (st : Bool) (f : Is) : TI := fun σ H R => ∃ ρ env S, EnvOk K ρ S H env σ ∧ Ok ρ S H ∧ Aft ρ S H (f env S) (fun p => p.2) fun p ρ' H' => ∀ J G, Wk K st J p.1.items p.1.g G → G ρ' p.2 H' → R J H'
end
section
variable {X : Cx} {K : PySem.W.Frag} {ρ ρ1 ρ2 : List Addr} {S S1 S2 : Store} {H H1 H2 : Hp}
theorem Aft.bd0 {α β : Type} {r : R (α × Store)} {f : α → Store → R β} {st : β → Store} {k : β → List Addr → Hp → Prop} (h : Aft ρ S H (Mi.bd r f) st k) :
    Aft ρ2 S2 H2 r (fun p => p.2) fun p _ _ => Aft ρ S H (f p.1 p.2) st k := by
  cases r with
  | ok a => exact fun _ _ _ _ => h
  | ex e S => exact h
  | no => exact h
theorem fz_ok {d : D} {v : V} {x : PyData} (ok : Ok ρ S H) (r : DOk K ρ S H v d) (h : Mi.fz S d = .ok (x, S1)) : Xt ρ S H ρ S1 H ∧ Ok ρ S1 H ∧ Pd (Live ρ S1) H v x := by
  have q : Aft ρ S H (Mi.bd (Mi.fz S d) fun x S' => .ok (x, S')) (fun p => p.2) fun p _ _ => p = (x, S1) := by
    rw [h]
    intro ρ' H' _ _
    rfl
  obtain ⟨x', S', h1, h2, h3, h4⟩ := Aft.fz ok r q
  have e := Aft.here h4 rfl h2
  cases e
  exact ⟨h1, h2, h3⟩
theorem Aft.inv {α β : Type} {r : R (α × Store)} {f : α → Store → R β} {st : β → Store} {k : β → List Addr → Hp → Prop} (h : Aft ρ S H (Mi.bd r f) st k) : ∃ a S', r = .ok (a, S') ∧ Aft ρ S H (f a S') st k := by
  cases r with
  | ok p => exact ⟨p.1, p.2, rfl, h⟩
  | ex e S => exact h.elim
  | no => exact h.elim
theorem drop_cons {α : Type} {xs : List α} {i : Nat} (h : i < xs.length) : xs.drop i = xs[i] :: xs.drop (i + 1) := List.drop_eq_getElem_cons h
theorem s_for (G : Gd X) {iter tg : Expr} {body : List Stmt} {pos : Pos} {st : Bool} {is : List Nat} {src : Is} {t : Tg} {fb : Sm} (hp : PassesOwn (model X.prog X.w) X.A X.env X.xe) (hi : PI X tg iter (TIs X.K st src)) (hg : PG X tg (TTg X.K st is t)) (hb : PSs X body (TSm X.K fb))
    (hs : ∀ x, foldedSetIterable iter X.env x = pure x := by intro _; rfl) : PS X (.For tg iter body [] pos) (TSm X.K (sFor src t fb)) := PS.up (ps_for hp G.calm hi hg hb hs) fun D' σ H ⟨ρ, env, S, eo, ok, q⟩ => by
  refine ⟨ρ, env, S, eo, ok, (Aft.bd q).mono fun p ρ1 H1 e1 o1 q1 J GG wk hG => ?_⟩
  obtain ⟨⟨items, g⟩, S1⟩ := p
  let W : Nat → Nat → L2.St → Hp → Prop := fun i m σ' H' => m = items.length - i ∧ i ≤ items.length ∧ ∃ ρ' env' S', EnvOk X.K ρ' S' H' env' σ' ∧ Ok ρ' S' H' ∧ GG ρ' S' H' ∧
    Aft ρ' S' H' (forL t g fb (items.drop i) env' S') (fun p => p.2.2) fun p ρ'' H'' => FlOk X.K D' ρ'' p.2.2 H'' p.2.1 p.1
  refine ⟨W, ⟨items.length, by omega, Nat.zero_le _, ρ1, env, S1, eo.mono e1, o1, hG, q1⟩, ?_⟩
  rintro i m σ' H' ⟨rfl, hi, ρ', env', S', eo', ok', hG', q'⟩
  by_cases hlt : i < items.length
  · rw [drop_cons hlt] at q'
    obtain ⟨hst, q2⟩ := Aft.when q'
    obtain ⟨env2, ht, q3⟩ := Aft.bx q2
    refine .inr ⟨wk.goes i ρ' S' H' hlt ok' hG' hst, W (i + 1) (items.length - (i + 1)), fun σ2 H2 w => ⟨_, by omega, w⟩, fun x H2 y => ?_⟩
    obtain ⟨xt, o2, rl⟩ := wk.yld i ρ' S' H' x H2 items[i] (List.getElem?_eq_getElem hlt) ok' hG' hst y
    refine ⟨ρ', env', S', items[i], env2, eo'.mono xt, o2, rl, ht, fun σ2 eo2 _ => ?_⟩
    refine ⟨ρ', env2, S', eo2, o2, (Aft.bs (q3.from xt)).mono fun p ρ3 H3 e3 o3 q4 => ?_⟩
    obtain ⟨f, env3, S3⟩ := p
    have hG3 := wk.mono _ _ _ _ _ _ hG' (xt.trans e3)
    cases f with
    | nx => exact fun σ3 eo3 => ⟨rfl, hlt, ρ3, env3, S3, eo3, o3, hG3, q4⟩
    | ct => exact fun σ3 eo3 => ⟨rfl, hlt, ρ3, env3, S3, eo3, o3, hG3, q4⟩
    | bk => exact fun σ3 eo3 => (Aft.here q4 rfl o3) σ3 eo3
    | rt d => exact fun v dv => (Aft.here q4 rfl o3) v dv
  · have e : i = items.length := by omega
    subst e
    rw [List.drop_length] at q'
    obtain ⟨hst, q2⟩ := Aft.when q'
    exact .inl ⟨wk.stops ρ' S' H' ok' hG' hst, (Aft.here q2 rfl ok') σ' eo'⟩
theorem ts_nil : PTs X [] (TBx X.K Mi.tYes) := ⟨fun pins s σ H Q I ⟨ρ, env, S, eo, ok, q⟩ => (pts_nil (X := X)).run pins s σ H Q I (Aft.here q rfl ok)⟩
theorem ts_one {c : Expr} {t : Bx} (h : PT X c (TBx X.K t)) : PTs X [c] (TBx X.K t) := pts_one h
theorem stand_at {S : Store} {i : Nat} {c : Cell} (h : stand [(i, c)] S = true) : S[i]? = some c := by
  unfold stand at h
  simpa using h
theorem take_set {S : Store} {n : Nat} {c : Cell} (h : n < S.length) : (S.set n c).take (n + 1) = S.take n ++ [c] := by
  rw [List.take_succ]
  simp [List.getElem?_set_self h, List.take_set_of_le]
theorem wipe_wipe (own : List Nat) (σ : L2.St) : L2.wipe (L2.wipe σ own) own = L2.wipe σ own := by
  have z : ∀ (vs : List Nat) (σ : L2.St), (∀ v ∈ vs, (L2.wipe σ vs).set v none = L2.wipe σ vs) := fun vs σ v hv => by
    apply List.ext_getElem?
    intro n
    by_cases e : v = n
    · subst e
      by_cases hl : v < (L2.wipe σ vs).length
      · rw [List.getElem?_set_self hl]
        cases hq : (L2.wipe σ vs)[v]? with
        | none => have := List.getElem?_eq_none_iff.mp hq; omega
        | some o =>
          cases o with
          | none => rfl
          | some u => exact absurd hv (wipe_some hq).2
      · rw [List.set_eq_of_length_le (by omega)]
    · rw [List.getElem?_set_ne e]
  have z2 : ∀ r : List Nat, (∀ v ∈ r, v ∈ own) → L2.wipe (L2.wipe σ own) r = L2.wipe σ own := fun r => by
    induction r with
    | nil => intro _; rfl
    | cons v r ih =>
      intro hr
      show (L2.wipe (L2.wipe σ own) r).set v none = _
      rw [ih fun u hu => hr u (by simp [hu])]
      exact z own σ v (hr v (by simp))
  exact z2 own fun v hv => hv
theorem t_comp {own : List Nat} {st : Bool} {is : List Nat} {src : Is} {t : Tg} {cond : Bx} {fe : Ex} (his : ∀ i ∈ is, i ∈ own) {σ : L2.St} {H : Hp} {Q : VK} (h : TN K (mComp own src t cond fe) σ H Q) :
    tLc (TIs K st src) (TTg K st is t) (TBx K cond) (TX K fe) own σ H Q := by
  obtain ⟨ρ, env, S, eo, ok, q⟩ := h
  refine ⟨ρ, env, S, eo, ok, (Aft.bd q).mono fun p ρ1 H1 e1 o1 q1 J GG wk hG => ?_⟩
  obtain ⟨⟨items, g⟩, S1⟩ := p
  obtain ⟨hz, q1⟩ := Aft.when q1
  have hz : items.length ≤ Line := of_decide_eq_true hz
  intro D hD
  have eo1 := eo.mono e1
  let k : Mi.D × Store → List Addr → Hp → Prop := fun p ρ' H' => ∃ xs, p.1 = .p (.list xs) ∧ ∀ a vs, H' a = none → Pds (Live ρ' p.2) H' vs xs → Q (.ref a) (upd H' a (.lst vs))
  let W : Nat → Nat → Hp → Prop := fun i m H' => m = items.length - i ∧ i ≤ items.length ∧ ∃ ρc Sc acc, ρc.length = Sc.length ∧ Ok (ρc ++ [D]) (Sc ++ [.lst acc]) H' ∧ Xt ρ1 S1 H1 (ρc ++ [D]) (Sc ++ [.lst acc]) H' ∧ acc.length ≤ i ∧ Sc.length = S1.length ∧
    Aft ρ1 S1 H1 (compL own t cond fe g env (items.drop i) acc Sc) (fun p => p.2) k
  obtain ⟨oD, xD⟩ := o1.pushL hD .nil
  refine ⟨W, ⟨items.length, by omega, Nat.zero_le _, ρ1, S1, [], o1.len, oD, xD, Nat.le_refl _, rfl, q1⟩, ?_⟩
  rintro i m H' ⟨rfl, hi, ρc, Sc, acc, hl1, okc, xtc, hacc, hlen, q'⟩
  have hG' := wk.mono _ _ _ _ _ _ hG xtc
  have eoc : EnvOk K (ρc ++ [D]) (Sc ++ [.lst acc]) H' (Mi.wipe env own) (L2.wipe σ own) := (eo1.mono xtc).wipe own
  by_cases hlt : i < items.length
  · rw [drop_cons hlt] at q'
    obtain ⟨hst, q2⟩ := Aft.when q'
    obtain ⟨env2, ht, q3⟩ := Aft.bx q2
    refine .inr ⟨wk.goes i _ _ H' hlt okc hG' hst, W (i + 1) (items.length - (i + 1)), fun H2 w => ⟨_, by omega, w⟩, fun x H2 y => ?_⟩
    obtain ⟨xt, o2, rl⟩ := wk.yld i _ _ H' x H2 items[i] (List.getElem?_eq_getElem hlt) okc hG' hst y
    refine ⟨ρc ++ [D], Mi.wipe env own, Sc ++ [.lst acc], items[i], env2, eoc.mono xt, o2, rl, ht, fun σ2 eo2 hw => ⟨?_, ?_⟩⟩
    · rw [hw own his]
      exact wipe_wipe own σ
    · refine ⟨ρc ++ [D], env2, _, eo2, o2, (Aft.bd0 q3).mono fun p ρ3 H3 e3 o3 q4 => ?_⟩
      obtain ⟨b, S3⟩ := p
      have turn : ∀ {ρ4 : List Addr} {S4 : Store} {H4 : Hp}, Xt (ρc ++ [D]) (Sc ++ [.lst acc]) H' ρ4 S4 H4 → Ok ρ4 S4 H4 → stand [(Sc.length, .lst acc)] S4 = true → S4[Sc.length]? = some (.lst acc) ∧ ρ4[Sc.length]? = some D := fun {ρ4 S4 H4} e4 o4 h4 => by
        refine ⟨?_, (e4.at (.last hl1 (kd0 rfl))).1⟩
        exact stand_at h4
      cases b with
      | true =>
        have q4 : Aft ρ1 S1 H1 (bd (fe env2 S3) fun y S2 => bd (fz S2 y) fun d S3 => when_ (stand [(Sc.length, .lst acc)] S3) (compL own t cond fe g env (List.drop (i + 1) items) (acc ++ [d]) (S3.take Sc.length))) (fun p => p.2) k := q4
        refine ⟨ρ3, env2, S3, eo2.mono e3, o3, (Aft.bd0 q4).mono fun p ρ4 H4 e4 o4 q5 yv dy => ?_⟩
        obtain ⟨y, S4⟩ := p
        obtain ⟨d, S5, hfz, q6⟩ := Aft.inv q5
        obtain ⟨x5, o5, pd⟩ := fz_ok o4 dy hfz
        obtain ⟨h4, q7⟩ := Aft.when q6
        have e5 := ((xt.trans e3).trans e4).trans x5
        obtain ⟨hS, hr⟩ := turn e5 o5 h4
        obtain ⟨accV, hv1, hv2⟩ := o5.cell _ _ _ hr hS
        refine ⟨accV, hv1, by rw [hv2.length]; exact Nat.lt_of_lt_of_le (Nat.lt_of_le_of_lt hacc hlt) hz, ?_⟩
        obtain ⟨o6, x6⟩ := o5.putL (vs := accV ++ [yv]) (ys := acc ++ [d]) hr hS (hv2.append (.cons pd .nil))
        have e6 := e5.trans x6
        have x7 := e6.trunc okc (Sc.length + 1) (by simp)
        have o7 := o6.trunc (Sc.length + 1) fun i t hi h => by
          have := e6.tbn okc i t (by simpa using hi) h
          simpa using this
        have tr := take_snocA hr
        have hlt5 : Sc.length < S5.length := (List.getElem?_eq_some_iff.mp hS).1
        rw [tr, take_set hlt5] at o7
        rw [tr, take_set hlt5] at x7
        have hl4 := o5.len
        refine ⟨rfl, hlt, _, S5.take Sc.length, acc ++ [d], by rw [List.length_take, List.length_take, hl4], o7, xtc.trans x7, by simp; omega, ?_, q7⟩
        rw [List.length_take, hlen]
        omega
      | false =>
        obtain ⟨h4, q7⟩ := Aft.when q4
        have e5 := xt.trans e3
        obtain ⟨hS, hr⟩ := turn e5 o3 h4
        have x7 := e5.trunc okc (Sc.length + 1) (by simp)
        have o7 := o3.trunc (Sc.length + 1) fun i t hi h => by
          have := e5.tbn okc i t (by simpa using hi) h
          simpa using this
        have tr := take_snocA hr
        have hlt5 : Sc.length < S3.length := (List.getElem?_eq_some_iff.mp hS).1
        have e8 : S3.take (Sc.length + 1) = S3.take Sc.length ++ [.lst acc] := by
          rw [List.take_succ, hS]
          rfl
        rw [tr, e8] at o7
        rw [tr, e8] at x7
        have hl4 := o3.len
        refine ⟨rfl, hlt, _, S3.take Sc.length, acc, by rw [List.length_take, List.length_take, hl4], o7, xtc.trans x7, by omega, ?_, q7⟩
        rw [List.length_take, hlen]
        omega
  · have e : i = items.length := by omega
    subst e
    rw [List.drop_length] at q'
    obtain ⟨hst, q2⟩ := Aft.when q'
    obtain ⟨vs, h1, h2, h3⟩ := okc.pop hl1
    refine .inl ⟨wk.stops _ _ H' okc hG' hst, ?_⟩
    have xt := xtc.drop o1 hl1 hlen hD
    obtain ⟨xs, hx, hq⟩ := Aft.at q2 xt h2
    cases hx
    have z := hq D vs del_same h3
    rw [upd_del h1] at z
    exact z
end
end Mi
end
section
namespace Mi
open PySem PySem.Spec PyProof.Rows L2
section
open PySem.AutoSeq1 (wpAny_loadPart')
theorem enum_new_tup (c0 : Addr) (items : Array Value) (n : Nat) (dct : Option Addr) (sl : Array (Option Value)) :
    Meets (Builtin.«enumerate.__new__» ⟨[.type "enumerate", .ref c0], []⟩) (fun _ R s => s.heap.get? c0 = some { cls := .type "tuple", dict := dct, data := .seq items n, slots := sl } ∧
      R (.ok (.ret (.ref (s.heap.push { cls := .type "tuple_iterator", data := .fields #[.ref c0, .int 0 0] }).objs.size)))
        { s with heap := (s.heap.push { cls := .type "tuple_iterator", data := .fields #[.ref c0, .int 0 0] }).push { cls := .type "enumerate", data := .fields #[.none, .bool false, .ref s.heap.objs.size, rawInt 0, .none, .none] } }) :=
  .of_wp fun prog w A R s h => by
    obtain ⟨h0, g, d, tk, os⟩ := s
    obtain ⟨hl, hr⟩ := h
    have hs0 := sub_enumerate
    have hT0 : Heap.IsTuple (Shared.heap ⟨h0, g, d, tk, os⟩) c0 items := ⟨_, hl, rfl, n, rfl⟩
    wp_walk using wpAny_loadPart' hl
    refine wpAny_stack_any fun st => (wpAny_pure ?_)
    split
    · rename_i c _ _ _ _ _
      cases (c == Value.type "enumerate") <;> (wp_walk using wpAny_loadPart' hl, wpAny_pyIter_tuple hT0; exact ⟨_, rfl, hr⟩)
    · wp_walk using wpAny_loadPart' hl, wpAny_pyIter_tuple hT0
      exact ⟨_, rfl, hr⟩
end
section
variable {prog : Program} {w : World} {A : Around} {E : Value → Shared → Prop} {s : Shared}
theorem call_enum_tup {c0 : Addr} {items : Array Value} {Q : Value → Shared → Prop} (hT : s.heap.IsTuple c0 items)
    (h : ∀ h', IsEnum h' (s.heap.objs.size + 1) s.heap.objs.size 0 .none → h'.IsTupleIter s.heap.objs.size c0 0 →
      (∀ b o, s.heap.get? b = some o → h'.get? b = some o) → Q (.ref (s.heap.objs.size + 1)) { s with heap := h' }) :
    wpAny (model prog w) A (call (.type "enumerate") [.ref c0]) Q E s := by
  obtain ⟨⟨c, dct, dt, sl⟩, hl, hc, n, hd⟩ := hT
  have hc : c = .type "tuple" := hc
  have hd : dt = .seq items n := hd
  subst hc hd
  refine callType_new F.called_enumerate (by decide) (F.typeCall_enumerate_1 _) (F.newCall_enumerate_1 _) (fun ob => F.args_object_init_2 ob _) F.entry_enumerate_new
    (enum_new_tup c0 items n dct sl) ⟨hl, ?_⟩
  generalize hh : s.heap.push { cls := .type "tuple_iterator", data := .fields #[.ref c0, .int 0 0] } = h1
  have hz : h1.objs.size = s.heap.objs.size + 1 := by rw [← hh]; exact Heap.size_push ..
  have hi : h1.get? s.heap.objs.size = some { cls := .type "tuple_iterator", data := .fields #[.ref c0, .int 0 0] } := by rw [← hh]; exact Heap.get?_push_size _ rfl
  have hk : ∀ b o, s.heap.get? b = some o → h1.get? b = some o := fun b o e => by rw [← hh]; exact Heap.get?_push_of_some _ e
  show _ ∧ _
  rw [hz]
  generalize hh2 : h1.push { cls := .type "enumerate", data := .fields #[.none, .bool false, .ref s.heap.objs.size, rawInt 0, .none, .none] } = h2
  have he : IsEnum h2 (s.heap.objs.size + 1) s.heap.objs.size 0 .none := by
    rw [← hh2, ← hz]
    exact Heap.get?_push_size h1 rfl
  have hk2 : ∀ b o, h1.get? b = some o → h2.get? b = some o := fun b o e => by rw [← hh2]; exact Heap.get?_push_of_some _ e
  exact ⟨⟨_, he, rfl⟩, h _ he ⟨_, hk2 _ _ hi, rfl, rfl⟩ fun b o e => hk2 _ _ (hk _ _ e)⟩
end
def IteT (K : PySem.W.Frag) (a : Addr) : It :=
  ⟨fun i H => ∃ (xs : List V) (x : V), SqT K H a xs ∧ xs[i]? = some x, fun i H v H' => ∃ T x, v = .ref T ∧ H T = none ∧ H' = upd H T (.tup [.int (i : Nat), x]) ∧ ∀ xs, SqT K H a xs → xs[i]? = some x, fun i H => ∃ xs : List V, SqT K H a xs ∧ xs.length = i⟩
theorem turn_enum_tup {P : Program} {w : World} {K : PySem.W.Frag} {elts : List Expr} {kk : Nat} {tpos : Pos} (a e it : Addr) (hai : a ≠ it) :
    Turn P w K (.Tuple elts kk tpos) (IteT K a) [e, it] e (fun i h => (∃ old, IsEnum h e it ((i : Nat) : Int) old) ∧ h.IsTupleIter it a i ∧ e ≠ it ∧ e ≠ a) where
  mem := by simp
  obj := fun i h st b hb => by
    obtain ⟨⟨old, he⟩, ⟨o, ho, hc, hd⟩, _⟩ := st
    rcases (show b = e ∨ b = it by simpa using hb) with rfl | rfl
    · exact ⟨_, he, fun v q => nomatch q⟩
    · exact ⟨o, ho, fun v q => by rw [hd] at q; cases q⟩
  keep := fun i h h' st k => let ⟨⟨old, he⟩, hi, hne⟩ := st; ⟨⟨old, k e (by simp) _ he⟩, hi.at (fun o q => k it (by simp) o q), hne⟩
  item := by
    intro X hP hw hK hc i pins s σ H E I hf st hg
    subst hP hw hK
    obtain ⟨⟨old, he⟩, hit, hne, hea⟩ := st
    obtain ⟨xs, x, hq, hx⟩ := hg
    obtain ⟨its, rv, p, hz⟩ := I.tuple hq
    obtain ⟨u, hu, ru⟩ := rv.get hx
    have hel : e < s.heap.objs.size := Heap.lt_size he
    have hil : it < s.heap.objs.size := by
      obtain ⟨_, q, _⟩ := hit
      exact Heap.lt_size q
    have hlen : i < its.toArray.size := by
      have := (List.getElem?_eq_some_iff.mp hu).1
      simpa using this
    have hh : X.A.in1.handled = none := I.ok.hd hc
    refine wpAny_pyNext_enum_itemC (Draws.tuple hh it a hai its.toArray) he ⟨hit, p⟩ hlen hne (by simp [hne, hea]) fun x' h' tk hP ho hit' hT hsz hk => ?_
    have ex : x' = u := by
      rw [show its.toArray[i]? = its[i]? by simp] at hP
      rw [hu] at hP
      exact (Option.some.inj hP).symm
    subst ex
    refine ⟨_, rfl, wpAny_letOwnedTupleGo_enum (s := { s with heap := h', toks := tk + 1 }) ho fun h2 he' sb => ?_⟩
    have hT2 : h2.get? s.heap.objs.size = some { cls := .type "tuple", data := .seq #[.int i tk, x'] } := (sb.2 _ (Nat.ne_of_gt hel)).trans hT
    have new : ObjOk X.prog X.w (upd H s.heap.objs.size (.tup [.int (i : Nat), x])) h2 s.heap.objs.size (.tup [.int (i : Nat), x]) :=
      ⟨(by show 2 ≤ sizeLine; decide), [.int i tk, x'], .cons ⟨_, rfl⟩ (.cons ru .nil), ⟨_, hT2, rfl, _, rfl⟩⟩
    have I1 : Inv X pins σ (upd H s.heap.objs.size (.tup [.int (i : Nat), x])) { s with heap := h2, toks := tk + 1 } :=
      I.turnedNew (ch := [e, it]) (fun b ob hb q => (sb.2 b fun z => hb (by simp [z])).trans (hk b ob (fun z => hb (by simp [z])) (fun z => hb (by simp [z])) q)) hf (Nat.le_refl _) new
    have e1 : ((i + 1 : Nat) : Int) = (i : Int) + 1 := by omega
    refine ⟨.ref s.heap.objs.size, _, I1, rfl, ⟨_, x, rfl, I.hok.fresh (Nat.le_refl _), rfl, fun ys hy => by rw [I.tuple_inj hy hq]; exact hx⟩, ⟨⟨x', by rw [e1]; exact he'⟩, hit'.1.at (fun o q => (sb.2 it (Ne.symm hne)).trans q), hne, hea⟩, fun b hb => ?_⟩
    have hb2 : b < s.heap.objs.size := by
      rcases (show b = e ∨ b = it by simpa using hb) with rfl | rfl
      · exact hel
      · exact hil
    rw [upd_ne (Nat.ne_of_lt hb2)]
    exact (hf b hb).1
  done := by
    intro X hP hw hK hc i pins s σ H E I hf st hg
    subst hP hw hK
    obtain ⟨⟨old, he⟩, hit, hne, hea⟩ := st
    obtain ⟨xs, hq, hx⟩ := hg
    obtain ⟨its, rv, p, hz⟩ := I.tuple hq
    obtain ⟨f0, f1, f2, f3, f4, f5⟩ := hf it (by simp)
    have hl := rv.length
    have hh : X.A.in1.handled = none := I.ok.hd hc
    have e2 : its.toArray.size = i := by simp; omega
    refine wpAny_pyNext_enum_endD (Draws.tuple hh it a hai its.toArray) he ⟨by rw [e2]; exact hit, p⟩ fun h' eb => ⟨rfl, I.turned (t' := s.toks) (fun b o hb q => eb b o hb q) f0 f1 f3 f4 f5⟩
  self := fun A i s Q E st h => let ⟨⟨_, he⟩, _⟩ := st; wpAny_pyIter_enum he h
end Mi
end
section
namespace Mi
open PySem PySem.Spec PyProof.Rows L2
section
variable {K : PySem.W.Frag} {ρ ρ' : List Addr} {S S' : Store} {H H' : Hp}
inductive SrcL (a : Addr) (xs : List PyData) (g : List (Nat × Cell)) (ρ : List Addr) (S : Store) (H : Hp) : Prop
  | live {i : Nat} : RefAt ρ S i a → g = [(i, .lst xs)] → SrcL a xs g ρ S H
  | data : Pd (Live ρ S) H (.ref a) (.list xs) → SrcL a xs g ρ S H
theorem SrcL.mono {a : Addr} {xs : List PyData} {g : List (Nat × Cell)} (h : SrcL a xs g ρ S H) (e : Xt ρ S H ρ' S' H') : SrcL a xs g ρ' S' H' := by
  cases h with
  | live h1 h2 => exact .live (e.at h1) h2
  | data h => exact .data (Pd.mono e.gr _ _ h)
theorem stand_mem {g : List (Nat × Cell)} (h : stand g S = true) {p : Nat × Cell} (hp : p ∈ g) : S[p.1]? = some p.2 := by
  unfold stand at h
  simp only [decide_eq_true_eq] at h
  exact h p hp
theorem stand_app {g g' : List (Nat × Cell)} (h : stand (g ++ g') S = true) : stand g S = true ∧ stand g' S = true := by
  unfold stand at h ⊢
  simp only [decide_eq_true_eq] at h ⊢
  exact ⟨fun p hp => h p (List.mem_append_left _ hp), fun p hp => h p (List.mem_append_right _ hp)⟩
theorem SrcL.now {a : Addr} {xs : List PyData} {g : List (Nat × Cell)} (h : SrcL a xs g ρ S H) (ok : Ok ρ S H) (hs : stand g S = true) : ∃ vs, H a = some (.lst vs) ∧ Pds (Live ρ S) H vs xs := by
  cases h with
  | live h1 h2 =>
    subst h2
    exact ok.cell _ _ _ h1.1 (stand_mem hs (p := (_, .lst xs)) (by simp))
  | data h =>
    cases h with
    | lst h1 _ h2 => exact ⟨_, h1, h2⟩
theorem Ok.flst {i : Nat} {a : Addr} {xs : List PyData} (ok : Ok ρ S H) (h1 : ρ[i]? = some a) (hs : S[i]? = some (.flst xs)) : Pd (Live ρ S) H (.ref a) (.list xs) := by
  obtain ⟨vs, q1, q2⟩ := ok.cell i a _ h1 hs
  refine .lst q1 (fun z => ?_) q2
  obtain ⟨j, c, r1, r2, r3⟩ := z
  have e : i = j := nodup_ixA ok.nd h1 r1
  subst e
  rw [hs] at r2
  cases r2
  cases r3
theorem src_ok {d : Mi.D} {v : V} {s : Src} (ok : Ok ρ S H) (r : DOk K ρ S H v d) (h : srcOf S d = .ok s) : ∃ a, v = .ref a ∧ ((SrcL a s.items s.g ρ S H ∧ (∃ vs, H a = some (.lst vs)) ∧ tupD d = false) ∨ (Pd (Live ρ S) H (.ref a) (.tuple s.items) ∧ s.g = [] ∧ tupD d = true)) := by
  cases d with
  | p d =>
    cases d with
    | list xs =>
      cases h
      cases r with
      | lst h1 h2 h3 => exact ⟨_, rfl, .inl ⟨.data (.lst h1 h2 h3), ⟨_, h1⟩, rfl⟩⟩
    | tuple xs =>
      cases h
      cases r with
      | tup h1 h2 => exact ⟨_, rfl, .inr ⟨.tup h1 h2, rfl, rfl⟩⟩
    | _ => cases h
  | ref i =>
    obtain ⟨a, h1, rfl⟩ := r
    cases hs : S[i]? with
    | none => simp only [srcOf, hs] at h; cases h
    | some c =>
      simp only [srcOf, hs] at h
      cases c with
      | lst xs =>
        cases h
        obtain ⟨vs, q1, q2⟩ := ok.cell i a _ h1.1 hs
        exact ⟨a, rfl, .inl ⟨.live h1 rfl, ⟨vs, q1⟩, rfl⟩⟩
      | flst xs =>
        cases h
        have z := ok.flst h1.1 hs
        cases z with
        | lst q1 q2 q3 => exact ⟨a, rfl, .inl ⟨.data (.lst q1 q2 q3), ⟨_, q1⟩, rfl⟩⟩
      | _ => cases h
  | scr ns => cases h
  | rows i n rs => cases h
  | fn f c q => cases h
  | exn x => cases h
  | own i k n => cases h
theorem wk_list {a : Addr} {xs : List PyData} {g : List (Nat × Cell)} : Wk K true (Itl K a) xs g (SrcL a xs g) where
  mono := fun _ _ _ _ _ _ h e => h.mono e
  goes := fun i ρ S H hi ok h hs => by
    obtain ⟨vs, h1, h2⟩ := h.now ok hs
    obtain ⟨v, h3, _⟩ := h2.at (List.getElem?_eq_getElem hi)
    exact ⟨vs, v, .of h1, h3⟩
  stops := fun ρ S H ok h hs => by
    obtain ⟨vs, h1, h2⟩ := h.now ok hs
    exact ⟨vs, .of h1, by rw [h2.length]; exact Nat.le_refl _⟩
  yld := fun i ρ S H x H' d hd ok h hs y => by
    obtain ⟨vs, h1, h2⟩ := h.now ok hs
    obtain ⟨rfl, y⟩ := y
    obtain ⟨v, h3, h4⟩ := h2.at hd
    have e := y vs (.of h1)
    rw [h3] at e
    cases e
    exact ⟨Xt.refl, ok, h4⟩
theorem wk_tup {a : Addr} {xs : List PyData} {g : List (Nat × Cell)} : Wk K true (Itt K a) xs g (fun ρ S H => Pd (Live ρ S) H (.ref a) (.tuple xs)) where
  mono := fun _ _ _ _ _ _ h e => Pd.mono e.gr _ _ h
  goes := fun i ρ S H hi ok h hs => by
    cases h with
    | tup h1 h2 =>
      obtain ⟨v, h3, _⟩ := h2.at (List.getElem?_eq_getElem hi)
      exact ⟨_, v, h1.sq, h3⟩
  stops := fun ρ S H ok h hs => by
    cases h with
    | tup h1 h2 => exact ⟨_, h1.sq, by rw [h2.length]; exact Nat.le_refl _⟩
  yld := fun i ρ S H x H' d hd ok h hs y => by
    cases h with
    | tup h1 h2 =>
      obtain ⟨rfl, y⟩ := y
      obtain ⟨v, h3, h4⟩ := h2.at hd
      have e := y _ h1.sq
      rw [h3] at e
      cases e
      exact ⟨Xt.refl, ok, h4⟩
theorem rl_pair {T : Addr} {x y : V} {d e : PyData} (ok : Ok ρ S H) (hT : H T = none) (hx : Pd (Live ρ S) H x d) (hy : Pd (Live ρ S) H y e) :
    Xt ρ S H ρ S (upd H T (.tup [x, y])) ∧ Ok ρ S (upd H T (.tup [x, y])) ∧ Rl K false (Live ρ S) (upd H T (.tup [x, y])) (.ref T) (.tuple [d, e]) :=
  ⟨Xt.new hT, ok.new hT, T, [x, y], [d, e], rfl, rfl, .inl (.inl upd_same), .cons (Pd.mono (Gr.new hT) _ _ hx) (.cons (Pd.mono (Gr.new hT) _ _ hy) .nil)⟩
theorem numD_len : ∀ (k : Nat) (xs : List PyData), (numD k xs).length = xs.length
  | _, [] => rfl
  | k, x :: xs => congrArg (· + 1) (numD_len (k + 1) xs)
theorem numD_at : ∀ (k : Nat) (xs : List PyData) (i : Nat), (numD k xs)[i]? = xs[i]?.map fun x => .tuple [.int ((k + i : Nat) : Int), x]
  | _, [], i => by simp [numD]
  | k, x :: xs, 0 => by simp [numD]
  | k, x :: xs, i + 1 => by
    show (numD (k + 1) xs)[i]? = _
    rw [numD_at (k + 1) xs i, List.getElem?_cons_succ]
    have e : k + 1 + i = k + (i + 1) := by omega
    rw [e]
theorem wk_enum {a : Addr} {xs : List PyData} {g : List (Nat × Cell)} : Wk K false (Ite K a) (numD 0 xs) g (SrcL a xs g) where
  mono := fun _ _ _ _ _ _ h e => h.mono e
  goes := fun i ρ S H hi ok h hs => by
    obtain ⟨vs, h1, h2⟩ := h.now ok hs
    obtain ⟨v, h3, _⟩ := h2.at (List.getElem?_eq_getElem (by rwa [numD_len] at hi))
    exact ⟨vs, v, .of h1, h3⟩
  stops := fun ρ S H ok h hs => by
    obtain ⟨vs, h1, h2⟩ := h.now ok hs
    exact ⟨vs, .of h1, by rw [h2.length, numD_len]; exact Nat.le_refl _⟩
  yld := fun i ρ S H v H' d hd ok h hs y => by
    obtain ⟨vs, h1, h2⟩ := h.now ok hs
    obtain ⟨T, x, rfl, hT, rfl, y⟩ := y
    rw [numD_at] at hd
    obtain ⟨d0, hd0, rfl⟩ := Option.map_eq_some_iff.mp hd
    obtain ⟨v, h3, h4⟩ := h2.at hd0
    have e := y vs (.of h1)
    rw [h3] at e
    cases e
    simp only [Nat.zero_add]
    exact rl_pair ok hT (.int _) h4
theorem wk_enumT {a : Addr} {xs : List PyData} {g : List (Nat × Cell)} : Wk K false (IteT K a) (numD 0 xs) g (fun ρ S H => Pd (Live ρ S) H (.ref a) (.tuple xs)) where
  mono := fun _ _ _ _ _ _ h e => Pd.mono e.gr _ _ h
  goes := fun i ρ S H hi ok h hs => by
    cases h with
    | tup h1 h2 =>
      obtain ⟨v, h3, _⟩ := h2.at (List.getElem?_eq_getElem (by rwa [numD_len] at hi))
      exact ⟨_, v, h1.sq, h3⟩
  stops := fun ρ S H ok h hs => by
    cases h with
    | tup h1 h2 => exact ⟨_, h1.sq, by rw [h2.length, numD_len]⟩
  yld := fun i ρ S H v H' d hd ok h hs y => by
    cases h with
    | tup h1 h2 =>
      obtain ⟨T, x, rfl, hT, rfl, y⟩ := y
      rw [numD_at] at hd
      obtain ⟨d0, hd0, rfl⟩ := Option.map_eq_some_iff.mp hd
      obtain ⟨v, h3, h4⟩ := h2.at hd0
      have e := y _ h1.sq
      rw [h3] at e
      cases e
      simp only [Nat.zero_add]
      exact rl_pair ok hT (.int _) h4
theorem rgD_len (a b : Int) : (rgD a b).length = (b - a).toNat := by simp [rgD]
theorem rgD_at (a b : Int) (i : Nat) : (rgD a b)[i]? = if i < (b - a).toNat then some (.int (a + i)) else none := by
  unfold rgD
  rw [List.getElem?_map]
  by_cases h : i < (b - a).toNat
  · rw [List.getElem?_range h, if_pos h]
    rfl
  · rw [if_neg h, List.getElem?_eq_none (by simpa using h)]
    rfl
theorem wk_range {a b : Int} {g : List (Nat × Cell)} : Wk K true (Itr a (b - a).toNat) (rgD a b) g (fun _ _ _ => True) where
  mono := fun _ _ _ _ _ _ h e => trivial
  goes := fun i ρ S H hi ok h hs => by rwa [rgD_len] at hi
  stops := fun ρ S H ok h hs => by
    rw [rgD_len]
    exact Nat.le_refl _
  yld := fun i ρ S H x H' d hd ok h hs y => by
    obtain ⟨rfl, rfl⟩ := y
    rw [rgD_at] at hd
    split at hd
    · cases hd
      exact ⟨Xt.refl, ok, .int _⟩
    · cases hd
theorem zipD_at (xs ys : List PyData) (i : Nat) {d : PyData} (h : (zipD xs ys)[i]? = some d) : ∃ x y, xs[i]? = some x ∧ ys[i]? = some y ∧ d = .tuple [x, y] := by
  unfold zipD at h
  rw [List.getElem?_map, Option.map_eq_some_iff] at h
  obtain ⟨⟨x, y⟩, h1, h2⟩ := h
  rw [List.getElem?_zip_eq_some] at h1
  exact ⟨x, y, h1.1, h1.2, h2.symm⟩
theorem zipD_len (xs ys : List PyData) : (zipD xs ys).length = min xs.length ys.length := by simp [zipD]
end
section
variable {X : Cx} {e e2 : Expr} {fa fb : Ex} {tg : Expr} {p pos tpos : Pos}
theorem ta_one {K : PySem.W.Frag} {σ : L2.St} {H : Hp} {Q : List V → Hp → Prop} (h : TX K fa σ H fun v H' => Q [v] H') : TAs K (aCons fa aNil) σ H Q := by
  obtain ⟨ρ, env, S, eo, ok, q⟩ := h
  refine ⟨ρ, env, S, eo, ok, ?_⟩
  generalize hr : fa env S = r at q
  have e : aCons fa aNil env S = bd (fa env S) fun x S1 => .ok ([x], S1) := rfl
  rw [e, hr]
  cases r with
  | ok p =>
    intro ρ' H' e' o' vs ds
    cases ds with
    | cons a b =>
      cases b
      exact q ρ' H' e' o' _ a
  | ex e S => exact q
  | no => exact q
theorem i_seq (hc : X.calm = true) (he : PE X e (TX X.K fa)) : PI X tg e (TIs X.K true (iE fa)) := by
  refine ⟨fun pins s σ H R I ⟨ρ, env, S, eo, ok, q⟩ => ?_⟩
  have h : TX X.K fa σ H (fun v H1 => ∃ a, v = .ref a ∧ ((∃ vs, H1 a = some (.lst vs) ∧ R (Itl X.K a) H1) ∨ (∃ vs, TupAt H1 a vs ∧ R (Itt X.K a) H1))) := by
    refine ⟨ρ, env, S, eo, ok, (Aft.bd q).mono fun p ρ1 H1 e1 o1 q1 v dv => ?_⟩
    obtain ⟨s', hs', q2⟩ := Aft.bx q1
    have q3 := Aft.here q2 rfl o1
    obtain ⟨a, rfl, h⟩ := src_ok o1 dv hs'
    refine ⟨a, rfl, ?_⟩
    rcases h with ⟨h, ⟨vs, hv⟩, _⟩ | ⟨h, _, _⟩
    · exact .inl ⟨vs, hv, q3 _ _ wk_list h⟩
    · cases h with
      | tup h1 h2 => exact .inr ⟨_, h1, q3 _ _ wk_tup (.tup h1 h2)⟩
  refine thn (he.run pins s σ H _ I h) fun v s1 ⟨x, H1, I1, r1, a, ex, q1⟩ => ?_
  subst ex
  cases r1
  have fz : ∀ b ∈ [s1.heap.objs.size], FpOk X pins H1 b := fun b hb => by
    have e : b = s1.heap.objs.size := by simpa using hb
    subst e
    exact I1.fpOk (Nat.le_refl _) (I1.hok.fresh (Nat.le_refl _))
  rcases q1 with ⟨vs, hv, q1⟩ | ⟨vs, hv, q1⟩
  · obtain ⟨its, rv, p, hz⟩ := I1.list (.of hv)
    exact wpAny_pyIter_list p.isList ⟨s1.heap.objs.size, [s1.heap.objs.size], _, _, H1, rfl, I1.kept (t' := s1.toks) (fun b o e => Heap.get?_push_of_some _ e), turn_list a _, ⟨_, Heap.get?_push_size _ rfl, rfl, rfl⟩, fz, q1⟩
  · obtain ⟨its, rv, p, hz⟩ := I1.tuple (hv.sq (K := X.K))
    exact wpAny_pyIter_tuple (show s1.heap.IsTuple a its.toArray from p) ⟨s1.heap.objs.size, [s1.heap.objs.size], _, _, H1, rfl, I1.kept (t' := s1.toks) (fun b o e => Heap.get?_push_of_some _ e), turn_tuple a _, ⟨_, Heap.get?_push_size _ rfl, rfl, rfl⟩, fz, q1⟩
theorem star_nil {env : PySem.Env} : starEach [] env = [] := rfl
theorem Aft.two {K : PySem.W.Frag} {α : Type} {ρ : List Addr} {S : Store} {H : Hp} {env : Env} {F : Mi.D → Mi.D → Store → R α} {st : α → Store} {k : α → List Addr → Hp → Prop} {Q : List V → Hp → Prop} (q : Aft ρ S H (Mi.bd (fa env S) fun x S1 => Mi.bd (fb env S1) fun y S2 => F x y S2) st k)
    (g : ∀ x y S2 ρ' H' v w, Xt ρ S H ρ' S2 H' → Ok ρ' S2 H' → Aft ρ' S2 H' (F x y S2) st k → DOk K ρ' S2 H' v x → DOk K ρ' S2 H' w y → Q [v, w] H') : Aft ρ S H (aCons fa (aCons fb aNil) env S) (fun p => p.2) fun p ρ' H' => ∀ vs, DsOk K ρ' p.2 H' vs p.1 → Q vs H' := by
  have e : aCons fa (aCons fb aNil) env S = Mi.bd (fa env S) fun x S1 => Mi.bd (Mi.bd (fb env S1) fun y S2 => .ok ([y], S2)) fun xs S2 => .ok (x :: xs, S2) := rfl
  rw [e]
  cases h1 : fa env S with
  | ok p =>
    rw [h1] at q
    have q : Aft ρ S H (Mi.bd (fb env p.2) fun y S2 => F p.1 y S2) st k := q
    show Aft ρ S H (Mi.bd (Mi.bd (fb env p.2) fun y S2 => .ok ([y], S2)) fun xs S2 => .ok (p.1 :: xs, S2)) _ _
    cases h2 : fb env p.2 with
    | ok p2 =>
      rw [h2] at q
      intro ρ' H' e' o' vs ds
      cases ds with
      | cons a b =>
        cases b with
        | cons b c =>
          cases c
          exact g p.1 p2.1 p2.2 ρ' H' _ _ e' o' (Aft.from e' q) a b
    | ex e S =>
      rw [h2] at q
      exact q
    | no =>
      rw [h2] at q
      exact q
  | ex e S =>
    rw [h1] at q
    exact q
  | no =>
    rw [h1] at q
    exact q
theorem i_r1 (hg : Gl X "range") (hm : X.mg "range" = none) (ha : PE X e (TX X.K fa)) (hs : starEach [e] X.env = [(false, eval e X.env)] := by rfl) : PI X tg (.Call (.Name "range" p) [e] [] pos) (TIs X.K true (iR1 fa)) := PI.up (pi_range1 hg hm (a_cons ha a_nil (hs.trans (by rw [star_nil]))) hs) fun σ H R ⟨ρ, env, S, eo, ok, q⟩ => by
  refine ta_one ⟨ρ, env, S, eo, ok, (Aft.bd q).mono fun p ρ1 H1 e1 o1 q1 v dv => ?_⟩
  obtain ⟨d, S1⟩ := p
  cases d with
  | p d =>
    cases d with
    | int n =>
      cases dv
      obtain ⟨hc, q2⟩ := Aft.when q1
      have hc := of_decide_eq_true hc
      have q3 := (Aft.here q2 rfl o1) _ _ (wk_range (K := X.K) (a := 0) (b := n) (g := [])) trivial
      rw [Int.sub_zero] at q3
      exact ⟨n, rfl, hc.1, by omega, q3⟩
    | _ => exact q1.elim
  | _ => exact q1.elim
theorem i_enum {elts : List Expr} {kk : Nat} (hg : Gl X "enumerate") (hm : X.mg "enumerate" = none) (ha : PE X e (TX X.K fa)) (hs : starEach [e] X.env = [(false, eval e X.env)] := by rfl) :
    PI X (.Tuple elts kk tpos) (.Call (.Name "enumerate" p) [e] [] pos) (TIs X.K false (iEnum fa)) := by
  refine ⟨fun pins s σ H R I ⟨ρ, env, S, eo, ok, q⟩ => ?_⟩
  have h : TAs X.K (aCons fa aNil) σ H (fun us H1 => ∃ a, us = [.ref a] ∧ ((∃ vs, H1 a = some (.lst vs) ∧ R (Ite X.K a) H1) ∨ (∃ vs, TupAt H1 a vs ∧ R (IteT X.K a) H1))) := by
    refine ta_one ⟨ρ, env, S, eo, ok, (Aft.bd q).mono fun p ρ1 H1 e1 o1 q1 v dv => ?_⟩
    obtain ⟨s', hs', q2⟩ := Aft.bx q1
    have q3 := Aft.here q2 rfl o1
    obtain ⟨a, rfl, h⟩ := src_ok o1 dv hs'
    refine ⟨a, rfl, ?_⟩
    rcases h with ⟨h, ⟨vs, hv⟩, _⟩ | ⟨h, _, _⟩
    · exact .inl ⟨vs, hv, q3 _ _ wk_enum h⟩
    · cases h with
      | tup h1 h2 => exact .inr ⟨_, h1, q3 _ _ wk_enumT (.tup h1 h2)⟩
  refine Call_ (ld_blt I hg hm boot_enumerate (PyProof.Rows.callWith_type1 (thn ((a_cons ha a_nil (hs.trans (by rw [star_nil]))).run pos pins s σ H _ I h) fun us s1 ⟨vs, H1, I1, r1, a, ex, q1⟩ => ?_) hs rfl))
  subst ex
  cases r1 with
  | cons r rr =>
    cases rr
    cases r
    have fz : ∀ b ∈ [s1.heap.objs.size + 1, s1.heap.objs.size], FpOk X pins H1 b := fun b hb => by
      have hle : s1.heap.objs.size ≤ b := by
        rcases (show b = s1.heap.objs.size + 1 ∨ b = s1.heap.objs.size by simpa using hb) with z | z <;> omega
      exact I1.fpOk hle (I1.hok.fresh hle)
    rcases q1 with ⟨vs, hv, q1⟩ | ⟨vs, hv, q1⟩
    · obtain ⟨its, rv, p', hz⟩ := I1.list (.of hv)
      refine call_enumerate_list p'.isList fun h' he hit hsz hk => wpAny_pyIter_enum he ?_
      exact ⟨s1.heap.objs.size + 1, [s1.heap.objs.size + 1, s1.heap.objs.size], _, _, H1, rfl, I1.kept (t' := s1.toks) hk, turn_enum a _ _, ⟨⟨.none, he⟩, hit, Nat.succ_ne_self _⟩, fz, q1⟩
    · obtain ⟨its, rv, p', hz⟩ := I1.tuple (hv.sq (K := X.K))
      have hlt : a < s1.heap.objs.size := by
        obtain ⟨o, ho, _⟩ := id p'
        exact Heap.lt_size ho
      refine call_enum_tup (show s1.heap.IsTuple a its.toArray from p') fun h' he hit hk => wpAny_pyIter_enum he ?_
      exact ⟨s1.heap.objs.size + 1, [s1.heap.objs.size + 1, s1.heap.objs.size], _, _, H1, rfl, I1.kept (t' := s1.toks) hk, turn_enum_tup a _ _ (Nat.ne_of_lt hlt), ⟨⟨.none, he⟩, hit, Nat.succ_ne_self _, Ne.symm (Nat.ne_of_lt (Nat.lt_succ_of_lt hlt))⟩, fz, q1⟩
def SqQ (k : Bool) (K : PySem.W.Frag) (H : Hp) (a : Addr) (xs : List V) : Prop := match k with
  | true => SqT K H a xs
  | false => SqL K H a xs
def ItQ (k : Bool) (h : Heap) (it l : Addr) (i : Nat) : Prop := match k with
  | true => h.IsTupleIter it l i
  | false => h.IsListIter it l i
def ArQ (k : Bool) (h : Heap) (l : Addr) (items : Array Value) : Prop := match k with
  | true => h.IsTuple l items
  | false => h.IsList l items
theorem draws_q (k : Bool) {prog : Program} {w : World} {A : Around} (hh : A.handled = none) (it t : Addr) (hne : t ≠ it) (items : Array Value) : Draws prog w A it [it, t] items.size (fun i v => items[i]? = some v) (fun i h => ItQ k h it t i ∧ ArQ k h t items) := by
  cases k with
  | true => exact Draws.tuple hh it t hne items
  | false => exact Draws.list hh it t hne items
theorem ItQ.at {k : Bool} {h h' : Heap} {it l : Addr} {i : Nat} (x : ItQ k h it l i) (g : ∀ o, h.get? it = some o → h'.get? it = some o) : ItQ k h' it l i := by
  cases k with
  | true => exact Heap.IsTupleIter.at x g
  | false => exact Heap.IsListIter.at x g
theorem ItQ.obj {k : Bool} {h : Heap} {it l : Addr} {i : Nat} (x : ItQ k h it l i) : ∃ o, h.get? it = some o ∧ o.data = .fields #[.ref l, .int i 0] := by
  cases k with
  | true =>
    obtain ⟨o, e, _, d⟩ := (show h.IsTupleIter it l i from x)
    exact ⟨o, e, d⟩
  | false =>
    obtain ⟨o, e, _, d⟩ := (show h.IsListIter it l i from x)
    exact ⟨o, e, d⟩
theorem inv_q {X : Cx} {pins : List (Addr × Obj)} {σ : L2.St} {H : Hp} {s : Shared} {k : Bool} {a : Addr} {xs : List V} (I : L2.Inv X pins σ H s) (h : SqQ k X.K H a xs) : ∃ its : List Value, Vals xs its ∧ ArQ k s.heap a its.toArray := by
  cases k with
  | true =>
    obtain ⟨its, r, p, _⟩ := I.tuple (show SqT X.K H a xs from h)
    exact ⟨its, r, p⟩
  | false =>
    obtain ⟨its, r, p, _⟩ := I.list (show SqL X.K H a xs from h)
    exact ⟨its, r, p.isList⟩
theorem inj_q {X : Cx} {pins : List (Addr × Obj)} {σ : L2.St} {H : Hp} {s : Shared} {k : Bool} {a : Addr} {xs ys : List V} (I : L2.Inv X pins σ H s) (h : SqQ k X.K H a xs) (h2 : SqQ k X.K H a ys) : xs = ys := by
  cases k with
  | true => exact I.tuple_inj (show SqT X.K H a xs from h) (show SqT X.K H a ys from h2)
  | false => exact I.list_inj (show SqL X.K H a xs from h) (show SqL X.K H a ys from h2)
def ItzG (k1 k2 : Bool) (K : PySem.W.Frag) (a b : Addr) : It :=
  ⟨fun i H => ∃ (xs ys : List V) (x y : V), SqQ k1 K H a xs ∧ SqQ k2 K H b ys ∧ xs[i]? = some x ∧ ys[i]? = some y,
    fun i H v H' => ∃ T x y, v = .ref T ∧ H T = none ∧ H' = upd H T (.tup [x, y]) ∧ (∀ xs, SqQ k1 K H a xs → xs[i]? = some x) ∧ ∀ ys, SqQ k2 K H b ys → ys[i]? = some y,
    fun i H => ∃ xs ys : List V, SqQ k1 K H a xs ∧ SqQ k2 K H b ys ∧ i ≤ xs.length ∧ i ≤ ys.length ∧ (xs.length = i ∨ ys.length = i)⟩
theorem turn_zipG {P : Program} {w : World} {K : PySem.W.Frag} {elts : List Expr} {kk : Nat} {tpos : Pos} {k1 k2 : Bool} {a b z TI TO i1 i2 : Addr} (D : ZipSep2 z TI TO i1 i2 [i1, a] [i2, b]) (na : a ≠ i1) (nb : b ≠ i2) :
    Turn P w K (.Tuple elts kk tpos) (ItzG k1 k2 K a b) [z, TI, TO, i1, i2] z (fun i h => IsZip h z TI TO .none ∧ IsTupOf2 h TI (.ref i1) (.ref i2) ∧ (∃ x y, IsTupOf2 h TO x y) ∧ ItQ k1 h i1 a i ∧ ItQ k2 h i2 b i) where
  mem := by simp
  obj := fun i h st c hc => by
    obtain ⟨hz, hTI, ⟨x, y, hTO⟩, h1, h2⟩ := st
    obtain ⟨o1, e1, d1⟩ := h1.obj
    obtain ⟨o2, e2, d2⟩ := h2.obj
    have e' : c = z ∨ c = TI ∨ c = TO ∨ c = i1 ∨ c = i2 := by simpa using hc
    rcases e' with q | q | q | q | q
    · rw [q]; exact ⟨_, hz, fun v q => nomatch q⟩
    · rw [q]; exact ⟨_, hTI, fun v q => nomatch q⟩
    · rw [q]; exact ⟨_, hTO, fun v q => nomatch q⟩
    · rw [q]; exact ⟨o1, e1, fun v q => by rw [d1] at q; cases q⟩
    · rw [q]; exact ⟨o2, e2, fun v q => by rw [d2] at q; cases q⟩
  keep := fun i h h' st k => by
    obtain ⟨hz, hTI, ⟨x, y, hTO⟩, h1, h2⟩ := st
    exact ⟨k z (by simp) _ hz, k TI (by simp) _ hTI, ⟨x, y, k TO (by simp) _ hTO⟩, h1.at fun o q => k i1 (by simp) o q, h2.at fun o q => k i2 (by simp) o q⟩
  item := by
    intro X hP hw hK hc i pins s σ H E I hf st hg
    subst hP hw hK
    obtain ⟨hz, hTI, ⟨x0, y0, hTO⟩, h1, h2⟩ := st
    obtain ⟨xs, ys, x, y, hqx, hqy, hx, hy⟩ := hg
    obtain ⟨its, rv, p⟩ := inv_q I hqx
    obtain ⟨its2, rv2, p2⟩ := inv_q I hqy
    obtain ⟨u, hu, ru⟩ := rv.get hx
    obtain ⟨u2, hu2, ru2⟩ := rv2.get hy
    have hzl : z < s.heap.objs.size := Heap.lt_size hz
    have D1 := draws_q (prog := X.prog) (w := X.w) (A := X.A.in1) k1 (I.ok.hd hc) i1 a na its.toArray
    have D2 := draws_q (prog := X.prog) (w := X.w) (A := X.A.in1) k2 (I.ok.hd hc) i2 b nb its2.toArray
    refine wpAny_pyNext_zipD2_item D D1 D2 hz hTI hTO ⟨h1, p⟩ ⟨h2, p2⟩ (by rw [List.size_toArray]; exact (List.getElem?_eq_some_iff.mp hu).1) (by rw [List.size_toArray]; exact (List.getElem?_eq_some_iff.mp hu2).1) fun x1 x2 h' tk g1 g2 z' TO' s1' s2' hT hsz hk => ?_
    have ex : x1 = u := by
      have : its.toArray[i]? = some u := by simpa using hu
      rw [this] at g1
      exact (Option.some.inj g1).symm
    have ey : x2 = u2 := by
      have : its2.toArray[i]? = some u2 := by simpa using hu2
      rw [this] at g2
      exact (Option.some.inj g2).symm
    subst ex ey
    refine ⟨_, rfl, wpAny_letOwnedTupleGo_zip (s := { s with heap := h', toks := tk }) z' fun h'' z'' sb => ?_⟩
    have hT2 : h''.get? s.heap.objs.size = some { cls := .type "tuple", data := .seq #[x1, x2] } := (sb.2 _ (Nat.ne_of_gt hzl)).trans hT
    have new : ObjOk X.prog X.w (upd H s.heap.objs.size (.tup [x, y])) h'' s.heap.objs.size (.tup [x, y]) :=
      ⟨by show 2 ≤ sizeLine; decide, [x1, x2], .cons ru (.cons ru2 .nil), ⟨_, hT2, rfl, _, rfl⟩⟩
    have I1 : Inv X pins σ (upd H s.heap.objs.size (.tup [x, y])) { s with heap := h'', toks := tk } :=
      I.turnedNew (t' := tk) (ch := [z, TI, TO, i1, i2]) (fun c o hb q => (sb.2 c (fun q' => hb (by simp [q']))).trans (hk c o (fun q' => hb (by simp [q'])) (fun q' => hb (by simp [q'])) (fun q' => hb (by simp [q'])) (fun q' => hb (by simp [q'])) q)) hf (Nat.le_refl _) new
    refine ⟨.ref s.heap.objs.size, _, I1, rfl, ⟨_, x, y, rfl, I.hok.fresh (Nat.le_refl _), rfl, fun l hl => by rw [inj_q I hl hqx]; exact hx, fun l hl => by rw [inj_q I hl hqy]; exact hy⟩, ⟨z'', ?_, ⟨x1, x2, ?_⟩, ?_, ?_⟩, fun c hcm => ?_⟩
    · exact (sb.2 _ D.TIz).trans (hk _ _ D.TIz D.TITO D.TIi1 D.TIi2 hTI)
    · exact (sb.2 _ D.TOz).trans TO'
    · exact s1'.1.at fun o q => (sb.2 _ (Ne.symm D.zi1)).trans q
    · exact s2'.1.at fun o q => (sb.2 _ (Ne.symm D.zi2)).trans q
    · have hlt : c < s.heap.objs.size := by
        have e' : c = z ∨ c = TI ∨ c = TO ∨ c = i1 ∨ c = i2 := by simpa using hcm
        rcases e' with q | q | q | q | q
        · rw [q]; exact hzl
        · rw [q]; exact Heap.lt_size hTI
        · rw [q]; exact Heap.lt_size hTO
        · rw [q]; obtain ⟨_, e1, _⟩ := h1.obj; exact Heap.lt_size e1
        · rw [q]; obtain ⟨_, e2, _⟩ := h2.obj; exact Heap.lt_size e2
      rw [upd_ne (Nat.ne_of_lt hlt)]
      exact (hf c hcm).1
  done := by
    intro X hP hw hK hc i pins s σ H E I hf st hg
    subst hP hw hK
    obtain ⟨hz, hTI, ⟨x0, y0, hTO⟩, h1, h2⟩ := st
    obtain ⟨xs, ys, hqx, hqy, l1, l2, hend⟩ := hg
    obtain ⟨its, rv, p⟩ := inv_q I hqx
    obtain ⟨its2, rv2, p2⟩ := inv_q I hqy
    have e1 := rv.length
    have e2 := rv2.length
    have D1 := draws_q (prog := X.prog) (w := X.w) (A := X.A.in1) k1 (I.ok.hd hc) i1 a na its.toArray
    have D2 := draws_q (prog := X.prog) (w := X.w) (A := X.A.in1) k2 (I.ok.hd hc) i2 b nb its2.toArray
    exact wpAny_pyNext_zipD2_end D D1 D2 hz hTI hTO ⟨h1, p⟩ ⟨h2, p2⟩ (by simp; omega) (by simp; omega) (by simp; omega) fun h' tk hk => ⟨rfl, I.turnedL (t' := tk) (ch := [z, TI, TO, i1, i2]) (fun c o hb q =>
      hk c o (fun q' => hb (by simp [q'])) (fun q' => hb (by simp [q'])) (fun q' => hb (by simp [q'])) (fun q' => hb (by simp [q'])) q) hf⟩
  self := fun A i s Q E st h => wpAny_pyIter_zip st.1 h
theorem beg_q (k : Bool) (l : Addr) (items : Array Value) : ∃ o, Begins (.ref l) o (fun h => ArQ k h l items) ∧ ∀ (h : Heap) (I : Addr), h.get? I = some o → ItQ k h I l 0 := by
  cases k with
  | true => exact ⟨_, begins_tuple l items, fun h I e => ⟨_, e, rfl, rfl⟩⟩
  | false => exact ⟨_, begins_list l items, fun h I e => ⟨_, e, rfl, rfl⟩⟩
theorem ArQ.lt {k : Bool} {h : Heap} {l : Addr} {items : Array Value} (x : ArQ k h l items) : l < h.objs.size := by
  cases k with
  | true =>
    obtain ⟨o, e, _⟩ := (show h.IsTuple l items from x)
    exact Heap.lt_size e
  | false =>
    obtain ⟨o, e, _⟩ := (show h.IsList l items from x)
    exact Heap.lt_size e
def iZipG (K : PySem.W.Frag) (ta : TA) : TI := fun σ H R => ta σ H fun vs H1 => ∃ k1 k2 a b xs ys, vs = [.ref a, .ref b] ∧ SqQ k1 K H1 a xs ∧ SqQ k2 K H1 b ys ∧ R (ItzG k1 k2 K a b) H1
theorem pi_zipG {X : Cx} {e e2 : Expr} {ta : TA} {p pos tpos : Pos} {elts : List Expr} {kk : Nat} (hg : Gl X "zip") (hm : X.mg "zip" = none) (ha : PA X [e, e2] ta)
    (hs : starEach [e, e2] X.env = (false, eval e X.env) :: starEach [e2] X.env := by rfl) (hpl : (backTo pos (starEach [e2] X.env)).any (·.1) = false := by rfl) :
    PI X (.Tuple elts kk tpos) (.Call (.Name "zip" p) [e, e2] [] pos) (iZipG X.K ta) := by
  refine ⟨fun pins s σ H R I h => ?_⟩
  refine Call_ (ld_blt I hg hm PyProof.Rows.boot_zip (PyProof.Rows.callWith_type1 (thn (ha.run pos pins s σ H _ I h) fun us s1 ⟨vs, H1, I1, r1, q1⟩ => ?_) hs hpl))
  obtain ⟨k1, k2, a, b, xs, ys, ex, hqx, hqy, q⟩ := q1
  subst ex
  cases r1 with
  | cons r rr =>
    cases rr with
    | cons r' rr =>
      cases rr
      cases r
      cases r'
      have fresh5 : ∀ c, c ∈ [s1.heap.objs.size + 4, s1.heap.objs.size + 2, s1.heap.objs.size + 3, s1.heap.objs.size, s1.heap.objs.size + 1] → FpOk X pins H1 c := fun c hcm => by
        have e' : c = s1.heap.objs.size + 4 ∨ c = s1.heap.objs.size + 2 ∨ c = s1.heap.objs.size + 3 ∨ c = s1.heap.objs.size ∨ c = s1.heap.objs.size + 1 := by simpa using hcm
        have hle : s1.heap.objs.size ≤ c := by
          rcases e' with z | z | z | z | z
          · rw [z]; exact Nat.le_add_right _ _
          · rw [z]; exact Nat.le_add_right _ _
          · rw [z]; exact Nat.le_add_right _ _
          · rw [z]; exact Nat.le_refl _
          · rw [z]; exact Nat.le_add_right _ _
        exact I1.fpOk hle (I1.hok.fresh hle)
      obtain ⟨its, rv, p1⟩ := inv_q I1 hqx
      obtain ⟨its2, rv2, p2⟩ := inv_q I1 hqy
      obtain ⟨o1, B1, i1⟩ := beg_q k1 a its.toArray
      obtain ⟨o2, B2, i2⟩ := beg_q k2 b its2.toArray
      have l1 := p1.lt
      have l2 := p2.lt
      refine zip_begins2 B1 B2 p1 p2 fun h' hz hTI hTO h1 h2 hsz hk => wpAny_pyIter_zip hz ?_
      have I2 : Inv X pins σ H1 { s1 with heap := h' } := I1.kept (t' := s1.toks) hk
      generalize s1.heap.objs.size = n at *
      have na : a ≠ n := Nat.ne_of_lt l1
      have nb : b ≠ n + 1 := Nat.ne_of_lt (Nat.lt_succ_of_lt l2)
      have f1 : ∀ c, n < c → c ∉ [n, a] := fun c h => by
        intro hm
        have l1' : (a : Nat) < n := l1
        rcases (show c = n ∨ c = a by simpa using hm) with z | z
        · rw [z] at h; exact Nat.lt_irrefl _ h
        · rw [z] at h; exact Nat.lt_irrefl _ (Nat.lt_trans l1' h)
      have f2 : ∀ c, n + 1 < c → c ∉ [n + 1, b] := fun c h => by
        intro hm
        have l2' : (b : Nat) < n := l2
        rcases (show c = n + 1 ∨ c = b by simpa using hm) with z | z
        · rw [z] at h; exact Nat.lt_irrefl _ h
        · rw [z] at h; exact Nat.lt_irrefl _ (Nat.lt_trans (Nat.lt_succ_of_lt l2') h)
      have ne : ∀ i j : Nat, i ≠ j → (n + i : Addr) ≠ n + j := fun i j h e => h (Nat.add_left_cancel e)
      have D : ZipSep2 (n + 4) (n + 2) (n + 3) n (n + 1) [n, a] [n + 1, b] :=
        { TIz := ne 2 4 (by decide), TOz := ne 3 4 (by decide), TITO := ne 2 3 (by decide), TIi1 := ne 2 0 (by decide), mem1 := by simp, zf1 := f1 _ (Nat.lt_add_of_pos_right (by decide)), Tf1 := f1 _ (Nat.lt_add_of_pos_right (by decide)), TIi2 := ne 2 1 (by decide), mem2 := by simp, zf2 := f2 _ (Nat.add_lt_add_left (by decide) n), Tf2 := f2 _ (Nat.add_lt_add_left (by decide) n), sep1_2 := by
            intro hm
            rcases (show n = n + 1 ∨ n = b by simpa using hm) with z | z
            · exact ne 0 1 (by decide) z
            · exact Nat.ne_of_lt l2 z.symm, sep2_1 := f1 _ (Nat.lt_succ_self n) }
      exact ⟨n + 4, [n + 4, n + 2, n + 3, n, n + 1], _, _, H1, rfl, I2, turn_zipG D na nb, ⟨hz, hTI, ⟨_, _, hTO⟩, i1 _ _ h1, i2 _ _ h2⟩, fresh5, q⟩
def SrcQ (k : Bool) (a : Addr) (xs : List PyData) (g : List (Nat × Cell)) (ρ : List Addr) (S : Store) (H : Hp) : Prop := match k with
  | true => Pd (Live ρ S) H (.ref a) (.tuple xs)
  | false => SrcL a xs g ρ S H
theorem SrcQ.mono {k : Bool} {a : Addr} {xs : List PyData} {g : List (Nat × Cell)} {ρ ρ' : List Addr} {S S' : Store} {H H' : Hp} (h : SrcQ k a xs g ρ S H) (e : Xt ρ S H ρ' S' H') : SrcQ k a xs g ρ' S' H' := by
  cases k with
  | true => exact Pd.mono e.gr _ _ (show Pd (Live ρ S) H (.ref a) (.tuple xs) from h)
  | false => exact SrcL.mono (show SrcL a xs g ρ S H from h) e
theorem SrcQ.now {k : Bool} {a : Addr} {xs : List PyData} {g : List (Nat × Cell)} {ρ : List Addr} {S : Store} {H : Hp} (K : PySem.W.Frag) (h : SrcQ k a xs g ρ S H) (ok : Ok ρ S H) (hs : stand g S = true) : ∃ vs, SqQ k K H a vs ∧ Pds (Live ρ S) H vs xs := by
  cases k with
  | true =>
    cases (show Pd (Live ρ S) H (.ref a) (.tuple xs) from h) with
    | tup h1 h2 => exact ⟨_, h1.sq, h2⟩
  | false =>
    obtain ⟨vs, h1, h2⟩ := (show SrcL a xs g ρ S H from h).now ok hs
    exact ⟨vs, .of h1, h2⟩
theorem wk_zipG {K : PySem.W.Frag} {k1 k2 : Bool} {a b : Addr} {xs ys : List PyData} {g g' : List (Nat × Cell)} : Wk K false (ItzG k1 k2 K a b) (zipD xs ys) (g ++ g') (fun ρ S H => SrcQ k1 a xs g ρ S H ∧ SrcQ k2 b ys g' ρ S H) where
  mono := fun _ _ _ _ _ _ h e => ⟨h.1.mono e, h.2.mono e⟩
  goes := fun i ρ S H hi ok h hs => by
    obtain ⟨s1, s2⟩ := stand_app hs
    obtain ⟨vs, h1, h2⟩ := h.1.now K ok s1
    obtain ⟨us, h3, h4⟩ := h.2.now K ok s2
    obtain ⟨x, y, e1, e2, _⟩ := zipD_at xs ys i (List.getElem?_eq_getElem hi)
    obtain ⟨v, h5, _⟩ := h2.at e1
    obtain ⟨u, h6, _⟩ := h4.at e2
    exact ⟨vs, us, v, u, h1, h3, h5, h6⟩
  stops := fun ρ S H ok h hs => by
    obtain ⟨s1, s2⟩ := stand_app hs
    obtain ⟨vs, h1, h2⟩ := h.1.now K ok s1
    obtain ⟨us, h3, h4⟩ := h.2.now K ok s2
    refine ⟨vs, us, h1, h3, ?_⟩
    rw [h2.length, h4.length, zipD_len]
    omega
  yld := fun i ρ S H v H' d hd ok h hs y => by
    obtain ⟨s1, s2⟩ := stand_app hs
    obtain ⟨vs, h1, h2⟩ := h.1.now K ok s1
    obtain ⟨us, h3, h4⟩ := h.2.now K ok s2
    obtain ⟨T, x, z, rfl, hT, rfl, y1, y2⟩ := y
    obtain ⟨dx, dy, e1, e2, rfl⟩ := zipD_at xs ys i hd
    obtain ⟨v, h5, h6⟩ := h2.at e1
    obtain ⟨u, h7, h8⟩ := h4.at e2
    have e := y1 vs h1
    rw [h5] at e
    cases e
    have e := y2 us h3
    rw [h7] at e
    cases e
    exact rl_pair ok hT h6 h8
theorem i_zip {X : Cx} {e e2 : Expr} {fa fb : Ex} {p pos tpos : Pos} {elts : List Expr} {kk : Nat} (hg : Gl X "zip") (hm : X.mg "zip" = none) (ha : PE X e (TX X.K fa)) (hb : PE X e2 (TX X.K fb)) (hs : starEach [e, e2] X.env = (false, eval e X.env) :: starEach [e2] X.env := by rfl) (hs2 : starEach [e2] X.env = [(false, eval e2 X.env)] := by rfl) (hpl : (backTo pos (starEach [e2] X.env)).any (·.1) = false := by rfl) :
    PI X (.Tuple elts kk tpos) (.Call (.Name "zip" p) [e, e2] [] pos) (TIs X.K false (iZip fa fb)) := PI.up (pi_zipG hg hm (a_cons ha (a_cons hb a_nil (hs2.trans (by rw [star_nil]))) hs) hs hpl) fun σ H R ⟨ρ, env, S, eo, ok, q⟩ => by
  refine ⟨ρ, env, S, eo, ok, Aft.two q fun x y S2 ρ1 H1 v w e1 o1 q1 dx dy => ?_⟩
  obtain ⟨s1, hs1, q2⟩ := Aft.bx q1
  obtain ⟨s2, hs2', q3⟩ := Aft.bx q2
  have q4 := Aft.here q3 rfl o1
  have src : ∀ (d : Mi.D) (v : V) (s : Src), DOk X.K ρ1 S2 H1 v d → srcOf S2 d = .ok s → ∃ k a vs, v = .ref a ∧ SrcQ k a s.items s.g ρ1 S2 H1 ∧ SqQ k X.K H1 a vs := fun d v s r h => by
    obtain ⟨a, rfl, h1⟩ := src_ok o1 r h
    rcases h1 with ⟨h1, ⟨vs, hv⟩, _⟩ | ⟨h1, g1, _⟩
    · exact ⟨false, a, vs, rfl, h1, .of hv⟩
    · cases h1 with
      | tup t1 t2 => exact ⟨true, a, _, rfl, .tup t1 t2, t1.sq⟩
  obtain ⟨k1, a, vs, rfl, h1, g1⟩ := src _ _ _ dx hs1
  obtain ⟨k2, b, us, rfl, h2, g2⟩ := src _ _ _ dy hs2'
  exact ⟨k1, k2, a, b, vs, us, rfl, g1, g2, q4 _ _ wk_zipG ⟨h1, h2⟩⟩
end
end Mi
end
section
namespace Mi
open PySem PySem.Spec PyProof.Rows L2
section
variable {X : Cx}
theorem Gd.blk (G : Gd X) {s : Shared} {H : Hp} {scope : Scope} {ce : PySem.Env} {fp : List Addr} : Gd (X.blk s H scope ce fp) := ⟨G.calm, G.hu, G.gs, G.nd⟩
variable {elt tg iter : Expr} {ifs : List Expr} {scope : Scope} {own : List (Str × Nat)} {pos spos : Pos} {st : Bool} {is : List Nat} {src : Is} {t : Tg} {cond : Bx} {fe : Ex}
theorem n_comp (G : Gd X) (hi : PI X tg iter (TIs X.K st src)) (ok : BlkOk X.N X.env.scope scope own)
    (hg : ∀ (s : Shared) (H : Hp) (C : Addr) (cl : List (Str × Addr)) (fp : List Addr), PG (X.blk s H scope (compEnvC scope cl C X.env) fp) tg (TTg X.K st is t))
    (ht : ∀ (s : Shared) (H : Hp) (C : Addr) (cl : List (Str × Addr)) (fp : List Addr), PTs (X.blk s H scope (compEnvC scope cl C X.env) fp) ifs (TBx X.K cond))
    (he : ∀ (s : Shared) (H : Hp) (C : Addr) (cl : List (Str × Addr)) (fp : List Addr), PE (X.blk s H scope (compEnvC scope cl C X.env) fp) elt (TX X.K fe))
    (his : ∀ i ∈ is, i ∈ own.map (·.2) := by decide) (hs : ∀ x, foldedSetIterable iter X.env x = pure x := by intro _; rfl) :
    PE X (.ListComp elt [⟨tg, iter, ifs, 0⟩] scope pos) (TN X.K (mComp (own.map (·.2)) src t cond fe)) := PE.up (pe_lc G.calm G.nd hi ok hg ht he hs) fun _ _ _ h => t_comp his h
theorem tX_tN {K : PySem.W.Frag} {f : Ex} (hl : ∀ σ S p, f σ S = .ok p → ∃ xs, p.1 = .p (.list xs)) {σ : L2.St} {H : Hp} {Q : VK} (h : TX K f σ H Q) : TN K f σ H Q := by
  obtain ⟨ρ, env, S, eo, ok, q⟩ := h
  refine ⟨ρ, env, S, eo, ok, ?_⟩
  have hl := hl env S
  generalize f env S = r at q hl
  cases r with
  | ok p =>
    intro ρ1 H1 e1 o1
    obtain ⟨xs, hx⟩ := hl p rfl
    refine ⟨xs, hx, fun a vs ha pd => q ρ1 (upd H1 a (.lst vs)) (e1.trans (Xt.new ha)) (o1.new ha) (.ref a) ?_⟩
    rw [hx]
    exact .lst upd_same (Live.ne o1 ha) (Pds.mono (Gr.new ha) _ _ pd)
  | ex e S => exact q
  | no => exact q
theorem isL_compL {own : List Nat} {g : List (Nat × Cell)} {σ : Env} : ∀ (items acc : List PyData) (S : Store) (p : D × Store), compL own t cond fe g σ items acc S = .ok p → ∃ xs, p.1 = .p (.list xs)
  | [], acc, S, p, h => by
    obtain ⟨_, h⟩ := when_ok h
    cases h
    exact ⟨_, rfl⟩
  | x :: xs, acc, S, p, h => by
    obtain ⟨_, h⟩ := when_ok h
    obtain ⟨σ1, _, h⟩ := bx_inv h
    obtain ⟨b, S1, _, h⟩ := bd_inv h
    cases b with
    | true =>
      rw [if_pos rfl] at h
      obtain ⟨y, S2, _, h⟩ := bd_inv h
      obtain ⟨d, S3, _, h⟩ := bd_inv h
      obtain ⟨_, h⟩ := when_ok h
      exact isL_compL xs _ _ p h
    | false =>
      rw [if_neg Bool.false_ne_true] at h
      obtain ⟨_, h⟩ := when_ok h
      exact isL_compL xs _ _ p h
theorem isL_comp {own : List Nat} (σ : Env) (S : Store) (p : D × Store) (h : mComp own src t cond fe σ S = .ok p) : ∃ xs, p.1 = .p (.list xs) := by
  obtain ⟨s, S1, _, h⟩ := bd_inv h
  obtain ⟨_, h⟩ := when_ok h
  exact isL_compL _ _ _ p h
end
section
variable {X : Cx} {e c : Expr} {st : Stmt} {rest a b : List Stmt} {fa fb : Ex} {pos pos' : Pos} {sa sb : Sm} {ga : Bx} {fs : As}
theorem s_asg_of {f : Ex} {te : TE} {i : Nat} (h : PS X st (tAsg te (gName i))) (ht : ∀ σ H Q, TX X.K f σ H Q → te σ H Q) : PS X st (TSm X.K (sAsg i f)) := PS.up h fun D' σ H ⟨ρ, env, S, eo, ok, q⟩ => by
  refine ht σ H _ ⟨ρ, env, S, eo, ok, (Aft.bd q).mono fun p ρ1 H1 e1 o1 q1 v dv => ?_⟩
  exact (Aft.here q1 rfl o1) _ ((eo.mono e1).set dv)
theorem s_asg (G : Gd X) (i : Nat) {x : Str} {f : Ex} (he : PE X e (TX X.K f)) (hi : X.N[i]? = some x := by rfl) (hx : Loc X.env.scope x := by first | exact Or.inl rfl | exact Or.inr rfl) (hs : swapsWith e (some (.Name x pos')) pos.line X.env = pure false := by rfl)
    (hf : X.fn x = true ∨ X.env.scope.names.lookup x = some .local := by first | exact .inl rfl | exact .inr rfl | assumption) : PS X (.Assign [.Name x pos'] e pos) (TSm X.K (sAsg i f)) := s_asg_of (ps_set G.nd hi hx he hs hf) fun _ _ _ h => h
theorem s_asgC (G : Gd X) (i : Nat) {y : Str} {py : Pos} {elt tg iter : Expr} {ifs : List Expr} {scope : Scope} {own : List (Str × Nat)} {pos spos : Pos} {sr : Bool} {is : List Nat} {src : Is} {t : Tg} {cond : Bx} {fe : Ex} (hsw : swapsWith (.ListComp elt [⟨tg, iter, ifs, 0⟩] scope pos) (some (.Name y py)) spos.line X.env = pure true)
    (hi : PI X tg iter (TIs X.K sr src)) (ok : BlkOk X.N X.env.scope scope own)
    (hg : ∀ (s : Shared) (H : Hp) (C : Addr) (cl : List (Str × Addr)) (fp : List Addr), PG (X.blk s H scope (compEnvC scope cl C X.env) fp) tg (TTg X.K sr is t))
    (ht : ∀ (s : Shared) (H : Hp) (C : Addr) (cl : List (Str × Addr)) (fp : List Addr), PTs (X.blk s H scope (compEnvC scope cl C X.env) fp) ifs (TBx X.K cond))
    (he : ∀ (s : Shared) (H : Hp) (C : Addr) (cl : List (Str × Addr)) (fp : List Addr), PE (X.blk s H scope (compEnvC scope cl C X.env) fp) elt (TX X.K fe))
    (his : ∀ i ∈ is, i ∈ own.map (·.2) := by decide) (hs : ∀ x, foldedSetIterable iter X.env x = pure x := by intro _; rfl) (hN : X.N[i]? = some y := by rfl) (hyl : X.env.scope.names.lookup y = some .local := by rfl) :
    PS X (.Assign [.Name y py] (.ListComp elt [⟨tg, iter, ifs, 0⟩] scope pos) spos) (tAsg (TN X.K (mComp (own.map (·.2)) src t cond fe)) (gName i)) :=
  PS.up (ps_setLc G.calm G.nd hN hyl hsw hi ok hg ht he hs) fun _ _ _ h => t_comp his h
theorem s_unp {tg : Expr} {is : List Nat} {ts : List Tg} (he : PE X e (TX X.K fa)) (hg : PG X tg (TTg X.K true is (gT ts))) (hs : swapsWithSole [tg] e pos.line X.env = pure false := by rfl) (hw : swappedStores [tg] e X.env = pure none := by rfl)
    (h1 : (assignEach [tg] X.env).map (·.2) = [assign tg X.env] := by rfl) : PS X (.Assign [tg] e pos) (TSm X.K (sUnp (gT ts) fa)) := PS.up (ps_asg he hg hs hw h1) fun D' σ H ⟨ρ, env, S, eo, ok, q⟩ => by
  refine ⟨ρ, env, S, eo, ok, (Aft.bd q).mono fun p ρ1 H1 e1 o1 q1 v dv => ?_⟩
  obtain ⟨u, hu, q2⟩ := Aft.bx q1
  obtain ⟨env1, ht, q3⟩ := Aft.bx q2
  have dp : Pd (Live ρ1 p.2) H1 v u := by
    obtain ⟨x, S1⟩ := p
    cases x with
    | p d => cases hu; exact dv
    | _ => cases hu
  cases u with
  | tuple us => exact ⟨ρ1, env, p.2, .tuple us, env1, eo.mono e1, o1, dp, ht, fun σ1 eo1 _ => (Aft.here q3 rfl o1) σ1 eo1⟩
  | list us => exact ⟨ρ1, env, p.2, .list us, env1, eo.mono e1, o1, dp, ht, fun σ1 eo1 _ => (Aft.here q3 rfl o1) σ1 eo1⟩
  | _ => cases ht
theorem s_drop (he : PE X e (TX X.K fa)) (hs : swapsWith e none pos.line X.env = pure false := by rfl) : PS X (.Expr e pos) (TSm X.K (sDrop fa)) := PS.up (ps_expr he hs) fun D' σ H ⟨ρ, env, S, eo, ok, q⟩ => by
  refine ⟨ρ, env, S, eo, ok, (Aft.bd q).mono fun p ρ1 H1 e1 o1 q1 v dv => ?_⟩
  exact (Aft.here q1 rfl o1) _ (eo.mono e1)
theorem s_ret (he : PE X e (TX X.K fa)) : PS X (.Return (some e) pos) (TSm X.K (sRet fa)) := PS.up (ps_ret he) fun D' σ H ⟨ρ, env, S, eo, ok, q⟩ => by
  refine ⟨ρ, env, S, eo, ok, (Aft.bd q).mono fun p ρ1 H1 e1 o1 q1 v dv => ?_⟩
  exact (Aft.here q1 rfl o1) _ dv
theorem ss_nil : PSs X [] (TSm X.K sPass) := PSs.up pss_nil fun D' σ H ⟨ρ, env, S, eo, ok, q⟩ => (Aft.here q rfl ok) _ eo
theorem ss_one (h : PS X st (TSm X.K sa)) : PSs X [st] (TSm X.K sa) := pss_one h
theorem ss_cons (h1 : PS X st (TSm X.K sa)) (h2 : PSs X rest (TSm X.K sb)) : PSs X (st :: rest) (TSm X.K (sSeq sa sb)) := PSs.up (pss_cons h1 h2) fun D' σ H ⟨ρ, env, S, eo, ok, q⟩ => by
  refine ⟨ρ, env, S, eo, ok, (Aft.bs q).mono fun p ρ1 H1 e1 o1 q1 => ?_⟩
  obtain ⟨f, env1, S1⟩ := p
  cases f with
  | nx => exact fun σ1 eo1 => ⟨ρ1, env1, S1, eo1, o1, q1⟩
  | bk => exact fun σ1 eo1 => (Aft.here q1 rfl o1) σ1 eo1
  | ct => exact fun σ1 eo1 => (Aft.here q1 rfl o1) σ1 eo1
  | rt d => exact fun v dv => (Aft.here q1 rfl o1) v dv
theorem s_if (hc : PT X c (TBx X.K ga)) (ha : PSs X a (TSm X.K sa)) (hb : PSs X b (TSm X.K sb)) : PS X (.If c a b pos) (TSm X.K (sIf ga sa sb)) := PS.up (ps_if hc ha hb) fun D' σ H ⟨ρ, env, S, eo, ok, q⟩ => by
  refine ⟨ρ, env, S, eo, ok, (Aft.bd q).mono fun p ρ1 H1 e1 o1 q1 => ?_⟩
  obtain ⟨k, S1⟩ := p
  cases k with
  | true => exact ⟨ρ1, env, S1, eo.mono e1, o1, q1⟩
  | false => exact ⟨ρ1, env, S1, eo.mono e1, o1, q1⟩
def pAddI : PyData → PyData → R PyData
  | .int a, .int b => .ok (.int (a + b))
  | _, _ => .no
def pSubI : PyData → PyData → R PyData
  | .int a, .int b => .ok (.int (a - b))
  | _, _ => .no
end
end Mi
end
section
namespace Mi.Tu
open PySem PySem.W PySem.Calls PySem.SeqAt PyProof.Rows
section
variable {prog : Program} {w : World} {A : Around} {E : Value → Shared → Prop} {s : Shared}
variable {β : Type} {bs : List β} {vs : List Value} {R : Value → β → Prop} {enc : β → PyData}
end
end Mi.Tu
end
section
namespace Mi
open PySem PySem.Spec PySem.Calls PyProof.Rows PySem.W
open PyProof.Rows (seqObj)
section
variable {prog : Program} {w : World} {A : Around} {E : Value → Shared → Prop} {s : Shared}
variable {β : Type} {bs : List β} {vs : List Value} {R : Value → β → Prop} {enc : β → PyData}
end
end Mi
end
section
namespace Mi
open PySem PySem.Spec PyProof.Rows L2
section
variable {X : Cx} {o e : Expr} {fo fa : Ex} {apos cpos : Pos}
def tyL (x : V) (H : Hp) : Prop := ∃ a vs, x = .ref a ∧ H a = some (.lst vs)
theorem ty_list : TyOk X "list" tyL := by
  intro pins σ H s x v I r ⟨a, vs, e, h⟩
  exact tyV_is I r (T := "list") (by subst e; exact .inl ⟨rfl, vs, .of h⟩)
theorem lstAt_inv {S : Store} {d : Mi.D} (h : lstAt S d = true) : ∃ i xs, d = .ref i ∧ S[i]? = some (.lst xs) := by
  cases d with
  | ref i =>
    cases hs : S[i]? with
    | none => simp [lstAt, hs] at h
    | some c =>
      cases c with
      | lst xs => exact ⟨i, xs, rfl, hs⟩
      | _ => simp [lstAt, hs] at h
  | _ => simp [lstAt] at h
theorem x_append (ho : PE X o (TX X.K fo)) (ha : PE X e (TX X.K fa)) (hbase : attributeBase o "append" X.env (eval o X.env) = eval o X.env := by rfl)
    (hfew : ((backTo cpos (starEach [e] X.env)).all (fun x => !x.1) && (backToKw cpos (keywordEach [] X.env)).all (fun x => x.1.isSome)
      && decide ([e].length + ([] : List Keyword).length + (if ([] : List Keyword).isEmpty then 0 else 1) < 30)) = true := by rfl)
    (hline : (apos.endLine == cpos.line) = true := by rfl) (hs : starEach [e] X.env = (false, eval e X.env) :: starEach [] X.env := by rfl) (hplain : (backTo cpos (starEach [] X.env)).any (·.1) = false := by rfl) :
    PE X (.Call (.Attribute o "append" apos) [e] [] cpos) (TX X.K (mAppend fo fa)) :=
  PE.up (pe_mG ty_list PySem.F.plainAttrs_list PySem.F.slot_list_append PySem.F.type_list_append mt_append ho (a_cons ha a_nil hs) hbase hfew hline hs hplain) fun σ H Q ⟨ρ, env, S, eo, ok, q⟩ => by
    refine ⟨ρ, env, S, eo, ok, (Aft.bd q).mono fun p ρ1 H1 e1 o1 q1 v dv => ?_⟩
    obtain ⟨d, S1⟩ := p
    obtain ⟨hl, q2⟩ := Aft.when q1
    obtain ⟨i, xs, rfl, hS⟩ := lstAt_inv hl
    obtain ⟨a, har, rfl⟩ := dv
    have ha := har.1
    obtain ⟨vs, hv, _⟩ := o1.cell i a _ ha hS
    refine ⟨⟨a, vs, rfl, hv⟩, ta_one ⟨ρ1, env, S1, eo.mono e1, o1, (Aft.bd q2).mono fun p2 ρ2 H2 e2 o2 q3 w dw => ?_⟩⟩
    obtain ⟨x, S3, x3, o3, pd, q4⟩ := Aft.fz o2 dw q3
    have ha3 : ρ2[i]? = some a := (e2.at har).1
    cases hS3 : S3[i]? with
    | none => simp only [hS3] at q4; exact q4.elim
    | some c =>
      simp only [hS3] at q4
      cases c with
      | lst ys =>
        obtain ⟨hz, q5⟩ := Aft.when q4
        obtain ⟨us, hu, pu⟩ := o3.cell i a _ ha3 hS3
        obtain ⟨o4, x4⟩ := o3.putL (vs := us ++ [w]) (ys := ys ++ [x]) ha3 hS3 (pu.append (.cons pd .nil))
        have hz : ys.length < Line := of_decide_eq_true hz
        exact ⟨a, us, w, rfl, rfl, hu, by rw [pu.length]; exact hz, (Aft.at q5 x4 o4) _ .non⟩
      | _ => exact q4.elim
end
end Mi
end
section
namespace Mi
open PySem PySem.Spec PyProof.Rows L2
section
variable (own : List Nat) (tg : Tg) (elt : Ex) (g : List (Nat × Cell)) (σ : Env) (i : Nat)
end
section
variable {K : PySem.W.Frag} {ρ ρ' : List Addr} {S S' : Store} {H H' : Hp}
theorem RowsAt.push {rs : List Nat} {as : List Addr} {p : Addr} {k : Nat} {c : Cell} (h : RowsAt ρ S rs as) (hl : ρ.length = S.length) (hk : S.length = k) (hc : c.kd ≠ 1) : RowsAt (ρ ++ [p]) (S ++ [c]) (rs ++ [k]) (as ++ [p]) := by
  refine ⟨by simp [h.1], fun m j hm => ?_⟩
  by_cases hm2 : m < rs.length
  · rw [List.getElem?_append_left hm2] at hm
    obtain ⟨b, h1, h2, d, h3, h4⟩ := h.2 m j hm
    exact ⟨b, by rw [List.getElem?_append_left (List.getElem?_eq_some_iff.mp h1).1]; exact h1, by rw [List.getElem?_append_left (List.getElem?_eq_some_iff.mp h2).1]; exact h2, d, by rw [List.getElem?_append_left (List.getElem?_eq_some_iff.mp h3).1]; exact h3, h4⟩
  · have e : m = rs.length := by
      have := (List.getElem?_eq_some_iff.mp hm).1
      simp at this
      omega
    subst e
    simp at hm
    subst hm
    subst hk
    refine ⟨p, ?_, .last hl hc⟩
    rw [List.getElem?_append_right (by rw [h.1]; exact Nat.le_refl _), h.1]
    simp
theorem NstOk.now {v : V} {i n : Nat} {rs : List Nat} (h : NstOk ρ S H v i n rs) (hs : S[i]? = some (.nst n rs)) : ∃ a as, v = .ref a ∧ ρ[i]? = some a ∧ H a = some (.lst (as.map V.ref)) ∧ RowsAt ρ S rs as := by
  obtain ⟨a, n', rs', h1, h2, h3, h4, h5⟩ := h
  rw [hs] at h3
  cases h3
  obtain ⟨_, as, h6, h7⟩ := h5 rfl
  exact ⟨a, as, h1, h2, h6, h7⟩
end
section
variable {X : Cx} {e a b o : Expr} {pos p cpos apos : Pos} {fa fb fe : Ex}
variable {elt tg iter : Expr} {scope : Scope} {own : List (Str × Nat)} {spos : Pos} {st : Bool} {is : List Nat} {src : Is} {t : Tg}
theorem RowsAt.more {ρ : List Addr} {S : Store} {rs : List Nat} {as : List Addr} {p : Addr} {k : Nat} (h : RowsAt ρ S rs as) (hk : RefAt ρ S k p) : RowsAt ρ S (rs ++ [k]) (as ++ [p]) := by
  refine ⟨by simp [h.1], fun m j hm => ?_⟩
  by_cases hl : m < rs.length
  · rw [List.getElem?_append_left hl] at hm
    obtain ⟨b, h1, h2⟩ := h.2 m j hm
    exact ⟨b, by rw [List.getElem?_append_left (List.getElem?_eq_some_iff.mp h1).1]; exact h1, h2⟩
  · have e : m = rs.length := by
      have := (List.getElem?_eq_some_iff.mp hm).1
      simp at this
      omega
    subst e
    simp at hm
    subst hm
    refine ⟨p, ?_, hk⟩
    rw [List.getElem?_append_right (by rw [h.1]; exact Nat.le_refl _), h.1]
    simp
end
end Mi
end
section
namespace Mi
open PySem PySem.Spec PyProof.Rows L2
section
variable {X : Cx} {pins : List (Addr × Obj)} {σ : L2.St} {H : Hp} {s : Shared} {L : Addr → Prop}
theorem dk0_reads {a : Addr} (I : L2.Inv X pins σ H s) (h : Rd H a (.dK [])) : a ≠ sysModules ∧ Reads s.heap (.ref a) (.dict []) [a] := by
  obtain ⟨_, hd, vs, rel, dd⟩ := dk_rd I.hok h
  have hv : vs = [] := by
    cases vs with
    | nil => rfl
    | cons x xs => exact nomatch rel.length
  subst hv
  obtain ⟨o, es, ep, h1, h2, h3, h4, h5, h6⟩ := dd
  have he : es.toList = [] := by
    have := h5.length
    cases hl : es.toList with
    | nil => rfl
    | cons x xs => rw [hl] at this; cases this
  refine ⟨ne_of_beq_false hd, ?_⟩
  have r := Reads.dict (h := s.heap) (kvs := []) (as := []) (bs := []) h1 h2.1 h3 (by rw [he]; exact .nil) (by rw [he]; exact .nil)
  simpa using r
theorem plain_ints : ∀ k : List Int, PyData.plainAll (k.map .int) = true
  | [] => rfl
  | n :: k => by
    rw [List.map_cons, PyData.plainAll, plain_ints k]
    rfl
theorem key_reads (I : L2.Inv X pins σ H s) {b : Addr} {k : List Int} (t : TupAt H b (k.map V.int)) : ∃ as, Reads s.heap (.ref b) (.tuple (k.map .int)) as :=
  Dp.reads I _ _ _ (Pd.dp (K := X.K) (L := fun _ => False) (.tuple (k.map .int)) (.ref b) (by rw [PyData.plain]; exact plain_ints k) (.tup t (pds_ints k))) rfl
theorem keyIs_reads {h : Heap} {k : Key} {v : Value} (e : keyIs k v = true) : ∃ as, Reads h v (keyD k) as := by
  rcases keyIs_shape e with ⟨i, t, rfl, rfl⟩ | ⟨x, t, rfl, rfl⟩
  · exact ⟨_, .int i t⟩
  · exact ⟨_, .str x t⟩
mutual
theorem Pd.reads (I : L2.Inv X pins σ H s) : ∀ (d : PyData) (v : V) (u : Value), Pd L H v d → RelV v u → ∃ as, Reads s.heap u d as
  | .none, _, _, .non, r => by
    cases r
    exact ⟨_, Reads.none⟩
  | .bool b, _, _, .bl _, r => by
    cases r
    exact ⟨_, Reads.bool b⟩
  | .int i, _, _, .int _, r => by
    obtain ⟨t, rfl⟩ := r
    exact ⟨_, Reads.int i t⟩
  | .str x, _, _, .str _, r => by
    obtain ⟨t, rfl⟩ := r
    exact ⟨_, Reads.str x t⟩
  | .list ds, _, _, .lst hs _ ha, r => by
    cases r
    obtain ⟨its, rv, ⟨o, n, ho, hc, _, hd⟩, _⟩ := I.list (SqL.of (K := X.K) hs)
    obtain ⟨as, hr⟩ := Pds.reads I ds _ its ha rv
    exact ⟨_, Reads.list ho hc hd hr⟩
  | .tuple ds, _, _, .tup hs ha, r => by
    cases r
    obtain ⟨its, rv, ⟨o, ho, hc, n, hd⟩, _⟩ := I.tuple (hs.sq (K := X.K))
    obtain ⟨as, hr⟩ := Pds.reads I ds _ its ha rv
    exact ⟨_, Reads.tuple ho hc hd hr⟩
  | .dict [], _, _, .dct h _, r => by
    cases r
    exact ⟨_, (dk0_reads I (.inl h)).2⟩
  | .dict kvs, _, _, .dk h _ ha _, r => by
    cases r
    obtain ⟨_, hd, vs, rel, o, es, ep, h1, h2, h3, h4, h5, h6⟩ := dk_rd I.hok (.inl h)
    obtain ⟨as, bs, r1, r2⟩ := Kvp.reads I kvs _ ha vs es.toList rel h5
    exact ⟨_, Reads.dict h1 h2.1 h3 r1 r2⟩
  | .dict kvs, _, _, .dt (a := a) (o := o) (xs := xs) h _ ha _, r => by
    cases r
    obtain ⟨⟨P, w, es, ep, us, hv, h1, h2, h3, h4⟩, _⟩ := (show ObjOk X.prog X.w H s.heap a (.ext (DTfv o xs a)) from I.hok a _ h)
    obtain ⟨as, bs, r1, r2⟩ := Kvt.reads I kvs _ ha us hv
    rw [List.map_map] at h4
    refine ⟨_, Reads.dict h1 h2.1 h3 (as := as) (bs := bs) ?_ ?_⟩
    · rw [h4, List.map_map]
      exact r1
    · rw [h4, List.map_map]
      exact r2
theorem Pds.reads (I : L2.Inv X pins σ H s) : ∀ (ds : List PyData) (vs : List V) (us : List Value), Pds L H vs ds → Vals vs us → ∃ as, ReadsAll s.heap us ds as
  | [], _, _, .nil, r => by
    cases r
    exact ⟨_, ReadsAll.nil⟩
  | d :: ds, _, _, .cons h1 h2, r => by
    cases r with
    | cons r1 r2 =>
      obtain ⟨as, q1⟩ := Pd.reads I d _ _ h1 r1
      obtain ⟨bs, q2⟩ := Pds.reads I ds _ _ h2 r2
      exact ⟨_, ReadsAll.cons q1 q2⟩
theorem Kvp.reads (I : L2.Inv X pins σ H s) : ∀ (kvs : List (PyData × PyData)) (us : List (Key × V)), Kvp L H us kvs → ∀ (vs : List (Key × Value)) (es : List DictEntry), KV us vs → Pairs (mixKind X.prog X.w) es vs → ∃ as bs, ReadsAll s.heap (es.map (·.key)) (kvs.map (·.1)) as ∧ ReadsAll s.heap (es.map (·.val)) (kvs.map (·.2)) bs
  | [], _, .nil, vs, es, r, p => by
    cases r
    cases p
    exact ⟨_, _, .nil, .nil⟩
  | (_, d) :: kvs, _, .cons a t, vs, es, r, p => by
    cases r with
    | cons r1 r2 =>
      cases p with
      | cons p1 p2 p3 =>
        obtain ⟨e1, e2⟩ := r1
        obtain ⟨as, bs, q1, q2⟩ := Kvp.reads I kvs _ t _ _ r2 p3
        obtain ⟨cs, q3⟩ := Pd.reads I d _ _ a e2
        obtain ⟨ds, q4⟩ := keyIs_reads (h := s.heap) p1
        dsimp only at e1
        rw [← e1] at q4
        rw [← p2] at q3
        exact ⟨_, _, .cons q4 q1, .cons q3 q2⟩
theorem Kvt.reads (I : L2.Inv X pins σ H s) : ∀ (kvs : List (PyData × PyData)) (xs : List (List Int × Addr × V)), Kvt L H xs kvs → ∀ us : List Value, Vals (xs.map fun x => x.2.2) us → ∃ as bs, ReadsAll s.heap ((xs.zip us).map fun p => Value.ref p.1.2.1) (kvs.map (·.1)) as ∧ ReadsAll s.heap ((xs.zip us).map fun p => p.2) (kvs.map (·.2)) bs
  | [], _, .nil, us, r => ⟨_, _, .nil, .nil⟩
  | (_, d) :: kvs, _, .cons t a rest, us, r => by
    cases r with
    | cons r1 r2 =>
      obtain ⟨as, bs, q1, q2⟩ := Kvt.reads I kvs _ rest _ r2
      obtain ⟨cs, q3⟩ := Pd.reads I d _ _ a r1
      obtain ⟨ds, q4⟩ := key_reads I t
      exact ⟨_, _, .cons q4 q1, .cons q3 q2⟩
end
theorem Kvp.kvk : ∀ {us : List (Key × V)} {kvs : List (PyData × PyData)}, Kvp L H us kvs → KvK L H us kvs
  | _, _, .nil => .nil
  | _, _, .cons a t => .cons a (Kvp.kvk t)
theorem Dv.dictK {v : V} {kvs : List (PyData × PyData)} (h : Dv L H v (.dict kvs)) (hk : keyNT kvs = true) : ∃ a us, v = .ref a ∧ Rd H a (.dK us) ∧ KvK L H us kvs := by
  cases h with
  | data h => cases h with
    | dct h _ => exact ⟨_, [], rfl, .inl h, .nil⟩
    | dk h1 _ h ne => exact ⟨_, _, rfl, .inl h1, h.kvk⟩
    | dt _ _ h ne =>
      cases h with
      | nil => exact absurd rfl ne.1
      | cons _ _ _ => cases hk
  | dK h1 h2 => exact ⟨_, _, rfl, h1, h2⟩
theorem Dv.dictT {v : V} {kvs : List (PyData × PyData)} (h : Dv L H v (.dict kvs)) (hk : keyNT kvs = false) : ∃ a o xs, v = .ref a ∧ H a = some (.ext (DTfv o xs a)) ∧ Kvt L H xs kvs ∧ DtOk xs a := by
  have key : ∀ {us : List (Key × V)} {kvs : List (PyData × PyData)}, KvK L H us kvs → keyNT kvs = true := fun {us kvs} h => by
    cases h with
    | nil => rfl
    | @cons k _ _ _ _ _ _ => cases k <;> rfl
  cases h with
  | data h => cases h with
    | dct h _ => cases hk
    | dk h1 _ h ne => rw [key h.kvk] at hk; cases hk
    | dt h1 _ h ne => exact ⟨_, _, _, rfl, h1, h, ne⟩
  | dK h1 h2 => rw [key h2] at hk; cases hk
theorem Kvt.length : ∀ {xs : List (List Int × Addr × V)} {kvs : List (PyData × PyData)}, Kvt L H xs kvs → xs.length = kvs.length
  | _, _, .nil => rfl
  | _, _, .cons _ _ t => congrArg (· + 1) (Kvt.length t)
abbrev zipV (xs : List (List Int × Addr × V)) (us : List Value) : List (List Int × Addr × Value) := (xs.zip us).map fun p => (p.1.1, p.1.2.1, p.2)
theorem zipV_keys : ∀ {xs : List (List Int × Addr × V)} {us : List Value}, xs.length = us.length → (zipV xs us).map (·.1) = xs.map (·.1)
  | [], us, _ => by cases us <;> rfl
  | x :: xs, [], h => by cases h
  | x :: xs, u :: us, h => congrArg (x.1 :: ·) (zipV_keys (xs := xs) (us := us) (by simpa using h))
theorem items_intsV : ∀ {ks : List Int} {us : List Value}, Vals (ks.map V.int) us → ItemsAre (PySem.intKind X.prog X.w) ks us
  | [], _, r => by rw [List.map_nil] at r; cases r; exact .nil
  | k :: ks, _, r => by
    rw [List.map_cons] at r
    cases r with
    | cons h t =>
      refine .cons ?_ (items_intsV t)
      obtain ⟨t, rfl⟩ := (show ∃ t, _ = Value.int k t from h)
      show Value.isInt k (.int k t) = true
      simp [Value.isInt]
theorem tup_keyV {zs : List Int} {b : Addr} (ok : L2.HOk X.prog X.w H s.heap) (e : TupAt H b (zs.map V.int)) : (tupleKind (PySem.intKind X.prog X.w)).is s.heap zs b := by
  obtain ⟨o, h1, h2, h3⟩ := e
  obtain ⟨g1, g2⟩ := (show ObjOk X.prog X.w H s.heap b (.frz o (.tup (zs.map V.int))) from ok b _ h1)
  obtain ⟨_, its, r, o', k1, k2, n, k3⟩ := (show ObjOk X.prog X.w H s.heap b (.tup (zs.map V.int)) from g2)
  exact ⟨o', its.toArray, n, k1, k2, k3, by simpa using items_intsV r⟩
theorem Kvt.keysAt : ∀ {xs : List (List Int × Addr × V)} {kvs : List (PyData × PyData)}, Kvt L H xs kvs → ∀ x ∈ xs, TupAt H x.2.1 (x.1.map V.int)
  | _, _, .nil, x, hx => nomatch hx
  | _, _, .cons t _ r, x, hx => by
    rcases List.mem_cons.mp hx with rfl | hx
    · exact t
    · exact Kvt.keysAt r x hx
theorem dtv_of {a : Addr} {o : Obj} {xs : List (List Int × Addr × V)} {kvs : List (PyData × PyData)} (ok : L2.HOk X.prog X.w H s.heap) (h : H a = some (.ext (DTfv o xs a))) (hk : Kvt L H xs kvs) (hd : (xs.map (·.1)).Nodup) :
    ∃ us, Vals (xs.map fun x => x.2.2) us ∧ us.length = xs.length ∧ s.heap.DictOfH (tupleKind (PySem.intKind X.prog X.w)) a (zipV xs us) := by
  obtain ⟨⟨P, w, es, ep, us, hv, h1, h2, h3, h4⟩, _⟩ := (show ObjOk X.prog X.w H s.heap a (.ext (DTfv o xs a)) from ok a _ h)
  have hl : us.length = xs.length := by
    have := Paired.length hv
    rw [List.length_map] at this
    exact this.symm
  refine ⟨us, hv, hl, o, es, ep, h1, h2, h3, h4, fun x hx => ?_, by rw [zipV_keys hl.symm]; exact hd⟩
  obtain ⟨p, hp, rfl⟩ := List.mem_map.mp hx
  exact tup_keyV ok (hk.keysAt p.1 (List.of_mem_zip hp).1)
end
end Mi
end
section
namespace Mi
open PySem PySem.Spec PyProof.Rows L2
section
variable (K : PySem.W.Frag)
def rC1 (f : PyData → R PyData) : List V → Hp → VK → Prop := fun vs H Q => ∃ v, vs = [v] ∧ rD1 K f v H Q
def rC2 (f : PyData → PyData → R PyData) : List V → Hp → VK → Prop := fun vs H Q => ∃ v w, vs = [v, w] ∧ rD K f v w H Q
def rLn : List V → Hp → VK → Prop := fun vs H Q => ∃ v, vs = [v] ∧ ∃ (ρ : List Addr) (S : Store) (u z : PyData), Ok ρ S H ∧ Dr K (Live ρ S) H v u ∧ pLen u = .ok z ∧ ∀ w, Pd (Live ρ S) H w z → Q w H
end
section
variable {X : Cx} {e e2 : Expr} {fa fb : Ex} {x : Str} {p pos : Pos} {id T : String} {f : PyData → R PyData} {f2 : PyData → PyData → R PyData}
theorem x_b1 (hc : CallR X (.builtin id) (rC1 X.K f)) (hv : bootBuiltins x = some (.builtin id)) (hg : Gl X x) (hm : X.mg x = none) (ha : PE X e (TX X.K fa)) (hn : x ≠ "__name__" := by decide) (hdb : (x == ("__debug__" : Str)) = false := by decide)
    (he : starEach [e] X.env = (false, eval e X.env) :: starEach [] X.env := by rfl) (hpl : (backTo pos (starEach [] X.env)).any (·.1) = false := by rfl) : PE X (.Call (.Name x p) [e] [] pos) (TX X.K (mO1 f fa)) :=
  PE.up (pe_callB hc hg hm hv (a_cons ha a_nil he) hn hdb he hpl) fun σ H Q h => ta_one (by
    obtain ⟨ρ, env, S, eo, ok, q⟩ := (tO1 h : TX X.K fa σ H fun x H1 => rD1 X.K f x H1 Q)
    exact ⟨ρ, env, S, eo, ok, q.mono fun p ρ1 H1 e1 o1 q1 v dv => ⟨v, rfl, q1 v dv⟩⟩)
theorem x_t1 (hc : CallR X (.type T) (rC1 X.K f)) (hv : bootBuiltins x = some (.type T)) (hg : Gl X x) (hm : X.mg x = none) (ha : PE X e (TX X.K fa)) (hn : x ≠ "__name__" := by decide) (hdb : (x == ("__debug__" : Str)) = false := by decide)
    (he : starEach [e] X.env = (false, eval e X.env) :: starEach [] X.env := by rfl) (hpl : (backTo pos (starEach [] X.env)).any (·.1) = false := by rfl) : PE X (.Call (.Name x p) [e] [] pos) (TX X.K (mO1 f fa)) :=
  PE.up (pe_callTy hc hg hm hv (a_cons ha a_nil he) hn hdb he hpl) fun σ H Q h => ta_one (by
    obtain ⟨ρ, env, S, eo, ok, q⟩ := (tO1 h : TX X.K fa σ H fun x H1 => rD1 X.K f x H1 Q)
    exact ⟨ρ, env, S, eo, ok, q.mono fun p ρ1 H1 e1 o1 q1 v dv => ⟨v, rfl, q1 v dv⟩⟩)
theorem x_b2 (hc : CallR X (.builtin id) (rC2 X.K f2)) (hv : bootBuiltins x = some (.builtin id)) (hg : Gl X x) (hm : X.mg x = none) (ha : PE X e (TX X.K fa)) (hb : PE X e2 (TX X.K fb)) (hn : x ≠ "__name__" := by decide) (hdb : (x == ("__debug__" : Str)) = false := by decide)
    (he : starEach [e, e2] X.env = (false, eval e X.env) :: starEach [e2] X.env := by rfl) (he2 : starEach [e2] X.env = (false, eval e2 X.env) :: starEach [] X.env := by rfl) (hpl : (backTo pos (starEach [e2] X.env)).any (·.1) = false := by rfl) : PE X (.Call (.Name x p) [e, e2] [] pos) (TX X.K (mO2 f2 fa fb)) :=
  PE.up (pe_callB hc hg hm hv (a_cons ha (a_cons hb a_nil he2) he) hn hdb he hpl) fun σ H Q ⟨ρ, env, S, eo, ok, q⟩ => by
    refine ⟨ρ, env, S, eo, ok, Aft.two q fun x y S2 ρ2 H2 v w e2 o2 q2 dx dy => ?_⟩
    obtain ⟨u, hu, q3⟩ := Aft.bx q2
    obtain ⟨t, ht, q4⟩ := Aft.bx q3
    obtain ⟨z, hz, q5⟩ := Aft.bx q4
    exact ⟨v, w, rfl, ρ2, S2, u, t, z, o2, o2.dv dx hu, o2.dv dy ht, hz, fun H' w' e' o' r' => (Aft.at q5 e' o') w' r'⟩
theorem c_abs : CallR X (.builtin "abs") (rC1 X.K pAbs) := by
  intro pins s σ H xs us Q I r ⟨v, ev, ρ, S, u, z, ok, du, hz, q⟩
  subst ev
  cases u with
  | int i =>
    cases hz
    obtain rfl := du.int
    exact call_abs pins s σ H _ us Q I r ⟨i, rfl, q H _ Xt.refl ok (.int _)⟩
  | _ => cases hz
theorem c_max2 (G : Gd X) : CallR X (.builtin "max") (rC2 X.K pMax2) := by
  intro pins s σ H xs us Q I r ⟨v, w, ev, ρ, S, u, t, z, ok, du, dt, hz, q⟩
  subst ev
  cases u with
  | int i =>
    cases t with
    | int j =>
      cases hz
      obtain rfl := du.int
      obtain rfl := dt.int
      exact call_max2 G.calm pins s σ H _ us Q I r ⟨i, j, rfl, q H _ Xt.refl ok (.int _)⟩
    | _ => cases hz
  | _ => cases hz
theorem c_min2 (G : Gd X) : CallR X (.builtin "min") (rC2 X.K pMin2) := by
  intro pins s σ H xs us Q I r ⟨v, w, ev, ρ, S, u, t, z, ok, du, dt, hz, q⟩
  subst ev
  cases u with
  | int i =>
    cases t with
    | int j =>
      cases hz
      obtain rfl := du.int
      obtain rfl := dt.int
      exact call_min2 G.calm pins s σ H _ us Q I r ⟨i, j, rfl, q H _ Xt.refl ok (.int _)⟩
    | _ => cases hz
  | _ => cases hz
theorem c_str : CallR X (.type "str") (rC1 X.K pStr) := by
  intro pins s σ H xs us Q I r ⟨v, ev, ρ, S, u, z, ok, du, hz, q⟩
  subst ev
  cases u with
  | int i =>
    obtain ⟨hc, hz⟩ := when_ok hz
    have hc := of_decide_eq_true hc
    cases hz
    obtain rfl := du.int
    exact call_str_int pins s σ H _ us Q I r ⟨i, rfl, hc, q H _ Xt.refl ok (.str _)⟩
  | _ => cases hz
theorem c_all (G : Gd X) : CallR X (.builtin "all") (rC1 X.K pAll) := by
  intro pins s σ H xs us Q I r ⟨v, ev, ρ, S, u, z, ok, du, hz, q⟩
  subst ev
  cases u with
  | list ds =>
    have hz := orNo_inv hz
    obtain ⟨bs, hb, rfl⟩ := Option.map_eq_some_iff.mp hz
    obtain ⟨a, vs, rfl, h1, h2⟩ := du.list
    have e := h2.bools hb
    subst e
    exact cr_all G.calm pins s σ H _ us Q I r ⟨a, bs, rfl, .of h1, q H _ Xt.refl ok (.bl _)⟩
  | _ => cases hz
theorem c_tuple : CallR X (.type "tuple") (rC1 X.K pTuple) := by
  intro pins s σ H xs us Q I r ⟨v, ev, ρ, S, u, z, ok, du, hz, q⟩
  subst ev
  cases u with
  | list ds =>
    cases hz
    obtain ⟨a, vs, rfl, h1, h2⟩ := du.list
    obtain ⟨its, rv, pl, hz⟩ := I.list (.of h1)
    rw [Vals.ref1 r]
    refine PySem.call_tuple_list pl.isList (fun h' kp => ?_) (by rw [List.size_toArray, ← rv.length]; exact hz)
    exact tup_data (s := { s with heap := h' }) (tk := s.toks) (I.kept (t' := s.toks) kp) ok rv (by rw [← h2.length]; exact hz) h2 q
  | tuple ds =>
    cases hz
    obtain ⟨a, vs, rfl, h1, h2⟩ := du.tup
    obtain ⟨its, rv, pl, hz⟩ := I.tuple (h1.sq (K := X.K))
    rw [Vals.ref1 r]
    exact PySem.call_tuple_same pl ⟨.ref a, H, I, rfl, q H _ Xt.refl ok (.tup h1 h2)⟩
  | _ => cases hz
theorem c_repr (G : Gd X) : CallR X (.builtin "repr") (rC1 X.K pRepr) := by
  intro pins s σ H xs us Q I r ⟨v, ev, ρ, S, u, z, ok, du, hz, q⟩
  subst ev
  obtain ⟨hc, hz⟩ := when_ok hz
  cases hz
  simp only [Bool.and_eq_true, decide_eq_true_eq] at hc
  obtain ⟨⟨⟨⟨c2, c6⟩, c3⟩, c4⟩, c5⟩ := hc
  have seq : (items? u).isSome = true → wpAny (model X.prog X.w) X.A (call (.builtin "repr") us) (EP X pins σ Q) X.xe s := fun c1 => by
    obtain ⟨ds, hd⟩ := Option.isSome_iff_exists.mp c1
    obtain ⟨a, vs, rfl, _, _⟩ := id (du.seq hd)
    rw [Vals.ref1 r]
    obtain ⟨as, rr⟩ := Dp.reads I u (.ref a) (.ref a) (du.dp c3) rfl
    refine PySem.repr_of_reads' rr c2 (fun hh => ?_) G.gs (by have := G.hu; omega) (fun _ _ e => e) (fun h' t tk hk => ⟨.str u.shown, H, I.kept hk, ⟨t, rfl⟩, q H _ Xt.refl ok (.str _)⟩) c5
    rw [hh] at c6
    cases c6
  cases u with
  | list xs => exact seq rfl
  | tuple xs => exact seq rfl
  | int i =>
    obtain rfl := du.int
    obtain ⟨u1, rfl, ru⟩ := vals1 r
    obtain ⟨t, rfl⟩ := ru
    rw [PyData.showable] at c2
    exact PySem.P.repr_of_int (of_decide_eq_true c2) ⟨.str _, H, I.tok _, ⟨_, rfl⟩, q H _ Xt.refl ok (.str _)⟩
  | bool b =>
    obtain rfl := du.bool
    obtain ⟨u1, rfl, ru⟩ := vals1 r
    cases ru
    refine PySem.P.repr_of_bool ⟨.str (PyData.bool b).shown, H, I.tok _, ⟨s.toks, ?_⟩, q H _ Xt.refl ok (.str _)⟩
    cases b <;> rfl
  | str x =>
    obtain rfl := du.str
    obtain ⟨u1, rfl, ru⟩ := vals1 r
    obtain ⟨t, rfl⟩ := ru
    exact PySem.P.repr_of_str ⟨.str _, H, I.tok _, ⟨_, rfl⟩, q H _ Xt.refl ok (.str _)⟩ c5
  | none =>
    obtain rfl := du.none
    obtain ⟨u1, rfl, ru⟩ := vals1 r
    cases ru
    exact PySem.P.repr_of_none ⟨.str (PyData.none).shown, H, I.tok _, ⟨_, rfl⟩, q H _ Xt.refl ok (.str _)⟩
  | dict kvs => simp [PyData.plain] at c3
end
end Mi
end
section
namespace Mi
open PySem PySem.Spec PyProof.Rows L2
section
variable {X : Cx} {o e e2 : Expr} {fo fa fb : Ex} {x : Str} {p pos apos cpos p2 : Pos}
theorem c_len : CallR X (.builtin "len") (rLn X.K) := by
  intro pins s σ H xs us Q I r ⟨v, ev, ρ, S, u, z, ok, du, hz, q⟩
  subst ev
  by_cases hd : ∃ kvs, u = .dict kvs
  · obtain ⟨kvs, rfl⟩ := hd
    cases hz
    cases du with
    | dv du =>
      by_cases hkk : keyNT kvs = true
      case neg =>
        obtain ⟨a, o0, xs, rfl, h1, h2, h3, h4, h5, h6⟩ := du.dictT (by simpa using hkk)
        obtain ⟨us3, _, hl3, hD⟩ := dtv_of I.hok h1 h2 h4
        rw [Vals.ref1 r]
        have hl4 : (zipV xs us3).length = kvs.length := by
          rw [List.length_map, List.length_zip, hl3, ← h2.length]
          omega
        refine call_len_dictH h5 hD (by rw [hl4, ← h2.length]; rw [sizeLine_eq] at h6; omega) ?_
        rw [hl4]
        exact ⟨.int kvs.length, H, I.tok _, ⟨_, rfl⟩, q _ (.int _)⟩
      obtain ⟨a, us2, rfl, h1, h2⟩ := du.dictK hkk
      rw [Vals.ref1 r]
      refine d_len I h1 fun tk s' I' => ⟨.int us2.length, H, I', ⟨_, rfl⟩, ?_⟩
      have : ∀ {us : List (Key × V)} {kvs : List (PyData × PyData)}, KvK (Live ρ S) H us kvs → us.length = kvs.length := by
        intro us kvs h
        induction h with
        | nil => rfl
        | cons _ _ ih => exact congrArg (· + 1) ih
      rw [this h2]
      exact q _ (.int _)
  refine call_len pins s σ H _ us Q I r ?_
  cases du with
  | scr h =>
    rename_i a ns
    cases hz
    refine ⟨.ref a, ns.length, rfl, .inl ⟨_, h, by simp⟩, q _ ?_⟩
    rw [List.length_map]
    exact .int _
  | dv du =>
    cases u with
    | list ds =>
      cases hz
      obtain ⟨a, vs, rfl, h1, h2⟩ := du.list
      exact ⟨.ref a, ds.length, rfl, .inl ⟨vs, .of h1, h2.length.symm⟩, q _ (.int _)⟩
    | tuple ds =>
      cases hz
      obtain ⟨a, vs, rfl, h1, h2⟩ := du.tup
      exact ⟨.ref a, ds.length, rfl, .inr ⟨vs, h1.sq, h2.length.symm⟩, q _ (.int _)⟩
    | str y =>
      obtain ⟨hc, hz⟩ := when_ok hz
      have hc : y.length ≤ sizeLine := of_decide_eq_true hc
      cases hz
      obtain rfl := du.str
      exact ⟨.str y, y.length, rfl, ⟨hc, rfl⟩, q _ (.int _)⟩
    | dict kvs => exact absurd ⟨kvs, rfl⟩ hd
    | _ => cases hz
theorem x_len (hg : Gl X "len") (hm : X.mg "len" = none) (ha : PE X e (TX X.K fa)) (he : starEach [e] X.env = (false, eval e X.env) :: starEach [] X.env := by rfl) (hpl : (backTo pos (starEach [] X.env)).any (·.1) = false := by rfl) :
    PE X (.Call (.Name "len" p) [e] [] pos) (TX X.K (mLen fa)) := PE.up (pe_callB c_len hg hm (by decide +kernel) (a_cons ha a_nil he) (by decide) (by decide) he hpl) fun σ H Q ⟨ρ, env, S, eo, ok, q⟩ => by
  refine ta_one ⟨ρ, env, S, eo, ok, (Aft.bd q).mono fun p ρ1 H1 e1 o1 q1 v dv => ⟨v, rfl, ?_⟩⟩
  obtain ⟨u, hu, q3⟩ := Aft.bx q1
  obtain ⟨z, hz, q5⟩ := Aft.bx q3
  exact ⟨ρ1, p.2, u, z, o1, o1.dr dv hu, hz, fun w r' => (Aft.here q5 rfl o1) w r'⟩
end
end Mi
end
section
namespace Mi
open PySem PySem.Spec PyProof.Rows L2
section
variable {X : Cx} {o e e2 : Expr} {fo fa fb : Ex} {x : Str} {p pos apos cpos p2 : Pos}
theorem lst_data {Q : VK} {H : Hp} {ρ : List Addr} {S : Store} {p : Addr} {ys : List V} {ds : List PyData} (ok : Ok ρ S H) (hp : H p = none) (r : Pds (Live ρ S) H ys ds)
    (q : ∀ H' w, Xt ρ S H ρ S H' → Ok ρ S H' → Pd (Live ρ S) H' w (.list ds) → Q w H') : Q (.ref p) (upd H p (.lst ys)) :=
  q _ _ (Xt.new hp) (ok.new hp) (.lst upd_same (Live.ne ok hp) (Pds.mono (Gr.new hp) _ _ r))
theorem sIx_eq (n d : Nat) (v : Option Int) : HT.sIx n d v = Mi.sIx n d v := by
  cases v with
  | none => rfl
  | some v =>
    show (if v < 0 then (v + (n : Int)).toNat else min v.toNat n) = (if v < 0 then max (v + (n : Int)) 0 else min v (n : Int)).toNat
    split <;> omega
theorem cut_eq (xs : List V) (lo hi : Option Int) : cutV xs lo hi = Mi.cut xs lo hi := by
  unfold cutV Mi.cut
  rw [sIx_eq, sIx_eq]
theorem Pds.cut {L : Addr → Prop} {H : Hp} {vs : List V} {ds : List PyData} (r : Pds L H vs ds) (lo hi : Option Int) : Pds L H (Mi.cut vs lo hi) (Mi.cut ds lo hi) := by
  unfold Mi.cut
  rw [r.length]
  exact (r.drop _).take _
def rSl (K : PySem.W.Frag) : V → Option Int → Option Int → Hp → VK → Prop := fun x lo hi H Q => ∃ (ρ : List Addr) (S : Store) (u z : PyData), Ok ρ S H ∧ Dv (Live ρ S) H x u ∧ pCut u lo hi = .ok z ∧ ∀ H' w, Xt ρ S H ρ S H' → Ok ρ S H' → Pd (Live ρ S) H' w z → Q w H'
theorem sl_any : SlR X (rSl X.K) := by
  intro pins s σ H x v vl vu lo hi sl Q I rx hs pl pu ⟨ρ, S, u, z, ok, du, hz, q⟩
  cases u with
  | list ds =>
    cases hz
    obtain ⟨a, vs, rfl, h1, h2⟩ := du.list
    refine sl_list pins s σ H _ v vl vu lo hi sl Q I rx hs pl pu ⟨a, vs, rfl, .of h1, fun p hp => ?_⟩
    rw [cut_eq]
    exact lst_data ok hp (h2.cut lo hi) q
  | tuple ds =>
    cases hz
    obtain ⟨a, vs, rfl, h1, h2⟩ := du.tup
    cases rx
    obtain ⟨its, rv, pt, hz⟩ := I.tuple (h1.sq (K := X.K))
    have hlen := rv.length
    refine ⟨"tuple", _, PyProof.Rows.slot_tuple_getitem.lookup, Heap.IsTuple.typeIs pt, ?_⟩
    by_cases hw : HT.sIx its.toArray.size 0 lo = 0 ∧ HT.sIx its.toArray.size its.toArray.size hi = its.toArray.size
    · refine L2.getItem_tuple_whole pt hs pl pu hw ⟨.ref a, H, I, rfl, q H _ Xt.refl ok ?_⟩
      have e : Mi.cut ds lo hi = ds := by
        unfold Mi.cut
        have hl : ds.length = its.toArray.size := by rw [← h2.length, hlen]; simp
        rw [hl, ← sIx_eq, ← sIx_eq, hw.1, hw.2]
        simp [← hl]
      rw [e]
      exact .tup h1 h2
    · refine HT.getItem_tuple_cut pt hs pl pu hw ?_ (by rw [List.size_toArray, ← hlen]; exact hz)
      have rc : Vals (Mi.cut vs lo hi) ((its.toArray.toList.drop (HT.sIx its.toArray.size 0 lo)).take (HT.sIx its.toArray.size its.toArray.size hi - HT.sIx its.toArray.size 0 lo)) := by
        rw [← cut_eq]
        unfold cutV
        rw [List.size_toArray, ← hlen]
        exact (rv.drop _).take _
      refine tup_data (tk := s.toks) I ok rc ?_ (h2.cut lo hi) q
      have h3 : (Mi.cut ds lo hi).length ≤ ds.length := by
        unfold Mi.cut
        rw [List.length_take, List.length_drop]
        omega
      rw [← h2.length] at h3
      exact Nat.le_trans h3 hz
  | _ => cases hz
def TPo (K : PySem.W.Frag) (f : Po) : TO := fun σ H Q => ∃ ρ env S, EnvOk K ρ S H env σ ∧ Ok ρ S H ∧ Aft ρ S H (f env S) (fun p => p.2) fun p _ H' => Q p.1 H'
theorem PO.up {lo : Option Expr} {t t' : TO} (h : PO X lo t) (g : ∀ σ H Q, t' σ H Q → t σ H Q) : PO X lo t' := ⟨fun pins s σ H Q I q => h.run pins s σ H Q I (g σ H Q q)⟩
theorem o_no : PO X none (TPo X.K oNo) := PO.up po_none fun σ H Q ⟨ρ, env, S, eo, ok, q⟩ => Aft.here q rfl ok
theorem o_e (h : PE X e (TX X.K fa)) : PO X (some e) (TPo X.K (oE fa)) := PO.up (po_some h) fun σ H Q ⟨ρ, env, S, eo, ok, q⟩ => by
  refine ⟨ρ, env, S, eo, ok, (Aft.bd q).mono fun p ρ1 H1 e1 o1 q1 v dv => ?_⟩
  obtain ⟨d, S1⟩ := p
  cases d with
  | p d =>
    cases d with
    | int i =>
      cases dv
      exact ⟨i, rfl, Aft.here q1 rfl o1⟩
    | _ => exact q1.elim
  | _ => exact q1.elim
theorem x_cut {lo hi : Option Expr} {fl fh : Po} (he : PE X e (TX X.K fa)) (hl : PO X lo (TPo X.K fl)) (hh : PO X hi (TPo X.K fh)) : PE X (.Subscript e (.Slice lo hi none p2) pos) (TX X.K (mCut fa fl fh)) := PE.up (pe_slice sl_any he hl hh) fun σ H Q ⟨ρ, env, S, eo, ok, q⟩ => by
  refine ⟨ρ, env, S, eo, ok, (Aft.bd q).mono fun p1 ρ1 H1 e1 o1 q1 v dv => ?_⟩
  refine ⟨ρ1, env, p1.2, eo.mono e1, o1, (Aft.bd q1).mono fun p2 ρ2 H2 e2 o2 q2 => ?_⟩
  refine ⟨ρ2, env, p2.2, (eo.mono e1).mono e2, o2, (Aft.bd q2).mono fun p3 ρ3 H3 e3 o3 q3 => ?_⟩
  obtain ⟨u, hu, q4⟩ := Aft.bx q3
  obtain ⟨z, hz, q5⟩ := Aft.bx q4
  exact ⟨ρ3, p3.2, u, z, o3, o3.dv ((dv.mono e2).mono e3) hu, hz, fun H' w' e' o' r' => (Aft.at q5 e' o') w' r'⟩
def SeqAt (b : Bool) (H : Hp) (a : Addr) (vs : List V) : Prop := match b with
  | true => TupAt H a vs
  | false => H a = some (.lst vs)
theorem dv_seqAt {L : Addr → Prop} {H : Hp} {v : V} {u : PyData} {ds : List PyData} (d : Dv L H v u) (h : items? u = some ds) : ∃ a vs, v = .ref a ∧ SeqAt (isTup u) H a vs ∧ Pds L H vs ds := by
  cases u with
  | list xs =>
    cases h
    obtain ⟨a, vs, h1, h2, h3⟩ := d.list
    exact ⟨a, vs, h1, h2, h3⟩
  | tuple xs =>
    cases h
    obtain ⟨a, vs, h1, h2, h3⟩ := d.tup
    exact ⟨a, vs, h1, h2, h3⟩
  | _ => cases h
theorem Pds.strs {L : Addr → Prop} {H : Hp} : ∀ {ds : List PyData} {ns : List Str} {vs : List V}, Pds L H vs ds → strs? ds = some ns → vs = ns.map V.str
  | [], ns, _, .nil, h => by
    simp [strs?] at h
    subst h
    rfl
  | .str i :: ds, ns, _, .cons (.str _) t, h => by
    simp only [strs?, Option.map_eq_some_iff] at h
    obtain ⟨ms, h1, h2⟩ := h
    subst h2
    rw [Pds.strs t h1]
    rfl
  | .none :: ds, ns, _, _, h => by simp [strs?] at h
  | .bool _ :: ds, ns, _, _, h => by simp [strs?] at h
  | .int _ :: ds, ns, _, _, h => by simp [strs?] at h
  | .list _ :: ds, ns, _, _, h => by simp [strs?] at h
  | .tuple _ :: ds, ns, _, _, h => by simp [strs?] at h
  | .dict _ :: ds, ns, _, _, h => by simp [strs?] at h
theorem vals_strs : ∀ {ns : List Str} {us : List Value}, Vals (ns.map V.str) us → StrsAre us ns
  | [], _, r => by
    have r : Vals [] _ := r
    cases r
    exact .nil
  | n :: ns, _, r => by
    have r : Vals (V.str n :: ns.map V.str) _ := r
    cases r with
    | cons a t =>
      obtain ⟨tk, rfl⟩ := a
      exact .cons n tk (vals_strs t)
def IxEnd (b : Bool) (a : Addr) (Q : VK) (ys : List V) (H : Hp) : Prop := (∃ (ns : List Int) (k : Int), ys = [.int k] ∧ SeqAt b H a (ns.map V.int) ∧ k ∈ ns ∧ Q (.int (ns.idxOf k : Nat)) H) ∨ (∃ (ns : List Str) (k : Str), ys = [.str k] ∧ SeqAt b H a (ns.map V.str) ∧ k ∈ ns ∧ Q (.int (ns.idxOf k : Nat)) H)
theorem x_index (ho : PE X o (TX X.K fo)) (ha : PE X e (TX X.K fa)) (hbase : attributeBase o "index" X.env (eval o X.env) = eval o X.env := by rfl)
    (hfew : ((backTo cpos (starEach [e] X.env)).all (fun x => !x.1) && (backToKw cpos (keywordEach [] X.env)).all (fun x => x.1.isSome)
      && decide ([e].length + ([] : List Keyword).length + (if ([] : List Keyword).isEmpty then 0 else 1) < 30)) = true := by rfl)
    (hline : (apos.endLine == cpos.line) = true := by rfl) (hs : starEach [e] X.env = (false, eval e X.env) :: starEach [] X.env := by rfl) (hplain : (backTo cpos (starEach [] X.env)).any (·.1) = false := by rfl) :
    PE X (.Call (.Attribute o "index" apos) [e] [] cpos) (TX X.K (mIndex fo fa)) := by
  refine ⟨fun pins s σ H Q I ⟨ρ, env, S, eo, ok, q⟩ => ?_⟩
  have h : TX X.K fo σ H (fun v H1 => ∃ b a vs, v = .ref a ∧ SeqAt b H1 a vs ∧ TAs X.K (aCons fa aNil) σ H1 (IxEnd b a Q)) := by
    refine ⟨ρ, env, S, eo, ok, (Aft.bd q).mono fun p1 ρ1 H1 e1 o1 q1 v dv => ?_⟩
    obtain ⟨u0, hu0, q2⟩ := Aft.bx q1
    obtain ⟨hi, q3⟩ := Aft.when q2
    obtain ⟨ds0, hd0⟩ := Option.isSome_iff_exists.mp hi
    obtain ⟨a, vs, rfl, h1, h2⟩ := dv_seqAt (o1.dv dv hu0) hd0
    refine ⟨isTup u0, a, vs, rfl, h1, ta_one ⟨ρ1, env, p1.2, eo.mono e1, o1, (Aft.bd q3).mono fun p2 ρ2 H2 e2 o2 q4 w dw => ?_⟩⟩
    obtain ⟨u, hu, q5⟩ := Aft.bx q4
    obtain ⟨t, ht, q6⟩ := Aft.bx q5
    obtain ⟨hk, q7⟩ := Aft.when q6
    have hk : isTup u0 = isTup u := of_decide_eq_true hk
    obtain ⟨z, hz, q8⟩ := Aft.bx q7
    rw [hk]
    cases t with
    | int k =>
      obtain ⟨ns, hn, hz⟩ := bx_inv hz
      obtain ⟨ds, hd, hn⟩ := Option.bind_eq_some_iff.mp (orNo_inv hn)
      obtain ⟨hm, hz⟩ := when_ok hz
      cases hz
      obtain ⟨a', vs', e', h3, h4⟩ := dv_seqAt (o2.dv (dv.mono e2) hu) hd
      cases e'
      have e := h4.ints hn
      subst e
      exact .inl ⟨ns, k, by rw [(o2.dv dw ht).int], h3, of_decide_eq_true hm, (Aft.here q8 rfl o2) _ (.int _)⟩
    | str k =>
      obtain ⟨ns, hn, hz⟩ := bx_inv hz
      obtain ⟨ds, hd, hn⟩ := Option.bind_eq_some_iff.mp (orNo_inv hn)
      obtain ⟨hm, hz⟩ := when_ok hz
      cases hz
      obtain ⟨a', vs', e', h3, h4⟩ := dv_seqAt (o2.dv (dv.mono e2) hu) hd
      cases e'
      have e := h4.strs hn
      subst e
      exact .inr ⟨ns, k, by rw [(o2.dv dw ht).str], h3, of_decide_eq_true hm, (Aft.here q8 rfl o2) _ (.int _)⟩
    | _ => cases hz
  have arg := a_cons ha a_nil hs
  refine wpAny_Call_method_late hbase hfew hline rfl (thn (ho.run pins s σ H _ I h) fun v s1 ⟨x, H1, I1, r1, b, a, vs, ex, hsq, hA⟩ => ?_)
  subst ex
  cases r1
  have hA := arg.run cpos pins s1 σ H1 _ I1 hA
  cases b with
  | false =>
    obtain ⟨its, _, pl, _⟩ := I1.list (.of hsq)
    refine ⟨"list", _, PySem.F.plainAttrs_list, PySem.F.slot_list_index, PySem.F.type_list_index, pl.isList.typeIs, fun a' e => ?_, ?_⟩
    · cases e
      obtain ⟨ob, n, h1, h2, h3, _⟩ := pl
      exact ⟨ob, h1, h3⟩
    · rw [hs] at hA ⊢
      refine Calls.callWith_builtin (by show (false || (backTo cpos (starEach [] X.env)).any (·.1)) = false; rw [hplain] <;> rfl) (Calls.evalArgs_plain ?_)
      refine thn hA fun us s2 ⟨ys, H2, I2, r2, q2⟩ => ?_
      rcases q2 with ⟨ns, k, rfl, h3, hk, q⟩ | ⟨ns, k, rfl, h3, hk, q⟩
      · obtain ⟨its2, rv, pl2, hz⟩ := I2.list (.of h3)
        cases r2 with
        | cons r rr =>
          cases rr
          obtain ⟨t, rfl⟩ := r
          exact PySem.SeqAt.list_index_ints pl2.isList (Vals.ints rv) (by simpa using hz) hk ⟨.int _, H2, I2.tok _, ⟨_, rfl⟩, q⟩
      · obtain ⟨its2, rv, pl2, hz⟩ := I2.list (.of h3)
        cases r2 with
        | cons r rr =>
          cases rr
          obtain ⟨t, rfl⟩ := r
          exact PySem.SeqAt.list_index_strs pl2.isList (vals_strs rv) (by simpa using hz) hk ⟨.int _, H2, I2.tok _, ⟨_, rfl⟩, q⟩
  | true =>
    obtain ⟨ob, ho, hdct, hcls⟩ := id hsq
    obtain ⟨its, _, pl, _⟩ := I1.tuple (TupAt.sq (K := X.K) hsq)
    refine ⟨"tuple", _, PySem.F.plainAttrs_tuple, PySem.F.slot_tuple_index, PySem.F.type_tuple_index, Heap.IsTuple.typeIs pl, fun a' e => ?_, ?_⟩
    · cases e
      exact ⟨ob, (I1.hok a _ ho).1, hdct⟩
    · rw [hs] at hA ⊢
      refine Calls.callWith_builtin (by show (false || (backTo cpos (starEach [] X.env)).any (·.1)) = false; rw [hplain] <;> rfl) (Calls.evalArgs_plain ?_)
      refine thn hA fun us s2 ⟨ys, H2, I2, r2, q2⟩ => ?_
      rcases q2 with ⟨ns, k, rfl, h3, hk, q⟩ | ⟨ns, k, rfl, h3, hk, q⟩
      · obtain ⟨its2, rv, pl2, hz⟩ := I2.tuple (TupAt.sq (K := X.K) h3)
        cases r2 with
        | cons r rr =>
          cases rr
          obtain ⟨t, rfl⟩ := r
          exact PySem.SeqAt.tuple_index_ints pl2 (Vals.ints rv) hk ⟨.int _, H2, I2.tok _, ⟨_, rfl⟩, q⟩
      · obtain ⟨its2, rv, pl2, hz⟩ := I2.tuple (TupAt.sq (K := X.K) h3)
        cases r2 with
        | cons r rr =>
          cases rr
          obtain ⟨t, rfl⟩ := r
          exact PySem.SeqAt.tuple_index_strs pl2 (vals_strs rv) hk ⟨.int _, H2, I2.tok _, ⟨_, rfl⟩, q⟩
end
end Mi
end
section
namespace Mi
open PySem PySem.Spec PyProof.Rows L2
abbrev MARGIN : Nat := 125
structure Rm (k : Nat) (A : Around) : Prop where
  room : Room (k + MARGIN) A
  gs : A.guards = some []
theorem Rm.mono {j k : Nat} {A : Around} (r : Rm k A) (h : j ≤ k) : Rm j A := ⟨r.room.mono (by omega), r.gs⟩
theorem Rm.deeper {k : Nat} {A : Around} (r : Rm (k + 1) A) (env : PySem.Env) : Rm k (A.deeper env) := ⟨Room.deeper (k := k + MARGIN) (by have := r.room; rwa [show k + 1 + MARGIN = k + MARGIN + 1 by omega] at this) env, r.gs⟩
structure FnG (P : Program) (w : World) (K : PySem.W.Frag) (mg : Str → Option Value) (base : Heap) (k : Nat) (f : Addr) (fd : FuncData) (np : Nat) (ps : List Str) (fn : Fn) : Prop where
  np : np = ps.length
  run : ∀ (A : Around) (outer : List PySem.Env) (s : Shared) (H : Hp) (args : Args) (us : List Value) (vs : List V) (Q : VK) (ρ : List Addr) (S : Store) (ds : List D), Rm k A → Env0 P w K mg base A outer s H → BindsTo s fd args (ps.zip us) → Vals vs us → DsOk K ρ S H vs ds → Ok ρ S H → ds.length = ps.length →
    Aft ρ S H (fn ds S) (fun p => p.2) (fun p ρ' H' => ∀ v, DOk K ρ' p.2 H' v p.1 → Q v H') → codeAny (model P w) A (.call (.ref f) args) (CR CX0 outer P w H s Q E0) s
theorem FnG.mono {P : Program} {w : World} {K : PySem.W.Frag} {mg : Str → Option Value} {base : Heap} {j k : Nat} {f : Addr} {fd : FuncData} {np : Nat} {ps : List Str} {fn : Fn} (F : FnG P w K mg base j f fd np ps fn) (h : j ≤ k) : FnG P w K mg base k f fd np ps fn :=
  ⟨F.np, fun A outer s H args us vs Q ρ S ds hr => F.run A outer s H args us vs Q ρ S ds (hr.mono h)⟩
theorem DsOk.length {K : PySem.W.Frag} {ρ : List Addr} {S : Store} {H : Hp} : ∀ {vs : List V} {ds : List D}, DsOk K ρ S H vs ds → vs.length = ds.length
  | _, _, .nil => rfl
  | _, _, .cons _ t => congrArg (· + 1) (DsOk.length t)
theorem DsOk.at {K : PySem.W.Frag} {ρ : List Addr} {S : Store} {H : Hp} : ∀ {vs : List V} {ds : List D}, DsOk K ρ S H vs ds → ∀ {i : Nat} {d : D}, ds[i]? = some d → ∃ v, vs[i]? = some v ∧ DOk K ρ S H v d
  | _, _, .nil, i, d, h => by simp at h
  | _, _, .cons a t, 0, d, h => by
    simp at h
    subst h
    exact ⟨_, rfl, a⟩
  | _, _, .cons a t, i + 1, d, h => by
    obtain ⟨v, h1, h2⟩ := DsOk.at t (i := i) (by simpa using h)
    exact ⟨v, by simpa using h1, h2⟩
theorem EnvOk.start {K : PySem.W.Frag} {ρ : List Addr} {S : Store} {H : Hp} {vs : List V} {ds : List D} (N : List Str) (h : DsOk K ρ S H vs ds) (slots : Nat) (hs : slots = N.length) : EnvOk K ρ S H (Mi.start slots ds) (L2.start N vs) := by
  subst hs
  unfold Mi.start L2.start
  refine ⟨by simp [h.length], fun i d q => ?_⟩
  by_cases hi : i < ds.length
  · rw [List.getElem?_append_left (by simpa using hi), List.getElem?_map] at q
    cases e : ds[i]? with
    | none => rw [e] at q; cases q
    | some a =>
      rw [e] at q
      cases q
      obtain ⟨v, h1, h2⟩ := h.at e
      exact ⟨v, by rw [List.getElem?_append_left (by rw [List.length_map, h.length]; exact hi), List.getElem?_map, h1]; rfl, h2⟩
  · rw [List.getElem?_append_right (by simpa using hi), List.getElem?_replicate] at q
    split at q <;> cases q
section
variable {X : Cx} {pos p : Pos} {e : Expr} {es : List Expr} {fs : As} {x : Str} {f : Addr} {fd : FuncData} {np k : Nat} {ps : List Str} {fn : Fn} {kws : List Keyword}
theorem run_fnG {pins : List (Addr × Obj)} {s : Shared} {σ : L2.St} {H : Hp} {us us0 : List Value} {kw : List (Str × Value)} {vs : List V} {Q : VK} {ρ : List Addr} {S : Store} {ds : List D} (F : FnG X.prog X.w X.K X.mg X.base k f fd np ps fn) (hr : Rm k X.A) (hb : BindsTo s fd ⟨us0, kw⟩ (ps.zip us))
    (I : L2.Inv X pins σ H s) (r : Vals vs us) (dd : DsOk X.K ρ S H vs ds) (ok : Ok ρ S H) (hl : ds.length = ps.length) (q : Aft ρ S H (fn ds S) (fun p => p.2) (fun p ρ' H' => ∀ v, DOk X.K ρ' p.2 H' v p.1 → Q v H')) : wpAny (model X.prog X.w) X.A (call (.ref f) us0 kw) (EP X pins σ Q) X.xe s := by
  refine wpAny_call (codeAny_mono (F.run X.A X.stack s H ⟨us0, kw⟩ us vs Q ρ S ds hr I.env0 hb r dd ok hl q) fun rr s' hq => ?_)
  cases rr with
  | error e => exact False.elim hq
  | ok fl =>
    cases fl with
    | ret u => exact I.after hq
    | next => exact hq.elim
    | brk => exact hq.elim
    | cont => exact hq.elim
def rFn (K : PySem.W.Frag) (fn : Fn) (vs : List V) (H : Hp) (Q : VK) : Prop := ∃ (ρ : List Addr) (S : Store) (ds : List D), DsOk K ρ S H vs ds ∧ Ok ρ S H ∧ Aft ρ S H (fn ds S) (fun p => p.2) (fun p ρ' H' => ∀ v, DOk K ρ' p.2 H' v p.1 → Q v H')
theorem tCallFn {K : PySem.W.Frag} {σ : L2.St} {H : Hp} {Q : VK} (h : TX K (mCall fn fs) σ H Q) : TAs K fs σ H fun vs H1 => rFn K fn vs H1 Q := by
  obtain ⟨ρ, env, S, eo, ok, q⟩ := h
  exact ⟨ρ, env, S, eo, ok, (Aft.bd q).mono fun p ρ1 H1 e1 o1 q1 vs ds => ⟨ρ1, p.2, p.1, ds, o1, q1⟩⟩
def Ar (n : Nat) (fn : Fn) : Prop := ∀ ds S, ds.length ≠ n → fn ds S = .no
theorem Ar.of {K : PySem.W.Frag} {n : Nat} (h : Ar n fn) {vs : List V} {H : Hp} {Q : VK} {ρ : List Addr} {S : Store} {ds : List D} {k : D × Store → List Addr → Hp → Prop} (q : Aft ρ S H (fn ds S) (fun p => p.2) k) : ds.length = n := by
  by_cases e : ds.length = n
  · exact e
  · rw [h ds S e] at q
    exact q.elim
theorem x_call (F : FnG X.prog X.w X.K X.mg X.base k f fd np ps fn) (har : Ar np fn) (hr : Rm k X.A) (hg : Gl X x) (hm : X.mg x = some (.ref f)) (hk : PySem.W.keepIn X.K (.ref f) = true) (hb : Binds X.K fd ps []) (ha : PA X (e :: es) (TAs X.K fs)) (hdb : (x == ("__debug__" : Str)) = false := by decide)
    (he : starEach (e :: es) X.env = (false, eval e X.env) :: starEach es X.env := by rfl) (hpl : (backTo pos (starEach es X.env)).any (·.1) = false := by rfl) : PE X (.Call (.Name x p) (e :: es) [] pos) (TX X.K (mCall fn fs)) := by
  refine ⟨fun pins s σ H Q I h => wpAny_Call_Name_kw (ld_glob I hg hm ?_ hdb)⟩
  refine PySem.W.callWith_K (h₀ := X.base) I.ok.mod.kin hk (thn (ha.run pos pins s σ H _ I (tCallFn h)) fun us s1 ⟨vs, H1, I1, r, ρ, S, ds, dd, ok, q⟩ => ⟨I1.kIn, ?_⟩) he hpl
  have hl : ds.length = ps.length := by rw [← F.np]; exact har.of (vs := vs) (Q := Q) (K := X.K) q
  have hl2 : (us ++ []).length = ps.length := by rw [List.append_nil, ← r.length, dd.length, hl]
  have hb' := hb s1 us I1.kIn hl2
  rw [List.append_nil] at hb'
  exact run_fnG F hr hb' I1 r dd ok hl q
structure KwAll (fd : FuncData) (ps : List Str) : Prop where
  to : ∀ (s : Shared) (ws : List Value), ws.length = ps.length → BindsTo s fd ⟨[], ps.zip ws⟩ (ps.zip ws)
end
section
variable {K : PySem.W.Frag} {ρ ρ2 : List Addr} {S S2 : Store} {H : Hp}
theorem Ok.pick (ok : Ok ρ S H) (hl : ρ2.length = S2.length) (nd : ρ2.Nodup) (h : ∀ (j : Nat) (a : Addr) (c : Cell), ρ2[j]? = some a → S2[j]? = some c → ∃ i : Nat, ρ[i]? = some a ∧ S[i]? = some c)
    (ht : ∀ (j : Nat) (x : Addr) (t : Tbl), ρ2[j]? = some x → S2[j]? = some (.tbl t) → ∃ i, ρ[i]? = some x ∧ S[i]? = some (.tbl t) ∧ ∀ k, k = 1 ∨ k = 2 → ρ2[j + k]? = ρ[i + k]? ∧ S2[j + k]? = S[i + k]?) : Ok ρ2 S2 H ∧ ∀ a, Live ρ2 S2 a → Live ρ S a := by
  have g : ∀ a, Live ρ2 S2 a → Live ρ S a := fun a ⟨j, c, h1, h2, h3⟩ => by
    obtain ⟨i, q1, q2⟩ := h j a c h1 h2
    exact ⟨i, c, q1, q2, h3⟩
  refine ⟨⟨hl, nd, fun j a c h1 h2 => ?_, fun j x t h1 h2 => ?_⟩, g⟩
  · obtain ⟨i, q1, q2⟩ := h j a c h1 h2
    exact (ok.cell i a c q1 q2).less g
  · obtain ⟨i, q1, q2, q3⟩ := ht j x t h1 h2
    obtain ⟨dx, la, da, vs, us, r1, r2, r3, r4, r5, r6, r7, r8⟩ := ok.tb i x t q1 q2
    obtain ⟨a1, b1⟩ := q3 1 (.inl rfl)
    obtain ⟨a2, b2⟩ := q3 2 (.inr rfl)
    refine ⟨dx, la, da, vs, us, a1.trans r1, a2.trans r2, b1.trans r3, r4, r5, Pds.less g _ _ r6, KvK.less g r7, ?_⟩
    rcases r8 with ⟨z1, z2, z3⟩ | ⟨z1, z2, z3⟩
    · exact .inl ⟨z1, b2.trans z2, z3⟩
    · exact .inr ⟨z1, b2.trans z2, z3⟩
def FinOk (K : PySem.W.Frag) (fi : Nat → D → Store → R (D × Store)) : Prop := ∀ (ρ ρ1 : List Addr) (S S1 : Store) (H H1 : Hp) (d : D) (v : V) (k : D × Store → List Addr → Hp → Prop), Ok ρ S H → Xt ρ S H ρ1 S1 H1 → Ok ρ1 S1 H1 → DOk K ρ1 S1 H1 v d → Aft ρ S H (fi S.length d S1) (fun p => p.2) k →
  ∃ d' S' ρ', DOk K ρ' S' H1 v d' ∧ k (d', S') ρ' H1
theorem Xt.pick {ρ1 : List Addr} {S1 : Store} {H1 : Hp} (e : Xt ρ S H ρ1 S1 H1) (ok : Ok ρ S H) (hp : ∀ i : Nat, i < S.length → ρ2[i]? = ρ1[i]?) (g : ∀ a, Live ρ2 S2 a → Live ρ1 S1 a) (hs : ∀ i : Nat, i < S.length → S2[i]? = S1[i]?) : Xt ρ S H ρ2 S2 H1 := by
  have hl : ∀ {i : Nat} {c : Cell}, S[i]? = some c → i < S.length := fun h => (List.getElem?_eq_some_iff.mp h).1
  refine ⟨fun i c h => ?_, fun i a c h1 h2 h3 => (hp i (hl h2)).trans (e.pre i a c h1 h2 h3), ⟨fun a h => e.gr.live a (g a h), e.gr.keep, e.gr.there, e.gr.frzs⟩, fun i a n rs h1 h2 => ?_, fun i t h => ?_⟩
  · obtain ⟨c', q1, q2⟩ := e.kd i c h
    exact ⟨c', (hs i (hl h)).trans q1, q2⟩
  · obtain ⟨n', rs', q1, q2⟩ := e.nst i a n rs h1 h2
    exact ⟨n', rs', (hs i (hl h2)).trans q1, q2⟩
  · obtain ⟨t', q1, q2, q3⟩ := e.ver i t h
    have h2 := Xt.refl.tbn ok i t (hl h) h
    exact ⟨t', (hs i (hl h)).trans q1, q2, fun z k hk => (hp _ (by omega)).trans (q3 z k hk)⟩
theorem Live.out {ρ : List Addr} {S : Store} {n i : Nat} {a : Addr} (nd : ρ.Nodup) (h : ρ[i]? = some a) (hi : n ≤ i) : ¬ Live (ρ.take n) (S.take n) a := fun ⟨j, c, q1, q2, _⟩ => by
  by_cases hj : j < n
  · rw [List.getElem?_take_of_lt hj] at q1
    have := nodup_ixA nd q1 h
    omega
  · rw [List.getElem?_take_eq_none (by omega)] at q1
    cases q1
theorem fin_keep {ρ1 : List Addr} {S1 : Store} {H1 : Hp} {i : Nat} {a : Addr} {c : Cell} {k : D × Store → List Addr → Hp → Prop} (ok : Ok ρ S H) (e : Xt ρ S H ρ1 S1 H1) (o1 : Ok ρ1 S1 H1) (ha : ρ1[i]? = some a) (hc : S1[i]? = some c) (hi : ¬ i < S.length)
    (q : Aft ρ S H (.ok (.ref S.length, S1.take S.length ++ [c])) (fun p => p.2) k) (hk : c.kd = 0 := by rfl) : ∃ d' S' ρ', DOk K ρ' S' H1 (.ref a) d' ∧ k (d', S') ρ' H1 := by
  have hl1 : S.length ≤ S1.length := e.le
  have hlt : (S1.take S.length).length = S.length := by rw [List.length_take]; omega
  have hlr : (ρ1.take S.length).length = S.length := by rw [List.length_take, o1.len]; omega
  have nd : (ρ1.take S.length ++ [a]).Nodup := by
    rw [List.nodup_append]
    refine ⟨o1.nd.sublist (List.take_sublist ..), by simp, fun x hx y hy => ?_⟩
    have ey : y = a := by simpa using hy
    subst ey
    rintro rfl
    obtain ⟨j, hj⟩ := List.getElem?_of_mem hx
    have hj2 := (List.getElem?_eq_some_iff.mp hj).1
    rw [hlr] at hj2
    rw [List.getElem?_take_of_lt hj2] at hj
    have := nodup_ixA o1.nd hj ha
    omega
  have low : ∀ {j : Nat}, j < S.length → (ρ1.take S.length ++ [a])[j]? = ρ1[j]? ∧ (S1.take S.length ++ [c])[j]? = S1[j]? := fun {j} hj => by
    rw [List.getElem?_append_left (by omega), List.getElem?_append_left (by omega), List.getElem?_take_of_lt hj, List.getElem?_take_of_lt hj]
    exact ⟨rfl, rfl⟩
  obtain ⟨o2, g⟩ := o1.pick (ρ2 := ρ1.take S.length ++ [a]) (S2 := S1.take S.length ++ [c]) (by simp [hlr, hlt]) nd (fun j b c' q1 q2 => by
    by_cases hj : j < S.length
    · rw [(low hj).1] at q1
      rw [(low hj).2] at q2
      exact ⟨j, q1, q2⟩
    · have ej : j = S.length := by
        have := (List.getElem?_eq_some_iff.mp q1).1
        rw [List.length_append, hlr] at this
        simp at this
        omega
      subst ej
      rw [List.getElem?_append_right (by omega)] at q1
      rw [List.getElem?_append_right (by omega)] at q2
      rw [hlr] at q1
      rw [hlt] at q2
      simp at q1 q2
      subst q1 q2
      exact ⟨i, ha, hc⟩) (fun j x t q1 q2 => by
    by_cases hj : j < S.length
    · rw [(low hj).1] at q1
      rw [(low hj).2] at q2
      have h2 := e.tbn ok j t hj q2
      refine ⟨j, q1, q2, fun k hk => low (by omega)⟩
    · have ej : j = S.length := by
        have := (List.getElem?_eq_some_iff.mp q1).1
        rw [List.length_append, hlr] at this
        simp at this
        omega
      subst ej
      rw [List.getElem?_append_right (by omega), hlt] at q2
      simp at q2
      subst q2
      cases hk)
  refine ⟨.ref S.length, S1.take S.length ++ [c], ρ1.take S.length ++ [a], ⟨a, by have := RefAt.last (ρ := ρ1.take S.length) (S := S1.take S.length) (p := a) (c := c) (by omega) (kd0 hk); rwa [hlt] at this, rfl⟩, Aft.at q (e.pick ok (fun j hj => (low hj).1) g fun j hj => (low hj).2) o2⟩
theorem fin_tbl {ρ1 : List Addr} {S1 : Store} {H1 : Hp} {i : Nat} {a : Addr} {t : Tbl} {k : D × Store → List Addr → Hp → Prop} (ok : Ok ρ S H) (e : Xt ρ S H ρ1 S1 H1) (o1 : Ok ρ1 S1 H1) (ha : ρ1[i]? = some a) (hc : S1[i]? = some (.tbl t)) (hi : ¬ i < S.length) (hw : t.wk = false)
    (q : Aft ρ S H (.ok (.ref S.length, S1.take S.length ++ [.tbl t, .inn, .inn])) (fun p => p.2) k) : ∃ d' S' ρ', DOk K ρ' S' H1 (.ref a) d' ∧ k (d', S') ρ' H1 := by
  have hl1 : S.length ≤ S1.length := e.le
  have hlt : (S1.take S.length).length = S.length := by rw [List.length_take]; omega
  have hlr : (ρ1.take S.length).length = S.length := by rw [List.length_take, o1.len]; omega
  obtain ⟨dx, la, da, vs, us, r1, r2, r3, r4, r5, r6, r7, r8⟩ := o1.tb i a t ha hc
  have r9 : S1[i + 2]? = some .inn := by
    rcases r8 with ⟨_, z, _⟩ | ⟨z, _⟩
    · exact z
    · rw [hw] at z; cases z
  have fresh : ∀ {j x : Nat}, S.length ≤ j → ρ1[j]? = some x → x ∉ ρ1.take S.length := fun {j x} hj hx hm => by
    obtain ⟨m, hm2⟩ := List.getElem?_of_mem hm
    have h3 := (List.getElem?_eq_some_iff.mp hm2).1
    rw [hlr] at h3
    rw [List.getElem?_take_of_lt h3] at hm2
    have := nodup_ixA o1.nd hm2 hx
    omega
  have nd : (ρ1.take S.length ++ [a, la, da]).Nodup := by
    rw [List.nodup_append]
    refine ⟨o1.nd.sublist (List.take_sublist ..), ?_, fun x hx y hy => ?_⟩
    · have n1 : a ≠ la := fun z => by subst z; have := nodup_ixA o1.nd ha r1; omega
      have n2 : a ≠ da := fun z => by subst z; have := nodup_ixA o1.nd ha r2; omega
      have n3 : la ≠ da := fun z => by subst z; have := nodup_ixA o1.nd r1 r2; omega
      simp [n1, n2, n3]
    · simp only [List.mem_cons, List.not_mem_nil, or_false] at hy
      rintro rfl
      rcases hy with rfl | rfl | rfl
      · exact fresh (by omega) ha hx
      · exact fresh (by omega) r1 hx
      · exact fresh (by omega) r2 hx
  have low : ∀ {j : Nat}, j < S.length → (ρ1.take S.length ++ [a, la, da])[j]? = ρ1[j]? ∧ (S1.take S.length ++ [.tbl t, .inn, .inn])[j]? = S1[j]? := fun {j} hj => by
    rw [List.getElem?_append_left (by omega), List.getElem?_append_left (by omega), List.getElem?_take_of_lt hj, List.getElem?_take_of_lt hj]
    exact ⟨rfl, rfl⟩
  have hi0 : ∀ m, (ρ1.take S.length ++ [a, la, da])[S.length + m]? = [a, la, da][m]? ∧ (S1.take S.length ++ [.tbl t, .inn, .inn])[S.length + m]? = [Cell.tbl t, .inn, .inn][m]? := fun m => by
    rw [List.getElem?_append_right (by omega), List.getElem?_append_right (by omega), hlr, hlt, Nat.add_sub_cancel_left]
    exact ⟨rfl, rfl⟩
  obtain ⟨o2, g⟩ := o1.pick (ρ2 := ρ1.take S.length ++ [a, la, da]) (S2 := S1.take S.length ++ [.tbl t, .inn, .inn]) (by simp [hlr, hlt]) nd (fun j b c' q1 q2 => by
    by_cases hj : j < S.length
    · rw [(low hj).1] at q1
      rw [(low hj).2] at q2
      exact ⟨j, q1, q2⟩
    · obtain ⟨m, rfl⟩ : ∃ m, j = S.length + m := ⟨j - S.length, by omega⟩
      rw [(hi0 m).1] at q1
      rw [(hi0 m).2] at q2
      match m, q1, q2 with
      | 0, q1, q2 => cases q1; cases q2; exact ⟨i, ha, hc⟩
      | 1, q1, q2 => cases q1; cases q2; exact ⟨i + 1, r1, r3⟩
      | 2, q1, q2 => cases q1; cases q2; exact ⟨i + 2, r2, r9⟩) (fun j x t' q1 q2 => by
    by_cases hj : j < S.length
    · rw [(low hj).1] at q1
      rw [(low hj).2] at q2
      have h2 := e.tbn ok j t' hj q2
      refine ⟨j, q1, q2, fun k hk => low (by omega)⟩
    · obtain ⟨m, rfl⟩ : ∃ m, j = S.length + m := ⟨j - S.length, by omega⟩
      rw [(hi0 m).1] at q1
      rw [(hi0 m).2] at q2
      match m, q1, q2 with
      | 0, q1, q2 =>
        cases q1
        cases q2
        refine ⟨i, ha, hc, fun k hk => ?_⟩
        rcases hk with rfl | rfl
        · exact ⟨((hi0 1).1).trans r1.symm, ((hi0 1).2).trans r3.symm⟩
        · exact ⟨((hi0 2).1).trans r2.symm, ((hi0 2).2).trans r9.symm⟩
      | 1, q1, q2 => cases q2
      | 2, q1, q2 => cases q2)
  refine ⟨.ref S.length, _, ρ1.take S.length ++ [a, la, da], ⟨a, ⟨(hi0 0).1, _, (hi0 0).2, (show (2 : Nat) ≠ 1 by decide)⟩, rfl⟩, Aft.at q (e.pick ok (fun j hj => (low hj).1) g fun j hj => (low hj).2) o2⟩
theorem fin_plain {ρ1 : List Addr} {S1 : Store} {H1 : Hp} {d' : D} {v : V} {k : D × Store → List Addr → Hp → Prop} (ok : Ok ρ S H) (e : Xt ρ S H ρ1 S1 H1) (o1 : Ok ρ1 S1 H1) (hd : DOk K (ρ1.take S.length) (S1.take S.length) H1 v d')
    (q : Aft ρ S H (.ok (d', S1.take S.length)) (fun p => p.2) k) : ∃ d' S' ρ', DOk K ρ' S' H1 v d' ∧ k (d', S') ρ' H1 := by
  have xt := e.trunc ok S.length rfl
  have ot := o1.trunc S.length (e.tbn ok)
  exact ⟨d', _, _, hd, Aft.at q xt ot⟩
theorem fin_ok : FinOk K fin := by
  intro ρ ρ1 S S1 H H1 d v k ok e o1 dv q
  have xt := e.trunc ok S.length rfl
  have g : ∀ a, Live (ρ1.take S.length) (S1.take S.length) a → Live ρ1 S1 a := fun a h => Live.take h
  cases d with
  | p x => exact fin_plain ok e o1 (d' := .p x) (Pd.less g _ _ dv) q
  | scr ns =>
    obtain ⟨a, h2, h3⟩ := dv
    exact fin_plain ok e o1 (d' := .scr ns) ⟨a, h2, h3⟩ q
  | ref i =>
    obtain ⟨a, har, rfl⟩ := dv
    have ha := har.1
    unfold fin at q
    by_cases hi : i < S.length
    · simp only [hi, if_true] at q
      refine fin_plain ok e o1 (d' := .ref i) ⟨a, ⟨by rw [List.getElem?_take_of_lt hi]; exact ha, ?_⟩, rfl⟩ q
      obtain ⟨c, h1, h2⟩ := har.2
      exact ⟨c, by rw [List.getElem?_take_of_lt hi]; exact h1, h2⟩
    · simp only [hi, if_false] at q
      have nl : ¬ Live (ρ1.take S.length) (S1.take S.length) a := Live.out (S := S1) o1.nd ha (Nat.le_of_not_lt hi)
      cases hc : S1[i]? with
      | none => simp only [hc] at q; exact q.elim
      | some c =>
        simp only [hc] at q
        cases c with
        | lst xs =>
          obtain ⟨vs, q1, q2⟩ := o1.cell i a _ ha hc
          exact fin_plain ok e o1 (d' := .p (.list xs)) (.lst q1 nl (Pds.less g _ _ q2)) q
        | flst xs =>
          obtain ⟨vs, q1, q2⟩ := o1.cell i a _ ha hc
          exact fin_plain ok e o1 (d' := .p (.list xs)) (.lst q1 nl (Pds.less g _ _ q2)) q
        | tbl t =>
          obtain ⟨hw, q⟩ := Aft.when q
          exact fin_tbl ok e o1 ha hc hi (by simpa using hw) q
        | inn => exact q.elim
        | inf => exact q.elim
        | dct t kvs => exact fin_keep ok e o1 ha hc hi q
        | fdct t kvs => exact fin_keep ok e o1 ha hc hi q
        | nst n rs => exact fin_keep ok e o1 ha hc hi q
        | tab P q1 => exact fin_keep ok e o1 ha hc hi q
        | tdc ks => exact fin_keep ok e o1 ha hc hi q
        | tdv b kvs => exact fin_keep ok e o1 ha hc hi q
        | dead => exact fin_keep ok e o1 ha hc hi q
        | obj C fs => exact fin_keep ok e o1 ha hc hi q
  | rows i n rs => exact q.elim
  | fn f c q1 => exact q.elim
  | exn x => exact q.elim
  | own i k n => exact q.elim
theorem finM_ok : FinOk K finM := by
  intro ρ ρ1 S S1 H H1 d v k ok e o1 dv q
  have g : ∀ a, Live (ρ1.take S.length) (S1.take S.length) a → Live ρ1 S1 a := fun a h => Live.take h
  cases d with
  | p x => exact fin_plain ok e o1 (d' := .p x) (Pd.less g _ _ dv) q
  | scr ns =>
    obtain ⟨a, h2, h3⟩ := dv
    exact fin_plain ok e o1 (d' := .scr ns) ⟨a, h2, h3⟩ q
  | ref i =>
    obtain ⟨a, har, rfl⟩ := dv
    have ha := har.1
    unfold finM at q
    by_cases hi : i < S.length
    · simp only [hi, if_true] at q
      refine fin_plain ok e o1 (d' := .ref i) ⟨a, ⟨by rw [List.getElem?_take_of_lt hi]; exact ha, ?_⟩, rfl⟩ q
      obtain ⟨c, h1, h2⟩ := har.2
      exact ⟨c, by rw [List.getElem?_take_of_lt hi]; exact h1, h2⟩
    · simp only [hi, if_false] at q
      cases hc : S1[i]? with
      | none => simp only [hc] at q; exact q.elim
      | some c =>
        simp only [hc] at q
        cases c with
        | tbl t =>
          obtain ⟨hw, q⟩ := Aft.when q
          exact fin_tbl ok e o1 ha hc hi (by simpa using hw) q
        | inn => exact q.elim
        | inf => exact q.elim
        | lst xs => exact fin_keep ok e o1 ha hc hi q
        | flst xs => exact fin_keep ok e o1 ha hc hi q
        | dct t kvs => exact fin_keep ok e o1 ha hc hi q
        | fdct t kvs => exact fin_keep ok e o1 ha hc hi q
        | nst n rs => exact fin_keep ok e o1 ha hc hi q
        | tab P q1 => exact fin_keep ok e o1 ha hc hi q
        | tdc ks => exact fin_keep ok e o1 ha hc hi q
        | tdv b kvs => exact fin_keep ok e o1 ha hc hi q
        | dead => exact fin_keep ok e o1 ha hc hi q
        | obj C fs => exact fin_keep ok e o1 ha hc hi q
  | rows i n rs => exact q.elim
  | fn f c q1 => exact q.elim
  | exn x => exact q.elim
  | own i k n => exact q.elim
theorem Aft.bs0 {β : Type} {ρ0 : List Addr} {S0 : Store} {H0 : Hp} {r : R (Fl × Env × Store)} {f : Fl → Env → Store → R β} {st : β → Store} {k : β → List Addr → Hp → Prop} (h : Aft ρ S H (Mi.bs r f) st k) :
    Aft ρ0 S0 H0 r (fun p => p.2.2) fun p _ _ => Aft ρ S H (f p.1 p.2.1 p.2.2) st k := by
  cases r with
  | ok a => exact fun _ _ _ _ => h
  | ex e S => exact h
  | no => exact h
theorem Aft.cutEx {α : Type} {n : Nat} {r : R α} {st : α → Store} {k : α → List Addr → Hp → Prop} (h : Aft ρ S H (Mi.cutEx n r) st k) : Aft ρ S H r st k := by
  cases r <;> exact h
end
theorem ar_fnOf {fi : Nat → D → Store → R (D × Store)} {np slots : Nat} {body : Sm} : Ar np (fnOf fi np slots body) := fun ds S h => by
  unfold fnOf
  rw [decide_eq_false h]
  rfl
def CodeAt (K : PySem.W.Frag) (f : Addr) (cdv : Value) : Prop := ∃ (oc : Value) (od : Option Addr) (fd : FuncData) (osl : Array (Option Value)), K.lookup f = some ⟨oc, od, .func fd, osl⟩ ∧ fd.code = cdv ∧ ∃ c, cdv = .ref c
theorem fn_ofG {P : Program} {w : World} {K : PySem.W.Frag} {mg : Str → Option Value} {base : Heap} {k : Nat} {f : Addr} {fd : FuncData} {x qual : Str} {params : Arguments} {body : List Stmt} {scope : Scope} {N ps : List Str} {fi : Nat → D → Store → R (D × Store)} {np slots : Nat} {fb : Sm}
    (F : FunD K x qual params body scope [] [] f fd) (Sc : FnScope N ps scope) (hfi : FinOk K fi) (hnp : np = ps.length) (hsl : slots = N.length)
    (hb : ∀ (cdv : Value), CodeAt K f cdv → ∀ (A : Around) (outer : List PySem.Env) (s : Shared) (H : Hp) (E : XK), Rm k (cxOf CX0 P w K mg base N qual scope f cdv A outer s H E).nox.A → Gd (cxOf CX0 P w K mg base N qual scope f cdv A outer s H E).nox → PSs (cxOf CX0 P w K mg base N qual scope f cdv A outer s H E).nox body (TSm K fb)) :
    FnG P w K mg base (k + 1) f fd np ps (fnOf fi np slots fb) := by
  obtain ⟨oc, od, dV, kV, doc, pm, an, cdv, ct, osl, rfl, lk, hcd, _, _⟩ := F.ex
  refine ⟨hnp, fun A outer s H args us vs Q ρ S ds hr e0 hbi r dd ok hlen q => ?_⟩
  have hl : vs.length = ps.length := dd.length.trans hlen
  have KX : K.In s.heap := e0.mod.kin.keeps fun b o e => (e0.bs b o e).1
  have hlim : s.heap.NoLimit := e0.mod.nolimit.keeps fun b o e => (e0.bs b o e).1
  have hkd : ∀ y ∈ ps.zip us, scope.names.lookup y.1 = some .local ∨ (scope.names.lookup y.1 = some .cell ∧ ((cellsFrom (s.heap.objs.size + 1) scope.names []).lookup y.1).isSome = true) := fun y hy => by
    obtain ⟨n, v⟩ := y
    rcases Sc.par n (List.of_mem_zip hy).1 with z | z
    · exact .inl z
    · exact .inr ⟨z, PySem.W.cellsFrom_some _ _ _ (.inl z)⟩
  have hrm := hr.deeper (envOfC qual scope s.heap.objs.size f cdv)
  have hroom := hr.room
  refine codeAny_call_function hroom.depth (KX _ _ lk) rfl Sc.co Sc.gen rfl (PySem.W.codeRec_of KX hcd) (hbi _ _ _ _ (wpAny_newFunctionEnv_cells Sc.kind hkd fun env he s1 xx => ?_))
  subst he
  refine ⟨hlim.keeps xx.toInCall.keep, codeAny_func ?_⟩
  have G : Gd (cxOf CX0 P w K mg base N qual scope f cdv A outer s H E0).nox := ⟨rfl, by have := hrm.room.un; show (A.deeper (envOfC qual scope s.heap.objs.size f cdv)).units + 2000 < cLine; simp only [MARGIN] at this; omega, hrm.gs, Sc.nd⟩
  have ht := PSs.nox (hb cdv ⟨_, _, _, _, lk, rfl, He.codeIn_ref hcd⟩ A outer s H E0 hrm G)
  have I : L2.Inv (cxOf CX0 P w K mg base N qual scope f cdv A outer s H E0) [] (L2.start N vs) H s1 := inv_start Sc hroom.hd e0 hl r xx
  obtain ⟨_, q⟩ := Aft.when q
  have q := Aft.cutEx q
  let D' : Ends := { nx := fun _ H' => Q .non H', rt := Q }
  have hq : TSm K fb D' (L2.start N vs) H := by
    refine ⟨ρ, Mi.start slots ds, S, EnvOk.start N dd slots hsl, ok, (Aft.bs0 q).mono fun p ρ1 H1 e1 o1 q1 => ?_⟩
    obtain ⟨fl, env1, S1⟩ := p
    cases fl with
    | rt d =>
      intro v dv
      obtain ⟨d', S', ρ', h1, h2⟩ := hfi ρ ρ1 S S1 H H1 d v _ ok e1 o1 dv q1
      exact h2 v h1
    | nx =>
      intro σ1 eo1
      obtain ⟨d', S', ρ', h1, h2⟩ := hfi ρ ρ1 S S1 H H1 (.p .none) .non _ ok e1 o1 .non q1
      exact h2 .non h1
    | bk => exact q1.elim
    | ct => exact q1.elim
  refine wpAny_mono (ht.run [] s1 (L2.start N vs) H D' I hq) (fun fl s' hs => ?_) fun e s' hs => hs
  have fin : ∀ {σ' : L2.St} {H' : Hp} {v : V} {u : Value}, L2.Inv (cxOf CX0 P w K mg base N qual scope f cdv A outer s H E0) [] σ' H' s' → RelV v u → Q v H' → CE outer P w H s Q u s' :=
    fun {σ' H' v u} J rv z => ⟨v, H', J.os, J.bare, J.base, J.hok, rv, z⟩
  cases fl with
  | ret u =>
    obtain ⟨v, σ', H', J, rv, z⟩ := hs
    exact fin J rv z
  | next =>
    obtain ⟨σ', H', J, z⟩ := hs
    exact fin (v := V.non) (u := Value.none) J rfl z
  | brk =>
    obtain ⟨_, _, _, z⟩ := hs
    exact z.elim
  | cont =>
    obtain ⟨_, _, _, z⟩ := hs
    exact z.elim
end Mi
end
section
namespace Mi
open PySem PySem.Spec PyProof.Rows L2
structure KnD (P : Program) (w : World) (K : PySem.W.Frag) (mg : Str → Option Value) (base : Heap) (k : Nat) (x : Str) (np : Nat) (ps : List Str) (fn : Fn) : Prop where
  ex : ∃ (f : Addr) (fd : FuncData), mg x = some (.ref f) ∧ PySem.W.keepIn K (.ref f) = true ∧ Binds K fd ps [] ∧ KwAll fd ps ∧ FnG P w K mg base k f fd np ps fn
  ar : Ar np fn
theorem FunD.kwAll {K : PySem.W.Frag} {x qual : Str} {params : Arguments} {body : List Stmt} {scope : Scope} {f : Addr} {fd : FuncData} {ps : List Str} (F : FunD K x qual params body scope [] [] f fd)
    (h : ∀ (kV doc pm : Value) (an : Option Addr) (cdv ct : Value) (ws : List Value), ws.length = ps.length → bindArgs (PySem.W.fnOf x qual params body scope .none kV doc pm an cdv ct) ⟨[], ps.zip ws⟩ = pure (ps.zip ws)) : KwAll fd ps := by
  obtain ⟨oc, od, dV, kV, doc, pm, an, cdv, ct, osl, rfl, lk, hcd, hD, hK⟩ := F.ex
  rcases hD with ⟨_, rfl⟩ | ⟨e, _⟩
  · exact ⟨fun s ws hl => .of_eq (h kV doc pm an cdv ct ws hl)⟩
  · exact absurd rfl e
section
variable {X : Cx} {pos p : Pos} {e : Expr} {es : List Expr} {fs : As} {x : Str} {np k : Nat} {ps : List Str} {fn : Fn} {kws : List Keyword}
theorem x_fn (d : KnD X.prog X.w X.K X.mg X.base k x np ps fn) (hr : Rm k X.A) (hg : Gl X x) (ha : PA X (e :: es) (TAs X.K fs)) (hdb : (x == ("__debug__" : Str)) = false := by decide)
    (he : starEach (e :: es) X.env = (false, eval e X.env) :: starEach es X.env := by rfl) (hpl : (backTo pos (starEach es X.env)).any (·.1) = false := by rfl) : PE X (.Call (.Name x p) (e :: es) [] pos) (TX X.K (mCall fn fs)) := by
  obtain ⟨f, fd, h1, h2, h3, _, h4⟩ := d.ex
  exact x_call h4 d.ar hr hg h1 h2 h3 ha hdb he hpl
theorem x_gint {i : Int} (h : ∃ t, X.mg x = some (.int i t)) (hg : Gl X x) (hd : (x == ("__debug__" : Str)) = false := by decide) : PE X (.Name x pos) (TX X.K (mC (.int i))) := by
  obtain ⟨t, h⟩ := h
  exact x_c (pe_glob hg h (v := .int i) ⟨t, rfl⟩ hd) fun _ _ => .int i
end
def DefF (K : PySem.W.Frag) (mg : Str → Option Value) (x : Str) (st : Stmt) : Prop := ∃ (f : Addr) (fd : FuncData), mg x = some (.ref f) ∧ FunD K x x (defArgs st) (defBody st) (defScope st) [] [] f fd
theorem kn_of {P : Program} {w : World} {K : PySem.W.Frag} {mg : Str → Option Value} {base : Heap} {k : Nat} {x : Str} {st : Stmt} {N ps : List Str} {fi : Nat → D → Store → R (D × Store)} {np slots : Nat} {fb : Sm} (F : DefF K mg x st) (Sc : FnScope N ps (defScope st)) (hfi : FinOk K fi) (hnp : np = ps.length) (hsl : slots = N.length)
    (hbi : ∀ (kV doc pm : Value) (an : Option Addr) (cdv ct : Value) (us : List Value), us.length = ps.length → bindArgs (PySem.W.fnOf x x (defArgs st) (defBody st) (defScope st) .none kV doc pm an cdv ct) ⟨us, []⟩ = pure (ps.zip us))
    (hbk : ∀ (kV doc pm : Value) (an : Option Addr) (cdv ct : Value) (ws : List Value), ws.length = ps.length → bindArgs (PySem.W.fnOf x x (defArgs st) (defBody st) (defScope st) .none kV doc pm an cdv ct) ⟨[], ps.zip ws⟩ = pure (ps.zip ws))
    (hb : ∀ (f : Addr) (cdv : Value) (A : Around) (outer : List PySem.Env) (s : Shared) (H : Hp) (E : XK), Rm k (cxOf CX0 P w K mg base N x (defScope st) f cdv A outer s H E).nox.A → Gd (cxOf CX0 P w K mg base N x (defScope st) f cdv A outer s H E).nox → PSs (cxOf CX0 P w K mg base N x (defScope st) f cdv A outer s H E).nox (defBody st) (TSm K fb)) :
    KnD P w K mg base (k + 1) x np ps (fnOf fi np slots fb) := by
  obtain ⟨f, fd, hm, F⟩ := F
  exact ⟨⟨f, fd, hm, F.kp, F.bindsN hbi, FunD.kwAll F hbk, fn_ofG F Sc hfi hnp hsl fun cdv _ => hb f cdv⟩, ar_fnOf⟩
theorem kn_ofT {P : Program} {w : World} {K : PySem.W.Frag} {mg : Str → Option Value} {base : Heap} {k : Nat} {x : Str} {st : Stmt} {N ps : List Str} {fi : Nat → D → Store → R (D × Store)} {np slots : Nat} {fb : Sm} (F : DefF K mg x st) (hx : mg x = some (.ref (He.fAd K (x, none)))) (Sc : FnScope N ps (defScope st)) (hfi : FinOk K fi) (hnp : np = ps.length) (hsl : slots = N.length)
    (hbi : ∀ (kV doc pm : Value) (an : Option Addr) (cdv ct : Value) (us : List Value), us.length = ps.length → bindArgs (PySem.W.fnOf x x (defArgs st) (defBody st) (defScope st) .none kV doc pm an cdv ct) ⟨us, []⟩ = pure (ps.zip us))
    (hbk : ∀ (kV doc pm : Value) (an : Option Addr) (cdv ct : Value) (ws : List Value), ws.length = ps.length → bindArgs (PySem.W.fnOf x x (defArgs st) (defBody st) (defScope st) .none kV doc pm an cdv ct) ⟨[], ps.zip ws⟩ = pure (ps.zip ws))
    (hb : ∀ (f : Addr) (cdv : Value), cdv = .ref (He.codeOf K (x, none)) → ∀ (A : Around) (outer : List PySem.Env) (s : Shared) (H : Hp) (E : XK), Rm k (cxOf CX0 P w K mg base N x (defScope st) f cdv A outer s H E).nox.A → Gd (cxOf CX0 P w K mg base N x (defScope st) f cdv A outer s H E).nox → PSs (cxOf CX0 P w K mg base N x (defScope st) f cdv A outer s H E).nox (defBody st) (TSm K fb)) :
    KnD P w K mg base (k + 1) x np ps (fnOf fi np slots fb) := by
  obtain ⟨f, fd, hm, F⟩ := F
  have ef := hx.symm.trans hm
  cases ef
  exact ⟨⟨_, fd, hm, F.kp, F.bindsN hbi, FunD.kwAll F hbk, fn_ofG F Sc hfi hnp hsl fun cdv hc => hb _ cdv (by
    obtain ⟨oc, od, fd, osl, lk, e, c, e2⟩ := hc
    rw [e2, He.codeOf_eq lk (e.trans e2)])⟩, ar_fnOf⟩
end Mi
end
section
namespace Mi
open PySem PySem.Spec PyProof.Rows L2
section
variable {X : Cx} {e o ix : Expr} {fa fo fi : Ex} {pos tp : Pos}
theorem ixN_l2 {n : Nat} {k : Int} {j : Nat} (h : Mi.ixN n k = some j) : L2.ixN n k = some j := h
theorem s_setL (he : PE X e (TX X.K fa)) (ho : PE X o (TX X.K fo)) (hi : PE X ix (TX X.K fi)) (hs : swapsWithSole [.Subscript o ix tp] e pos.line X.env = pure false := by rfl) (hw : swappedStores [.Subscript o ix tp] e X.env = pure none := by rfl)
    (h1 : (assignEach [.Subscript o ix tp] X.env).map (·.2) = [assign (.Subscript o ix tp) X.env] := by rfl)
    (ha : ∀ v, assign (.Subscript o ix tp) X.env v = (do
      let ov ← holding [v] (eval o X.env)
      let iv ← holding [v, ov] (eval ix X.env)
      standAt tp
      holding [v, ov, iv] (setItem ov iv v)
      release [v, ov, iv] []) := by intro _; rfl) : PS X (.Assign [.Subscript o ix tp] e pos) (TSm X.K (sSetL fo fi fa)) := PS.up (ps_asg he (pg_sub ho hi set_list ha) hs hw h1) fun D' σ H ⟨ρ, env, S, eo, ok, q⟩ => by
  refine ⟨ρ, env, S, eo, ok, (Aft.bd q).mono fun p1 ρ1 H1 e1 o1 q1 y dy => ?_⟩
  refine ⟨ρ1, env, p1.2, eo.mono e1, o1, (Aft.bd q1).mono fun p2 ρ2 H2 e2 o2 q2 x dx => ?_⟩
  refine ⟨ρ2, env, p2.2, (eo.mono e1).mono e2, o2, (Aft.bd q2).mono fun p3 ρ3 H3 e3 o3 q3 k dk => ?_⟩
  obtain ⟨d, S4, x4, o4, pd, q4⟩ := Aft.fz o3 ((dy.mono e2).mono e3) q3
  have eo4 := (((eo.mono e1).mono e2).mono e3).mono x4
  obtain ⟨dx0, S2⟩ := p2
  obtain ⟨dk0, S3⟩ := p3
  cases dx0 with
  | ref j =>
    cases dk0 with
    | p dk0 =>
      cases dk0 with
      | int n =>
        cases dk
        obtain ⟨a, har, rfl⟩ := dx
        have ha := har.1
        have ha4 : ρ3[j]? = some a := (e3.at har).1
        cases hS : S4[j]? with
        | none => simp only [hS] at q4; exact q4.elim
        | some c =>
          simp only [hS] at q4
          cases c with
          | lst xs =>
            obtain ⟨m, hm, q5⟩ := Aft.orNo q4
            obtain ⟨vs, hv, pv⟩ := o4.cell j a _ ha4 hS
            obtain ⟨o5, x5⟩ := o4.putL (vs := vs.set m y) (ys := xs.set m d) ha4 hS (pv.set pd m)
            exact ⟨a, vs, n, m, rfl, rfl, hv, by rw [pv.length]; exact ixN_l2 hm, (Aft.at q5 x5 o5) _ (eo4.mono x5)⟩
          | _ => exact q4.elim
      | _ => exact q4.elim
    | _ => exact q4.elim
  | _ => exact q4.elim
end
end Mi
end
section
namespace Mi
open PySem PySem.Spec PyProof.Rows L2
section
variable {L : Addr → Prop} {H : Hp}
theorem KvK.len : ∀ {us : List (Key × V)} {kvs : List (PyData × PyData)}, KvK L H us kvs → us.length = kvs.length
  | _, _, .nil => rfl
  | _, _, .cons _ t => congrArg (· + 1) (KvK.len t)
theorem KvK.snoc {k : Key} {v : V} {d : PyData} (hd : Pd L H v d) : ∀ {us : List (Key × V)} {kvs : List (PyData × PyData)}, KvK L H us kvs → KvK L H (us ++ [(k, v)]) (kvs ++ [(keyD k, d)])
  | _, _, .nil => .cons hd .nil
  | _, _, .cons a t => .cons a (KvK.snoc hd t)
theorem KvK.over {k : Key} {v : V} {d : PyData} (hd : Pd L H v d) : ∀ {us : List (Key × V)} {kvs : List (PyData × PyData)}, KvK L H us kvs → KvK L H (us.map fun kv => if kv.1 = k then (kv.1, v) else kv) (kvs.map fun kv => if PyData.eqv kv.1 (keyD k) = true then (kv.1, d) else kv)
  | _, _, .nil => .nil
  | _, _, .cons (k := k0) a t => by
    rw [List.map_cons, List.map_cons, keyD_eqv]
    by_cases e : k0 = k
    · rw [if_pos e, decide_eq_true e, if_pos rfl]
      exact .cons hd (KvK.over hd t)
    · rw [if_neg e, decide_eq_false e, if_neg Bool.false_ne_true]
      exact .cons a (KvK.over hd t)
theorem KvK.put {k : Key} {v : V} {d : PyData} {us : List (Key × V)} {kvs : List (PyData × PyData)} (r : KvK L H us kvs) (hd : Pd L H v d) : KvK L H (putK us k v) (Mi.put kvs (keyD k) d) := by
  unfold putK Mi.put
  have e := r.val k
  rw [← valV_any] at e
  rw [← e]
  by_cases h : (us.any fun kv => decide (kv.1 = k)) = true
  · rw [if_pos h, if_pos h]
    exact r.over hd
  · rw [if_neg h, if_neg h]
    exact r.snoc hd
end
section
variable {ρ : List Addr} {S : Store} {H : Hp} {i : Nat} {a : Addr}
theorem Gr.put {c c' : Cell} {o : HO} (ok : Ok ρ S H) (h1 : ρ[i]? = some a) (h2 : S[i]? = some c) (hf : c.free = true) (hf' : c'.free = true) : Gr (Live ρ S) (Live ρ (S.set i c')) H (upd H a o) := by
  obtain ⟨u, hu, hm0⟩ := (ok.cell i a c h1 h2).some
  have hm := hm0 hf
  have hl : Live ρ S a := ⟨i, c, h1, h2, hf⟩
  refine ⟨fun b hb => .inl (Live.swap h2 hf hb), fun b u' hb nb => ?_, fun b hb => ?_, fun b u1 u2 hb => ?_⟩
  · rw [upd_ne (fun e => nb (by rw [e]; exact hl))]
    exact hb
  · by_cases e : b = a
    · subst e
      rw [upd_same] at hb
      cases hb
    · rwa [upd_ne e] at hb
  · rw [upd_ne]
    · exact hb
    · rintro rfl
      rw [hu] at hb
      cases hb
      exact hm _ _ rfl
theorem Ok.putD {us : List (Key × V)} {kvs kvs' : List (PyData × PyData)} (ok : Ok ρ S H) (h1 : ρ[i]? = some a) (h2 : S[i]? = some (.dct false kvs)) (r : KvK (Live ρ S) H us kvs') :
    Ok ρ (S.set i (.dct false kvs')) (upd H a (.dK us)) ∧ Xt ρ S H ρ (S.set i (.dct false kvs')) (upd H a (.dK us)) :=
  ok.put h1 h2 rfl rfl ⟨us, upd_same, KvK.mono (Gr.put ok h1 h2 rfl rfl) r⟩
theorem Ok.pushD {p : Addr} {us : List (Key × V)} {kvs : List (PyData × PyData)} (ok : Ok ρ S H) (h0 : H p = none) (r : KvK (Live ρ S) H us kvs) :
    Ok (ρ ++ [p]) (S ++ [.dct false kvs]) (upd H p (.dK us)) ∧ Xt ρ S H (ρ ++ [p]) (S ++ [.dct false kvs]) (upd H p (.dK us)) :=
  ok.push h0 ⟨us, upd_same, KvK.mono ⟨fun a h => (Live.push ok.len h).imp id (fun e => by rw [e]; exact h0), (Gr.new (L := Live ρ S) h0).keep, (Gr.new (L := Live ρ S) h0).there, (Gr.new (L := Live ρ S) h0).frzs⟩ r⟩
end
section
variable {X : Cx} {e o ix : Expr} {fa fo fi : Ex} {pos tp : Pos}
end
end Mi
end
section
namespace Mi
open PySem
def mInsert (o a b : Ex) : Ex := fun σ S => bd (o σ S) fun x S1 => when_ (lstAt S1 x) (bd (a σ S1) fun y S2 => bd (b σ S2) fun z S3 => bd (fz S3 z) fun d S4 => match x, y with
  | .ref i, .p (.int k) => match S4[i]? with
    | some (.lst xs) => when_ (decide (0 ≤ k ∧ k < 2 ^ 60 ∧ xs.length < Line)) (.ok (.p .none, S4.set i (.lst (xs.take k.toNat ++ [d] ++ xs.drop k.toNat))))
    | _ => .no
  | _, _ => .no)
end Mi
end
section
namespace Mi
open PySem PySem.Spec PyProof.Rows L2
section
variable {X : Cx} {o e e2 : Expr} {fo fa fb : Ex} {apos cpos : Pos}
end
end Mi
end
section
namespace Mi
open PySem PySem.Spec PyProof.Rows L2
section
variable {X : Cx} {e o : Expr} {pos p cpos apos : Pos} {fo fa : Ex} {x : Str}
theorem x_gstr {i : Str} (h : ∃ t, X.mg x = some (.str i t)) (hg : Gl X x) (hd : (x == ("__debug__" : Str)) = false := by decide) : PE X (.Name x pos) (TX X.K (mC (.str i))) := by
  obtain ⟨t, h⟩ := h
  exact x_c (pe_glob hg h (v := .str i) ⟨t, rfl⟩ hd) fun _ _ => .str i
end
end Mi
end
section
namespace Mi
open PySem
def Rn {α : Type} (r : R α) (Q : α → Prop) : Prop := match r with
  | .ok a => Q a
  | _ => False
section
variable {α β : Type}
theorem Rn.ok {a : α} {Q : α → Prop} (h : Q a) : Rn (.ok a) Q := h
@[simp] theorem rn_ok {a : α} {Q : α → Prop} : Rn (.ok a) Q ↔ Q a := Iff.rfl
theorem Rn.ex {r : R α} {Q : α → Prop} (h : Rn r Q) : ∃ a, r = .ok a ∧ Q a := by
  cases r with
  | ok a => exact ⟨a, rfl, h⟩
  | ex e S => exact h.elim
  | no => exact h.elim
theorem Rn.of {r : R α} {Q : α → Prop} {a : α} (e : r = .ok a) (h : Q a) : Rn r Q := by rw [e]; exact h
theorem Rn.mono {r : R α} {Q Q' : α → Prop} (h : Rn r Q) (g : ∀ a, Q a → Q' a) : Rn r Q' := by
  obtain ⟨a, rfl, h⟩ := h.ex
  exact g a h
theorem Rn.bd {x : R (α × Store)} {f : α → Store → R β} {Q : β → Prop} (h : Rn x fun p => Rn (f p.1 p.2) Q) : Rn (Mi.bd x f) Q := by
  obtain ⟨a, rfl, h⟩ := h.ex
  exact h
theorem Rn.bx {x : R α} {f : α → R β} {Q : β → Prop} (h : Rn x fun p => Rn (f p) Q) : Rn (Mi.bx x f) Q := by
  obtain ⟨a, rfl, h⟩ := h.ex
  exact h
theorem Rn.bs {x : R (Fl × Env × Store)} {f : Fl → Env → Store → R β} {Q : β → Prop} (h : Rn x fun p => Rn (f p.1 p.2.1 p.2.2) Q) : Rn (Mi.bs x f) Q := by
  obtain ⟨a, rfl, h⟩ := h.ex
  exact h
theorem Rn.when {c : Bool} {r : R α} {Q : α → Prop} (hc : c = true) (h : Rn r Q) : Rn (when_ c r) Q := by
  subst hc
  exact h
theorem bd_of {x : R (α × Store)} {f : α → Store → R β} {a : α} {S : Store} (e : x = .ok (a, S)) : Mi.bd x f = f a S := by rw [e]; rfl
theorem bx_of {x : R α} {f : α → R β} {a : α} (e : x = .ok a) : Mi.bx x f = f a := by rw [e]; rfl
theorem bs_of {x : R (Fl × Env × Store)} {f : Fl → Env → Store → R β} {a : Fl} {σ : Env} {S : Store} (e : x = .ok (a, σ, S)) : Mi.bs x f = f a σ S := by rw [e]; rfl
theorem when_of {c : Bool} {r : R α} (hc : c = true) : when_ c r = r := by rw [hc]; rfl
end
section
variable {tg : Tg} {g : List (Nat × Cell)} {body : Sm}
theorem for_rn (I : Nat → Env → Store → Prop) {Q : Fl × Env × Store → Prop} : ∀ (xs : List PyData) (k : Nat) (σ : Env) (S : Store), I k σ S → (∀ k σ S, I k σ S → stand g S = true) →
    (∀ (j : Nat) (x : PyData) (σ : Env) (S : Store), xs[j]? = some x → I (k + j) σ S → Rn (tg x σ) fun σ1 => Rn (body σ1 S) fun p => (p.1 = .nx ∨ p.1 = .ct) ∧ I (k + j + 1) p.2.1 p.2.2) →
    (∀ σ S, I (k + xs.length) σ S → Q (.nx, σ, S)) → Rn (forL tg g body xs σ S) Q
  | [], k, σ, S, h, hs, _, hq => by
    show Rn (when_ (stand g S) _) Q
    rw [hs k σ S h]
    exact hq σ S h
  | x :: xs, k, σ, S, h, hs, hb, hq => by
    show Rn (when_ (stand g S) _) Q
    rw [hs k σ S h]
    refine Rn.bx ((hb 0 x σ S rfl h).mono fun σ1 h1 => Rn.bs (h1.mono fun p h2 => ?_))
    obtain ⟨f, σ2, S2⟩ := p
    obtain ⟨hf, h2⟩ := h2
    have next : Rn (forL tg g body xs σ2 S2) Q := for_rn I xs (k + 1) σ2 S2 h2 hs (fun j y σ S hy hi => by
      have e : k + 1 + j = k + (j + 1) := by omega
      rw [e] at hi ⊢
      exact hb (j + 1) y σ S (by simpa using hy) hi) (fun σ S hi => hq σ S (by
        rw [List.length_cons]
        have e : k + (xs.length + 1) = k + 1 + xs.length := by omega
        rw [e]
        exact hi))
    rcases hf with rfl | rfl
    · exact next
    · exact next
theorem stand_snoc {g : List (Nat × Cell)} {S : Store} {c : Cell} (h : stand g S = true) : stand g (S ++ [c]) = true := by
  unfold stand at h ⊢
  simp only [decide_eq_true_eq] at h ⊢
  intro p hp
  have := h p hp
  rw [List.getElem?_append_left (List.getElem?_eq_some_iff.mp this).1]
  exact this
theorem stand_last {S : Store} {c : Cell} : stand [(S.length, c)] (S ++ [c]) = true := stand_one (by simp)
end
end Mi
end
section
namespace Mi
open PySem
noncomputable section
def tk_body : Sm := sSeq (sIf (tE (mO2 pGt (mIx (mV 0) (mC (.int 0))) (mC (.int 0)))) (sSeq (sAsg 2 (mO2 pMod (mIx (mV 0) (mC (.int 0))) (mV 1)))
        (sSeq (sSetL (mV 0) (mC (.int 0)) (mO2 pDiv (mIx (mV 0) (mC (.int 0))) (mV 1)))
        (sRet (mV 2)))) (sPass))
        (sSeq (sSetL (mV 0) (mC (.int 2)) (mO2 pAdd (mIx (mV 0) (mC (.int 2))) (mC (.int 1))))
        (sSeq (sAsg 3 (mIx (mLst (aCons (mC (.int 2147483647)) (aCons (mC (.int 2147483629)) (aCons (mC (.int 2147483587)) (aCons (mC (.int 2147483579)) (aCons (mC (.int 2147483563)) aNil)))))) (mO2 pMod (mIx (mV 0) (mC (.int 2))) (mC (.int 5)))))
        (sSeq (sAsg 4 (mO2 pMod (mO2 pPow (mO2 pAdd (mO2 pAdd (mIx (mV 0) (mC (.int 1))) (mO2 pMul (mO2 pMul (mC (.int 40009)) (mIx (mV 0) (mC (.int 2)))) (mIx (mV 0) (mC (.int 2))))) (mC (.int 31))) (mC (.int 3))) (mV 3)))
        (sRet (mO2 pMod (mO2 pDiv (mO2 pMod (mO2 pMul (mV 4) (mO2 pAdd (mO2 pMod (mV 4) (mC (.int 10009))) (mO2 pMul (mC (.int 89)) (mIx (mV 0) (mC (.int 2)))))) (mC (.int 2305843009213693907))) (mC (.int 89))) (mV 1))))))
def tk : Fn := fnOf fin 2 5 tk_body
end
def PotAt (b : Nat) (S : Store) (i : Nat) : Prop := ∃ g m c : Int, S[i]? = some (.lst [.int g, .int m, .int c]) ∧ 0 ≤ g ∧ 0 ≤ m ∧ m < 2 ^ 62 ∧ 0 ≤ c ∧ c ≤ b
theorem log_lt {x : Int} {k : Nat} (h0 : 0 ≤ x) (h : x < 2 ^ k) (hk : 0 < k) : x.natAbs.log2 < k := by
  by_cases e : x.natAbs = 0
  · rw [e]
    simpa using hk
  · rw [Nat.log2_lt e]
    have : (x.natAbs : Int) = x := Int.natAbs_of_nonneg h0
    have h2 : ((2 ^ k : Nat) : Int) = 2 ^ k := by simp
    omega
theorem mul_ok {i j : Int} (h0 : 0 ≤ i) (h1 : i < 2 ^ 250) (h2 : 0 ≤ j) (h3 : j < 2 ^ 250) : mulOk i j = true := by
  have a := log_lt h0 h1 (by decide)
  have b := log_lt h2 h3 (by decide)
  exact decide_eq_true (by omega)
theorem ev_V {i : Nat} {σ : Env} {S : Store} {d : D} (h : σ[i]? = some (some d)) : mV i σ S = .ok (d, S) := by simp [mV, h]
theorem ev_C {d : PyData} {σ : Env} {S : Store} : mC d σ S = .ok (.p d, S) := rfl
theorem ev_O2 {f : PyData → PyData → R PyData} {a b : Ex} {σ : Env} {S S1 S2 : Store} {x y : D} {u v z : PyData} (ha : a σ S = .ok (x, S1)) (hb : b σ S1 = .ok (y, S2)) (hu : dv S2 x = .ok u) (hv : dv S2 y = .ok v) (hf : f u v = .ok z) : mO2 f a b σ S = .ok (.p z, S2) := by
  unfold mO2
  rw [bd_of ha, bd_of hb, bx_of hu, bx_of hv, bx_of hf]
theorem ev_O1 {f : PyData → R PyData} {a : Ex} {σ : Env} {S S1 : Store} {x : D} {u z : PyData} (ha : a σ S = .ok (x, S1)) (hu : dv S1 x = .ok u) (hf : f u = .ok z) : mO1 f a σ S = .ok (.p z, S1) := by
  unfold mO1
  rw [bd_of ha, bx_of hu, bx_of hf]
theorem ev_P2 {f : PyData → PyData → R PyData} {a b : Ex} {σ : Env} {S : Store} {u v z : PyData} (ha : a σ S = .ok (.p u, S)) (hb : b σ S = .ok (.p v, S)) (hf : f u v = .ok z) : mO2 f a b σ S = .ok (.p z, S) := ev_O2 ha hb rfl rfl hf
theorem ev_P1 {f : PyData → R PyData} {a : Ex} {σ : Env} {S : Store} {u z : PyData} (ha : a σ S = .ok (.p u, S)) (hf : f u = .ok z) : mO1 f a σ S = .ok (.p z, S) := ev_O1 ha rfl hf
theorem ev_tE {a : Ex} {σ : Env} {S S1 : Store} {b : Bool} (ha : a σ S = .ok (.p (.bool b), S1)) : tE a σ S = .ok (b, S1) := by
  unfold tE
  rw [bd_of ha]
theorem ev_seq {a b : Sm} {σ σ1 : Env} {S S1 : Store} (ha : a σ S = .ok (.nx, σ1, S1)) : sSeq a b σ S = b σ1 S1 := by
  unfold sSeq
  rw [bs_of ha]
theorem ev_asg {i : Nat} {a : Ex} {σ : Env} {S S1 : Store} {x : D} (ha : a σ S = .ok (x, S1)) : sAsg i a σ S = .ok (.nx, σ.set i (some x), S1) := by
  unfold sAsg
  rw [bd_of ha]
theorem ev_ret {a : Ex} {σ : Env} {S S1 : Store} {x : D} (ha : a σ S = .ok (x, S1)) : sRet a σ S = .ok (.rt x, σ, S1) := by
  unfold sRet
  rw [bd_of ha]
theorem ev_lst {as : As} {σ : Env} {S S1 S2 : Store} {ds : List D} {xs : List PyData} (ha : as σ S = .ok (ds, S1)) (hf : fzs ds S1 = .ok (xs, S2)) (hl : xs.length ≤ 16777216) : mLst as σ S = .ok (.p (.list xs), S2) := by
  unfold mLst
  rw [bd_of ha, bd_of hf, when_of (decide_eq_true hl)]
theorem ev_cons {a : Ex} {r : As} {σ : Env} {S S1 S2 : Store} {x : D} {xs : List D} (ha : a σ S = .ok (x, S1)) (hr : r σ S1 = .ok (xs, S2)) : aCons a r σ S = .ok (x :: xs, S2) := by
  unfold aCons
  rw [bd_of ha, bd_of hr]
theorem ev_nil {σ : Env} {S : Store} : aNil σ S = .ok ([], S) := rfl
theorem ev_call {f : Fn} {as : As} {σ : Env} {S S1 : Store} {ds : List D} {r : R (D × Store)} (ha : as σ S = .ok (ds, S1)) (hf : f ds S1 = r) : mCall f as σ S = r := by
  unfold mCall
  rw [bd_of ha, hf]
theorem ev_fn {np slots : Nat} {body : Sm} {ds : List D} {S S1 : Store} {σ1 : Env} {d : PyData} (hl : ds.length = np) (hb : body (start slots ds) S = .ok (.rt (.p d), σ1, S1)) : fnOf fin np slots body ds S = .ok (.p d, S1.take S.length) := by
  unfold fnOf
  rw [when_of (decide_eq_true hl), bs_of hb]
  rfl
theorem ev_new {a : Ex} {σ : Env} {S S1 : Store} {xs : List PyData} (ha : a σ S = .ok (.p (.list xs), S1)) : mNew a σ S = .ok (.ref S1.length, S1 ++ [.lst xs]) := by
  unfold mNew
  rw [bd_of ha]
theorem pMod_ok {a b : Int} (h : 0 < b) : pMod (.int a) (.int b) = .ok (.int (a % b)) := when_of (decide_eq_true h)
theorem pMul_ok {a b : Int} (h0 : 0 ≤ a) (h1 : a < 2 ^ 250) (h2 : 0 ≤ b) (h3 : b < 2 ^ 250) : pMul (.int a) (.int b) = .ok (.int (a * b)) := when_of (mul_ok h0 h1 h2 h3)
theorem pPow_ok {a b : Int} (h0 : 0 ≤ b) (h1 : b ≤ 1000) (h2 : 0 ≤ a) (h3 : a < 2 ^ 250) : pPow (.int a) (.int b) = .ok (.int (a ^ b.toNat)) := when_of (decide_eq_true ⟨h0, h1, by have := log_lt h2 h3 (by decide); omega⟩)
theorem sq_bound {c : Int} {B : Int} (h0 : 0 ≤ c) (h1 : c < B) : c * c < B * B ∧ 0 ≤ c * c := by
  have h2 : c * c ≤ c * B := Int.mul_le_mul_of_nonneg_left (by omega) h0
  have h3 : c * B < B * B := Int.mul_lt_mul_of_pos_right h1 (by omega)
  exact ⟨by omega, Int.mul_nonneg h0 h0⟩
end Mi
end
section
namespace Mi
open PySem
noncomputable section
def po_body : Sm := sSeq (sAsg 2 (mIf (tE (mO2 pLt (mV 1) (mLen (mV 0)))) (mIx (mV 0) (mV 1)) (mO2 pAdd (mO2 pMul (mC (.int 17)) (mV 1)) (mC (.int 3)))))
        (sSeq (sAsg 3 (mIf (tE (mO2 pGe (mO1 pAbs (mV 2)) (mO2 pPow (mC (.int 10)) (mC (.int 18))))) (mO2 pMod (mO1 pAbs (mV 2)) (mO2 pPow (mO2 pPow (mC (.int 10)) (mC (.int 60))) (mC (.int 3)))) (mC (.int 0))))
        (sRet (mNew (mLst (aCons (mV 3) (aCons (mO2 pMod (mO2 pAdd (mO2 pAdd (mO2 pMul (mO2 pMod (mV 2) (mC (.int 2305843009213693951))) (mC (.int 69621))) (mO2 pMul (mO2 pMul (mC (.int 104729)) (mV 1)) (mV 1))) (mC (.int 71))) (mC (.int 2305843009213693921))) (aCons (mC (.int 0)) aNil)))))))
def po : Fn := fnOf finM 2 4 po_body
def mx_body : Sm := sSeq (sPar [2, 3] (aCons (mNew (mO1 pList (mV 1))) (aCons (mNew (mLst aNil)) aNil)))
        (sSeq (sWhile (tE (mO2 pNe (mV 2) (mLst aNil))) (sDrop (mAppend (mV 3) (mPop1 (mV 2) (mCall tk (aCons (mV 0) (aCons (mLen (mV 2)) aNil)))))))
        (sRet (mV 3)))
def mx : Fn := fnOf fin 2 4 mx_body
end
theorem ev_ifX {t : Bx} {a b : Ex} {σ : Env} {S S1 : Store} {c : Bool} {r : R (D × Store)} (h : t σ S = .ok (c, S1)) (hr : (if c = true then a σ S1 else b σ S1) = r) : mIf t a b σ S = r := by
  unfold mIf
  rw [bd_of h, hr]
theorem ev_lenS {a : Ex} {σ : Env} {S : Store} {ns : List Int} (ha : a σ S = .ok (.scr ns, S)) : mLen a σ S = .ok (.p (.int ns.length), S) := by
  unfold mLen
  rw [bd_of ha, bx_of (dvr_scr S ns)]
  simp [pLen, bx]
theorem atD_nat {α : Type} {xs : List α} {k : Nat} (h : k < xs.length) : atD xs (k : Int) = some xs[k] := by
  unfold atD ixN
  rw [if_pos (by omega), if_pos (by omega)]
  simp [h]
theorem pot_ok {S : Store} {ns : List Int} {k : Nat} (hk : k < 100) : ∃ c, po [.scr ns, .p (.int k)] S = .ok (.ref S.length, S ++ [c]) ∧ PotAt 0 (S ++ [c]) S.length := by
  obtain ⟨cell, hcell⟩ : ∃ cell : Int, mIf (tE (mO2 pLt (mV 1) (mLen (mV 0)))) (mIx (mV 0) (mV 1)) (mO2 pAdd (mO2 pMul (mC (.int 17)) (mV 1)) (mC (.int 3))) [some (.scr ns), some (.p (.int k)), none, none] S = .ok (.p (.int cell), S) := by
    by_cases hlt : k < ns.length
    · refine ⟨ns[k], ev_ifX (ev_tE (ev_P2 (ev_V rfl) (ev_lenS (ev_V rfl)) (z := .bool true) (by simp [pLt, hlt]))) ?_⟩
      rw [if_pos rfl]
      unfold mIx
      rw [bd_of (ev_V rfl), bd_of (ev_V rfl)]
      have : atD (ns.map PyData.int) (k : Int) = some (.int ns[k]) := by
        rw [atD_nat (by simpa using hlt)]
        simp
      simp [dictOf, dvr, bx, pIx, this]
    · refine ⟨17 * k + 3, ev_ifX (ev_tE (ev_P2 (ev_V rfl) (ev_lenS (ev_V rfl)) (z := .bool false) (by simp [pLt]; omega))) ?_⟩
      rw [if_neg (by simp)]
      exact ev_P2 (ev_P2 ev_C (ev_V rfl) (pMul_ok (by decide) (by decide) (by omega) (by omega))) ev_C rfl
  obtain ⟨g, hg, hg0⟩ : ∃ g : Int, mIf (tE (mO2 pGe (mO1 pAbs (mV 2)) (mO2 pPow (mC (.int 10)) (mC (.int 18))))) (mO2 pMod (mO1 pAbs (mV 2)) (mO2 pPow (mO2 pPow (mC (.int 10)) (mC (.int 60))) (mC (.int 3)))) (mC (.int 0)) [some (.scr ns), some (.p (.int k)), some (.p (.int cell)), none] S = .ok (.p (.int g), S) ∧ 0 ≤ g := by
    have ht := ev_tE (b := decide ((10 : Int) ^ (18 : Int).toNat ≤ if cell < 0 then -cell else cell)) (ev_P2 (σ := [some (.scr ns), some (.p (.int k)), some (.p (.int cell)), none]) (S := S) (ev_P1 (f := pAbs) (ev_V (i := 2) rfl) rfl) (ev_P2 ev_C ev_C (pPow_ok (a := 10) (b := 18) (by decide) (by decide) (by decide) (by decide))) (f := pGe) rfl)
    by_cases hb : (10 : Int) ^ (18 : Int).toNat ≤ if cell < 0 then -cell else cell
    · rw [decide_eq_true hb] at ht
      refine ⟨(if cell < 0 then -cell else cell) % ((10 : Int) ^ (60 : Int).toNat) ^ (3 : Int).toNat, ev_ifX ht ?_, ?_⟩
      · rw [if_pos rfl]
        exact ev_P2 (ev_P1 (ev_V rfl) rfl) (ev_P2 (ev_P2 ev_C ev_C (pPow_ok (a := 10) (b := 60) (by decide) (by decide) (by decide) (by decide))) ev_C (pPow_ok (b := 3) (by decide) (by decide) (by decide) (by decide))) (pMod_ok (by decide))
      · exact Int.emod_nonneg _ (by decide)
    · rw [decide_eq_false hb] at ht
      exact ⟨0, ev_ifX ht rfl, Int.le_refl _⟩
  have hm0 := Int.emod_nonneg cell (show (2305843009213693951 : Int) ≠ 0 by decide)
  have hm1 := Int.emod_lt_of_pos cell (show (0 : Int) < 2305843009213693951 by decide)
  have hkk := sq_bound (c := (k : Int)) (B := 100) (by omega) (by omega)
  let m : Int := (cell % 2305843009213693951 * 69621 + 104729 * k * k + 71) % 2305843009213693921
  have hM0 : 0 ≤ m := Int.emod_nonneg _ (by decide)
  have hM1 : m < 2305843009213693921 := Int.emod_lt_of_pos _ (by decide)
  refine ⟨.lst [.int g, .int m, .int 0], ?_, ⟨g, m, 0, by simp, hg0, hM0, by omega, Int.le_refl _, by omega⟩⟩
  have hst : start 4 [D.scr ns, .p (.int (k : Int))] = [some (.scr ns), some (.p (.int k)), none, none] := rfl
  have hbody : po_body (start 4 [D.scr ns, .p (.int (k : Int))]) S = .ok (.rt (.ref S.length), [some (.scr ns), some (.p (.int k)), some (.p (.int cell)), some (.p (.int g))], S ++ [.lst [.int g, .int m, .int 0]]) := by
    rw [hst]
    unfold po_body
    rw [ev_seq (ev_asg hcell), show ([some (.scr ns), some (.p (.int k)), none, none] : Env).set 2 (some (.p (.int cell))) = [some (.scr ns), some (.p (.int k)), some (.p (.int cell)), none] from rfl]
    rw [ev_seq (ev_asg hg), show ([some (.scr ns), some (.p (.int k)), some (.p (.int cell)), none] : Env).set 3 (some (.p (.int g))) = [some (.scr ns), some (.p (.int k)), some (.p (.int cell)), some (.p (.int g))] from rfl]
    refine ev_ret (ev_new (ev_lst (S2 := S) (xs := [.int g, .int m, .int 0]) (ev_cons (ev_V rfl) (ev_cons (ev_P2 (ev_P2 (ev_P2 (ev_P2 (ev_P2 (ev_V rfl) ev_C (pMod_ok (by decide))) ev_C (pMul_ok (by omega) (by omega) (by omega) (by omega))) (ev_P2 (ev_P2 ev_C (ev_V rfl) (pMul_ok (by omega) (by omega) (by omega) (by omega))) (ev_V rfl) (pMul_ok (by omega) (by omega) (by omega) (by omega))) rfl) ev_C rfl) ev_C (pMod_ok (by decide))) (ev_cons ev_C ev_nil))) rfl (by simp)))
  show fnOf finM 2 4 po_body _ _ = _
  unfold fnOf
  rw [when_of (by rfl), bs_of hbody]
  simp [finM, cutEx]
def Fl1 (d : PyData) : Prop := d.plain = true ∧ d.depth ≤ 900
theorem plainAll_of {xs : List PyData} (h : ∀ x ∈ xs, x.plain = true) : PyData.plainAll xs = true := by
  induction xs with
  | nil => rfl
  | cons x xs ih =>
    rw [PyData.plainAll, h x (by simp), ih fun y hy => h y (by simp [hy])]
    rfl
theorem depthAll_of {xs : List PyData} {n : Nat} (h : ∀ x ∈ xs, x.depth ≤ n) : PyData.depthAll xs ≤ n := by
  induction xs with
  | nil => simp [PyData.depthAll]
  | cons x xs ih =>
    rw [PyData.depthAll]
    have a := h x (by simp)
    have b := ih fun y hy => h y (by simp [hy])
    omega
theorem flat_l {xs : List PyData} (h : ∀ x ∈ xs, Fl1 x) : flat? (.list xs) = true := by
  unfold flat?
  rw [PyData.plain, plainAll_of fun x hx => (h x hx).1, PyData.depth]
  have := depthAll_of fun x hx => (h x hx).2
  exact decide_eq_true (by omega)
theorem flat_t {xs : List PyData} (h : ∀ x ∈ xs, Fl1 x) : flat? (.tuple xs) = true := by
  unfold flat?
  rw [PyData.plain, plainAll_of fun x hx => (h x hx).1, PyData.depth]
  have := depthAll_of fun x hx => (h x hx).2
  exact decide_eq_true (by omega)
theorem fl_int (i : Int) : Fl1 (.int i) := ⟨rfl, by rw [PyData.depth]; omega⟩
theorem PotAt.mono {b b' : Nat} {S : Store} {i : Nat} (h : PotAt b S i) (hb : b ≤ b') : PotAt b' S i := by
  obtain ⟨g, m, c, h1, h2, h3, h4, h5, h6⟩ := h
  exact ⟨g, m, c, h1, h2, h3, h4, h5, by omega⟩
theorem PotAt.lt {b : Nat} {S : Store} {i : Nat} (h : PotAt b S i) : i < S.length := by
  obtain ⟨g, m, c, h1, _⟩ := h
  exact (List.getElem?_eq_some_iff.mp h1).1
theorem PotAt.left {b : Nat} {S T : Store} {i : Nat} (h : PotAt b (S ++ T) i) (hi : i < S.length) : PotAt b S i := by
  obtain ⟨g, m, c, h1, h2⟩ := id h
  rw [List.getElem?_append_left hi] at h1
  exact ⟨g, m, c, h1, h2⟩
end Mi
end
section
namespace Mi
open PySem
abbrev dI (n : Nat) : PyData := .int (n : Int)
def dT (o : List Nat) : PyData := .tuple (o.map dI)
def sortN (o : List Nat) : List Nat := o.mergeSort fun a b => decide (a ≤ b)
theorem sortN_perm (o : List Nat) : (sortN o).Perm o := List.mergeSort_perm o _
theorem sortN_sorted (o : List Nat) : (sortN o).Pairwise (· ≤ ·) := by
  have := List.pairwise_mergeSort (le := fun a b : Nat => decide (a ≤ b)) (fun a b c h1 h2 => by simp at h1 h2 ⊢; omega) (fun a b => by simp; omega) o
  exact this.imp fun h => by simpa using h
theorem sortN_mem {o : List Nat} {x : Nat} : x ∈ sortN o ↔ x ∈ o := (sortN_perm o).mem_iff
theorem eqv_nat (a b : Nat) : PyData.eqv (dI a) (dI b) = decide (a = b) := by
  rw [PyData.eqv]
  by_cases h : a = b
  · subst h
    simp
  · have h2 : ¬ (a : Int) = (b : Int) := by omega
    simp [h, h2]
theorem inItems_nat (x : Nat) (o : List Nat) : inItems (dI x) (o.map dI) = decide (x ∈ o) := by
  unfold inItems
  induction o with
  | nil => rfl
  | cons y o ih =>
    rw [List.map_cons, List.any_cons, ih, eqv_nat]
    by_cases h : y = x
    · subst h
      simp
    · simp [h, Ne.symm h]
theorem flat_nats (o : List Nat) : flat? (.tuple (o.map dI)) = true := flat_t fun x hx => by
  obtain ⟨n, _, rfl⟩ := List.mem_map.mp hx
  exact fl_int _
theorem flat_int (i : Int) : flat? (.int i) = true := by
  unfold flat?
  rw [PyData.depth]
  rfl
theorem pIn_nat (x : Nat) (o : List Nat) : pIn (dI x) (dT o) = .ok (.bool (decide (x ∈ o))) := by
  unfold dT
  show when_ (flat? (dI x) && flat? (.tuple (o.map dI))) _ = _
  rw [flat_int, flat_nats, inItems_nat]
  rfl
theorem pEq_int (a b : Int) : pEq (.int a) (.int b) = .ok (.bool (decide (a = b))) := by
  unfold pEq
  rw [flat_int, flat_int]
  simp [PyData.eqv]
  rfl
theorem pNe_int (a b : Int) : pNe (.int a) (.int b) = .ok (.bool (!decide (a = b))) := by
  unfold pNe
  rw [flat_int, flat_int]
  simp [PyData.eqv]
  rfl
def Ord (o : List Nat) : Prop := o.Perm (List.range o.length)
theorem Ord.nodup {o : List Nat} (h : Ord o) : o.Nodup := h.nodup_iff.mpr List.nodup_range
theorem Ord.mem {o : List Nat} (h : Ord o) {x : Nat} : x ∈ o ↔ x < o.length := by rw [h.mem_iff, List.mem_range]
theorem Ord.idx_lt {o : List Nat} (h : Ord o) {x : Nat} (hx : x < o.length) : o.idxOf x < o.length := List.idxOf_lt_length_iff.mpr (h.mem.mpr hx)
theorem Ord.idx_at {o : List Nat} (h : Ord o) {i : Nat} (hi : i < o.length) : o.idxOf o[i] = i := h.nodup.idxOf_getElem i hi
theorem Ord.at_idx {o : List Nat} (h : Ord o) {x : Nat} (hx : x < o.length) : o[o.idxOf x]'(h.idx_lt hx) = x := List.getElem_idxOf (h.idx_lt hx)
theorem Ord.at_lt {o : List Nat} (h : Ord o) {i : Nat} (hi : i < o.length) : o[i] < o.length := h.mem.mp (List.getElem_mem hi)
def beats (o : List Nat) (k : Nat) : List Nat := sortN (o.drop (o.idxOf k + 1))
def tab (o : List Nat) : List (List Nat) := (List.range o.length).map (beats o)
theorem Ord.mem_beats {o : List Nat} (h : Ord o) {k x : Nat} (hk : k < o.length) : x ∈ beats o k ↔ x < o.length ∧ o.idxOf k < o.idxOf x := by
  unfold beats
  rw [sortN_mem, List.mem_drop_iff_getElem]
  constructor
  · rintro ⟨i, hi, rfl⟩
    refine ⟨h.at_lt _, ?_⟩
    rw [h.idx_at]
    omega
  · rintro ⟨hx, hi⟩
    have hl := h.idx_lt hx
    refine ⟨o.idxOf x - (o.idxOf k + 1), by omega, ?_⟩
    have e : o.idxOf k + 1 + (o.idxOf x - (o.idxOf k + 1)) = o.idxOf x := by omega
    simp only [e]
    exact h.at_idx hx
end Mi
end
section
namespace Mi
open PySem
noncomputable section
end
theorem ev_comp {own : List Nat} {src : Is} {t : Tg} {cond : Bx} {elt : Ex} {σ : Env} {S S1 : Store} {s : Src} {r : R (D × Store)} (hs : src σ S = .ok (s, S1)) (hl : s.items.length ≤ 16777216) (hr : compL own t cond elt s.g σ s.items [] S1 = r) : mComp own src t cond elt σ S = r := by
  unfold mComp
  rw [bd_of hs, when_of (decide_eq_true hl), hr]
theorem src_r1 {a : Ex} {σ : Env} {S : Store} {n : Nat} (ha : a σ S = .ok (.p (.int n), S)) (hn : n < 2 ^ 60) : iR1 a σ S = .ok (⟨(List.range n).map dI, []⟩, S) := by
  unfold iR1
  rw [bd_of ha]
  have e : rgD 0 (n : Int) = (List.range n).map dI := by
    unfold rgD
    simp
  dsimp only
  rw [when_of (decide_eq_true ⟨by omega, by omega⟩), e]
theorem numD_at' : ∀ (k : Nat) (xs : List PyData) (i : Nat), (numD k xs)[i]? = xs[i]?.map fun x => .tuple [dI (k + i), x]
  | _, [], i => by simp [numD]
  | k, x :: xs, 0 => by simp [numD]
  | k, x :: xs, i + 1 => by
    show (numD (k + 1) xs)[i]? = _
    rw [numD_at' (k + 1) xs i, List.getElem?_cons_succ]
    have e : k + 1 + i = k + (i + 1) := by omega
    rw [e]
theorem fn_data {np slots : Nat} {body : Sm} {ds : List D} {S S1 : Store} {σ1 : Env} {d : PyData} (hl : ds.length = np) (hb : body (start slots ds) S = .ok (.rt (.p d), σ1, S1)) (hS : S1.take S.length = S) : fnOf fin np slots body ds S = .ok (.p d, S) := by
  rw [ev_fn hl hb, hS]
theorem tab_at {o : List Nat} {k : Nat} (hk : k < o.length) : (tab o)[k]? = some (beats o k) := by
  unfold tab
  rw [List.getElem?_map, List.getElem?_range hk]
  rfl
theorem tab_len (o : List Nat) : (tab o).length = o.length := by simp [tab]
theorem pMul_list {a : List PyData} {k : Int} (h0 : 0 ≤ k) (h1 : k < 2 ^ 60) (h2 : a.length * k.toNat ≤ 16777216) : pMul (.list a) (.int k) = .ok (.list (List.replicate k.toNat a).flatten) := by
  unfold pMul
  dsimp only
  rw [when_of (decide_eq_true ⟨by omega, by omega, h2⟩)]
end Mi
end
section
namespace Mi
open PySem
section
variable {tg : Tg} {g : List (Nat × Cell)}
end
theorem beats_len {o : List Nat} (h : Ord o) {k : Nat} (hk : k < o.length) : (beats o k).length = o.length - 1 - o.idxOf k := by
  unfold beats
  rw [(sortN_perm _).length_eq, List.length_drop]
  have := h.idx_lt hk
  omega
theorem bools_true (n : Nat) {α : Type} (xs : List α) : bools? (xs.map fun _ => PyData.bool true) = some (xs.map fun _ => true) := by
  induction xs with
  | nil => rfl
  | cons x xs ih => simp [bools?, ih]
theorem pAll_true {α : Type} (xs : List α) : pAll (.list (xs.map fun _ => PyData.bool true)) = .ok (.bool true) := by
  show orNo _ = _
  rw [bools_true 0]
  simp
end Mi
end
section
namespace Mi
open PySem
noncomputable section
def bIsInteger : Sm := sRet (mAnd (mO1 (pIsa "int") (mV 0)) (mAnd (mO1 pNot (mO1 (pIsa "bool") (mV 0))) (mCh pLe pLe (mV 1) (mV 0) (mV 2))))
def fIsInteger : Fn := fnOf fin 3 3 bIsInteger
def bAreKeys : Sm := sSeq (sIf (tOr (Mi.tNot (tE (mO1 (pIsa "tuple") (mV 0)))) (Mi.tNot (tE (mO1 pAll (mComp [2] (iE (mV 0)) (gN 2) tYes (mCall fIsInteger (aCons (mV 2) (aCons (mC (.int 0)) (aCons (mO2 pSub (mV 1) (mC (.int 1))) aNil))))))))) (sRet (mC (.bool false))) (sPass))
        (sRet (mO1 pAll (mComp [2, 3] (iZip (mV 0) (mCut (mV 0) (oE (mC (.int 1))) oNo)) (gT [gN 2, gN 3]) tYes (mO2 pLt (mV 2) (mV 3)))))
def fAreKeys : Fn := fnOf fin 2 4 bAreKeys
def bIsTable : Sm := sSeq (sIf (tOr (Mi.tNot (tE (mO1 (pIsa "tuple") (mV 0)))) (tOr (tE (mO2 pNe (mLen (mV 0)) (mV 1))) (Mi.tNot (tE (mO1 pAll (mComp [3] (iE (mV 0)) (gN 3) tYes (mCall fAreKeys (aCons (mV 3) (aCons (mV 1) aNil))))))))) (sRet (mC (.bool false))) (sPass))
        (sSeq (sFor (iEnum (mV 0)) (gT [gN 2, gN 3]) (sFor (iR1 (mV 1)) (gN 4) (sIf (tE (mO2 pEq (mIn (mV 4) (mV 3)) (mOr (mO2 pEq (mV 2) (mV 4)) (mIn (mV 2) (mIx (mV 0) (mV 4)))))) (sRet (mC (.bool false))) (sPass))))
        (sRet (mC (.bool true))))
def fIsTable : Fn := fnOf fin 2 5 bIsTable
end
theorem beats_pair {o : List Nat} (h : Ord o) (k : Nat) : (beats o k).Pairwise (· < ·) := by
  unfold beats
  have h1 := sortN_sorted (o.drop (o.idxOf k + 1))
  have h2 : (sortN (o.drop (o.idxOf k + 1))).Nodup := (sortN_perm _).nodup_iff.mpr (h.nodup.sublist (List.drop_sublist _ _))
  have := h1.and h2
  exact this.imp fun ⟨a, b⟩ => by omega
end Mi
end
section
namespace Mi
open PySem
theorem sz_app (a b : Str) : (a ++ b).length = a.length + b.length := by
  show (a.cps ++ b.cps).size = _
  rw [Array.size_append]
  rfl
theorem sum_le {B : Nat} : ∀ ts : List Str, (∀ t ∈ ts, t.length ≤ B) → (ts.map (·.length)).sum ≤ ts.length * B
  | [], _ => by simp
  | t :: ts, h => by
    have h1 := h t (by simp)
    have h2 := sum_le ts fun u hu => h u (by simp [hu])
    simp only [List.map_cons, List.sum_cons, List.length_cons, Nat.succ_mul]
    omega
theorem shown_all {B : Nat} : ∀ xs : List PyData, (∀ x ∈ xs, x.shown.length ≤ B) → (∀ t ∈ PyData.shownAll xs, t.length ≤ B) ∧ (PyData.shownAll xs).length = xs.length
  | [], _ => by simp [PyData.shownAll]
  | x :: xs, h => by
    obtain ⟨h1, h2⟩ := shown_all xs fun u hu => h u (by simp [hu])
    rw [PyData.shownAll]
    refine ⟨fun t ht => ?_, by simp [h2]⟩
    rcases List.mem_cons.mp ht with rfl | ht
    · exact h x (by simp)
    · exact h1 t ht
theorem shown_tuple_le {B : Nat} {xs : List PyData} (h : ∀ x ∈ xs, x.shown.length ≤ B) : (PyData.tuple xs).shown.length ≤ 4 + xs.length * (B + 2) := by
  obtain ⟨h1, h2⟩ := shown_all xs h
  rw [PyData.shown]
  unfold tupleText
  rw [sz_app, sz_app]
  have hj := StrLaws.join_length_le (Str.ofString ", ") (PyData.shownAll xs)
  have hs := sum_le _ h1
  have l1 : (Str.ofString "(").length = 1 := by decide +kernel
  have l2 : (Str.ofString ", ").length = 2 := by decide +kernel
  have l3 : (Str.ofString (if (PyData.shownAll xs).length == 1 then ",)" else ")")).length ≤ 2 := by
    split <;> decide +kernel
  rw [h2] at hj hs l3
  rw [l2] at hj
  rw [l1, h2]
  have e : xs.length * (B + 2) = xs.length * B + xs.length * 2 := Nat.mul_add _ _ _
  omega
theorem showableAll_of {xs : List PyData} (h : ∀ x ∈ xs, x.showable = true) : PyData.showableAll xs = true := by
  induction xs with
  | nil => rfl
  | cons x xs ih =>
    rw [PyData.showableAll, h x (by simp), ih fun y hy => h y (by simp [hy])]
    rfl
theorem hasDictAll_of {xs : List PyData} (h : ∀ x ∈ xs, x.hasDict = false) : PyData.hasDictAll xs = false := by
  induction xs with
  | nil => rfl
  | cons x xs ih =>
    rw [PyData.hasDictAll, h x (by simp), ih fun y hy => h y (by simp [hy])]
    rfl
structure Nice (d : PyData) (dp B : Nat) : Prop where
  sh : d.showable = true
  hd : d.hasDict = false
  pl : d.plain = true
  dp : d.depth ≤ dp
  sz : d.shown.length ≤ B
theorem Nice.tuple {xs : List PyData} {dp B n : Nat} (h : ∀ x ∈ xs, Nice x dp B) (hn : xs.length ≤ n) : Nice (.tuple xs) (dp + 1) (4 + n * (B + 2)) := by
  refine ⟨?_, ?_, ?_, ?_, Nat.le_trans (shown_tuple_le fun x hx => (h x hx).sz) ?_⟩
  · rw [PyData.showable]
    exact showableAll_of fun x hx => (h x hx).sh
  · rw [PyData.hasDict]
    exact hasDictAll_of fun x hx => (h x hx).hd
  · rw [PyData.plain]
    exact plainAll_of fun x hx => (h x hx).pl
  · rw [PyData.depth]
    have := depthAll_of fun x hx => (h x hx).dp
    omega
  · have := Nat.mul_le_mul_right (B + 2) hn
    omega
theorem Nice.repr {xs : List PyData} {dp B : Nat} (h : Nice (.tuple xs) dp B) (hd : dp ≤ 1000) (hB : B ≤ 16777216) : pRepr (.tuple xs) = .ok (.str (PyData.tuple xs).shown) := by
  unfold pRepr
  have h1 := h.dp
  have h2 := h.sz
  rw [h.sh, h.hd, h.pl, decide_eq_true (show (PyData.tuple xs).depth ≤ 1000 by omega), decide_eq_true (show (PyData.tuple xs).shown.length ≤ Line by show _ ≤ 16777216; omega)]
  rfl
end Mi
end
section
namespace Mi
open PySem
section
variable {tg : Tg} {g : List (Nat × Cell)}
theorem comp_mapT {α : Type} {own : List Nat} {elt : Ex} {σ : Env} {S : Store} (hs : stand g S = true) (f val : α → PyData) : ∀ (xs : List α) (acc : List PyData),
    (∀ x ∈ xs, ∃ σ1, tg (f x) (wipe σ own) = .ok σ1 ∧ ∀ acc, ∃ T, elt σ1 (S ++ [.lst acc]) = .ok (.p (val x), S ++ [.lst acc] ++ T)) →
    compL own tg tYes elt g σ (xs.map f) acc S = .ok (.p (.list (acc ++ xs.map val)), S)
  | [], acc, _ => by
    show when_ (stand g (S ++ [.lst acc])) _ = _
    rw [stand_snoc hs]
    simp
  | x :: xs, acc, h => by
    show when_ (stand g (S ++ [.lst acc])) _ = _
    rw [stand_snoc hs, when_true]
    obtain ⟨σ1, h1, h2⟩ := h x (by simp)
    obtain ⟨T, h3⟩ := h2 acc
    have tk : (S ++ [Cell.lst acc] ++ T).take S.length = S := by simp
    have st : stand [(S.length, Cell.lst acc)] (S ++ [Cell.lst acc] ++ T) = true := stand_one (by simp)
    rw [bx_of h1, bd_of (show tYes σ1 (S ++ [.lst acc]) = .ok (true, _) from rfl), if_pos rfl, bd_of h3, bd_of (fz_p _ _), when_of st, tk]
    have := comp_mapT hs f val xs (acc ++ [val x]) fun y hy => h y (by simp [hy])
    rw [this]
    simp
end
noncomputable def lawBody (f : Fn) (m : Int) : Sm := sRet (mO1 pAll (mComp [1] (iR1 (mO2 pMax2 (mC (.int 1)) (mO2 pMin2 (mC (.int m)) (mLen (mV 0))))) (gN 1) tYes (mCall f (aCons (mCall po (aCons (mV 0) (aCons (mV 1) aNil))) aNil))))
theorem idx_int (o : List Nat) (k : Nat) : (o.map (fun n : Nat => (n : Int))).idxOf (k : Int) = o.idxOf k := by
  induction o with
  | nil => rfl
  | cons x o ih =>
    rw [List.map_cons, List.idxOf_cons, List.idxOf_cons, ih]
    by_cases h : x = k
    · subst h
      rw [beq_self_eq_true, beq_self_eq_true]
    · have h2 : ¬ (x : Int) = (k : Int) := by omega
      have e1 : ((x : Int) == (k : Int)) = false := beq_eq_false_iff_ne.mpr h2
      have e2 : (x == k) = false := beq_eq_false_iff_ne.mpr h
      rw [e1, e2]
theorem pIndex_nat {o : List Nat} {k : Nat} (h : k ∈ o) : pIndex (dT o) (dI k) = .ok (.int (o.idxOf k : Nat)) := by
  have e : o.map dI = (o.map (fun n : Nat => (n : Int))).map .int := by rw [List.map_map]; rfl
  have hk : (k : Int) ∈ o.map (fun n : Nat => (n : Int)) := List.mem_map.mpr ⟨k, h, rfl⟩
  unfold dT
  rw [e]
  show bx (orNo ((items? (.tuple ((o.map (fun n : Nat => (n : Int))).map .int))).bind ints?)) (fun ns => when_ (decide ((k : Int) ∈ ns)) (R.ok (PyData.int (ns.idxOf (k : Int) : Nat)))) = _
  rw [items_tuple, Option.bind_some, ints_map, orNo_some, bx_of rfl, when_of (decide_eq_true hk), idx_int]
end Mi
end
section
namespace Mi
open PySem
def sq (b : Bool) (xs : List PyData) : PyData := match b with
  | true => .tuple xs
  | false => .list xs
end Mi
end
section
namespace Mi
open PySem
noncomputable section
end
def rl (r : Nat → Int) (a b : Nat) : Bool := decide (r a < r b ∨ (r a = r b ∧ a ≤ b))
def byRank (r : Nat → Int) (n : Nat) : List Nat := (List.range n).mergeSort (rl r)
theorem byRank_perm (r : Nat → Int) (n : Nat) : (byRank r n).Perm (List.range n) := List.mergeSort_perm _ _
theorem byRank_len (r : Nat → Int) (n : Nat) : (byRank r n).length = n := by rw [(byRank_perm r n).length_eq, List.length_range]
theorem byRank_ord (r : Nat → Int) (n : Nat) : Ord (byRank r n) := by
  unfold Ord
  rw [byRank_len]
  exact byRank_perm r n
theorem byRank_sorted (r : Nat → Int) (n : Nat) : (byRank r n).Pairwise fun a b => rl r a b = true := List.pairwise_mergeSort (fun a b c h1 h2 => by
    unfold rl at *
    rw [decide_eq_true_eq] at *
    omega) (fun a b => by
    unfold rl
    rw [Bool.or_eq_true, decide_eq_true_eq, decide_eq_true_eq]
    omega) _
theorem byRank_idx {r : Nat → Int} {n a b : Nat} (ha : a < n) (hb : b < n) : (byRank r n).idxOf a < (byRank r n).idxOf b ↔ (r a < r b ∨ (r a = r b ∧ a < b)) := by
  have ho := byRank_ord r n
  have hl := byRank_len r n
  have la := ho.idx_lt (x := a) (by omega)
  have lb := ho.idx_lt (x := b) (by omega)
  have ea := ho.at_idx (x := a) (by omega)
  have eb := ho.at_idx (x := b) (by omega)
  have hp := List.pairwise_iff_getElem.mp (byRank_sorted r n)
  constructor
  · intro h
    have := hp _ _ la lb h
    rw [ea, eb] at this
    unfold rl at this
    rw [decide_eq_true_eq] at this
    have hne : a ≠ b := by
      rintro rfl
      omega
    omega
  · intro h
    by_cases hlt : (byRank r n).idxOf a < (byRank r n).idxOf b
    · exact hlt
    · have hne : (byRank r n).idxOf a ≠ (byRank r n).idxOf b := fun e => by
        simp only [e] at ea
        have : a = b := ea.symm.trans eb
        subst this
        omega
      have := hp _ _ lb la (by omega)
      rw [ea, eb] at this
      unfold rl at this
      rw [decide_eq_true_eq] at this
      omega
theorem asc_eq {l m : List Nat} (h1 : l.Pairwise (· < ·)) (h2 : m.Pairwise (· < ·)) (h : ∀ x, x ∈ l ↔ x ∈ m) : l = m := by
  refine List.Perm.eq_of_pairwise (le := (· < ·)) (fun a b _ _ h1 h2 => by omega) h1 h2 ?_
  refine (List.perm_ext_iff_of_nodup ?_ ?_).mpr h
  · exact h1.imp fun h => by omega
  · exact h2.imp fun h => by omega
def far (ps : List (List Nat)) (s k : Nat) : Int := 0 - (((ps.getD k []).idxOf s : Nat) : Int)
end Mi
end
section
namespace Mi
open PySem
noncomputable section
def pkBody : Sm := sRet (mIx (mV 1) (mCall tk (aCons (mV 0) (aCons (mLen (mV 1)) aNil))))
def pk : Fn := fnOf fin 2 2 pkBody
def lnBody : Sm := sRet (mO1 pTuple (mComp [2] (iR1 (mV 0)) (gN 2) tYes (mO2 pMod (mO2 pAdd (mV 1) (mV 2)) (mV 0))))
def ln : Fn := fnOf fin 2 3 lnBody
def pbBody : Sm := sSeq (sIf (tE (mO2 pEq (mCall tk (aCons (mV 0) (aCons (mC (.int 3)) aNil))) (mC (.int 0)))) (sRet (mCall ln (aCons (mV 1) (aCons (mCall tk (aCons (mV 0) (aCons (mV 1) aNil))) aNil)))) (sPass))
        (sRet (mO1 pTuple (mCall mx (aCons (mV 0) (aCons (mO1 (pRgL (.int 0)) (mV 1)) aNil)))))
def pb : Fn := fnOf fin 2 2 pbBody
end
theorem textFrom_le {B : Nat} : ∀ (ts : List Str) (k : Nat) (acc : Str), (∀ t ∈ ts, t.length ≤ B) → (textFrom k acc ts).length ≤ acc.length + ts.length * (B + 2)
  | [], k, acc, _ => by simp [textFrom]
  | t :: ts, k, acc, h => by
    rw [textFrom]
    have h1 := h t (by simp)
    refine Nat.le_trans (textFrom_le ts (k + 1) _ fun u hu => h u (by simp [hu])) ?_
    rw [sz_app, sz_app]
    have l : (Str.ofString (if k > 0 then ", " else "" : String)).length ≤ 2 := by
      split <;> decide +kernel
    rw [List.length_cons, Nat.succ_mul]
    omega
theorem shown_list_le {B : Nat} {xs : List PyData} (h : ∀ x ∈ xs, x.shown.length ≤ B) : (PyData.list xs).shown.length ≤ 4 + xs.length * (B + 2) := by
  obtain ⟨h1, h2⟩ := shown_all xs h
  rw [PyData.shown]
  unfold listText
  rw [sz_app]
  have := textFrom_le (PyData.shownAll xs) 0 (Str.ofString "[") h1
  have l1 : (Str.ofString "[").length = 1 := by decide +kernel
  have l2 : (Str.ofString "]").length = 1 := by decide +kernel
  rw [h2, l1] at this
  rw [l2]
  omega
theorem Nice.list {xs : List PyData} {dp B n : Nat} (h : ∀ x ∈ xs, Nice x dp B) (hn : xs.length ≤ n) : Nice (.list xs) (dp + 1) (4 + n * (B + 2)) := by
  refine ⟨?_, ?_, ?_, ?_, Nat.le_trans (shown_list_le fun x hx => (h x hx).sz) ?_⟩
  · rw [PyData.showable]
    exact showableAll_of fun x hx => (h x hx).sh
  · rw [PyData.hasDict]
    exact hasDictAll_of fun x hx => (h x hx).hd
  · rw [PyData.plain]
    exact plainAll_of fun x hx => (h x hx).pl
  · rw [PyData.depth]
    have := depthAll_of fun x hx => (h x hx).dp
    omega
  · have := Nat.mul_le_mul_right (B + 2) hn
    omega
end Mi
end
section
namespace Mi
open PySem
end Mi
end
section
namespace Mi
open PySem
def dd : List Int → List Int
  | [] => []
  | x :: xs => if x ∈ xs then dd xs else x :: dd xs
def mSetLen (a : Ex) : Ex := fun σ S => bd (a σ S) fun x S1 => bx (dv S1 x) fun u => match u with
  | .tuple xs => bx (orNo (ints? xs)) fun ns => when_ (decide (ns.length ≤ 1000)) (.ok (.p (.int (dd ns).length), S1))
  | _ => .no
theorem mem_dd {x : Int} : ∀ {xs : List Int}, x ∈ dd xs ↔ x ∈ xs
  | [] => Iff.rfl
  | y :: xs => by
    rw [dd]
    split
    · rename_i h
      rw [mem_dd, List.mem_cons]
      exact ⟨.inr, fun z => z.elim (fun e => e ▸ h) id⟩
    · rw [List.mem_cons, List.mem_cons, mem_dd]
theorem nodup_dd : ∀ xs : List Int, (dd xs).Nodup
  | [] => List.nodup_nil
  | y :: xs => by
    rw [dd]
    split
    · exact nodup_dd xs
    · rename_i h
      rw [List.nodup_cons, mem_dd]
      exact ⟨h, nodup_dd xs⟩
theorem dd_len {xs ys : List Int} (hn : ys.Nodup) (h : ∀ x, x ∈ ys ↔ x ∈ xs) : ys.length = (dd xs).length :=
  ((List.perm_ext_iff_of_nodup hn (nodup_dd xs)).mpr fun x => (h x).trans mem_dd.symm).length_eq
end Mi
end
section
namespace Mi
open PySem
def At (σ : Env) (k : Nat) (d : D) : Prop := σ[k]? = some (some d)
theorem At.ne {σ : Env} {j k : Nat} {d : D} {x : Option D} (h : At σ k d) (hj : j ≠ k) : At (σ.set j x) k d := by
  unfold At at *
  rw [List.getElem?_set_ne hj]
  exact h
end Mi
end
section
namespace Mi
open PySem
section
variable (a b c o k : Ex) (t t2 : Bx) (σ σ1 : Env) (S S1 : Store) (d d2 : D) (u v w : PyData) (i j m n : Nat) (xs ys : List PyData) (x y : Int) (p q : Bool)
def getV : Option (Option D) → Store → R (D × Store)
  | some (some d), S => .ok (d, S)
  | _, _ => .no
theorem au_C : mC u σ S = .ok (.p u, S) := rfl
theorem au_V : mV i σ S = getV σ[i]? S := by
  unfold mV
  cases h : σ[i]? with
  | none => rfl
  | some o => cases o <;> rfl
theorem au_getV : getV (some (some d)) S = .ok (d, S) := rfl
def dvC : Option Cell → R PyData
  | some (.lst xs) => .ok (.list xs)
  | some (.flst xs) => .ok (.list xs)
  | some (.dct _ kvs) => .ok (.dict kvs)
  | some (.fdct _ kvs) => .ok (.dict kvs)
  | some (.nst _ _) => .no
  | some (.tab _ _) => .no
  | some (.tdc _) => .no
  | some (.tdv _ _) => .no
  | some .dead => .no
  | some (.tbl _) => .no
  | some .inn => .no
  | some .inf => .no
  | some (.obj _ _) => .no
  | none => .no
theorem au_dvR : dv S (.ref i) = dvC S[i]? := by
  cases h : S[i]? with
  | none => simp [dv, dvC, h]
  | some o => cases o <;> simp [dv, dvC, h]
theorem au_dvD (b0 : Bool) (kvs : List (PyData × PyData)) : dvC (some (.dct b0 kvs)) = .ok (.dict kvs) := rfl
theorem au_dvC : dvC (some (.lst xs)) = .ok (.list xs) := rfl
theorem au_dvF : dvC (some (.flst xs)) = .ok (.list xs) := rfl
def retP (S : Store) (z : PyData) : R (D × Store) := .ok (.p z, S)
theorem au_retP : retP S u = .ok (.p u, S) := rfl
def o1b (f : PyData → R PyData) (S : Store) (u : PyData) : R (D × Store) := bx (f u) (retP S)
def o1a (f : PyData → R PyData) (x : D) (S : Store) : R (D × Store) := bx (dv S x) (o1b f S)
theorem au_O1 (f : PyData → R PyData) : mO1 f a σ S = bd (a σ S) (o1a f) := rfl
theorem au_o1a (f : PyData → R PyData) : o1a f d S = bx (dv S d) (o1b f S) := rfl
theorem au_o1b (f : PyData → R PyData) : o1b f S u = bx (f u) (retP S) := rfl
def o2d (f : PyData → PyData → R PyData) (u : PyData) (S : Store) (v : PyData) : R (D × Store) := bx (f u v) (retP S)
def o2c (f : PyData → PyData → R PyData) (y : D) (S : Store) (u : PyData) : R (D × Store) := bx (dv S y) (o2d f u S)
def o2b (f : PyData → PyData → R PyData) (x y : D) (S : Store) : R (D × Store) := bx (dv S x) (o2c f y S)
def o2a (f : PyData → PyData → R PyData) (b : Ex) (σ : Env) (x : D) (S : Store) : R (D × Store) := bd (b σ S) (o2b f x)
theorem au_O2 (f : PyData → PyData → R PyData) : mO2 f a b σ S = bd (a σ S) (o2a f b σ) := rfl
theorem au_o2a (f : PyData → PyData → R PyData) : o2a f b σ d S = bd (b σ S) (o2b f d) := rfl
theorem au_o2b (f : PyData → PyData → R PyData) : o2b f d d2 S = bx (dv S d) (o2c f d2 S) := rfl
theorem au_o2c (f : PyData → PyData → R PyData) : o2c f d S u = bx (dv S d) (o2d f u S) := rfl
theorem au_o2d (f : PyData → PyData → R PyData) : o2d f u S v = bx (f u v) (retP S) := rfl
def ixd (t : Bool) (kvs : List (PyData × PyData)) (S : Store) (v : PyData) : R (D × Store) := when_ (!t && keyOk t v) (bx (orNo (look kvs v)) (retP S))
theorem au_ixd (kvs : List (PyData × PyData)) : ixd p kvs S v = when_ (!p && keyOk p v) (bx (orNo (look kvs v)) (retP S)) := rfl
def ixb (u : PyData) (S : Store) (v : PyData) : R (D × Store) := bx (pIx u v) (retP S)
def ixC : Option Cell → D → Store → R (D × Store)
  | some (.lst xs), y, S => bx (dv S y) (ixb (.list xs) S)
  | some (.flst xs), y, S => bx (dv S y) (ixb (.list xs) S)
  | some (.dct t kvs), y, S => bx (dv S y) (ixd t kvs S)
  | some (.fdct t kvs), y, S => bx (dv S y) (ixd t kvs S)
  | some (.nst _ _), y, S => .no
  | some (.tab _ _), y, S => .no
  | some (.tdc _), y, S => .no
  | some (.tdv _ _), y, S => .no
  | some .dead, y, S => .no
  | some (.tbl _), y, S => .no
  | some .inn, y, S => .no
  | some .inf, y, S => .no
  | some (.obj _ _), y, S => .no
  | none, y, S => .no
def ixO : Option (Bool × List (PyData × PyData)) → R PyData → D → Store → R (D × Store)
  | some (t, kvs), _, y, S => bx (dv S y) (ixd t kvs S)
  | none, r, y, S => bx r fun u => bx (dv S y) (ixb u S)
def ixK : D → D → Store → R (D × Store)
  | .p u, y, S => bx (dv S y) (ixb u S)
  | .scr ns, y, S => bx (dv S y) (ixb (.list (ns.map .int)) S)
  | .ref i, y, S => ixC S[i]? y S
  | .rows _ _ _, y, S => .no
  | .fn _ _ _, y, S => .no
  | .exn _, y, S => .no
  | .own i k n, y, S => ixO (ownD k n S[i]?) (ownV k n S[i]?) y S
def ixa (b : Ex) (σ : Env) (x : D) (S : Store) : R (D × Store) := bd (b σ S) (ixK x)
theorem au_ixa : ixa b σ d S = bd (b σ S) (ixK d) := rfl
theorem au_ixb : ixb u S v = bx (pIx u v) (retP S) := rfl
theorem au_Ix : mIx a b σ S = bd (a σ S) (ixa b σ) := by
  show mIx a b σ S = bd (a σ S) fun x S1 => bd (b σ S1) fun y S2 => ixK x y S2
  unfold mIx
  congr 1
  funext x S1
  congr 1
  funext y S2
  cases x with
  | p u => rfl
  | scr ns => rfl
  | rows i n rs => rfl
  | fn f c q => rfl
  | exn x => rfl
  | own i k n =>
    simp only [dictOf, ixK, dvr, dv]
    cases ownD k n S2[i]? with
    | none => rfl
    | some p => rfl
  | ref i =>
    cases h : S2[i]? with
    | none => simp [dictOf, ixK, ixC, dvr, dv, h, bx]
    | some o => cases o <;> simp [dictOf, ixK, ixC, dvr, dv, h, ixb, ixd] <;> rfl
theorem au_ixP : ixK (.p u) d S = bx (dv S d) (ixb u S) := rfl
theorem au_ixS (ns : List Int) : ixK (.scr ns) d S = bx (dv S d) (ixb (.list (ns.map .int)) S) := rfl
theorem au_ixR : ixK (.ref i) d S = ixC S[i]? d S := rfl
theorem au_ixL : ixC (some (.lst xs)) d S = bx (dv S d) (ixb (.list xs) S) := rfl
theorem au_ixF : ixC (some (.flst xs)) d S = bx (dv S d) (ixb (.list xs) S) := rfl
theorem au_ixD (b0 : Bool) (kvs : List (PyData × PyData)) : ixC (some (.dct b0 kvs)) d S = bx (dv S d) (ixd b0 kvs S) := rfl
theorem au_ixFD (b0 : Bool) (kvs : List (PyData × PyData)) : ixC (some (.fdct b0 kvs)) d S = bx (dv S d) (ixd b0 kvs S) := rfl
def inC (f : PyData → PyData → R PyData) (neg : Bool) (u : PyData) : Option Cell → Store → R (D × Store)
  | some (.lst xs), S => bx (f u (.list xs)) (retP S)
  | some (.flst xs), S => bx (f u (.list xs)) (retP S)
  | some (.dct t kvs), S => when_ (!t && keyOk t u) (.ok (.p (.bool (neg ^^ hasKey kvs u)), S))
  | some (.fdct t kvs), S => when_ (!t && keyOk t u) (.ok (.p (.bool (neg ^^ hasKey kvs u)), S))
  | some (.nst _ _), S => .no
  | some (.tab _ _), S => .no
  | some (.tdc _), S => .no
  | some (.tdv _ _), S => .no
  | some .dead, S => .no
  | some (.tbl _), S => .no
  | some .inn, S => .no
  | some .inf, S => .no
  | some (.obj _ _), S => .no
  | none, S => .no
def inO (f : PyData → PyData → R PyData) (neg : Bool) (u : PyData) : Option (Bool × List (PyData × PyData)) → R PyData → Store → R (D × Store)
  | some (t, kvs), _, S => when_ (!t && keyOk t u) (.ok (.p (.bool (neg ^^ hasKey kvs u)), S))
  | none, r, S => bx r fun v => bx (f u v) (retP S)
def inK (f : PyData → PyData → R PyData) (neg : Bool) (u : PyData) : D → Store → R (D × Store)
  | .p v, S => bx (f u v) (retP S)
  | .ref i, S => inC f neg u S[i]? S
  | .scr _, _ => .no
  | .rows _ _ _, _ => .no
  | .fn _ _ _, _ => .no
  | .exn _, _ => .no
  | .own i k n, S => inO f neg u (ownD k n S[i]?) (ownV k n S[i]?) S
def inc (f : PyData → PyData → R PyData) (neg : Bool) (y : D) (S : Store) (u : PyData) : R (D × Store) := inK f neg u y S
def inb (f : PyData → PyData → R PyData) (neg : Bool) (x y : D) (S : Store) : R (D × Store) := bx (dv S x) (inc f neg y S)
def ina (f : PyData → PyData → R PyData) (neg : Bool) (b : Ex) (σ : Env) (x : D) (S : Store) : R (D × Store) := bd (b σ S) (inb f neg x)
theorem au_ina (f : PyData → PyData → R PyData) : ina f p b σ d S = bd (b σ S) (inb f p d) := rfl
theorem au_inb (f : PyData → PyData → R PyData) : inb f p d d2 S = bx (dv S d) (inc f p d2 S) := rfl
theorem au_inc (f : PyData → PyData → R PyData) : inc f p d S u = inK f p u d S := rfl
theorem au_In : mIn a b σ S = bd (a σ S) (ina pIn false b σ) := by
  show mIn a b σ S = bd (a σ S) fun x S1 => bd (b σ S1) fun y S2 => bx (dv S2 x) fun u => inK pIn false u y S2
  unfold mIn
  congr 1
  funext x S1
  congr 1
  funext y S2
  congr 1
  funext u
  cases y with
  | p u => rfl
  | scr ns => rfl
  | rows i n rs => rfl
  | fn f c q => rfl
  | exn x => rfl
  | own i k n =>
    simp only [dictOf, inK, dv]
    cases ownD k n S2[i]? with
    | none => rfl
    | some p => simp [inO]
  | ref i =>
    cases h : S2[i]? with
    | none => simp [dictOf, inK, inC, dv, h, bx]
    | some o => cases o <;> simp [dictOf, inK, inC, dv, h] <;> rfl
theorem au_NotIn : mNotIn a b σ S = bd (a σ S) (ina pNotIn true b σ) := by
  show mNotIn a b σ S = bd (a σ S) fun x S1 => bd (b σ S1) fun y S2 => bx (dv S2 x) fun u => inK pNotIn true u y S2
  unfold mNotIn
  congr 1
  funext x S1
  congr 1
  funext y S2
  congr 1
  funext u
  cases y with
  | p u => rfl
  | scr ns => rfl
  | rows i n rs => rfl
  | fn f c q => rfl
  | exn x => rfl
  | own i k n =>
    simp only [dictOf, inK, dv]
    cases ownD k n S2[i]? with
    | none => rfl
    | some p => simp [inO]
  | ref i =>
    cases h : S2[i]? with
    | none => simp [dictOf, inK, inC, dv, h, bx]
    | some o => cases o <;> simp [dictOf, inK, inC, dv, h] <;> rfl
theorem au_inP (f : PyData → PyData → R PyData) : inK f p u (.p v) S = bx (f u v) (retP S) := rfl
theorem au_inR (f : PyData → PyData → R PyData) : inK f p u (.ref i) S = inC f p u S[i]? S := rfl
theorem au_inL (f : PyData → PyData → R PyData) : inC f p u (some (.lst xs)) S = bx (f u (.list xs)) (retP S) := rfl
theorem au_inFL (f : PyData → PyData → R PyData) : inC f p u (some (.flst xs)) S = bx (f u (.list xs)) (retP S) := rfl
theorem au_inD (f : PyData → PyData → R PyData) (b0 : Bool) (kvs : List (PyData × PyData)) : inC f p u (some (.dct b0 kvs)) S = when_ (!b0 && keyOk b0 u) (.ok (.p (.bool (p ^^ hasKey kvs u)), S)) := rfl
theorem au_inFD (f : PyData → PyData → R PyData) (b0 : Bool) (kvs : List (PyData × PyData)) : inC f p u (some (.fdct b0 kvs)) S = when_ (!b0 && keyOk b0 u) (.ok (.p (.bool (p ^^ hasKey kvs u)), S)) := rfl
def lenC : Option Cell → Store → R (D × Store)
  | some (.lst xs), S => .ok (.p (.int xs.length), S)
  | some (.flst xs), S => .ok (.p (.int xs.length), S)
  | some (.dct _ xs), S => .ok (.p (.int xs.length), S)
  | some (.fdct _ xs), S => .ok (.p (.int xs.length), S)
  | _, _ => .no
def lenK : D → Store → R (D × Store)
  | .p u, S => bx (pLen u) (retP S)
  | .scr ns, S => .ok (.p (.int ns.length), S)
  | .ref i, S => lenC S[i]? S
  | .rows _ _ _, S => .no
  | .fn _ _ _, S => .no
  | .exn _, S => .no
  | .own i k n, S => bx (ownV k n S[i]?) fun u => bx (pLen u) (retP S)
theorem au_Len : mLen a σ S = bd (a σ S) lenK := by
  unfold mLen
  congr 1
  funext x S1
  cases x with
  | p u => rfl
  | scr ns => simp [lenK, dvr, bx, pLen]
  | rows i n rs => rfl
  | fn f c q => rfl
  | exn x => rfl
  | own i k n => rfl
  | ref i =>
    cases h : S1[i]? with
    | none => simp [lenK, lenC, dvr, dv, h, bx]
    | some o => cases o <;> simp [lenK, lenC, dvr, dv, h, bx, pLen]
theorem au_lenP : lenK (.p u) S = bx (pLen u) (retP S) := rfl
theorem au_lenS (ns : List Int) : lenK (.scr ns) S = .ok (.p (.int ns.length), S) := rfl
theorem au_lenR : lenK (.ref i) S = lenC S[i]? S := rfl
theorem au_lenL : lenC (some (.lst xs)) S = .ok (.p (.int xs.length), S) := rfl
theorem au_lenF : lenC (some (.flst xs)) S = .ok (.p (.int xs.length), S) := rfl
theorem au_lenD (b0 : Bool) (kvs : List (PyData × PyData)) : lenC (some (.dct b0 kvs)) S = .ok (.p (.int kvs.length), S) := rfl
theorem au_pLenL : pLen (.list xs) = .ok (.int xs.length) := rfl
theorem au_pLenT : pLen (.tuple xs) = .ok (.int xs.length) := rfl
def chK (g : PyData → PyData → R PyData) (c : Ex) (σ : Env) (S2 : Store) (y : D) : PyData → R (D × Store)
  | .bool t => if t = true then bd (c σ S2) (o2b g y) else .ok (.p (.bool false), S2)
  | _ => .no
def chd (f g : PyData → PyData → R PyData) (c : Ex) (σ : Env) (y : D) (S : Store) (u v : PyData) : R (D × Store) := bx (f u v) (chK g c σ S y)
def chc (f g : PyData → PyData → R PyData) (c : Ex) (σ : Env) (y : D) (S : Store) (u : PyData) : R (D × Store) := bx (dv S y) (chd f g c σ y S u)
def chb (f g : PyData → PyData → R PyData) (c : Ex) (σ : Env) (x y : D) (S : Store) : R (D × Store) := bx (dv S x) (chc f g c σ y S)
def cha (f g : PyData → PyData → R PyData) (b c : Ex) (σ : Env) (x : D) (S : Store) : R (D × Store) := bd (b σ S) (chb f g c σ x)
theorem au_cha (f g : PyData → PyData → R PyData) : cha f g b c σ d S = bd (b σ S) (chb f g c σ d) := rfl
theorem au_chb (f g : PyData → PyData → R PyData) : chb f g c σ d d2 S = bx (dv S d) (chc f g c σ d2 S) := rfl
theorem au_chc (f g : PyData → PyData → R PyData) : chc f g c σ d S u = bx (dv S d) (chd f g c σ d S u) := rfl
theorem au_chd (f g : PyData → PyData → R PyData) : chd f g c σ d S u v = bx (f u v) (chK g c σ S d) := rfl
theorem au_Ch (f g : PyData → PyData → R PyData) : mCh f g a b c σ S = bd (a σ S) (cha f g b c σ) := by
  show mCh f g a b c σ S = bd (a σ S) fun x S1 => bd (b σ S1) fun y S2 => bx (dv S2 x) fun u => bx (dv S2 y) fun v => bx (f u v) fun z => chK g c σ S2 y z
  unfold mCh chK
  congr 1
  funext x S1
  congr 1
  funext y S2
  congr 1
  funext u
  congr 1
  funext v
  congr 1
  funext z
  cases z with
  | bool t => cases t <;> rfl
  | _ => rfl
theorem au_chK (g : PyData → PyData → R PyData) : chK g c σ S d (.bool p) = if p = true then bd (c σ S) (o2b g d) else .ok (.p (.bool false), S) := rfl
def tEK : D → Store → R (Bool × Store)
  | .p (.bool b), S => .ok (b, S)
  | _, _ => .no
theorem au_tE : tE a σ S = bd (a σ S) tEK := by
  unfold tE
  congr 1
  funext x S1
  cases x with
  | p u => cases u <;> rfl
  | _ => rfl
theorem au_tEK : tEK (.p (.bool p)) S = .ok (p, S) := rfl
def tAndK (t2 : Bx) (σ : Env) (x : Bool) (S : Store) : R (Bool × Store) := if x = true then t2 σ S else .ok (false, S)
def tOrK (t2 : Bx) (σ : Env) (x : Bool) (S : Store) : R (Bool × Store) := if x = true then .ok (true, S) else t2 σ S
def tNotK (x : Bool) (S : Store) : R (Bool × Store) := .ok (!x, S)
theorem au_tAnd : tAnd t t2 σ S = bd (t σ S) (tAndK t2 σ) := rfl
theorem au_tOr : tOr t t2 σ S = bd (t σ S) (tOrK t2 σ) := rfl
theorem au_tNot : Mi.tNot t σ S = bd (t σ S) tNotK := rfl
theorem au_tAndK : tAndK t σ p S = if p = true then t σ S else .ok (false, S) := rfl
theorem au_tOrK : tOrK t σ p S = if p = true then .ok (true, S) else t σ S := rfl
theorem au_tNotK : tNotK p S = .ok (!p, S) := rfl
theorem au_tYes : tYes σ S = .ok (true, S) := rfl
def andK (b : Ex) (σ : Env) : D → Store → R (D × Store)
  | .p (.bool q), S => if q = true then b σ S else .ok (.p (.bool false), S)
  | _, _ => .no
def orK (b : Ex) (σ : Env) : D → Store → R (D × Store)
  | .p (.bool q), S => if q = true then .ok (.p (.bool true), S) else b σ S
  | _, _ => .no
theorem au_And : mAnd a b σ S = bd (a σ S) (andK b σ) := by
  unfold mAnd
  congr 1
  funext x S1
  cases x with
  | p u =>
    cases u with
    | bool q => cases q <;> rfl
    | _ => rfl
  | _ => rfl
theorem au_Or : mOr a b σ S = bd (a σ S) (orK b σ) := by
  unfold mOr
  congr 1
  funext x S1
  cases x with
  | p u =>
    cases u with
    | bool q => cases q <;> rfl
    | _ => rfl
  | _ => rfl
theorem au_andK : andK b σ (.p (.bool p)) S = if p = true then b σ S else .ok (.p (.bool false), S) := rfl
theorem au_orK : orK b σ (.p (.bool p)) S = if p = true then .ok (.p (.bool true), S) else b σ S := rfl
def ifK (a b : Ex) (σ : Env) (x : Bool) (S : Store) : R (D × Store) := if x = true then a σ S else b σ S
theorem au_If : mIf t a b σ S = bd (t σ S) (ifK a b σ) := rfl
theorem au_ifK : ifK a b σ p S = if p = true then a σ S else b σ S := rfl
def isNK (x : D) (S : Store) : R (D × Store) := .ok (.p (.bool (isN x)), S)
def notNK (x : D) (S : Store) : R (D × Store) := .ok (.p (.bool (!isN x)), S)
theorem au_IsN : mIsN a σ S = bd (a σ S) isNK := rfl
theorem au_NotN : mNotN a σ S = bd (a σ S) notNK := rfl
theorem au_isNK : isNK d S = .ok (.p (.bool (isN d)), S) := rfl
theorem au_notNK : notNK d S = .ok (.p (.bool (!isN d)), S) := rfl
theorem au_isN0 : isN (.p .none) = true := rfl
theorem au_isNi : isN (.p (.int x)) = false := rfl
theorem au_isNb : isN (.p (.bool p)) = false := rfl
theorem au_isNt : isN (.p (.tuple xs)) = false := rfl
theorem au_isNl : isN (.p (.list xs)) = false := rfl
theorem au_isNs (z : Str) : isN (.p (.str z)) = false := rfl
theorem au_isNr : isN (.ref i) = false := rfl
theorem au_Nil : aNil σ S = .ok ([], S) := rfl
def consB (x : D) (xs : List D) (S : Store) : R (List D × Store) := .ok (x :: xs, S)
def consA (r : As) (σ : Env) (x : D) (S : Store) : R (List D × Store) := bd (r σ S) (consB x)
theorem au_Cons (r : As) : aCons a r σ S = bd (a σ S) (consA r σ) := rfl
theorem au_consA (r : As) : consA r σ d S = bd (r σ S) (consB d) := rfl
theorem au_consB (ds : List D) : consB d ds S = .ok (d :: ds, S) := rfl
def tupB (xs : List PyData) (S : Store) : R (D × Store) := when_ (decide (xs.length ≤ Line)) (.ok (.p (.tuple xs), S))
def tupA (ds : List D) (S : Store) : R (D × Store) := bd (fzs ds S) tupB
def lstB (xs : List PyData) (S : Store) : R (D × Store) := when_ (decide (xs.length ≤ Line)) (.ok (.p (.list xs), S))
def lstA (ds : List D) (S : Store) : R (D × Store) := bd (fzs ds S) lstB
theorem au_Tup (as : As) : mTup as σ S = bd (as σ S) tupA := rfl
theorem au_Lst (as : As) : mLst as σ S = bd (as σ S) lstA := rfl
theorem au_tupA (ds : List D) : tupA ds S = bd (fzs ds S) tupB := rfl
theorem au_lstA (ds : List D) : lstA ds S = bd (fzs ds S) lstB := rfl
theorem au_tupB : tupB xs S = when_ (decide (xs.length ≤ Line)) (.ok (.p (.tuple xs), S)) := rfl
theorem au_lstB : lstB xs S = when_ (decide (xs.length ≤ Line)) (.ok (.p (.list xs), S)) := rfl
theorem au_Call (f : Fn) (as : As) : mCall f as σ S = bd (as σ S) f := rfl
def fzC (S : Store) (i : Nat) : Option Cell → R (PyData × Store)
  | some (.lst xs) => .ok (.list xs, S.set i (.flst xs))
  | some (.flst xs) => .ok (.list xs, S)
  | some (.dct false (kv :: kvs)) => .ok (.dict (kv :: kvs), S.set i .dead)
  | some (.tdv _ (kv :: kvs)) => .ok (.dict ((kv :: kvs).map tvD), S.set i .dead)
  | _ => .no
theorem au_fzR : fz S (.ref i) = fzC S i S[i]? := by
  show (match S[i]? with
    | some (.lst xs) => Mi.R.ok (PyData.list xs, S.set i (.flst xs))
    | some (.flst xs) => .ok (.list xs, S)
    | some (.dct false (kv :: kvs)) => .ok (.dict (kv :: kvs), S.set i .dead)
    | some (.tdv _ (kv :: kvs)) => .ok (.dict ((kv :: kvs).map tvD), S.set i .dead)
    | _ => .no) = _
  cases h : S[i]? with
  | none => rfl
  | some o =>
    cases o with
    | dct t k => cases t <;> cases k <;> rfl
    | tdv b k => cases k <;> rfl
    | _ => rfl
theorem au_fzL : fzC S i (some (.lst xs)) = .ok (.list xs, S.set i (.flst xs)) := rfl
theorem au_fzF : fzC S i (some (.flst xs)) = .ok (.list xs, S) := rfl
theorem au_fzsN : fzs [] S = .ok ([], S) := rfl
def fzsB (x : PyData) (xs : List PyData) (S : Store) : R (List PyData × Store) := .ok (x :: xs, S)
def fzsA (ds : List D) (x : PyData) (S : Store) : R (List PyData × Store) := bd (fzs ds S) (fzsB x)
theorem au_fzsC (ds : List D) : fzs (d :: ds) S = bd (fz S d) (fzsA ds) := rfl
theorem au_fzsA (ds : List D) : fzsA ds u S = bd (fzs ds S) (fzsB u) := rfl
theorem au_fzsB : fzsB u xs S = .ok (u :: xs, S) := rfl
def newK : D → Store → R (D × Store)
  | .p (.list xs), S => .ok (.ref S.length, S ++ [.lst xs])
  | _, _ => .no
theorem au_New : mNew a σ S = bd (a σ S) newK := by
  unfold mNew
  congr 1
  funext x S1
  cases x with
  | p u => cases u <;> rfl
  | _ => rfl
theorem au_newK : newK (.p (.list xs)) S = .ok (.ref S.length, S ++ [.lst xs]) := rfl
theorem au_Dict : mDict p σ S = .ok (.ref S.length, S ++ [.dct p []]) := rfl
theorem au_oNo : oNo σ S = .ok (none, S) := rfl
def oEK : D → Store → R (Option Int × Store)
  | .p (.int i), S => .ok (some i, S)
  | _, _ => .no
theorem au_oE : oE a σ S = bd (a σ S) oEK := by
  unfold oE
  congr 1
  funext x S1
  cases x with
  | p u => cases u <;> rfl
  | _ => rfl
theorem au_oEK : oEK (.p (.int x)) S = .ok (some x, S) := rfl
def cutD (l h : Option Int) (S : Store) (u : PyData) : R (D × Store) := bx (pCut u l h) (retP S)
def cutC (x : D) (l h : Option Int) (S : Store) : R (D × Store) := bx (dv S x) (cutD l h S)
def cutB (x : D) (hi : Po) (σ : Env) (l : Option Int) (S : Store) : R (D × Store) := bd (hi σ S) (cutC x l)
def cutA (lo hi : Po) (σ : Env) (x : D) (S : Store) : R (D × Store) := bd (lo σ S) (cutB x hi σ)
theorem au_Cut (lo hi : Po) : mCut a lo hi σ S = bd (a σ S) (cutA lo hi σ) := rfl
theorem au_cutA (lo hi : Po) : cutA lo hi σ d S = bd (lo σ S) (cutB d hi σ) := rfl
theorem au_cutB (hi : Po) (l : Option Int) : cutB d hi σ l S = bd (hi σ S) (cutC d l) := rfl
theorem au_cutC (l h : Option Int) : cutC d l h S = bx (dv S d) (cutD l h S) := rfl
theorem au_cutD (l h : Option Int) : cutD l h S u = bx (pCut u l h) (retP S) := rfl
theorem au_pCutL (lo hi : Option Int) : pCut (.list xs) lo hi = .ok (.list (cut xs lo hi)) := rfl
theorem au_pCutT (lo hi : Option Int) : pCut (.tuple xs) lo hi = .ok (.tuple (cut xs lo hi)) := rfl
def appC (S : Store) (i : Nat) (d : PyData) : Option Cell → R (D × Store)
  | some (.lst xs) => when_ (decide (xs.length < Line)) (.ok (.p .none, S.set i (.lst (xs ++ [d]))))
  | _ => .no
def appK (x : D) (d : PyData) (S : Store) : R (D × Store) := match x with
  | .ref i => appC S i d S[i]?
  | _ => .no
def appB (x : D) (y : D) (S : Store) : R (D × Store) := bd (fz S y) (appK x)
def appA (a : Ex) (σ : Env) (x : D) (S : Store) : R (D × Store) := when_ (lstAt S x) (bd (a σ S) (appB x))
theorem au_App : mAppend o a σ S = bd (o σ S) (appA a σ) := rfl
theorem au_appA : appA a σ d S = when_ (lstAt S d) (bd (a σ S) (appB d)) := rfl
theorem au_appB : appB d d2 S = bd (fz S d2) (appK d) := rfl
theorem au_appK : appK (.ref i) u S = appC S i u S[i]? := rfl
theorem au_appC : appC S i u (some (.lst xs)) = when_ (decide (xs.length < Line)) (.ok (.p .none, S.set i (.lst (xs ++ [u])))) := rfl
def isLst : Option Cell → Bool
  | some (.lst _) => true
  | _ => false
theorem au_lstAt : lstAt S (.ref i) = isLst S[i]? := by
  unfold lstAt isLst
  rfl
theorem au_isLst : isLst (some (.lst xs)) = true := rfl
def extC (S : Store) (i : Nat) : Option Cell → PyData → R (D × Store)
  | some (.lst xs), .list ys => when_ (decide (xs.length + ys.length ≤ Line)) (.ok (.p .none, S.set i (.lst (xs ++ ys))))
  | _, _ => .no
def extK (x : D) (d : PyData) (S : Store) : R (D × Store) := match x with
  | .ref i => extC S i S[i]? d
  | _ => .no
def extE (x : D) (S : Store) (d : PyData) : R (D × Store) := extK x d S
def extB (x : D) (y : D) (S : Store) : R (D × Store) := bx (dv S y) (extE x S)
def extA (a : Ex) (σ : Env) (x : D) (S : Store) : R (D × Store) := when_ (lstAt S x) (bd (a σ S) (extB x))
theorem au_Ext : mExtend o a σ S = bd (o σ S) (extA a σ) := rfl
theorem au_extA : extA a σ d S = when_ (lstAt S d) (bd (a σ S) (extB d)) := rfl
theorem au_extB : extB d d2 S = bx (dv S d2) (extE d S) := rfl
theorem au_extE : extE d S u = extK d u S := rfl
theorem au_extK : extK (.ref i) u S = extC S i S[i]? u := rfl
theorem au_extC : extC S i (some (.lst xs)) (.list ys) = when_ (decide (xs.length + ys.length ≤ Line)) (.ok (.p .none, S.set i (.lst (xs ++ ys)))) := rfl
def popC (S : Store) (i : Nat) : Option Cell → R (D × Store)
  | some (.lst xs) => bx (orNo xs.getLast?) (retP (S.set i (.lst xs.dropLast)))
  | _ => .no
def popK (x : D) (S : Store) : R (D × Store) := match x with
  | .ref i => popC S i S[i]?
  | _ => .no
theorem au_Pop0 : mPop0 o σ S = bd (o σ S) popK := by
  unfold mPop0
  congr 1
theorem au_popK : popK (.ref i) S = popC S i S[i]? := rfl
theorem au_popC : popC S i (some (.lst xs)) = bx (orNo xs.getLast?) (retP (S.set i (.lst xs.dropLast))) := rfl
def pop1D (S : Store) (i : Nat) (xs : List PyData) (j : Nat) : R (D × Store) := bx (orNo xs[j]?) (retP (S.set i (.lst (xs.eraseIdx j))))
theorem au_pop1D : pop1D S i xs j = bx (orNo xs[j]?) (retP (S.set i (.lst (xs.eraseIdx j)))) := rfl
def pop1C (S : Store) (i : Nat) (k : Int) : Option Cell → R (D × Store)
  | some (.lst xs) => when_ (decide (xs.length ≤ Line)) (bx (orNo (ixN xs.length k)) (pop1D S i xs))
  | _ => .no
def pop1K (x y : D) (S : Store) : R (D × Store) := match x, y with
  | .ref i, .p (.int k) => pop1C S i k S[i]?
  | _, _ => .no
def pop1A (a : Ex) (σ : Env) (x : D) (S : Store) : R (D × Store) := when_ (lstAt S x) (bd (a σ S) (pop1K x))
theorem au_Pop1 : mPop1 o a σ S = bd (o σ S) (pop1A a σ) := rfl
theorem au_pop1A : pop1A a σ d S = when_ (lstAt S d) (bd (a σ S) (pop1K d)) := rfl
theorem au_pop1K : pop1K (.ref i) (.p (.int x)) S = pop1C S i x S[i]? := rfl
theorem au_pop1C : pop1C S i x (some (.lst xs)) = when_ (decide (xs.length ≤ Line)) (bx (orNo (ixN xs.length x)) (pop1D S i xs)) := rfl
def idxE (u0 u : PyData) (S : Store) (v : PyData) : R (D × Store) := when_ (decide (isTup u0 = isTup u)) (bx (pIndex u v) (retP S))
def idxD (u0 : PyData) (y : D) (S : Store) (u : PyData) : R (D × Store) := bx (dv S y) (idxE u0 u S)
def idxC (x : D) (u0 : PyData) (y : D) (S : Store) : R (D × Store) := bx (dv S x) (idxD u0 y S)
def idxB (x : D) (a : Ex) (σ : Env) (S : Store) (u0 : PyData) : R (D × Store) := when_ (items? u0).isSome (bd (a σ S) (idxC x u0))
def idxA (a : Ex) (σ : Env) (x : D) (S : Store) : R (D × Store) := bx (dv S x) (idxB x a σ S)
theorem au_Index : mIndex o a σ S = bd (o σ S) (idxA a σ) := rfl
theorem au_idxA : idxA a σ d S = bx (dv S d) (idxB d a σ S) := rfl
theorem au_idxB : idxB d a σ S u = when_ (items? u).isSome (bd (a σ S) (idxC d u)) := rfl
theorem au_idxC : idxC d u d2 S = bx (dv S d) (idxD u d2 S) := rfl
theorem au_idxD : idxD u d S v = bx (dv S d) (idxE u v S) := rfl
theorem au_idxE : idxE u v S w = when_ (decide (isTup u = isTup v)) (bx (pIndex v w) (retP S)) := rfl
theorem au_itL : (items? (.list xs)).isSome = true := rfl
theorem au_itT : (items? (.tuple xs)).isSome = true := rfl
theorem au_isTupT : isTup (.tuple xs) = true := rfl
theorem au_isTupL : isTup (.list xs) = false := rfl
def srcC (i : Nat) : Option Cell → R Src
  | some (.lst xs) => .ok ⟨xs, [(i, .lst xs)]⟩
  | some (.flst xs) => .ok ⟨xs, []⟩
  | _ => .no
theorem au_srcR : srcOf S (.ref i) = srcC i S[i]? := by
  cases h : S[i]? with
  | none => simp [srcOf, srcC, h]
  | some o => cases o <;> simp [srcOf, srcC, h]
theorem au_srcC : srcC i (some (.lst xs)) = .ok ⟨xs, [(i, .lst xs)]⟩ := rfl
theorem au_srcF : srcC i (some (.flst xs)) = .ok ⟨xs, []⟩ := rfl
theorem au_srcL : srcOf S (.p (.list xs)) = .ok ⟨xs, []⟩ := rfl
theorem au_srcT : srcOf S (.p (.tuple xs)) = .ok ⟨xs, []⟩ := rfl
def okS (S : Store) (s : Src) : R (Src × Store) := .ok (s, S)
def iEK (x : D) (S : Store) : R (Src × Store) := bx (srcOf S x) (okS S)
theorem au_iE : iE a σ S = bd (a σ S) iEK := rfl
theorem au_iEK : iEK d S = bx (srcOf S d) (okS S) := rfl
theorem au_okS (s : Src) : okS S s = .ok (s, S) := rfl
def r1K : D → Store → R (Src × Store)
  | .p (.int n), S => when_ (decide (-(2 ^ 62) ≤ n ∧ n.toNat < 2 ^ 62)) (.ok (⟨(List.range n.toNat).map dI, []⟩, S))
  | _, _ => .no
theorem rgD_zero : rgD 0 x = (List.range x.toNat).map dI := by
  unfold rgD
  simp
theorem au_iR1 : iR1 a σ S = bd (a σ S) r1K := by
  unfold iR1
  congr 1
  funext x S1
  cases x with
  | p u =>
    cases u with
    | int n => simp only [r1K, rgD_zero]
    | _ => rfl
  | _ => rfl
theorem au_r1K : r1K (.p (.int x)) S = when_ (decide (-(2 ^ 62) ≤ x ∧ x < 2 ^ 62)) (.ok (⟨(List.range x.toNat).map dI, []⟩, S)) := by
  have : decide (-(2 ^ 62) ≤ x ∧ x < 2 ^ 62) = decide (-(2 ^ 62) ≤ x ∧ x.toNat < 2 ^ 62) := decide_eq_decide.mpr (by omega)
  rw [this]
  rfl
def r2K : D → D → Store → R (Src × Store)
  | .p (.int m), .p (.int n), S => when_ (decide (-(2 ^ 62) ≤ m ∧ m.toNat < 2 ^ 62 ∧ -(2 ^ 62) ≤ n ∧ n.toNat < 2 ^ 62)) (.ok (⟨rgD m n, []⟩, S))
  | _, _, _ => .no
def r2A (b : Ex) (σ : Env) (x : D) (S : Store) : R (Src × Store) := bd (b σ S) (r2K x)
theorem au_r2A : r2A b σ d S = bd (b σ S) (r2K d) := rfl
theorem au_iR2 : iR2 a b σ S = bd (a σ S) (r2A b σ) := by
  show iR2 a b σ S = bd (a σ S) fun x S1 => bd (b σ S1) fun y S2 => r2K x y S2
  unfold iR2
  congr 1
  funext x S1
  congr 1
  funext y S2
  cases x with
  | p u =>
    cases y with
    | p v => cases u <;> cases v <;> rfl
    | _ => cases u <;> rfl
  | _ => rfl
theorem au_r2K : r2K (.p (.int x)) (.p (.int y)) S = when_ (decide (-(2 ^ 62) ≤ x ∧ x < 2 ^ 62 ∧ -(2 ^ 62) ≤ y ∧ y < 2 ^ 62)) (.ok (⟨rgD x y, []⟩, S)) := by
  have : decide (-(2 ^ 62) ≤ x ∧ x < 2 ^ 62 ∧ -(2 ^ 62) ≤ y ∧ y < 2 ^ 62) = decide (-(2 ^ 62) ≤ x ∧ x.toNat < 2 ^ 62 ∧ -(2 ^ 62) ≤ y ∧ y.toNat < 2 ^ 62) := decide_eq_decide.mpr (by omega)
  rw [this]
  rfl
def enB (S : Store) (s : Src) : R (Src × Store) := .ok (⟨numD 0 s.items, s.g⟩, S)
def enA (x : D) (S : Store) : R (Src × Store) := bx (srcOf S x) (enB S)
theorem au_iEnum : iEnum a σ S = bd (a σ S) enA := rfl
theorem au_enA : enA d S = bx (srcOf S d) (enB S) := rfl
theorem au_enB (g : List (Nat × Cell)) : enB S ⟨xs, g⟩ = .ok (⟨numD 0 xs, g⟩, S) := rfl
def zpD (S : Store) (s t : Src) : R (Src × Store) := .ok (⟨zipD s.items t.items, s.g ++ t.g⟩, S)
def zpC (y : D) (S : Store) (s : Src) : R (Src × Store) := bx (srcOf S y) (zpD S s)
def zpB (x y : D) (S : Store) : R (Src × Store) := bx (srcOf S x) (zpC y S)
def zpA (b : Ex) (σ : Env) (x : D) (S : Store) : R (Src × Store) := bd (b σ S) (zpB x)
theorem au_iZip : iZip a b σ S = bd (a σ S) (zpA b σ) := rfl
theorem au_zpA : zpA b σ d S = bd (b σ S) (zpB d) := rfl
theorem au_zpB : zpB d d2 S = bx (srcOf S d) (zpC d2 S) := rfl
theorem au_zpC (s : Src) : zpC d S s = bx (srcOf S d) (zpD S s) := rfl
theorem au_zpD (g g2 : List (Nat × Cell)) : zpD S ⟨xs, g⟩ ⟨ys, g2⟩ = .ok (⟨zipD xs ys, g ++ g2⟩, S) := rfl
theorem au_tupDT : tupD (.p (.tuple xs)) = true := rfl
theorem au_tupDL : tupD (.p (.list xs)) = false := rfl
theorem au_tupDR : tupD (.ref i) = false := rfl
theorem au_gN : gN i u σ = .ok (σ.set i (some (.p u))) := rfl
theorem au_gT (ts : List Tg) : gT ts (.tuple xs) σ = gAll ts xs σ := rfl
theorem au_gAllN : gAll [] [] σ = .ok σ := rfl
theorem au_gAllC (g : Tg) (ts : List Tg) : gAll (g :: ts) (u :: xs) σ = bx (g u σ) (gAll ts xs) := rfl
noncomputable def compK (own : List Nat) (tg : Tg) (cond : Bx) (elt : Ex) (σ : Env) (s : Src) (S : Store) : R (D × Store) := when_ (decide (s.items.length ≤ Line)) (compL own tg cond elt s.g σ s.items [] S)
theorem au_Comp (own : List Nat) (src : Is) (tg : Tg) (cond : Bx) (elt : Ex) : mComp own src tg cond elt σ S = bd (src σ S) (compK own tg cond elt σ) := rfl
theorem au_compK (own : List Nat) (tg : Tg) (cond : Bx) (elt : Ex) (g : List (Nat × Cell)) : compK own tg cond elt σ ⟨xs, g⟩ S = when_ (decide (xs.length ≤ Line)) (compL own tg cond elt g σ xs [] S) := rfl
theorem au_wipeN : wipe σ [] = σ := rfl
theorem au_wipeC (r : List Nat) : wipe σ (i :: r) = (wipe σ r).set i none := rfl
def seqK (b : Sm) : Fl → Env → Store → R (Fl × Env × Store)
  | .nx, σ1, S1 => b σ1 S1
  | f, σ1, S1 => .ok (f, σ1, S1)
theorem au_Pass : sPass σ S = .ok (.nx, σ, S) := rfl
theorem au_Seq (s1 s2 : Sm) : sSeq s1 s2 σ S = bs (s1 σ S) (seqK s2) := by
  unfold sSeq
  congr 1
  funext f σ1 S1
  cases f <;> rfl
theorem au_seqN (s2 : Sm) : seqK s2 .nx σ S = s2 σ S := rfl
theorem au_seqB (s2 : Sm) : seqK s2 .bk σ S = .ok (.bk, σ, S) := rfl
theorem au_seqC (s2 : Sm) : seqK s2 .ct σ S = .ok (.ct, σ, S) := rfl
theorem au_seqR (s2 : Sm) : seqK s2 (.rt d) σ S = .ok (.rt d, σ, S) := rfl
def asgK (i : Nat) (σ : Env) (x : D) (S : Store) : R (Fl × Env × Store) := .ok (.nx, σ.set i (some x), S)
theorem au_Asg : sAsg i a σ S = bd (a σ S) (asgK i σ) := rfl
theorem au_asgK : asgK i σ d S = .ok (.nx, σ.set i (some d), S) := rfl
def parK (is : List Nat) (σ : Env) (ds : List D) (S : Store) : R (Fl × Env × Store) := when_ (decide (ds.length = is.length)) (.ok (.nx, setAll is ds σ, S))
theorem au_Par (is : List Nat) (as : As) : sPar is as σ S = bd (as σ S) (parK is σ) := rfl
theorem au_parK (is : List Nat) (ds : List D) : parK is σ ds S = when_ (decide (ds.length = is.length)) (.ok (.nx, setAll is ds σ, S)) := rfl
theorem au_setC (is : List Nat) (ds : List D) : setAll (i :: is) (d :: ds) σ = setAll is ds (σ.set i (some d)) := rfl
theorem au_setN : setAll [] [] σ = σ := rfl
def unpC (S : Store) (σ1 : Env) : R (Fl × Env × Store) := .ok (.nx, σ1, S)
def unpB (tg : Tg) (σ : Env) (S : Store) (u : PyData) : R (Fl × Env × Store) := bx (tg u σ) (unpC S)
def unpA (tg : Tg) (σ : Env) (x : D) (S : Store) : R (Fl × Env × Store) := bx (pv x) (unpB tg σ S)
theorem au_Unp (tg : Tg) : sUnp tg a σ S = bd (a σ S) (unpA tg σ) := rfl
theorem au_unpA (tg : Tg) : unpA tg σ (.p u) S = unpB tg σ S u := bx_of (show pv (.p u) = .ok u from rfl)
theorem au_unpB (tg : Tg) : unpB tg σ S u = bx (tg u σ) (unpC S) := rfl
theorem au_unpC : unpC S σ = .ok (.nx, σ, S) := rfl
def dropK (σ : Env) (x : D) (S : Store) : R (Fl × Env × Store) := .ok (.nx, σ, S)
theorem au_Drop : sDrop a σ S = bd (a σ S) (dropK σ) := rfl
theorem au_dropK : dropK σ d S = .ok (.nx, σ, S) := rfl
def rtK (σ : Env) (x : D) (S : Store) : R (Fl × Env × Store) := .ok (.rt x, σ, S)
theorem au_Ret : sRet a σ S = bd (a σ S) (rtK σ) := rfl
theorem au_rtK : rtK σ d S = .ok (.rt d, σ, S) := rfl
def sifK (s1 s2 : Sm) (σ : Env) (x : Bool) (S : Store) : R (Fl × Env × Store) := if x = true then s1 σ S else s2 σ S
theorem au_SIf (s1 s2 : Sm) : sIf t s1 s2 σ S = bd (t σ S) (sifK s1 s2 σ) := rfl
theorem au_sifK (s1 s2 : Sm) : sifK s1 s2 σ p S = if p = true then s1 σ S else s2 σ S := rfl
theorem au_Break : sBreak σ S = .ok (.bk, σ, S) := rfl
theorem au_Cont : sCont σ S = .ok (.ct, σ, S) := rfl
def augC (i : Nat) (σ : Env) (S : Store) (z : PyData) : R (Fl × Env × Store) := .ok (.nx, σ.set i (some (.p z)), S)
def augB (i : Nat) (f : PyData → PyData → R PyData) (u : PyData) (σ : Env) (S : Store) (v : PyData) : R (Fl × Env × Store) := bx (f u v) (augC i σ S)
def augA (i : Nat) (f : PyData → PyData → R PyData) (u : PyData) (σ : Env) (y : D) (S : Store) : R (Fl × Env × Store) := bx (dv S y) (augB i f u σ S)
theorem au_augA (f : PyData → PyData → R PyData) : augA i f u σ d S = bx (dv S d) (augB i f u σ S) := rfl
theorem au_augB (f : PyData → PyData → R PyData) : augB i f u σ S v = bx (f u v) (augC i σ S) := rfl
theorem au_augC : augC i σ S u = .ok (.nx, σ.set i (some (.p u)), S) := rfl
def augK (i : Nat) (f : PyData → PyData → R PyData) (a : Ex) (σ : Env) (S : Store) : Option (Option D) → R (Fl × Env × Store)
  | some (some (.p u)) => bd (a σ S) (augA i f u σ)
  | _ => .no
theorem au_Aug (f : PyData → PyData → R PyData) : sAug i f a σ S = augK i f a σ S σ[i]? := by
  unfold sAug augK
  cases h : σ[i]? with
  | none => rfl
  | some o =>
    cases o with
    | none => rfl
    | some d => cases d <;> rfl
theorem au_augK (f : PyData → PyData → R PyData) : augK i f a σ S (some (some (.p u))) = bd (a σ S) (augA i f u σ) := rfl
def setD (S : Store) (σ : Env) (j : Nat) (d : PyData) (xs : List PyData) (m : Nat) : R (Fl × Env × Store) := .ok (.nx, σ, S.set j (.lst (xs.set m d)))
theorem au_setD : setD S σ j u xs m = .ok (.nx, σ, S.set j (.lst (xs.set m u))) := rfl
def setC (S : Store) (σ : Env) (j : Nat) (n : Int) (d : PyData) : Option Cell → R (Fl × Env × Store)
  | some (.lst xs) => bx (orNo (ixN xs.length n)) (setD S σ j d xs)
  | _ => .no
def setK (x k : D) (d : PyData) (σ : Env) (S : Store) : R (Fl × Env × Store) := match x, k with
  | .ref j, .p (.int n) => setC S σ j n d S[j]?
  | _, _ => .no
def setDC (S : Store) (σ : Env) (j : Nat) (kd d : PyData) : Option Cell → R (Fl × Env × Store)
  | some (.dct t kvs) => when_ (!t && keyOk t kd && decide (kvs.length < Line)) (.ok (.nx, σ, S.set j (.dct t (put kvs kd d))))
  | _ => .no
def setDK (x : D) (d : PyData) (σ : Env) (S : Store) (kd : PyData) : R (Fl × Env × Store) := match x with
  | .ref j => setDC S σ j kd d S[j]?
  | _ => .no
def setDE (x k : D) (σ : Env) (d : PyData) (S : Store) : R (Fl × Env × Store) := bx (dv S k) (setDK x d σ S)
def setDF (x y : D) (σ : Env) (k : D) (S : Store) : R (Fl × Env × Store) := bd (fz S y) (setDE x k σ)
def setDG (k : Ex) (y : D) (σ : Env) (x : D) (S : Store) : R (Fl × Env × Store) := bd (k σ S) (setDF x y σ)
def setDH (o k : Ex) (σ : Env) (y : D) (S : Store) : R (Fl × Env × Store) := bd (o σ S) (setDG k y σ)
theorem au_SetD : sSetD o k a σ S = bd (a σ S) (setDH o k σ) := rfl
theorem au_setDH : setDH o k σ d S = bd (o σ S) (setDG k d σ) := rfl
theorem au_setDG : setDG k d σ d2 S = bd (k σ S) (setDF d2 d σ) := rfl
theorem au_setDF (d3 : D) : setDF d d2 σ d3 S = bd (fz S d2) (setDE d d3 σ) := rfl
theorem au_setDE : setDE d d2 σ u S = bx (dv S d2) (setDK d u σ S) := rfl
theorem au_setDK : setDK (.ref j) u σ S v = setDC S σ j v u S[j]? := rfl
theorem au_setDC (b0 : Bool) (kvs : List (PyData × PyData)) : setDC S σ j v u (some (.dct b0 kvs)) = when_ (!b0 && keyOk b0 v && decide (kvs.length < Line)) (.ok (.nx, σ, S.set j (.dct b0 (put kvs v u)))) := rfl
theorem au_keyI : keyOk false (.int x) = true := rfl
theorem au_keyS (z : Str) : keyOk false (.str z) = true := rfl
def setE (x k : D) (σ : Env) (d : PyData) (S : Store) : R (Fl × Env × Store) := setK x k d σ S
def setF (x y : D) (σ : Env) (k : D) (S : Store) : R (Fl × Env × Store) := bd (fz S y) (setE x k σ)
def setG (k : Ex) (y : D) (σ : Env) (x : D) (S : Store) : R (Fl × Env × Store) := bd (k σ S) (setF x y σ)
def setH (o k : Ex) (σ : Env) (y : D) (S : Store) : R (Fl × Env × Store) := bd (o σ S) (setG k y σ)
theorem au_SetL : sSetL o k a σ S = bd (a σ S) (setH o k σ) := rfl
theorem au_setH : setH o k σ d S = bd (o σ S) (setG k d σ) := rfl
theorem au_setG : setG k d σ d2 S = bd (k σ S) (setF d2 d σ) := rfl
theorem au_setF (d3 : D) : setF d d2 σ d3 S = bd (fz S d2) (setE d d3 σ) := rfl
theorem au_setE : setE d d2 σ u S = setK d d2 u σ S := rfl
theorem au_setK : setK (.ref j) (.p (.int x)) u σ S = setC S σ j x u S[j]? := rfl
theorem au_setCL : setC S σ j x u (some (.lst xs)) = bx (orNo (ixN xs.length x)) (setD S σ j u xs) := rfl
noncomputable def forK (tg : Tg) (s1 : Sm) (σ : Env) (s : Src) (S : Store) : R (Fl × Env × Store) := forL tg s.g s1 s.items σ S
theorem au_For (src : Is) (tg : Tg) (s1 : Sm) : sFor src tg s1 σ S = bd (src σ S) (forK tg s1 σ) := rfl
theorem au_forK (tg : Tg) (s1 : Sm) (g : List (Nat × Cell)) : forK tg s1 σ ⟨xs, g⟩ S = forL tg g s1 xs σ S := rfl
def fnK (fi : Nat → D → Store → R (D × Store)) (n : Nat) : Fl → Env → Store → R (D × Store)
  | .rt d, _, S1 => fi n d S1
  | .nx, _, S1 => fi n (.p .none) S1
  | _, _, _ => .no
theorem au_fn (fi : Nat → D → Store → R (D × Store)) (np slots : Nat) (body : Sm) (ds : List D) : fnOf fi np slots body ds S = when_ (decide (ds.length = np)) (cutEx S.length (bs (body (start slots ds) S) (fnK fi S.length))) := by
  unfold fnOf
  congr 3
  funext f σ S1
  cases f <;> rfl
theorem au_fnR (fi : Nat → D → Store → R (D × Store)) : fnK fi n (.rt d) σ S = fi n d S := rfl
theorem au_fnN (fi : Nat → D → Store → R (D × Store)) : fnK fi n .nx σ S = fi n (.p .none) S := rfl
theorem au_finP : fin n (.p u) S = .ok (.p u, S.take n) := rfl
theorem au_finMP : finM n (.p u) S = .ok (.p u, S.take n) := rfl
def finC (n i : Nat) (S : Store) : Option Cell → R (D × Store)
  | some (.lst xs) => .ok (.p (.list xs), S.take n)
  | some (.flst xs) => .ok (.p (.list xs), S.take n)
  | some (.tbl t) => when_ (!t.wk) (.ok (.ref n, S.take n ++ [.tbl t, .inn, .inn]))
  | some .inn => .no
  | some .inf => .no
  | some c => .ok (.ref n, S.take n ++ [c])
  | none => .no
theorem au_finR : fin n (.ref i) S = if i < n then .ok (.ref i, S.take n) else finC n i S S[i]? := rfl
theorem au_finCL : finC n i S (some (.lst xs)) = .ok (.p (.list xs), S.take n) := rfl
theorem au_finCF : finC n i S (some (.flst xs)) = .ok (.p (.list xs), S.take n) := rfl
theorem au_finCD (kvs : List (PyData × PyData)) : finC n i S (some (.dct p kvs)) = .ok (.ref n, S.take n ++ [.dct p kvs]) := rfl
def finMC (n i : Nat) (S : Store) : Option Cell → R (D × Store)
  | some (.tbl t) => when_ (!t.wk) (.ok (.ref n, S.take n ++ [.tbl t, .inn, .inn]))
  | some .inn => .no
  | some .inf => .no
  | some c => .ok (.ref n, S.take n ++ [c])
  | none => .no
theorem au_finMR : finM n (.ref i) S = if i < n then .ok (.ref i, S.take n) else finMC n i S S[i]? := rfl
theorem au_finMC : finMC n i S (some (.lst xs)) = .ok (.ref n, S.take n ++ [.lst xs]) := rfl
theorem au_finMD (kvs : List (PyData × PyData)) : finMC n i S (some (.dct p kvs)) = .ok (.ref n, S.take n ++ [.dct p kvs]) := rfl
theorem au_finMN (k : Nat) (rs : List Nat) : finMC n i S (some (.nst k rs)) = .ok (.ref n, S.take n ++ [.nst k rs]) := rfl
theorem au_finMV (kvs : List (List Int × PyData)) : finMC n i S (some (.tdv p kvs)) = .ok (.ref n, S.take n ++ [.tdv p kvs]) := rfl
theorem au_finMF (kvs : List (PyData × PyData)) : finMC n i S (some (.fdct p kvs)) = .ok (.ref n, S.take n ++ [.fdct p kvs]) := rfl
theorem au_cutEx {α : Type} (z : α) : cutEx n (.ok z) = .ok z := rfl
theorem au_start (slots : Nat) (ds : List D) : start slots ds = ds.map some ++ List.replicate (slots - ds.length) none := rfl
end
section
variable (a b : Int) (xs ys : List PyData) (p q : Bool) (s z : Str)
theorem au_add : pAdd (.int a) (.int b) = .ok (.int (a + b)) := rfl
theorem au_sub : pSub (.int a) (.int b) = .ok (.int (a - b)) := rfl
theorem au_neg : pNeg (.int a) = .ok (.int (-a)) := rfl
theorem au_not : pNot (.bool p) = .ok (.bool (!p)) := rfl
theorem au_lt : pLt (.int a) (.int b) = .ok (.bool (decide (a < b))) := rfl
theorem au_gt : pGt (.int a) (.int b) = .ok (.bool (decide (b < a))) := rfl
theorem au_le : pLe (.int a) (.int b) = .ok (.bool (decide (a ≤ b))) := rfl
theorem au_ge : pGe (.int a) (.int b) = .ok (.bool (decide (b ≤ a))) := rfl
theorem au_eq : pEq (.int a) (.int b) = .ok (.bool (decide (a = b))) := pEq_int a b
theorem au_ne : pNe (.int a) (.int b) = .ok (.bool (!decide (a = b))) := pNe_int a b
theorem au_addT : pAdd (.tuple xs) (.tuple ys) = when_ (decide (xs.length + ys.length ≤ Line)) (.ok (.tuple (xs ++ ys))) := rfl
theorem au_addL : pAdd (.list xs) (.list ys) = when_ (decide (xs.length + ys.length ≤ Line)) (.ok (.list (xs ++ ys))) := rfl
theorem mulOk_of (h1 : -(2 ^ 200) < a) (h2 : a < 2 ^ 200) (h3 : -(2 ^ 200) < b) (h4 : b < 2 ^ 200) : mulOk a b = true := by
  have key : ∀ x : Int, -(2 ^ 200) < x → x < 2 ^ 200 → x.natAbs.log2 < 200 := fun x g1 g2 => by
    by_cases e : x.natAbs = 0
    · rw [e]
      decide
    · rw [Nat.log2_lt e]
      have : (x.natAbs : Int) = x ∨ (x.natAbs : Int) = -x := by omega
      have h2 : ((2 ^ 200 : Nat) : Int) = 2 ^ 200 := by simp
      omega
  have k1 := key a h1 h2
  have k2 := key b h3 h4
  exact decide_eq_true (by omega)
theorem au_mul (h1 : -(2 ^ 200) < a) (h2 : a < 2 ^ 200) (h3 : -(2 ^ 200) < b) (h4 : b < 2 ^ 200) : pMul (.int a) (.int b) = .ok (.int (a * b)) := when_of (mulOk_of a b h1 h2 h3 h4)
theorem au_div (h1 : 0 < b) (h2 : b < 2 ^ 200) : pDiv (.int a) (.int b) = .ok (.int (a / b)) := when_of (decide_eq_true ⟨h1, by
    have := log_lt (x := b) (k := 200) (by omega) h2 (by decide)
    omega⟩)
theorem au_mod (h1 : 0 < b) : pMod (.int a) (.int b) = .ok (.int (a % b)) := when_of (decide_eq_true h1)
theorem au_max : pMax2 (.int a) (.int b) = .ok (.int (max a b)) := by
  show R.ok (PyData.int _) = _
  congr 2
  split <;> omega
theorem au_min : pMin2 (.int a) (.int b) = .ok (.int (min a b)) := by
  show R.ok (PyData.int _) = _
  congr 2
  split <;> omega
theorem au_abs : pAbs (.int a) = .ok (.int (if a < 0 then -a else a)) := rfl
theorem au_tupL : pTuple (.list xs) = .ok (.tuple xs) := rfl
theorem au_tupT : pTuple (.tuple xs) = .ok (.tuple xs) := rfl
theorem au_lstL : pList (.list xs) = .ok (.list xs) := rfl
theorem au_lstT : pList (.tuple xs) = .ok (.list xs) := rfl
theorem au_intI : pInt (.int a) = .ok (.int a) := rfl
theorem au_intB : pInt (.bool p) = .ok (.int (if p = true then 1 else 0)) := by cases p <;> rfl
theorem au_ixT : pIx (.tuple xs) (.int a) = orNo (atD xs a) := rfl
theorem au_ixLi : pIx (.list xs) (.int a) = orNo (atD xs a) := rfl
theorem au_at (h0 : 0 ≤ a) (h1 : a < xs.length) : atD xs a = xs[a.toNat]? := by
  unfold atD ixN
  rw [if_pos h0, if_pos h1]
  rfl
theorem au_atN (h0 : a < 0) (h1 : -(xs.length : Int) ≤ a) : atD xs a = xs[(a + xs.length).toNat]? := by
  unfold atD ixN
  rw [if_neg (by omega), if_pos h1]
  rfl
theorem au_ixN (n : Nat) (h0 : 0 ≤ a) (h1 : a < n) : ixN n a = some a.toNat := by
  unfold ixN
  rw [if_pos h0, if_pos h1]
theorem au_ixNN (n : Nat) (h0 : a < 0) (h1 : -(n : Int) ≤ a) : ixN n a = some (a + n).toNat := by
  unfold ixN
  rw [if_neg (by omega), if_pos h1]
theorem au_orSome {α : Type} (z : α) : orNo (some z) = .ok z := rfl
theorem au_orAt {α : Type} [Inhabited α] (f : α → PyData) (zs : List α) (k : Nat) (h : k < zs.length) : (zs[k]?).map f = some (f zs[k]!) := by
  rw [List.getElem?_eq_getElem h, getElem!_pos zs k h]
  rfl
theorem au_when {α : Type} (c : Prop) [Decidable c] (r : R α) (h : c) : when_ (decide c) r = r := when_of (decide_eq_true h)
theorem au_whenT {α : Type} (r : R α) : when_ true r = r := rfl
theorem au_bdI {α β : Type} (c : Prop) [Decidable c] (x y : R (α × Store)) (f : α → Store → R β) : bd (if c then x else y) f = if c then bd x f else bd y f := by split <;> rfl
theorem au_bxI {α β : Type} (c : Prop) [Decidable c] (x y : R α) (f : α → R β) : bx (if c then x else y) f = if c then bx x f else bx y f := by split <;> rfl
theorem au_bsI {β : Type} (c : Prop) [Decidable c] (x y : R (Fl × Env × Store)) (f : Fl → Env → Store → R β) : bs (if c then x else y) f = if c then bs x f else bs y f := by split <;> rfl
theorem au_ifT {α : Type} (c : Prop) [Decidable c] (x y : α) (h : c) : (if c then x else y) = x := if_pos h
theorem au_ifF {α : Type} (c : Prop) [Decidable c] (x y : α) (h : ¬c) : (if c then x else y) = y := if_neg h
theorem au_getA {α : Type} (A B : List α) (i : Nat) (h : A.length ≤ i) : (A ++ B)[i]? = B[i - A.length]? := List.getElem?_append_right h
theorem au_getB {α : Type} (A B : List α) (i : Nat) (h : i < A.length) : (A ++ B)[i]? = A[i]? := List.getElem?_append_left h
theorem au_setA {α : Type} (A B : List α) (i : Nat) (c : α) (h : A.length ≤ i) : (A ++ B).set i c = A ++ B.set (i - A.length) c := List.set_append_right _ _ h
theorem au_setB {α : Type} (A B : List α) (i : Nat) (c : α) (h : i < A.length) : (A ++ B).set i c = A.set i c ++ B := List.set_append_left _ _ h
theorem au_takeA {α : Type} (A B : List α) (n : Nat) (h : A.length = n) : (A ++ B).take n = A := by rw [← h]; exact List.take_left
theorem au_takeN {α : Type} (A : List α) (n : Nat) (h : A.length = n) : A.take n = A := by rw [← h]; exact List.take_length
theorem au_getS {α : Type} (A : List α) (i : Nat) (c : α) (h : i < A.length) : (A.set i c)[i]? = some c := by rw [List.getElem?_set_self h]
theorem au_getSN {α : Type} (A : List α) (i j : Nat) (c : α) (h : i ≠ j) : (A.set i c)[j]? = A[j]? := List.getElem?_set_ne h
end
def au0 := And.intro @au_C (And.intro @au_V (And.intro @au_getV (And.intro @au_dvR (And.intro @au_dvD (And.intro @au_dvC (And.intro @au_dvF (And.intro @au_retP (And.intro @au_O1 (And.intro @au_o1a (And.intro @au_o1b (And.intro @au_O2 (And.intro @au_o2a (And.intro @au_o2b (And.intro @au_o2c (And.intro @au_o2d (And.intro @au_ixd (And.intro @au_ixa (And.intro @au_ixb (And.intro @au_Ix (And.intro @au_ixP (And.intro @au_ixS (And.intro @au_ixR (And.intro @au_ixL (And.intro @au_ixF (And.intro @au_ixD (And.intro @au_ixFD (And.intro @au_ina (And.intro @au_inb (And.intro @au_inc (And.intro @au_In (And.intro @au_NotIn (And.intro @au_inP (And.intro @au_inR (And.intro @au_inL (And.intro @au_inFL (And.intro @au_inD (And.intro @au_inFD (And.intro @au_Len (And.intro @au_lenP (And.intro @au_lenS (And.intro @au_lenR (And.intro @au_lenL (And.intro @au_lenF (And.intro @au_lenD (And.intro @au_pLenL (And.intro @au_pLenT (And.intro @au_cha (And.intro @au_chb (@au_chc)))))))))))))))))))))))))))))))))))))))))))))))))
def au1 := And.intro @au_chd (And.intro @au_Ch (And.intro @au_chK (And.intro @au_tE (And.intro @au_tEK (And.intro @au_tAnd (And.intro @au_tOr (And.intro @au_tNot (And.intro @au_tAndK (And.intro @au_tOrK (And.intro @au_tNotK (And.intro @au_tYes (And.intro @au_And (And.intro @au_Or (And.intro @au_andK (And.intro @au_orK (And.intro @au_If (And.intro @au_ifK (And.intro @au_IsN (And.intro @au_NotN (And.intro @au_isNK (And.intro @au_notNK (And.intro @au_isN0 (And.intro @au_isNi (And.intro @au_isNb (And.intro @au_isNt (And.intro @au_isNl (And.intro @au_isNs (And.intro @au_isNr (And.intro @au_Nil (And.intro @au_Cons (And.intro @au_consA (And.intro @au_consB (And.intro @au_Tup (And.intro @au_Lst (And.intro @au_tupA (And.intro @au_lstA (And.intro @au_tupB (And.intro @au_lstB (And.intro @au_Call (And.intro @au_fzR (And.intro @au_fzL (And.intro @au_fzF (And.intro @au_fzsN (And.intro @au_fzsC (And.intro @au_fzsA (And.intro @au_fzsB (And.intro @au_New (And.intro @au_newK (@au_Dict)))))))))))))))))))))))))))))))))))))))))))))))))
def au2 := And.intro @au_oNo (And.intro @au_oE (And.intro @au_oEK (And.intro @au_Cut (And.intro @au_cutA (And.intro @au_cutB (And.intro @au_cutC (And.intro @au_cutD (And.intro @au_pCutL (And.intro @au_pCutT (And.intro @au_App (And.intro @au_appA (And.intro @au_appB (And.intro @au_appK (And.intro @au_appC (And.intro @au_lstAt (And.intro @au_isLst (And.intro @au_Ext (And.intro @au_extA (And.intro @au_extB (And.intro @au_extE (And.intro @au_extK (And.intro @au_extC (And.intro @au_Pop0 (And.intro @au_popK (And.intro @au_popC (And.intro @au_pop1D (And.intro @au_Pop1 (And.intro @au_pop1A (And.intro @au_pop1K (And.intro @au_pop1C (And.intro @au_Index (And.intro @au_idxA (And.intro @au_idxB (And.intro @au_idxC (And.intro @au_idxD (And.intro @au_idxE (And.intro @au_itL (And.intro @au_itT (And.intro @au_isTupT (And.intro @au_isTupL (And.intro @au_srcR (And.intro @au_srcC (And.intro @au_srcF (And.intro @au_srcL (And.intro @au_srcT (And.intro @au_iE (And.intro @au_iEK (And.intro @au_okS (@au_iR1)))))))))))))))))))))))))))))))))))))))))))))))))
def au3 := And.intro @au_r1K (And.intro @au_r2A (And.intro @au_iR2 (And.intro @au_r2K (And.intro @au_iEnum (And.intro @au_enA (And.intro @au_enB (And.intro @au_iZip (And.intro @au_zpA (And.intro @au_zpB (And.intro @au_zpC (And.intro @au_zpD (And.intro @au_tupDT (And.intro @au_tupDL (And.intro @au_tupDR (And.intro @au_gN (And.intro @au_gT (And.intro @au_gAllN (And.intro @au_gAllC (And.intro @au_Comp (And.intro @au_compK (And.intro @au_wipeN (And.intro @au_wipeC (And.intro @au_Pass (And.intro @au_Seq (And.intro @au_seqN (And.intro @au_seqB (And.intro @au_seqC (And.intro @au_seqR (And.intro @au_Asg (And.intro @au_asgK (And.intro @au_Par (And.intro @au_parK (And.intro @au_setC (And.intro @au_setN (And.intro @au_Unp (And.intro @au_unpA (And.intro @au_unpB (And.intro @au_unpC (And.intro @au_Drop (And.intro @au_dropK (And.intro @au_Ret (And.intro @au_rtK (And.intro @au_SIf (And.intro @au_sifK (And.intro @au_Break (And.intro @au_Cont (And.intro @au_augA (And.intro @au_augB (@au_augC)))))))))))))))))))))))))))))))))))))))))))))))))
def au4 := And.intro @au_Aug (And.intro @au_augK (And.intro @au_setD (And.intro @au_SetD (And.intro @au_setDH (And.intro @au_setDG (And.intro @au_setDF (And.intro @au_setDE (And.intro @au_setDK (And.intro @au_setDC (And.intro @au_keyI (And.intro @au_keyS (And.intro @au_SetL (And.intro @au_setH (And.intro @au_setG (And.intro @au_setF (And.intro @au_setE (And.intro @au_setK (And.intro @au_setCL (And.intro @au_For (And.intro @au_forK (And.intro @au_fn (And.intro @au_fnR (And.intro @au_fnN (And.intro @au_finP (And.intro @au_finMP (And.intro @au_finR (And.intro @au_finCL (And.intro @au_finCF (And.intro @au_finCD (And.intro @au_finMR (And.intro (And.intro @au_finMC (And.intro @au_finMD (And.intro @au_finMN (And.intro @au_finMV @au_finMF)))) (And.intro @au_cutEx (And.intro @au_start (And.intro @au_add (And.intro @au_sub (And.intro @au_neg (And.intro @au_not (And.intro @au_lt (And.intro @au_gt (And.intro @au_le (And.intro @au_ge (And.intro @au_eq (And.intro @au_ne (And.intro @au_addT (And.intro @au_addL (And.intro @au_mul (And.intro @au_div (And.intro @au_mod (@au_max)))))))))))))))))))))))))))))))))))))))))))))))))
def au5 := And.intro @au_min (And.intro @au_abs (And.intro @au_tupL (And.intro @au_tupT (And.intro @au_lstL (And.intro @au_lstT (And.intro @au_intI (And.intro @au_intB (And.intro @au_ixT (And.intro @au_ixLi (And.intro @au_at (And.intro @au_atN (And.intro @au_ixN (And.intro @au_ixNN (And.intro @au_orSome (And.intro @au_orAt (And.intro @au_when (And.intro @au_whenT (And.intro @au_bdI (And.intro @au_bxI (And.intro @au_bsI (And.intro @au_ifT (And.intro @au_ifF (And.intro @au_getA (And.intro @au_getB (And.intro @au_setA (And.intro @au_setB (And.intro @au_takeA (And.intro @au_takeN (And.intro @au_getS (@au_getSN))))))))))))))))))))))))))))))
end Mi
end
section
namespace Mi
open PySem
abbrev Pt := D → Sm
def ptAll : List Pt → List D → Sm
  | [], [], σ, S => .ok (.nx, σ, S)
  | p :: ps, d :: ds, σ, S => bs (p d σ S) fun _ σ1 S1 => ptAll ps ds σ1 S1
  | _, _, _, _ => .no
section
variable (a b o ix : Ex) (σ : Env) (S : Store) (d e : D) (u v : PyData) (i j : Nat) (x : Int) (xs : List PyData) (kvs : List (PyData × PyData)) (t : Bool)
end
end Mi
end
section
namespace Mi
open PySem
section
variable {tg : Tg} {g : List (Nat × Cell)} {own : List Nat} {cond : Bx} {elt : Ex} {σ : Env} {S : Store}
theorem bx_okE {α β : Type} {x : R α} {f : α → R β} {z : β} (h : bx x f = .ok z) : ∃ a, x = .ok a ∧ f a = .ok z := by
  cases x with
  | ok a => exact ⟨a, rfl, h⟩
  | ex e S => cases h
  | no => cases h
theorem comp_val {α : Type} (f val : α → PyData) {xs : List α} (hs : stand g S = true) (h : ∀ x ∈ xs, ∀ acc, bx (tg (f x) (wipe σ own)) (fun σ1 => elt σ1 (S ++ [.lst acc])) = .ok (.p (val x), S ++ [.lst acc])) :
    compL own tg tYes elt g σ (xs.map f) [] S = .ok (.p (.list (xs.map val)), S) := by
  have key : ∀ (xs : List α) (acc : List PyData), (∀ x ∈ xs, ∀ acc, bx (tg (f x) (wipe σ own)) (fun σ1 => elt σ1 (S ++ [.lst acc])) = .ok (.p (val x), S ++ [.lst acc])) →
      compL own tg tYes elt g σ (xs.map f) acc S = .ok (.p (.list (acc ++ xs.map val)), S) := by
    intro xs
    induction xs with
    | nil =>
      intro acc _
      show when_ (stand g (S ++ [.lst acc])) _ = _
      rw [stand_snoc hs]
      simp
    | cons x xs ih =>
      intro acc h
      show when_ (stand g (S ++ [.lst acc])) _ = _
      rw [stand_snoc hs, when_true]
      obtain ⟨σ1, h1, h2⟩ := bx_okE (h x (by simp) acc)
      rw [bx_of h1, bd_of (show tYes σ1 (S ++ [.lst acc]) = .ok (true, _) from rfl), if_pos rfl, bd_of h2, bd_of (fz_p _ _), when_of stand_last]
      rw [show (S ++ [Cell.lst acc]).take S.length = S by simp, ih _ fun y hy => h y (by simp [hy])]
      simp
  have := key xs [] h
  rwa [List.nil_append] at this
end
section
variable {fi : Nat → D → Store → R (D × Store)} {np slots : Nat} {body : Sm} {ds : List D} {S : Store} {z : D × Store}
theorem fn_rn (hl : ds.length = np) (hb : Rn (body (start slots ds) S) fun p => fnK fi S.length p.1 p.2.1 p.2.2 = .ok z) : fnOf fi np slots body ds S = .ok z := by
  obtain ⟨⟨f, σ, S1⟩, e, h⟩ := hb.ex
  rw [au_fn, when_of (decide_eq_true hl), bs_of e, h]
  rfl
theorem fn_rnQ {Q : D × Store → Prop} (hl : ds.length = np) (hb : Rn (body (start slots ds) S) fun p => Rn (fnK fi S.length p.1 p.2.1 p.2.2) Q) : Rn (fnOf fi np slots body ds S) Q := by
  obtain ⟨⟨f, σ, S1⟩, e, h⟩ := hb.ex
  obtain ⟨z, e2, h2⟩ := h.ex
  rw [au_fn, when_of (decide_eq_true hl), bs_of e, e2]
  exact h2
end
section
variable {tg : Tg} {g : List (Nat × Cell)} {body : Sm}
theorem for_map {α : Type} (f : α → PyData) (I : Nat → Env → Store → Prop) {Q : Fl × Env × Store → Prop} {xs : List α} {σ : Env} {S : Store} (h0 : I 0 σ S) (hs : ∀ k σ S, I k σ S → stand g S = true)
    (hb : ∀ (j : Nat) (x : α) (σ : Env) (S : Store), xs[j]? = some x → I j σ S → Rn (bx (tg (f x) σ) fun σ1 => body σ1 S) fun p => (p.1 = .nx ∨ p.1 = .ct) ∧ I (j + 1) p.2.1 p.2.2)
    (hq : ∀ σ S, I xs.length σ S → Q (.nx, σ, S)) : Rn (forL tg g body (xs.map f) σ S) Q := by
  refine for_rn I _ 0 _ _ h0 hs (fun j x σ S hx hi => ?_) fun σ S hi => hq σ S ?_
  · rw [List.getElem?_map, Option.map_eq_some_iff] at hx
    obtain ⟨y, hy, rfl⟩ := hx
    rw [Nat.zero_add] at hi ⊢
    obtain ⟨p, e, h⟩ := (hb j y σ S hy hi).ex
    obtain ⟨σ1, e1, e2⟩ := bx_okE e
    rw [e1]
    exact Rn.of (a := σ1) rfl (Rn.of e2 h)
  · rw [List.length_map, Nat.zero_add] at hi
    exact hi
theorem for_range (I : Nat → Env → Store → Prop) {Q : Fl × Env × Store → Prop} {n : Nat} {σ : Env} {S : Store} (h0 : I 0 σ S) (hs : ∀ k σ S, I k σ S → stand g S = true)
    (hb : ∀ (j : Nat) (σ : Env) (S : Store), j < n → I j σ S → Rn (bx (tg (dI j) σ) fun σ1 => body σ1 S) fun p => (p.1 = .nx ∨ p.1 = .ct) ∧ I (j + 1) p.2.1 p.2.2)
    (hq : ∀ σ S, I n σ S → Q (.nx, σ, S)) : Rn (forL tg g body ((List.range n).map dI) σ S) Q := by
  refine for_map dI I h0 hs (fun j x σ S hx hi => ?_) fun σ S hi => hq σ S (by rwa [List.length_range] at hi)
  obtain ⟨hj, rfl⟩ := List.getElem?_eq_some_iff.mp hx
  rw [List.getElem_range]
  exact hb j σ S (by simpa using hj) hi
end
theorem numD_range {α : Type} [Inhabited α] (f : α → PyData) (xs : List α) : numD 0 (xs.map f) = (List.range xs.length).map fun k => .tuple [dI k, f xs[k]!] := by
  apply List.ext_getElem?
  intro i
  rw [numD_at', List.getElem?_map, List.getElem?_map, Option.map_map, Nat.zero_add]
  by_cases hi : i < xs.length
  · rw [List.getElem?_eq_getElem hi, List.getElem?_range hi, Option.map_some, Option.map_some, getElem!_pos xs i hi]
    rfl
  · rw [List.getElem?_eq_none (by omega), List.getElem?_eq_none (by simp; omega)]
    rfl
theorem zipD_map {α β : Type} (f : α → PyData) (h : β → PyData) (xs : List α) (ys : List β) : zipD (xs.map f) (ys.map h) = (xs.zip ys).map fun p => .tuple [f p.1, h p.2] := by
  unfold zipD
  rw [List.zip_map, List.map_map]
  rfl
theorem au_pow (a b : Int) (h0 : 0 ≤ b) (h1 : b ≤ 1000) (h2 : -(2 ^ 200) < a) (h3 : a < 2 ^ 200) : pPow (.int a) (.int b) = .ok (.int (a ^ b.toNat)) := when_of (decide_eq_true ⟨h0, h1, by
  by_cases e : a.natAbs = 0
  · rw [e]
    decide
  · rw [Nat.log2_lt e]
    have : (a.natAbs : Int) = a ∨ (a.natAbs : Int) = -a := by omega
    have h2 : ((2 ^ 10000 : Nat) : Int) = 2 ^ 10000 := by simp
    have h3 : (2 : Int) ^ 200 ≤ 2 ^ 10000 := by decide +kernel
    omega⟩)
theorem au_takeB {α : Type} (A B : List α) (n : Nat) (h : A.length ≤ n) : (A ++ B).take n = A ++ B.take (n - A.length) := by
  rw [List.take_append, List.take_of_length_le h]
theorem au_take0 {α : Type} (A : List α) : A.take 0 = [] := rfl
def insC (S : Store) (i : Nat) (k : Int) (d : PyData) : Option Cell → R (D × Store)
  | some (.lst xs) => when_ (decide (0 ≤ k ∧ k < 2 ^ 60 ∧ xs.length < Line)) (.ok (.p .none, S.set i (.lst (xs.take k.toNat ++ [d] ++ xs.drop k.toNat))))
  | _ => .no
def insK (x y : D) (d : PyData) (S : Store) : R (D × Store) := match x, y with
  | .ref i, .p (.int k) => insC S i k d S[i]?
  | _, _ => .no
def insD (x y z : D) (S : Store) : R (D × Store) := bd (fz S z) (insK x y)
def insB (x : D) (b : Ex) (σ : Env) (y : D) (S : Store) : R (D × Store) := bd (b σ S) (insD x y)
def insA (a b : Ex) (σ : Env) (x : D) (S : Store) : R (D × Store) := when_ (lstAt S x) (bd (a σ S) (insB x b σ))
theorem au_Ins (o a b : Ex) (σ : Env) (S : Store) : mInsert o a b σ S = bd (o σ S) (insA a b σ) := rfl
theorem au_insA (a b : Ex) (σ : Env) (S : Store) (d : D) : insA a b σ d S = when_ (lstAt S d) (bd (a σ S) (insB d b σ)) := rfl
theorem au_insB (b : Ex) (σ : Env) (S : Store) (d d2 : D) : insB d b σ d2 S = bd (b σ S) (insD d d2) := rfl
theorem au_insD (S : Store) (d d2 d3 : D) : insD d d2 d3 S = bd (fz S d3) (insK d d2) := rfl
theorem au_insK (S : Store) (i : Nat) (k : Int) (u : PyData) : insK (.ref i) (.p (.int k)) u S = insC S i k u S[i]? := rfl
theorem au_insC (S : Store) (i : Nat) (k : Int) (u : PyData) (xs : List PyData) : insC S i k u (some (.lst xs)) = when_ (decide (0 ≤ k ∧ k < 2 ^ 60 ∧ xs.length < Line)) (.ok (.p .none, S.set i (.lst (xs.take k.toNat ++ [u] ++ xs.drop k.toNat)))) := rfl
theorem au_addI (a b : Int) : pAddI (.int a) (.int b) = .ok (.int (a + b)) := rfl
theorem au_subI (a b : Int) : pSubI (.int a) (.int b) = .ok (.int (a - b)) := rfl
theorem au_gTL (ts : List Tg) (xs : List PyData) (σ : Env) : gT ts (.list xs) σ = gAll ts xs σ := rfl
def au6 := And.intro @au_gTL <| And.intro @au_Ins <| And.intro @au_insA <| And.intro @au_insB <| And.intro @au_insD <| And.intro @au_insK <| And.intro @au_insC <| And.intro @au_takeB <| And.intro @au_take0 <| And.intro @au_pow <| And.intro @au_addI <| And.intro @au_subI <| And.intro @numD_range (And.intro @zipD_map (And.intro @stand_nil (And.intro @ints_map (And.intro @bd_ok (And.intro @bx_ok (And.intro @bs_ok (And.intro @dv_p (And.intro @fz_p @rn_ok))))))))
end Mi
end
section
namespace Mi
open PySem
section
variable (own : List Nat) (tg : Tg) (cond : Bx) (kx vx : Ex) (g : List (Nat × Cell)) (σ : Env)
end
end Mi
end
section
namespace Mi
open PySem PySem.Spec PyProof.Rows L2
section
variable {X : Cx} {e e2 o ix : Expr} {fa fb fc fo fi : Ex} {pos tp apos cpos : Pos} {es ts : List Expr}
structure GOk (X : Cx) (t : Expr) (p : Pt) : Prop where
  has : ∃ g : TG, PG X t g ∧ ∀ (ρ : List Addr) (S : Store) (H : Hp) (v : V) (d : Mi.D) (env : Env) (σ : L2.St) (Q : L2.St → Hp → Prop), DOk X.K ρ S H v d → EnvOk X.K ρ S H env σ → Ok ρ S H →
    Aft ρ S H (p d env S) (fun q => q.2.2) (fun q ρ' H' => ∀ σ', EnvOk X.K ρ' q.2.2 H' q.2.1 σ' → Q σ' H') → g v σ H Q
structure GsOk (X : Cx) (ts : List Expr) (ps : List Pt) : Prop where
  has : ∃ g : TGs, PGs X ts g ∧ ∀ (ρ : List Addr) (S : Store) (H : Hp) (vs : List V) (ds : List Mi.D) (env : Env) (σ : L2.St) (Q : L2.St → Hp → Prop), DsOk X.K ρ S H vs ds → EnvOk X.K ρ S H env σ → Ok ρ S H →
    Aft ρ S H (ptAll ps ds env S) (fun q => q.2.2) (fun q ρ' H' => ∀ σ', EnvOk X.K ρ' q.2.2 H' q.2.1 σ' → Q σ' H') → g vs σ H Q
end
end Mi
end
section
namespace Mi
open PySem PySem.Spec PyProof.Rows L2
section
variable {X : Cx} {e : Expr} {te : TE}
end
section
variable {K : PySem.W.Frag} {ρ : List Addr} {S : Store} {H : Hp} {i : Nat} {a : Addr}
def FdAt (a : Addr) (kvs : List (PyData × PyData)) (ρ : List Addr) (S : Store) (H : Hp) : Prop := ∃ o us, H a = some (.frz o (.dK us)) ∧ KvK (Live ρ S) H us kvs
theorem FdAt.mono {kvs : List (PyData × PyData)} {ρ' : List Addr} {S' : Store} {H' : Hp} (h : FdAt a kvs ρ S H) (e : Xt ρ S H ρ' S' H') : FdAt a kvs ρ' S' H' := by
  obtain ⟨o, us, h1, h2⟩ := h
  exact ⟨o, us, e.gr.frzs _ _ _ h1, h2.mono e.gr⟩
theorem KvK.at {L : Addr → Prop} : ∀ {us : List (Key × V)} {kvs : List (PyData × PyData)}, KvK L H us kvs → ∀ (j : Nat) (p : PyData × PyData), kvs[j]? = some p → ∃ k v, us[j]? = some (k, v) ∧ p.1 = keyD k ∧ Pd L H v p.2
  | _, _, .nil, j, p, h => by simp at h
  | _, _, .cons (k := k) (v := v) a t, 0, p, h => by
    simp at h
    subst h
    exact ⟨k, v, rfl, rfl, a⟩
  | _, _, .cons a t, j + 1, p, h => by
    obtain ⟨k, v, h1, h2⟩ := KvK.at t j p (by simpa using h)
    exact ⟨k, v, by simpa using h1, h2⟩
end
section
variable {K : PySem.W.Frag} {a : Addr} {o : Obj} {us : List (Key × V)} {kvs : List (PyData × PyData)}
def FdO (o : Obj) (a : Addr) (us : List (Key × V)) (kvs : List (PyData × PyData)) (ρ : List Addr) (S : Store) (H : Hp) : Prop := H a = some (.frz o (.dK us)) ∧ KvK (Live ρ S) H us kvs
theorem FdO.mono {ρ ρ' : List Addr} {S S' : Store} {H H' : Hp} (h : FdO o a us kvs ρ S H) (e : Xt ρ S H ρ' S' H') : FdO o a us kvs ρ' S' H' := ⟨e.gr.frzs _ _ _ h.1, h.2.mono e.gr⟩
end
section
variable {X : Cx} {e e2 e3 tg o : Expr} {fa fb fo : Ex} {pos apos cpos tpos : Pos} {elts : List Expr} {kk : Nat}
end
end Mi
end
section
namespace Mi
open PySem PySem.Spec PyProof.Rows L2
section
variable {K : PySem.W.Frag}
end
section
variable {X : Cx} {kx vx tg iter e : Expr} {ifs : List Expr} {scope : Scope} {own : List (Str × Nat)} {pos : Pos} {st : Bool} {is : List Nat} {src : Is} {t : Tg} {cond : Bx} {fk fv fa : Ex}
end
end Mi
end
section
namespace Mi
open PySem PySem.Spec PyProof.Rows L2
section
variable {X : Cx}
end
end Mi
end
section
namespace Mi
open PySem PySem.Spec PyProof.Rows L2
section
variable {X : Cx} {e o : Expr} {pos p cpos apos : Pos} {fo fa : Ex} {x : Str}
end
end Mi
end
section
namespace Mi
open PySem
def nox {α : Type} : R α → R α
  | .ex _ _ => .no
  | .ok a => .ok a
  | .no => .no
@[simp] theorem nox_ok {α : Type} (a : α) : nox (.ok a) = .ok a := rfl
def sLift (f : Sm) : Sm := fun σ S => nox (f σ S)
def sIfX (t : Bx) (a b : Sm) : Sm := fun σ S => bd (nox (t σ S)) fun x S1 => if x = true then a σ S1 else b σ S1
def sRaise1 (c n : Str) (a : Ex) : Sm := fun σ S => bd (nox (a σ S)) fun x S1 => bd (fz S1 x) fun d S2 => .ex ⟨c, some (n, d)⟩ S2
def mCallX (f : Fn) (as : As) : Ex := fun σ S => bd (nox (as σ S)) fun ds S1 => f ds S1
def sTry (cs : List Str) (i : Option Nat) (j y : Nat) (a : Ex) : Sm := fun σ S => match a σ S with
  | .ok (d, S1) => .ok (.nx, (match i with | some i => σ.set i (some d) | none => σ), S1)
  | .ex e S1 => when_ (cs.contains e.c) (.ok (.nx, (σ.set y (some (.exn e))).set j none, S1))
  | .no => .no
def mIsX (tb : List (Str × Bool)) (a : Ex) : Ex := fun σ S => bd (a σ S) fun x S1 => match x with
  | .exn e => bx (orNo (tb.lookup e.c)) fun b => .ok (.p (.bool b), S1)
  | _ => .no
def mFld (cs : List Str) (n : Str) (a : Ex) : Ex := fun σ S => bd (a σ S) fun x S1 => match x with
  | .exn e => when_ (cs.contains e.c) (match e.f with
    | some (m, d) => when_ (decide (m = n)) (.ok (.p d, S1))
    | none => .no)
  | _ => .no
structure Cl where
  f : Fp
  c : Nat
  q : Str
  run : Store → R (D × Store)
def Cl.d (cl : Cl) : D := .fn cl.f cl.c cl.q
open Classical in
noncomputable def mAct (cl : Cl) (i : Nat) : Ex := fun σ S => match σ[i]? with
  | some (some (.fn f c q)) => when_ (decide (f = cl.f) && decide (c = cl.c) && decide (q = cl.q)) (cl.run S)
  | _ => .no
open Classical in
noncomputable def same {α : Type} (g : Fp → Nat → R α) : R α := if ∀ f c, g f c = g ⟨0, [], []⟩ 0 then g ⟨0, [], []⟩ 0 else .no
theorem same_of {α : Type} {g : Fp → Nat → R α} {r : R α} (h : ∀ f c, g f c = r) : same g = r := by
  unfold same
  rw [if_pos fun f c => by rw [h, h], h]
theorem same_inv {α : Type} {g : Fp → Nat → R α} {a : α} (h : same g = .ok a) (f : Fp) (c : Nat) : g f c = .ok a := by
  unfold same at h
  split at h
  · rename_i z
    rw [z, h]
  · cases h
def keepE (cs : List Nat) : Nat → Env → Env
  | _, [] => []
  | i, x :: r => (if cs.contains i then x else none) :: keepE cs (i + 1) r
noncomputable def lamC (T : Nat) (q : Str) (F : Cl → Fn) (a : Ex) (σ : Env) (S : Store) : Option Cell → R (D × Store)
  | some (.tab T1 q1) => when_ (decide (T1 = T) && decide (q1 = q)) (same fun f c => F ⟨f, c, q, fun S' => a σ S'⟩ [.fn f c q] S)
  | _ => .no
def capT : Option D → Bool
  | none => true
  | some (.p _) => true
  | some (.ref _) => true
  | some _ => false
def toDc : Option D → Option Dc
  | some (.p d) => some (.p d)
  | some (.ref i) => some (.ref i)
  | _ => none
noncomputable def mLam (i T : Nat) (q : Str) (cs : List Nat) (F : Cl → Fn) (a : Ex) : Ex := fun σ S => when_ ((keepE cs 0 σ).all capT) (lamC T q F a (keepE cs 0 σ) S S[i]?)
end Mi
end
section
namespace Mi
open PySem PySem.Spec PyProof.Rows L2
section
variable (K : PySem.W.Frag) (E : XK)
def AftX {α : Type} (ρ : List Addr) (S : Store) (H : Hp) (r : R α) (st : α → Store) (k : α → List Addr → Hp → Prop) : Prop := match r with
  | .ok a => ∀ ρ' H', Xt ρ S H ρ' (st a) H' → Ok ρ' (st a) H' → k a ρ' H'
  | .ex e S1 => ∀ ρ' H' cls d, Xt ρ S H ρ' S1 H' → Ok ρ' S1 H' → FldOk K ρ' S1 H' e cls d → E cls d H'
  | .no => False
def TXx (f : Ex) : TE := fun σ H Q => ∃ ρ env S, EnvOk K ρ S H env σ ∧ Ok ρ S H ∧ AftX K E ρ S H (f env S) (fun p => p.2) fun p ρ' H' => ∀ v, DOk K ρ' p.2 H' v p.1 → Q v H'
def TSx (f : Sm) : TS := fun D' σ H => ∃ ρ env S, EnvOk K ρ S H env σ ∧ Ok ρ S H ∧ AftX K E ρ S H (f env S) (fun p => p.2.2) fun p ρ' H' => FlOk K D' ρ' p.2.2 H' p.2.1 p.1
end
section
variable {K : PySem.W.Frag} {E : XK} {ρ ρ' : List Addr} {S S' : Store} {H H' : Hp} {env env' : Env} {σ σ' : L2.St}
theorem AftX.mono {α : Type} {r : R α} {st : α → Store} {k k' : α → List Addr → Hp → Prop} (h : AftX K E ρ S H r st k) (g : ∀ a ρ' H', Xt ρ S H ρ' (st a) H' → Ok ρ' (st a) H' → k a ρ' H' → k' a ρ' H') : AftX K E ρ S H r st k' := by
  cases r with
  | ok a => exact fun ρ' H' e o => g a ρ' H' e o (h ρ' H' e o)
  | ex e S => exact h
  | no => exact h
theorem AftX.from {α : Type} {r : R α} {st : α → Store} {k : α → List Addr → Hp → Prop} (e : Xt ρ S H ρ' S' H') (h : AftX K E ρ S H r st k) : AftX K E ρ' S' H' r st k := by
  cases r with
  | ok a => exact fun ρ'' H'' e' o => h ρ'' H'' (e.trans e') o
  | ex x S => exact fun ρ'' H'' cls d e' o f => h ρ'' H'' cls d (e.trans e') o f
  | no => exact h
theorem AftX.bd {α β : Type} {r : R (α × Store)} {f : α → Store → R β} {st : β → Store} {k : β → List Addr → Hp → Prop} (h : AftX K E ρ S H (Mi.bd r f) st k) :
    AftX K E ρ S H r (fun p => p.2) fun p ρ' H' => AftX K E ρ' p.2 H' (f p.1 p.2) st k := by
  cases r with
  | ok a => exact fun ρ' H' e o => AftX.from e h
  | ex e S => exact h
  | no => exact h
theorem AftX.bs {β : Type} {r : R (Fl × Env × Store)} {f : Fl → Env → Store → R β} {st : β → Store} {k : β → List Addr → Hp → Prop} (h : AftX K E ρ S H (Mi.bs r f) st k) :
    AftX K E ρ S H r (fun p => p.2.2) fun p ρ' H' => AftX K E ρ' p.2.2 H' (f p.1 p.2.1 p.2.2) st k := by
  cases r with
  | ok a => exact fun ρ' H' e o => AftX.from e h
  | ex e S => exact h
  | no => exact h
theorem AftX.nox {α : Type} {r : R α} {st : α → Store} {k : α → List Addr → Hp → Prop} (h : AftX K E ρ S H (Mi.nox r) st k) : Aft ρ S H r st k := by
  cases r with
  | ok a => exact h
  | ex e S => exact h
  | no => exact h
theorem AftX.bdn {α β : Type} {r : R (α × Store)} {f : α → Store → R β} {st : β → Store} {k : β → List Addr → Hp → Prop} (h : AftX K E ρ S H (Mi.bd (Mi.nox r) f) st k) :
    Aft ρ S H r (fun p => p.2) fun p ρ' H' => AftX K E ρ' p.2 H' (f p.1 p.2) st k := by
  cases r with
  | ok a => exact fun ρ' H' e o => AftX.from e h
  | ex e S => exact h
  | no => exact h
theorem AftX.when {β : Type} {c : Bool} {r : R β} {st : β → Store} {k : β → List Addr → Hp → Prop} (h : AftX K E ρ S H (when_ c r) st k) : c = true ∧ AftX K E ρ S H r st k := by
  cases c with
  | true => exact ⟨rfl, h⟩
  | false => exact False.elim h
theorem AftX.here {α : Type} {a : α} {st : α → Store} {k : α → List Addr → Hp → Prop} (h : AftX K E ρ S H (.ok a) st k) (hs : st a = S) (o : Ok ρ S H) : k a ρ H := h ρ H (by rw [hs]; exact Xt.refl) (by rw [hs]; exact o)
theorem AftX.bx {α β : Type} {r : R α} {f : α → R β} {st : β → Store} {k : β → List Addr → Hp → Prop} (h : AftX K E ρ S H (Mi.bx (Mi.nox r) f) st k) : ∃ a, r = .ok a ∧ AftX K E ρ S H (f a) st k := by
  cases r with
  | ok a => exact ⟨a, rfl, h⟩
  | ex e S => exact False.elim h
  | no => exact False.elim h
end
section
variable {X : Cx} {E : XK} {e c : Expr} {st : Stmt} {rest a b : List Stmt} {fa : Ex} {pos pos' : Pos} {sa sb : Sm} {ga : Bx}
theorem ss_lift (h : PSs X.nox rest (TSm X.K sa)) : PSs X rest (TSx X.K E (sLift sa)) := PSs.up (PSs.nox h) fun D' σ H ⟨ρ, env, S, eo, ok, q⟩ => ⟨ρ, env, S, eo, ok, q.nox⟩
theorem sx_lift (h : PS X st (TSm X.K sa)) : PS X st (TSx X.K E (sLift sa)) := PS.up h fun D' σ H ⟨ρ, env, S, eo, ok, q⟩ => ⟨ρ, env, S, eo, ok, q.nox⟩
theorem ssx_one (h : PS X st (TSx X.K E sa)) : PSs X [st] (TSx X.K E sa) := pss_one h
theorem ssx_nil : PSs X [] (TSx X.K E sPass) := PSs.up pss_nil fun D' σ H ⟨ρ, env, S, eo, ok, q⟩ => (AftX.here q rfl ok) _ eo
theorem ssx_cons (h1 : PS X st (TSx X.K E sa)) (h2 : PSs X rest (TSx X.K E sb)) : PSs X (st :: rest) (TSx X.K E (sSeq sa sb)) := PSs.up (pss_cons h1 h2) fun D' σ H ⟨ρ, env, S, eo, ok, q⟩ => by
  refine ⟨ρ, env, S, eo, ok, (AftX.bs q).mono fun p ρ1 H1 e1 o1 q1 => ?_⟩
  obtain ⟨f, env1, S1⟩ := p
  cases f with
  | nx => exact fun σ1 eo1 => ⟨ρ1, env1, S1, eo1, o1, q1⟩
  | bk => exact fun σ1 eo1 => (AftX.here q1 rfl o1) σ1 eo1
  | ct => exact fun σ1 eo1 => (AftX.here q1 rfl o1) σ1 eo1
  | rt d => exact fun v dv => (AftX.here q1 rfl o1) v dv
theorem sx_if (hc : PT X c (TBx X.K ga)) (ha : PSs X a (TSx X.K E sa)) (hb : PSs X b (TSx X.K E sb)) : PS X (.If c a b pos) (TSx X.K E (sIfX ga sa sb)) := PS.up (ps_if hc ha hb) fun D' σ H ⟨ρ, env, S, eo, ok, q⟩ => by
  refine ⟨ρ, env, S, eo, ok, (AftX.bdn q).mono fun p ρ1 H1 e1 o1 q1 => ?_⟩
  obtain ⟨k, S1⟩ := p
  cases k with
  | true => exact ⟨ρ1, env, S1, eo.mono e1, o1, q1⟩
  | false => exact ⟨ρ1, env, S1, eo.mono e1, o1, q1⟩
theorem sx_asg (G : Gd X) (i : Nat) {x : Str} (he : PE X e (TXx X.K E fa)) (hi : X.N[i]? = some x := by rfl) (hx : Loc X.env.scope x := by first | exact Or.inl rfl | exact Or.inr rfl) (hs : swapsWith e (some (.Name x pos')) pos.line X.env = pure false := by rfl)
    (hf : X.fn x = true ∨ X.env.scope.names.lookup x = some .local := by first | exact .inl rfl | exact .inr rfl | assumption) : PS X (.Assign [.Name x pos'] e pos) (TSx X.K E (sAsg i fa)) := PS.up (ps_set G.nd hi hx he hs hf) fun D' σ H ⟨ρ, env, S, eo, ok, q⟩ => by
  refine ⟨ρ, env, S, eo, ok, (AftX.bd q).mono fun p ρ1 H1 e1 o1 q1 v dv => ?_⟩
  exact (AftX.here q1 rfl o1) _ ((eo.mono e1).set dv)
end
structure FnX (P : Program) (w : World) (K : PySem.W.Frag) (mg : Str → Option Value) (base : Heap) (k : Nat) (f : Addr) (fd : FuncData) (np : Nat) (ps : List Str) (fn : Fn) : Prop where
  np : np = ps.length
  run : ∀ (A : Around) (outer : List PySem.Env) (s : Shared) (H : Hp) (args : Args) (us : List Value) (vs : List V) (Q : VK) (E : XK) (ρ : List Addr) (S : Store) (ds : List D), Rm k A → Env0 P w K mg base A outer s H → BindsTo s fd args (ps.zip us) → Vals vs us → DsOk K ρ S H vs ds → Ok ρ S H → ds.length = ps.length →
    AftX K E ρ S H (fn ds S) (fun p => p.2) (fun p ρ' H' => ∀ v, DOk K ρ' p.2 H' v p.1 → Q v H') → codeAny (model P w) A (.call (.ref f) args) (CR (L2.CX P w) outer P w H s Q E) s
theorem FnX.mono {P : Program} {w : World} {K : PySem.W.Frag} {mg : Str → Option Value} {base : Heap} {j k : Nat} {f : Addr} {fd : FuncData} {np : Nat} {ps : List Str} {fn : Fn} (F : FnX P w K mg base j f fd np ps fn) (h : j ≤ k) : FnX P w K mg base k f fd np ps fn :=
  ⟨F.np, fun A outer s H args us vs Q E ρ S ds hr => F.run A outer s H args us vs Q E ρ S ds (hr.mono h)⟩
section
variable {K : PySem.W.Frag} {ρ ρ1 : List Addr} {S S1 : Store} {H H1 : Hp}
theorem FldOk.less {x : Exc} {C : Value} {d : Option Addr} (g : ∀ a, Live ρ1 S1 a → Live ρ S a) (h : FldOk K ρ S H x C d) : FldOk K ρ1 S1 H x C d := by
  obtain ⟨h1, h2⟩ := h
  refine ⟨h1, ?_⟩
  split at h2
  · exact h2
  · obtain ⟨dd, fs, w, q1, q2, q3, q4, q5⟩ := h2
    exact ⟨dd, fs, w, q1, q2, fun z => q3 (g _ z), q4, Pd.less g _ _ q5⟩
end
theorem fin_ne (n : Nat) (d : D) (S : Store) (e : Exc) (S1 : Store) : fin n d S ≠ .ex e S1 := fun h => by
  cases d with
  | ref i =>
    unfold fin at h
    by_cases hi : i < n
    · simp only [hi, if_true] at h
      cases h
    · simp only [hi, if_false] at h
      split at h <;> first | cases h | (unfold when_ at h; split at h <;> cases h)
  | _ => cases h
theorem fn_ofX {P : Program} {w : World} {K : PySem.W.Frag} {mg : Str → Option Value} {base : Heap} {k : Nat} {f : Addr} {fd : FuncData} {x qual : Str} {params : Arguments} {body : List Stmt} {scope : Scope} {N ps : List Str} {fi : Nat → D → Store → R (D × Store)} {np slots : Nat} {fb : Sm}
    (F : FunD K x qual params body scope [] [] f fd) (Sc : FnScope N ps scope) (hfi : FinOk K fi) (hne : ∀ n d S e S1, fi n d S ≠ .ex e S1) (hnp : np = ps.length) (hsl : slots = N.length)
    (hb : ∀ (cdv : Value) (A : Around) (outer : List PySem.Env) (s : Shared) (H : Hp) (E : XK), Rm k (cxOf (L2.CX P w) P w K mg base N qual scope f cdv A outer s H E).A → Gd (cxOf (L2.CX P w) P w K mg base N qual scope f cdv A outer s H E) → PSs (cxOf (L2.CX P w) P w K mg base N qual scope f cdv A outer s H E) body (TSx K E fb)) :
    FnX P w K mg base (k + 1) f fd np ps (fnOf fi np slots fb) := by
  obtain ⟨oc, od, dV, kV, doc, pm, an, cdv, ct, osl, rfl, lk, hcd, _, _⟩ := F.ex
  refine ⟨hnp, fun A outer s H args us vs Q E ρ S ds hr e0 hbi r dd ok hlen q => ?_⟩
  have hl : vs.length = ps.length := dd.length.trans hlen
  have KX : K.In s.heap := e0.mod.kin.keeps fun b o e => (e0.bs b o e).1
  have hlim : s.heap.NoLimit := e0.mod.nolimit.keeps fun b o e => (e0.bs b o e).1
  have hkd : ∀ y ∈ ps.zip us, scope.names.lookup y.1 = some .local ∨ (scope.names.lookup y.1 = some .cell ∧ ((cellsFrom (s.heap.objs.size + 1) scope.names []).lookup y.1).isSome = true) := fun y hy => by
    obtain ⟨n, v⟩ := y
    rcases Sc.par n (List.of_mem_zip hy).1 with z | z
    · exact .inl z
    · exact .inr ⟨z, PySem.W.cellsFrom_some _ _ _ (.inl z)⟩
  have hrm := hr.deeper (envOfC qual scope s.heap.objs.size f cdv)
  have hroom := hr.room
  refine codeAny_call_function hroom.depth (KX _ _ lk) rfl Sc.co Sc.gen rfl (PySem.W.codeRec_of KX hcd) (hbi _ _ _ _ (wpAny_newFunctionEnv_cells Sc.kind hkd fun env he s1 xx => ?_))
  subst he
  refine ⟨hlim.keeps xx.toInCall.keep, codeAny_func ?_⟩
  have G : Gd (cxOf (L2.CX P w) P w K mg base N qual scope f cdv A outer s H E) := ⟨rfl, by have := hrm.room.un; show (A.deeper (envOfC qual scope s.heap.objs.size f cdv)).units + 2000 < cLine; simp only [MARGIN] at this; omega, hrm.gs, Sc.nd⟩
  have ht := hb cdv A outer s H E hrm G
  have I : L2.Inv (cxOf (L2.CX P w) P w K mg base N qual scope f cdv A outer s H E) [] (L2.start N vs) H s1 := inv_start Sc hroom.hd e0 hl r xx
  let D' : Ends := { nx := fun _ H' => Q .non H', rt := Q }
  have hq : TSx K E fb D' (L2.start N vs) H := by
    refine ⟨ρ, Mi.start slots ds, S, EnvOk.start N dd slots hsl, ok, ?_⟩
    unfold fnOf at q
    rw [decide_eq_true (hlen.trans hnp.symm)] at q
    change AftX K E ρ S H (Mi.cutEx _ _) _ _ at q
    cases hr2 : fb (Mi.start slots ds) S with
    | no => rw [hr2] at q; exact q
    | ex e S1 =>
      rw [hr2] at q
      intro ρ1 H1 cls d e1 o1 f1
      have xt := e1.trunc ok S.length rfl
      have ot := o1.trunc S.length (e1.tbn ok)
      exact q _ H1 cls d xt ot (f1.less fun a h => Live.take h)
    | ok p =>
      rw [hr2] at q
      obtain ⟨fl, env1, S1⟩ := p
      intro ρ1 H1 e1 o1
      have fin2 : ∀ {d : D} {v : V}, DOk K ρ1 S1 H1 v d → AftX K E ρ S H (Mi.cutEx S.length (fi S.length d S1)) (fun p => p.2) (fun p ρ' H' => ∀ v, DOk K ρ' p.2 H' v p.1 → Q v H') → Q v H1 := fun {d v} dv z => by
        have z2 : Aft ρ S H (fi S.length d S1) (fun p => p.2) (fun p ρ' H' => ∀ v, DOk K ρ' p.2 H' v p.1 → Q v H') := by
          cases hfi2 : fi S.length d S1 with
          | ok p => rw [hfi2] at z; exact z
          | no => rw [hfi2] at z; exact z
          | ex e S2 => exact absurd hfi2 (hne _ _ _ _ _)
        obtain ⟨d', S', ρ', h1, h2⟩ := hfi ρ ρ1 S S1 H H1 d v _ ok e1 o1 dv z2
        exact h2 v h1
      cases fl with
      | rt d => exact fun v dv => fin2 dv q
      | nx => exact fun σ1 eo1 => fin2 (d := .p .none) .non q
      | bk => exact q.elim
      | ct => exact q.elim
  refine wpAny_mono (ht.run [] s1 (L2.start N vs) H D' I hq) (fun fl s' hs => ?_) fun e s' hs => hs
  have fin : ∀ {σ' : L2.St} {H' : Hp} {v : V} {u : Value}, L2.Inv (cxOf (L2.CX P w) P w K mg base N qual scope f cdv A outer s H E) [] σ' H' s' → RelV v u → Q v H' → CE outer P w H s Q u s' :=
    fun {σ' H' v u} J rv z => ⟨v, H', J.os, J.bare, J.base, J.hok, rv, z⟩
  cases fl with
  | ret u =>
    obtain ⟨v, σ', H', J, rv, z⟩ := hs
    exact fin J rv z
  | next =>
    obtain ⟨σ', H', J, z⟩ := hs
    exact fin (v := V.non) (u := Value.none) J rfl z
  | brk =>
    obtain ⟨_, _, _, z⟩ := hs
    exact z.elim
  | cont =>
    obtain ⟨_, _, _, z⟩ := hs
    exact z.elim
end Mi
end
section
namespace Mi
open PySem PySem.Spec PyProof.Rows L2
def errB (K : PySem.W.Frag) (C : Addr) : Bool := (match K.lookup C with
  | some ⟨.type "type", _, .cls cd, sl⟩ => (match cd.mro, sl.toList with
    | .ref C2 :: bm, [_, _, _, _, some (.builtin n), _] => C2 == C && n == "ValueError.__new__" && !cd.hasDel && cd.hasDict && PySem.HandSPX.refsVE bm
    | _, _ => false)
  | _ => false) && (decide (PySem.W.findIn K (.ref C) "__setattr__" = some (some (.builtin "object.__setattr__"))) && (decide (PySem.W.subIn K (.ref C) (.type "BaseException") = some true) && (decide (PySem.W.typeIn K (.ref C) = some (.type "type")) && PySem.W.keepIn K (.ref C))))
theorem errB_ok {K : PySem.W.Frag} {C : Addr} (h : errB K C = true) : OexC K C := by
  unfold errB at h
  simp only [Bool.and_eq_true, decide_eq_true_eq] at h
  obtain ⟨h0, h1, h2, h3, h4⟩ := h
  refine ⟨?_, h1, h2, h3, h4⟩
  split at h0
  · rename_i dd cd sl hl
    split at h0
    · rename_i C2 bm a0 a1 a2 a3 n a5 em es
      simp only [Bool.and_eq_true, beq_iff_eq, Bool.not_eq_true'] at h0
      obtain ⟨⟨⟨⟨e1, e2⟩, e3⟩, e4⟩, e5⟩ := h0
      subst e1 e2
      obtain ⟨nm, bs, mro, ns, qn, hd, sn, sub, ab, col, dl⟩ := cd
      dsimp only at em e3 e4
      subst em e3 e4
      have ez : sl = #[a0, a1, a2, a3, some (.builtin "ValueError.__new__"), a5] := by
        obtain ⟨l⟩ := sl
        simp only at es
        rw [es]
      subst ez
      exact ⟨nm, qn, ns, bs, bm, sn, sub, ab, col, dd, a0, a1, a2, a3, a5, hl, e5⟩
    · cases h0
  · cases h0
structure BaseC (K : PySem.W.Frag) (mg : Str → Option Value) (b : Str) : Prop where
  g : mg b = some (.ref (He.ga K b))
  s : PySem.W.specialIn K (.ref (He.ga K b)) "__getattribute__" = some (some (.builtin "type.__getattribute__"))
  r : PySem.W.readsIn K (He.ga K b) (.type "type") = true
  f : PySem.W.findCls K (.ref (He.ga K b)) (.type "type") "__init__" = some (.val (.builtin "ValueError.__init__"))
def baseB (K : PySem.W.Frag) (b : Str) : Bool := decide (PySem.W.specialIn K (.ref (He.ga K b)) "__getattribute__" = some (some (.builtin "type.__getattribute__"))) && (PySem.W.readsIn K (He.ga K b) (.type "type") &&
  match PySem.W.findCls K (.ref (He.ga K b)) (.type "type") "__init__" with
  | some (.val (.builtin n)) => n == "ValueError.__init__"
  | _ => false)
theorem baseB_ok {K : PySem.W.Frag} {mg : Str → Option Value} {b : Str} (g : mg b = some (.ref (He.ga K b))) (h : baseB K b = true) : BaseC K mg b := by
  unfold baseB at h
  simp only [Bool.and_eq_true, decide_eq_true_eq] at h
  obtain ⟨h1, h2, h3⟩ := h
  refine ⟨g, h1, h2, ?_⟩
  split at h3
  · rename_i n e
    rw [e, beq_iff_eq.mp h3]
  · cases h3
structure ErrC (K : PySem.W.Frag) (mg : Str → Option Value) (c : Str) : Prop where
  g : mg c = some (.ref (He.ga K c))
  o : OexC K (He.ga K c)
  i : PySem.W.findIn K (.ref (He.ga K c)) "__init__" = some (some (.ref (He.ma K (He.ga K c) "__init__")))
  t : PySem.W.typeIn K (.ref (He.ma K (He.ga K c) "__init__")) = some (.type "function")
def errIB (K : PySem.W.Frag) (c : Str) : Bool := errB K (He.ga K c) && (decide (PySem.W.findIn K (.ref (He.ga K c)) "__init__" = some (some (.ref (He.ma K (He.ga K c) "__init__")))) && decide (PySem.W.typeIn K (.ref (He.ma K (He.ga K c) "__init__")) = some (.type "function")))
theorem errIB_ok {K : PySem.W.Frag} {mg : Str → Option Value} {c : Str} (g : mg c = some (.ref (He.ga K c))) (h : errIB K c = true) : ErrC K mg c := by
  unfold errIB at h
  simp only [Bool.and_eq_true, decide_eq_true_eq] at h
  exact ⟨g, errB_ok h.1, h.2.1, h.2.2⟩
section
variable {X : Cx} {e : Expr} {es : List Expr} {ta : TA} {x : Str} {p1 p2 pos : Pos}
theorem pe_binit {pl : Sem Bool} (B : BaseC X.K X.mg x) (hg : Gl X x) (ha : PA X (e :: es) ta)
    (hc : eval (.Call (.Attribute (.Name x p1) "__init__" p2) (e :: es) [] pos) X.env = (do
      let who ← eval (.Name x p1) X.env
      standAt p2.atName
      let (fn, one) ← holding [who] (getMethod who "__init__" pl)
      callWith pos fn one (backTo pos (starEach (e :: es) X.env)) (backToKw pos (keywordEach [] X.env))) := by rfl) (hdb : (x == ("__debug__" : Str)) = false := by decide)
    (he : starEach (e :: es) X.env = (false, eval e X.env) :: starEach es X.env := by rfl) (hpl : (backTo pos (starEach es X.env)).any (·.1) = false := by rfl) :
    PE X (.Call (.Attribute (.Name x p1) "__init__" p2) (e :: es) [] pos) (tVeI X.K ta) := by
  refine ⟨fun pins s σ H Q I h => ?_⟩
  refine PySem.W.methodCall_KW (ld_glob I hg B.g ?_ hdb) hc
  refine PySem.W.method_cls I.kIn B.s (PySem.W.cls_value I.kIn B.r B.f rfl ?_)
  show wpAny _ _ (callWith pos (Value.builtin "ValueError.__init__") [] (backTo pos (starEach (e :: es) X.env)) []) _ _ _
  refine PyProof.Rows.callWith_method1 (thn (ha.run pos pins _ σ H _ (I.tok _) h) fun ws s2 ⟨vs, H2, I2, rv, a, C, zs, ez, hl, T, ea, q⟩ => ?_) he hpl
  subst ez
  cases rv with
  | @cons _ w0 _ wr ra rr =>
    obtain rfl : w0 = Value.ref a := ra
    have hn : wr.length ≤ sizeLine := by
      rw [← Paired.length rr, sizeLine_eq]
      omega
    exact oinit_ok T I2 ea hn fun s3 J => ⟨.non, H2, J, rfl, q⟩
end
def spI (K : PySem.W.Frag) (n : Str) : Sp := fun vs H Q _ => ∃ (a C : Addr) (x : V), vs = [.ref a, x] ∧ OexC K C ∧ PySem.W.findIn K (.ref C) n = some none ∧ H a = some (exo a C none) ∧ ∀ dx, H dx = none → dx ≠ a → Q .non (upd (upd H dx (exd dx [(n, x)])) a (exo a C (some dx)))
theorem init_ok {P : Program} {w : World} {K : PySem.W.Frag} {mg : Str → Option Value} {base : Heap} {b n msg : Str} {f : Addr} {fd : FuncData} {qual : Str} {params : Arguments} {scope : Scope} {j : Nat} {p1 p2 p3 p4 p5 p6 p7 p8 p9 p10 : Pos}
    (F : FunD K "__init__" qual params [.Expr (.Call (.Attribute (.Name b p1) "__init__" p2) [.Name "self" p3, .Constant (.str msg) j p4] [] p5) p6, .Assign [.Attribute (.Name "self" p7) n p8] (.Name n p9) p10] scope [] [] f fd)
    (B : BaseC K mg b) (Sc : FnScope ["self", n] ["self", n] scope) (hb : scope.names.lookup b = some .globalImplicit) (hs : scope.names.lookup (("self" : Str)) = some .local) (hn : scope.names.lookup n = some .local)
    (hc : ∀ (cdv : Value) (A : Around) (outer : List PySem.Env) (s : Shared) (H : Hp) (E : XK), ∃ pl, eval (.Call (.Attribute (.Name b p1) "__init__" p2) [.Name "self" p3, .Constant (.str msg) j p4] [] p5) (cxOf (L2.CX P w) P w K mg base ["self", n] qual scope f cdv A outer s H E).env = (do
      let who ← eval (.Name b p1) (cxOf (L2.CX P w) P w K mg base ["self", n] qual scope f cdv A outer s H E).env
      standAt p2.atName
      let (fn, one) ← holding [who] (getMethod who "__init__" pl)
      callWith p5 fn one (backTo p5 (starEach [.Name "self" p3, .Constant (.str msg) j p4] (cxOf (L2.CX P w) P w K mg base ["self", n] qual scope f cdv A outer s H E).env)) (backToKw p5 (keywordEach [] (cxOf (L2.CX P w) P w K mg base ["self", n] qual scope f cdv A outer s H E).env))))
    (hsw : ∀ env : PySem.Env, swapsWith (.Name n p9) (some (.Attribute (.Name "self" p7) n p8)) p10.line env = pure false) (hdb : (b == ("__debug__" : Str)) = false) (hd : (n == ("__debug__" : Str)) = false) (hcd : (n == ("__classdict__" : Str)) = false) :
    FnOk P w K mg base (L2.CX P w) 1 f fd ["self", n] (spI K n) := by
  obtain ⟨oc, od, dV, kV, doc, pm, an, cdv, ct, osl, rfl, lk, hcode, _, _⟩ := F.ex
  refine fn_of lk hcode Sc (fun vs H Q E ⟨a, C, x, e, _⟩ => by rw [e]; rfl) fun A outer s H vs Q E hr ⟨a, C, x, ev, oc, nf, ha, hq⟩ => ?_
  subst ev
  have v0 : ∀ {q : Pos}, PE (cxOf (L2.CX P w) P w K mg base ["self", n] qual scope f cdv A outer s H E) (.Name "self" q) (tVar 0) := pe_var rfl (.inl hs) (by decide) (by decide)
  have v1 : ∀ {q : Pos}, PE (cxOf (L2.CX P w) P w K mg base ["self", n] qual scope f cdv A outer s H E) (.Name n q) (tVar 1) := pe_var rfl (.inl hn) hd hcd
  obtain ⟨pl, hc⟩ := hc cdv A outer s H E
  refine ⟨_, pss_cons (ps_expr (pe_binit B hb (pa_cons v0 (pa_cons pe_str pa_nil)) hc hdb)) (pss_one (ps_ost v0 v1 (hsw _))), ?_⟩
  exact ⟨.ref a, rfl, a, C, [.str msg], rfl, Nat.le_add_left 1 999, oc, ha, x, rfl, .ref a, rfl, a, C, rfl, oc, nf, .inl ⟨ha, fun dx h1 h2 => hq dx h1 h2⟩⟩
theorem fz_ne (S : Store) (d : D) (e : Exc) (S1 : Store) : fz S d ≠ .ex e S1 := fun h => by
  cases d with
  | ref i =>
    unfold fz at h
    dsimp only at h
    cases hs : S[i]? with
    | none => rw [hs] at h; cases h
    | some c =>
      rw [hs] at h
      cases c with
      | dct t k => cases t <;> cases k <;> cases h
      | tdv b k => cases k <;> cases h
      | _ => cases h
  | _ => cases h
section
variable {X : Cx} {E : XK} {e : Expr} {fa : Ex} {pos p pos' : Pos}
theorem sx_raise1 {c n : Str} {fd : FuncData} (G : Gd X) (tk : L2.Takes X fun cls d _ H => E cls d H) (T : ErrC X.K X.mg c) (nf : PySem.W.findIn X.K (.ref (He.ga X.K c)) n = some none)
    (F : FnOk X.prog X.w X.K X.mg X.base (L2.CX X.prog X.w) 1 (He.ma X.K (He.ga X.K c) "__init__") fd ["self", n] (spI X.K n)) (hb : Binds X.K fd ["self", n] []) (hr : Rm 2 X.A) (hg : Gl X c) (he : PE X e (TX X.K fa)) (hdb : (c == ("__debug__" : Str)) = false := by decide)
    (hs : starEach [e] X.env = (false, eval e X.env) :: starEach [] X.env := by rfl) : PS X (.Raise (some (.Call (.Name c p) [e] [] pos)) none pos') (TSx X.K E (sRaise1 c n fa)) := by
  refine PS.up (ps_raise G.calm tk (pmk_oex T.o T.i T.t F (hr.room.mono (by simp [MARGIN])) hb .nil (L2.passes_call LamX.takes0 fun _ _ _ _ h => h) hg T.g (pa_cons he pa_nil hs) hdb hs rfl)) fun D' σ H ⟨ρ, env, S, eo, ok, q⟩ => ?_
  refine ⟨ρ, env, S, eo, ok, (AftX.bdn q).mono fun p1 ρ1 H1 e1 o1 q1 v dv => ?_⟩
  cases hf : fz p1.2 p1.1 with
  | no => rw [hf] at q1; exact q1.elim
  | ex x2 S2 => exact absurd hf (fz_ne _ _ _ _)
  | ok z =>
    obtain ⟨u, S2⟩ := z
    rw [hf] at q1
    obtain ⟨xt, o2, du⟩ := fz_ok o1 dv hf
    refine ⟨Nat.le_add_left 1 999, fun a ha => ⟨a, He.ga X.K c, v, rfl, T.o, nf, upd_same, fun dx h1 h2 => ?_⟩⟩
    have hdx : H1 dx = none := by rwa [upd_ne h2] at h1
    have hH : upd (L2.del (upd (upd (upd H1 a (exo a (He.ga X.K c) none)) dx (exd dx [(n, v)])) a (exo a (He.ga X.K c) (some dx))) a) dx (HO.xd [(n, v)]) = upd H1 dx (.xd [(n, v)]) := by
      funext b
      by_cases hb : b = dx
      · rw [hb, upd_same, upd_same]
      · rw [upd_ne hb, upd_ne hb]
        by_cases hb2 : b = a
        · rw [hb2, L2.del_same, ha]
        · rw [L2.del_ne hb2, upd_ne hb2, upd_ne hb, upd_ne hb2]
    refine ⟨rfl, dx, [(n, v)], upd_same, (upd_ne h2).trans upd_same, hdx, ?_⟩
    rw [hH]
    have x2 : Xt ρ1 S2 H1 ρ1 S2 (upd H1 dx (.xd [(n, v)])) := Xt.new hdx
    refine q1 ρ1 _ _ _ (xt.trans x2) (o2.new hdx) ⟨rfl, dx, [(n, v)], v, rfl, upd_same, fun z => ?_, by simp [List.lookup], Pd.mono x2.gr _ _ du⟩
    obtain ⟨o, ho, _⟩ := o2.live z
    rw [hdx] at ho
    cases ho
end
end Mi
end
section
namespace Mi
open PySem PySem.Spec PyProof.Rows L2
structure KnX (P : Program) (w : World) (K : PySem.W.Frag) (mg : Str → Option Value) (base : Heap) (k : Nat) (x : Str) (np : Nat) (ps : List Str) (fn : Fn) : Prop where
  ex : ∃ (f : Addr) (fd : FuncData), mg x = some (.ref f) ∧ PySem.W.keepIn K (.ref f) = true ∧ Binds K fd ps [] ∧ FnX P w K mg base k f fd np ps fn
  ar : Ar np fn
theorem KnX.mono {P : Program} {w : World} {K : PySem.W.Frag} {mg : Str → Option Value} {base : Heap} {j k : Nat} {x : Str} {np : Nat} {ps : List Str} {fn : Fn} (d : KnX P w K mg base j x np ps fn) (h : j ≤ k) : KnX P w K mg base k x np ps fn := by
  obtain ⟨⟨f, fd, h1, h2, h3, h4⟩, ha⟩ := d
  exact ⟨⟨f, fd, h1, h2, h3, h4.mono h⟩, ha⟩
theorem kn_ofX {P : Program} {w : World} {K : PySem.W.Frag} {mg : Str → Option Value} {base : Heap} {k : Nat} {x : Str} {st : Stmt} {N ps : List Str} {fi : Nat → D → Store → R (D × Store)} {np slots : Nat} {fb : Sm} (F : DefF K mg x st) (Sc : FnScope N ps (defScope st)) (hfi : FinOk K fi) (hne : ∀ n d S e S1, fi n d S ≠ .ex e S1) (hnp : np = ps.length) (hsl : slots = N.length)
    (hbi : ∀ (kV doc pm : Value) (an : Option Addr) (cdv ct : Value) (us : List Value), us.length = ps.length → bindArgs (PySem.W.fnOf x x (defArgs st) (defBody st) (defScope st) .none kV doc pm an cdv ct) ⟨us, []⟩ = pure (ps.zip us))
    (hb : ∀ (f : Addr) (cdv : Value) (A : Around) (outer : List PySem.Env) (s : Shared) (H : Hp) (E : XK), Rm k (cxOf (L2.CX P w) P w K mg base N x (defScope st) f cdv A outer s H E).A → Gd (cxOf (L2.CX P w) P w K mg base N x (defScope st) f cdv A outer s H E) →
      L2.Takes (cxOf (L2.CX P w) P w K mg base N x (defScope st) f cdv A outer s H E) (fun cls d _ H => E cls d H) → PassesOwn (model P w) (cxOf (L2.CX P w) P w K mg base N x (defScope st) f cdv A outer s H E).A (cxOf (L2.CX P w) P w K mg base N x (defScope st) f cdv A outer s H E).env (cxOf (L2.CX P w) P w K mg base N x (defScope st) f cdv A outer s H E).xe →
      PSs (cxOf (L2.CX P w) P w K mg base N x (defScope st) f cdv A outer s H E) (defBody st) (TSx K E fb)) :
    KnX P w K mg base (k + 1) x np ps (fnOf fi np slots fb) := by
  obtain ⟨f, fd, hm, F⟩ := F
  exact ⟨⟨f, fd, hm, F.kp, F.bindsN hbi, fn_ofX F Sc hfi hne hnp hsl fun cdv A outer s H E hr G => hb f cdv A outer s H E hr G (L2.takes_of rfl rfl rfl rfl) (L2.passes_of rfl)⟩, ar_fnOf⟩
section
variable {X : Cx} {E : XK} {pos p : Pos} {e : Expr} {es : List Expr} {fs : As} {x : Str} {f : Addr} {fd : FuncData} {np k : Nat} {ps : List Str} {fn : Fn}
theorem run_fnX {pins : List (Addr × Obj)} {s : Shared} {σ : L2.St} {H : Hp} {us : List Value} {vs : List V} {Q : VK} {ρ : List Addr} {S : Store} {ds : List D} (F : FnX X.prog X.w X.K X.mg X.base k f fd np ps fn) (hr : Rm k X.A) (hb : BindsTo s fd ⟨us, []⟩ (ps.zip us))
    (hx : L2.PassesAt (L2.CX X.prog X.w) X σ E) (I : L2.Inv X pins σ H s) (r : Vals vs us) (dd : DsOk X.K ρ S H vs ds) (ok : Ok ρ S H) (hl : ds.length = ps.length) (q : AftX X.K E ρ S H (fn ds S) (fun p => p.2) (fun p ρ' H' => ∀ v, DOk X.K ρ' p.2 H' v p.1 → Q v H')) : wpAny (model X.prog X.w) X.A (call (.ref f) us) (EP X pins σ Q) X.xe s := by
  refine wpAny_call (codeAny_mono (F.run X.A X.stack s H ⟨us, []⟩ us vs Q E ρ S ds hr I.env0 hb r dd ok hl q) fun rr s' hq => ?_)
  cases rr with
  | error e => exact hx pins H s e s' I hq
  | ok fl =>
    cases fl with
    | ret u => exact I.after hq
    | next => exact hq.elim
    | brk => exact hq.elim
    | cont => exact hq.elim
def TXw (K : PySem.W.Frag) (W : WX) (f : Ex) : TE := fun σ H Q => TXx K (fun cls d H' => W cls d σ H') f σ H Q
theorem x_fnXw {W : WX} (d : KnX X.prog X.w X.K X.mg X.base k x np ps fn) (hr : Rm k X.A) (tk : L2.Takes X W) (hg : Gl X x) (ha : PA X (e :: es) (TAs X.K fs)) (hdb : (x == ("__debug__" : Str)) = false := by decide)
    (he : starEach (e :: es) X.env = (false, eval e X.env) :: starEach es X.env := by rfl) (hpl : (backTo pos (starEach es X.env)).any (·.1) = false := by rfl) : PE X (.Call (.Name x p) (e :: es) [] pos) (TXw X.K W (mCallX fn fs)) := by
  obtain ⟨⟨f, fd, hm, hk, hb, F⟩, har⟩ := d
  refine ⟨fun pins s σ H Q I ⟨ρ0, env, S0, eo, ok0, q0⟩ => wpAny_Call_Name_kw (ld_glob I hg hm ?_ hdb)⟩
  have q1 : TAs X.K fs σ H fun vs H1 => ∃ (ρ : List Addr) (S : Store) (ds : List D), DsOk X.K ρ S H1 vs ds ∧ Ok ρ S H1 ∧ AftX X.K (fun cls d H' => W cls d σ H') ρ S H1 (fn ds S) (fun p => p.2) (fun p ρ' H' => ∀ v, DOk X.K ρ' p.2 H' v p.1 → Q v H') :=
    ⟨ρ0, env, S0, eo, ok0, (AftX.bdn q0).mono fun p ρ1 H1 e1 o1 q1 vs ds => ⟨ρ1, p.2, p.1, ds, o1, q1⟩⟩
  refine PySem.W.callWith_K (h₀ := X.base) I.ok.mod.kin hk (thn (ha.run pos pins s σ H _ I q1) fun us s1 ⟨vs, H1, I1, r, ρ, S, ds, dd, ok, q⟩ => ⟨I1.kIn, ?_⟩) he hpl
  have hl : ds.length = ps.length := by
    rw [← F.np]
    by_cases z : ds.length = np
    · exact z
    · rw [har ds S z] at q
      exact q.elim
  have hl2 : (us ++ []).length = ps.length := by rw [List.append_nil, ← r.length, dd.length, hl]
  have hb' := hb s1 us I1.kIn hl2
  rw [List.append_nil] at hb'
  exact run_fnX F hr hb' (L2.passAt tk σ) I1 r dd ok hl q
theorem x_fnX (d : KnX X.prog X.w X.K X.mg X.base k x np ps fn) (hr : Rm k X.A) (tk : L2.Takes X fun cls d _ H => E cls d H) (hg : Gl X x) (ha : PA X (e :: es) (TAs X.K fs)) (hdb : (x == ("__debug__" : Str)) = false := by decide)
    (he : starEach (e :: es) X.env = (false, eval e X.env) :: starEach es X.env := by rfl) (hpl : (backTo pos (starEach es X.env)).any (·.1) = false := by rfl) : PE X (.Call (.Name x p) (e :: es) [] pos) (TXx X.K E (mCallX fn fs)) :=
  PE.up (x_fnXw d hr tk hg ha hdb he hpl) fun _ _ _ h => h
end
structure ErrQ (K : PySem.W.Frag) (C : Addr) : Prop where
  cl : (PySem.W.clsIn K C).isSome = true
  ga : PySem.W.findIn K (.ref C) "__getattribute__" = some (some (.builtin "BaseException.__getattribute__"))
  gt : PySem.W.findIn K (.ref C) "__getattr__" = some none
  sb : PySem.W.subIn K (.ref C) (.type "BaseException") = some true
  ca : PySem.W.findIn K (.ref C) "__class__" = some (some (.builtin "object.__class__"))
  hn : PySem.W.specialIn K (.builtin "object.__class__") "__get__" = some (some (.builtin "getset_descriptor.__get__"))
  ht : PySem.W.takesIn K (.builtin "object.__class__") = some true
  hm : PySem.W.mroIn K C (.type "object") = some true
  hd : PySem.W.hasDictIn K C = true
def errQB (K : PySem.W.Frag) (C : Addr) : Bool := (PySem.W.clsIn K C).isSome && (decide (PySem.W.findIn K (.ref C) "__getattribute__" = some (some (.builtin "BaseException.__getattribute__"))) && (decide (PySem.W.findIn K (.ref C) "__getattr__" = some none) && (decide (PySem.W.subIn K (.ref C) (.type "BaseException") = some true) &&
  (decide (PySem.W.findIn K (.ref C) "__class__" = some (some (.builtin "object.__class__"))) && (decide (PySem.W.specialIn K (.builtin "object.__class__") "__get__" = some (some (.builtin "getset_descriptor.__get__"))) && (decide (PySem.W.takesIn K (.builtin "object.__class__") = some true) && (decide (PySem.W.mroIn K C (.type "object") = some true) && PySem.W.hasDictIn K C)))))))
theorem errQB_ok {K : PySem.W.Frag} {C : Addr} (h : errQB K C = true) : ErrQ K C := by
  unfold errQB at h
  simp only [Bool.and_eq_true, decide_eq_true_eq] at h
  obtain ⟨h1, h2, h3, h4, h5, h6, h7, h8, h9⟩ := h
  exact ⟨h1, h2, h3, h4, h5, h6, h7, h8, h9⟩
section
variable {K : PySem.W.Frag} {ρ : List Addr} {S : Store} {H : Hp} {P : Program} {w : World} {h : Heap}
theorem exn_inst {x : Exc} {v : V} (hok : HOk P w H h) (dv : DOk K ρ S H v (.exn x)) : ∃ (a : Addr) (o : Obj) (od : Option Obj), v = .ref a ∧ PySem.W.InstAt h a o (He.ga K x.c) od ∧ ∀ n u, x.f = some (n, u) → ∃ (dd : Addr) (fs : List (Str × V)) (w' : V) (ob : Obj), od = some ob ∧ h.get? dd = some ob ∧ H dd = some (.xd fs) ∧ fs.lookup n = some w' ∧ Pd (Live ρ S) H w' u := by
  obtain ⟨a, C, d, rfl, nl, ha, hC, hf⟩ := dv
  subst hC
  have z : ObjOk P w H h a (exnO a (.ref (He.ga K x.c)) d) := hok a _ ha
  obtain ⟨⟨o, ho, hc, hd, vs, hv⟩, _, _⟩ := (show ObjOk P w H h a (.ext _) from z)
  have hnc : PySem.W.notCls o = true := by unfold PySem.W.notCls; rw [hv]
  cases hxf : x.f with
  | none =>
    rw [hxf] at hf
    have hf : d = none := hf
    subst hf
    exact ⟨a, o, none, rfl, ⟨ho, hc, hnc, by rw [hd]; trivial⟩, fun n u e => by cases e⟩
  | some nu =>
    obtain ⟨n, u⟩ := nu
    rw [hxf] at hf
    obtain ⟨dd, fs, w', q1, q2, q3, q4, q5⟩ := hf
    subst q1
    obtain ⟨mA, hns, hr⟩ := (show ∃ mA, h.Ns1 dd mA ∧ ∀ f, RelO (fs.lookup f) (mA f) from hok dd _ q2)
    obtain ⟨ob, hob, _⟩ := lookIn_ns hns
    refine ⟨a, o, some ob, rfl, ⟨ho, hc, hnc, by rw [hd]; exact hob⟩, fun n2 u2 e => ?_⟩
    cases e
    exact ⟨dd, fs, w', ob, rfl, hob, q2, q4, q5⟩
end
end Mi
end
section
namespace Mi
open PySem PySem.Spec PyProof.Rows L2
section
variable {X : Cx} {pins : List (Addr × Obj)} {σ : L2.St} {H : Hp} {s : Shared} {a : Addr} {o : HO}
theorem inv_learn (I : L2.Inv X pins σ H s) (hn : H a = none) (h0 : X.s_0.heap.get? a = none) (hL : a ≠ X.env.locals) (hC : ∀ x c, X.env.cells.lookup x = some c → c ≠ a) (hp : ∀ p ∈ X.pn ++ pins, p.1 ≠ a) (ok : ObjOk X.prog X.w (upd H a o) s.heap a o) :
    L2.Inv X pins σ (upd H a o) s := by
  have keep : ∀ b, b ≠ a → upd H a o b = H b := fun b hb => upd_ne hb
  have old : ∀ b u, H b = some u → upd H a o b = some u := fun b u e => (keep b (ne_of_none e hn)).trans e
  refine ⟨I.ok, I.os, I.bare, ⟨I.base.keep, I.base.slot, fun b ob e n x => ?_, I.base.there, fun b xs e => old b _ (I.base.tups b xs e), fun b ob u e => old b _ (I.base.frzs b ob u e), fun b ps e => ?_⟩, I.loc, I.cell, ?_, fun x c e => ?_, fun p hm => ?_, fun b u e => ?_, I.len⟩
  · rw [keep b fun z => by rw [z, h0] at e; cases e]
    exact I.base.free b ob e n x
  · obtain ⟨more, z⟩ := I.base.tbls b ps e
    exact ⟨more, old b _ z⟩
  · rw [keep _ hL.symm]
    exact I.free
  · rw [keep _ (hC x c e)]
    exact I.freeC x c e
  · obtain ⟨r1, r2, r3⟩ := I.pin p hm
    exact ⟨r1, (keep _ (hp p hm)).trans r2, r3⟩
  · by_cases hb : b = a
    · rw [hb, upd_same] at e
      cases e
      rw [hb]
      exact ok
    · rw [keep b hb] at e
      exact (I.hok b u e).stay (fun _ _ _ z => z) (fun c z => old c _ z) fun c xs z => old c _ z
end
def wNote (K : PySem.W.Frag) (c : Value) (i j : Nat) (D : Ends) : WX := fun cls d σ H => PySem.W.exmOne K cls c = some true ∧ ∀ a, H a = none → D.nx ((σ.set j (some (.ref a))).set i none) (upd H a (exnO a cls d))
section
variable {X : Cx} {x n y : Str} {c : Value} {i j : Nat} {body : List Stmt} {np p1 p2 p3 pos pos' : Pos} {tb : WX → TS}
theorem ps_note (hs : X.stack = X.env :: X.outer) (hf : X.env.frame = some X.env.locals) (hN : X.N.Nodup) (hi : X.N[i]? = some n) (hj : X.N[j]? = some y) (hij : i ≠ j) (hn : X.env.kindOf n = some .local) (hy : X.env.kindOf y = some .local) (hc : L2.Names X x c)
    (hsw : ∀ env : PySem.Env, swapsWith (.Name n p2) (some (.Name y p1)) p3.line env = pure false) (hdn : (n == ("__debug__" : Str)) = false) (hcn : (n == ("__classdict__" : Str)) = false) (hex : X.ex = [])
    (hb : ∀ (W : WX) (pn : List (Addr × Obj)) (xe : Value → Shared → Prop), L2.Takes (X.tr pn xe) W → PSs (X.tr pn xe) body (tb W)) :
    PS X (.Try body [.ExceptHandler (some (.Name x np)) (some n) [.Assign [.Name y p1] (.Name n p2) p3] pos'] [] [] pos) (fun D σ H => tb (wNote X.K c i j D) D σ H) := by
  refine ⟨fun pins s σ H D I h => ?_⟩
  have okX := I.ok
  have frs0 : X.A.frames = some (X.env :: X.outer) := by rw [okX.frames, hs]
  have ln : Loc X.env.scope n := .inl hn
  refine wpAny_Try_except ?_
  refine wpAny_mono ((hb (wNote X.K c i j D) (X.pn ++ pins) (fun u t1 => wpAny (model X.prog X.w) X.A (noteFrame u X.env) (fun _ t2 => wpAny (model X.prog X.w) X.A (setFlight u none) (fun _ t3 =>
    wpAny (model X.prog X.w) X.A (handleBy u X.env [.ExceptHandler (some (.Name x np)) (some n) [.Assign [.Name y p1] (.Name n p2) p3] pos']) (SP X pins D) X.xe t3) X.xe t2) X.xe t1) (fun u s' z => ?_)).run [] s σ H D (I.toTry _) h) (fun fl t1 hsp => ?_) (fun u t1 he => he)
  · obtain ⟨a, B, sI, pins2, σ2, H2, cls, d, rfl, J0, nb, up, sky, na, eos, ag, hm, hw⟩ := z
    have J : L2.Inv X pins σ2 H2 sI := J0.ofTry okX
    have sky2 : L2.Sky B (X.env :: X.outer) a (L2.Zc cls d) X.env.locals s'.heap := by rw [← hs]; exact sky
    show wpAny _ X.A (noteFrame (.ref a) X.env) _ _ _
    refine L2.Sky.land L2.Zc.steady frs0 hf sky2 fun g3 fl3 up3 => ?_
    have K3 : L2.Inv X pins σ2 H2 { s' with heap := g3 } := J.landed nb fl3.1 (up.trans up3) eos ag
    obtain ⟨o3, vs3, hg3, hz3, hd3⟩ := fl3.there
    have away : ∀ {g : Heap} {ob : Obj} {vs : Array Value}, g.FunFrames B (X.env :: X.outer) → g.get? a = some ob → ob.data = .fields vs → a ∉ frs (X.env :: X.outer) := fun {g ob vs} ff e1 e2 hm => by
      obtain ⟨_, ob2, e3, hnf⟩ := ff.mem hm
      rw [e1] at e3
      cases e3
      exact hnf _ e2
    have nfr := away fl3.2.2.1 hg3 hd3
    have hBa : B.get? a = none := fl3.2.1
    have hIa : sI.heap.get? a = none := by
      cases z : sI.heap.get? a with
      | none => rfl
      | some ob =>
        have := nb a ob z (by rw [show (X.tr (X.pn ++ pins) _).stack = X.stack from rfl, hs]; exact nfr)
        rw [hBa] at this
        cases this
    have h0a : X.s_0.heap.get? a = none := by
      cases z : X.s_0.heap.get? a with
      | none => rfl
      | some ob =>
        obtain ⟨ob2, z2⟩ := J.base.there a ob z (by rw [hex]; simp)
        rw [hIa] at z2
        cases z2
    have nL : a ≠ X.env.locals := fun z => nfr (List.mem_filterMap.mpr ⟨X.env, List.mem_cons_self, by rw [hf, z]⟩)
    have nF : a ∉ X.fs := fun hm => by
      obtain ⟨e1, e2, e3⟩ := List.mem_filterMap.mp hm
      exact nfr (List.mem_filterMap.mpr ⟨e1, List.mem_cons_of_mem _ e2, e3⟩)
    have nP : ∀ p ∈ X.pn ++ pins, p.1 ≠ a := fun p hp z => by
      have := (J.pin p hp).1
      rw [z, hIa] at this
      cases this
    have S3 := K3.suite hg3 hd3 na nL nF
    refine wpAny_handleBy_cons (codeAny_handlers_test ?_) (by intro z; cases z)
    have look1 : PySem.W.Looks (model X.prog X.w) g3 (typeOf (.ref a)) cls := fun A1 Q1 E1 t1 kk q1 => wpAny_typeOf_ref (kk _ _ hg3) (by rw [hz3.1]; exact q1)
    have look2 := PySem.W.exm_one (M := model X.prog X.w) (K3.kIn) look1 hm
    have ask : ∀ {Q1 E1 : Value → Shared → Prop}, Q1 c { s' with heap := g3 } → wpAny (model X.prog X.w) (X.A.mark (some (.ref a))) (eval (.Name x np) X.env) Q1 E1 { s' with heap := g3 } := fun {Q1 E1} q1 => by
      obtain ⟨c1, c2, c3 | ⟨c3, c4, c5⟩⟩ := hc
      · exact ld_glob (X := X.suite a ((a, o3) :: (X.pn ++ pins))) S3 c1 c3 q1 c2
      · exact ld_blt (X := X.suite a ((a, o3) :: (X.pn ++ pins))) S3 c1 c3 c4 q1 c5 c2
    refine ask (look2.here ?_)
    refine codeAny_handlers_suite_as ?_
    refine PySem.HandSPX.lands_againZ fl3 fun g4 fl4 up4 => ?_
    have K4 : L2.Inv X pins σ2 H2 { s' with heap := g4 } := J.landed nb fl4.1 ((up.trans up3).trans up4) eos ag
    obtain ⟨o4, vs4, hg4, hz4, hd4⟩ := fl4.there
    have S4 := K4.suite hg4 hd4 na nL nF
    refine store_ok (X := X.suite a ((a, o4) :: (X.pn ++ pins))) (v := .ref a) S4 hN hi ln rfl (fun t5 S5 => ?_) (.inr hn)
    have run5 : PSs (X.suite a ((a, o4) :: (X.pn ++ pins))) [.Assign [.Name y p1] (.Name n p2) p3] _ := pss_one (ps_set hN hj (.inl hy) (pe_var hi (.inl hn) hdn hcn) (hsw _) (.inr hy))
    refine wpAny_mono (run5.run [] t5 _ H2 { nx := fun σ' H' => σ' = (σ2.set i (some (.ref a))).set j (some (.ref a)) ∧ H' = H2, rt := fun _ _ => False, bk := fun _ _ => False, ct := fun _ _ => False } S5 ?_) (fun fl6 t6 hsp => ?_) (fun _ _ z => False.elim z)
    · refine ⟨.ref a, ?_, ?_⟩
      · have hlen : i < σ2.length := by
          rw [K4.len]
          exact (List.getElem?_eq_some_iff.mp hi).1
        rw [List.getElem?_set_self hlen]
      · exact ⟨rfl, rfl⟩
    · cases fl6 with
      | next =>
        obtain ⟨σ6, H6, S6, e1, e2⟩ := hsp
        subst e1 e2
        have e6 := (S6.pin (a, o4) (List.mem_append_left _ List.mem_cons_self)).1
        have J6 := inv_learn (S6.unsuite okX) na h0a nL (fun x1 c1 e z => by
          obtain ⟨w1, ob, z1, z2⟩ := S6.cell x1 c1 e
          rw [z, e6] at z1
          cases z1
          rw [hd4] at z2
          cases z2) nP (o := exnO a cls d) ⟨⟨o4, e6, hz4.1, hz4.2, vs4, hd4⟩, ⟨_, e6⟩, fun h1 h2 ⟨ob, z1, z2⟩ kk => ⟨ob, kk _ z1, z2⟩⟩
        refine gone_ok J6 hN hi hn fun t7 J7 => ⟨_, _, J7, ?_⟩
        have es : ((σ2.set i (some (V.ref a))).set j (some (V.ref a))).set i none = (σ2.set j (some (V.ref a))).set i none := by
          rw [List.set_comm _ _ hij, List.set_set]
        rw [es]
        exact hw a na
      | brk =>
        obtain ⟨_, _, _, z⟩ := hsp
        exact z.elim
      | cont =>
        obtain ⟨_, _, _, z⟩ := hsp
        exact z.elim
      | ret u =>
        obtain ⟨_, _, _, _, _, z⟩ := hsp
        exact z.elim
  · cases fl with
    | next =>
      obtain ⟨σ6, H6, J6, q6⟩ := hsp
      exact wpAny_execs_nil ⟨σ6, H6, J6.ofTry okX, q6⟩
    | brk =>
      obtain ⟨σ6, H6, J6, q6⟩ := hsp
      exact ⟨σ6, H6, J6.ofTry okX, q6⟩
    | cont =>
      obtain ⟨σ6, H6, J6, q6⟩ := hsp
      exact ⟨σ6, H6, J6.ofTry okX, q6⟩
    | ret u =>
      obtain ⟨v6, σ6, H6, J6, r6, q6⟩ := hsp
      exact ⟨v6, σ6, H6, J6.ofTry okX, r6, q6⟩
end
end Mi
end
section
namespace Mi
open PySem PySem.Spec PyProof.Rows L2
section
variable {X : Cx} {x n y : Str} {c : Value} {cs : List Str} {i j l : Nat} {np p1 p2 p3 p4 p5 pos pos' : Pos} {e : Expr} {fe : Ex}
theorem try_go {K : PySem.W.Frag} {D : Ends} {σ : L2.St} {H : Hp} {io : Option Nat} (hcs : ∀ z ∈ cs, PySem.W.exmOne K (.ref (He.ga K z)) c = some true) (h : TSm K (sTry cs io i j fe) D σ H) (nx : V → Hp → Prop)
    (hnx : ∀ ρ' S' H' env' v d, EnvOk K ρ' S' H' env' σ → DOk K ρ' S' H' v d → (∀ σ', EnvOk K ρ' S' H' (match io with | some l => env'.set l (some d) | none => env') σ' → D.nx σ' H') → nx v H') : TXw K (wNote K c i j D) fe σ H nx := by
  obtain ⟨ρ, env, S, eo, ok, q⟩ := h
  refine ⟨ρ, env, S, eo, ok, ?_⟩
  unfold sTry at q
  cases hr : fe env S with
  | no => rw [hr] at q; exact q
  | ok p =>
    obtain ⟨d, S1⟩ := p
    rw [hr] at q
    intro ρ' H' xt o' v dv
    exact hnx ρ' S1 H' env v d (eo.mono xt) dv (q ρ' H' xt o')
  | ex x S1 =>
    rw [hr] at q
    obtain ⟨hc, q⟩ := Aft.when q
    have hc : x.c ∈ cs := by simpa using hc
    intro ρ' H' cls d xt o' f
    have ec := f.1
    subst ec
    refine ⟨hcs _ hc, fun a ha => ?_⟩
    have x2 : Xt ρ' S1 H' ρ' S1 (upd H' a (exnO a (.ref (He.ga K x.c)) d)) := Xt.new ha
    refine q ρ' _ (xt.trans x2) (o'.new ha) _ (((eo.mono (xt.trans x2)).set (d := .exn x) ⟨a, _, d, rfl, fun z => ?_, upd_same, f.mono x2⟩).none)
    obtain ⟨o, ho, _⟩ := o'.live z
    rw [ha] at ho
    cases ho
theorem s_tryA (hcs : ∀ z ∈ cs, PySem.W.exmOne X.K (.ref (He.ga X.K z)) c = some true) (hs : X.stack = X.env :: X.outer) (hf : X.env.frame = some X.env.locals) (hex : X.ex = []) (G : Gd X) (hc : L2.Names X x c) {z : Str}
    (he : ∀ (W : WX) (pn : List (Addr × Obj)) (xe : Value → Shared → Prop), Gd (X.tr pn xe) → L2.Takes (X.tr pn xe) W → PE (X.tr pn xe) e (TXw X.K W fe)) (l i j : Nat)
    (hij : i ≠ j := by decide) (hl : X.N[l]? = some z := by rfl) (hi : X.N[i]? = some n := by rfl) (hj : X.N[j]? = some y := by rfl) (hz : X.env.kindOf z = some .local := by rfl) (hn : X.env.kindOf n = some .local := by rfl) (hy : X.env.kindOf y = some .local := by rfl) (hsw : ∀ env : PySem.Env, swapsWith (.Name n p2) (some (.Name y p1)) p3.line env = pure false := by intro _; rfl)
    (hdn : (n == ("__debug__" : Str)) = false := by decide) (hcn : (n == ("__classdict__" : Str)) = false := by decide) (hse : swapsWith e (some (.Name z p5)) p4.line X.env = pure false := by rfl) :
    PS X (.Try [.Assign [.Name z p5] e p4] [.ExceptHandler (some (.Name x np)) (some n) [.Assign [.Name y p1] (.Name n p2) p3] pos'] [] [] pos) (TSm X.K (sTry cs (some l) i j fe)) := by
  refine PS.up (ps_note (tb := fun W => tAsg (TXw X.K W fe) (gName l)) hs hf G.nd hi hj hij hn hy hc hsw hdn hcn hex fun W pn xe tk => pss_one (ps_set G.nd hl (.inl hz) (he W pn xe ⟨G.calm, G.hu, G.gs, G.nd⟩ tk) hse (.inr hz))) fun D σ H h => ?_
  exact try_go hcs h _ fun ρ' S' H' env' v d eo dv q => q _ (eo.set dv)
end
section
variable {X : Cx} {e : Expr} {fa : Ex} {pos p q : Pos} {y n : Str} {tb : List (Str × Bool)} {cs : List Str} {C : Value}
def rIsX (K : PySem.W.Frag) (tb : List (Str × Bool)) (C : V) : List V → Hp → VK → Prop := fun vs H Q => ∃ (ρ : List Addr) (S : Store) (v : V) (x : Exc) (b : Bool), vs = [v, C] ∧ Ok ρ S H ∧ DOk K ρ S H v (.exn x) ∧ tb.lookup x.c = some b ∧ Q (.bl b) H
theorem call_isX {Cv : V} (hv : ∀ u, RelV Cv u → u = C) (ht : ∀ z b, tb.lookup z = some b → ErrQ X.K (He.ga X.K z) ∧ PySem.W.kitOne X.K (.ref (He.ga X.K z)) C = some b) : CallR X (.builtin "isinstance") (rIsX X.K tb Cv) := by
  intro pins s σ H vs us Q I r ⟨ρ, S, v, x, b, ev, ok, dv, hb, hq⟩
  subst ev
  cases r with
  | cons rv rr =>
    cases rr with
    | cons rc rr =>
      cases rr
      have ec := hv _ rc
      subst ec
      obtain ⟨a, o, od, rfl, J, _⟩ := exn_inst I.hok dv
      cases rv
      obtain ⟨T, ek⟩ := ht _ _ hb
      exact PySem.W.kia_one (PySem.W.kitx_exc T.cl T.ga T.gt T.sb T.ca T.hn T.ht T.hm) I.kIn J ek (fun z => nomatch z) fun tk => ⟨.bl b, H, I.kept (t' := tk) fun _ _ z => z, rfl, hq⟩
theorem tIsX {K : PySem.W.Frag} {σ : L2.St} {H : Hp} {Q : VK} {Cv : V} (h : TX K (mIsX tb fa) σ H Q) : TX K fa σ H fun v H1 => rIsX K tb Cv [v, Cv] H1 Q := by
  obtain ⟨ρ, env, S, eo, ok, z⟩ := h
  refine ⟨ρ, env, S, eo, ok, (Aft.bd z).mono fun p1 ρ1 H1 e1 o1 z1 v dv => ?_⟩
  obtain ⟨d, S1⟩ := p1
  cases d with
  | exn x =>
    obtain ⟨b, hb, z2⟩ := Aft.orNo z1
    exact ⟨ρ1, S1, v, x, b, rfl, o1, dv, hb, (Aft.here z2 rfl o1) _ (.bl b)⟩
  | _ => exact z1.elim
theorem x_isX (hm : X.mg y = some (.ref (He.ga X.K y))) (ht : ∀ z b, tb.lookup z = some b → ErrQ X.K (He.ga X.K z) ∧ PySem.W.kitOne X.K (.ref (He.ga X.K z)) (.ref (He.ga X.K y)) = some b) (hy : Gl X y) (hg : Gl X "isinstance") (hmi : X.mg "isinstance" = none) (ha : PE X e (TX X.K fa))
    (hyd : (y == ("__debug__" : Str)) = false := by decide) (he : starEach [e, .Name y q] X.env = (false, eval e X.env) :: starEach [.Name y q] X.env := by rfl) (he2 : starEach [.Name y q] X.env = (false, eval (.Name y q) X.env) :: starEach [] X.env := by rfl) (hpl : (backTo pos (starEach [.Name y q] X.env)).any (·.1) = false := by rfl) :
    PE X (.Call (.Name "isinstance" p) [e, .Name y q] [] pos) (TX X.K (mIsX tb fa)) :=
  PE.up (pe_callB (call_isX (tb := tb) (C := .ref (He.ga X.K y)) (Cv := .ref (He.ga X.K y)) (fun u r => r) ht) hg hmi PyProof.Rows.boot_isinstance (pa_cons ha (pa_cons (pe_glob (v := .ref (He.ga X.K y)) hy hm rfl hyd) pa_nil he2) he) (by decide) (by decide) he hpl) fun σ H Q h => by
    obtain ⟨ρ, env, S, eo, ok, z⟩ := tIsX (Cv := .ref (He.ga X.K y)) h
    exact ⟨ρ, env, S, eo, ok, z.mono fun p1 ρ1 H1 e1 o1 z1 v dv => z1 v dv⟩
def tFld (K : PySem.W.Frag) (cs : List Str) (n : Str) (te : TE) : TE := fun σ H Q => te σ H fun v H1 => ∃ (ρ : List Addr) (S : Store) (x : Exc) (u : PyData), Ok ρ S H1 ∧ DOk K ρ S H1 v (.exn x) ∧ x.c ∈ cs ∧ x.f = some (n, u) ∧ ∀ w, Pd (Live ρ S) H1 w u → Q w H1
theorem pe_fld {te : TE} (ht : ∀ z ∈ cs, ErrQ X.K (He.ga X.K z) ∧ PySem.W.findIn X.K (.ref (He.ga X.K z)) n = some none) (he : PE X e te) (hb : attributeBase e n X.env (eval e X.env) = eval e X.env := by rfl) : PE X (.Attribute e n pos) (tFld X.K cs n te) := by
  refine ⟨fun pins s σ H Q I h => ?_⟩
  refine attr_of hb (thn (he.run pins s σ H _ I h) fun u s1 hh => ?_)
  obtain ⟨v, H1, I1, rv, ρ, S, x, ud, ok, dv, hc, hf, hq⟩ := hh
  obtain ⟨T, hno⟩ := ht _ hc
  obtain ⟨a, o, od, rfl, J, g⟩ := exn_inst I1.hok dv
  obtain ⟨dd, fs, w1, ob, rfl, hob, hdd, hl, hp⟩ := g n ud hf
  obtain rfl : u = Value.ref a := rv
  obtain ⟨mA, hns, hr⟩ := (show ∃ mA, s1.heap.Ns1 dd mA ∧ ∀ f, RelO (fs.lookup f) (mA f) from I1.hok dd _ hdd)
  obtain ⟨ob2, hob2, hlk⟩ := lookIn_ns hns
  rw [hob] at hob2
  cases hob2
  obtain ⟨uu, hu, ru⟩ := RelO.some_of (v := w1) (o := mA n) (by rw [← hl]; exact hr n)
  exact PySem.HandSPX.exc_get I1.kIn J T.ga T.gt T.sb (PySem.W.findObj_own T.hd hno rfl (by rw [hlk, hu])) (handed_of ru) ⟨w1, H1, I1.tok _, ru, hq w1 hp⟩
theorem x_fld (ht : ∀ z ∈ cs, ErrQ X.K (He.ga X.K z) ∧ PySem.W.findIn X.K (.ref (He.ga X.K z)) n = some none) (ha : PE X e (TX X.K fa)) (hb : attributeBase e n X.env (eval e X.env) = eval e X.env := by rfl) : PE X (.Attribute e n pos) (TX X.K (mFld cs n fa)) :=
  PE.up (pe_fld ht ha hb) fun σ H Q ⟨ρ, env, S, eo, ok, z⟩ => by
    refine ⟨ρ, env, S, eo, ok, (Aft.bd z).mono fun p1 ρ1 H1 e1 o1 z1 v dv => ?_⟩
    obtain ⟨d, S1⟩ := p1
    cases d with
    | exn x =>
      obtain ⟨hc, z2⟩ := Aft.when z1
      cases hf : x.f with
      | none => rw [hf] at z2; exact z2.elim
      | some mu =>
        obtain ⟨m, u⟩ := mu
        rw [hf] at z2
        obtain ⟨hmn, z3⟩ := Aft.when z2
        have hmn := of_decide_eq_true hmn
        subst hmn
        exact ⟨ρ1, S1, x, u, o1, dv, by simpa using hc, hf, fun w hw => (Aft.here z3 rfl o1) w hw⟩
    | _ => exact z1.elim
end
end Mi
end
section
namespace Mi
open PySem PySem.Spec PyProof.Rows L2
inductive Kx where
  | cap (j : Nat)
  | par
  | int (n : Int)
  | neg (a : Kx)
  | sub (a b : Kx)
  | mul (a b : Kx)
  | ix (a b : Kx)
  | idx (a b : Kx)
  | tup (a b : Kx)
def kNeg : PyData → Option PyData
  | .int n => some (.int (-n))
  | _ => none
def kSub : PyData → PyData → Option PyData
  | .int n, .int m => some (.int (n - m))
  | _, _ => none
def kMul : PyData → PyData → Option PyData
  | .int n, .int m => if mulOk n m = true then some (.int (n * m)) else none
  | _, _ => none
def kIx : PyData → PyData → Option PyData
  | .tuple ds, .int i => if ds.length ≤ 1000000 then atD ds i else none
  | _, _ => none
def kIdx : PyData → PyData → Option PyData
  | .tuple ds, .int i => (ints? ds).bind fun ns => if i ∈ ns then some (.int (ns.idxOf i : Nat)) else none
  | _, _ => none
def Kx.ev (us : List PyData) (x : PyData) : Kx → Option PyData
  | .cap j => us[j]?
  | .par => some x
  | .int n => some (.int n)
  | .neg a => (a.ev us x).bind kNeg
  | .sub a b => (a.ev us x).bind fun u => (b.ev us x).bind (kSub u)
  | .mul a b => (a.ev us x).bind fun u => (b.ev us x).bind (kMul u)
  | .ix a b => (a.ev us x).bind fun u => (b.ev us x).bind (kIx u)
  | .idx a b => (a.ev us x).bind fun u => (b.ev us x).bind (kIdx u)
  | .tup a b => (a.ev us x).bind fun u => (b.ev us x).bind fun v => some (.tuple [u, v])
inductive KxIs (cs : List Str) (px : Str) : Kx → Expr → Prop
  | cap {j : Nat} {x : Str} {pos : Pos} : cs[j]? = some x → (x == ("__debug__" : Str)) = false → (x == ("__classdict__" : Str)) = false → KxIs cs px (.cap j) (.Name x pos)
  | par {pos : Pos} : (px == ("__debug__" : Str)) = false → KxIs cs px .par (.Name px pos)
  | int {n : Int} {j : Nat} {pos : Pos} : KxIs cs px (.int n) (.Constant (.int n) j pos)
  | neg {a : Kx} {e : Expr} {pos : Pos} : KxIs cs px a e → KxIs cs px (.neg a) (.UnaryOp .USub e pos)
  | sub {a b : Kx} {e f : Expr} {pos : Pos} : KxIs cs px a e → KxIs cs px b f → KxIs cs px (.sub a b) (.BinOp e .Sub f pos)
  | mul {a b : Kx} {e f : Expr} {pos : Pos} : KxIs cs px a e → KxIs cs px b f → KxIs cs px (.mul a b) (.BinOp e .Mult f pos)
  | ix {a b : Kx} {e f : Expr} {pos : Pos} : KxIs cs px a e → KxIs cs px b f → PlainIx f → KxIs cs px (.ix a b) (.Subscript e f pos)
  | idx {a b : Kx} {o e : Expr} {apos cpos : Pos} : KxIs cs px a o → KxIs cs px b e → (∀ env : PySem.Env, attributeBase o "index" env (eval o env) = eval o env) →
      (∀ env : PySem.Env, ((backTo cpos (starEach [e] env)).all (fun x => !x.1) && (backToKw cpos (keywordEach [] env)).all (fun x => x.1.isSome)
      && decide ([e].length + ([] : List Keyword).length + (if ([] : List Keyword).isEmpty then 0 else 1) < 30)) = true) → (apos.endLine == cpos.line) = true →
      (∀ env : PySem.Env, starEach [e] env = (false, eval e env) :: starEach [] env) → KxIs cs px (.idx a b) (.Call (.Attribute o "index" apos) [e] [] cpos)
  | tup {a b : Kx} {e f : Expr} {j : Nat} {pos : Pos} : KxIs cs px a e → KxIs cs px b f → (∀ env : PySem.Env, backTo pos (starEach [e, f] env) = [(false, eval e env), (false, eval f env)]) → KxIs cs px (.tup a b) (.Tuple [e, f] j pos)
mutual
def tupOnly : PyData → Bool
  | .int _ => true
  | .tuple ds => tupOnlyL ds
  | _ => false
def tupOnlyL : List PyData → Bool
  | [] => true
  | d :: ds => tupOnly d && tupOnlyL ds
end
mutual
inductive Rv (h : Heap) : Value → PyData → Prop
  | int (i : Int) (t : Tok) : Rv h (.int i t) (.int i)
  | tup {a : Addr} {o : Obj} {vs : Array Value} {n : Nat} {ds : List PyData} : h.get? a = some o → o.cls = .type "tuple" → o.dict = none → o.data = .seq vs n → Rvs h vs.toList ds → Rv h (.ref a) (.tuple ds)
inductive Rvs (h : Heap) : List Value → List PyData → Prop
  | nil : Rvs h [] []
  | cons {v : Value} {vs : List Value} {d : PyData} {ds : List PyData} : Rv h v d → Rvs h vs ds → Rvs h (v :: vs) (d :: ds)
end
mutual
theorem Rv.keep {h h' : Heap} (k : ∀ b o, h.get? b = some o → h'.get? b = some o) : ∀ (d : PyData) (v : Value), Rv h v d → Rv h' v d
  | .int _, _, .int i t => .int i t
  | .tuple ds, _, .tup h1 h2 h3 h4 h5 => .tup (k _ _ h1) h2 h3 h4 (Rvs.keep k ds _ h5)
theorem Rvs.keep {h h' : Heap} (k : ∀ b o, h.get? b = some o → h'.get? b = some o) : ∀ (ds : List PyData) (vs : List Value), Rvs h vs ds → Rvs h' vs ds
  | [], _, .nil => .nil
  | d :: ds, _, .cons a b => .cons (Rv.keep k d _ a) (Rvs.keep k ds _ b)
end
mutual
theorem Rv.reads {h : Heap} : ∀ (d : PyData) (v : Value), Rv h v d → Reads h v d []
  | .int _, _, .int i t => .int i t
  | .tuple ds, _, .tup h1 h2 h3 h4 h5 => .tuple h1 h2 h4 (Rvs.reads ds _ h5)
theorem Rvs.reads {h : Heap} : ∀ (ds : List PyData) (vs : List Value), Rvs h vs ds → ReadsAll h vs ds []
  | [], _, .nil => .nil
  | d :: ds, _, .cons a b => .cons (as := []) (bs := []) (Rv.reads d _ a) (Rvs.reads ds _ b)
end
theorem Rvs.at {h : Heap} : ∀ {vs : List Value} {ds : List PyData}, Rvs h vs ds → ∀ {i : Nat} {d : PyData}, ds[i]? = some d → ∃ v, vs[i]? = some v ∧ Rv h v d
  | _, _, .nil, i, d, e => by simp at e
  | _, _, .cons a t, 0, d, e => by
    simp at e
    subst e
    exact ⟨_, rfl, a⟩
  | _, _, .cons a t, i + 1, d, e => by
    obtain ⟨v, h1, h2⟩ := Rvs.at t (i := i) (by simpa using e)
    exact ⟨v, by simpa using h1, h2⟩
theorem Rvs.length {h : Heap} : ∀ {vs : List Value} {ds : List PyData}, Rvs h vs ds → vs.length = ds.length
  | _, _, .nil => rfl
  | _, _, .cons _ t => congrArg (· + 1) (Rvs.length t)
theorem Rvs.ints {h : Heap} : ∀ {vs : List Value} {ds : List PyData} {ns : List Int}, Rvs h vs ds → ints? ds = some ns → IntsAre vs ns
  | _, _, ns, .nil, e => by
    simp [ints?] at e
    subst e
    exact .nil
  | _, _, ns, .cons (.int i t) r, e => by
    simp only [ints?, Option.map_eq_some_iff] at e
    obtain ⟨ms, h1, h2⟩ := e
    subst h2
    exact .cons _ _ (Rvs.ints r h1)
  | _, _, ns, .cons (.tup _ _ _ _ _) r, e => by simp [ints?] at e
section
variable {P : Program} {w : World} {L : Addr → Prop} {H : Hp} {h : Heap}
mutual
theorem Pd.rv (ok : HOk P w H h) : ∀ (d : PyData) (v : V) (u : Value), tupOnly d = true → Pd L H v d → RelV v u → Rv h u d
  | .int _, _, _, _, .int i, r => by
    obtain ⟨t, rfl⟩ := r
    exact .int i t
  | .tuple ds, _, _, q, .tup (xs := xs) hT r, ru => by
    obtain ⟨o, hH, hd, hc⟩ := hT
    cases ru
    obtain ⟨e, _, its, hv, o', e', hc', n, hd'⟩ := ok _ _ hH
    rw [e] at e'
    cases e'
    exact .tup e hc hd hd' (by rw [List.toList_toArray]; exact Pds.rv ok ds _ _ q r hv)
theorem Pds.rv (ok : HOk P w H h) : ∀ (ds : List PyData) (vs : List V) (us : List Value), tupOnlyL ds = true → Pds L H vs ds → Vals vs us → Rvs h us ds
  | [], _, _, _, .nil, r => by
    cases r
    exact .nil
  | d :: ds, _, _, q, .cons a b, r => by
    rw [tupOnlyL, Bool.and_eq_true] at q
    cases r with
    | cons r1 r2 => exact .cons (Pd.rv ok d _ _ q.1 a r1) (Pds.rv ok ds _ _ q.2 b r2)
end
end
section
variable {prog : Program} {w : World} {A : Around} {env : PySem.Env} {h0 : Heap} {e f : Expr} {d d' : PyData}
structure KxEnv (env : PySem.Env) (h0 : Heap) (cs : List Str) (px : Str) (us : List PyData) (x : PyData) : Prop where
  kind : env.scope.kind = .function
  cap : ∀ (j : Nat) (y : Str) (d : PyData), cs[j]? = some y → us[j]? = some d → env.kindOf y = some .free ∧ ∃ (c : Addr) (u : Value), env.cells.lookup y = some c ∧ h0.IsCell c (some u) ∧ Rv h0 u d
  par : env.kindOf px = some .local ∧ ∃ (m : Str → Option Value) (u : Value), h0.Ns env.locals m ∧ m px = some u ∧ Rv h0 u x
end
end Mi
end
section
namespace Mi
open PySem PySem.Spec PySem.Calls PyProof.Rows PySem.W
open PyProof.Rows (seqObj)
section
variable {prog : Program} {w : World} {A : Around} {E : Value → Shared → Prop} {s : Shared}
variable {β : Type} {vs : List Value} {bs : List β} {R : Value → β → Prop}
end
end Mi
namespace Mi
open PySem PySem.Spec PyProof.Rows L2
section
variable {X : Cx} {pins : List (Addr × Obj)} {σ : L2.St} {H : Hp} {s : Shared}
def TbOk (H : Hp) (q : Str) (ps : Array Value) : Prop := TriplesOk ps.toList ∧ ∀ (pos : Pos) (cv : Value), codeAmong pos ps.toList = some cv → ∃ c, cv = .ref c ∧ H c = some (LamX.CodeO c q)
theorem lam_new {c P : Addr} {q : Str} {params : Arguments} {body : Expr} {scope : Scope} {pos : Pos} {ps : Array Value} {E Q : Value → Shared → Prop} (I : L2.Inv X pins σ H s) (TB : LamX.TabB X.base X.mg c P) (hcode : X.env.code = .ref c)
    (hP : H P = some (.tbl ps)) (ht : TbOk H q ps) (hq : X.env.qual ++ "<lambda>" = q) (hdef : defaultsOf params X.env = ([], [])) (hfree : ∀ y ∈ scope.names, y.2 = .free → ∃ c, X.env.cells.lookup y.1 = some c)
    (h : ∀ (f c' : Addr) (pm ctv : Value) (H1 : Hp) (s1 : Shared) (ps1 : Array Value), L2.Inv X pins σ H1 s1 → (∀ b o, H b = some o → b ≠ P → H1 b = some o) → H1 P = some (.tbl ps1) → TriplesOk ps1.toList →
      (∀ (pos : Pos) (cv : Value), codeAmong pos ps1.toList = some cv → ∃ d, cv = .ref d ∧ H1 d = some (LamX.CodeO d q) ∧ (codeAmong pos ps.toList = some cv ∨ H d = none)) →
      s1.heap.get? f = some (PySem.W.kla_obj "<lambda>" q params body scope (cloFrom X.env.cells scope.names []) pm c' ctv) → H1 f = none → f ∉ frs X.stack → H1 c' = some (LamX.CodeO c' q) → Q (.ref f) s1) :
    wpAny (model X.prog X.w) X.A (eval (.Lambda params body scope pos) X.env) Q E s := by
  obtain ⟨ht, hcs⟩ := ht
  subst hq
  refine PySem.W.kla_eval hdef ?_
  have hbu : s.heap.BuiltinsAt X.mg P := TB.bm.keeps I.bk
  have hPh : s.heap.get? P = some { cls := .none, data := .fields ps } := I.hok P _ hP
  have out : ∀ f, s.heap.objs.size ≤ f → f ∉ frs X.stack := fun f hf z => by
    rcases List.mem_cons.mp (I.stkSub _ z) with e | e
    · rw [e] at hf
      exact absurd I.lt (Nat.not_lt.mpr hf)
    · exact I.nofs hf e
  cases hc : codeAmong pos ps.toList with
  | some cv =>
    obtain ⟨d, rfl, hd⟩ := hcs pos cv hc
    refine PySem.W.kla_makeFunctionHit (mg := X.mg) (c := c) (P := P) (ps := ps) (closure_ok hfree) I.ok.glob (I.mod.glob.keeps I.bk) hcode
      (TB.code.keeps I.bk) hPh ht hc hbu fun ctv g tk kp hz => ?_
    refine h g.objs.size d _ ctv H _ ps (I.kept fun b o z => Heap.get?_push_of_some _ (kp b o z)) (fun b o z _ => z) hP ht (fun pos' cv' z => ?_) (Heap.get?_push_size _ rfl) (I.hok.fresh hz) (out _ hz) hd
    obtain ⟨d', e1, e2⟩ := hcs pos' cv' z
    exact ⟨d', e1, e2, .inl z⟩
  | none =>
    refine PySem.W.kla_makeFunction (mg := X.mg) (c := c) (P := P) (ps := ps) (closure_ok hfree) I.ok.glob (I.mod.glob.keeps I.bk) hcode
      (TB.code.keeps I.bk) hPh ht hc TB.gP hbu fun d ctv g tk kp hge hlt hrec htb => ?_
    obtain ⟨d', oc, vs, t, e, ho, hd, hv⟩ := hrec
    cases e
    have hz : s.heap.objs.size ≤ g.objs.size := Nat.le_trans hge (Nat.le_of_lt hlt)
    have nd : H d = none := I.hok.fresh hge
    have nP : d ≠ P := fun z => by rw [z, hP] at nd; cases nd
    have el : (ps ++ #[rawInt pos.line, rawInt pos.col, .ref d]).toList = ps.toList ++ [rawInt pos.line, rawInt pos.col, .ref d] := by simp
    have hold : ∀ b o, H b = some o → b ≠ P → upd (upd H P (.tbl (ps ++ #[rawInt pos.line, rawInt pos.col, .ref d]))) d (LamX.CodeO d (X.env.qual ++ "<lambda>")) b = some o := fun b o z n => by
      rw [upd_ne (fun w => by rw [w, nd] at z; cases z), upd_ne n]
      exact z
    refine h g.objs.size d ((X.mg "__name__").getD .none) ctv (upd (upd H P (.tbl (ps ++ #[rawInt pos.line, rawInt pos.col, .ref d]))) d (LamX.CodeO d (X.env.qual ++ "<lambda>"))) _ (ps ++ #[rawInt pos.line, rawInt pos.col, .ref d])
      (LamX.inv_table I hP (fun b o n z => Heap.get?_push_of_some _ (kp b o n z)) (Heap.get?_push_of_some _ htb) hge ⟨oc, vs, t, Heap.get?_push_of_some _ ho, hd, hv⟩) hold (by rw [upd_ne nP.symm, upd_same]) (by rw [el]; exact PySem.TriplesOk_snoc _ _ _ _ ht)
      (fun pos' cv' z => ?_) (Heap.get?_push_size _ rfl) ?_ (out _ hz) upd_same
    · rw [el] at z
      rcases LamX.among_app _ ht z with z | z
      · obtain ⟨d', e1, e2⟩ := hcs pos' cv' z
        exact ⟨d', e1, hold _ _ e2 (fun w => by rw [w, hP] at e2; cases e2), .inl z⟩
      · exact ⟨d, z, upd_same, .inr nd⟩
    · rw [upd_ne (Nat.ne_of_gt hlt), upd_ne (Nat.ne_of_gt (Nat.lt_of_lt_of_le (Heap.lt_size hPh) hz))]
      exact I.hok.fresh hz
end
end Mi
end
section
namespace Mi
open PySem PySem.Spec PyProof.Rows L2
section
variable {ρ : List Addr} {S : Store} {H H2 : Hp} {P : Nat} {q : Str} {ps ps2 : Array Value}
end
end Mi
end
section
namespace Mi
open PySem PySem.Spec PyProof.Rows L2
structure LamP (N : List Str) (sc scope : Scope) (cs : List Str) (ci : List Nat) (px : Str) : Prop where
  kind : scope.kind = .function
  co : scope.isCoroutine = false
  gen : scope.isGenerator = false
  nc : ∀ y ∈ scope.names, y.2 ≠ .cell
  par : scope.names.lookup px = some .local
  free : ∀ y ∈ scope.names, y.2 = .free → sc.names.lookup y.1 = some .cell ∨ sc.names.lookup y.1 = some .free
  cap : ∀ (j : Nat) (y : Str), cs[j]? = some y → ∃ i, ci[j]? = some i ∧ N[i]? = some y ∧ sc.names.lookup y = some .cell ∧ scope.names.lookup y = some .free
section
variable {X : Cx} {e : Expr} {fa : Ex} {pos p lpos kpos : Pos}
end
end Mi
end
section
namespace Mi
open PySem PySem.Spec PyProof.Rows L2
theorem keepE_len (cs : List Nat) : ∀ (i : Nat) (env : Env), (keepE cs i env).length = env.length
  | _, [] => rfl
  | i, x :: r => congrArg (· + 1) (keepE_len cs (i + 1) r)
theorem keepE_at (cs : List Nat) : ∀ (i : Nat) (env : Env) (j : Nat) (d : D), (keepE cs i env)[j]? = some (some d) → env[j]? = some (some d)
  | _, [], j, d, h => by simp [keepE] at h
  | i, x :: r, 0, d, h => by
    simp only [keepE, List.getElem?_cons_zero] at h
    split at h
    · exact h
    · cases h
  | i, x :: r, j + 1, d, h => by
    simp only [keepE, List.getElem?_cons_succ] at h ⊢
    exact keepE_at cs (i + 1) r j d h
section
variable {X : Cx} {pins : List (Addr × Obj)} {σ : L2.St} {H : Hp} {s : Shared}
def LamBody (X : Cx) (scope : Scope) (k : Nat) (body : Expr) (fa : Ex) : Prop := ∀ (A : Around) (outer : List PySem.Env) (s : Shared) (H : Hp) (E : XK) (f c : Addr), Rm k (A.deeper (LamX.lamEnv X scope s.heap.objs.size f c)) → Gd (LamX.lamCx X A outer s H E scope f c) →
  L2.Takes (LamX.lamCx X A outer s H E scope f c) (fun cls d _ H => E cls d H) → PE (LamX.lamCx X A outer s H E scope f c) body (TXx X.K E fa)
open Classical in
theorem act_ok {Eg : XK} {Ng : List Str} {qg q : Str} {sg : Scope} {g f c : Addr} {cdg pm ctv : Value} {params : Arguments} {body : Expr} {scope : Scope} {k : Nat} {a : Str} {pn : List (Addr × Obj)} {xe : Value → Shared → Prop} {W : WX} {p1 p2 : Pos} {ρ0 : List Addr} {S0 : Store} {env : Env} {cs : List Nat} {fa : Ex}
    (I : L2.Inv X pins σ H s) (eo : EnvOk X.K ρ0 S0 H env σ) (hcap : (keepE cs 0 env).all capT = true) (hnd : X.N.Nodup) (hq : X.env.qual ++ "<lambda>" = q) (L : LamX.LamS X.env.scope scope) (hfo : s.heap.get? f = some (PySem.W.kla_obj "<lambda>" q params body scope (cloFrom X.env.cells scope.names []) pm c ctv)) (hfn : H f = none) (hfr : f ∉ frs X.stack)
    (hbind : ∀ (q : Str) (cl : List (Str × Addr)) (pm cv ctv : Value), bindArgs (PySem.W.kla_fn "<lambda>" q params body scope cl pm cv ctv) ⟨[], []⟩ = pure [])
    (hr : Rm (k + 1) (X.A.deeper (envOfC qg sg s.heap.objs.size g cdg))) (hbody : LamBody X scope k body fa) (hN : Ng[0]? = some a) (hv : Vis sg a) (hd : (a == ("__debug__" : Str)) = false) (hcd : (a == ("__classdict__" : Str)) = false)
    (tk : L2.Takes ((cxOf CX0 X.prog X.w X.K X.mg X.base Ng qg sg g cdg X.A X.stack s H Eg).tr pn xe) W) :
    PE ((cxOf CX0 X.prog X.w X.K X.mg X.base Ng qg sg g cdg X.A X.stack s H Eg).tr pn xe) (.Call (.Name a p1) [] [] p2) (TXw X.K W (mAct ⟨⟨f, (keepE cs 0 env).map toDc, σ⟩, c, q, fun S' => fa (keepE cs 0 env) S'⟩ 0)) := by
  subst hq
  refine ⟨fun pz sz σz Hz Q Iz h => ?_⟩
  obtain ⟨ρ, envF, S, eoF, okF, z⟩ := h
  unfold mAct at z
  cases h0 : envF[0]? with
  | none => rw [h0] at z; exact z.elim
  | some od =>
    cases od with
    | none => rw [h0] at z; exact z.elim
    | some d =>
      rw [h0] at z
      cases d with
      | fn f1 c1 q1 =>
        obtain ⟨v0, hs0, dv⟩ := eoF.slot 0 _ h0
        obtain ⟨ev, hcode, _, hcp⟩ := dv
        subst ev
        obtain ⟨e, z3⟩ := AftX.when (show AftX X.K (fun cls d H' => W cls d σz H') ρ S Hz (when_ (decide (f1 = ⟨f, (keepE cs 0 env).map toDc, σ⟩) && decide (c1 = c) && decide (q1 = X.env.qual ++ "<lambda>")) (fa (keepE cs 0 env) S)) (fun p => p.2) _ from z)
        simp only [Bool.and_eq_true, decide_eq_true_eq] at e
        obtain ⟨⟨rfl, rfl⟩, rfl⟩ := e
        refine wpAny_Call_Name_kw (thn ((pe_var (pos := p1) (i := 0) hN hv hd hcd).run pz sz σz Hz (fun v H1 => v = .ref f ∧ H1 = Hz) Iz ⟨.ref f, hs0, rfl, rfl⟩) fun u s1 ⟨v, H1, I1, r1, e1, e2⟩ => ?_)
        subst e1
        rw [e2] at I1
        obtain rfl : u = Value.ref f := r1
        have fs1 : s1.heap.get? f = some (PySem.W.kla_obj "<lambda>" (X.env.qual ++ "<lambda>") params body scope (cloFrom X.env.cells scope.names []) pm c1 ctv) := I1.base.keep f _ hfo hfn hfr (fun z => nomatch (show f ∈ ([] : List Addr) from z))
        refine PySem.W.callWith_F0 ⟨_, _, _, _, fs1⟩ ?_
        have un : Un (frs X.stack) [] H Hz s.heap s1.heap := I1.base
        have zc : ObjOk X.prog X.w Hz s1.heap c1 (LamX.CodeO c1 (X.env.qual ++ "<lambda>")) := I1.hok c1 _ hcode
        obtain ⟨⟨oc, vs, t, g1, g2, g3⟩, _, _⟩ := zc
        have eo2 : EnvOk X.K ρ S Hz (keepE cs 0 env) σ := by
          refine ⟨by rw [keepE_len]; exact eo.len, fun j d e => ?_⟩
          have hc := List.all_eq_true.mp hcap _ (List.mem_of_getElem? e)
          cases d with
          | p u =>
            obtain ⟨w, q1, q2⟩ := hcp j (.p u) (by show ((keepE cs 0 env).map toDc)[j]? = _; rw [List.getElem?_map, e]; rfl)
            exact ⟨w, q1, q2⟩
          | ref i =>
            obtain ⟨w, q1, q2⟩ := hcp j (.ref i) (by show ((keepE cs 0 env).map toDc)[j]? = _; rw [List.getElem?_map, e]; rfl)
            exact ⟨w, q1, q2⟩
          | _ => cases hc
        have rc : codeAny (model X.prog X.w) (X.A.deeper (envOfC qg sg s.heap.objs.size g cdg)) (.call (.ref f) ⟨[], []⟩) (CR (L2.CX X.prog X.w) (envOfC qg sg s.heap.objs.size g cdg :: X.stack) X.prog X.w Hz s1 Q (fun cls d H' => W cls d σz H')) s1 := by
          refine PySem.W.kla_callFunE hr.room.depth fs1 rfl L.co L.gen rfl ⟨c1, oc, vs, t, rfl, g1, g2, g3⟩ ?_
          rw [hbind]
          refine wpAny_pure (wpAny_newFunctionEnv (fun y hy => (L.own y hy).2) (fun y hy => absurd hy (by simp)) (fun g4 hns hsb => ⟨I1.nolimit.fresh _ hsb, ?_⟩) L.kind)
          show codeAny _ _ (.expr body (LamX.lamEnv X scope s1.heap.objs.size f c1)) _ _
          have kp : ∀ b o, s1.heap.get? b = some o → g4.get? b = some o := fun b o e => hsb.extBut b o (Nat.ne_of_lt (Heap.lt_size e)) (Heap.get?_push_of_some _ e)
          have J := LamX.lam_start2 (E := fun cls d H' => W cls d σz H') (f := f) (c' := c1) I L I1.env0 hr.room.hd un hns kp (tk := s1.toks + ([] : List (Str × Value)).length)
          have rm := hr.deeper (LamX.lamEnv X scope s1.heap.objs.size f c1)
          have Gl : Gd (LamX.lamCx X (X.A.deeper (envOfC qg sg s.heap.objs.size g cdg)) (envOfC qg sg s.heap.objs.size g cdg :: X.stack) s1 Hz (fun cls d H' => W cls d σz H') scope f c1) := ⟨rfl, by
            have := rm.room.un
            show ((X.A.deeper (envOfC qg sg s.heap.objs.size g cdg)).deeper (LamX.lamEnv X scope s1.heap.objs.size f c1)).units + 2000 < cLine
            simp only [MARGIN] at this
            omega, rm.gs, hnd⟩
          have ev := hbody (X.A.deeper (envOfC qg sg s.heap.objs.size g cdg)) (envOfC qg sg s.heap.objs.size g cdg :: X.stack) s1 Hz (fun cls d H' => W cls d σz H') f c1 rm Gl (L2.takes_of rfl rfl rfl rfl)
          refine PySem.W.kla_codeExpr (wpAny_mono (ev.run [] _ σ Hz Q J ⟨ρ, keepE cs 0 env, S, eo2, okF, z3⟩) (fun v s2 hq => ?_) fun e s2 hq => hq)
          obtain ⟨w2, H2, J2, rv2, q2⟩ := hq
          exact ⟨w2, H2, J2.os, J2.bare, J2.base, J2.hok, rv2, q2⟩
        refine wpAny_call (codeAny_mono rc fun r s2 hq => ?_)
        cases r with
        | error e => exact L2.passAt tk σz pz Hz s1 e s2 I1 hq
        | ok fl =>
          cases fl with
          | ret u => exact I1.after hq
          | next => exact False.elim hq
          | brk => exact False.elim hq
          | cont => exact False.elim hq
      | _ => exact z.elim
end
end Mi
end
section
namespace Mi
open PySem PySem.Spec PyProof.Rows L2
def ActOk (Z : Cx) (a : Str) (cl : Cl) : Prop := ∀ (W : WX) (pn : List (Addr × Obj)) (xe : Value → Shared → Prop) (p1 p2 : Pos), L2.Takes (Z.tr pn xe) W → PE (Z.tr pn xe) (.Call (.Name a p1) [] [] p2) (TXw Z.K W (mAct cl 0))
structure KnC (P : Program) (w : World) (K : PySem.W.Frag) (mg : Str → Option Value) (base : Heap) (k : Nat) (x a : Str) (F : Cl → Fn) : Prop where
  ex : ∃ (g : Addr) (fd : FuncData) (N : List Str) (slots : Nat) (st : Stmt) (b : Cl → Sm), mg x = some (.ref g) ∧ PySem.W.keepIn K (.ref g) = true ∧ FunD K x x (defArgs st) (defBody st) (defScope st) [] [] g fd ∧ Binds K fd [a] [] ∧ FnScope N [a] (defScope st) ∧ N[0]? = some a ∧ Vis (defScope st) a ∧ slots = N.length ∧
    (a == ("__debug__" : Str)) = false ∧ (a == ("__classdict__" : Str)) = false ∧ (∀ cl, F cl = fnOf fin 1 slots (b cl)) ∧ ∀ (cl : Cl) (cdv : Value) (A : Around) (outer : List PySem.Env) (s : Shared) (H : Hp), Rm k (cxOf CX0 P w K mg base N x (defScope st) g cdv A outer s H E0).nox.A → Gd (cxOf CX0 P w K mg base N x (defScope st) g cdv A outer s H E0).nox →
      ActOk (cxOf CX0 P w K mg base N x (defScope st) g cdv A outer s H E0).nox a cl → PSs (cxOf CX0 P w K mg base N x (defScope st) g cdv A outer s H E0).nox (defBody st) (TSm K (b cl))
theorem kn_ofC {P : Program} {w : World} {K : PySem.W.Frag} {mg : Str → Option Value} {base : Heap} {k : Nat} {x a : Str} {st : Stmt} {N : List Str} {slots : Nat} {b : Cl → Sm} (F : DefF K mg x st) (Sc : FnScope N [a] (defScope st)) (hN : N[0]? = some a) (hv : Vis (defScope st) a) (hsl : slots = N.length)
    (hd : (a == ("__debug__" : Str)) = false) (hcd : (a == ("__classdict__" : Str)) = false)
    (hbi : ∀ (kV doc pm : Value) (an : Option Addr) (cdv ct : Value) (us : List Value), us.length = [a].length → bindArgs (PySem.W.fnOf x x (defArgs st) (defBody st) (defScope st) .none kV doc pm an cdv ct) ⟨us, []⟩ = pure ([a].zip us))
    (hb : ∀ (g : Addr) (cl : Cl) (cdv : Value) (A : Around) (outer : List PySem.Env) (s : Shared) (H : Hp), Rm k (cxOf CX0 P w K mg base N x (defScope st) g cdv A outer s H E0).nox.A → Gd (cxOf CX0 P w K mg base N x (defScope st) g cdv A outer s H E0).nox →
      ActOk (cxOf CX0 P w K mg base N x (defScope st) g cdv A outer s H E0).nox a cl → PSs (cxOf CX0 P w K mg base N x (defScope st) g cdv A outer s H E0).nox (defBody st) (TSm K (b cl))) :
    KnC P w K mg base k x a (fun cl => fnOf fin 1 slots (b cl)) := by
  obtain ⟨g, fd, hm, F⟩ := F
  exact ⟨g, fd, N, slots, st, b, hm, F.kp, F, F.bindsN hbi, Sc, hN, hv, hsl, hd, hcd, fun _ => rfl, fun cl => hb g cl⟩
theorem tsm_start {K : PySem.W.Frag} {fi : Nat → D → Store → R (D × Store)} {np slots : Nat} {fb : Sm} {N : List Str} {ρ : List Addr} {S : Store} {H : Hp} {ds : List D} {vs : List V} {Q : VK} (hfi : FinOk K fi) (dd : DsOk K ρ S H vs ds) (hsl : slots = N.length) (ok : Ok ρ S H)
    (q : Aft ρ S H (fnOf fi np slots fb ds S) (fun p => p.2) (fun p ρ' H' => ∀ v, DOk K ρ' p.2 H' v p.1 → Q v H')) : TSm K fb { nx := fun _ H' => Q .non H', rt := Q } (L2.start N vs) H := by
  obtain ⟨_, q⟩ := Aft.when q
  have q := Aft.cutEx q
  refine ⟨ρ, Mi.start slots ds, S, EnvOk.start N dd slots hsl, ok, (Aft.bs0 q).mono fun p ρ1 H1 e1 o1 q1 => ?_⟩
  obtain ⟨fl, env1, S1⟩ := p
  cases fl with
  | rt d =>
    intro v dv
    obtain ⟨d', S', ρ', h1, h2⟩ := hfi ρ ρ1 S S1 H H1 d v _ ok e1 o1 dv q1
    exact h2 v h1
  | nx =>
    intro σ1 eo1
    obtain ⟨d', S', ρ', h1, h2⟩ := hfi ρ ρ1 S S1 H H1 (.p .none) .non _ ok e1 o1 .non q1
    exact h2 .non h1
  | bk => exact q1.elim
  | ct => exact q1.elim
theorem code_dead {P : Program} {w : World} {ρ : List Addr} {S : Store} {H : Hp} {h : Heap} {c : Addr} {q : Str} (ok : Ok ρ S H) (hok : HOk P w H h) (hc : H c = some (LamX.CodeO c q)) : ¬ Live ρ S c := fun ⟨i, cell, h1, h2, h3⟩ => by
  have z : ObjOk P w H h c (LamX.CodeO c q) := hok c _ hc
  obtain ⟨⟨oc, vs, t, g1, g2, g3⟩, _, _⟩ := z
  have k := ok.cell i c cell h1 h2
  have no : ∀ o : HO, H c = some o → (∀ φ, o ≠ .ext φ) → False := fun o e n => n _ (Option.some.inj (hc.symm.trans e)).symm
  cases cell with
  | lst xs =>
    obtain ⟨us, e, _⟩ := k
    exact no _ e fun φ z => by cases z
  | flst xs => cases h3
  | dct b kvs =>
    cases b with
    | false =>
      obtain ⟨us, e, _⟩ := k
      exact no _ e fun φ z => by cases z
    | true => exact k.elim
  | fdct b kvs => cases h3
  | nst n rs =>
    obtain ⟨us, e⟩ := k
    exact no _ e fun φ z => by cases z
  | tab P1 q1 =>
    obtain ⟨e1, ps, e, _⟩ := k
    subst e1
    exact no _ e fun φ z => by cases z
  | tdc ks =>
    obtain ⟨xs, _, e, _⟩ := k
    have e2 := Option.some.inj (hc.symm.trans e)
    have e3 : (fun h : Heap => ∃ (oc : Obj) (vs : Array Value) (t : Tok), h.get? c = some oc ∧ oc.data = .fields vs ∧ vs[1]? = some (.str q t)) = DTfx xs c := HO.ext.inj e2
    have e4 := congrFun e3 h
    have e5 : DTfx xs c h := by rw [← e4]; exact ⟨oc, vs, t, g1, g2, g3⟩
    obtain ⟨_, _, o, es, ep, f1, _, f2, _⟩ := e5
    rw [g1] at f1
    cases f1
    rw [g2] at f2
    cases f2
  | tdv b kvs =>
    obtain ⟨o0, xs, e, _⟩ := k
    have e2 := Option.some.inj (hc.symm.trans e)
    have e3 : (fun h : Heap => ∃ (oc : Obj) (vs : Array Value) (t : Tok), h.get? c = some oc ∧ oc.data = .fields vs ∧ vs[1]? = some (.str q t)) = DTfv o0 xs c := HO.ext.inj e2
    have e4 := congrFun e3 h
    have e5 : DTfv o0 xs c h := by rw [← e4]; exact ⟨oc, vs, t, g1, g2, g3⟩
    obtain ⟨_, _, es, ep, us, _, f1, _, f2, _⟩ := e5
    rw [g1] at f1
    cases f1
    rw [g2] at f2
    cases f2
  | dead => cases h3
  | tbl t =>
    obtain ⟨_, _, e⟩ := k
    exact no _ e fun φ z => by cases z
  | inn =>
    obtain ⟨o, e, e2⟩ := k
    rcases e2 with ⟨_, e2⟩ | ⟨_, e2⟩
    · exact no _ e fun φ z => by rw [e2] at z; cases z
    · exact no _ e fun φ z => by rw [e2] at z; cases z
  | inf => cases h3
  | obj C fs =>
    obtain ⟨_, _, e, _⟩ := k
    exact no _ e fun φ z => by cases z
section
variable {X : Cx} {pos p lpos : Pos}
theorem ok_tabI {ρ : List Addr} {S : Store} {H H2 : Hp} {P : Nat} {q : Str} {ps ps2 : Array Value} {i : Nat} (ok : Ok ρ S H) (hS : S[i]? = some (.tab P q)) (hP : H P = some (.tbl ps)) (keep : ∀ b o, H b = some o → b ≠ P → H2 b = some o) (hP2 : H2 P = some (.tbl ps2)) (ht2 : TriplesOk ps2.toList)
    (hc : ∀ (pos : Pos) (cv : Value), codeAmong pos ps2.toList = some cv → ∃ d, cv = .ref d ∧ H2 d = some (LamX.CodeO d q) ∧ (codeAmong pos ps.toList = some cv ∨ H d = none)) : Ok ρ S H2 ∧ Xt ρ S H ρ S H2 := by
  obtain ⟨a, ha⟩ : ∃ a, ρ[i]? = some a := by
    have h1 := (List.getElem?_eq_some_iff.mp hS).1
    have h2 : i < ρ.length := by rw [ok.len]; exact h1
    exact ⟨_, List.getElem?_eq_getElem h2⟩
  obtain ⟨e, ps', q1, q2, q3⟩ := ok.cell i a _ ha hS
  subst e
  rw [hP] at q1
  cases q1
  have hL : Live ρ S a := ⟨i, _, ha, hS, rfl⟩
  have g : Gr (Live ρ S) (Live ρ S) H H2 := by
    refine ⟨fun b hb => .inl hb, fun b o hb nb => keep b o hb fun z => nb (by rw [z]; exact hL), fun b hb => ?_, fun b o u hb => keep b _ hb fun z => ?_⟩
    · cases hH : H b with
      | none => rfl
      | some o =>
        by_cases hbP : b = a
        · rw [hbP, hP2] at hb
          cases hb
        · rw [keep b o hH hbP] at hb
          cases hb
    · rw [z, hP] at hb
      cases hb
  refine ⟨⟨ok.len, ok.nd, fun j b c r1 r2 => ?_, ok.tb_tab ha hS g keep⟩, ⟨fun _ c h => ⟨c, h, rfl⟩, fun _ _ _ h _ _ => h, g, fun j b n rs r1 r2 => ⟨n, rs, r2, Nat.le_refl _, fun _ => ⟨rfl, fun o ho => ?_⟩⟩, fun _ t h => ⟨t, h, Nat.le_refl _, fun _ _ _ => rfl⟩⟩⟩
  · by_cases hi : j = i
    · subst hi
      rw [ha] at r1
      cases r1
      rw [hS] at r2
      cases r2
      refine ⟨rfl, ps2, hP2, ht2, fun pos cv z => ?_⟩
      obtain ⟨d, e1, e2, e3⟩ := hc pos cv z
      refine ⟨d, e1, e2, fun hl => ?_⟩
      rcases e3 with e3 | e3
      · obtain ⟨d', f1, f2, f3⟩ := q3 pos cv e3
        rw [e1] at f1
        cases f1
        exact f3 hl
      · obtain ⟨o, f1, _⟩ := ok.live hl
        rw [e3] at f1
        cases f1
    · have hb : b ≠ a := fun z => hi (nodup_ixA ok.nd (by rw [z] at r1; exact r1) ha)
      have hq := ok.cell j b c r1 r2
      obtain ⟨o, ho, _⟩ := hq.some
      exact hq.mono g ((keep b o ho hb).trans ho.symm)
  · refine keep b o ho fun z => ?_
    rw [z] at r1
    have := nodup_ixA ok.nd r1 ha
    subst this
    rw [hS] at r2
    cases r2
theorem x_lam {x a : Str} {k j ti T : Nat} {q : Str} {c : Addr} {cs : List Nat} {F : Cl → Fn} {fa : Ex} {params : Arguments} {body : Expr} {scope : Scope} (d : KnC X.prog X.w X.K X.mg X.base k x a F) (G : Gd X) (hr : Rm (k + 1) X.A) (hr2 : Rm (j + 2) X.A) (TB : LamX.TabB X.base X.mg c T) (hcode : X.env.code = .ref c) (hq : X.env.qual ++ "<lambda>" = q)
    (hg : Gl X x) (L : LamX.LamS X.env.scope scope) (hbody : LamBody X scope j body fa) (hdef : defaultsOf params X.env = ([], []) := by rfl) (hdb : (x == ("__debug__" : Str)) = false := by decide)
    (hbind : ∀ (q : Str) (cl : List (Str × Addr)) (pm cv ctv : Value), bindArgs (PySem.W.kla_fn "<lambda>" q params body scope cl pm cv ctv) ⟨[], []⟩ = pure [] := by intros; rfl) :
    PE X (.Call (.Name x p) [.Lambda params body scope lpos] [] pos) (TX X.K (mLam ti T q cs F fa)) := by
  obtain ⟨g, fd, N, slots, st, b, hm, hk, FD, hB, Sc, hN, hv, hsl, hd, hcd, hF, hbd⟩ := d.ex
  refine ⟨fun pins s σ H Q I ⟨ρ, env, S, eo, ok, z⟩ => wpAny_Call_Name_kw (ld_glob I hg hm ?_ hdb)⟩
  obtain ⟨hcap, z⟩ := Aft.when z
  have hcap2 : (keepE cs 0 env).all capT = true := hcap
  cases hS : S[ti]? with
  | none => rw [hS] at z; exact z.elim
  | some cell =>
    rw [hS] at z
    cases cell with
    | tab T1 q1 =>
      obtain ⟨e, z2⟩ := Aft.when (show Aft ρ S H (when_ _ _) _ _ from z)
      simp only [Bool.and_eq_true, decide_eq_true_eq] at e
      obtain ⟨rfl, rfl⟩ := e
      obtain ⟨a0, ha0⟩ : ∃ a, ρ[ti]? = some a := by
        have h1 := (List.getElem?_eq_some_iff.mp hS).1
        have h2 : ti < ρ.length := by rw [ok.len]; exact h1
        exact ⟨_, List.getElem?_eq_getElem h2⟩
      obtain ⟨e0, ps, hP, hT, hC⟩ := ok.cell ti a0 _ ha0 hS
      subst e0
      have hfree := L.has I.ok
      refine PySem.W.callWith_K (h₀ := X.base) I.ok.mod.kin hk ?_ (by rfl) (by rfl)
      show wpAny _ _ (spliced ((false, eval (.Lambda params body scope lpos) X.env) :: backTo pos (starEach [] X.env))) _ _ s
      refine Calls.spliced_cons (lam_new (q := q1) I TB hcode hP ⟨hT, fun pos cv y => ?_⟩ hq hdef hfree fun f c2 pm ctv H2 s2 ps2 I2 keep hP2 hT2 hC2 hfo hfn hfr hcd2 => ?_)
      · obtain ⟨d1, e1, e2, _⟩ := hC pos cv y
        exact ⟨d1, e1, e2⟩
      refine Calls.spliced_nil ⟨I2.kIn, ?_⟩
      obtain ⟨ok2, xt2⟩ := ok_tabI ok hS hP keep hP2 hT2 hC2
      have eo2 := eo.mono xt2
      have z3 : ∃ r, same (fun f c => F ⟨f, c, q1, fun S' => fa (keepE cs 0 env) S'⟩ [.fn f c q1] S) = .ok r := by
        cases hz : same (fun f c => F ⟨f, c, q1, fun S' => fa (keepE cs 0 env) S'⟩ [.fn f c q1] S) with
        | ok r => exact ⟨r, rfl⟩
        | ex e S1 => rw [hz] at z2; exact z2.elim
        | no => rw [hz] at z2; exact z2.elim
      obtain ⟨r0, hz⟩ := z3
      rw [hz] at z2
      let fp : Fp := ⟨f, (keepE cs 0 env).map toDc, σ⟩
      have hz2 := same_inv hz fp c2
      rw [hF] at hz2
      have z4 : Aft ρ S H2 (fnOf fin 1 slots (b ⟨fp, c2, q1, fun S' => fa (keepE cs 0 env) S'⟩) [.fn fp c2 q1] S) (fun p => p.2) (fun p ρ' H' => ∀ v, DOk X.K ρ' p.2 H' v p.1 → Q v H') := by
        rw [hz2]
        exact Aft.from xt2 z2
      have hcp : CapOk ρ S H2 fp := fun j d hd => by
        have hd : ((keepE cs 0 env).map toDc)[j]? = some (some d) := hd
        rw [List.getElem?_map] at hd
        obtain ⟨od, h1, h2⟩ := Option.map_eq_some_iff.mp hd
        cases od with
        | none => cases h2
        | some dd =>
          obtain ⟨w, q1, q2⟩ := eo2.slot j _ (keepE_at cs 0 env j _ h1)
          cases dd with
          | p u => cases h2; exact ⟨w, q1, q2⟩
          | ref i => cases h2; exact ⟨w, q1, q2⟩
          | _ => cases h2
      have dd : DsOk X.K ρ S H2 [.ref f] [.fn fp c2 q1] := .cons ⟨rfl, hcd2, code_dead ok2 I2.hok hcd2, hcp⟩ .nil
      obtain ⟨oc, od, dV, kV, doc, pm2, an, cdv, ct, osl, rfl, lk, hcode2, _, _⟩ := FD.ex
      have rc : codeAny (model X.prog X.w) X.A (.call (.ref g) ⟨[.ref f], []⟩) (CR CX0 X.stack X.prog X.w H2 s2 Q E0) s2 := by
        refine LamX.run_ofS (N := N) (ps := [a]) (us := [.ref f]) (vs := [.ref f]) lk hcode2 Sc (hr.room.mono (Nat.le_refl _)) I2.env0 (hB s2 [.ref f] I2.kIn rfl) (.cons rfl .nil) rfl fun _ => ?_
        have rm := hr.deeper (envOfC x (defScope st) s2.heap.objs.size g cdv)
        have Gz : Gd (cxOf CX0 X.prog X.w X.K X.mg X.base N x (defScope st) g cdv X.A X.stack s2 H2 E0).nox := ⟨rfl, by
          have := rm.room.un
          show (X.A.deeper (envOfC x (defScope st) s2.heap.objs.size g cdv)).units + 2000 < cLine
          simp only [MARGIN] at this
          omega, rm.gs, Sc.nd⟩
        refine ⟨_, PSs.nox (hbd ⟨fp, c2, q1, fun S' => fa (keepE cs 0 env) S'⟩ cdv X.A X.stack s2 H2 rm Gz fun W pn xe p1 p2 tk => ?_), tsm_start fin_ok dd hsl ok2 z4⟩
        exact act_ok (Eg := E0) I2 eo2 hcap2 G.nd hq L hfo hfn hfr hbind (hr2.deeper (envOfC x (defScope st) s2.heap.objs.size g cdv)) hbody hN hv hd hcd tk
      refine wpAny_call (codeAny_mono rc fun r s3 hq3 => ?_)
      cases r with
      | error e => exact False.elim hq3
      | ok fl =>
        cases fl with
        | ret u => exact I2.after hq3
        | next => exact False.elim hq3
        | brk => exact False.elim hq3
        | cont => exact False.elim hq3
    | _ => exact z.elim
end
end Mi
end
section
namespace Mi
open PySem PySem.Spec PyProof.Rows L2
end Mi
end
section
namespace Mi
open PySem PySem.Spec PyProof.Rows L2
def tAds (tl : List (Addr × Addr × Str)) : List Addr := tl.map fun t => t.2.1
def tCells (tl : List (Addr × Addr × Str)) : Store := tl.map fun t => .tab t.2.1 t.2.2
theorem law_callGTs {P : Program} {w : World} {K : PySem.W.Frag} {mg mb : Str → Option Value} {k : Nat} {fa a : Addr} {x nm : Str} {fn : Fn} {s1 : Shared} {vs : List Value} {ns : List Int} (tl : List (Addr × Addr × Str))
    (KX : K.In s1.heap) (hns : s1.heap.Ns mainGlobals mg) (hb : s1.heap.Ns builtinsNs mb) (hbb : ∀ x : Str, x ≠ "__name__" → mb x = bootBuiltins x) (hlim : s1.heap.NoLimit) (hg : s1.gens = #[])
    (hT : ∀ t ∈ tl, s1.heap.get? t.2.1 = some { cls := .none, data := .fields #[] }) (nT : ∀ t ∈ tl, K.lookup t.2.1 = none) (hC : ∀ t ∈ tl, PySem.W.codeHdIn K t.1 t.2.1 = true) (hnd : (tAds tl).Nodup)
    (hbm : ∃ (bm : Addr) (ob : Obj), mg "__builtins__" = some (.ref bm) ∧ bm ≠ builtinsNs ∧ s1.heap.get? bm = some ob ∧ ob.cls = .type "module" ∧ ob.dict = some builtinsNs ∧ ob.data = .plain)
    (ha : s1.heap.get? a = some { cls := .type "list", data := .seq vs.toArray }) (hi : IntsAre vs ns) (hl : ns.length ≤ sizeLine) (hr : Rm k callerA)
    (hmg : mg nm = some (.ref fa)) (F : ∀ base : Heap, K.In base → base.Ns mainGlobals mg → (∀ t ∈ tl, LamX.TabB base mg t.1 t.2.1) → KnD P w K mg base k nm 1 [x] fn) (hlaw : fn [.scr ns] (tCells tl) = .ok (.p (.bool true), tCells tl)) :
    codeAny (model P w) callerA (.call (.ref fa) ⟨[.ref a], []⟩) (fun r s' => r = .ok (.ret (.bool true)) ∧ OldK s1.heap s'.heap ∧ s'.os = s1.os ∧ AllBare s'.gens) s1 := by
  have rv := vals_ints hi
  have lenV := hi.length
  have mem : ∀ {b : Addr}, b ∈ tAds tl → ∃ t ∈ tl, t.2.1 = b := fun {b} h => List.mem_map.mp h
  have hTa : ∀ {b : Addr}, b ∈ tAds tl → s1.heap.get? b = some { cls := .none, data := .fields #[] } := fun {b} h => by
    obtain ⟨t, h1, h2⟩ := mem h
    rw [← h2]
    exact hT t h1
  have naT : a ∉ tAds tl := fun z => by
    rw [hTa z] at ha
    have z2 := congrArg Obj.data (Option.some.inj ha)
    cases z2
  have core : ∀ H : Hp, (∀ b ∈ tAds tl, H b = some (.tbl #[])) → (∀ b, b ∉ tAds tl → H b = none ∨ ∃ o xs, H b = some (.frz o (.lst xs))) → Scr K H a ns → HOk P w H s1.heap → (∀ b, H b ≠ none → b = a ∨ b ∈ tAds tl) → (H a ≠ none → K.lookup a = none) →
      codeAny (model P w) callerA (.call (.ref fa) ⟨[.ref a], []⟩) (fun r s' => r = .ok (.ret (.bool true)) ∧ OldK s1.heap s'.heap ∧ s'.os = s1.os ∧ AllBare s'.gens) s1 := fun H hHT hO hS hok hA hK => by
    have free : ∀ {b : Addr} {o : Obj}, s1.heap.get? b = some o → (∀ z ep, o.data ≠ .seq z ep) → o.data ≠ .fields #[] → H b = none := fun {b o} e d1 d2 => by
      cases hH : H b with
      | none => rfl
      | some u =>
        rcases hA b (by rw [hH]; simp) with z | z
        · rw [z, ha] at e
          cases e
          exact absurd rfl (d1 _ _)
        · rw [hTa z] at e
          cases e
          exact absurd rfl d2
    have nsB : ∀ {b : Addr} {m : Str → Option Value}, s1.heap.Ns b m → (hidT s1.heap H).Ns b m := fun {b m} z => by
      obtain ⟨o, es, ep, e, d, r⟩ := z
      exact ⟨o, es, ep, hidT_get e (free e (fun z ep' y => by rw [d] at y; cases y) fun y => by rw [d] at y; cases y), d, r⟩
    have hKb : K.In (hidT s1.heap H) := fun b o e => hidT_get (KX b o e) (by
      cases hH : H b with
      | none => rfl
      | some u =>
        rcases hA b (by rw [hH]; simp) with z | z
        · subst z
          rw [hK (by rw [hH]; simp)] at e
          cases e
        · obtain ⟨t, h1, h2⟩ := mem z
          rw [← h2, nT t h1] at e
          cases e)
    have hM : L2.Mod K mg (hidT s1.heap H) := ⟨hKb, nsB hns, ⟨mb, nsB hb, hbb⟩, by
      obtain ⟨mc, h1, h2⟩ := hlim
      exact ⟨mc, nsB h1, h2⟩⟩
    have gT : mainGlobals ∉ tAds tl := fun z => by
      obtain ⟨o, es, ep, e, d, _⟩ := hns
      rw [hTa z] at e
      cases e
      cases d
    have TB : ∀ t ∈ tl, LamX.TabB (hidT s1.heap H) mg t.1 t.2.1 := fun t ht => by
      have hin : t.2.1 ∈ tAds tl := List.mem_map.mpr ⟨t, ht, rfl⟩
      obtain ⟨bm, ob, b1, b2, b3, b4, b5, b6⟩ := hbm
      have nG : bm ≠ mainGlobals := fun z => by
        obtain ⟨o, es, ep, e, d, _⟩ := hns
        rw [z, e] at b3
        cases b3
        rw [d] at b6
        cases b6
      have nB : bm ≠ t.2.1 := fun z => by
        rw [z, hT t ht] at b3
        cases b3
        cases b6
      exact NdefX.tabB_of_K hKb (hC t ht) ⟨bm, ob, b1, b2, nG, nB, hidT_get b3 (free b3 (fun y ep z => by rw [b6] at z; cases z) fun z => by rw [b6] at z; cases z), b4, b5, b6⟩ fun z => gT (z ▸ hin)
    have e0 : Env0 P w K mg (hidT s1.heap H) callerA [] s1 H := ⟨rfl, hM, fun b o e => of_hidT e, Nat.le_of_eq (hidT_size _ _), trivial, (fun b hb => by cases hb), hok, .of_eq hg⟩
    have ok0 : Ok (tAds tl) (tCells tl) H := by
      refine ⟨by simp [tAds, tCells], hnd, fun i b d h1 h2 => ?_, fun i x t h1 h2 => by
        unfold tCells at h2
        rw [List.getElem?_map] at h2
        obtain ⟨_, _, e2⟩ := Option.map_eq_some_iff.mp h2
        cases e2⟩
      unfold tAds at h1
      unfold tCells at h2
      rw [List.getElem?_map] at h1 h2
      obtain ⟨t, e1, e2⟩ := Option.map_eq_some_iff.mp h1
      rw [e1] at h2
      cases h2
      subst e2
      exact ⟨rfl, #[], hHT _ (List.mem_map.mpr ⟨t, List.mem_of_getElem? e1, rfl⟩), True.intro, fun pos cv z => by
        have z : codeAmong pos [] = some cv := z
        simp [codeAmong] at z⟩
    obtain ⟨f, fd, ef, _, hbind, _, F⟩ := (F _ hKb (nsB hns) TB).ex
    have ef := hmg.symm.trans ef
    cases ef
    refine codeAny_mono (F.run callerA [] s1 H ⟨[.ref a], []⟩ [.ref a] [.ref a] (fun v _ => v = .bl true) (tAds tl) (tCells tl) [.scr ns] hr e0 (hbind s1 [.ref a] KX rfl) (.cons rfl .nil) (.cons ⟨a, rfl, hS⟩ .nil) ok0 rfl ?_) fun r s' h => ?_
    · rw [hlaw]
      intro ρ' H' _ _ v dv
      cases dv
      rfl
    · cases r with
      | error e => exact h.elim
      | ok fl =>
        cases fl with
        | next => exact h.elim
        | brk => exact h.elim
        | cont => exact h.elim
        | ret u =>
          obtain ⟨v, H', hos, bare, un, hok', r', hv⟩ := h
          have hv : v = .bl true := hv
          subst hv
          obtain rfl : u = Value.bool true := r'
          have old : ∀ b o, b ∉ tAds tl → s1.heap.get? b = some o → s'.heap.get? b = some o := fun b o nb e => by
            rcases hO b nb with z | ⟨ob, xs, z⟩
            · exact un.keep b o e z (fun z => by cases z) (by simp)
            · obtain ⟨e1, _⟩ := hok b _ z
              obtain ⟨e2, _⟩ := hok' b _ (un.frzs b ob _ z)
              rw [e] at e1
              cases e1
              exact e2
          refine ⟨rfl, ⟨fun b o e => ?_, fun b o e => ?_⟩, hos, bare⟩
          · by_cases hb : b ∈ tAds tl
            · obtain ⟨t, h1, h2⟩ := mem hb
              obtain ⟨more, hm⟩ := un.tbls b #[] (hHT b hb)
              have hm := hok' b _ hm
              rw [hTa hb] at e
              cases e
              subst h2
              exact .inr (.inl ⟨((PySem.W.codeHd_of_K KX (hC t h1)).tab (hT t h1)).isCodeTable, rfl, #[], more, rfl, by
                rw [Array.empty_append]
                rw [Array.empty_append] at hm
                exact hm⟩)
            · exact .inl (old b o hb e)
          · by_cases hb : b ∈ tAds tl
            · obtain ⟨more, hm⟩ := un.tbls b #[] (hHT b hb)
              exact ⟨_, hok' b _ hm⟩
            · exact ⟨o, old b o hb e⟩
  cases hk : K.lookup a with
  | some o =>
    have e := KX a o hk
    rw [ha] at e
    cases e
    refine core (fun b => if b ∈ tAds tl then some (.tbl #[]) else none) (fun b hb => if_pos hb) (fun b nb => .inl (if_neg nb)) (.inr fun H' => .inr ⟨_, vs.toArray, _, hk, rfl, rfl, rfl, by rw [List.size_toArray, lenV]; exact hl, by simpa using rv⟩) (fun b u z => ?_) (fun b z => ?_) fun z => absurd (if_neg naT) z
    · by_cases hb : b ∈ tAds tl
      · have z := (if_pos hb).symm.trans z
        cases z
        exact hTa hb
      · have z := (if_neg hb).symm.trans z
        cases z
    · by_cases hb : b ∈ tAds tl
      · exact .inr hb
      · exact absurd (if_neg hb) z
  | none =>
    refine core (fun b => if b = a then some (.frz { cls := .type "list", data := .seq vs.toArray } (.lst (ns.map V.int))) else if b ∈ tAds tl then some (.tbl #[]) else none) (fun b hb => (if_neg fun z : b = a => naT (z ▸ hb)).trans (if_pos hb)) (fun b nb => ?_)
      (.inl ⟨{ cls := .type "list", data := .seq vs.toArray }, if_pos rfl⟩) (fun b u z => ?_) (fun b z => ?_) fun _ => hk
    · by_cases hb : b = a
      · exact .inr ⟨_, _, if_pos hb⟩
      · exact .inl ((if_neg hb).trans (if_neg nb))
    · by_cases hb : b = a
      · have z := (if_pos hb).symm.trans z
        cases z
        subst hb
        exact ⟨ha, by rw [List.length_map]; exact hl, vs, _, rv, ha⟩
      · have z := (if_neg hb).symm.trans z
        by_cases hb2 : b ∈ tAds tl
        · have z := (if_pos hb2).symm.trans z
          cases z
          exact hTa hb2
        · have z := (if_neg hb2).symm.trans z
          cases z
    · by_cases hb : b = a
      · exact .inl hb
      · by_cases hb2 : b ∈ tAds tl
        · exact .inr hb2
        · exact absurd ((if_neg hb).trans (if_neg hb2)) z
theorem walk_ofGTs {l : PySem.W.OpenLaw} {n k : Nat} {q : Program} {loose : List Str} {XP : (Str → Option Value) → Heap → Prop} {YP : World → Heap → Prop} {d : DefRec} {x : Str} {qs : List Str} {fn : (Nat → Nat) → Fn}
    (hn : l.most = some n) (hn2 : n ≤ sizeLine) (hdf : d.params.defaults = []) (hr : Rm k callerA)
    (F : ∀ (w : World) (mg : Str → Option Value) (fa : Addr) (h : Heap), YP w h → h.Ns mainGlobals mg → mg d.name = some (.ref fa) →
      ∃ (K : PySem.W.Frag) (tl : List (Addr × Addr × Str)), K.In h ∧ tl.map (fun t => t.2.2) = qs ∧ (∀ t ∈ tl, h.get? t.2.1 = some { cls := .none, data := .fields #[] }) ∧ (∀ t ∈ tl, K.lookup t.2.1 = none) ∧ (∀ t ∈ tl, PySem.W.codeHdIn K t.1 t.2.1 = true) ∧ (tAds tl).Nodup ∧
        ∀ base : Heap, K.In base → base.Ns mainGlobals mg → (∀ t ∈ tl, LamX.TabB base mg t.1 t.2.1) → KnD l.prog w K mg base k d.name 1 [x] (fn fun i => (tAds tl).getD i 0))
    (hlaw : ∀ (T : Nat → Nat) (ns : List Int), ns.length ≤ n → fn T [.scr ns] (qs.zipIdx.map fun p => .tab (T p.2) p.1) = .ok (.p (.bool true), qs.zipIdx.map fun p => .tab (T p.2) p.1)) : PySem.W.WalkO q loose XP YP l.row.toRowW d [] (fun f vs => PySem.call f vs) := by
  refine Att.attach_call hn hdf fun w s₀ s₁ mg mb fa o pm cd doc a vs ns G Y ho hd hcd hmg hobj hints hlen hg => ?_
  obtain ⟨K, tl, KX, hqs, hT, nT, hC, hnd, hF⟩ := F w mg fa _ Y G.T.g hmg
  have hcells : tCells tl = qs.zipIdx.map fun p => .tab ((tAds tl).getD p.2 0) p.1 := by
    subst hqs
    unfold tCells
    refine List.ext_getElem (by simp) fun i h1 h2 => ?_
    simp only [List.getElem_map, List.getElem_zipIdx]
    have h3 : i < (tAds tl).length := by simpa [tAds] using h1
    rw [List.getD_eq_getElem?_getD, Nat.zero_add, List.getElem?_eq_getElem h3]
    simp [tAds]
  have hl := hlaw (fun i => (tAds tl).getD i 0) ns hlen
  rw [← hcells] at hl
  exact law_callGTs tl KX G.T.g G.T.b G.T.builtins G.T.nolimit hg hT nT hC hnd G.T.bmain hobj hints (Nat.le_trans hlen hn2) hr hmg hF hl
end Mi
end
section
namespace Mi
open PySem PySem.Spec PyProof.Rows L2
def asY (g : Addr → Option Obj) (n : Nat) : List Addr := He.asD g n ++ [cStatics, sysModules]
def obsY (n : Nat) (fa : List He.Fa) (fn : List He.DefD) (tf : List He.Defn) (ex : PySem.W.Frag → Bool) (g : Addr → Option Obj) : He.AlX := (He.obsT fa fn [] (He.frT g (asY g n)), ex (He.frT g (asY g n)) && He.tabsB g tf (He.frT g (asY g n)))
theorem saysY_of {n : Nat} {fa : List He.Fa} {fn : List He.DefD} {tf : List He.Defn} {ex : PySem.W.Frag → Bool} {w : World} {h : Heap} (e : obsY n fa fn tf ex h.get? = He.valX fn [] w) : He.SaysX fa fn [] tf ex w h (He.frT h.get? (asY h.get? n)) := by
  generalize hK : He.frT h.get? (asY h.get? n) = K at *
  have e1 : He.obsT fa fn [] K = He.valT fn [] w := by rw [← hK]; exact congrArg (fun z : He.AlX => z.1) e
  have e2 : (ex K && He.tabsB h.get? tf K) = true := by rw [← hK]; exact congrArg (fun z : He.AlX => z.2) e
  rw [Bool.and_eq_true] at e2
  obtain ⟨h1, h2⟩ := e2
  have key : ∀ p ∈ tf, PySem.W.codeHdIn K (He.cT K p).1 (He.cT K p).2 = true ∧ ∃ o, h.get? (He.cT K p).2 = some o ∧ He.emptyTab o = true := fun p hp => by
    have z := List.all_eq_true.mp h2 p hp
    rw [Bool.and_eq_true] at z
    refine ⟨z.1, ?_⟩
    cases q : h.get? (He.cT K p).2 with
    | none =>
      have z2 := z.2
      rw [q] at z2
      cases z2
    | some o =>
      have z2 := z.2
      rw [q] at z2
      exact ⟨o, rfl, z2⟩
  refine ⟨e1, h1, fun p hp => (key p hp).1, fun p hp => ?_, fun p hp => ?_⟩
  · obtain ⟨_, o, q, z⟩ := key p hp
    have z2 := He.frT_none (as := asY h.get? n) q z
    rw [hK] at z2
    exact z2
  · obtain ⟨_, o, q, z⟩ := key p hp
    rw [q, He.emptyTab_eq z]
def hookY (n : Nat) (fa : List He.Fa) (fn : List He.DefD) (tf : List He.Defn) (ex : PySem.W.Frag → Bool) : PySem.W.Hook where
  α := He.AlX
  obs := fun s => obsY n fa fn tf ex s.heap.get?
  val := fun w => He.valX fn [] w
  says := fun w h => ∃ K : PySem.W.Frag, K.In h ∧ He.SaysX fa fn [] tf ex w h K
  of := fun _ _ e => ⟨_, He.frT_in, saysY_of e⟩
  keeps := fun _ _ _ ⟨K, hK, c⟩ kp => ⟨K, PySem.W.Frag.In.keeps hK kp, ⟨c.t, c.more, c.hd, c.out, fun p hp => kp _ _ (c.empty p hp)⟩⟩
theorem obsY_eq {n : Nat} {fa : List He.Fa} {fn : List He.DefD} {tf : List He.Defn} {ex : PySem.W.Frag → Bool} {g : Addr → Option Obj} {s : Shared} (h : ∀ a, g a = s.heap.get? a) : obsY n fa fn tf ex g = (hookY n fa fn tf ex).obs s := by
  have e : g = s.heap.get? := funext h
  subst e
  rfl
end Mi
end
section
namespace Mi
open PySem PySem.Spec PyProof.Rows L2
theorem gd_nox {X : Cx} (G : Gd X) : Gd X.nox := ⟨G.calm, G.hu, G.gs, G.nd⟩
section
variable {X : Cx} {E : XK}
end
def clsM (st : Stmt) (j : Nat) : Stmt := match st with
  | .ClassDef _ _ _ b _ _ _ _ _ _ _ => b.getD j (.Pass ⟨0, 0, 0, 0⟩)
  | _ => .Pass ⟨0, 0, 0, 0⟩
theorem all_at {l : List Bool} (h : l.all id = true) (i : Nat) {b : Bool} (e : l[i]? = some b) : b = true := List.all_eq_true.mp h b (List.mem_of_getElem? e)
structure IniC (P : Program) (w : World) (K : PySem.W.Frag) (mg : Str → Option Value) (base : Heap) (c n : Str) : Prop where
  ex : ∃ fd, FnOk P w K mg base (L2.CX P w) 1 (He.ma K (He.ga K c) "__init__") fd ["self", n] (spI K n) ∧ Binds K fd ["self", n] []
theorem s_raiseI {X : Cx} {E : XK} {e : Expr} {fa : Ex} {pos p pos' : Pos} {c n : Str} (I : IniC X.prog X.w X.K X.mg X.base c n) (T : ErrC X.K X.mg c) (nf : PySem.W.findIn X.K (.ref (He.ga X.K c)) n = some none) (G : Gd X) (tk : L2.Takes X fun cls d _ H => E cls d H) (hr : Rm 2 X.A) (hg : Gl X c) (he : PE X e (TX X.K fa)) (hdb : (c == ("__debug__" : Str)) = false := by decide)
    (hs : starEach [e] X.env = (false, eval e X.env) :: starEach [] X.env := by rfl) : PS X (.Raise (some (.Call (.Name c p) [e] [] pos)) none pos') (TSx X.K E (sRaise1 c n fa)) := by
  obtain ⟨fd, F, hb⟩ := I.ex
  exact sx_raise1 G tk T nf F hb hr hg he hdb hs
end Mi
namespace Mi
open PySem PySem.Spec PyProof.Rows L2
def kitB (K : PySem.W.Frag) (tb : List (Str × Bool)) (C : Value) : Bool := tb.all fun p => errQB K (He.ga K p.1) && decide (PySem.W.kitOne K (.ref (He.ga K p.1)) C = some p.2)
theorem lookup_mem {tb : List (Str × Bool)} {z : Str} {b : Bool} (h : tb.lookup z = some b) : (z, b) ∈ tb := by
  induction tb with
  | nil => cases h
  | cons p r ih =>
    obtain ⟨y, c⟩ := p
    rw [List.lookup_cons] at h
    by_cases e : z == y
    · rw [e] at h
      cases h
      rw [beq_iff_eq.mp e]
      exact List.mem_cons_self
    · rw [Bool.not_eq_true] at e
      rw [e] at h
      exact List.mem_cons_of_mem _ (ih h)
theorem kitB_ok {K : PySem.W.Frag} {tb : List (Str × Bool)} {C : Value} (h : kitB K tb C = true) : ∀ z b, tb.lookup z = some b → ErrQ K (He.ga K z) ∧ PySem.W.kitOne K (.ref (He.ga K z)) C = some b := fun z b e => by
  have := List.all_eq_true.mp h (z, b) (lookup_mem e)
  rw [Bool.and_eq_true, decide_eq_true_eq] at this
  exact ⟨errQB_ok this.1, this.2⟩
def exmB (K : PySem.W.Frag) (cs : List Str) (b : Str) : Bool := cs.all fun z => decide (PySem.W.exmOne K (.ref (He.ga K z)) (.ref (He.ga K b)) = some true)
theorem exmB_ok {K : PySem.W.Frag} {cs : List Str} {b : Str} (h : exmB K cs b = true) : ∀ z ∈ cs, PySem.W.exmOne K (.ref (He.ga K z)) (.ref (He.ga K b)) = some true := fun z hz => of_decide_eq_true (List.all_eq_true.mp h z hz)
def fldB (K : PySem.W.Frag) (cs : List Str) (n : Str) : Bool := cs.all fun z => errQB K (He.ga K z) && decide (PySem.W.findIn K (.ref (He.ga K z)) n = some none)
theorem fldB_ok {K : PySem.W.Frag} {cs : List Str} {n : Str} (h : fldB K cs n = true) : ∀ z ∈ cs, ErrQ K (He.ga K z) ∧ PySem.W.findIn K (.ref (He.ga K z)) n = some none := fun z hz => by
  have := List.all_eq_true.mp h z hz
  rw [Bool.and_eq_true, decide_eq_true_eq] at this
  exact ⟨errQB_ok this.1, this.2⟩
def nfB (K : PySem.W.Frag) (c n : Str) : Bool := decide (PySem.W.findIn K (.ref (He.ga K c)) n = some none)
def tabB (K : PySem.W.Frag) (tf : List He.Defn) : Bool := decide ((tf.map fun p => (He.cT K p).2).Nodup)
end Mi
namespace Mi
open PySem PySem.Spec PyProof.Rows L2
def TbA (base : Heap) (mg : Str → Option Value) (K : PySem.W.Frag) (ds : List Str) (T : Nat → Nat) : Prop := ∀ i d, ds[i]? = some d → LamX.TabB base mg (He.codeOf K (d, none)) (T i)
def tlOf (K : PySem.W.Frag) (ds : List (Str × Str)) : List (Addr × Addr × Str) := ds.map fun p => ((He.cT K (p.1, none)).1, (He.cT K (p.1, none)).2, p.2)
def tfOf (ds : List (Str × Str)) : List He.Defn := ds.map fun p => (p.1, none)
theorem tl_ok {fa : List He.Fa} {fns : List He.DefD} {ds : List (Str × Str)} {ex : PySem.W.Frag → Bool} {w : World} {h : Heap} {K : PySem.W.Frag} (c : He.SaysX fa fns [] (tfOf ds) ex w h K) (hn : tabB K (tfOf ds) = true) :
    (tlOf K ds).map (fun t => t.2.2) = ds.map (·.2) ∧ (∀ t ∈ tlOf K ds, h.get? t.2.1 = some { cls := .none, data := .fields #[] }) ∧ (∀ t ∈ tlOf K ds, K.lookup t.2.1 = none) ∧ (∀ t ∈ tlOf K ds, PySem.W.codeHdIn K t.1 t.2.1 = true) ∧ (tAds (tlOf K ds)).Nodup := by
  have key : ∀ t ∈ tlOf K ds, ∃ p ∈ tfOf ds, t.1 = (He.cT K p).1 ∧ t.2.1 = (He.cT K p).2 := fun t ht => by
    obtain ⟨p, hp, rfl⟩ := List.mem_map.mp ht
    exact ⟨(p.1, none), List.mem_map.mpr ⟨p, hp, rfl⟩, rfl, rfl⟩
  refine ⟨by simp [tlOf, List.map_map, Function.comp_def], fun t ht => ?_, fun t ht => ?_, fun t ht => ?_, ?_⟩
  · obtain ⟨p, hp, e1, e2⟩ := key t ht
    rw [e2]
    exact c.empty p hp
  · obtain ⟨p, hp, e1, e2⟩ := key t ht
    rw [e2]
    exact c.out p hp
  · obtain ⟨p, hp, e1, e2⟩ := key t ht
    rw [e1, e2]
    exact c.hd p hp
  · have := of_decide_eq_true hn
    unfold tAds tlOf
    unfold tfOf at this
    rw [List.map_map] at this ⊢
    exact this
theorem tbA_of {base : Heap} {mg : Str → Option Value} {K : PySem.W.Frag} {ds : List (Str × Str)} (h : ∀ t ∈ tlOf K ds, LamX.TabB base mg t.1 t.2.1) : TbA base mg K (ds.map (·.1)) fun i => (tAds (tlOf K ds)).getD i 0 := fun i d e => by
  rw [List.getElem?_map] at e
  obtain ⟨p, e1, e2⟩ := Option.map_eq_some_iff.mp e
  have h1 := h _ (List.mem_map.mpr ⟨p, List.mem_of_getElem? e1, rfl⟩)
  have h2 : (tAds (tlOf K ds)).getD i 0 = (He.cT K (p.1, none)).2 := by
    unfold tAds tlOf
    rw [List.getD_eq_getElem?_getD, List.getElem?_map, List.getElem?_map, e1]
    rfl
  subst e2
  show LamX.TabB base mg _ ((tAds (tlOf K ds)).getD i 0)
  rw [h2]
  exact h1
end Mi
end
section
namespace Mi
open PySem PySem.Spec PyProof.Rows L2
def splitE (a : Str) (S : Store) (fe : Store → R (D × Store)) : R (D × Store) := bd (fe S) fun y S2 => match y with
  | .p (.str b) => when_ (!(b.length == 0) && decide (a.length ≤ 1000000)) (.ok (.p (.list ((Txt.split a b).map .str)), S2))
  | _ => .no
def mSplit (fo fe : Ex) : Ex := fun σ S => bd (fo σ S) fun x S1 => match x with
  | .p (.str a) => splitE a S1 fun S => fe σ S
  | _ => .no
def joinK (a : Str) (y : D) (S2 : Store) : R (D × Store) := bx (dv S2 y) fun u => bx (orNo ((items? u).bind strs?)) fun ys => when_ (decide ((ys.map (·.length)).sum + ys.length * a.length ≤ 16777216)) (.ok (.p (.str (Txt.join a ys)), S2))
def mJoin (fo fe : Ex) : Ex := fun σ S => bd (fo σ S) fun x S1 => match x with
  | .p (.str a) => bd (fe σ S1) (joinK a)
  | _ => .no
theorem isL_split {fo fe : Ex} (σ : Env) (S : Store) (p : D × Store) (h : mSplit fo fe σ S = .ok p) : ∃ xs, p.1 = .p (.list xs) := by
  obtain ⟨x, S1, _, h⟩ := bd_inv h
  split at h
  · obtain ⟨y, S2, _, h⟩ := bd_inv h
    split at h
    · obtain ⟨_, h⟩ := when_ok h
      cases h
      exact ⟨_, rfl⟩
    · cases h
  · cases h
section
variable {X : Cx} {o e : Expr} {fo fe : Ex} {apos pos : Pos}
theorem pds_strs {L : Addr → Prop} {H : Hp} (ys : List Str) : Pds L H (ys.map V.str) (ys.map .str) := by
  induction ys with
  | nil => exact .nil
  | cons y ys ih => exact .cons (.str y) ih
theorem n_split (ho : PE X o (TX X.K fo)) (he : PE X e (TX X.K fe)) (hs : starEach [e] X.env = [(false, eval e X.env)] := by rfl) (hbase : attributeBase o "split" X.env (eval o X.env) = eval o X.env := by rfl) (hline : (apos.endLine == pos.line) = true := by rfl) :
    PE X (.Call (.Attribute o "split" apos) [e] [] pos) (TN X.K (mSplit fo fe)) := PE.up (pe_split ho he hs hbase hline) fun σ H Q ⟨ρ, env, S, eo, ok, q⟩ => by
  refine ⟨ρ, env, S, eo, ok, (Aft.bd q).mono fun p ρ1 H1 e1 o1 q1 v1 d1 => ?_⟩
  obtain ⟨d, S1⟩ := p
  cases d with
  | p d =>
    cases d with
    | str a =>
      cases d1 with
      | str a =>
        refine ⟨⟨a, rfl⟩, ρ1, env, S1, eo.mono e1, o1, (Aft.bd q1).mono fun p2 ρ2 H2 e2 o2 q2 v2 d2 => ?_⟩
        obtain ⟨y, S2⟩ := p2
        cases y with
        | p y =>
          cases y with
          | str b =>
            cases d2 with
            | str b =>
              obtain ⟨hc, q3⟩ := Aft.when q2
              rw [Bool.and_eq_true, Bool.not_eq_true', decide_eq_true_eq] at hc
              refine ⟨a, b, rfl, rfl, hc.1, by have := hc.2; unfold sizeLine; omega, fun l hl => ?_⟩
              obtain ⟨xs, ex, q4⟩ := Aft.here q3 rfl o2
              cases ex
              exact q4 l _ hl (pds_strs _)
          | _ => exact q2.elim
        | _ => exact q2.elim
    | _ => exact q1.elim
  | _ => exact q1.elim
end
end Mi
end
section
namespace Mi
open PySem PySem.Spec PyProof.Rows L2
def pCutA (x : PyData) (lo hi : Option Int) : R PyData := match x with
  | .str z => when_ (decide (z.length ≤ sizeLine)) (.ok (.str (cutS z lo hi)))
  | x => pCut x lo hi
def mCutA (a : Ex) (lo hi : Po) : Ex := fun σ S => bd (a σ S) fun x S1 => bd (lo σ S1) fun l S2 => bd (hi σ S2) fun h S3 => bx (dv S3 x) fun u => bx (pCutA u l h) fun z => .ok (.p z, S3)
section
variable {X : Cx} {e : Expr} {fa : Ex} {p2 pos : Pos}
end
end Mi
end
section
namespace Mi
open PySem
end Mi
end
section
namespace Mi
open PySem PySem.Spec PyProof.Rows
section
variable {prog : Program} {w : World} {A : Around} {R : Result → Shared → Prop} {E : Value → Shared → Prop} {I : Addr} {fp wr : List Addr} {n : Nat} {St : Nat → Heap → Prop}
def pre (arr : Nat → Array Value) : Nat → Array Value
  | 0 => #[]
  | i + 1 => pre arr i ++ arr i
end
end Mi
end
section
namespace Mi
open PySem PySem.Spec PyProof.Rows L2
structure KnF (P : Program) (w : World) (K : PySem.W.Frag) (mg : Str → Option Value) (base : Heap) (k : Nat) (x : Str) (np : Nat) (ps : List Str) (fn : Fn) (st : Stmt) : Prop where
  ex : ∃ (f : Addr) (fd : FuncData), mg x = some (.ref f) ∧ PySem.W.keepIn K (.ref f) = true ∧ FunD K x x (defArgs st) (defBody st) (defScope st) [] [] f fd ∧ FnG P w K mg base k f fd np ps fn
  ar : Ar np fn
section
variable {X : Cx} {pos p : Pos} {e e2 : Expr} {es : List Expr} {fs : As} {fa fb : Ex} {x id : Str} {np k : Nat} {ps ks : List Str} {fn : Fn} {kws : List Keyword} {st : Stmt}
end
section
variable {X : Cx} {pos p : Pos} {e e2 : Expr} {fa fb : Ex} {x : Str} {id : String}
end
end Mi
end
section
namespace Mi
open PySem PySem.Spec PyProof.Rows L2
def tLenSetI (K : PySem.W.Frag) (ta : TE) : TE := fun σ H Q => ta σ H fun x H1 => ∃ (l : Addr) (ns : List Int), x = .ref l ∧ SqT K H1 l (ns.map V.int) ∧ ns.length ≤ 1000 ∧ Q (.int (dd ns).length) H1
section
variable {X : Cx} {a : Expr} {ta : TE} {fa : Ex} {p p2 q pos : Pos}
theorem pe_lenSetI (hc : X.calm = true) (hg : Gl X "len") (hm : X.mg "len" = none) (hg2 : Gl X "set") (hm2 : X.mg "set" = none) (ha : PE X a ta)
    (na : starEach [a] X.env = (false, eval a X.env) :: starEach [] X.env := by rfl) : PE X (.Call (.Name "len" p) [.Call (.Name "set" p2) [a] [] q] [] pos) (tLenSetI X.K ta) := by
  refine ⟨fun pins s σ H Q I h => ?_⟩
  refine Call_ (ld_blt I hg hm boot_len ?_)
  refine PyProof.Rows.callWith_builtin1 (PyProof.Rows.args_cons ?_ rfl) rfl rfl
  refine Call_ (ld_blt I hg2 hm2 boot_set ?_)
  refine PyProof.Rows.callWith_type1 (PyProof.Rows.args_cons (thn (ha.run pins s σ H _ I h) fun v s1 ⟨x, H1, I1, r1, q1⟩ => PyProof.Rows.args_nil ?_) na) na rfl
  obtain ⟨l, ns, rfl, hq, h1, q1⟩ := q1
  cases r1
  obtain ⟨its, rv, pt, hz⟩ := I1.tuple hq
  have hi : IntsAre its.toArray.toList ns := ints_of_vals rv
  refine call_set_tupI ns (I1.ok.hd hc) (show s1.heap.IsTuple l its.toArray from pt) hi (by unfold scanBound; omega) fun h' tk c R1 hcn k => ?_
  obtain ⟨o, es, ep, t, ho, hex, hdt, g, nd, hm2, hb, hf, hn, hr, hl2⟩ := R1
  refine PyProof.Rows.args_nil ?_
  have I2 : Inv X pins σ H1 { s1 with heap := h', toks := tk } := I1.kept k
  have hlen : es.size = (dd ns).length := by
    have := dd_len (xs := ns) nd fun x => by
      rw [← hm2 x, decide_eq_true_eq]
    rw [List.length_map, Array.length_toList] at this
    exact this
  refine call_len_set ho hex hdt hf (by rw [hn]; omega) ⟨.int (dd ns).length, H1, I2.tok _, ⟨_, by rw [hlen]⟩, q1⟩
theorem tX_setLen {K : PySem.W.Frag} {σ : L2.St} {H : Hp} {Q : VK} (h : TX K (mSetLen fa) σ H Q) : TX K fa σ H fun x H1 => ∃ (l : Addr) (ns : List Int), x = .ref l ∧ SqT K H1 l (ns.map V.int) ∧ ns.length ≤ 1000 ∧ Q (.int (dd ns).length) H1 := by
  obtain ⟨ρ, env, S, eo, ok, q⟩ := h
  refine ⟨ρ, env, S, eo, ok, (Aft.bd q).mono fun p ρ1 H1 e1 o1 q1 v dv => ?_⟩
  obtain ⟨u, hu, q2⟩ := Aft.bx q1
  cases u with
  | tuple xs =>
    obtain ⟨ns, hns, q3⟩ := Aft.bx q2
    obtain ⟨hc, q4⟩ := Aft.when q3
    have hc := of_decide_eq_true hc
    have hns := orNo_inv hns
    obtain ⟨l, vs, rfl, h1, h2⟩ := (o1.dv dv hu).tup
    have e := h2.ints hns
    subst e
    exact ⟨l, ns, rfl, h1.sq, hc, (Aft.here q4 rfl o1) _ (.int _)⟩
  | _ => exact q2.elim
theorem x_lenSet (G : Gd X) (hg : Gl X "len") (hm : X.mg "len" = none) (hg2 : Gl X "set") (hm2 : X.mg "set" = none) (ha : PE X a (TX X.K fa))
    (na : starEach [a] X.env = (false, eval a X.env) :: starEach [] X.env := by rfl) : PE X (.Call (.Name "len" p) [.Call (.Name "set" p2) [a] [] q] [] pos) (TX X.K (mSetLen fa)) :=
  PE.up (pe_lenSetI G.calm hg hm hg2 hm2 ha na) fun σ H Q h => tX_setLen h
end
end Mi
end
section
namespace Mi
open PySem PySem.Spec PyProof.Rows L2
section
variable {X : Cx} {a : Expr} {ta : TE} {fa : Ex} {p p2 q pos : Pos}
end
end Mi
end
section
namespace Mi
open PySem PySem.Spec PyProof.Rows L2
def mSetLenA (a : Ex) : Ex := fun σ S => bd (a σ S) fun x S1 => bx (dv S1 x) fun u => bx (orNo ((items? u).bind ints?)) fun ns => when_ (decide (ns.length ≤ 1000)) (.ok (.p (.int (dd ns).length), S1))
theorem firstMet_nd (val : Nat → Int) : ∀ i, (firstMet val i).Nodup
  | 0 => by rw [firstMet_zero]; exact List.nodup_nil
  | i + 1 => by
    have ih := firstMet_nd val i
    rw [firstMet_succ]
    unfold step_dedup
    split
    · exact ih
    · rename_i h
      rw [List.nodup_append]
      refine ⟨ih, by simp, fun a ha b hb => ?_⟩
      rw [List.mem_singleton] at hb
      intro e
      exact h (List.any_eq_true.mpr ⟨a, ha, by rw [e, hb]; exact beq_self_eq_true _⟩)
theorem firstMet_dd (ns : List Int) : (firstMet (fun i => ns.getD i 0) ns.length).length = (dd ns).length := by
  have e : (List.range ns.length).map (fun i => ns.getD i 0) = ns := by
    apply List.ext_getElem
    · simp
    · intro i h1 h2
      rw [List.getElem_map, List.getElem_range, List.getD_eq_getElem?_getD, List.getElem?_eq_getElem h2]
      rfl
  refine dd_len (firstMet_nd _ _) fun x => ?_
  have h := firstMet_any (fun i => ns.getD i 0) ns.length x
  rw [e] at h
  have q : ∀ l : List Int, l.any (· == x) = true ↔ x ∈ l := fun l => by simp [List.any_eq_true]
  rw [← q, h, q]
def tLenSetN (K : PySem.W.Frag) (ta : TE) : TE := fun σ H Q => ta σ H fun x H1 => ∃ (l : Addr) (ns : List Int), x = .ref l ∧ (SqL K H1 l (ns.map V.int) ∨ SqT K H1 l (ns.map V.int)) ∧ ns.length ≤ 1000 ∧ Q (.int (dd ns).length) H1
section
variable {X : Cx} {a : Expr} {ta : TE} {fa : Ex} {p p2 q pos : Pos}
theorem pe_lenSetN (hc : X.calm = true) (hg : Gl X "len") (hm : X.mg "len" = none) (hg2 : Gl X "set") (hm2 : X.mg "set" = none) (ha : PE X a ta)
    (na : starEach [a] X.env = (false, eval a X.env) :: starEach [] X.env := by rfl) : PE X (.Call (.Name "len" p) [.Call (.Name "set" p2) [a] [] q] [] pos) (tLenSetN X.K ta) := by
  refine ⟨fun pins s σ H Q I h => ?_⟩
  refine Call_ (ld_blt I hg hm boot_len ?_)
  refine PyProof.Rows.callWith_builtin1 (PyProof.Rows.args_cons ?_ rfl) rfl rfl
  refine Call_ (ld_blt I hg2 hm2 boot_set ?_)
  refine PyProof.Rows.callWith_type1 (PyProof.Rows.args_cons (thn (ha.run pins s σ H _ I h) fun v s1 ⟨x, H1, I1, r1, q1⟩ => PyProof.Rows.args_nil ?_) na) na rfl
  obtain ⟨l, ns, rfl, hq, h1, q1⟩ := q1
  cases r1
  rcases hq with hq | hq
  · obtain ⟨its, rv, pt, hz⟩ := I1.list hq
    have hi : IntsAre its.toArray.toList ns := ints_of_vals rv
    have hsz : its.toArray.size = ns.length := by
      have q := IntsAre.length hi
      rw [Array.length_toList] at q
      exact q
    refine call_set_list (I1.ok.hd hc) pt.isList hi (by rw [hsz]; unfold scanBound; omega) fun h' tk R1 k => ?_
    obtain ⟨o, es, ep, t, ho, hex, hdt, g, hm2, hb, hf, hn⟩ := R1
    refine PyProof.Rows.args_nil ?_
    have I2 : Inv X pins σ H1 { s1 with heap := h', toks := tk } := I1.kept fun b u e => k b u (Heap.lt_size e) e
    have hlen : es.size = (dd ns).length := by
      rw [hn, hsz]
      exact firstMet_dd ns
    refine call_len_set ho hex hdt hf (by rw [hn, hsz]; have := firstMet_length_le (fun i => ns.getD i 0) ns.length; omega) ⟨.int (dd ns).length, H1, I2.tok _, ⟨_, by rw [hlen]⟩, q1⟩
  · obtain ⟨its, rv, pt, hz⟩ := I1.tuple hq
    have hi : IntsAre its.toArray.toList ns := ints_of_vals rv
    refine call_set_tupI ns (I1.ok.hd hc) (show s1.heap.IsTuple l its.toArray from pt) hi (by unfold scanBound; omega) fun h' tk c R1 hcn k => ?_
    obtain ⟨o, es, ep, t, ho, hex, hdt, g, nd, hm2, hb, hf, hn, hr, hl2⟩ := R1
    refine PyProof.Rows.args_nil ?_
    have I2 : Inv X pins σ H1 { s1 with heap := h', toks := tk } := I1.kept k
    have hlen : es.size = (dd ns).length := by
      have := dd_len (xs := ns) nd fun x => by
        rw [← hm2 x, decide_eq_true_eq]
      rw [List.length_map, Array.length_toList] at this
      exact this
    refine call_len_set ho hex hdt hf (by rw [hn]; omega) ⟨.int (dd ns).length, H1, I2.tok _, ⟨_, by rw [hlen]⟩, q1⟩
theorem x_lenSetN (G : Gd X) (hg : Gl X "len") (hm : X.mg "len" = none) (hg2 : Gl X "set") (hm2 : X.mg "set" = none) (ha : PE X a (TX X.K fa))
    (na : starEach [a] X.env = (false, eval a X.env) :: starEach [] X.env := by rfl) : PE X (.Call (.Name "len" p) [.Call (.Name "set" p2) [a] [] q] [] pos) (TX X.K (mSetLenA fa)) :=
  PE.up (pe_lenSetN G.calm hg hm hg2 hm2 ha na) fun σ H Q h => by
    obtain ⟨ρ, env, S, eo, ok, q⟩ := h
    refine ⟨ρ, env, S, eo, ok, (Aft.bd q).mono fun p ρ1 H1 e1 o1 q1 v dv => ?_⟩
    obtain ⟨u, hu, q2⟩ := Aft.bx q1
    obtain ⟨ns, hns, q3⟩ := Aft.orNo q2
    obtain ⟨hc, q4⟩ := Aft.when q3
    have hc := of_decide_eq_true hc
    obtain ⟨ds, hds, hi⟩ := Option.bind_eq_some_iff.mp hns
    cases u with
    | list xs =>
      cases hds
      obtain ⟨l, vs, rfl, h1, h2⟩ := (o1.dv dv hu).list
      have e := h2.ints hi
      subst e
      exact ⟨l, ns, rfl, .inl (SqL.of h1), hc, (Aft.here q4 rfl o1) _ (.int _)⟩
    | tuple xs =>
      cases hds
      obtain ⟨l, vs, rfl, h1, h2⟩ := (o1.dv dv hu).tup
      have e := h2.ints hi
      subst e
      exact ⟨l, ns, rfl, .inr h1.sq, hc, (Aft.here q4 rfl o1) _ (.int _)⟩
    | _ => cases hds
end
end Mi
end
section
namespace Mi.L
open PySem Mi
noncomputable section
def b_number_in : Sm := sSeq (sAsg 2 (mComp [3] (iR1 (mV 1)) (gN 3) tYes (mO1 pStr (mV 3))))
        (sRet (mIf (tE (mIn (mV 0) (mV 2))) (mIndex (mV 2) (mV 0)) (mC .none)))
def f_number_in : Fn := fnOf fin 2 4 b_number_in
def b_are_unlike : Sm := sRet (mO2 pEq (mSetLenA (mV 0)) (mLen (mV 0)))
def f_are_unlike : Fn := fnOf fin 1 1 b_are_unlike
def bx_read_layout : Sm := sSeq (sIfX (tOr (Mi.tNot (tE (mO1 (pIsa "str") (mV 0)))) (tE (mIn (mC (.str "\n")) (mV 0)))) (sRaise1 "BadText" "line" (mC (.int 0))) (sPass))
        (sSeq (sLift (sAsg 1 (mComp [2] (iE (mSplit (mV 0) (mC (.str " ")))) (gN 2) tYes (mIf (tE (mO2 pEq (mV 2) (mC (.str "-")))) (mC (.int (-1))) (mCall Mi.L.f_number_in (aCons (mV 2) (aCons (mC (.int 16)) aNil)))))))
        (sSeq (sIfX (tOr (tE (mO2 pGt (mLen (mV 1)) (mC (.int 16)))) (tOr (tE (mIn (mC .none) (mV 1))) (Mi.tNot (tE (mCall Mi.L.f_are_unlike (aCons (mComp [3] (iE (mV 1)) (gN 3) (tE (mO2 pNe (mV 3) (mC (.int (-1))))) (mV 3)) aNil)))))) (sRaise1 "BadText" "line" (mC (.int 0))) (sPass))
        (sLift (sRet (mO1 pTuple (mV 1))))))
def fx_read_layout : Fn := fnOf fin 1 4 bx_read_layout
def b_numbers_in : Sm := sSeq (sAsg 2 (mO1 pTuple (mComp [3] (iE (mV 0)) (gN 3) tYes (mCall Mi.L.f_number_in (aCons (mV 3) (aCons (mV 1) aNil))))))
        (sRet (mIf (tE (mNotIn (mC .none) (mV 2))) (mV 2) (mC .none)))
def f_numbers_in : Fn := fnOf fin 2 4 b_numbers_in
def bx_read_history : Sm := sSeq (sIfX (tOr (Mi.tNot (tE (mO1 (pIsa "str") (mV 0)))) (tE (mIn (mC (.str "\n")) (mV 0)))) (sRaise1 "BadText" "line" (mC (.int 0))) (sPass))
        (sSeq (sLift (sAsg 1 (mIf (tE (mO2 pEq (mV 0) (mC (.str "-")))) (mTup aNil) (mCall Mi.L.f_numbers_in (aCons (mSplit (mV 0) (mC (.str " "))) (aCons (mC (.int 16)) aNil))))))
        (sSeq (sIfX (tOr (tE (mIsN (mV 1))) (Mi.tNot (tE (mCall Mi.L.f_are_unlike (aCons (mV 1) aNil))))) (sRaise1 "BadText" "line" (mC (.int 0))) (sPass))
        (sLift (sRet (mV 1)))))
def fx_read_history : Fn := fnOf fin 1 2 bx_read_history
def b_l_caught (cl : Cl) : Sm := sSeq (sUnp (gT [gN 1, gN 2]) (mTup (aCons (mC .none) (aCons (mC .none) aNil))))
        (sSeq (sTry ["BadText", "BadLine"] (some 2) 3 1 (mAct cl 0))
        (sSeq (sIf (tE (mIsN (mV 1))) (sRet (mTup (aCons (mC (.str "told")) (aCons (mV 2) aNil)))) (sPass))
        (sSeq (sAsg 4 (mOr (mO1 pNot (mIsX [("BadText", true), ("BadLine", false)] (mV 1))) (mIsX [("BadText", false), ("BadLine", true)] (mV 1))))
        (sRet (mIf (tE (mV 4)) (mTup (aCons (mC (.str "line")) (aCons (mC (.str "other")) aNil))) (mTup (aCons (mC (.str "line")) (aCons (mFld ["BadText", "BadLine"] "line" (mV 1)) aNil))))))))
def f_l_caught (cl : Cl) : Fn := fnOf fin 1 5 (b_l_caught cl)
end
end Mi.L
end
section
namespace Mi
open PySem PySem.Spec PyProof.Rows L2
section
variable {prog : Program} {w : World} {A : Around} {E : Value → Shared → Prop} {s : Shared}
end
section
variable {X : Cx} {e : Expr} {fa : Ex} {p1 p2 p3 pos : Pos}
end
end Mi
end
section
namespace Mi
open PySem PySem.Spec PyProof.Rows L2
def odds {α : Type} : List α → List α
  | _ :: b :: r => b :: odds r
  | _ => []
theorem odds_range {α : Type} : ∀ l : List α, (List.range (l.length / 2)).filterMap (fun k => l[1 + 2 * k]?) = odds l
  | [] => by simp [odds]
  | [a] => by simp [odds]
  | a :: b :: r => by
    have e : (a :: b :: r).length / 2 = r.length / 2 + 1 := by simp only [List.length_cons]; omega
    rw [e, List.range_succ_eq_map, List.filterMap_cons, List.filterMap_map, odds, ← odds_range r]
    show b :: _ = _
    congr 1
theorem odds_len {α : Type} : ∀ l : List α, (odds l).length ≤ l.length
  | [] => Nat.le_refl _
  | [_] => Nat.zero_le _
  | a :: b :: r => by
    have := odds_len r
    simp only [odds, List.length_cons]
    omega
theorem pick_odds (vs : List Value) : slicePick vs.toArray (some 1) none (some 2) = (odds vs).toArray := by
  have hb : sliceBounds (some 1) none (some 2) vs.toArray.size = (((min 1 vs.length : Nat) : Int), ((vs.length : Nat) : Int), 2) := by
    simp only [sliceBounds, Option.getD_some, show (2 : Int) > 0 by decide, if_true, if_neg (show ¬ ((1 : Int) < 0) by decide), List.size_toArray]
    congr 1
    omega
  have hr : sliceRange ((min 1 vs.length : Nat) : Int) ((vs.length : Nat) : Int) 2 = (List.range (vs.length / 2)).map fun k => 1 + 2 * k := by
    unfold sliceRange
    simp only [show (2 : Int) > 0 by decide, if_true]
    by_cases h : 2 ≤ vs.length
    · have e : (((vs.length : Nat) : Int) - ((min 1 vs.length : Nat) : Int) + 2 - 1) / 2 = ((vs.length / 2 : Nat) : Int) := by omega
      rw [if_pos (by omega), e, Int.toNat_natCast]
      apply List.map_congr_left
      intro k hk
      omega
    · rw [if_neg (by omega), show vs.length / 2 = 0 by omega]
      rfl
  unfold slicePick
  rw [hb]
  simp only []
  rw [hr, List.filterMap_map, ← odds_range]
  congr 1
  have e : ((fun x => vs.toArray[x]?) ∘ fun k => 1 + 2 * k) = fun k => vs[1 + 2 * k]? := funext fun k => by simp
  show List.filterMap ((fun x => vs.toArray[x]?) ∘ fun k => 1 + 2 * k) _ = _
  rw [e]
def pOdds : PyData → R PyData
  | .list xs => .ok (.list (odds xs))
  | _ => .no
theorem Vals.odds : ∀ {xs : List V} {us : List Value}, Vals xs us → Vals (Mi.odds xs) (Mi.odds us)
  | _, _, .nil => .nil
  | _, _, .cons _ .nil => .nil
  | _, _, .cons _ (.cons b r) => .cons b (Vals.odds r)
theorem Pds.odds {L : Addr → Prop} {H : Hp} : ∀ {xs : List V} {us : List PyData}, Pds L H xs us → Pds L H (Mi.odds xs) (Mi.odds us)
  | _, _, .nil => .nil
  | _, _, .cons _ .nil => .nil
  | _, _, .cons _ (.cons b r) => .cons b (Pds.odds r)
section
variable {X : Cx} {e : Expr} {fa : Ex} {p1 p2 p3 pos : Pos}
def tXo (te : TE) : TE := fun σ H Q => te σ H fun x H1 => ∃ (ρ : List Addr) (S : Store) (u z : PyData), Ok ρ S H1 ∧ Dv (Live ρ S) H1 x u ∧ pOdds u = .ok z ∧ ∀ H' w, Xt ρ S H1 ρ S H' → Ok ρ S H' → Pd (Live ρ S) H' w z → Q w H'
theorem e_odds {k k2 : Nat} {te : TE} (he : PE X e te) : PE X (.Subscript e (.Slice (some (.Constant (.int 1) k p1)) none (some (.Constant (.int 2) k2 p2)) p3) pos) (tXo te) := by
  refine ⟨fun pins s σ H Q I h => ?_⟩
  refine Subscript_ (thn (he.run pins s σ H _ I h) fun v s1 ⟨x, H1, I1, r1, q1⟩ => ?_)
  obtain ⟨ρ, S, u, z, ok, du, hz, q⟩ := q1
  have hlo : PO X (some (.Constant (.int 1) k p1)) (tPart (tC (.int 1))) := po_some pe_int
  have hst : PO X (some (.Constant (.int 2) k2 p2)) (tPart (tC (.int 2))) := po_some pe_int
  refine wpAny_Slice (thn (hlo.run pins s1 σ H1 (fun o H2 => o = some 1 ∧ H2 = H1) I1 ⟨1, rfl, rfl, rfl⟩) fun vl s2 ⟨l, H2, I2, pl, el, e2⟩ => ?_)
  subst el e2
  refine thn (po_none.run pins s2 σ H2 (fun o H3 => o = none ∧ H3 = H2) I2 ⟨rfl, rfl⟩) fun vu s3 ⟨u', H3, I3, pu, eu, e3⟩ => ?_
  subst eu e3
  refine thn (hst.run pins s3 σ H3 (fun o H4 => o = some 2 ∧ H4 = H3) I3 ⟨2, rfl, rfl, rfl⟩) fun vs s4 ⟨o, H4, I4, ps, eo, e4⟩ => ?_
  subst eo e4
  have I5 : Inv X pins σ H4 { s4 with heap := s4.heap.push { cls := .type "slice", data := .fields #[vl, vu, vs] } } := I4.kept (t' := s4.toks) fun b ob q => Heap.get?_push_of_some _ q
  cases u with
  | list ds =>
    cases hz
    obtain ⟨a, ws, rfl, h1, h2⟩ := du.list
    cases r1
    obtain ⟨its, r, ht, hz⟩ := I5.list (SqL.of h1)
    have hlen := r.length
    show wpAny (model X.prog X.w) X.A (subscriptTail e (.Slice (some (.Constant (.int 1) k p1)) none (some (.Constant (.int 2) k2 p2)) p3) (.ref a) (.ref s4.heap.objs.size)) (EP X pins σ Q) X.xe { s4 with heap := s4.heap.push { cls := .type "slice", data := .fields #[vl, vu, vs] } }
    refine tail_any (ops := [.ref a, .ref s4.heap.objs.size]) ht.isList.typeIs (PySem.slot_list_getitem.lookup) ?_ (by with_unfolding_all rfl)
    refine wpAny_getItem_list_slice ht.isList (Heap.IsSliceOf.new _ vl vu vs) pl pu ps (by decide) ?_ (by rw [List.size_toArray]; omega)
    rw [pick_odds]
    refine ⟨.ref _, _, I5.laid (t' := s4.toks) (o := .lst (odds ws)) (fun b ob q => Heap.get?_push_of_some _ q) (Nat.le_refl _) ?_, rfl, lst_data ok (I5.hok.fresh (Nat.le_refl _)) (Pds.odds h2) q⟩
    exact ⟨by have := odds_len ws; omega, _, 0, Vals.odds r, Heap.get?_push_size _ rfl⟩
  | _ => cases hz
theorem x_odds {k k2 : Nat} (he : PE X e (TX X.K fa)) : PE X (.Subscript e (.Slice (some (.Constant (.int 1) k p1)) none (some (.Constant (.int 2) k2 p2)) p3) pos) (TX X.K (mO1 pOdds fa)) := PE.up (e_odds he) fun σ H Q ⟨ρ, env, S, eo, ok, q⟩ => by
  refine ⟨ρ, env, S, eo, ok, (Aft.bd q).mono fun p1 ρ1 H1 e1 o1 q1 v dv => ?_⟩
  obtain ⟨u, hu, q4⟩ := Aft.bx q1
  obtain ⟨z, hz, q5⟩ := Aft.bx q4
  exact ⟨ρ1, p1.2, u, z, o1, o1.dv dv hu, hz, fun H' w' e' o' r' => (Aft.at q5 e' o') w' r'⟩
end
end Mi
end
section
namespace Mi
open PySem PySem.Spec PyProof.Rows L2
def tgX (t : Tg) : Tg := fun x σ => nox (t x σ)
noncomputable def sForXT (src : Is) (tg : Tg) (body : Sm) : Sm := fun σ S => bd (nox (src σ S)) fun s S1 => forL (tgX tg) s.g body s.items σ S1
section
variable {X : Cx} {E : XK}
theorem sx_forT (G : Gd X) {iter tg : Expr} {body : List Stmt} {pos : Pos} {st : Bool} {is : List Nat} {src : Is} {t : Tg} {fb : Sm} (hp : PassesOwn (model X.prog X.w) X.A X.env X.xe) (hi : PI X tg iter (TIs X.K st src)) (hg : PG X tg (TTg X.K st is t)) (hb : PSs X body (TSx X.K E fb))
    (hs : ∀ x, foldedSetIterable iter X.env x = pure x := by intro _; rfl) : PS X (.For tg iter body [] pos) (TSx X.K E (sForXT src t fb)) := PS.up (ps_for hp G.calm hi hg hb hs) fun D' σ H ⟨ρ, env, S, eo, ok, q⟩ => by
  refine ⟨ρ, env, S, eo, ok, (AftX.bdn q).mono fun p ρ1 H1 e1 o1 q1 J GG wk hG => ?_⟩
  obtain ⟨⟨items, g⟩, S1⟩ := p
  let W : Nat → Nat → L2.St → Hp → Prop := fun i m σ' H' => m = items.length - i ∧ i ≤ items.length ∧ ∃ ρ' env' S', EnvOk X.K ρ' S' H' env' σ' ∧ Ok ρ' S' H' ∧ GG ρ' S' H' ∧
    AftX X.K E ρ' S' H' (forL (tgX t) g fb (items.drop i) env' S') (fun p => p.2.2) fun p ρ'' H'' => FlOk X.K D' ρ'' p.2.2 H'' p.2.1 p.1
  refine ⟨W, ⟨items.length, by omega, Nat.zero_le _, ρ1, env, S1, eo.mono e1, o1, hG, q1⟩, ?_⟩
  rintro i m σ' H' ⟨rfl, hi, ρ', env', S', eo', ok', hG', q'⟩
  by_cases hlt : i < items.length
  · rw [drop_cons hlt] at q'
    obtain ⟨hst, q2⟩ := AftX.when q'
    obtain ⟨env2, ht, q3⟩ := AftX.bx (r := t items[i] env') q2
    refine .inr ⟨wk.goes i ρ' S' H' hlt ok' hG' hst, W (i + 1) (items.length - (i + 1)), fun σ2 H2 w => ⟨_, by omega, w⟩, fun x H2 y => ?_⟩
    obtain ⟨xt, o2, rl⟩ := wk.yld i ρ' S' H' x H2 items[i] (List.getElem?_eq_getElem hlt) ok' hG' hst y
    refine ⟨ρ', env', S', items[i], env2, eo'.mono xt, o2, rl, ht, fun σ2 eo2 _ => ?_⟩
    refine ⟨ρ', env2, S', eo2, o2, (AftX.bs (q3.from xt)).mono fun p ρ3 H3 e3 o3 q4 => ?_⟩
    obtain ⟨f, env3, S3⟩ := p
    have hG3 := wk.mono _ _ _ _ _ _ hG' (xt.trans e3)
    cases f with
    | nx => exact fun σ3 eo3 => ⟨rfl, hlt, ρ3, env3, S3, eo3, o3, hG3, q4⟩
    | ct => exact fun σ3 eo3 => ⟨rfl, hlt, ρ3, env3, S3, eo3, o3, hG3, q4⟩
    | bk => exact fun σ3 eo3 => (AftX.here q4 rfl o3) σ3 eo3
    | rt d => exact fun v dv => (AftX.here q4 rfl o3) v dv
  · have e : i = items.length := by omega
    subst e
    rw [List.drop_length] at q'
    obtain ⟨hst, q2⟩ := AftX.when q'
    exact .inl ⟨wk.stops ρ' S' H' ok' hG' hst, (AftX.here q2 rfl ok') σ' eo'⟩
end
end Mi
end
section
namespace Mi.L
open PySem Mi
noncomputable section
def bx_lines_of : Sm := sSeq (sIfX (Mi.tNot (tE (mO1 (pIsa "str") (mV 0)))) (sRaise1 "BadText" "line" (mC (.int 0))) (sPass))
        (sLift (sRet (mSplit (mV 0) (mC (.str "\n")))))
def fx_lines_of : Fn := fnOf fin 1 1 bx_lines_of
def b_sizes_in : Sm := sSeq (sAsg 1 (mSplit (mV 0) (mC (.str " "))))
        (sSeq (sIf (tOr (tE (mO2 pNe (mLen (mV 1)) (mC (.int 4)))) (tOr (tE (mO2 pNe (mIx (mV 1) (mC (.int 0))) (mC (.str "keys")))) (tE (mO2 pNe (mIx (mV 1) (mC (.int 2))) (mC (.str "slots")))))) (sRet (mC .none)) (sPass))
        (sSeq (sAsg 2 (mCall Mi.L.f_numbers_in (aCons (mO1 pOdds (mV 1)) (aCons (mO2 pAdd (mC (.int 16)) (mC (.int 1))) aNil))))
        (sRet (mIf (tAnd (tE (mNotN (mV 2))) (tE (mNotIn (mC (.int 0)) (mV 2)))) (mV 2) (mC .none)))))
def f_sizes_in : Fn := fnOf fin 1 3 b_sizes_in
def b_is_probe_order : Sm := sSeq (sIf (tOr (Mi.tNot (tE (mO1 (pIsa "tuple") (mV 1)))) (tE (mO2 pNe (mLen (mV 1)) (mV 0)))) (sRet (mC (.bool false))) (sPass))
        (sRet (mAnd (mO1 pAll (mComp [2] (iE (mV 1)) (gN 2) tYes (mCall Mi.fIsInteger (aCons (mV 2) (aCons (mC (.int 0)) (aCons (mO2 pSub (mV 0) (mC (.int 1))) aNil)))))) (mO2 pEq (mSetLen (mV 1)) (mV 0))))
def f_is_probe_order : Fn := fnOf fin 2 3 b_is_probe_order
def b_probe_in : Sm := sSeq (sAsg 2 (mSplit (mV 0) (mC (.str " "))))
        (sSeq (sAsg 3 (mCall Mi.L.f_numbers_in (aCons (mCut (mV 2) (oE (mC (.int 1))) oNo) (aCons (mV 1) aNil))))
        (sRet (mIf (tAnd (tE (mO2 pEq (mIx (mV 2) (mC (.int 0))) (mC (.str "probe")))) (tAnd (tE (mNotN (mV 3))) (tE (mCall Mi.L.f_is_probe_order (aCons (mV 1) (aCons (mV 3) aNil)))))) (mV 3) (mC .none))))
def f_probe_in : Fn := fnOf fin 2 4 b_probe_in
def b_beaten_in : Sm := sRet (mIf (tE (mO2 pEq (mV 0) (mC (.str "-")))) (mTup aNil) (mCall Mi.L.f_numbers_in (aCons (mSplit (mV 0) (mC (.str ","))) (aCons (mV 1) aNil))))
def f_beaten_in : Fn := fnOf fin 2 2 b_beaten_in
def b_table_in : Sm := sSeq (sAsg 2 (mSplit (mV 0) (mC (.str " "))))
        (sSeq (sAsg 3 (mO1 pTuple (mComp [4] (iE (mCut (mV 2) (oE (mC (.int 1))) oNo)) (gN 4) tYes (mCall Mi.L.f_beaten_in (aCons (mV 4) (aCons (mV 1) aNil))))))
        (sRet (mIf (tAnd (tE (mO2 pEq (mIx (mV 2) (mC (.int 0))) (mC (.str "beats")))) (tAnd (tE (mNotIn (mC .none) (mV 3))) (tE (mCall Mi.fIsTable (aCons (mV 3) (aCons (mV 1) aNil)))))) (mV 3) (mC .none))))
def f_table_in : Fn := fnOf fin 2 5 b_table_in
def bx_read_setting : Sm := sSeq (sAsg 1 (mCallX Mi.L.fx_lines_of (aCons (mV 0) aNil)))
        (sSeq (sLift (sAsg 2 (mCall Mi.L.f_sizes_in (aCons (mIx (mV 1) (mC (.int 0))) aNil))))
        (sSeq (sIfX (tE (mIsN (mV 2))) (sRaise1 "BadText" "line" (mC (.int 0))) (sPass))
        (sSeq (sLift (sUnp (gT [gN 3, gN 4]) (mV 2)))
        (sSeq (sLift (sAsg 5 (mNew (mLst aNil))))
        (sSeq (sForXT (iEnum (mCut (mV 1) (oE (mC (.int 1))) oNo)) (gT [gN 6, gN 7]) (sSeq (sLift (sAsg 8 (mIf (tE (mO2 pLt (mV 6) (mV 3))) (mCall Mi.L.f_probe_in (aCons (mV 7) (aCons (mV 4) aNil))) (mCall Mi.L.f_table_in (aCons (mV 7) (aCons (mV 3) aNil))))))
        (sSeq (sIfX (tOr (tE (mIsN (mV 8))) (tE (mO2 pGe (mV 6) (mO2 pAdd (mV 3) (mV 4))))) (sRaise1 "BadText" "line" (mO2 pAdd (mV 6) (mC (.int 1)))) (sPass))
        (sLift (sDrop (mAppend (mV 5) (mV 8)))))))
        (sSeq (sIfX (tE (mO2 pLt (mLen (mV 5)) (mO2 pAdd (mV 3) (mV 4)))) (sRaise1 "BadText" "line" (mLen (mV 1))) (sPass))
        (sLift (sRet (mTup (aCons (mO1 pTuple (mCut (mV 5) oNo (oE (mV 3)))) (aCons (mO1 pTuple (mCut (mV 5) (oE (mV 3)) oNo)) aNil)))))))))))
def fx_read_setting : Fn := fnOf fin 1 9 bx_read_setting
end
end Mi.L
end
section
namespace Mi
open PySem PySem.Spec PyProof.Rows L2
section
variable {X : Cx} {pos : Pos}
theorem x_dict0 : PE X (.Dict [] [] pos) (TX X.K (mC (.dict []))) := PE.up pe_dnewK fun σ H Q ⟨ρ, env, S, eo, ok, q⟩ => by
  intro p hp
  exact (Aft.at q (Xt.new hp) (ok.new hp)) _ (.dct upd_same (Live.ne ok hp))
end
end Mi
end
section
namespace Mi
open PySem PySem.Spec PyProof.Rows L2
section
variable {X : Cx} {a : Expr} {ta : TE} {fa : Ex} {p p2 q pos : Pos}
end
end Mi
end
section
namespace Mi
open PySem PySem.Spec PyProof.Rows L2
section
variable {X : Cx} {pins : List (Addr × Obj)} {σ : L2.St} {H : Hp} {s : Shared} {L : Addr → Prop}
def SmK (K : PySem.W.Frag) : Prop := (K.lookup sysModules).isSome = true
theorem inv_sm (hs : SmK X.K) (I : L2.Inv X pins σ H s) : H sysModules = none := by
  obtain ⟨o, ho⟩ := Option.isSome_iff_exists.mp hs
  exact (I.bs _ _ (I.mod.kin _ _ ho)).2
theorem ne_sm (hs : SmK X.K) (I : L2.Inv X pins σ H s) {a : Addr} {o : HO} (h : H a = some o) : sysModules ≠ a := fun e => by
  subst e
  rw [inv_sm hs I] at h
  cases h
theorem ints_reads {h : Heap} : ∀ {k : List Int} {us : List Value} {as : List Addr}, ReadsAll h us (k.map .int) as → as = []
  | [], _, _, r => by cases r; rfl
  | n :: k, _, _, r => by
    cases r with
    | cons r1 r2 =>
      cases r1
      rw [ints_reads r2]
      rfl
theorem key_readsM (I : L2.Inv X pins σ H s) {b : Addr} {k : List Int} (t : TupAt H b (k.map V.int)) : Reads s.heap (.ref b) (.tuple (k.map .int)) [] := by
  obtain ⟨as, r⟩ := key_reads I t
  cases r with
  | tuple h1 h2 h3 h4 =>
    have := ints_reads h4
    subst this
    exact Reads.tuple h1 h2 h3 h4
theorem keyIs_readsM {h : Heap} {k : Key} {v : Value} (e : keyIs k v = true) : Reads h v (keyD k) [] := by
  rcases keyIs_shape e with ⟨i, t, rfl, rfl⟩ | ⟨x, t, rfl, rfl⟩
  · exact .int i t
  · exact .str x t
theorem nm_cons {a : Addr} {as : List Addr} (h1 : sysModules ≠ a) (h2 : sysModules ∉ as) : sysModules ∉ a :: as := fun h => by
  rcases List.mem_cons.mp h with h | h
  · exact h1 h
  · exact h2 h
theorem nm_app {as bs : List Addr} (h1 : sysModules ∉ as) (h2 : sysModules ∉ bs) : sysModules ∉ as ++ bs := fun h => by
  rcases List.mem_append.mp h with h | h
  · exact h1 h
  · exact h2 h
mutual
theorem Pd.readsM (hk : SmK X.K) (I : L2.Inv X pins σ H s) : ∀ (d : PyData) (v : V) (u : Value), Pd L H v d → RelV v u → ∃ as, Reads s.heap u d as ∧ sysModules ∉ as
  | .none, _, _, .non, r => by
    cases r
    exact ⟨_, Reads.none, List.not_mem_nil⟩
  | .bool b, _, _, .bl _, r => by
    cases r
    exact ⟨_, Reads.bool b, List.not_mem_nil⟩
  | .int i, _, _, .int _, r => by
    obtain ⟨t, rfl⟩ := r
    exact ⟨_, Reads.int i t, List.not_mem_nil⟩
  | .str x, _, _, .str _, r => by
    obtain ⟨t, rfl⟩ := r
    exact ⟨_, Reads.str x t, List.not_mem_nil⟩
  | .list ds, _, _, .lst hs _ ha, r => by
    cases r
    obtain ⟨its, rv, ⟨o, n, ho, hc, _, hd⟩, _⟩ := I.list (SqL.of (K := X.K) hs)
    obtain ⟨as, hr, hm⟩ := Pds.readsM hk I ds _ its ha rv
    exact ⟨_, Reads.list ho hc hd hr, nm_cons (ne_sm hk I hs) hm⟩
  | .tuple ds, _, _, .tup hs ha, r => by
    cases r
    obtain ⟨its, rv, ⟨o, ho, hc, n, hd⟩, _⟩ := I.tuple (hs.sq (K := X.K))
    obtain ⟨as, hr, hm⟩ := Pds.readsM hk I ds _ its ha rv
    exact ⟨_, Reads.tuple ho hc hd hr, hm⟩
  | .dict [], _, _, .dct h _, r => by
    cases r
    obtain ⟨h1, h2⟩ := dk0_reads I (.inl h)
    exact ⟨_, h2, nm_cons h1.symm List.not_mem_nil⟩
  | .dict kvs, _, _, .dk h _ ha _, r => by
    cases r
    obtain ⟨_, hd, vs, rel, o, es, ep, h1, h2, h3, h4, h5, h6⟩ := dk_rd I.hok (.inl h)
    obtain ⟨bs, r1, r2, hm⟩ := Kvp.readsM hk I kvs _ ha vs es.toList rel h5
    exact ⟨_, Reads.dict h1 h2.1 h3 r1 r2, nm_cons (ne_of_beq_false hd).symm (nm_app List.not_mem_nil hm)⟩
  | .dict kvs, _, _, .dt (a := a) (o := o) (xs := xs) h _ ha _, r => by
    cases r
    obtain ⟨⟨P, w, es, ep, us, hv, h1, h2, h3, h4⟩, _⟩ := (show ObjOk X.prog X.w H s.heap a (.ext (DTfv o xs a)) from I.hok a _ h)
    obtain ⟨bs, r1, r2, hm⟩ := Kvt.readsM hk I kvs _ ha us hv
    rw [List.map_map] at h4
    refine ⟨_, Reads.dict h1 h2.1 h3 (as := []) (bs := bs) ?_ ?_, nm_cons (ne_sm hk I h) (nm_app List.not_mem_nil hm)⟩
    · rw [h4, List.map_map]
      exact r1
    · rw [h4, List.map_map]
      exact r2
theorem Pds.readsM (hk : SmK X.K) (I : L2.Inv X pins σ H s) : ∀ (ds : List PyData) (vs : List V) (us : List Value), Pds L H vs ds → Vals vs us → ∃ as, ReadsAll s.heap us ds as ∧ sysModules ∉ as
  | [], _, _, .nil, r => by
    cases r
    exact ⟨_, ReadsAll.nil, List.not_mem_nil⟩
  | d :: ds, _, _, .cons h1 h2, r => by
    cases r with
    | cons r1 r2 =>
      obtain ⟨as, q1, m1⟩ := Pd.readsM hk I d _ _ h1 r1
      obtain ⟨bs, q2, m2⟩ := Pds.readsM hk I ds _ _ h2 r2
      exact ⟨_, ReadsAll.cons q1 q2, nm_app m1 m2⟩
theorem Kvp.readsM (hk : SmK X.K) (I : L2.Inv X pins σ H s) : ∀ (kvs : List (PyData × PyData)) (us : List (Key × V)), Kvp L H us kvs → ∀ (vs : List (Key × Value)) (es : List DictEntry), KV us vs → Pairs (mixKind X.prog X.w) es vs → ∃ bs, ReadsAll s.heap (es.map (·.key)) (kvs.map (·.1)) [] ∧ ReadsAll s.heap (es.map (·.val)) (kvs.map (·.2)) bs ∧ sysModules ∉ bs
  | [], _, .nil, vs, es, r, p => by
    cases r
    cases p
    exact ⟨_, .nil, .nil, List.not_mem_nil⟩
  | (_, d) :: kvs, _, .cons a t, vs, es, r, p => by
    cases r with
    | cons r1 r2 =>
      cases p with
      | cons p1 p2 p3 =>
        obtain ⟨e1, e2⟩ := r1
        obtain ⟨bs, q1, q2, m1⟩ := Kvp.readsM hk I kvs _ t _ _ r2 p3
        obtain ⟨cs, q3, m2⟩ := Pd.readsM hk I d _ _ a e2
        have q4 := keyIs_readsM (h := s.heap) p1
        dsimp only at e1
        rw [← e1] at q4
        rw [← p2] at q3
        exact ⟨_, .cons q4 q1, .cons q3 q2, nm_app m2 m1⟩
theorem Kvt.readsM (hk : SmK X.K) (I : L2.Inv X pins σ H s) : ∀ (kvs : List (PyData × PyData)) (xs : List (List Int × Addr × V)), Kvt L H xs kvs → ∀ us : List Value, Vals (xs.map fun x => x.2.2) us → ∃ bs, ReadsAll s.heap ((xs.zip us).map fun p => Value.ref p.1.2.1) (kvs.map (·.1)) [] ∧ ReadsAll s.heap ((xs.zip us).map fun p => p.2) (kvs.map (·.2)) bs ∧ sysModules ∉ bs
  | [], _, .nil, us, r => ⟨_, .nil, .nil, List.not_mem_nil⟩
  | (_, d) :: kvs, _, .cons t a rest, us, r => by
    cases r with
    | cons r1 r2 =>
      obtain ⟨bs, q1, q2, m1⟩ := Kvt.readsM hk I kvs _ rest _ r2
      obtain ⟨cs, q3, m2⟩ := Pd.readsM hk I d _ _ a r1
      have q4 := key_readsM I t
      exact ⟨_, .cons q4 q1, .cons q3 q2, nm_app m2 m1⟩
end
theorem KvK.readsM (hk : SmK X.K) (I : L2.Inv X pins σ H s) : ∀ (kvs : List (PyData × PyData)) (us : List (Key × V)), KvK L H us kvs → ∀ (vs : List (Key × Value)) (es : List DictEntry), KV us vs → Pairs (mixKind X.prog X.w) es vs → ∃ bs, ReadsAll s.heap (es.map (·.key)) (kvs.map (·.1)) [] ∧ ReadsAll s.heap (es.map (·.val)) (kvs.map (·.2)) bs ∧ sysModules ∉ bs
  | [], _, .nil, vs, es, r, p => by
    cases r
    cases p
    exact ⟨_, .nil, .nil, List.not_mem_nil⟩
  | (_, d) :: kvs, _, .cons a t, vs, es, r, p => by
    cases r with
    | cons r1 r2 =>
      cases p with
      | cons p1 p2 p3 =>
        obtain ⟨e1, e2⟩ := r1
        obtain ⟨bs, q1, q2, m1⟩ := KvK.readsM hk I kvs _ t _ _ r2 p3
        obtain ⟨cs, q3, m2⟩ := Pd.readsM hk I d _ _ a e2
        have q4 := keyIs_readsM (h := s.heap) p1
        dsimp only at e1
        rw [← e1] at q4
        rw [← p2] at q3
        exact ⟨_, .cons q4 q1, .cons q3 q2, nm_app m2 m1⟩
theorem Dv.readsM (hk : SmK X.K) (I : L2.Inv X pins σ H s) {v : V} {d : PyData} {u : Value} (h : Dv L H v d) (r : RelV v u) : ∃ as, Reads s.heap u d as ∧ sysModules ∉ as := by
  cases h with
  | data h => exact Pd.readsM hk I _ _ _ h r
  | lst h1 h2 =>
    cases r
    obtain ⟨its, rv, ⟨o, n, ho, hc, _, hd⟩, _⟩ := I.list (SqL.of (K := X.K) h1)
    obtain ⟨as, hr, hm⟩ := Pds.readsM hk I _ _ its h2 rv
    exact ⟨_, Reads.list ho hc hd hr, nm_cons (ne_sm hk I h1) hm⟩
  | dK h1 h2 =>
    cases r
    obtain ⟨_, hd, vs, rel, o, es, ep, g1, g2, g3, g4, g5, g6⟩ := dk_rd I.hok h1
    obtain ⟨bs, r1, r2, hm⟩ := KvK.readsM hk I _ _ h2 vs es.toList rel g5
    exact ⟨_, Reads.dict g1 g2.1 g3 r1 r2, nm_cons (ne_of_beq_false hd).symm (nm_app List.not_mem_nil hm)⟩
end
def isSeqD : PyData → Bool
  | .list _ => true
  | .tuple _ => true
  | .dict _ => true
  | _ => false
def pReprD (x : PyData) : R PyData := if isSeqD x = true then when_ (x.showable && decide (x.depth ≤ 1000) && decide (x.shown.length ≤ Line)) (.ok (.str x.shown)) else pRepr x
def pIsaD (T : String) (x : PyData) : R PyData := match T with
  | "int" => .ok (.bool x.isInt)
  | "bool" => .ok (.bool x.isBool)
  | "str" => .ok (.bool x.isStr)
  | "tuple" => .ok (.bool x.isTuple)
  | "list" => .ok (.bool x.isList)
  | _ => .no
section
variable {X : Cx}
theorem isSeqD_ref {L : Addr → Prop} {H : Hp} {v : V} {d : PyData} (h : Dv L H v d) (hs : isSeqD d = true) : ∃ a, v = .ref a := by
  cases h with
  | data h => cases h with
    | lst _ _ _ => exact ⟨_, rfl⟩
    | tup _ _ => exact ⟨_, rfl⟩
    | dct _ _ => exact ⟨_, rfl⟩
    | dk _ _ _ _ => exact ⟨_, rfl⟩
    | dt _ _ _ _ => exact ⟨_, rfl⟩
    | _ => cases hs
  | lst _ _ => exact ⟨_, rfl⟩
  | dK _ _ => exact ⟨_, rfl⟩
theorem c_reprD (hk : SmK X.K) (G : Gd X) : CallR X (.builtin "repr") (rC1 X.K pReprD) := by
  intro pins s σ H xs us Q I r ⟨v, ev, ρ, S, u, z, ok, du, hz, q⟩
  by_cases h : isSeqD u = true
  · unfold pReprD at hz
    rw [if_pos h] at hz
    obtain ⟨hc, hz⟩ := when_ok hz
    cases hz
    simp only [Bool.and_eq_true, decide_eq_true_eq] at hc
    obtain ⟨⟨c2, c4⟩, c5⟩ := hc
    subst ev
    obtain ⟨u', rfl, ru⟩ := vals1 r
    obtain ⟨a, rfl⟩ := isSeqD_ref du h
    cases ru
    obtain ⟨as, rr, hm⟩ := Dv.readsM hk I du rfl
    exact PySem.repr_of_reads' rr c2 (fun _ => hm) G.gs (by have := G.hu; omega) (fun _ _ e => e) (fun h' t tk hk => ⟨.str u.shown, H, I.kept hk, ⟨t, rfl⟩, q H _ Xt.refl ok (.str _)⟩) c5
  · refine c_repr G pins s σ H xs us Q I r ⟨v, ev, ρ, S, u, z, ok, du, ?_, q⟩
    unfold pReprD at hz
    rwa [if_neg h] at hz
theorem Dv.readsA {pins : List (Addr × Obj)} {σ : L2.St} {H : Hp} {s : Shared} {L : Addr → Prop} (I : L2.Inv X pins σ H s) {v : V} {d : PyData} {u : Value} (h : Dv L H v d) (r : RelV v u) : ∃ as, Reads s.heap u d as := by
  cases h with
  | data h => exact Pd.reads I _ _ _ h r
  | lst h1 h2 =>
    cases r
    obtain ⟨its, rv, ⟨o, n, ho, hc, _, hd⟩, _⟩ := I.list (SqL.of (K := X.K) h1)
    obtain ⟨as, hr⟩ := Pds.reads I _ _ its h2 rv
    exact ⟨_, Reads.list ho hc hd hr⟩
  | dK h1 h2 =>
    cases r
    obtain ⟨_, hd, vs, rel, o, es, ep, g1, g2, g3, g4, g5, g6⟩ := dk_rd I.hok h1
    have key : ∀ (kvs : List (PyData × PyData)) (us : List (Key × V)), KvK L H us kvs → ∀ (vs : List (Key × Value)) (es : List DictEntry), KV us vs → Pairs (mixKind X.prog X.w) es vs → ∃ bs, ReadsAll s.heap (es.map (·.key)) (kvs.map (·.1)) [] ∧ ReadsAll s.heap (es.map (·.val)) (kvs.map (·.2)) bs := fun kvs us k => by
      induction k with
      | nil =>
        intro vs es r p
        cases r
        cases p
        exact ⟨_, .nil, .nil⟩
      | cons a t ih =>
        intro vs es r p
        cases r with
        | cons r1 r2 =>
          cases p with
          | cons p1 p2 p3 =>
            obtain ⟨e1, e2⟩ := r1
            obtain ⟨bs, q1, q2⟩ := ih _ _ r2 p3
            obtain ⟨cs, q3⟩ := Pd.reads I _ _ _ a e2
            have q4 := keyIs_readsM (h := s.heap) p1
            dsimp only at e1
            rw [← e1] at q4
            rw [← p2] at q3
            exact ⟨_, .cons q4 q1, .cons q3 q2⟩
    obtain ⟨bs, r1, r2⟩ := key _ _ h2 vs es.toList rel g5
    exact ⟨_, Reads.dict g1 g2.1 g3 r1 r2⟩
def rIsaD (K : PySem.W.Frag) (T : String) : List V → Hp → VK → Prop := fun vs H Q => ∃ v, vs = [v, .ty T] ∧ rD1 K (pIsaD T) v H Q
theorem c_isaD {T : String} (hT : ∀ {prog : Program} {w : World} {A : Around} {E : Value → Shared → Prop} {s : Shared} {v : Value} {d : PyData} {as : List Addr} {Q : Value → Shared → Prop}, Reads s.heap v d as → (∀ (b : Bool), pIsaD T d = .ok (.bool b) → ∀ tk, s.toks ≤ tk → Q (.bool b) { s with toks := tk }) →
    wpAny (model prog w) A (call (.builtin "isinstance") [v, .type T]) Q E s) : CallR X (.builtin "isinstance") (rIsaD X.K T) := by
  intro pins s σ H xs us Q I r ⟨v, ev, ρ, S, u, z, ok, du, hz, q⟩
  subst ev
  cases r with
  | cons r rr =>
    cases rr with
    | cons r2 rr =>
      cases rr
      cases r2
      obtain ⟨as, rd⟩ := Dv.readsA I du r
      refine hT rd fun b hb tk htk => ?_
      rw [hz] at hb
      cases hb
      exact ⟨.bl b, H, I.tok tk, rfl, q H _ Xt.refl ok (.bl _)⟩
theorem isa_intD : CallR X (.builtin "isinstance") (rIsaD X.K "int") := c_isaD fun rd h => PySem.W.isinstance_int_data rd (h _ rfl)
theorem isa_boolD : CallR X (.builtin "isinstance") (rIsaD X.K "bool") := c_isaD fun rd h => PySem.W.isinstance_bool_data rd (h _ rfl)
theorem isa_strD : CallR X (.builtin "isinstance") (rIsaD X.K "str") := c_isaD fun rd h => PySem.W.isinstance_str_data rd (h _ rfl)
theorem isa_tupleD : CallR X (.builtin "isinstance") (rIsaD X.K "tuple") := c_isaD fun rd h => PySem.W.isinstance_tuple_data rd (h _ rfl)
variable {pos p : Pos} {e : Expr} {fa : Ex}
theorem x_isaD {T : String} {y : Str} {q : Pos} (hc : CallR X (.builtin "isinstance") (rIsaD X.K T)) (hv : bootBuiltins y = some (.type T)) (hy : Gl X y) (hmy : X.mg y = none) (hg : Gl X "isinstance") (hm : X.mg "isinstance" = none) (ha : PE X e (TX X.K fa)) (hyn : y ≠ "__name__" := by decide) (hyd : (y == ("__debug__" : Str)) = false := by decide)
    (he : starEach [e, .Name y q] X.env = (false, eval e X.env) :: starEach [.Name y q] X.env := by rfl) (he2 : starEach [.Name y q] X.env = (false, eval (.Name y q) X.env) :: starEach [] X.env := by rfl) (hpl : (backTo pos (starEach [.Name y q] X.env)).any (·.1) = false := by rfl) :
    PE X (.Call (.Name "isinstance" p) [e, .Name y q] [] pos) (TX X.K (mO1 (pIsaD T) fa)) :=
  PE.up (pe_callB hc hg hm PyProof.Rows.boot_isinstance (pa_cons ha (pa_cons (pe_bltn hy hmy hv (v := .ty T) rfl hyn hyd) pa_nil he2) he) (by decide) (by decide) he hpl) fun σ H Q h => by
    obtain ⟨ρ, env, S, eo, ok, q⟩ := (tO1 h : TX X.K fa σ H fun x H1 => rD1 X.K (pIsaD T) x H1 Q)
    exact ⟨ρ, env, S, eo, ok, q.mono fun p ρ1 H1 e1 o1 q1 v dv => ⟨v, rfl, q1 v dv⟩⟩
end
end Mi
end
section
namespace Mi
open PySem PySem.Spec PyProof.Rows L2
def dp1C (n : Nat) (k : PyData) (u : PyData) (S2 : Store) : Option Cell → R (D × Store)
  | some (.dct false []) => .ok (.ref n, S2.set n (.dct false (put [] k u)))
  | _ => .no
def dp1B (n : Nat) (k : PyData) (u : PyData) (S2 : Store) : R (D × Store) := dp1C n k u S2 S2[n]?
def dp1A (n : Nat) (k : PyData) (x : D) (S1 : Store) : R (D × Store) := bd (fz S1 x) (dp1B n k)
def mDict1 (k : PyData) (a : Ex) : Ex := fun σ S => bd (a σ (S ++ [.dct false []])) (dp1A S.length k)
section
variable {X : Cx} {e kx : Expr} {fa : Ex} {pos : Pos}
theorem x_disp1 (k0 : Key) (hk : PE X kx (tC (kV k0))) (ha : PE X e (TX X.K fa)) : PE X (.Dict [some kx] [e] pos) (TX X.K (mDict1 (keyD k0) fa)) :=
  PE.up (pe_disp (pps_cons hk ha pps_nil) rfl rfl (by simp) (by simp)) fun σ H Q ⟨ρ, env, S, eo, ok, q⟩ p hp => by
  obtain ⟨o1, x1⟩ := ok.pushD (us := []) (kvs := []) hp .nil
  have hp0 : RefAt (ρ ++ [p]) (S ++ [.dct false []]) S.length p := .last ok.len (kd0 rfl)
  show TX X.K fa σ (upd H p (.dK [])) (fun y H2 => H2 p = some (.dK []) ∧ ∃ kvs : List (Key × V), [(kV k0, y)] = kvs.map (fun kv => (kV kv.1, kv.2)) ∧ kvs.length ≤ 15 ∧ Q (.ref p) (upd H2 p (.dK (mergeK [] kvs))))
  refine ⟨ρ ++ [p], env, S ++ [.dct false []], eo.mono x1, o1, (Aft.bd (Aft.from x1 q)).mono fun p1 ρ1 H1 e1 o1' q1 v dv => ?_⟩
  obtain ⟨d, S4, x4, o4, pd, q4⟩ := Aft.fz o1' dv q1
  have hp4 := (e1.trans x4).at hp0
  have hr4 := hp4.1
  unfold dp1B at q4
  cases hS : S4[S.length]? with
  | none => rw [hS] at q4; exact q4.elim
  | some c =>
    rw [hS] at q4
    cases c with
    | dct t kvs =>
      cases t with
      | true => exact q4.elim
      | false =>
        cases kvs with
        | cons _ _ => exact q4.elim
        | nil =>
          obtain ⟨us, hu, r⟩ := o4.cell _ p _ hr4 hS
          cases r
          obtain ⟨o5, x5⟩ := o4.putD hr4 hS (KvK.put (k := k0) .nil pd)
          exact ⟨hu, [(k0, v)], rfl, by simp, (Aft.at q4 x5 o5) _ ⟨p, x5.at hp4, rfl⟩⟩
    | _ => exact q4.elim
end
end Mi
end
section
namespace K49
open PySem PySem.Spec PyProof.Rows L2 Mi
noncomputable section
def b__law_wrapped : Sm := sSeq (sFor (iR1 (mV 2)) (gN 3) (sAsg 1 (mCall Mi.pk (aCons (mV 0) (aCons (mLst (aCons (mTup (aCons (mV 1) aNil)) (aCons (mLst (aCons (mV 1) aNil)) (aCons (mTup (aCons (mV 1) (aCons (mC (.str "0")) aNil))) (aCons (mDict1 (.int 0) (mV 1)) aNil))))) aNil)))))
        (sRet (mV 1))
def f__law_wrapped : Fn := fnOf fin 3 4 b__law_wrapped
def bx_lines_of : Sm := sSeq (sIfX (Mi.tNot (tE (mO1 (pIsaD "str") (mV 0)))) (sRaise1 "BadText" "line" (mC (.int 0))) (sPass))
        (sLift (sRet (mSplit (mV 0) (mC (.str "\n")))))
def fx_lines_of : Fn := fnOf fin 1 1 bx_lines_of
def b_is_integer : Sm := sRet (mAnd (mO1 (pIsaD "int") (mV 0)) (mAnd (mO1 pNot (mO1 (pIsaD "bool") (mV 0))) (mCh pLe pLe (mV 1) (mV 0) (mV 2))))
def f_is_integer : Fn := fnOf fin 3 3 b_is_integer
def b_is_probe_order : Sm := sSeq (sIf (tOr (Mi.tNot (tE (mO1 (pIsaD "tuple") (mV 1)))) (tE (mO2 pNe (mLen (mV 1)) (mV 0)))) (sRet (mC (.bool false))) (sPass))
        (sRet (mAnd (mO1 pAll (mComp [2] (iE (mV 1)) (gN 2) tYes (mCall f_is_integer (aCons (mV 2) (aCons (mC (.int 0)) (aCons (mO2 pSub (mV 0) (mC (.int 1))) aNil)))))) (mO2 pEq (mSetLen (mV 1)) (mV 0))))
def f_is_probe_order : Fn := fnOf fin 2 3 b_is_probe_order
def b_probe_in : Sm := sSeq (sAsg 2 (mSplit (mV 0) (mC (.str " "))))
        (sSeq (sAsg 3 (mCall Mi.L.f_numbers_in (aCons (mCut (mV 2) (oE (mC (.int 1))) oNo) (aCons (mV 1) aNil))))
        (sRet (mIf (tAnd (tE (mO2 pEq (mIx (mV 2) (mC (.int 0))) (mC (.str "probe")))) (tAnd (tE (mNotN (mV 3))) (tE (mCall f_is_probe_order (aCons (mV 1) (aCons (mV 3) aNil)))))) (mV 3) (mC .none))))
def f_probe_in : Fn := fnOf fin 2 4 b_probe_in
def b_are_keys : Sm := sSeq (sIf (tOr (Mi.tNot (tE (mO1 (pIsaD "tuple") (mV 0)))) (Mi.tNot (tE (mO1 pAll (mComp [2] (iE (mV 0)) (gN 2) tYes (mCall f_is_integer (aCons (mV 2) (aCons (mC (.int 0)) (aCons (mO2 pSub (mV 1) (mC (.int 1))) aNil))))))))) (sRet (mC (.bool false))) (sPass))
        (sRet (mO1 pAll (mComp [2, 3] (iZip (mV 0) (mCut (mV 0) (oE (mC (.int 1))) oNo)) (gT [gN 2, gN 3]) tYes (mO2 pLt (mV 2) (mV 3)))))
def f_are_keys : Fn := fnOf fin 2 4 b_are_keys
def b_is_table : Sm := sSeq (sIf (tOr (Mi.tNot (tE (mO1 (pIsaD "tuple") (mV 0)))) (tOr (tE (mO2 pNe (mLen (mV 0)) (mV 1))) (Mi.tNot (tE (mO1 pAll (mComp [3] (iE (mV 0)) (gN 3) tYes (mCall f_are_keys (aCons (mV 3) (aCons (mV 1) aNil))))))))) (sRet (mC (.bool false))) (sPass))
        (sSeq (sFor (iEnum (mV 0)) (gT [gN 2, gN 3]) (sFor (iR1 (mV 1)) (gN 4) (sIf (tE (mO2 pEq (mIn (mV 4) (mV 3)) (mOr (mO2 pEq (mV 2) (mV 4)) (mIn (mV 2) (mIx (mV 0) (mV 4)))))) (sRet (mC (.bool false))) (sPass))))
        (sRet (mC (.bool true))))
def f_is_table : Fn := fnOf fin 2 5 b_is_table
def b_table_in : Sm := sSeq (sAsg 2 (mSplit (mV 0) (mC (.str " "))))
        (sSeq (sAsg 3 (mO1 pTuple (mComp [4] (iE (mCut (mV 2) (oE (mC (.int 1))) oNo)) (gN 4) tYes (mCall Mi.L.f_beaten_in (aCons (mV 4) (aCons (mV 1) aNil))))))
        (sRet (mIf (tAnd (tE (mO2 pEq (mIx (mV 2) (mC (.int 0))) (mC (.str "beats")))) (tAnd (tE (mNotIn (mC .none) (mV 3))) (tE (mCall f_is_table (aCons (mV 3) (aCons (mV 1) aNil)))))) (mV 3) (mC .none))))
def f_table_in : Fn := fnOf fin 2 5 b_table_in
def bx_read_setting : Sm := sSeq (sAsg 1 (mCallX fx_lines_of (aCons (mV 0) aNil)))
        (sSeq (sLift (sAsg 2 (mCall Mi.L.f_sizes_in (aCons (mIx (mV 1) (mC (.int 0))) aNil))))
        (sSeq (sIfX (tE (mIsN (mV 2))) (sRaise1 "BadText" "line" (mC (.int 0))) (sPass))
        (sSeq (sLift (sUnp (gT [gN 3, gN 4]) (mV 2)))
        (sSeq (sLift (sAsg 5 (mNew (mLst aNil))))
        (sSeq (sForXT (iEnum (mCut (mV 1) (oE (mC (.int 1))) oNo)) (gT [gN 6, gN 7]) (sSeq (sLift (sAsg 8 (mIf (tE (mO2 pLt (mV 6) (mV 3))) (mCall f_probe_in (aCons (mV 7) (aCons (mV 4) aNil))) (mCall f_table_in (aCons (mV 7) (aCons (mV 3) aNil))))))
        (sSeq (sIfX (tOr (tE (mIsN (mV 8))) (tE (mO2 pGe (mV 6) (mO2 pAdd (mV 3) (mV 4))))) (sRaise1 "BadText" "line" (mO2 pAdd (mV 6) (mC (.int 1)))) (sPass))
        (sLift (sDrop (mAppend (mV 5) (mV 8)))))))
        (sSeq (sIfX (tE (mO2 pLt (mLen (mV 5)) (mO2 pAdd (mV 3) (mV 4)))) (sRaise1 "BadText" "line" (mLen (mV 1))) (sPass))
        (sLift (sRet (mTup (aCons (mO1 pTuple (mCut (mV 5) oNo (oE (mV 3)))) (aCons (mO1 pTuple (mCut (mV 5) (oE (mV 3)) oNo)) aNil)))))))))))
def fx_read_setting : Fn := fnOf fin 1 9 bx_read_setting
def bx_read_layout : Sm := sSeq (sIfX (tOr (Mi.tNot (tE (mO1 (pIsaD "str") (mV 0)))) (tE (mIn (mC (.str "\n")) (mV 0)))) (sRaise1 "BadText" "line" (mC (.int 0))) (sPass))
        (sSeq (sLift (sAsg 1 (mComp [2] (iE (mSplit (mV 0) (mC (.str " ")))) (gN 2) tYes (mIf (tE (mO2 pEq (mV 2) (mC (.str "-")))) (mC (.int (-1))) (mCall Mi.L.f_number_in (aCons (mV 2) (aCons (mC (.int 16)) aNil)))))))
        (sSeq (sIfX (tOr (tE (mO2 pGt (mLen (mV 1)) (mC (.int 16)))) (tOr (tE (mIn (mC .none) (mV 1))) (Mi.tNot (tE (mCall Mi.L.f_are_unlike (aCons (mComp [3] (iE (mV 1)) (gN 3) (tE (mO2 pNe (mV 3) (mC (.int (-1))))) (mV 3)) aNil)))))) (sRaise1 "BadText" "line" (mC (.int 0))) (sPass))
        (sLift (sRet (mO1 pTuple (mV 1))))))
def fx_read_layout : Fn := fnOf fin 1 4 bx_read_layout
def bx_read_history : Sm := sSeq (sIfX (tOr (Mi.tNot (tE (mO1 (pIsaD "str") (mV 0)))) (tE (mIn (mC (.str "\n")) (mV 0)))) (sRaise1 "BadText" "line" (mC (.int 0))) (sPass))
        (sSeq (sLift (sAsg 1 (mIf (tE (mO2 pEq (mV 0) (mC (.str "-")))) (mTup aNil) (mCall Mi.L.f_numbers_in (aCons (mSplit (mV 0) (mC (.str " "))) (aCons (mC (.int 16)) aNil))))))
        (sSeq (sIfX (tOr (tE (mIsN (mV 1))) (Mi.tNot (tE (mCall Mi.L.f_are_unlike (aCons (mV 1) aNil))))) (sRaise1 "BadText" "line" (mC (.int 0))) (sPass))
        (sLift (sRet (mV 1)))))
def fx_read_history : Fn := fnOf fin 1 2 bx_read_history
def b__law_asked (T : Nat → Nat) : Sm := sSeq (sAsg 1 (mO1 pReprD (mV 0)))
        (sSeq (sAsg 2 (mNew (mLst (aCons (mLam 0 (T 0) "_law_asked.<locals>.<lambda>" [0] Mi.L.f_l_caught (mCallX fx_read_setting (aCons (mV 0) aNil))) aNil))))
        (sSeq (sDrop (mAppend (mV 2) (mLam 0 (T 0) "_law_asked.<locals>.<lambda>" [0] Mi.L.f_l_caught (mCallX fx_read_layout (aCons (mV 0) aNil)))))
        (sSeq (sDrop (mAppend (mV 2) (mLam 0 (T 0) "_law_asked.<locals>.<lambda>" [0] Mi.L.f_l_caught (mCallX fx_read_history (aCons (mV 0) aNil)))))
        (sRet (mAnd (mO2 pEq (mO1 pReprD (mV 2)) (mO1 pReprD (mO2 pMul (mLst (aCons (mTup (aCons (mC (.str "line")) (aCons (mC (.int 0)) aNil))) aNil)) (mC (.int 3))))) (mO2 pEq (mO1 pReprD (mV 0)) (mV 1)))))))
def f__law_asked (T : Nat → Nat) : Fn := fnOf fin 1 3 (b__law_asked T)
def b__law_right (T : Nat → Nat) : Sm := sSeq (sAsg 1 (mLst (aCons (mC .none) (aCons (mC (.bool true)) (aCons (mC (.bool false)) (aCons (mC (.int 0)) (aCons (mC (.int 1)) (aCons (mO1 pNeg (mC (.int 1))) (aCons (mO2 pPow (mC (.int 10)) (mC (.int 30))) (aCons (mTup aNil) (aCons (mLst aNil) (aCons (mC (.dict [])) (aCons (mTup (aCons (mC (.str "-")) aNil)) (aCons (mLst (aCons (mC (.str "-")) aNil)) (aCons (mDict1 (.str "0") (mC (.str "-"))) (aCons (mTup (aCons (mTup (aCons (mC (.int 0)) aNil)) aNil)) (aCons (mTup (aCons (mTup aNil) aNil)) (aCons (mTup (aCons (mC (.int 0)) (aCons (mO1 pNeg (mC (.int 1))) aNil))) aNil))))))))))))))))))
        (sSeq (sFor (iE (mV 1)) (gN 2) (sIf (tOr (Mi.tNot (tE (mCall (f__law_asked T) (aCons (mV 2) aNil)))) (Mi.tNot (tE (mCall (f__law_asked T) (aCons (mCall f__law_wrapped (aCons (mV 0) (aCons (mV 2) (aCons (mCall Mi.tk (aCons (mV 0) (aCons (mC (.int 28)) aNil))) aNil)))) aNil))))) (sRet (mC (.bool false))) (sPass)))
        (sRet (mCall (f__law_asked T) (aCons (mC (.str "")) aNil))))
def f__law_right (T : Nat → Nat) : Fn := fnOf fin 1 3 (b__law_right T)
def b_law (T : Nat → Nat) : Sm := sRet (mO1 pAll (mComp [1] (iR1 (mO2 pMax2 (mC (.int 1)) (mO2 pMin2 (mC (.int 2)) (mLen (mV 0))))) (gN 1) tYes (mCall (f__law_right T) (aCons (mCall Mi.po (aCons (mV 0) (aCons (mV 1) aNil))) aNil))))
def f_law (T : Nat → Nat) : Fn := fnOf fin 1 2 (b_law T)
end
def top (i : Nat) : Stmt := PySem.Challenge.pw_samelayout_k49_values_that_are_no_texts.main.body.getD i (.Pass ⟨0, 0, 0, 0⟩)
def tdefs : List Str := ["_law_asked"]
def tds : List (Str × Str) := [("_law_asked", "_law_asked.<locals>.<lambda>")]
structure Ct (K : PySem.W.Frag) (mg : Str → Option Value) : Prop where
  d__law_pot : DefF K mg "_law_pot" (top 34)
  d__law_take : DefF K mg "_law_take" (top 35)
  d__law_pick : DefF K mg "_law_pick" (top 36)
  d__law_wrapped : DefF K mg "_law_wrapped" (top 38)
  d_lines_of : DefF K mg "lines_of" (top 22)
  d_number_in : DefF K mg "number_in" (top 23)
  d_numbers_in : DefF K mg "numbers_in" (top 24)
  d_sizes_in : DefF K mg "sizes_in" (top 25)
  d_is_integer : DefF K mg "is_integer" (top 5)
  d_is_probe_order : DefF K mg "is_probe_order" (top 6)
  d_probe_in : DefF K mg "probe_in" (top 26)
  d_are_keys : DefF K mg "are_keys" (top 9)
  d_is_table : DefF K mg "is_table" (top 10)
  d_beaten_in : DefF K mg "beaten_in" (top 27)
  d_table_in : DefF K mg "table_in" (top 28)
  d_read_setting : DefF K mg "read_setting" (top 29)
  d_are_unlike : DefF K mg "are_unlike" (top 30)
  d_read_layout : DefF K mg "read_layout" (top 31)
  d_read_history : DefF K mg "read_history" (top 32)
  d__law_caught : DefF K mg "_law_caught" (top 37)
  d__law_asked : DefF K mg "_law_asked" (top 39)
  d__law_right : DefF K mg "_law_right" (top 40)
  d_law : DefF K mg "law" (top 41)
  e__law_asked : mg "_law_asked" = some (.ref (He.fAd K ("_law_asked", none)))
  n_abs : mg "abs" = none
  n_all : mg "all" = none
  n_bool : mg "bool" = none
  n_enumerate : mg "enumerate" = none
  n_int : mg "int" = none
  n_isinstance : mg "isinstance" = none
  n_len : mg "len" = none
  n_max : mg "max" = none
  n_min : mg "min" = none
  n_range : mg "range" = none
  n_repr : mg "repr" = none
  n_set : mg "set" = none
  n_str : mg "str" = none
  n_tuple : mg "tuple" = none
  n_zip : mg "zip" = none
  i_BEATS : ∃ t, mg "BEATS" = some (.str "beats" t)
  i_BLANK : ∃ t, mg "BLANK" = some (.str " " t)
  i_COMMA : ∃ t, mg "COMMA" = some (.str "," t)
  i_EMPTY : ∃ t, mg "EMPTY" = some (.int (-1) t)
  i_FEED : ∃ t, mg "FEED" = some (.str "\n" t)
  i_KEYS : ∃ t, mg "KEYS" = some (.str "keys" t)
  i_MOST : ∃ t, mg "MOST" = some (.int 16 t)
  i_NOTHING : ∃ t, mg "NOTHING" = some (.str "-" t)
  i_PROBE : ∃ t, mg "PROBE" = some (.str "probe" t)
  i_SIZE_WORDS : ∃ t, mg "SIZE_WORDS" = some (.int 4 t)
  i_SLOTS : ∃ t, mg "SLOTS" = some (.str "slots" t)
  gl_BadText : mg "BadText" = some (.ref (He.ga K "BadText"))
  gl_LayoutError : mg "LayoutError" = some (.ref (He.ga K "LayoutError"))
  gl_BadLine : mg "BadLine" = some (.ref (He.ga K "BadLine"))
  in_BadText : ∃ fd, FunD K "__init__" "BadText.__init__" (defArgs (clsM (top 2) 0)) (defBody (clsM (top 2) 0)) (defScope (clsM (top 2) 0)) [] [] (He.ma K (He.ga K "BadText") "__init__") fd
  ec_BadText : ErrC K mg "BadText"
  nf_BadText : PySem.W.findIn K (.ref (He.ga K "BadText")) "line" = some none
  xm_LayoutError : ∀ z ∈ (["BadText", "BadLine"] : List Str), PySem.W.exmOne K (.ref (He.ga K z)) (.ref (He.ga K "LayoutError")) = some true
  kt_BadText : ∀ z b, ([("BadText", true), ("BadLine", false)] : List (Str × Bool)).lookup z = some b → ErrQ K (He.ga K z) ∧ PySem.W.kitOne K (.ref (He.ga K z)) (.ref (He.ga K "BadText")) = some b
  kt_BadLine : ∀ z b, ([("BadText", false), ("BadLine", true)] : List (Str × Bool)).lookup z = some b → ErrQ K (He.ga K z) ∧ PySem.W.kitOne K (.ref (He.ga K z)) (.ref (He.ga K "BadLine")) = some b
  fl_line : ∀ z ∈ (["BadText", "BadLine"] : List Str), ErrQ K (He.ga K z) ∧ PySem.W.findIn K (.ref (He.ga K z)) "line" = some none
  bc_LayoutError : BaseC K mg "LayoutError"
  sm : Mi.SmK K
section
variable {P : Program} {w : World} {K : PySem.W.Frag} {mg : Str → Option Value} {base : Heap}
theorem oki_BadText (c : Ct K mg) : IniC P w K mg base "BadText" "line" := by
  obtain ⟨fd, F⟩ := c.in_BadText
  exact ⟨fd, init_ok F c.bc_LayoutError ⟨rfl, rfl, rfl, by decide +kernel, rfl, by decide +kernel, by decide +kernel⟩ rfl rfl rfl (fun _ _ _ _ _ _ => ⟨_, rfl⟩) (fun _ => rfl) (by decide) (by decide) (by decide), F.bindsN (fun _ _ _ _ _ _ us hl => match us, hl with | [_, _], _ => rfl)⟩
theorem sc__law_pot : FnScope ["_law_script", "_law_k", "_law_cell", "_law_great"] ["_law_script", "_law_k"] (defScope (top 34)) := ⟨rfl, rfl, rfl, by decide +kernel, rfl, by decide +kernel, by decide +kernel⟩
theorem ok__law_pot (c : Ct K mg) : KnD P w K mg base 1 "_law_pot" 2 ["_law_script", "_law_k"] Mi.po :=
  kn_of (st := top 34) c.d__law_pot sc__law_pot finM_ok rfl rfl (fun _ _ _ _ _ _ us hl => match us, hl with | [_, _], _ => rfl) (fun _ _ _ _ _ _ us hl => match us, hl with | [_, _], _ => by kernel_rfl) fun f cdv A outer s H E hr G => by
    show PSs _ _ (TSm K Mi.po_body)
    exact ss_cons (s_asg G 2 (x_if (t_cmp (op_pLt G) (x_v 1) (x_len (by rfl) c.n_len (x_v 0))) (x_ix G (x_v 0) (x_v 1)) (x_op op_pAdd (x_op op_pMul x_int (x_v 1)) x_int)))
        (ss_cons (s_asg G 3 (x_if (t_cmp (op_pGe G) (x_b1 c_abs (by decide +kernel) (by rfl) c.n_abs (x_v 2)) (x_op op_pPow x_int x_int)) (x_op op_pMod (x_b1 c_abs (by decide +kernel) (by rfl) c.n_abs (x_v 2)) (x_op op_pPow (x_op op_pPow x_int x_int) x_int)) x_int))
        (ss_one (s_ret (x_new (n_lst (a_cons (x_v 3) (a_cons (x_op op_pMod (x_op op_pAdd (x_op op_pAdd (x_op op_pMul (x_op op_pMod (x_v 2) x_int) x_int) (x_op op_pMul (x_op op_pMul x_int (x_v 1)) (x_v 1))) x_int) x_int) (a_cons x_int a_nil))))))))
theorem sc__law_take : FnScope ["_law_pot_here", "_law_size", "_law_digit", "_law_prime", "_law_mixed"] ["_law_pot_here", "_law_size"] (defScope (top 35)) := ⟨rfl, rfl, rfl, by decide +kernel, rfl, by decide +kernel, by decide +kernel⟩
theorem ok__law_take (c : Ct K mg) : KnD P w K mg base 1 "_law_take" 2 ["_law_pot_here", "_law_size"] Mi.tk :=
  kn_of (st := top 35) c.d__law_take sc__law_take fin_ok rfl rfl (fun _ _ _ _ _ _ us hl => match us, hl with | [_, _], _ => rfl) (fun _ _ _ _ _ _ us hl => match us, hl with | [_, _], _ => by kernel_rfl) fun f cdv A outer s H E hr G => by
    show PSs _ _ (TSm K Mi.tk_body)
    exact ss_cons (s_if (t_cmp (op_pGt G) (x_ix G (x_v 0) x_int) x_int) (ss_cons (s_asg G 2 (x_op op_pMod (x_ix G (x_v 0) x_int) (x_v 1)))
        (ss_cons (s_setL (x_op op_pDiv (x_ix G (x_v 0) x_int) (x_v 1)) (x_v 0) x_int)
        (ss_one (s_ret (x_v 2))))) (ss_nil))
        (ss_cons (s_setL (x_op op_pAdd (x_ix G (x_v 0) x_int) x_int) (x_v 0) x_int)
        (ss_cons (s_asg G 3 (x_ix G (x_of_new (n_lst (a_cons x_int (a_cons x_int (a_cons x_int (a_cons x_int (a_cons x_int a_nil)))))) isL_lst) (x_op op_pMod (x_ix G (x_v 0) x_int) x_int)))
        (ss_cons (s_asg G 4 (x_op op_pMod (x_op op_pPow (x_op op_pAdd (x_op op_pAdd (x_ix G (x_v 0) x_int) (x_op op_pMul (x_op op_pMul x_int (x_ix G (x_v 0) x_int)) (x_ix G (x_v 0) x_int))) x_int) x_int) (x_v 3)))
        (ss_one (s_ret (x_op op_pMod (x_op op_pDiv (x_op op_pMod (x_op op_pMul (x_v 4) (x_op op_pAdd (x_op op_pMod (x_v 4) x_int) (x_op op_pMul x_int (x_ix G (x_v 0) x_int)))) x_int) x_int) (x_v 1)))))))
theorem sc__law_pick : FnScope ["_law_pot_here", "_law_some"] ["_law_pot_here", "_law_some"] (defScope (top 36)) := ⟨rfl, rfl, rfl, by decide +kernel, rfl, by decide +kernel, by decide +kernel⟩
theorem ok__law_pick (c : Ct K mg) : KnD P w K mg base 2 "_law_pick" 2 ["_law_pot_here", "_law_some"] Mi.pk :=
  kn_of (st := top 36) c.d__law_pick sc__law_pick fin_ok rfl rfl (fun _ _ _ _ _ _ us hl => match us, hl with | [_, _], _ => rfl) (fun _ _ _ _ _ _ us hl => match us, hl with | [_, _], _ => by kernel_rfl) fun f cdv A outer s H E hr G => by
    show PSs _ _ (TSm K Mi.pkBody)
    exact ss_one (s_ret (x_ix G (x_v 1) (x_fn (ok__law_take c) (hr.mono (by decide)) (by rfl) (a_cons (x_v 0) (a_cons (x_len (by rfl) c.n_len (x_v 1)) a_nil)))))
theorem sc__law_wrapped : FnScope ["_law_pot_here", "_law_thing", "_law_times", "_law_turn"] ["_law_pot_here", "_law_thing", "_law_times"] (defScope (top 38)) := ⟨rfl, rfl, rfl, by decide +kernel, rfl, by decide +kernel, by decide +kernel⟩
theorem ok__law_wrapped (c : Ct K mg) : KnD P w K mg base 3 "_law_wrapped" 3 ["_law_pot_here", "_law_thing", "_law_times"] f__law_wrapped :=
  kn_of (st := top 38) c.d__law_wrapped sc__law_wrapped fin_ok rfl rfl (fun _ _ _ _ _ _ us hl => match us, hl with | [_, _, _], _ => rfl) (fun _ _ _ _ _ _ us hl => match us, hl with | [_, _, _], _ => by kernel_rfl) fun f cdv A outer s H E hr G => by
    show PSs _ _ (TSm K b__law_wrapped)
    exact ss_cons (s_for G PassesOwn.never (i_r1 (by rfl) c.n_range (x_v 2)) (g_name G 3) (ss_one (s_asg G 1 (x_fn (ok__law_pick c) (hr.mono (by decide)) (by rfl) (a_cons (x_v 0) (a_cons (x_of_new (n_lst (a_cons (x_tup (a_cons (x_v 1) a_nil)) (a_cons (x_of_new (n_lst (a_cons (x_v 1) a_nil)) isL_lst) (a_cons (x_tup (a_cons (x_v 1) (a_cons x_str a_nil))) (a_cons (x_disp1 (.inl 0) pe_int (x_v 1)) a_nil))))) isL_lst) a_nil))))))
        (ss_one (s_ret (x_v 1)))
theorem sc_lines_of : FnScope ["source"] ["source"] (defScope (top 22)) := ⟨rfl, rfl, rfl, by decide +kernel, rfl, by decide +kernel, by decide +kernel⟩
theorem okx_lines_of (c : Ct K mg) : KnX P w K mg base 3 "lines_of" 1 ["source"] fx_lines_of :=
  kn_ofX (st := top 22) c.d_lines_of sc_lines_of fin_ok fin_ne rfl rfl (fun _ _ _ _ _ _ us hl => match us, hl with | [_], _ => rfl) fun f cdv A outer s H E hr G tk hp => by
    show PSs _ _ (TSx K E bx_lines_of)
    exact ssx_cons (sx_if (t_not (t_val (x_isaD isa_strD (by decide +kernel) (by rfl) c.n_str (by rfl) c.n_isinstance (x_v 0)))) (ssx_one (s_raiseI (oki_BadText c) c.ec_BadText c.nf_BadText G tk (hr.mono (by decide)) (by rfl) x_int)) (ssx_nil))
        (ss_lift (have G := gd_nox G; ss_one (s_ret (x_of_new (n_split (x_v 0) (x_gstr c.i_FEED (by rfl))) isL_split))))
theorem sc_number_in : FnScope ["word", "limit", "known", "number"] ["word", "limit"] (defScope (top 23)) := ⟨rfl, rfl, rfl, by decide +kernel, rfl, by decide +kernel, by decide +kernel⟩
theorem ok_number_in (c : Ct K mg) : KnD P w K mg base 1 "number_in" 2 ["word", "limit"] Mi.L.f_number_in :=
  kn_of (st := top 23) c.d_number_in sc_number_in fin_ok rfl rfl (fun _ _ _ _ _ _ us hl => match us, hl with | [_, _], _ => rfl) (fun _ _ _ _ _ _ us hl => match us, hl with | [_, _], _ => by kernel_rfl) fun f cdv A outer s H E hr G => by
    show PSs _ _ (TSm K Mi.L.b_number_in)
    exact ss_cons (s_asg_of (s_asgC G 2 (hsw := sw_true rfl rfl rfl (by kernel_rfl)) (own := [("number", 3)]) (i_r1 (by rfl) c.n_range (x_v 1)) (blkOk_by (by kernel_rfl)) (fun _ _ _ _ _ => g_name (Gd.blk G) 3) (fun _ _ _ _ _ => ts_nil) (fun _ _ _ _ _ => x_t1 c_str (by decide +kernel) (by rfl) c.n_str (x_v 3))) (fun _ _ _ h => tX_tN isL_comp h))
        (ss_one (s_ret (x_if (t_in G (x_v 0) (x_v 2)) (x_index (x_v 2) (x_v 0)) x_none)))
theorem sc_numbers_in : FnScope ["words", "limit", "numbers", "word"] ["words", "limit"] (defScope (top 24)) := ⟨rfl, rfl, rfl, by decide +kernel, rfl, by decide +kernel, by decide +kernel⟩
theorem ok_numbers_in (c : Ct K mg) : KnD P w K mg base 2 "numbers_in" 2 ["words", "limit"] Mi.L.f_numbers_in :=
  kn_of (st := top 24) c.d_numbers_in sc_numbers_in fin_ok rfl rfl (fun _ _ _ _ _ _ us hl => match us, hl with | [_, _], _ => rfl) (fun _ _ _ _ _ _ us hl => match us, hl with | [_, _], _ => by kernel_rfl) fun f cdv A outer s H E hr G => by
    show PSs _ _ (TSm K Mi.L.b_numbers_in)
    exact ss_cons (s_asg G 2 (x_t1 c_tuple (by decide +kernel) (by rfl) c.n_tuple (x_of_new (n_comp G (own := [("word", 3)]) (i_seq (Gd.calm G) (x_v 0)) (blkOk_by (by kernel_rfl)) (fun _ _ _ _ _ => g_name (Gd.blk G) 3) (fun _ _ _ _ _ => ts_nil) (fun _ _ _ _ _ => x_fn (ok_number_in c) (hr.mono (by decide)) (by rfl) (a_cons (x_v 3) (a_cons (x_v 1) a_nil)))) isL_comp)))
        (ss_one (s_ret (x_if (t_notIn G x_none (x_v 2)) (x_v 2) x_none)))
theorem sc_sizes_in : FnScope ["line", "words", "sizes"] ["line"] (defScope (top 25)) := ⟨rfl, rfl, rfl, by decide +kernel, rfl, by decide +kernel, by decide +kernel⟩
theorem ok_sizes_in (c : Ct K mg) : KnD P w K mg base 3 "sizes_in" 1 ["line"] Mi.L.f_sizes_in :=
  kn_of (st := top 25) c.d_sizes_in sc_sizes_in fin_ok rfl rfl (fun _ _ _ _ _ _ us hl => match us, hl with | [_], _ => rfl) (fun _ _ _ _ _ _ us hl => match us, hl with | [_], _ => by kernel_rfl) fun f cdv A outer s H E hr G => by
    show PSs _ _ (TSm K Mi.L.b_sizes_in)
    exact ss_cons (s_asg G 1 (x_of_new (n_split (x_v 0) (x_gstr c.i_BLANK (by rfl))) isL_split))
        (ss_cons (s_if (PW.pt (w_or (t_cmp (op_neG G) (x_len (by rfl) c.n_len (x_v 1)) (x_gint c.i_SIZE_WORDS (by rfl))) (w_or (t_cmp (op_neG G) (x_ix G (x_v 1) x_int) (x_gstr c.i_KEYS (by rfl))) (w_or1 (t_cmp (op_neG G) (x_ix G (x_v 1) x_int) (x_gstr c.i_SLOTS (by rfl))))))) (ss_one (s_ret x_none)) (ss_nil))
        (ss_cons (s_asg G 2 (x_fn (ok_numbers_in c) (hr.mono (by decide)) (by rfl) (a_cons (x_odds (x_v 1)) (a_cons (x_op op_pAdd (x_gint c.i_MOST (by rfl)) x_int) a_nil))))
        (ss_one (s_ret (x_if (PW.pt (w_and (t_notN (x_v 2)) (w_and1 (t_notIn G x_int (x_v 2))))) (x_v 2) x_none)))))
theorem sc_is_integer : FnScope ["value", "low", "high"] ["value", "low", "high"] (defScope (top 5)) := ⟨rfl, rfl, rfl, by decide +kernel, rfl, by decide +kernel, by decide +kernel⟩
theorem ok_is_integer (c : Ct K mg) : KnD P w K mg base 1 "is_integer" 3 ["value", "low", "high"] f_is_integer :=
  kn_of (st := top 5) c.d_is_integer sc_is_integer fin_ok rfl rfl (fun _ _ _ _ _ _ us hl => match us, hl with | [_, _, _], _ => rfl) (fun _ _ _ _ _ _ us hl => match us, hl with | [_, _, _], _ => by kernel_rfl) fun f cdv A outer s H E hr G => by
    show PSs _ _ (TSm K b_is_integer)
    exact ss_one (s_ret (x_and (x_isaD isa_intD (by decide +kernel) (by rfl) c.n_int (by rfl) c.n_isinstance (x_v 0)) (x_and (x_not (x_isaD isa_boolD (by decide +kernel) (by rfl) c.n_bool (by rfl) c.n_isinstance (x_v 0))) (x_one (x_ch (op_pLe G) (op_pLe G) (x_v 1) (x_v 0) (x_v 2))))))
theorem sc_is_probe_order : FnScope ["count", "value", "slot"] ["count", "value"] (defScope (top 6)) := ⟨rfl, rfl, rfl, by decide +kernel, rfl, by decide +kernel, by decide +kernel⟩
theorem ok_is_probe_order (c : Ct K mg) : KnD P w K mg base 2 "is_probe_order" 2 ["count", "value"] f_is_probe_order :=
  kn_of (st := top 6) c.d_is_probe_order sc_is_probe_order fin_ok rfl rfl (fun _ _ _ _ _ _ us hl => match us, hl with | [_, _], _ => rfl) (fun _ _ _ _ _ _ us hl => match us, hl with | [_, _], _ => by kernel_rfl) fun f cdv A outer s H E hr G => by
    show PSs _ _ (TSm K b_is_probe_order)
    exact ss_cons (s_if (PW.pt (w_or (t_not (t_val (x_isaD isa_tupleD (by decide +kernel) (by rfl) c.n_tuple (by rfl) c.n_isinstance (x_v 1)))) (w_or1 (t_cmp (op_neG G) (x_len (by rfl) c.n_len (x_v 1)) (x_v 0))))) (ss_one (s_ret x_bool)) (ss_nil))
        (ss_one (s_ret (x_and (x_b1 (c_all G) (by decide +kernel) (by rfl) c.n_all (x_of_new (n_comp G (own := [("slot", 2)]) (i_seq (Gd.calm G) (x_v 1)) (blkOk_by (by kernel_rfl)) (fun _ _ _ _ _ => g_name (Gd.blk G) 2) (fun _ _ _ _ _ => ts_nil) (fun _ _ _ _ _ => x_fn (ok_is_integer c) (hr.mono (by decide)) (by rfl) (a_cons (x_v 2) (a_cons x_int (a_cons (x_op op_pSub (x_v 0) x_int) a_nil))))) isL_comp)) (x_one (x_cmp (op_eqG G) (x_lenSet G (by rfl) c.n_len (by rfl) c.n_set (x_v 1)) (x_v 0))))))
theorem sc_probe_in : FnScope ["line", "slots", "words", "order"] ["line", "slots"] (defScope (top 26)) := ⟨rfl, rfl, rfl, by decide +kernel, rfl, by decide +kernel, by decide +kernel⟩
theorem ok_probe_in (c : Ct K mg) : KnD P w K mg base 3 "probe_in" 2 ["line", "slots"] f_probe_in :=
  kn_of (st := top 26) c.d_probe_in sc_probe_in fin_ok rfl rfl (fun _ _ _ _ _ _ us hl => match us, hl with | [_, _], _ => rfl) (fun _ _ _ _ _ _ us hl => match us, hl with | [_, _], _ => by kernel_rfl) fun f cdv A outer s H E hr G => by
    show PSs _ _ (TSm K b_probe_in)
    exact ss_cons (s_asg G 2 (x_of_new (n_split (x_v 0) (x_gstr c.i_BLANK (by rfl))) isL_split))
        (ss_cons (s_asg G 3 (x_fn (ok_numbers_in c) (hr.mono (by decide)) (by rfl) (a_cons (x_cut (x_v 2) (o_e x_int) o_no) (a_cons (x_v 1) a_nil))))
        (ss_one (s_ret (x_if (PW.pt (w_and (t_cmp (op_eqG G) (x_ix G (x_v 2) x_int) (x_gstr c.i_PROBE (by rfl))) (w_and (t_notN (x_v 3)) (w_and1 (t_val (x_fn (ok_is_probe_order c) (hr.mono (by decide)) (by rfl) (a_cons (x_v 1) (a_cons (x_v 3) a_nil)))))))) (x_v 3) x_none))))
theorem sc_are_keys : FnScope ["value", "count", "key", "later"] ["value", "count"] (defScope (top 9)) := ⟨rfl, rfl, rfl, by decide +kernel, rfl, by decide +kernel, by decide +kernel⟩
theorem ok_are_keys (c : Ct K mg) : KnD P w K mg base 2 "are_keys" 2 ["value", "count"] f_are_keys :=
  kn_of (st := top 9) c.d_are_keys sc_are_keys fin_ok rfl rfl (fun _ _ _ _ _ _ us hl => match us, hl with | [_, _], _ => rfl) (fun _ _ _ _ _ _ us hl => match us, hl with | [_, _], _ => by kernel_rfl) fun f cdv A outer s H E hr G => by
    show PSs _ _ (TSm K b_are_keys)
    exact ss_cons (s_if (PW.pt (w_or (t_not (t_val (x_isaD isa_tupleD (by decide +kernel) (by rfl) c.n_tuple (by rfl) c.n_isinstance (x_v 0)))) (w_or1 (t_not (t_val (x_b1 (c_all G) (by decide +kernel) (by rfl) c.n_all (x_of_new (n_comp G (own := [("key", 2)]) (i_seq (Gd.calm G) (x_v 0)) (blkOk_by (by kernel_rfl)) (fun _ _ _ _ _ => g_name (Gd.blk G) 2) (fun _ _ _ _ _ => ts_nil) (fun _ _ _ _ _ => x_fn (ok_is_integer c) (hr.mono (by decide)) (by rfl) (a_cons (x_v 2) (a_cons x_int (a_cons (x_op op_pSub (x_v 1) x_int) a_nil))))) isL_comp))))))) (ss_one (s_ret x_bool)) (ss_nil))
        (ss_one (s_ret (x_b1 (c_all G) (by decide +kernel) (by rfl) c.n_all (x_of_new (n_comp G (own := [("key", 2), ("later", 3)]) (i_zip (by rfl) c.n_zip (x_v 0) (x_cut (x_v 0) (o_e x_int) o_no)) (blkOk_by (by kernel_rfl)) (fun _ _ _ _ _ => g_tup (Gd.blk G) (gs_cons (g_name (Gd.blk G) 2) (gs_cons (g_name (Gd.blk G) 3) gs_nil))) (fun _ _ _ _ _ => ts_nil) (fun _ _ _ _ _ => x_cmp (op_pLt (Gd.blk G)) (x_v 2) (x_v 3))) isL_comp))))
theorem sc_is_table : FnScope ["value", "count", "key", "beaten", "other"] ["value", "count"] (defScope (top 10)) := ⟨rfl, rfl, rfl, by decide +kernel, rfl, by decide +kernel, by decide +kernel⟩
theorem ok_is_table (c : Ct K mg) : KnD P w K mg base 3 "is_table" 2 ["value", "count"] f_is_table :=
  kn_of (st := top 10) c.d_is_table sc_is_table fin_ok rfl rfl (fun _ _ _ _ _ _ us hl => match us, hl with | [_, _], _ => rfl) (fun _ _ _ _ _ _ us hl => match us, hl with | [_, _], _ => by kernel_rfl) fun f cdv A outer s H E hr G => by
    show PSs _ _ (TSm K b_is_table)
    exact ss_cons (s_if (PW.pt (w_or (t_not (t_val (x_isaD isa_tupleD (by decide +kernel) (by rfl) c.n_tuple (by rfl) c.n_isinstance (x_v 0)))) (w_or (t_cmp (op_neG G) (x_len (by rfl) c.n_len (x_v 0)) (x_v 1)) (w_or1 (t_not (t_val (x_b1 (c_all G) (by decide +kernel) (by rfl) c.n_all (x_of_new (n_comp G (own := [("beaten", 3)]) (i_seq (Gd.calm G) (x_v 0)) (blkOk_by (by kernel_rfl)) (fun _ _ _ _ _ => g_name (Gd.blk G) 3) (fun _ _ _ _ _ => ts_nil) (fun _ _ _ _ _ => x_fn (ok_are_keys c) (hr.mono (by decide)) (by rfl) (a_cons (x_v 3) (a_cons (x_v 1) a_nil)))) isL_comp)))))))) (ss_one (s_ret x_bool)) (ss_nil))
        (ss_cons (s_for G PassesOwn.never (i_enum (by rfl) c.n_enumerate (x_v 0)) (g_tup G (gs_cons (g_name G 2) (gs_cons (g_name G 3) gs_nil))) (ss_one (s_for G PassesOwn.never (i_r1 (by rfl) c.n_range (x_v 1)) (g_name G 4) (ss_one (s_if (t_cmp (op_eqG G) (x_in G (x_v 4) (x_v 3)) (x_or (x_cmp (op_eqG G) (x_v 2) (x_v 4)) (x_one (x_in G (x_v 2) (x_ix G (x_v 0) (x_v 4)))))) (ss_one (s_ret x_bool)) (ss_nil))))))
        (ss_one (s_ret x_bool)))
theorem sc_beaten_in : FnScope ["word", "keys"] ["word", "keys"] (defScope (top 27)) := ⟨rfl, rfl, rfl, by decide +kernel, rfl, by decide +kernel, by decide +kernel⟩
theorem ok_beaten_in (c : Ct K mg) : KnD P w K mg base 3 "beaten_in" 2 ["word", "keys"] Mi.L.f_beaten_in :=
  kn_of (st := top 27) c.d_beaten_in sc_beaten_in fin_ok rfl rfl (fun _ _ _ _ _ _ us hl => match us, hl with | [_, _], _ => rfl) (fun _ _ _ _ _ _ us hl => match us, hl with | [_, _], _ => by kernel_rfl) fun f cdv A outer s H E hr G => by
    show PSs _ _ (TSm K Mi.L.b_beaten_in)
    exact ss_one (s_ret (x_if (t_cmp (op_eqG G) (x_v 0) (x_gstr c.i_NOTHING (by rfl))) (x_tup a_nil) (x_fn (ok_numbers_in c) (hr.mono (by decide)) (by rfl) (a_cons (x_of_new (n_split (x_v 0) (x_gstr c.i_COMMA (by rfl))) isL_split) (a_cons (x_v 1) a_nil)))))
theorem sc_table_in : FnScope ["line", "keys", "words", "table", "word"] ["line", "keys"] (defScope (top 28)) := ⟨rfl, rfl, rfl, by decide +kernel, rfl, by decide +kernel, by decide +kernel⟩
theorem ok_table_in (c : Ct K mg) : KnD P w K mg base 4 "table_in" 2 ["line", "keys"] f_table_in :=
  kn_of (st := top 28) c.d_table_in sc_table_in fin_ok rfl rfl (fun _ _ _ _ _ _ us hl => match us, hl with | [_, _], _ => rfl) (fun _ _ _ _ _ _ us hl => match us, hl with | [_, _], _ => by kernel_rfl) fun f cdv A outer s H E hr G => by
    show PSs _ _ (TSm K b_table_in)
    exact ss_cons (s_asg G 2 (x_of_new (n_split (x_v 0) (x_gstr c.i_BLANK (by rfl))) isL_split))
        (ss_cons (s_asg G 3 (x_t1 c_tuple (by decide +kernel) (by rfl) c.n_tuple (x_of_new (n_comp G (own := [("word", 4)]) (i_seq (Gd.calm G) (x_cut (x_v 2) (o_e x_int) o_no)) (blkOk_by (by kernel_rfl)) (fun _ _ _ _ _ => g_name (Gd.blk G) 4) (fun _ _ _ _ _ => ts_nil) (fun _ _ _ _ _ => x_fn (ok_beaten_in c) (hr.mono (by decide)) (by rfl) (a_cons (x_v 4) (a_cons (x_v 1) a_nil)))) isL_comp)))
        (ss_one (s_ret (x_if (PW.pt (w_and (t_cmp (op_eqG G) (x_ix G (x_v 2) x_int) (x_gstr c.i_BEATS (by rfl))) (w_and (t_notIn G x_none (x_v 3)) (w_and1 (t_val (x_fn (ok_is_table c) (hr.mono (by decide)) (by rfl) (a_cons (x_v 3) (a_cons (x_v 1) a_nil)))))))) (x_v 3) x_none))))
theorem sc_read_setting : FnScope ["source", "lines", "sizes", "keys", "slots", "found", "index", "line", "part"] ["source"] (defScope (top 29)) := ⟨rfl, rfl, rfl, by decide +kernel, rfl, by decide +kernel, by decide +kernel⟩
theorem okx_read_setting (c : Ct K mg) : KnX P w K mg base 5 "read_setting" 1 ["source"] fx_read_setting :=
  kn_ofX (st := top 29) c.d_read_setting sc_read_setting fin_ok fin_ne rfl rfl (fun _ _ _ _ _ _ us hl => match us, hl with | [_], _ => rfl) fun f cdv A outer s H E hr G tk hp => by
    show PSs _ _ (TSx K E bx_read_setting)
    exact ssx_cons (sx_asg G 1 (x_fnX (okx_lines_of c) (hr.mono (by decide)) tk (by rfl) (a_cons (x_v 0) a_nil)))
        (ssx_cons (sx_lift (s_asg G 2 (x_fn (ok_sizes_in c) (hr.mono (by decide)) (by rfl) (a_cons (x_ix G (x_v 1) x_int) a_nil))))
        (ssx_cons (sx_if (t_isN (x_v 2)) (ssx_one (s_raiseI (oki_BadText c) c.ec_BadText c.nf_BadText G tk (hr.mono (by decide)) (by rfl) x_int)) (ssx_nil))
        (ssx_cons (sx_lift (s_unp (x_v 2) (g_tup G (gs_cons (g_name G 3) (gs_cons (g_name G 4) gs_nil)))))
        (ssx_cons (sx_lift (s_asg G 5 (x_new (n_lst a_nil))))
        (ssx_cons (sx_forT G hp (i_enum (by rfl) c.n_enumerate (x_cut (x_v 1) (o_e x_int) o_no)) (g_tup G (gs_cons (g_name G 6) (gs_cons (g_name G 7) gs_nil))) (ssx_cons (sx_lift (s_asg G 8 (x_if (t_cmp (op_pLt G) (x_v 6) (x_v 3)) (x_fn (ok_probe_in c) (hr.mono (by decide)) (by rfl) (a_cons (x_v 7) (a_cons (x_v 4) a_nil))) (x_fn (ok_table_in c) (hr.mono (by decide)) (by rfl) (a_cons (x_v 7) (a_cons (x_v 3) a_nil))))))
        (ssx_cons (sx_if (PW.pt (w_or (t_isN (x_v 8)) (w_or1 (t_cmp (op_pGe G) (x_v 6) (x_op op_pAdd (x_v 3) (x_v 4)))))) (ssx_one (s_raiseI (oki_BadText c) c.ec_BadText c.nf_BadText G tk (hr.mono (by decide)) (by rfl) (x_op op_pAdd (x_v 6) x_int))) (ssx_nil))
        (ss_lift (have G := gd_nox G; ss_one (s_drop (x_append (x_v 5) (x_v 8))))))))
        (ssx_cons (sx_if (t_cmp (op_pLt G) (x_len (by rfl) c.n_len (x_v 5)) (x_op op_pAdd (x_v 3) (x_v 4))) (ssx_one (s_raiseI (oki_BadText c) c.ec_BadText c.nf_BadText G tk (hr.mono (by decide)) (by rfl) (x_len (by rfl) c.n_len (x_v 1)))) (ssx_nil))
        (ss_lift (have G := gd_nox G; ss_one (s_ret (x_tup (a_cons (x_t1 c_tuple (by decide +kernel) (by rfl) c.n_tuple (x_cut (x_v 5) o_no (o_e (x_v 3)))) (a_cons (x_t1 c_tuple (by decide +kernel) (by rfl) c.n_tuple (x_cut (x_v 5) (o_e (x_v 3)) o_no)) a_nil))))))))))))
theorem sc_are_unlike : FnScope ["keys"] ["keys"] (defScope (top 30)) := ⟨rfl, rfl, rfl, by decide +kernel, rfl, by decide +kernel, by decide +kernel⟩
theorem ok_are_unlike (c : Ct K mg) : KnD P w K mg base 1 "are_unlike" 1 ["keys"] Mi.L.f_are_unlike :=
  kn_of (st := top 30) c.d_are_unlike sc_are_unlike fin_ok rfl rfl (fun _ _ _ _ _ _ us hl => match us, hl with | [_], _ => rfl) (fun _ _ _ _ _ _ us hl => match us, hl with | [_], _ => by kernel_rfl) fun f cdv A outer s H E hr G => by
    show PSs _ _ (TSm K Mi.L.b_are_unlike)
    exact ss_one (s_ret (x_cmp (op_eqG G) (x_lenSetN G (by rfl) c.n_len (by rfl) c.n_set (x_v 0)) (x_len (by rfl) c.n_len (x_v 0))))
theorem sc_read_layout : FnScope ["source", "entries", "word", "key"] ["source"] (defScope (top 31)) := ⟨rfl, rfl, rfl, by decide +kernel, rfl, by decide +kernel, by decide +kernel⟩
theorem okx_read_layout (c : Ct K mg) : KnX P w K mg base 3 "read_layout" 1 ["source"] fx_read_layout :=
  kn_ofX (st := top 31) c.d_read_layout sc_read_layout fin_ok fin_ne rfl rfl (fun _ _ _ _ _ _ us hl => match us, hl with | [_], _ => rfl) fun f cdv A outer s H E hr G tk hp => by
    show PSs _ _ (TSx K E bx_read_layout)
    exact ssx_cons (sx_if (PW.pt (w_or (t_not (t_val (x_isaD isa_strD (by decide +kernel) (by rfl) c.n_str (by rfl) c.n_isinstance (x_v 0)))) (w_or1 (t_in G (x_gstr c.i_FEED (by rfl)) (x_v 0))))) (ssx_one (s_raiseI (oki_BadText c) c.ec_BadText c.nf_BadText G tk (hr.mono (by decide)) (by rfl) x_int)) (ssx_nil))
        (ssx_cons (sx_lift (s_asg_of (s_asgC G 1 (hsw := sw_true rfl rfl rfl (by kernel_rfl)) (own := [("word", 2)]) (i_seq (Gd.calm G) (x_of_new (n_split (x_v 0) (x_gstr c.i_BLANK (by rfl))) isL_split)) (blkOk_by (by kernel_rfl)) (fun _ _ _ _ _ => g_name (Gd.blk G) 2) (fun _ _ _ _ _ => ts_nil) (fun _ _ _ _ _ => x_if (t_cmp (op_eqG (Gd.blk G)) (x_v 2) (x_gstr c.i_NOTHING (by rfl))) (x_gint c.i_EMPTY (by rfl)) (x_fn (ok_number_in c) (hr.mono (by decide)) (by rfl) (a_cons (x_v 2) (a_cons (x_gint c.i_MOST (by rfl)) a_nil))))) (fun _ _ _ h => tX_tN isL_comp h)))
        (ssx_cons (sx_if (PW.pt (w_or (t_cmp (op_pGt G) (x_len (by rfl) c.n_len (x_v 1)) (x_gint c.i_MOST (by rfl))) (w_or (t_in G x_none (x_v 1)) (w_or1 (t_not (t_val (x_fn (ok_are_unlike c) (hr.mono (by decide)) (by rfl) (a_cons (x_of_new (n_comp G (own := [("key", 3)]) (i_seq (Gd.calm G) (x_v 1)) (blkOk_by (by kernel_rfl)) (fun _ _ _ _ _ => g_name (Gd.blk G) 3) (fun _ _ _ _ _ => ts_one (t_cmp (op_neG (Gd.blk G)) (x_v 3) (x_gint c.i_EMPTY (by rfl)))) (fun _ _ _ _ _ => x_v 3)) isL_comp) a_nil)))))))) (ssx_one (s_raiseI (oki_BadText c) c.ec_BadText c.nf_BadText G tk (hr.mono (by decide)) (by rfl) x_int)) (ssx_nil))
        (ss_lift (have G := gd_nox G; ss_one (s_ret (x_t1 c_tuple (by decide +kernel) (by rfl) c.n_tuple (x_v 1)))))))
theorem sc_read_history : FnScope ["source", "keys"] ["source"] (defScope (top 32)) := ⟨rfl, rfl, rfl, by decide +kernel, rfl, by decide +kernel, by decide +kernel⟩
theorem okx_read_history (c : Ct K mg) : KnX P w K mg base 3 "read_history" 1 ["source"] fx_read_history :=
  kn_ofX (st := top 32) c.d_read_history sc_read_history fin_ok fin_ne rfl rfl (fun _ _ _ _ _ _ us hl => match us, hl with | [_], _ => rfl) fun f cdv A outer s H E hr G tk hp => by
    show PSs _ _ (TSx K E bx_read_history)
    exact ssx_cons (sx_if (PW.pt (w_or (t_not (t_val (x_isaD isa_strD (by decide +kernel) (by rfl) c.n_str (by rfl) c.n_isinstance (x_v 0)))) (w_or1 (t_in G (x_gstr c.i_FEED (by rfl)) (x_v 0))))) (ssx_one (s_raiseI (oki_BadText c) c.ec_BadText c.nf_BadText G tk (hr.mono (by decide)) (by rfl) x_int)) (ssx_nil))
        (ssx_cons (sx_lift (s_asg G 1 (x_if (t_cmp (op_eqG G) (x_v 0) (x_gstr c.i_NOTHING (by rfl))) (x_tup a_nil) (x_fn (ok_numbers_in c) (hr.mono (by decide)) (by rfl) (a_cons (x_of_new (n_split (x_v 0) (x_gstr c.i_BLANK (by rfl))) isL_split) (a_cons (x_gint c.i_MOST (by rfl)) a_nil))))))
        (ssx_cons (sx_if (PW.pt (w_or (t_isN (x_v 1)) (w_or1 (t_not (t_val (x_fn (ok_are_unlike c) (hr.mono (by decide)) (by rfl) (a_cons (x_v 1) a_nil))))))) (ssx_one (s_raiseI (oki_BadText c) c.ec_BadText c.nf_BadText G tk (hr.mono (by decide)) (by rfl) x_int)) (ssx_nil))
        (ss_lift (have G := gd_nox G; ss_one (s_ret (x_v 1))))))
theorem sc__law_caught : FnScope ["_law_call", "_law_caught_here", "_law_told", "error", "_law_is_other"] ["_law_call"] (defScope (top 37)) := ⟨rfl, rfl, rfl, by decide +kernel, rfl, by decide +kernel, by decide +kernel⟩
theorem okc__law_caught (c : Ct K mg) : KnC P w K mg base 0 "_law_caught" "_law_call" Mi.L.f_l_caught :=
  kn_ofC (st := top 37) (slots := 5) (b := Mi.L.b_l_caught) c.d__law_caught sc__law_caught rfl (by first | exact Or.inl rfl | exact Or.inr (Or.inl rfl)) rfl (by decide) (by decide) (fun _ _ _ _ _ _ us hl => match us, hl with | [_], _ => rfl) fun g cl cdv A outer s H hr G act => by
    show PSs _ _ (TSm K (Mi.L.b_l_caught cl))
    exact ss_cons (s_unp (x_tup (a_cons x_none (a_cons x_none a_nil))) (g_tup G (gs_cons (g_name G 1) (gs_cons (g_name G 2) gs_nil))))
        (ss_cons (s_tryA c.xm_LayoutError rfl rfl rfl G ⟨by rfl, by decide, .inl c.gl_LayoutError⟩ (fun W pn xe G tk => act W pn xe _ _ tk) 2 3 1)
        (ss_cons (s_if (t_isN (x_v 1)) (ss_one (s_ret (x_tup (a_cons x_str (a_cons (x_v 2) a_nil))))) (ss_nil))
        (ss_cons (s_asg G 4 (x_or (x_not (x_isX (tb := [("BadText", true), ("BadLine", false)]) c.gl_BadText c.kt_BadText (by rfl) (by rfl) c.n_isinstance (x_v 1))) (x_one (x_isX (tb := [("BadText", false), ("BadLine", true)]) c.gl_BadLine c.kt_BadLine (by rfl) (by rfl) c.n_isinstance (x_v 1)))))
        (ss_one (s_ret (x_if (t_val (x_v 4)) (x_tup (a_cons x_str (a_cons x_str a_nil))) (x_tup (a_cons x_str (a_cons (x_fld (cs := ["BadText", "BadLine"]) c.fl_line (x_v 1)) a_nil)))))))))
theorem sc__law_asked : FnScope ["_law_thing", "_law_kept", "_law_told"] ["_law_thing"] (defScope (top 39)) := ⟨rfl, rfl, rfl, by decide +kernel, rfl, by decide +kernel, by decide +kernel⟩
theorem ok__law_asked {T : Nat → Nat} (c : Ct K mg) (tb : TbA base mg K tdefs T) : KnD P w K mg base 8 "_law_asked" 1 ["_law_thing"] (f__law_asked T) :=
  kn_ofT (st := top 39) c.d__law_asked c.e__law_asked sc__law_asked fin_ok rfl rfl (fun _ _ _ _ _ _ us hl => match us, hl with | [_], _ => rfl) (fun _ _ _ _ _ _ us hl => match us, hl with | [_], _ => by kernel_rfl) fun f cdv hcd A outer s H E hr G => by
    subst hcd
    show PSs _ _ (TSm K (b__law_asked T))
    exact ss_cons (s_asg G 1 (x_b1 (c_reprD c.sm G) (by decide +kernel) (by rfl) c.n_repr (x_v 0)))
        (ss_cons (s_asg G 2 (x_new (n_lst (a_cons (x_lam (okc__law_caught c) G (hr.mono (by decide)) (hr.mono (by decide)) (tb 0 _ rfl) rfl (by kernel_rfl) (by rfl) (LamX.lamS_by (by kernel_rfl)) (j := 5) (fun _ _ _ _ _ _ _ hr G tk => x_fnX (okx_read_setting c) (hr.mono (by decide)) tk (by rfl) (a_cons (x_v 0) a_nil))) a_nil))))
        (ss_cons (s_drop (x_append (x_v 2) (x_lam (okc__law_caught c) G (hr.mono (by decide)) (hr.mono (by decide)) (tb 0 _ rfl) rfl (by kernel_rfl) (by rfl) (LamX.lamS_by (by kernel_rfl)) (j := 3) (fun _ _ _ _ _ _ _ hr G tk => x_fnX (okx_read_layout c) (hr.mono (by decide)) tk (by rfl) (a_cons (x_v 0) a_nil)))))
        (ss_cons (s_drop (x_append (x_v 2) (x_lam (okc__law_caught c) G (hr.mono (by decide)) (hr.mono (by decide)) (tb 0 _ rfl) rfl (by kernel_rfl) (by rfl) (LamX.lamS_by (by kernel_rfl)) (j := 3) (fun _ _ _ _ _ _ _ hr G tk => x_fnX (okx_read_history c) (hr.mono (by decide)) tk (by rfl) (a_cons (x_v 0) a_nil)))))
        (ss_one (s_ret (x_and (x_cmp (op_eqG G) (x_b1 (c_reprD c.sm G) (by decide +kernel) (by rfl) c.n_repr (x_v 2)) (x_b1 (c_reprD c.sm G) (by decide +kernel) (by rfl) c.n_repr (x_op op_pMul (x_of_new (n_lst (a_cons (x_tup (a_cons x_str (a_cons x_int a_nil))) a_nil)) isL_lst) x_int))) (x_one (x_cmp (op_eqG G) (x_b1 (c_reprD c.sm G) (by decide +kernel) (by rfl) c.n_repr (x_v 0)) (x_v 1)))))))))
theorem sc__law_right : FnScope ["_law_pot_here", "_law_some", "_law_thing"] ["_law_pot_here"] (defScope (top 40)) := ⟨rfl, rfl, rfl, by decide +kernel, rfl, by decide +kernel, by decide +kernel⟩
theorem ok__law_right {T : Nat → Nat} (c : Ct K mg) (tb : TbA base mg K tdefs T) : KnD P w K mg base 9 "_law_right" 1 ["_law_pot_here"] (f__law_right T) :=
  kn_of (st := top 40) c.d__law_right sc__law_right fin_ok rfl rfl (fun _ _ _ _ _ _ us hl => match us, hl with | [_], _ => rfl) (fun _ _ _ _ _ _ us hl => match us, hl with | [_], _ => by kernel_rfl) fun f cdv A outer s H E hr G => by
    show PSs _ _ (TSm K (b__law_right T))
    exact ss_cons (s_asg G 1 (x_of_new (n_lst (a_cons x_none (a_cons x_bool (a_cons x_bool (a_cons x_int (a_cons x_int (a_cons (x_un un_pNeg x_int) (a_cons (x_op op_pPow x_int x_int) (a_cons (x_tup a_nil) (a_cons (x_of_new (n_lst a_nil) isL_lst) (a_cons x_dict0 (a_cons (x_tup (a_cons x_str a_nil)) (a_cons (x_of_new (n_lst (a_cons x_str a_nil)) isL_lst) (a_cons (x_disp1 (.inr "0") pe_str x_str) (a_cons (x_tup (a_cons (x_tup (a_cons x_int a_nil)) a_nil)) (a_cons (x_tup (a_cons (x_tup a_nil) a_nil)) (a_cons (x_tup (a_cons x_int (a_cons (x_un un_pNeg x_int) a_nil))) a_nil))))))))))))))))) isL_lst))
        (ss_cons (s_for G PassesOwn.never (i_seq (Gd.calm G) (x_v 1)) (g_name G 2) (ss_one (s_if (PW.pt (w_or (t_not (t_val (x_fn (ok__law_asked c tb) (hr.mono (by decide)) (by rfl) (a_cons (x_v 2) a_nil)))) (w_or1 (t_not (t_val (x_fn (ok__law_asked c tb) (hr.mono (by decide)) (by rfl) (a_cons (x_fn (ok__law_wrapped c) (hr.mono (by decide)) (by rfl) (a_cons (x_v 0) (a_cons (x_v 2) (a_cons (x_fn (ok__law_take c) (hr.mono (by decide)) (by rfl) (a_cons (x_v 0) (a_cons x_int a_nil))) a_nil)))) a_nil))))))) (ss_one (s_ret x_bool)) (ss_nil))))
        (ss_one (s_ret (x_fn (ok__law_asked c tb) (hr.mono (by decide)) (by rfl) (a_cons x_str a_nil)))))
theorem sc_law : FnScope ["_law_script", "_law_k"] ["_law_script"] (defScope (top 41)) := ⟨rfl, rfl, rfl, by decide +kernel, rfl, by decide +kernel, by decide +kernel⟩
theorem ok_law {T : Nat → Nat} (c : Ct K mg) (tb : TbA base mg K tdefs T) : KnD P w K mg base 10 "law" 1 ["_law_script"] (f_law T) :=
  kn_of (st := top 41) c.d_law sc_law fin_ok rfl rfl (fun _ _ _ _ _ _ us hl => match us, hl with | [_], _ => rfl) (fun _ _ _ _ _ _ us hl => match us, hl with | [_], _ => by kernel_rfl) fun f cdv A outer s H E hr G => by
    show PSs _ _ (TSm K (b_law T))
    exact ss_one (s_ret (x_b1 (c_all G) (by decide +kernel) (by rfl) c.n_all (x_of_new (n_comp G (own := [("_law_k", 1)]) (i_r1 (by rfl) c.n_range (x_b2 (c_max2 G) (by decide +kernel) (by rfl) c.n_max x_int (x_b2 (c_min2 G) (by decide +kernel) (by rfl) c.n_min x_int (x_len (by rfl) c.n_len (x_v 0))))) (blkOk_by (by kernel_rfl)) (fun _ _ _ _ _ => g_name (Gd.blk G) 1) (fun _ _ _ _ _ => ts_nil) (fun _ _ _ _ _ => x_fn (ok__law_right c tb) (hr.mono (by decide)) (by rfl) (a_cons (x_fn (ok__law_pot c) (hr.mono (by decide)) (by rfl) (a_cons (x_v 0) (a_cons (x_v 1) a_nil))) a_nil))) isL_comp)))
end
def loose0 : List Str := ["LayoutError", "BadText", "BadLine", "is_integer", "is_probe_order", "MOST", "are_keys", "is_table", "BLANK", "FEED", "COMMA", "NOTHING", "KEYS", "SLOTS", "PROBE", "BEATS", "EMPTY", "SIZE_WORDS", "lines_of", "number_in", "numbers_in", "sizes_in", "probe_in", "beaten_in", "table_in", "read_setting", "are_unlike", "read_layout", "read_history", "_law_pot"]
def loose1 : List Str := ["_law_take", "_law_pick", "_law_caught", "_law_wrapped", "_law_asked", "_law_right"]
def loose : List Str := loose0 ++ loose1
def dd_BadText : He.DefD := ⟨("BadText", some "__init__"), "__init__", "BadText.__init__", defArgs (clsM (top 2) 0), defBody (clsM (top 2) 0), defScope (clsM (top 2) 0), [], []⟩
def dd__law_pot : He.DefD := ⟨("_law_pot", none), "_law_pot", "_law_pot", defArgs (top 34), defBody (top 34), defScope (top 34), [], []⟩
def dd__law_take : He.DefD := ⟨("_law_take", none), "_law_take", "_law_take", defArgs (top 35), defBody (top 35), defScope (top 35), [], []⟩
def dd__law_pick : He.DefD := ⟨("_law_pick", none), "_law_pick", "_law_pick", defArgs (top 36), defBody (top 36), defScope (top 36), [], []⟩
def dd__law_wrapped : He.DefD := ⟨("_law_wrapped", none), "_law_wrapped", "_law_wrapped", defArgs (top 38), defBody (top 38), defScope (top 38), [], []⟩
def dd_lines_of : He.DefD := ⟨("lines_of", none), "lines_of", "lines_of", defArgs (top 22), defBody (top 22), defScope (top 22), [], []⟩
def dd_number_in : He.DefD := ⟨("number_in", none), "number_in", "number_in", defArgs (top 23), defBody (top 23), defScope (top 23), [], []⟩
def dd_numbers_in : He.DefD := ⟨("numbers_in", none), "numbers_in", "numbers_in", defArgs (top 24), defBody (top 24), defScope (top 24), [], []⟩
def dd_sizes_in : He.DefD := ⟨("sizes_in", none), "sizes_in", "sizes_in", defArgs (top 25), defBody (top 25), defScope (top 25), [], []⟩
def dd_is_integer : He.DefD := ⟨("is_integer", none), "is_integer", "is_integer", defArgs (top 5), defBody (top 5), defScope (top 5), [], []⟩
def dd_is_probe_order : He.DefD := ⟨("is_probe_order", none), "is_probe_order", "is_probe_order", defArgs (top 6), defBody (top 6), defScope (top 6), [], []⟩
def dd_probe_in : He.DefD := ⟨("probe_in", none), "probe_in", "probe_in", defArgs (top 26), defBody (top 26), defScope (top 26), [], []⟩
def dd_are_keys : He.DefD := ⟨("are_keys", none), "are_keys", "are_keys", defArgs (top 9), defBody (top 9), defScope (top 9), [], []⟩
def dd_is_table : He.DefD := ⟨("is_table", none), "is_table", "is_table", defArgs (top 10), defBody (top 10), defScope (top 10), [], []⟩
def dd_beaten_in : He.DefD := ⟨("beaten_in", none), "beaten_in", "beaten_in", defArgs (top 27), defBody (top 27), defScope (top 27), [], []⟩
def dd_table_in : He.DefD := ⟨("table_in", none), "table_in", "table_in", defArgs (top 28), defBody (top 28), defScope (top 28), [], []⟩
def dd_read_setting : He.DefD := ⟨("read_setting", none), "read_setting", "read_setting", defArgs (top 29), defBody (top 29), defScope (top 29), [], []⟩
def dd_are_unlike : He.DefD := ⟨("are_unlike", none), "are_unlike", "are_unlike", defArgs (top 30), defBody (top 30), defScope (top 30), [], []⟩
def dd_read_layout : He.DefD := ⟨("read_layout", none), "read_layout", "read_layout", defArgs (top 31), defBody (top 31), defScope (top 31), [], []⟩
def dd_read_history : He.DefD := ⟨("read_history", none), "read_history", "read_history", defArgs (top 32), defBody (top 32), defScope (top 32), [], []⟩
def dd__law_caught : He.DefD := ⟨("_law_caught", none), "_law_caught", "_law_caught", defArgs (top 37), defBody (top 37), defScope (top 37), [], []⟩
def dd__law_asked : He.DefD := ⟨("_law_asked", none), "_law_asked", "_law_asked", defArgs (top 39), defBody (top 39), defScope (top 39), [], []⟩
def dd__law_right : He.DefD := ⟨("_law_right", none), "_law_right", "_law_right", defArgs (top 40), defBody (top 40), defScope (top 40), [], []⟩
def dd_law : He.DefD := ⟨("law", none), "law", "law", defArgs (top 41), defBody (top 41), defScope (top 41), [], []⟩
def fns : List He.DefD := [dd__law_pot, dd__law_take, dd__law_pick, dd__law_wrapped, dd_lines_of, dd_number_in, dd_numbers_in, dd_sizes_in, dd_is_integer, dd_is_probe_order, dd_probe_in, dd_are_keys, dd_is_table, dd_beaten_in, dd_table_in, dd_read_setting, dd_are_unlike, dd_read_layout, dd_read_history, dd__law_caught, dd__law_asked, dd__law_right, dd_law, dd_BadText]
def fas : List He.Fa := [.glo "_law_pot", .glo "_law_take", .glo "_law_pick", .glo "_law_wrapped", .glo "lines_of", .glo "number_in", .glo "numbers_in", .glo "sizes_in", .glo "is_integer", .glo "is_probe_order", .glo "probe_in", .glo "are_keys", .glo "is_table", .glo "beaten_in", .glo "table_in", .glo "read_setting", .glo "are_unlike", .glo "read_layout", .glo "read_history", .glo "_law_caught", .glo "_law_asked", .glo "_law_right", .glo "law", .glo "BadText", .glo "LayoutError", .glo "BadLine", .free "abs", .free "all", .free "bool", .free "enumerate", .free "int", .free "isinstance", .free "len", .free "max", .free "min", .free "range", .free "repr", .free "set", .free "str", .free "tuple", .free "zip", .str "BEATS" "beats", .str "BLANK" " ", .str "COMMA" ",", .int "EMPTY" (-1), .str "FEED" "\n", .str "KEYS" "keys", .int "MOST" 16, .str "NOTHING" "-", .str "PROBE" "probe", .int "SIZE_WORDS" 4, .str "SLOTS" "slots"]
abbrev RR : PySem.W.OpenRow := PySem.W.OpenLaw.row PySem.Challenge.rw_samelayout_k49_values_that_are_no_texts
def exl (K : PySem.W.Frag) : List Bool := [errIB K "BadText", nfB K "BadText" "line", exmB K ["BadText", "BadLine"] "LayoutError", kitB K [("BadText", true), ("BadLine", false)] (.ref (He.ga K "BadText")), kitB K [("BadText", false), ("BadLine", true)] (.ref (He.ga K "BadLine")), fldB K ["BadText", "BadLine"] "line", baseB K "LayoutError", tabB K (tfOf tds), (K.lookup sysModules).isSome]
def exq (K : PySem.W.Frag) : Bool := (exl K).all id
abbrev hk : PySem.W.Hook := Mi.hookY 4 fas fns (tfOf tds) exq
def ob (s : PySem.W.SharedT) : He.AlX := Mi.obsY 4 fas fns (tfOf tds) exq (HandSHeadRun.getT s)
theorem ob_eq (s : PySem.W.SharedT) : ob s = hk.obs s.abs := Mi.obsY_eq (HandSHeadRun.getT_eq s)
theorem run (w : World) : HandSHeadRun.RunEq RR (PySem.W.view RR.prog [41]) hk ob 4000 loose w := by
  intro os
  kernel_rfl
theorem ct {K : PySem.W.Frag} {h : Heap} {mg : Str → Option Value} (X : K.In h) (G : h.Ns mainGlobals mg) (c : He.SaysD fas fns K) (m : (exl K).all id = true) : Ct K mg :=
  ⟨(by obtain ⟨fd, F⟩ := c.def_ 0 (d := dd__law_pot) rfl; exact ⟨_, fd, He.glo_ok X G (c.fact 0 (f := .glo "_law_pot") rfl), F⟩), (by obtain ⟨fd, F⟩ := c.def_ 1 (d := dd__law_take) rfl; exact ⟨_, fd, He.glo_ok X G (c.fact 1 (f := .glo "_law_take") rfl), F⟩), (by obtain ⟨fd, F⟩ := c.def_ 2 (d := dd__law_pick) rfl; exact ⟨_, fd, He.glo_ok X G (c.fact 2 (f := .glo "_law_pick") rfl), F⟩), (by obtain ⟨fd, F⟩ := c.def_ 3 (d := dd__law_wrapped) rfl; exact ⟨_, fd, He.glo_ok X G (c.fact 3 (f := .glo "_law_wrapped") rfl), F⟩), (by obtain ⟨fd, F⟩ := c.def_ 4 (d := dd_lines_of) rfl; exact ⟨_, fd, He.glo_ok X G (c.fact 4 (f := .glo "lines_of") rfl), F⟩), (by obtain ⟨fd, F⟩ := c.def_ 5 (d := dd_number_in) rfl; exact ⟨_, fd, He.glo_ok X G (c.fact 5 (f := .glo "number_in") rfl), F⟩), (by obtain ⟨fd, F⟩ := c.def_ 6 (d := dd_numbers_in) rfl; exact ⟨_, fd, He.glo_ok X G (c.fact 6 (f := .glo "numbers_in") rfl), F⟩), (by obtain ⟨fd, F⟩ := c.def_ 7 (d := dd_sizes_in) rfl; exact ⟨_, fd, He.glo_ok X G (c.fact 7 (f := .glo "sizes_in") rfl), F⟩), (by obtain ⟨fd, F⟩ := c.def_ 8 (d := dd_is_integer) rfl; exact ⟨_, fd, He.glo_ok X G (c.fact 8 (f := .glo "is_integer") rfl), F⟩), (by obtain ⟨fd, F⟩ := c.def_ 9 (d := dd_is_probe_order) rfl; exact ⟨_, fd, He.glo_ok X G (c.fact 9 (f := .glo "is_probe_order") rfl), F⟩), (by obtain ⟨fd, F⟩ := c.def_ 10 (d := dd_probe_in) rfl; exact ⟨_, fd, He.glo_ok X G (c.fact 10 (f := .glo "probe_in") rfl), F⟩), (by obtain ⟨fd, F⟩ := c.def_ 11 (d := dd_are_keys) rfl; exact ⟨_, fd, He.glo_ok X G (c.fact 11 (f := .glo "are_keys") rfl), F⟩), (by obtain ⟨fd, F⟩ := c.def_ 12 (d := dd_is_table) rfl; exact ⟨_, fd, He.glo_ok X G (c.fact 12 (f := .glo "is_table") rfl), F⟩), (by obtain ⟨fd, F⟩ := c.def_ 13 (d := dd_beaten_in) rfl; exact ⟨_, fd, He.glo_ok X G (c.fact 13 (f := .glo "beaten_in") rfl), F⟩), (by obtain ⟨fd, F⟩ := c.def_ 14 (d := dd_table_in) rfl; exact ⟨_, fd, He.glo_ok X G (c.fact 14 (f := .glo "table_in") rfl), F⟩), (by obtain ⟨fd, F⟩ := c.def_ 15 (d := dd_read_setting) rfl; exact ⟨_, fd, He.glo_ok X G (c.fact 15 (f := .glo "read_setting") rfl), F⟩), (by obtain ⟨fd, F⟩ := c.def_ 16 (d := dd_are_unlike) rfl; exact ⟨_, fd, He.glo_ok X G (c.fact 16 (f := .glo "are_unlike") rfl), F⟩), (by obtain ⟨fd, F⟩ := c.def_ 17 (d := dd_read_layout) rfl; exact ⟨_, fd, He.glo_ok X G (c.fact 17 (f := .glo "read_layout") rfl), F⟩), (by obtain ⟨fd, F⟩ := c.def_ 18 (d := dd_read_history) rfl; exact ⟨_, fd, He.glo_ok X G (c.fact 18 (f := .glo "read_history") rfl), F⟩), (by obtain ⟨fd, F⟩ := c.def_ 19 (d := dd__law_caught) rfl; exact ⟨_, fd, He.glo_ok X G (c.fact 19 (f := .glo "_law_caught") rfl), F⟩), (by obtain ⟨fd, F⟩ := c.def_ 20 (d := dd__law_asked) rfl; exact ⟨_, fd, He.glo_ok X G (c.fact 20 (f := .glo "_law_asked") rfl), F⟩), (by obtain ⟨fd, F⟩ := c.def_ 21 (d := dd__law_right) rfl; exact ⟨_, fd, He.glo_ok X G (c.fact 21 (f := .glo "_law_right") rfl), F⟩), (by obtain ⟨fd, F⟩ := c.def_ 22 (d := dd_law) rfl; exact ⟨_, fd, He.glo_ok X G (c.fact 22 (f := .glo "law") rfl), F⟩), (He.glo_ok X G (c.fact 20 (f := .glo "_law_asked") rfl)), (He.free_ok X G (c.fact 26 (f := .free "abs") rfl)), (He.free_ok X G (c.fact 27 (f := .free "all") rfl)), (He.free_ok X G (c.fact 28 (f := .free "bool") rfl)), (He.free_ok X G (c.fact 29 (f := .free "enumerate") rfl)), (He.free_ok X G (c.fact 30 (f := .free "int") rfl)), (He.free_ok X G (c.fact 31 (f := .free "isinstance") rfl)), (He.free_ok X G (c.fact 32 (f := .free "len") rfl)), (He.free_ok X G (c.fact 33 (f := .free "max") rfl)), (He.free_ok X G (c.fact 34 (f := .free "min") rfl)), (He.free_ok X G (c.fact 35 (f := .free "range") rfl)), (He.free_ok X G (c.fact 36 (f := .free "repr") rfl)), (He.free_ok X G (c.fact 37 (f := .free "set") rfl)), (He.free_ok X G (c.fact 38 (f := .free "str") rfl)), (He.free_ok X G (c.fact 39 (f := .free "tuple") rfl)), (He.free_ok X G (c.fact 40 (f := .free "zip") rfl)), (He.str_ok X G (c.fact 41 (f := .str "BEATS" "beats") rfl)), (He.str_ok X G (c.fact 42 (f := .str "BLANK" " ") rfl)), (He.str_ok X G (c.fact 43 (f := .str "COMMA" ",") rfl)), (He.int_ok X G (c.fact 44 (f := .int "EMPTY" (-1)) rfl)), (He.str_ok X G (c.fact 45 (f := .str "FEED" "\n") rfl)), (He.str_ok X G (c.fact 46 (f := .str "KEYS" "keys") rfl)), (He.int_ok X G (c.fact 47 (f := .int "MOST" 16) rfl)), (He.str_ok X G (c.fact 48 (f := .str "NOTHING" "-") rfl)), (He.str_ok X G (c.fact 49 (f := .str "PROBE" "probe") rfl)), (He.int_ok X G (c.fact 50 (f := .int "SIZE_WORDS" 4) rfl)), (He.str_ok X G (c.fact 51 (f := .str "SLOTS" "slots") rfl)), (He.glo_ok X G (c.fact 23 (f := .glo "BadText") rfl)), (He.glo_ok X G (c.fact 24 (f := .glo "LayoutError") rfl)), (He.glo_ok X G (c.fact 25 (f := .glo "BadLine") rfl)), (by obtain ⟨fd, F⟩ := c.def_ 23 (d := dd_BadText) rfl; exact ⟨fd, F⟩), (errIB_ok (He.glo_ok X G (c.fact 23 (f := .glo "BadText") rfl)) (all_at m 0 rfl)), (of_decide_eq_true (all_at m 1 rfl)), (exmB_ok (all_at m 2 rfl)), (kitB_ok (all_at m 3 rfl)), (kitB_ok (all_at m 4 rfl)), (fldB_ok (all_at m 5 rfl)), (baseB_ok (He.glo_ok X G (c.fact 24 (f := .glo "LayoutError") rfl)) (all_at m 6 rfl)), (all_at m 8 rfl)⟩
end K49
open PySem PySem.W PySem.Calls PyProof.Rows
theorem K49.holds_of (hlaw : ∀ (T : Nat → Nat) (ns : List Int), ns.length ≤ 63 → K49.f_law T [.scr ns] [.tab (T 0) "_law_asked.<locals>.<lambda>"] = .ok (.p (.bool true), [.tab (T 0) "_law_asked.<locals>.<lambda>"])) : PySem.Challenge.rw_samelayout_k49_values_that_are_no_texts.Holds := by
  w_on; o_law
  refine HandSHeadRun.head_any (r := OpenLaw.row PySem.Challenge.rw_samelayout_k49_values_that_are_no_texts) (q := view (OpenLaw.row PySem.Challenge.rw_samelayout_k49_values_that_are_no_texts).prog [41]) (H := K49.hk) (ob := K49.ob) (M := 4000) (loose := K49.loose) (d := HandSHeadRun.topDef (OpenLaw.row PySem.Challenge.rw_samelayout_k49_values_that_are_no_texts).prog 41) (kwd := []) K49.ob_eq
    (by kernel_rfl) (fun s => by kernel_rfl) K49.run (by kernel_rfl) (by kernel_rfl) (by kernel_rfl) (by rfl) (by first | assumption | decide +kernel) (by decide +kernel) ⟨rfl, rfl, rfl, rfl, rfl, by decide +kernel⟩ ?hw ?hc
  case hw => w_witness2
  case hc =>
    refine Mi.walk_ofGTs (l := PySem.Challenge.rw_samelayout_k49_values_that_are_no_texts) (n := 63) (k := 10) (x := "_law_script") (qs := ["_law_asked.<locals>.<lambda>"]) (fn := K49.f_law) rfl (by decide) (by kernel_rfl) ⟨⟨rfl, by decide, by decide⟩, rfl⟩ ?F hlaw
    intro w mg fa h Y G hmg0
    obtain ⟨K, KX, c⟩ := Y
    have e : (HandSHeadRun.topDef (OpenLaw.row PySem.Challenge.rw_samelayout_k49_values_that_are_no_texts).prog 41).name = ("law" : PySem.Str) := by kernel_rfl
    rw [e]
    obtain ⟨t1, t2, t3, t4, t5⟩ := Mi.tl_ok (ds := K49.tds) c (Mi.all_at (l := K49.exl K) c.more 7 rfl)
    exact ⟨K, Mi.tlOf K K49.tds, KX, t1, t2, t3, t4, t5, fun base _ _ tb => K49.ok_law (K49.ct KX G c.t.d c.more) (Mi.tbA_of tb)⟩
end
section
namespace Mi.L
open PySem Mi
noncomputable section
end
end Mi.L
end
section
namespace Mi
open PySem Mi Mi.L 
local macro_rules | `(tactic| wp_walk using $[$ts:term],*) => `(tactic| simp (disch := first | with_reducible assumption | omega | (simp only [List.length_set, List.length_append, List.length_cons, List.length_nil, List.length_map, List.length_range, List.length_replicate, Line]; omega) | (simp only [List.length_set, List.length_append, List.length_cons, List.length_nil, List.length_map, List.length_range, List.length_replicate]; done) | fail) only [au0, au1, au2, au3, au4, au5, au6, List.getElem?_map, dI, dT, List.getElem?_cons_zero, List.getElem?_cons_succ, List.set_cons_zero, List.set_cons_succ, List.map_cons, List.map_nil, List.length_cons, List.length_nil, List.cons_append, List.nil_append, List.append_nil, List.append_assoc, List.reduceReplicate, List.length_set, List.set_set, List.length_append, List.length_map, List.length_range, List.length_replicate, decide_true, decide_false, decide_eq_true_eq, Bool.not_eq_true', decide_eq_false_iff_not, Bool.true_and, Bool.false_and, Bool.not_true, Bool.not_false, Bool.false_eq_true, if_true, if_false, Int.toNat_natCast, Int.reduceToNat, Int.reducePow, Int.reduceMul, Int.reduceAdd, Int.reduceSub, Int.reduceNeg, Int.reduceLT, Int.reduceLE, Nat.sub_self, Nat.add_sub_cancel_left, Nat.reduceAdd, Nat.reduceSub, Nat.reduceLT, Nat.reduceLeDiff, Int.cast_ofNat_Int, true_or, or_true, true_and, and_true, $[$ts:term],*])
end Mi
end
section
namespace Mi.L
open PySem Mi
noncomputable section
def b_insert : Sm := sSeq (sIf (tE (mIn (mV 3) (mV 2))) (sNever) (sPass))
        (sSeq (sIf (tE (mNotIn (mC (.int (-1))) (mV 2))) (sNever) (sPass))
        (sSeq (sPar [4, 5] (aCons (mNew (mO1 pList (mV 2))) (aCons (mNew (mLst aNil)) aNil)))
        (sSeq (sPar [6, 7] (aCons (mV 3) (aCons (mC (.int 0)) aNil)))
        (sWhile (tE (mC (.bool true))) (sSeq (sAsg 8 (mIx (mIx (mV 0) (mV 6)) (mV 7)))
        (sSeq (sAsg 9 (mIx (mV 4) (mV 8)))
        (sSeq (sIf (tOr (tE (mO2 pEq (mV 9) (mC (.int (-1))))) (tE (mIn (mV 9) (mIx (mIx (mV 1) (mV 8)) (mV 6))))) (sSeq (sSetL (mV 4) (mV 8) (mV 6))
        (sSeq (sDrop (mAppend (mV 5) (mTup (aCons (mV 6) (aCons (mV 8) aNil)))))
        (sSeq (sIf (tE (mO2 pEq (mV 9) (mC (.int (-1))))) (sRet (mTup (aCons (mO1 pTuple (mV 4)) (aCons (mO1 pTuple (mV 5)) aNil)))) (sPass))
        (sPar [6, 7] (aCons (mV 9) (aCons (mIndex (mIx (mV 0) (mV 9)) (mV 8)) aNil)))))) (sPass))
        (sAug 7 pAddI (mC (.int 1))))))))))
def f_insert : Fn := fnOf fin 4 10 b_insert
end
end Mi.L
end
section
namespace Mi
open PySem Mi Mi.L 
local macro_rules | `(tactic| wp_walk using $[$ts:term],*) => `(tactic| simp (disch := first | with_reducible assumption | omega | (simp only [List.length_set, List.length_append, List.length_cons, List.length_nil, List.length_map, List.length_range, List.length_replicate, Line]; omega) | (simp only [List.length_set, List.length_append, List.length_cons, List.length_nil, List.length_map, List.length_range, List.length_replicate]; done) | fail) only [au0, au1, au2, au3, au4, au5, au6, List.getElem?_map, dI, dT, List.getElem?_cons_zero, List.getElem?_cons_succ, List.set_cons_zero, List.set_cons_succ, List.map_cons, List.map_nil, List.length_cons, List.length_nil, List.cons_append, List.nil_append, List.append_nil, List.append_assoc, List.reduceReplicate, List.length_set, List.set_set, List.length_append, List.length_map, List.length_range, List.length_replicate, decide_true, decide_false, decide_eq_true_eq, Bool.not_eq_true', decide_eq_false_iff_not, Bool.true_and, Bool.false_and, Bool.not_true, Bool.not_false, Bool.false_eq_true, if_true, if_false, Int.toNat_natCast, Int.reduceToNat, Int.reducePow, Int.reduceMul, Int.reduceAdd, Int.reduceSub, Int.reduceNeg, Int.reduceLT, Int.reduceLE, Nat.sub_self, Nat.add_sub_cancel_left, Nat.reduceAdd, Nat.reduceSub, Nat.reduceLT, Nat.reduceLeDiff, Int.cast_ofNat_Int, true_or, or_true, true_and, and_true, $[$ts:term],*])
def Pot (b : Nat) (S : Store) (i : Nat) : Prop := PotAt b S i
theorem Pot.lt {b : Nat} {S : Store} {i : Nat} (h : Pot b S i) : i < S.length := PotAt.lt h
theorem take_all {b : Nat} {S : Store} {i : Nat} {n : Int} (h : PotAt b S i) (hb : b < 2 ^ 60) (hn : 0 < n) (hn2 : n < 2 ^ 200) : ∃ (v : Nat) (c : Cell), (v : Int) < n ∧ PotAt (b + 1) (S.set i c) i ∧ ∀ L, tk [.ref i, .p (.int n)] (S ++ L) = .ok (.p (.int v), S.set i c ++ L) := by
  obtain ⟨g, m, c, hS, hg, hm0, hm1, hc0, hc1⟩ := h
  have hi : i < S.length := (List.getElem?_eq_some_iff.mp hS).1
  have hmod : ∀ x : Int, 0 ≤ x % n ∧ x % n < n := fun x => ⟨Int.emod_nonneg _ (by omega), Int.emod_lt_of_pos _ hn⟩
  by_cases hgp : 0 < g
  · obtain ⟨v, hv⟩ := Int.eq_ofNat_of_zero_le (hmod g).1
    refine ⟨v, .lst [.int (g / n), .int m, .int c], by have := (hmod g).2; omega, ⟨g / n, m, c, by rw [List.getElem?_set_self hi], Int.ediv_nonneg hg (by omega), hm0, hm1, hc0, by omega⟩, fun L => fn_rn rfl ?_⟩
    unfold tk_body
    wp_walk using hS, hv, hgp
  · have hg0 : g = 0 := by omega
    subst hg0
    obtain ⟨p, hp, hp0, hp1⟩ : ∃ p : Int, atD [.int 2147483647, .int 2147483629, .int 2147483587, .int 2147483579, .int 2147483563] ((c + 1) % 5) = some (PyData.int p) ∧ 0 < p ∧ p < 2 ^ 32 := by
      have h5 : 0 ≤ (c + 1) % 5 ∧ (c + 1) % 5 < 5 := ⟨Int.emod_nonneg _ (by omega), Int.emod_lt_of_pos _ (by omega)⟩
      generalize (c + 1) % 5 = r at h5
      have : r = 0 ∨ r = 1 ∨ r = 2 ∨ r = 3 ∨ r = 4 := by omega
      rcases this with rfl | rfl | rfl | rfl | rfl
      · exact ⟨2147483647, rfl, by omega, by omega⟩
      · exact ⟨2147483629, rfl, by omega, by omega⟩
      · exact ⟨2147483587, rfl, by omega, by omega⟩
      · exact ⟨2147483579, rfl, by omega, by omega⟩
      · exact ⟨2147483563, rfl, by omega, by omega⟩
    have hc2 : c + 1 < 2 ^ 61 := by omega
    obtain ⟨hq1, hq0⟩ := sq_bound (show 0 ≤ c + 1 by omega) hc2
    have hA : 40009 * (c + 1) * (c + 1) = 40009 * ((c + 1) * (c + 1)) := Int.mul_assoc _ _ _
    have hA1 : m + 40009 * (c + 1) * (c + 1) + 31 < 2 ^ 200 := by rw [hA]; omega
    have hA2 : -(2 ^ 200) < m + 40009 * (c + 1) * (c + 1) + 31 := by rw [hA]; omega
    have ev : ∀ L : List Cell, tk_body (start 5 [D.ref i, .p (.int n)]) (S ++ L) = tk_body [some (.ref i), some (.p (.int n)), none, none, none] (S ++ L) := fun L => rfl
    generalize hM : (m + 40009 * (c + 1) * (c + 1) + 31) ^ 3 % p = M
    have hM0 : 0 ≤ M := by rw [← hM]; exact Int.emod_nonneg _ (by omega)
    have hM1 : M < 2 ^ 32 := by have := Int.emod_lt_of_pos ((m + 40009 * (c + 1) * (c + 1) + 31) ^ 3) hp0; omega
    have hN0 := Int.emod_nonneg M (show (10009 : Int) ≠ 0 by decide)
    have hN1 := Int.emod_lt_of_pos M (show (0 : Int) < 10009 by decide)
    obtain ⟨v, hv⟩ := Int.eq_ofNat_of_zero_le (hmod (M * (M % 10009 + 89 * (c + 1)) % 2305843009213693907 / 89)).1
    refine ⟨v, .lst [.int 0, .int m, .int (c + 1)], by have := (hmod (M * (M % 10009 + 89 * (c + 1)) % 2305843009213693907 / 89)).2; omega, ⟨0, m, c + 1, by rw [List.getElem?_set_self hi], Int.le_refl _, hm0, hm1, by omega, by omega⟩, fun L => fn_rn rfl ?_⟩
    rw [ev]
    unfold tk_body
    wp_walk using hS, hp, au_pow, hM, hv
end Mi
end
section
namespace Mi.L
open PySem Mi
noncomputable section
end
end Mi.L
end
section
namespace Mi
def runF (x : Nat) : List Nat → Nat
  | [] => x
  | c :: cs => runF (x + c - 1) cs
def trajF (x : Nat) : List Nat → List Nat
  | [] => []
  | c :: cs => (x + c - 1) :: trajF (x + c - 1) cs
theorem trajF_len (x : Nat) (cs : List Nat) : (trajF x cs).length = cs.length := by
  induction cs generalizing x with
  | nil => rfl
  | cons c cs ih => simp [trajF, ih]
theorem runF_max (x : Nat) (cs : List Nat) : runF x cs = max (runF 0 cs) (x + cs.sum - cs.length) := by
  induction cs generalizing x with
  | nil => simp [runF]
  | cons c cs ih =>
    have h1 := ih (x + c - 1)
    have h2 := ih (0 + c - 1)
    show runF (x + c - 1) cs = max (runF (0 + c - 1) cs) _
    rw [h1, h2, List.sum_cons, List.length_cons]
    omega
theorem runF_mono {x y : Nat} (h : x ≤ y) (cs : List Nat) : runF x cs ≤ runF y cs := by
  rw [runF_max x, runF_max y]
  omega
theorem runF_app (x : Nat) (as bs : List Nat) : runF x (as ++ bs) = runF (runF x as) bs := by
  induction as generalizing x with
  | nil => rfl
  | cons a as ih => exact ih _
def lastF (cs : List Nat) : Nat := runF 0 cs
def flF (cs : List Nat) : List Nat := trajF (lastF cs) cs
theorem lastF_fix {cs : List Nat} (h : cs.sum ≤ cs.length) : runF (lastF cs) cs = lastF cs := by
  rw [runF_max]
  show max (lastF cs) _ = _
  omega
theorem trajF_at (x : Nat) (cs : List Nat) (i : Nat) (h : i < cs.length) : (trajF x cs).getD i 0 = runF x (cs.take (i + 1)) := by
  induction cs generalizing x i with
  | nil => simp at h
  | cons c cs ih =>
    cases i with
    | zero => rfl
    | succ i =>
      have h : i < cs.length := by simpa using h
      show (trajF (x + c - 1) cs).getD i 0 = runF (x + c - 1) (cs.take (i + 1))
      exact ih _ i h
theorem runF_step (x : Nat) (cs : List Nat) (i : Nat) (h : i < cs.length) : runF x (cs.take (i + 1)) = runF x (cs.take i) + cs.getD i 0 - 1 := by
  rw [List.take_add_one, runF_app]
  have e : cs.getD i 0 = cs[i] := by simp [List.getD_eq_getElem?_getD, List.getElem?_eq_getElem h]
  rw [e, List.getElem?_eq_getElem h]
  rfl
def prv (n i : Nat) : Nat := if i = 0 then n - 1 else i - 1
theorem prv_lt {n i : Nat} (h : i < n) : prv n i < n := by
  unfold prv
  split <;> omega
theorem flF_len (cs : List Nat) : (flF cs).length = cs.length := trajF_len _ _
theorem flF_ring {cs : List Nat} (h : cs.sum ≤ cs.length) {i : Nat} (hi : i < cs.length) : (flF cs).getD i 0 = (flF cs).getD (prv cs.length i) 0 + cs.getD i 0 - 1 := by
  unfold flF
  rw [trajF_at _ _ _ hi, runF_step _ _ _ hi, trajF_at _ _ _ (prv_lt hi)]
  congr 2
  unfold prv
  split
  · rename_i e
    subst e
    rw [show cs.length - 1 + 1 = cs.length by omega, List.take_length, lastF_fix h]
    rfl
  · rw [show i - 1 + 1 = i by omega]
theorem flF_unique {cs g : List Nat} (h : cs.sum ≤ cs.length) (hg : g.length = cs.length) (hr : ∀ i, i < cs.length → g.getD i 0 = g.getD (prv cs.length i) 0 + cs.getD i 0 - 1) (hz : ∃ i, i < cs.length ∧ g.getD i 0 = 0) : g = flF cs := by
  obtain ⟨z, hz1, hz2⟩ := hz
  have key : ∀ i, i ≤ cs.length → i ≠ 0 → g.getD (i - 1) 0 = runF (g.getD (cs.length - 1) 0) (cs.take i) := by
    intro i
    induction i with
    | zero => intro _ h; exact absurd rfl h
    | succ i ih =>
      intro hi _
      rw [Nat.add_sub_cancel, hr i (by omega), runF_step _ _ _ (by omega)]
      unfold prv
      split
      · rename_i e
        subst e
        rfl
      · rename_i e
        rw [ih (by omega) e]
  have hlast : runF (g.getD (cs.length - 1) 0) cs = g.getD (cs.length - 1) 0 := by
    have := key cs.length (Nat.le_refl _) (by omega)
    rw [List.take_length] at this
    exact this.symm
  have hle : lastF cs ≤ g.getD (cs.length - 1) 0 := by
    rw [← hlast]
    exact runF_mono (Nat.zero_le _) cs
  have hx : lastF cs = g.getD (cs.length - 1) 0 := by
    have h1 : runF (g.getD (cs.length - 1) 0) (cs.take (z + 1)) = 0 := by
      rw [← key (z + 1) (by omega) (by omega)]
      exact hz2
    have h2 : runF (lastF cs) (cs.take (z + 1)) = 0 := by
      have := runF_mono hle (cs.take (z + 1))
      omega
    have e := List.take_append_drop (z + 1) cs
    rw [← lastF_fix h, ← hlast, ← e, runF_app, runF_app, e]
    rw [h1, h2]
  apply List.ext_getElem?
  intro i
  by_cases hi : i < cs.length
  · have h3 := key (i + 1) (by omega) (by omega)
    rw [Nat.add_sub_cancel, ← hx, ← trajF_at _ _ _ hi] at h3
    have h4 : i < g.length := by omega
    have h5 : i < (flF cs).length := by rw [flF_len]; exact hi
    show g[i]? = (flF cs)[i]?
    change g.getD i 0 = (flF cs).getD i 0 at h3
    rw [List.getD_eq_getElem?_getD, List.getD_eq_getElem?_getD, List.getElem?_eq_getElem h4, List.getElem?_eq_getElem h5] at h3
    rw [List.getElem?_eq_getElem h4, List.getElem?_eq_getElem h5]
    exact congrArg some h3
  · rw [List.getElem?_eq_none (by omega), List.getElem?_eq_none (by rw [flF_len]; omega)]
def dst (n a i : Nat) : Nat := if a ≤ i then i - a else i + n - a
theorem sum_set (cs : List Nat) (a : Nat) (h : a < cs.length) : (cs.set a (cs.getD a 0 + 1)).sum = cs.sum + 1 := by
  induction cs generalizing a with
  | nil => simp at h
  | cons c cs ih =>
    cases a with
    | zero =>
      show ((c + 1) :: cs).sum = _
      simp only [List.sum_cons]
      omega
    | succ a =>
      have := ih a (by simpa using h)
      show (c :: cs.set a (cs.getD a 0 + 1)).sum = _
      simp only [List.sum_cons, this]
      omega
theorem set_getD (cs : List Nat) (a v i : Nat) (h : i < cs.length) : (cs.set a v).getD i 0 = if i = a then v else cs.getD i 0 := by
  rw [List.getD_eq_getElem?_getD, List.getElem?_set]
  by_cases e : a = i
  · subst e
    simp [h]
  · rw [if_neg e, if_neg (fun h => e h.symm), List.getD_eq_getElem?_getD]
theorem range_getD (f : Nat → Nat) (n i : Nat) (h : i < n) : ((List.range n).map f).getD i 0 = f i := by
  simp [List.getD_eq_getElem?_getD, List.getElem?_range h]
theorem oneMore {cs : List Nat} {a t : Nat} (h : cs.sum < cs.length) (ha : a < cs.length) (ht : t < cs.length)
    (tk : ∀ i, i < cs.length → dst cs.length a i < t → 0 < (flF cs).getD (prv cs.length i) 0 + cs.getD i 0)
    (fr : ∀ i, i < cs.length → dst cs.length a i = t → (flF cs).getD (prv cs.length i) 0 + cs.getD i 0 = 0) :
    (List.range cs.length).map (fun i => (flF cs).getD i 0 + if dst cs.length a i < t then 1 else 0) = flF (cs.set a (cs.getD a 0 + 1)) := by
  refine flF_unique (by rw [sum_set _ _ ha, List.length_set]; omega) (by simp) (fun i hi => ?_) ?_
  · rw [List.length_set] at hi ⊢
    rw [range_getD _ _ _ hi, range_getD _ _ _ (prv_lt hi), set_getD _ _ _ _ hi]
    have r := flF_ring (cs := cs) (by omega) hi
    have h1 := tk i hi
    have h2 := fr i hi
    rw [r]
    generalize (flF cs).getD (prv cs.length i) 0 = f at *
    have hp : dst cs.length a (prv cs.length i) = if i = a then cs.length - 1 else dst cs.length a i - 1 := by
      unfold dst prv
      split <;> split <;> (try split) <;> (try split) <;> omega
    rw [hp]
    have hd : i = a ↔ dst cs.length a i = 0 := by
      unfold dst
      split <;> omega
    generalize dst cs.length a i = d at *
    by_cases e : i = a
    · subst e
      have hd : d = 0 := hd.mp rfl
      subst hd
      simp only [if_pos]
      rw [if_neg (show ¬ cs.length - 1 < t by omega)]
      by_cases h0 : 0 < t
      · have := h1 h0
        rw [if_pos h0]
        omega
      · have := h2 (by omega)
        rw [if_neg h0]
        omega
    · have hd : d ≠ 0 := fun h => e (hd.mpr h)
      simp only [if_neg e]
      by_cases h0 : d < t
      · have := h1 h0
        rw [if_pos h0, if_pos (by omega)]
        omega
      · by_cases h3 : d = t
        · have := h2 h3
          rw [if_neg h0, if_pos (by omega)]
          omega
        · rw [if_neg h0, if_neg (by omega)]
          omega
  · rw [List.length_set]
    have hz : ∃ i, i < cs.length ∧ dst cs.length a i = t := by
      by_cases e : a + t < cs.length
      · exact ⟨a + t, e, by unfold dst; split <;> omega⟩
      · exact ⟨a + t - cs.length, by omega, by unfold dst; split <;> omega⟩
    obtain ⟨i, hi, e⟩ := hz
    refine ⟨i, hi, ?_⟩
    rw [range_getD _ _ _ hi, flF_ring (by omega) hi, fr i hi e, e, if_neg (by omega)]
def isTk (cs : List Nat) (i : Nat) : Bool := decide (0 < (flF cs).getD (prv cs.length i) 0 + cs.getD i 0)
theorem oneMore_tk {cs : List Nat} {a t : Nat} (h : cs.sum < cs.length) (ha : a < cs.length) (ht : t < cs.length)
    (tk : ∀ i, i < cs.length → dst cs.length a i < t → 0 < (flF cs).getD (prv cs.length i) 0 + cs.getD i 0)
    (fr : ∀ i, i < cs.length → dst cs.length a i = t → (flF cs).getD (prv cs.length i) 0 + cs.getD i 0 = 0) {i : Nat} (hi : i < cs.length) :
    isTk (cs.set a (cs.getD a 0 + 1)) i = (isTk cs i || decide (dst cs.length a i = t)) := by
  unfold isTk
  rw [← oneMore h ha ht tk fr, List.length_set, range_getD _ _ _ (prv_lt hi), set_getD _ _ _ _ hi]
  have h1 := tk i hi
  have h2 := fr i hi
  generalize (flF cs).getD (prv cs.length i) 0 = f at *
  have hp : dst cs.length a (prv cs.length i) = if i = a then cs.length - 1 else dst cs.length a i - 1 := by
    unfold dst prv
    split <;> split <;> (try split) <;> (try split) <;> omega
  rw [hp]
  have hd : i = a ↔ dst cs.length a i = 0 := by
    unfold dst
    split <;> omega
  generalize dst cs.length a i = d at *
  rw [Bool.eq_iff_iff]
  simp only [decide_eq_true_eq, Bool.or_eq_true]
  by_cases e : i = a
  · subst e
    have hd : d = 0 := hd.mp rfl
    subst hd
    simp only [if_pos]
    rw [if_neg (show ¬ cs.length - 1 < t by omega)]
    by_cases h0 : 0 < t
    · have := h1 h0
      omega
    · omega
  · have hd : d ≠ 0 := fun h => e (hd.mpr h)
    simp only [if_neg e]
    by_cases h0 : d < t
    · have := h1 h0
      rw [if_pos (by omega)]
      omega
    · by_cases h3 : d = t
      · rw [if_pos (by omega)]
        omega
      · rw [if_neg (by omega)]
        omega
end Mi
end
section
namespace Mi
open PySem
noncomputable section
end
end Mi
end
section
namespace Mi
open PySem
end Mi
end
section
namespace Mi
open PySem
noncomputable section
end
end Mi
end
section
namespace Mi
def ex : List (Nat × Nat) → List Nat
  | [] => []
  | (s, c) :: r => List.replicate s c ++ ex r
theorem runF_rep (x s c : Nat) : runF x (List.replicate s c) = if c = 0 then x - s else x + s * (c - 1) := by
  induction s generalizing x with
  | zero => simp [runF]
  | succ s ih =>
    rw [List.replicate_succ]
    show runF (x + c - 1) (List.replicate s c) = _
    rw [ih]
    split
    · omega
    · rw [Nat.succ_mul]
      omega
theorem runF_zeros (x r : Nat) : runF x (List.replicate r 0) = x - r := by
  rw [runF_rep, if_pos rfl]
theorem trajF_zeros (r : Nat) : trajF 0 (List.replicate r 0) = List.replicate r 0 := by
  induction r with
  | zero => rfl
  | succ r ih =>
    rw [List.replicate_succ]
    show (0 + 0 - 1) :: trajF (0 + 0 - 1) (List.replicate r 0) = _
    rw [show 0 + 0 - 1 = 0 from rfl, ih]
end Mi
end
section
namespace Mi
open PySem Mi.L
local macro_rules | `(tactic| wp_walk using $[$ts:term],*) => `(tactic| simp (disch := first | with_reducible assumption | omega | (simp only [List.length_set, List.length_append, List.length_cons, List.length_nil, List.length_map, List.length_range, List.length_replicate, Line]; omega) | (simp only [List.length_set, List.length_append, List.length_cons, List.length_nil, List.length_map, List.length_range, List.length_replicate]; done) | fail) only [au0, au1, au2, au3, au4, au5, au6, List.getElem?_map, dI, dT, List.getElem?_cons_zero, List.getElem?_cons_succ, List.set_cons_zero, List.set_cons_succ, List.map_cons, List.map_nil, List.length_cons, List.length_nil, List.cons_append, List.nil_append, List.append_assoc, List.reduceReplicate, List.length_set, List.length_append, List.length_map, List.length_range, List.length_replicate, decide_true, decide_false, decide_eq_true_eq, Bool.not_eq_true', decide_eq_false_iff_not, Bool.true_and, Bool.false_and, Bool.not_true, Bool.not_false, if_true, if_false, Int.toNat_natCast, Int.reduceToNat, Nat.sub_self, Nat.add_sub_cancel_left, Nat.reduceAdd, Nat.reduceSub, Nat.reduceLT, Nat.reduceLeDiff, Int.cast_ofNat_Int, true_or, or_true, true_and, and_true, $[$ts:term],*])
structure Runs (r : List (Nat × Nat)) : Prop where
  pos : ∀ p ∈ r, 1 ≤ p.1
  ful : (ex r).sum ≤ (ex r).length
  few : (ex r).length < 2 ^ 100
  len : r.length ≤ 10000
theorem mem_ex {r : List (Nat × Nat)} {p : Nat × Nat} (h : p ∈ r) : p.1 ≤ (ex r).length ∧ p.1 * p.2 ≤ (ex r).sum := by
  induction r with
  | nil => cases h
  | cons q r ih =>
    obtain ⟨s, c⟩ := q
    rw [ex, List.length_append, List.length_replicate, List.sum_append, List.sum_replicate_nat]
    rcases List.mem_cons.mp h with rfl | h
    · simp
    · have := ih h
      omega
theorem Runs.bd {r : List (Nat × Nat)} (h : Runs r) {p : Nat × Nat} (hp : p ∈ r) : p.1 < 2 ^ 100 ∧ p.2 < 2 ^ 100 := by
  have h1 := mem_ex hp
  have h2 := h.few
  have h3 := h.ful
  have h4 := h.pos p hp
  have h5 : 1 * p.2 ≤ p.1 * p.2 := Nat.mul_le_mul_right _ h4
  omega
end Mi
end
section
namespace Mi
open PySem Mi Mi.L 
local macro_rules | `(tactic| wp_walk using $[$ts:term],*) => `(tactic| simp (disch := first | with_reducible assumption | omega | (simp only [List.length_set, List.length_append, List.length_cons, List.length_nil, List.length_map, List.length_range, List.length_replicate, Line]; omega) | (simp only [List.length_set, List.length_append, List.length_cons, List.length_nil, List.length_map, List.length_range, List.length_replicate]; done) | fail) only [au0, au1, au2, au3, au4, au5, au6, List.getElem?_map, dI, dT, List.getElem?_cons_zero, List.getElem?_cons_succ, List.set_cons_zero, List.set_cons_succ, List.map_cons, List.map_nil, List.length_cons, List.length_nil, List.cons_append, List.nil_append, List.append_nil, List.append_assoc, List.reduceReplicate, List.length_set, List.set_set, List.length_append, List.length_map, List.length_range, List.length_replicate, decide_true, decide_false, decide_eq_true_eq, Bool.not_eq_true', decide_eq_false_iff_not, Bool.true_and, Bool.false_and, Bool.not_true, Bool.not_false, Bool.false_eq_true, if_true, if_false, Int.toNat_natCast, Int.reduceToNat, Int.reducePow, Int.reduceMul, Int.reduceAdd, Int.reduceSub, Int.reduceNeg, Int.reduceLT, Int.reduceLE, Nat.sub_self, Nat.add_sub_cancel_left, Nat.reduceAdd, Nat.reduceSub, Nat.reduceLT, Nat.reduceLeDiff, Int.cast_ofNat_Int, true_or, or_true, true_and, and_true, $[$ts:term],*])
theorem pick_all {b : Nat} {S : Store} {i : Nat} {xs : List PyData} (h : PotAt b S i) (hb : b < 2 ^ 60) (h0 : 0 < xs.length) (hz : xs.length < 2 ^ 60) : ∃ (x : PyData) (c : Cell), x ∈ xs ∧ PotAt (b + 1) (S.set i c) i ∧ ∀ L, pk [.ref i, .p (.list xs)] (S ++ L) = .ok (.p x, S.set i c ++ L) := by
  obtain ⟨v, c, hv, hp, e⟩ := take_all (n := (xs.length : Int)) h hb (by omega) (by omega)
  have hk : v < xs.length := by omega
  refine ⟨xs[v], c, List.getElem_mem hk, hp, fun L => fn_rn rfl ?_⟩
  have ha : xs[v]? = some xs[v] := List.getElem?_eq_getElem hk
  unfold pkBody
  wp_walk using e, ha
end Mi
end
section
namespace Mi.L
open PySem Mi
noncomputable section
end
end Mi.L
end
section
namespace Mi
open PySem
noncomputable section
end
end Mi
end
section
namespace Mi
open PySem
theorem dst_mod {n a t : Nat} (ha : a < n) (ht : t < n) : (a + t) % n < n ∧ dst n a ((a + t) % n) = t := by
  have hp : (a + t) % n = if a + t < n then a + t else a + t - n := by
    split
    · exact Nat.mod_eq_of_lt (by omega)
    · rw [Nat.mod_eq_sub_mod (by omega), Nat.mod_eq_of_lt (by omega)]
  rw [hp]
  unfold dst
  split <;> split <;> omega
theorem dst_inj {n a i j : Nat} (ha : a < n) (hi : i < n) (hj : j < n) (h : dst n a i = dst n a j) : i = j := by
  unfold dst at h
  split at h <;> split at h <;> omega
end Mi
end
section
namespace Mi
open PySem Mi Mi.L 
local macro_rules | `(tactic| wp_walk using $[$ts:term],*) => `(tactic| simp (disch := first | with_reducible assumption | omega | (simp only [List.length_set, List.length_append, List.length_cons, List.length_nil, List.length_map, List.length_range, List.length_replicate, Line]; omega) | (simp only [List.length_set, List.length_append, List.length_cons, List.length_nil, List.length_map, List.length_range, List.length_replicate]; done) | fail) only [au0, au1, au2, au3, au4, au5, au6, List.getElem?_map, dI, dT, List.getElem?_cons_zero, List.getElem?_cons_succ, List.set_cons_zero, List.set_cons_succ, List.map_cons, List.map_nil, List.length_cons, List.length_nil, List.cons_append, List.nil_append, List.append_nil, List.append_assoc, List.reduceReplicate, List.length_set, List.set_set, List.length_append, List.length_map, List.length_range, List.length_replicate, decide_true, decide_false, decide_eq_true_eq, Bool.not_eq_true', decide_eq_false_iff_not, Bool.true_and, Bool.false_and, Bool.not_true, Bool.not_false, Bool.false_eq_true, if_true, if_false, Int.toNat_natCast, Int.reduceToNat, Int.reducePow, Int.reduceMul, Int.reduceAdd, Int.reduceSub, Int.reduceNeg, Int.reduceLT, Int.reduceLE, Nat.sub_self, Nat.add_sub_cancel_left, Nat.reduceAdd, Nat.reduceSub, Nat.reduceLT, Nat.reduceLeDiff, Int.cast_ofNat_Int, true_or, or_true, true_and, and_true, $[$ts:term],*])
def part (cs : List Nat) (k m : Nat) : List Nat := (List.range cs.length).map fun i => if i < k then cs[i]! else if i = k then m else 0
theorem fl_zeros (n : Nat) : flF (List.replicate n 0) = List.replicate n 0 := by
  have e : lastF (List.replicate n 0) = 0 := by
    unfold lastF
    rw [runF_zeros]
    omega
  unfold flF
  rw [e, trajF_zeros]
theorem nodup_len {ks : List Nat} {n : Nat} (h : ks.Nodup) (hk : ∀ x ∈ ks, x < n) : ks.length ≤ n := by
  have p : ks.Perm ((List.range n).filter fun x => decide (x ∈ ks)) := (List.perm_ext_iff_of_nodup h (List.nodup_range.filter _)).mpr fun x => by
    rw [List.mem_filter, List.mem_range, decide_eq_true_eq]
    exact ⟨fun hx => ⟨hk x hx, hx⟩, fun hx => hx.2⟩
  have := List.length_filter_le (fun x => decide (x ∈ ks)) (List.range n)
  rw [List.length_range] at this
  rw [p.length_eq]
  exact this
structure Tkn (ks cs : List Nat) : Prop where
  nd : ks.Nodup
  mem : ∀ x, x ∈ ks ↔ x < cs.length ∧ isTk cs x = true
theorem Tkn.zero (n : Nat) : Tkn [] (List.replicate n 0) := by
  refine ⟨List.nodup_nil, fun x => ⟨fun h => (by cases h), fun ⟨hx, h⟩ => ?_⟩⟩
  unfold isTk at h
  rw [fl_zeros] at h
  have := of_decide_eq_true h
  simp [List.getD_eq_getElem?_getD, List.getElem?_replicate] at this
  split at this <;> split at this <;> simp at this
structure Free (cs : List Nat) (w t : Nat) : Prop where
  lt : t < cs.length
  tk : ∀ j, j < t → isTk cs ((w + j) % cs.length) = true
  fr : isTk cs ((w + t) % cs.length) = false
theorem Free.a {cs : List Nat} {w t : Nat} (h : Free cs w t) (hw : w < cs.length) : ∀ i, i < cs.length → dst cs.length w i < t → 0 < (flF cs).getD (prv cs.length i) 0 + cs.getD i 0 := fun i hi hd => by
  have := h.tk _ hd
  rw [dst_inj hw (dst_mod hw (by have := h.lt; omega)).1 hi (dst_mod hw (by have := h.lt; omega)).2] at this
  exact of_decide_eq_true this
theorem Free.b {cs : List Nat} {w t : Nat} (h : Free cs w t) (hw : w < cs.length) : ∀ i, i < cs.length → dst cs.length w i = t → (flF cs).getD (prv cs.length i) 0 + cs.getD i 0 = 0 := fun i hi hd => by
  have := h.fr
  rw [dst_inj hw (dst_mod hw h.lt).1 hi ((dst_mod hw h.lt).2.trans hd.symm)] at this
  have := of_decide_eq_false this
  omega
theorem Tkn.more {ks cs : List Nat} {w t : Nat} (h : Tkn ks cs) (hs : cs.sum < cs.length) (hw : w < cs.length) (f : Free cs w t) : Tkn (ks ++ [(w + t) % cs.length]) (cs.set w (cs.getD w 0 + 1)) ∧ (w + t) % cs.length ∉ ks := by
  obtain ⟨p1, p2⟩ := dst_mod hw f.lt
  have hn : (w + t) % cs.length ∉ ks := fun hm => by
    have := (h.mem _).mp hm
    rw [f.fr] at this
    exact absurd this.2 (by simp)
  refine ⟨⟨?_, fun x => ?_⟩, hn⟩
  · rw [List.nodup_append]
    refine ⟨h.nd, by simp, fun a ha b hb => ?_⟩
    have := List.mem_singleton.mp hb
    subst this
    exact fun e => hn (e ▸ ha)
  · rw [List.mem_append, List.mem_singleton, h.mem, List.length_set]
    constructor
    · rintro (⟨h1, h2⟩ | rfl)
      · refine ⟨h1, ?_⟩
        rw [oneMore_tk hs hw f.lt (f.a hw) (f.b hw) h1, h2]
        rfl
      · refine ⟨p1, ?_⟩
        rw [oneMore_tk hs hw f.lt (f.a hw) (f.b hw) p1, p2]
        simp
    · rintro ⟨h1, h2⟩
      rw [oneMore_tk hs hw f.lt (f.a hw) (f.b hw) h1] at h2
      rcases Bool.or_eq_true_iff.mp h2 with h2 | h2
      · exact .inl ⟨h1, h2⟩
      · exact .inr (dst_inj hw h1 p1 ((of_decide_eq_true h2).trans p2.symm))
end Mi
end
section
namespace Mi
open PySem Mi Mi.L 
local macro_rules | `(tactic| wp_walk using $[$ts:term],*) => `(tactic| simp (disch := first | with_reducible assumption | omega | (simp only [List.length_set, List.length_append, List.length_cons, List.length_nil, List.length_map, List.length_range, List.length_replicate, Line]; omega) | (simp only [List.length_set, List.length_append, List.length_cons, List.length_nil, List.length_map, List.length_range, List.length_replicate]; done) | fail) only [au0, au1, au2, au3, au4, au5, au6, List.getElem?_map, dI, dT, List.getElem?_cons_zero, List.getElem?_cons_succ, List.set_cons_zero, List.set_cons_succ, List.map_cons, List.map_nil, List.length_cons, List.length_nil, List.cons_append, List.nil_append, List.append_nil, List.append_assoc, List.reduceReplicate, List.length_set, List.set_set, List.length_append, List.length_map, List.length_range, List.length_replicate, decide_true, decide_false, decide_eq_true_eq, Bool.not_eq_true', decide_eq_false_iff_not, Bool.true_and, Bool.false_and, Bool.not_true, Bool.not_false, Bool.false_eq_true, if_true, if_false, Int.toNat_natCast, Int.reduceToNat, Int.reducePow, Int.reduceMul, Int.reduceAdd, Int.reduceSub, Int.reduceNeg, Int.reduceLT, Int.reduceLE, Nat.sub_self, Nat.add_sub_cancel_left, Nat.reduceAdd, Nat.reduceSub, Nat.reduceLT, Nat.reduceLeDiff, Int.cast_ofNat_Int, true_or, or_true, true_and, and_true, $[$ts:term],*])
end Mi
end
section
namespace Mi
open PySem Mi Mi.L 
local macro_rules | `(tactic| wp_walk using $[$ts:term],*) => `(tactic| simp (disch := first | with_reducible assumption | omega | (simp only [List.length_set, List.length_append, List.length_cons, List.length_nil, List.length_map, List.length_range, List.length_replicate, Line]; omega) | (simp only [List.length_set, List.length_append, List.length_cons, List.length_nil, List.length_map, List.length_range, List.length_replicate]; done) | fail) only [au0, au1, au2, au3, au4, au5, au6, List.getElem?_map, dI, dT, List.getElem?_cons_zero, List.getElem?_cons_succ, List.set_cons_zero, List.set_cons_succ, List.map_cons, List.map_nil, List.length_cons, List.length_nil, List.cons_append, List.nil_append, List.append_nil, List.append_assoc, List.reduceReplicate, List.length_set, List.set_set, List.length_append, List.length_map, List.length_range, List.length_replicate, decide_true, decide_false, decide_eq_true_eq, Bool.not_eq_true', decide_eq_false_iff_not, Bool.true_and, Bool.false_and, Bool.not_true, Bool.not_false, Bool.false_eq_true, if_true, if_false, Int.toNat_natCast, Int.reduceToNat, Int.reducePow, Int.reduceMul, Int.reduceAdd, Int.reduceSub, Int.reduceNeg, Int.reduceLT, Int.reduceLE, Nat.sub_self, Nat.add_sub_cancel_left, Nat.reduceAdd, Nat.reduceSub, Nat.reduceLT, Nat.reduceLeDiff, Int.cast_ofNat_Int, true_or, or_true, true_and, and_true, $[$ts:term],*])
inductive FC : List Nat → List Nat → Prop
  | nil (n : Nat) : FC (List.replicate n 0) []
  | step {cs far : List Nat} {w t : Nat} : FC cs far → cs.sum < cs.length → w < cs.length → Free cs w t → FC (cs.set w (cs.getD w 0 + 1)) (far ++ [t])
theorem Nice.mono {d : PyData} {dp B dp' B' : Nat} (h : Nice d dp B) (h1 : dp ≤ dp') (h2 : B ≤ B') : Nice d dp' B' := ⟨h.sh, h.hd, h.pl, Nat.le_trans h.dp h1, Nat.le_trans h.sz h2⟩
end Mi
end
section
namespace Mi
open PySem Mi Mi.L 
local macro_rules | `(tactic| wp_walk using $[$ts:term],*) => `(tactic| simp (disch := first | with_reducible assumption | omega | (simp only [List.length_set, List.length_append, List.length_cons, List.length_nil, List.length_map, List.length_range, List.length_replicate, Line]; omega) | (simp only [List.length_set, List.length_append, List.length_cons, List.length_nil, List.length_map, List.length_range, List.length_replicate]; done) | fail) only [au0, au1, au2, au3, au4, au5, au6, List.getElem?_map, dI, dT, List.getElem?_cons_zero, List.getElem?_cons_succ, List.set_cons_zero, List.set_cons_succ, List.map_cons, List.map_nil, List.length_cons, List.length_nil, List.cons_append, List.nil_append, List.append_nil, List.append_assoc, List.reduceReplicate, List.length_set, List.set_set, List.length_append, List.length_map, List.length_range, List.length_replicate, decide_true, decide_false, decide_eq_true_eq, Bool.not_eq_true', decide_eq_false_iff_not, Bool.true_and, Bool.false_and, Bool.not_true, Bool.not_false, Bool.false_eq_true, if_true, if_false, Int.toNat_natCast, Int.reduceToNat, Int.reducePow, Int.reduceMul, Int.reduceAdd, Int.reduceSub, Int.reduceNeg, Int.reduceLT, Int.reduceLE, Nat.sub_self, Nat.add_sub_cancel_left, Nat.reduceAdd, Nat.reduceSub, Nat.reduceLT, Nat.reduceLeDiff, Int.cast_ofNat_Int, true_or, or_true, true_and, and_true, $[$ts:term],*])
structure IsTable (n : Nat) (t : List (List Nat)) : Prop where
  len : t.length = n
  asc : ∀ a, a < n → t[a]!.Pairwise (· < ·)
  lt : ∀ a, a < n → ∀ b ∈ t[a]!, b < n
  tour : ∀ a b, a < n → b < n → (b ∈ t[a]! ↔ a ≠ b ∧ a ∉ t[b]!)
def Askd (k j a b : Nat) : Prop := (max a b < k ∨ (max a b = k ∧ min a b < j)) ∧ a ≠ b
structure Half (n k j : Nat) (rows : List (List Nat)) : Prop where
  len : rows.length = n
  nd : ∀ a, a < n → rows[a]!.Nodup
  only : ∀ a b, a < n → b ∈ rows[a]! → b < n ∧ Askd k j a b
  tour : ∀ a b, a < n → b < n → Askd k j a b → (b ∈ rows[a]! ↔ a ∉ rows[b]!)
theorem bang_set {rows : List (List Nat)} {w a : Nat} {r : List Nat} (ha : a < rows.length) : (rows.set w r)[a]! = if w = a then r else rows[a]! := by
  rw [getElem!_pos _ a (by rw [List.length_set]; exact ha), getElem!_pos _ a ha, List.getElem_set]
theorem Half.step {n j m w l : Nat} {rows : List (List Nat)} (h : Half n j m rows) (hj : j < n) (hm : m < j) (hw : (w = j ∧ l = m) ∨ (w = m ∧ l = j)) : Half n j (m + 1) (rows.set w (rows[w]! ++ [l])) := by
  have hl := h.len
  have mono : ∀ a b, Askd j m a b → Askd j (m + 1) a b := fun a b h => by unfold Askd at *; omega
  have g : ∀ a, a < n → (rows.set w (rows[w]! ++ [l]))[a]! = if w = a then rows[w]! ++ [l] else rows[a]! := fun a ha => bang_set (by omega)
  have nwl : l ∉ rows[w]! := fun z => by
    have := (h.only w l (by omega) z).2
    unfold Askd at this
    omega
  have nlw : w ∉ rows[l]! := fun z => by
    have := (h.only l w (by omega) z).2
    unfold Askd at this
    omega
  refine ⟨by rw [List.length_set]; exact hl, fun a ha => ?_, fun a b ha hb => ?_, fun a b ha hb hab => ?_⟩
  · rw [g a ha]
    split
    · rename_i e
      subst e
      rw [List.nodup_append]
      exact ⟨h.nd w ha, by simp, fun x hx y hy => by
        rw [List.mem_singleton.mp hy]
        rintro rfl
        exact nwl hx⟩
    · exact h.nd a ha
  · rw [g a ha] at hb
    split at hb
    · rename_i e
      subst e
      rcases List.mem_append.mp hb with hb | hb
      · exact ⟨(h.only w b ha hb).1, mono _ _ (h.only w b ha hb).2⟩
      · rw [List.mem_singleton.mp hb]
        exact ⟨by omega, by unfold Askd; omega⟩
    · exact ⟨(h.only a b ha hb).1, mono _ _ (h.only a b ha hb).2⟩
  · rw [g a ha, g b hb]
    by_cases e1 : w = a
    · subst e1
      by_cases e2 : b = l
      · subst e2
        rw [if_pos rfl, if_neg (by unfold Askd at hab; omega)]
        exact ⟨fun _ => nlw, fun _ => List.mem_append_right _ (List.mem_singleton.mpr rfl)⟩
      · have hne : w ≠ b := by unfold Askd at hab; omega
        rw [if_pos rfl, if_neg hne]
        have := h.tour w b ha hb (by unfold Askd at *; omega)
        rw [← this, List.mem_append, List.mem_singleton]
        simp [e2]
    · rw [if_neg e1]
      by_cases e2 : w = b
      · subst e2
        rw [if_pos rfl]
        by_cases e3 : a = l
        · subst e3
          exact ⟨fun z => absurd z nlw, fun z => absurd (List.mem_append_right _ (List.mem_singleton.mpr rfl)) z⟩
        · have := h.tour a w ha hb (by unfold Askd at *; omega)
          rw [this, List.mem_append, List.mem_singleton]
          simp [e3]
      · rw [if_neg e2]
        exact h.tour a b ha hb (by unfold Askd at *; omega)
theorem Half.next {n j : Nat} {rows : List (List Nat)} (h : Half n j j rows) : Half n (j + 1) 0 rows :=
  ⟨h.len, h.nd, fun a b ha hb => ⟨(h.only a b ha hb).1, by have := (h.only a b ha hb).2; unfold Askd at *; omega⟩, fun a b ha hb hab => h.tour a b ha hb (by unfold Askd at *; omega)⟩
theorem Half.done {n : Nat} {rows : List (List Nat)} (h : Half n n 0 rows) : IsTable n (rows.map sortN) := by
  have hl := h.len
  have g : ∀ a, a < n → (rows.map sortN)[a]! = sortN rows[a]! := fun a ha => by
    rw [getElem!_pos _ a (by rw [List.length_map]; omega), getElem!_pos _ a (by omega), List.getElem_map]
  refine ⟨by rw [List.length_map]; exact hl, fun a ha => ?_, fun a ha b hb => ?_, fun a b ha hb => ?_⟩
  · rw [g a ha]
    have h1 := sortN_sorted rows[a]!
    have h2 : (sortN rows[a]!).Nodup := (sortN_perm _).nodup_iff.mpr (h.nd a ha)
    rw [List.nodup_iff_pairwise_ne] at h2
    exact (h1.and h2).imp fun ⟨u, v⟩ => by omega
  · rw [g a ha, sortN_mem] at hb
    exact (h.only a b ha hb).1
  · rw [g a ha, g b hb, sortN_mem, sortN_mem]
    constructor
    · intro z
      have z2 := (h.only a b ha z).2
      exact ⟨z2.2, (h.tour a b ha hb z2).mp z⟩
    · rintro ⟨z1, z2⟩
      exact (h.tour a b ha hb (by unfold Askd; omega)).mpr z2
theorem sortN2 (a z : Nat) : sortN [a, z] = if a ≤ z then [a, z] else [z, a] := by
  have h := sortN_perm [a, z]
  have h2 := sortN_sorted [a, z]
  have : ∀ u : List Nat, u.Perm [a, z] → u.Pairwise (· ≤ ·) → u = if a ≤ z then [a, z] else [z, a] := fun u hp hs => by
    match u, hp, hs with
    | [], hp, _ => exact absurd hp.length_eq (by simp)
    | [_], hp, _ => exact absurd hp.length_eq (by simp)
    | _ :: _ :: _ :: _, hp, _ => exact absurd hp.length_eq (by simp)
    | [p, q], hp, hs =>
      have hpq : p ≤ q := by
        rw [List.pairwise_cons] at hs
        exact hs.1 q (by simp)
      have m1 : p ∈ [a, z] := hp.mem_iff.mp (by simp)
      have m2 : q ∈ [a, z] := hp.mem_iff.mp (by simp)
      have m3 : a ∈ [p, q] := hp.mem_iff.mpr (by simp)
      have m4 : z ∈ [p, q] := hp.mem_iff.mpr (by simp)
      simp only [List.mem_cons, List.not_mem_nil, or_false] at m1 m2 m3 m4
      split
      · have e1 : p = a := by omega
        have e2 : q = z := by omega
        rw [e1, e2]
      · have e1 : p = z := by omega
        have e2 : q = a := by omega
        rw [e1, e2]
  exact this _ h h2
theorem pair_iff (a z x y : Nat) : sortN [a, z] = sortN [x, y] ↔ (a = x ∧ z = y) ∨ (a = y ∧ z = x) := by
  rw [sortN2, sortN2]
  split <;> split <;> simp <;> omega
theorem IsTable.turn {n : Nat} {t t' : List (List Nat)} (ht : IsTable n t) {x y w l : Nat} (hxy : x ≠ y) (hx : x < n) (hy : y < n) (hw : (w = y ∧ l = x) ∨ (w = x ∧ l = y)) (hl : t'.length = n)
    (h : ∀ a, a < n → t'[a]! = sortN (t[a]!.filter (fun z => decide (sortN [a, z] ≠ sortN [x, y])) ++ if a = w then [l] else [])) : IsTable n t' := by
  have hm : ∀ a b, a < n → (b ∈ t'[a]! ↔ (b ∈ t[a]! ∧ ¬((a = x ∧ b = y) ∨ (a = y ∧ b = x))) ∨ (a = w ∧ b = l)) := fun a b ha => by
    rw [h a ha, sortN_mem, List.mem_append, List.mem_filter, decide_eq_true_eq, Ne, pair_iff]
    by_cases e : a = w
    · simp [e]
    · simp [e]
  refine ⟨hl, fun a ha => ?_, fun a ha b hb => ?_, fun a b ha hb => ?_⟩
  · have h1 := sortN_sorted (t[a]!.filter (fun z => decide (sortN [a, z] ≠ sortN [x, y])) ++ if a = w then [l] else [])
    have h2 : (sortN (t[a]!.filter (fun z => decide (sortN [a, z] ≠ sortN [x, y])) ++ if a = w then [l] else [])).Nodup := by
      rw [(sortN_perm _).nodup_iff, List.nodup_append]
      refine ⟨((ht.asc a ha).imp fun h => by omega : t[a]!.Nodup).filter _, by split <;> simp, fun u hu v hv => ?_⟩
      split at hv
      · rename_i e
        rw [List.mem_singleton.mp hv]
        rintro rfl
        rw [List.mem_filter, decide_eq_true_eq, Ne, pair_iff] at hu
        omega
      · cases hv
    rw [h a ha]
    rw [List.nodup_iff_pairwise_ne] at h2
    exact (h1.and h2).imp fun ⟨u, v⟩ => by omega
  · rcases (hm a b ha).mp hb with h | h
    · exact ht.lt a ha b h.1
    · omega
  · rw [hm a b ha, hm b a hb]
    have h0 := ht.tour a b ha hb
    by_cases hp : (a = x ∧ b = y) ∨ (a = y ∧ b = x)
    · have hp2 : (b = x ∧ a = y) ∨ (b = y ∧ a = x) := by omega
      simp only [hp, hp2, not_true_eq_false, and_false, false_or]
      omega
    · have hp2 : ¬((b = x ∧ a = y) ∨ (b = y ∧ a = x)) := by omega
      have h3 : ¬(a = w ∧ b = l) := by omega
      have h4 : ¬(b = w ∧ a = l) := by omega
      simp only [hp, hp2, h3, h4, not_false_eq_true, and_true, or_false]
      exact h0
end Mi
end
section
namespace Mi
open PySem Mi Mi.L 
local macro_rules | `(tactic| wp_walk using $[$ts:term],*) => `(tactic| simp (disch := first | with_reducible assumption | omega | (simp only [List.length_set, List.length_append, List.length_cons, List.length_nil, List.length_map, List.length_range, List.length_replicate, Line]; omega) | (simp only [List.length_set, List.length_append, List.length_cons, List.length_nil, List.length_map, List.length_range, List.length_replicate]; done) | fail) only [au0, au1, au2, au3, au4, au5, au6, List.getElem?_map, dI, dT, List.getElem?_cons_zero, List.getElem?_cons_succ, List.set_cons_zero, List.set_cons_succ, List.map_cons, List.map_nil, List.length_cons, List.length_nil, List.cons_append, List.nil_append, List.append_nil, List.append_assoc, List.reduceReplicate, List.length_set, List.set_set, List.length_append, List.length_map, List.length_range, List.length_replicate, decide_true, decide_false, decide_eq_true_eq, Bool.not_eq_true', decide_eq_false_iff_not, Bool.true_and, Bool.false_and, Bool.not_true, Bool.not_false, Bool.false_eq_true, if_true, if_false, Int.toNat_natCast, Int.reduceToNat, Int.reducePow, Int.reduceMul, Int.reduceAdd, Int.reduceSub, Int.reduceNeg, Int.reduceLT, Int.reduceLE, Nat.sub_self, Nat.add_sub_cancel_left, Nat.reduceAdd, Nat.reduceSub, Nat.reduceLT, Nat.reduceLeDiff, Int.cast_ofNat_Int, true_or, or_true, true_and, and_true, $[$ts:term],*])
theorem while_ret {body : Sm} (I : Nat → Env → Store → Prop) {Q : Fl × Env × Store → Prop} (hb : ∀ m σ S, I m σ S → Rn (body σ S) fun q => ((q.1 = .nx ∨ q.1 = .ct) ∧ ∃ m', m' < m ∧ I m' q.2.1 q.2.2) ∨ (∃ d, q.1 = .rt d ∧ Q q)) :
    ∀ (n m : Nat) (σ : Env) (S : Store), m < n → I m σ S → Rn (whileF (tE (mC (.bool true))) body n σ S) Q
  | 0, m, σ, S, h, _ => by omega
  | n + 1, m, σ, S, h, hi => by
    have e : whileF (tE (mC (.bool true))) body (n + 1) σ S = bs (body σ S) fun f σ2 S2 => match f with
      | .nx => whileF (tE (mC (.bool true))) body n σ2 S2
      | .ct => whileF (tE (mC (.bool true))) body n σ2 S2
      | .bk => .ok (.nx, σ2, S2)
      | .rt d => .ok (.rt d, σ2, S2) := rfl
    rw [e]
    obtain ⟨⟨f, σ2, S2⟩, e1, h1⟩ := (hb m σ S hi).ex
    rw [bs_of e1]
    rcases h1 with ⟨hf, m', hm, h2⟩ | ⟨d, hf, h2⟩
    · have := while_ret I hb n m' σ2 S2 (by omega) h2
      rcases hf with hf | hf
      · have hf : f = .nx := hf
        subst hf
        exact this
      · have hf : f = .ct := hf
        subst hf
        exact this
    · have hf : f = .rt d := hf
      subst hf
      exact h2
abbrev Row := List (Option Nat)
def dO : Option Nat → PyData
  | none => .int (-1)
  | some k => .int k
def dPr (p : Nat × Nat) : PyData := .tuple [.int p.1, .int p.2]
def dRule (T : List (List (List Nat))) : PyData := .tuple (T.map fun t => .tuple (t.map dT))
def insF (P : List (List Nat)) (T : List (List (List Nat))) : Nat → Nat → Nat → Row → List (Nat × Nat) → Option (Row × List (Nat × Nat))
  | 0, _, _, _, _ => none
  | f + 1, a, i, row, path =>
    if a < P.length ∧ i < P[a]!.length ∧ P[a]![i]! < row.length ∧ P[a]![i]! < T.length ∧ a < T[P[a]![i]!]!.length then
      match row[P[a]![i]!]! with
      | none => some (row.set P[a]![i]! (some a), path ++ [(a, P[a]![i]!)])
      | some h => if h ∈ T[P[a]![i]!]![a]! then (if h < P.length ∧ P[a]![i]! ∈ P[h]! then insF P T f h (P[h]!.idxOf P[a]![i]! + 1) (row.set P[a]![i]! (some a)) (path ++ [(a, P[a]![i]!)]) else none)
        else insF P T f a (i + 1) row path
    else none
theorem eqv_dO (x : Option Nat) (k : Nat) : PyData.eqv (dO x) (.int k) = decide (x = some k) := by
  cases x with
  | none =>
    have : ¬ ((-1 : Int) = (k : Int)) := by omega
    simp [dO, PyData.eqv, this]
  | some y =>
    have := eqv_nat y k
    unfold dO
    rw [show PyData.eqv (.int (y : Int)) (.int k) = decide (y = k) from this]
    simp
theorem eqv_dO1 (x : Option Nat) : PyData.eqv (dO x) (.int (-1)) = decide (x = none) := by
  cases x with
  | none => simp [dO, PyData.eqv]
  | some y =>
    have : ¬ ((y : Int) = -1) := by omega
    simp [dO, PyData.eqv, this]
theorem fl_dO (x : Option Nat) : Fl1 (dO x) := by
  cases x <;> exact ⟨rfl, by unfold dO; rw [PyData.depth]; omega⟩
theorem flat_row (row : Row) : flat? (.tuple (row.map dO)) = true := flat_t fun x hx => by
  obtain ⟨n, _, rfl⟩ := List.mem_map.mp hx
  exact fl_dO n
theorem pIn_row (k : Nat) (row : Row) : pIn (.int k) (.tuple (row.map dO)) = .ok (.bool (decide (some k ∈ row))) := by
  show when_ (flat? (.int k) && flat? (.tuple (row.map dO))) _ = _
  rw [flat_int, flat_row]
  have : inItems (.int k) (row.map dO) = decide (some k ∈ row) := by
    unfold inItems
    induction row with
    | nil => rfl
    | cons y row ih =>
      rw [List.map_cons, List.any_cons, ih, eqv_dO]
      by_cases h : y = some k
      · subst h; simp
      · simp [h, Ne.symm h]
  rw [this]
  rfl
theorem pNotIn_row (row : Row) (h : none ∈ row) : pNotIn (.int (-1)) (.tuple (row.map dO)) = .ok (.bool false) := by
  have : inItems (.int (-1)) (row.map dO) = decide (none ∈ row) := by
    unfold inItems
    induction row with
    | nil => rfl
    | cons y row ih =>
      rw [List.map_cons, List.any_cons, eqv_dO1]
      by_cases h : y = none
      · subst h; simp
      · have h2 : none ∈ row := by
          rcases List.mem_cons.mp ‹none ∈ y :: row› with h3 | h3
          · exact absurd h3.symm h
          · exact h3
        rw [ih h2]
        simp [h, Ne.symm h]
  show when_ (flat? (.int (-1)) && flat? (.tuple (row.map dO))) _ = _
  rw [flat_int, flat_row, this]
  simp [h, when_]
theorem row_at {row : Row} {s : Nat} (h : s < row.length) : (row.map dO)[s]? = some (dO row[s]!) := by
  rw [List.getElem?_map, List.getElem?_eq_getElem h, getElem!_pos row s h]
  rfl
theorem bangT {xs : List (List Nat)} {k : Nat} (h : k < xs.length) : Option.map dT xs[k]? = some (.tuple (xs[k]!.map dI)) := by
  rw [List.getElem?_eq_getElem h, getElem!_pos xs k h]
  rfl
theorem insert_ok {P : List (List Nat)} {T : List (List (List Nat))} {row0 : Row} {a0 f : Nat} {R : Row × List (Nat × Nat)} (h : insF P T f a0 0 row0 [] = some R) (hf : f ≤ 10000) (ha : some a0 ∉ row0) (hn : none ∈ row0) (hl : row0.length ≤ 10000) (S : Store) :
    f_insert [.p (.tuple (P.map dT)), .p (dRule T), .p (.tuple (row0.map dO)), .p (.int a0)] S = .ok (.p (.tuple [.tuple (R.1.map dO), .tuple (R.2.map dPr)]), S) := by
  have q1 := pIn_row a0 row0
  have q2 := pNotIn_row row0 hn
  refine fn_rn rfl ?_
  unfold b_insert dRule
  wp_walk using q1, q2, ha
  refine Rn.mono (Q := fun p => ∃ σ S', p = (.rt (.p (.tuple [.tuple (R.1.map dO), .tuple (R.2.map dPr)])), σ, S ++ S')) (while_ret (fun m σ S' => ∃ (a i : Nat) (row : Row) (path : List (Nat × Nat)) (t8 t9 : Option D), insF P T m a i row path = some R ∧ row.length ≤ 10000 ∧ path.length + m ≤ 10000 ∧ σ = [some (.p (.tuple (P.map dT))), some (.p (.tuple (T.map fun t => .tuple (t.map dT)))), some (.p (.tuple (row0.map dO))), some (.p (.int a0)), some (.ref S.length), some (.ref (S.length + 1)), some (.p (.int a)), some (.p (.int i)), t8, t9] ∧ S' = S ++ [.lst (row.map dO), .lst (path.map dPr)]) ?_ FUEL f _ _ (by unfold FUEL; omega) ?_) ?_
  · rintro m σ S' ⟨a, i, row, path, t8, t9, hm, hl, hp, rfl, rfl⟩
    cases m with
    | zero => cases hm
    | succ m =>
      rw [insF] at hm
      split at hm
      · rename_i hc
        obtain ⟨c1, c2, c3, c4, c5⟩ := hc
        have e1 : (P.map dT)[a]? = some (.tuple (P[a]!.map dI)) := by
          rw [List.getElem?_map, List.getElem?_eq_getElem c1, getElem!_pos P a c1]
          rfl
        have e2 : (P[a]!.map dI)[i]? = some (.int P[a]![i]!) := by
          rw [List.getElem?_map, List.getElem?_eq_getElem c2, getElem!_pos P[a]! i c2]
          rfl
        have e4 : (T.map fun t => PyData.tuple (t.map dT))[P[a]![i]!]? = some (.tuple (T[P[a]![i]!]!.map dT)) := by
          rw [List.getElem?_map, List.getElem?_eq_getElem c4, getElem!_pos T _ c4]
          rfl
        have e5 : (T[P[a]![i]!]!.map dT)[a]? = some (.tuple (T[P[a]![i]!]![a]!.map dI)) := by
          rw [List.getElem?_map, List.getElem?_eq_getElem c5, getElem!_pos T[P[a]![i]!]! a c5]
          rfl
        rw [List.getElem?_map] at e1 e2 e4 e5
        have e3 := row_at c3
        rw [List.getElem?_map] at e3
        generalize P[a]![i]! = s at *
        cases hr : row[s]! with
        | none =>
          rw [hr] at hm e3
          cases hm
          wp_walk using e1, e2, e3, dO
          have x1 : (row.map dO).set s (.int a) = (row.set s (some a)).map dO := by
            rw [List.map_set]
            rfl
          have x2 : path.map dPr ++ [.tuple [.int a, .int s]] = (path ++ [(a, s)]).map dPr := by
            rw [List.map_append]
            rfl
          rw [x1, x2]
          exact .inr ⟨_, rfl, _, _, rfl⟩
        | some h =>
          rw [hr] at hm e3
          dsimp only at hm
          have hne : ¬ ((h : Int) = -1) := by omega
          have q3 : pIn (.int h) (.tuple (T[s]![a]!.map dI)) = .ok (.bool (decide (h ∈ T[s]![a]!))) := pIn_nat h _
          split at hm
          · rename_i hb
            split at hm
            · rename_i hb2
              have e6 := bangT hb2.1
              have e7 : pIndex (.tuple (P[h]!.map dI)) (.int s) = .ok (.int (P[h]!.idxOf s : Nat)) := pIndex_nat hb2.2
              wp_walk using e1, e2, e3, e4, e5, dO, hne, q3, hb, e6, e7
              refine .inl ⟨m, by omega, h, P[h]!.idxOf s + 1, row.set s (some a), path ++ [(a, s)], _, _, hm, by rw [List.length_set]; exact hl, by rw [List.length_append]; simp; omega, rfl, ?_⟩
              rw [List.map_set, List.map_append]
              rfl
            · cases hm
          · rename_i hb
            wp_walk using e1, e2, e3, e4, e5, dO, hne, q3, hb
            exact .inl ⟨m, by omega, a, i + 1, row, path, _, _, hm, hl, by omega, rfl, rfl⟩
      · cases hm
  · exact ⟨a0, 0, row0, [], none, none, h, hl, by simp; omega, rfl, rfl⟩
  · rintro p ⟨σ, S', rfl⟩
    wp_walk using hl
end Mi
end
section
namespace Mi
open PySem Mi Mi.L 
local macro_rules | `(tactic| wp_walk using $[$ts:term],*) => `(tactic| simp (disch := first | with_reducible assumption | omega | (simp only [List.length_set, List.length_append, List.length_cons, List.length_nil, List.length_map, List.length_range, List.length_replicate, Line]; omega) | (simp only [List.length_set, List.length_append, List.length_cons, List.length_nil, List.length_map, List.length_range, List.length_replicate]; done) | fail) only [au0, au1, au2, au3, au4, au5, au6, List.getElem?_map, dI, dT, List.getElem?_cons_zero, List.getElem?_cons_succ, List.set_cons_zero, List.set_cons_succ, List.map_cons, List.map_nil, List.length_cons, List.length_nil, List.cons_append, List.nil_append, List.append_nil, List.append_assoc, List.reduceReplicate, List.length_set, List.set_set, List.length_append, List.length_map, List.length_range, List.length_replicate, decide_true, decide_false, decide_eq_true_eq, Bool.not_eq_true', decide_eq_false_iff_not, Bool.true_and, Bool.false_and, Bool.not_true, Bool.not_false, Bool.false_eq_true, if_true, if_false, Int.toNat_natCast, Int.reduceToNat, Int.reducePow, Int.reduceMul, Int.reduceAdd, Int.reduceSub, Int.reduceNeg, Int.reduceLT, Int.reduceLE, Nat.sub_self, Nat.add_sub_cancel_left, Nat.reduceAdd, Nat.reduceSub, Nat.reduceLT, Nat.reduceLeDiff, Int.cast_ofNat_Int, true_or, or_true, true_and, and_true, $[$ts:term],*])
theorem sum_upd {f f' : Nat → Nat} {s0 : Nat} (h : ∀ s, s ≠ s0 → f' s = f s) : ∀ n, ((List.range n).map f').sum + (if s0 < n then f s0 else 0) = ((List.range n).map f).sum + (if s0 < n then f' s0 else 0)
  | 0 => by simp
  | n + 1 => by
    have ih := sum_upd h n
    rw [List.range_succ, List.map_append, List.map_append, List.sum_append, List.sum_append]
    simp only [List.map_cons, List.map_nil, List.sum_cons, List.sum_nil]
    by_cases e : s0 = n
    · subst e
      rw [if_neg (Nat.lt_irrefl _), if_neg (Nat.lt_irrefl _)] at ih
      rw [if_pos (Nat.lt_succ_self _), if_pos (Nat.lt_succ_self _)]
      omega
    · rw [h n (fun z => e z.symm)]
      by_cases e2 : s0 < n
      · rw [if_pos e2, if_pos e2] at ih
        rw [if_pos (by omega), if_pos (by omega)]
        omega
      · rw [if_neg e2, if_neg e2] at ih
        rw [if_neg (by omega), if_neg (by omega)]
        omega
structure Probes (n : Nat) (P : List (List Nat)) : Prop where
  perm : ∀ k, k < P.length → P[k]!.Perm (List.range n)
structure Tabs (n m : Nat) (T : List (List (List Nat))) : Prop where
  len : T.length = n
  tl : ∀ s, s < n → T[s]!.length = m
structure Lay (P : List (List Nat)) (row : Row) : Prop where
  inj : ∀ s t k, s < row.length → t < row.length → row[s]! = some k → row[t]! = some k → s = t
  kb : ∀ s k, s < row.length → row[s]! = some k → k < P.length
  full : ∀ s k, s < row.length → row[s]! = some k → ∀ t ∈ P[k]!.take (P[k]!.idxOf s), row[t]! ≠ none
structure Ask (P : List (List Nat)) (row : Row) (a i : Nat) : Prop where
  lay : Lay P row
  new : ∀ s, s < row.length → row[s]! ≠ some a
  ak : a < P.length
  full : ∀ t ∈ P[a]!.take i, row[t]! ≠ none
  free : ∃ t, t < row.length ∧ row[t]! = none
def wgt (P : List (List Nat)) (row : Row) (s : Nat) : Nat := match row[s]! with
  | none => 0
  | some k => row.length - P[k]!.idxOf s
def phi (P : List (List Nat)) (row : Row) (i : Nat) : Nat := (row.length - i) + ((List.range row.length).map (wgt P row)).sum
theorem row_set {row : Row} {s t : Nat} {v : Option Nat} (ht : t < row.length) : (row.set s v)[t]! = if s = t then v else row[t]! := by
  rw [getElem!_pos _ t (by rw [List.length_set]; exact ht), getElem!_pos _ t ht, List.getElem_set]
theorem Probes.lt {n : Nat} {P : List (List Nat)} (hP : Probes n P) {k s : Nat} (hk : k < P.length) (h : s ∈ P[k]!) : s < n := List.mem_range.mp ((hP.perm k hk).mem_iff.mp h)
theorem Probes.len {n : Nat} {P : List (List Nat)} (hP : Probes n P) {k : Nat} (hk : k < P.length) : P[k]!.length = n := by rw [(hP.perm k hk).length_eq, List.length_range]
theorem Probes.mem {n : Nat} {P : List (List Nat)} (hP : Probes n P) {k s : Nat} (hk : k < P.length) (h : s < n) : s ∈ P[k]! := (hP.perm k hk).mem_iff.mpr (List.mem_range.mpr h)
theorem Probes.idx {n : Nat} {P : List (List Nat)} (hP : Probes n P) {k i : Nat} (hk : k < P.length) (h : i < n) : P[k]!.idxOf P[k]![i]! = i := by
  have hl := hP.len hk
  rw [getElem!_pos P[k]! i (by omega)]
  exact ((hP.perm k hk).nodup_iff.mpr List.nodup_range).idxOf_getElem i (by omega)
theorem Ask.lt {n : Nat} {P : List (List Nat)} {row : Row} {a i : Nat} (hP : Probes n P) (hn : row.length = n) (h : Ask P row a i) : i < n := by
  by_cases hi : i < n
  · exact hi
  · exfalso
    obtain ⟨t, ht, h0⟩ := h.free
    refine h.full t ?_ h0
    rw [List.take_of_length_le (by rw [hP.len h.ak]; omega)]
    exact hP.mem h.ak (by omega)
theorem take_succ_mem {xs : List Nat} {i t : Nat} (hi : i < xs.length) (h : t ∈ xs.take (i + 1)) : t ∈ xs.take i ∨ t = xs[i]! := by
  rw [List.take_succ, List.mem_append, List.getElem?_eq_getElem hi] at h
  rcases h with h | h
  · exact .inl h
  · rw [getElem!_pos xs i hi]
    exact .inr (by simpa using h)
theorem Ask.put {n : Nat} {P : List (List Nat)} {row : Row} {a i : Nat} (hP : Probes n P) (hn : row.length = n) (h : Ask P row a i) (hi : i < n) : Lay P (row.set P[a]![i]! (some a)) := by
  have hs : P[a]![i]! < row.length := by
    rw [hn]
    refine hP.lt h.ak ?_
    rw [getElem!_pos P[a]! i (by rw [hP.len h.ak]; exact hi)]
    exact List.getElem_mem _
  have hidx := hP.idx h.ak hi
  generalize P[a]![i]! = s at *
  have hL : (row.set s (some a)).length = row.length := List.length_set
  have ne : ∀ t, t < row.length → row[t]! ≠ none → (row.set s (some a))[t]! ≠ none := fun t ht h0 => by
    rw [row_set ht]
    split
    · simp
    · exact h0
  have tl : ∀ k, k < P.length → ∀ j t, t ∈ P[k]!.take j → t < row.length := fun k hk j t ht => by
    rw [hn]
    exact hP.lt hk (List.mem_of_mem_take ht)
  refine ⟨fun u t k hu ht e1 e2 => ?_, fun u k hu e => ?_, fun u k hu e t ht => ?_⟩
  · rw [hL] at hu ht
    rw [row_set hu] at e1
    rw [row_set ht] at e2
    split at e1
    · split at e2
      · omega
      · cases e1
        exact absurd e2 (h.new t ht)
    · split at e2
      · cases e2
        exact absurd e1 (h.new u hu)
      · exact h.lay.inj u t k hu ht e1 e2
  · rw [hL] at hu
    rw [row_set hu] at e
    split at e
    · cases e
      exact h.ak
    · exact h.lay.kb u k hu e
  · rw [hL] at hu
    rw [row_set hu] at e
    split at e
    · rename_i e0
      cases e
      subst e0
      rw [hidx] at ht
      exact ne t (tl _ h.ak _ t ht) (h.full t ht)
    · have hk := h.lay.kb u k hu e
      exact ne t (tl _ hk _ t ht) (h.lay.full u k hu e t ht)
theorem mem_row {row : Row} {k : Nat} : some k ∈ row ↔ ∃ s, s < row.length ∧ row[s]! = some k := by
  rw [List.mem_iff_getElem]
  constructor
  · rintro ⟨s, hs, e⟩
    exact ⟨s, hs, by rw [getElem!_pos row s hs]; exact e⟩
  · rintro ⟨s, hs, e⟩
    exact ⟨s, hs, by rw [getElem!_pos row s hs] at e; exact e⟩
def Lone (n : Nat) (P : List (List Nat)) (row : Row) : Prop := ∃ t, t < n ∧ ∀ u k, u < n → row[u]! = some k → t ∉ P[k]!.take (P[k]!.idxOf u)
theorem not_take {xs : List Nat} {s : Nat} (h : xs.Nodup) : s ∉ xs.take (xs.idxOf s) := fun z => by
  obtain ⟨i, hi, e⟩ := List.mem_iff_getElem.mp z
  rw [List.length_take] at hi
  rw [List.getElem_take] at e
  have := h.idxOf_getElem i (by omega)
  rw [e] at this
  omega
theorem insF_ex {n m : Nat} {P : List (List Nat)} {T : List (List (List Nat))} (hP : Probes n P) (hm : P.length = m) (hT : Tabs n m T) : ∀ (f a i : Nat) (row : Row) (path : List (Nat × Nat)), row.length = n → Ask P row a i → phi P row i ≤ f →
    ∃ R, insF P T f a i row path = some R ∧ Lay P R.1 ∧ R.1.length = n ∧ (∀ k, some k ∈ R.1 ↔ k = a ∨ some k ∈ row) ∧ Lone n P R.1
  | 0, a, i, row, path, hn, h, hf => by
    have := h.lt hP hn
    unfold phi at hf
    omega
  | f + 1, a, i, row, path, hn, h, hf => by
    have hi := h.lt hP hn
    have hs : P[a]![i]! < row.length := by
      rw [hn]
      refine hP.lt h.ak ?_
      rw [getElem!_pos P[a]! i (by rw [hP.len h.ak]; exact hi)]
      exact List.getElem_mem _
    have hput := h.put hP hn hi
    have hidx := hP.idx h.ak hi
    rw [insF, if_pos ⟨h.ak, by rw [hP.len h.ak]; exact hi, hs, by rw [hT.len, ← hn]; exact hs, by rw [hT.tl _ (by rw [← hn]; exact hs), ← hm]; exact h.ak⟩]
    have hpass : row[P[a]![i]!]! ≠ none → Ask P row a (i + 1) := fun h0 => ⟨h.lay, h.new, h.ak, fun t ht => by
      rcases take_succ_mem (by rw [hP.len h.ak]; exact hi) ht with ht | rfl
      · exact h.full t ht
      · exact h0, h.free⟩
    generalize hsd : P[a]![i]! = s at *
    have hL : (row.set s (some a)).length = row.length := List.length_set
    cases hr : row[s]! with
    | none =>
      have hlone : Lone n P (row.set s (some a)) := ⟨s, by omega, fun u k hu e => by
        rw [row_set (by omega)] at e
        split at e
        · rename_i e0
          cases e
          subst e0
          exact not_take ((hP.perm a h.ak).nodup_iff.mpr List.nodup_range)
        · exact fun z => h.lay.full u k (by omega) e s z hr⟩
      refine ⟨_, rfl, hput, by rw [hL]; exact hn, fun k => ?_, hlone⟩
      rw [mem_row, mem_row, hL]
      constructor
      · rintro ⟨t, ht, e⟩
        rw [row_set ht] at e
        split at e
        · cases e
          exact .inl rfl
        · exact .inr ⟨t, ht, e⟩
      · rintro (rfl | ⟨t, ht, e⟩)
        · exact ⟨s, hs, by rw [row_set hs, if_pos rfl]⟩
        · refine ⟨t, ht, ?_⟩
          rw [row_set ht, if_neg (by rintro rfl; rw [hr] at e; cases e)]
          exact e
    | some b =>
      dsimp only
      have hb := h.lay.kb s b hs hr
      have hsb : s ∈ P[b]! := hP.mem hb (by omega)
      split
      · rw [if_pos ⟨hb, hsb⟩]
        have hib : P[b]!.idxOf s < n := by rw [← hP.len hb]; exact List.idxOf_lt_length_iff.mpr hsb
        have hab : a ≠ b := fun z => h.new s hs (by rw [z]; exact hr)
        have hA : Ask P (row.set s (some a)) b (P[b]!.idxOf s + 1) := by
          refine ⟨hput, fun t ht e => ?_, hb, fun t ht e => ?_, ?_⟩
          · rw [hL] at ht
            rw [row_set ht] at e
            split at e
            · cases e
              exact hab rfl
            · rename_i e0
              exact e0 (h.lay.inj s t b hs ht hr e)
          · rcases take_succ_mem (by rw [hP.len hb]; exact hib) ht with ht | rfl
            · have htl : t < row.length := by rw [hn]; exact hP.lt hb (List.mem_of_mem_take ht)
              rw [row_set htl] at e
              split at e
              · cases e
              · exact h.lay.full s b hs hr t ht e
            · have e1 : P[b]![P[b]!.idxOf s]! = s := by
                rw [getElem!_pos P[b]! _ (by rw [hP.len hb]; exact hib)]
                exact List.getElem_idxOf _
              rw [e1, row_set hs, if_pos rfl] at e
              cases e
          · obtain ⟨t, ht, e⟩ := h.free
            refine ⟨t, by rw [hL]; exact ht, ?_⟩
            rw [row_set ht, if_neg (by rintro rfl; rw [hr] at e; cases e)]
            exact e
        have hphi : phi P (row.set s (some a)) (P[b]!.idxOf s + 1) ≤ f := by
          have e := sum_upd (f := wgt P row) (f' := wgt P (row.set s (some a))) (s0 := s) (fun t ht => by
            unfold wgt
            rw [hL]
            by_cases htl : t < row.length
            · rw [row_set htl, if_neg (Ne.symm ht)]
            · rw [getElem!_neg row t htl, getElem!_neg _ t (by rw [hL]; exact htl)]) row.length
          rw [if_pos hs, if_pos hs] at e
          have e1 : wgt P row s = n - P[b]!.idxOf s := by
            unfold wgt
            rw [hr, hn]
          have e2 : wgt P (row.set s (some a)) s = n - i := by
            unfold wgt
            rw [row_set hs, if_pos rfl, hL, hn]
            show n - List.idxOf s P[a]! = n - i
            rw [hidx]
          unfold phi at hf ⊢
          rw [hL, hn]
          rw [hn] at hf e
          omega
        obtain ⟨R, g1, g2, g3, g4, g5⟩ := insF_ex hP hm hT f b (P[b]!.idxOf s + 1) (row.set s (some a)) (path ++ [(a, s)]) (by rw [hL]; exact hn) hA hphi
        refine ⟨R, g1, g2, g3, fun k => ?_, g5⟩
        rw [g4, mem_row, mem_row, hL]
        constructor
        · rintro (rfl | ⟨t, ht, e⟩)
          · exact .inr ⟨s, hs, hr⟩
          · rw [row_set ht] at e
            split at e
            · cases e
              exact .inl rfl
            · exact .inr ⟨t, ht, e⟩
        · rintro (rfl | ⟨t, ht, e⟩)
          · exact .inr ⟨s, hs, by rw [row_set hs, if_pos rfl]⟩
          · by_cases hts : s = t
            · subst hts
              rw [hr] at e
              cases e
              exact .inl rfl
            · exact .inr ⟨t, ht, by rw [row_set ht, if_neg hts]; exact e⟩
      · obtain ⟨R, g1, g2, g3, g4, g5⟩ := insF_ex hP hm hT f a (i + 1) row path hn (hpass (by rw [hr]; simp)) (by
          unfold phi at hf ⊢
          omega)
        exact ⟨R, g1, g2, g3, g4, g5⟩
theorem phi_le {n : Nat} {P : List (List Nat)} {row : Row} {i : Nat} (hn : row.length = n) : phi P row i ≤ n + n * n := by
  unfold phi
  have : ∀ k, ((List.range k).map (wgt P row)).sum ≤ k * n := by
    intro k
    induction k with
    | zero => simp
    | succ k ih =>
      rw [List.range_succ, List.map_append, List.sum_append, Nat.succ_mul]
      have : wgt P row k ≤ n := by
        unfold wgt
        split <;> omega
      simp only [List.map_cons, List.map_nil, List.sum_cons, List.sum_nil]
      omega
  have := this row.length
  rw [hn] at this ⊢
  omega
structure Rw (n : Nat) (P : List (List Nat)) (row : Row) (done : List Nat) : Prop where
  lay : Lay P row
  len : row.length = n
  keys : ∀ k, some k ∈ row ↔ k ∈ done
  lone : Lone n P row
theorem Rw.empty {n : Nat} (h : 0 < n) (P : List (List Nat)) : Rw n P (List.replicate n none) [] := by
  have g : ∀ s, s < n → (List.replicate n (none : Option Nat))[s]! = none := fun s hs => by
    rw [getElem!_pos _ s (by rw [List.length_replicate]; exact hs), List.getElem_replicate]
  refine ⟨⟨fun s t k hs ht e _ => ?_, fun s k hs e => ?_, fun s k hs e => ?_⟩, List.length_replicate, fun k => by simp, ⟨0, h, fun u k hu e => ?_⟩⟩
  · rw [List.length_replicate] at hs
    rw [g s hs] at e
    cases e
  · rw [List.length_replicate] at hs
    rw [g s hs] at e
    cases e
  · rw [List.length_replicate] at hs
    rw [g s hs] at e
    cases e
  · rw [g u hu] at e
    cases e
theorem Rw.free {n : Nat} {P : List (List Nat)} {row : Row} {done : List Nat} (h : Rw n P row done) (hd : done.length < n) : ∃ t, t < row.length ∧ row[t]! = none := by
  by_cases hx : ∃ t, t < row.length ∧ row[t]! = none
  · exact hx
  · exfalso
    have hall : ∀ t, t < row.length → ∃ k, row[t]! = some k := fun t ht => by
      cases e : row[t]! with
      | none => exact absurd ⟨t, ht, e⟩ hx
      | some k => exact ⟨k, rfl⟩
    have hmem : ∀ t k, t < row.length → row[t]! = some k → k ∈ done := fun t k ht e => (h.keys k).mp (mem_row.mpr ⟨t, ht, e⟩)
    have := nodup_len (ks := (List.range n).map fun t => done.idxOf (row[t]!.getD 0)) (n := done.length) ?_ ?_
    · rw [List.length_map, List.length_range] at this
      omega
    · rw [List.nodup_iff_pairwise_ne, List.pairwise_map]
      have : (List.range n).Pairwise (· < ·) := List.pairwise_lt_range
      refine List.Pairwise.imp_of_mem ?_ this
      intro s t hs ht hlt e
      rw [List.mem_range] at hs ht
      rw [← h.len] at hs ht
      obtain ⟨a, ha⟩ := hall s hs
      obtain ⟨b, hb⟩ := hall t ht
      rw [ha, hb] at e
      have ma := hmem s a hs ha
      have mb := hmem t b ht hb
      have e1 : done[done.idxOf a]? = some a := by rw [List.getElem?_eq_getElem (List.idxOf_lt_length_iff.mpr ma), List.getElem_idxOf]
      have e2 : done[done.idxOf b]? = some b := by rw [List.getElem?_eq_getElem (List.idxOf_lt_length_iff.mpr mb), List.getElem_idxOf]
      have e : done.idxOf a = done.idxOf b := e
      rw [e, e2] at e1
      cases e1
      have := h.lay.inj s t _ hs ht ha hb
      omega
    · intro x hx
      obtain ⟨t, ht, rfl⟩ := List.mem_map.mp hx
      rw [List.mem_range, ← h.len] at ht
      obtain ⟨a, ha⟩ := hall t ht
      rw [ha]
      exact List.idxOf_lt_length_iff.mpr (hmem t a ht ha)
def lay1 (P : List (List Nat)) (T : List (List (List Nat))) (row : Row) (a : Nat) : Row := ((insF P T 10000 a 0 row []).getD ([], [])).1
theorem Rw.step {n m : Nat} {P : List (List Nat)} {T : List (List (List Nat))} {row : Row} {done : List Nat} {a : Nat} (hP : Probes n P) (hm : P.length = m) (hT : Tabs n m T) (h : Rw n P row done) (hd : done.length < n) (hn : n ≤ 90) (ha : a < m) (hna : a ∉ done) :
    (∀ S, ∃ p, f_insert [.p (.tuple (P.map dT)), .p (dRule T), .p (.tuple (row.map dO)), .p (.int a)] S = .ok (.p (.tuple [.tuple ((lay1 P T row a).map dO), p]), S)) ∧ Rw n P (lay1 P T row a) (done ++ [a]) := by
  have hfree := h.free hd
  have hnew : some a ∉ row := fun z => hna ((h.keys a).mp z)
  have hA : Ask P row a 0 := ⟨h.lay, fun s hs e => hnew (mem_row.mpr ⟨s, hs, e⟩), by omega, fun t ht => by simp at ht, hfree⟩
  have hphi : phi P row 0 ≤ 10000 := by
    have := phi_le (P := P) (i := 0) h.len
    have : n * n ≤ 90 * 90 := Nat.mul_le_mul hn hn
    omega
  obtain ⟨R, g1, g2, g3, g4, g5⟩ := insF_ex hP hm hT 10000 a 0 row [] h.len hA hphi
  have e1 : lay1 P T row a = R.1 := by unfold lay1; rw [g1]; rfl
  rw [e1]
  refine ⟨fun S => ⟨_, insert_ok g1 (Nat.le_refl _) hnew ?_ (by rw [h.len]; omega) S⟩, g2, g3, fun k => ?_, g5⟩
  · obtain ⟨t, ht, e⟩ := hfree
    rw [getElem!_pos row t ht] at e
    rw [← e]
    exact List.getElem_mem _
  · rw [g4, h.keys, List.mem_append, List.mem_singleton]
    exact or_comm
theorem Rw.fold {n m : Nat} {P : List (List Nat)} {T : List (List (List Nat))} (hP : Probes n P) (hm : P.length = m) (hT : Tabs n m T) (hn : n ≤ 90) (hn0 : 0 < n) {h : List Nat} (hnd : h.Nodup) (hk : ∀ k ∈ h, k < m) (hl : h.length ≤ n) : ∀ j, j ≤ h.length → Rw n P ((h.take j).foldl (lay1 P T) (List.replicate n none)) (h.take j)
  | 0, _ => Rw.empty hn0 P
  | j + 1, hj => by
    have ih := Rw.fold hP hm hT hn hn0 hnd hk hl j (by omega)
    have e : h.take (j + 1) = h.take j ++ [h[j]] := by rw [List.take_succ, List.getElem?_eq_getElem (by omega)]; rfl
    rw [e, List.foldl_append]
    refine (ih.step hP hm hT (by rw [List.length_take]; omega) hn (hk _ (List.getElem_mem _)) ?_).2
    intro z
    obtain ⟨i, hi, e2⟩ := List.mem_iff_getElem.mp z
    rw [List.length_take] at hi
    rw [List.getElem_take] at e2
    have h1 := hnd.idxOf_getElem i (by omega)
    have h2 := hnd.idxOf_getElem j (by omega)
    rw [e2] at h1
    omega
def rowOfH (P : List (List Nat)) (T : List (List (List Nat))) (n : Nat) (h : List Nat) : Row := h.foldl (lay1 P T) (List.replicate n none)
theorem Rw.turn {n m : Nat} {P : List (List Nat)} {T : List (List (List Nat))} (hP : Probes n P) (hm : P.length = m) (hT : Tabs n m T) (hn : n ≤ 90) (hn0 : 0 < n) {h : List Nat} (hnd : h.Nodup) (hk : ∀ k ∈ h, k < m) (hl : h.length ≤ n) {j x : Nat} (hx : h[j]? = some x) :
    (∀ S, ∃ p, f_insert [.p (.tuple (P.map dT)), .p (dRule T), .p (.tuple ((rowOfH P T n (h.take j)).map dO)), .p (.int x)] S = .ok (.p (.tuple [.tuple ((rowOfH P T n (h.take (j + 1))).map dO), p]), S)) := by
  obtain ⟨hj, e0⟩ := List.getElem?_eq_some_iff.mp hx
  have ih := Rw.fold hP hm hT hn hn0 hnd hk hl j (by omega)
  have e : h.take (j + 1) = h.take j ++ [x] := by rw [List.take_succ, hx]; rfl
  have := (ih.step hP hm hT (a := x) (by rw [List.length_take]; omega) hn (hk _ (e0 ▸ List.getElem_mem _)) (by
    intro z
    obtain ⟨i, hi, e2⟩ := List.mem_iff_getElem.mp z
    rw [List.length_take] at hi
    rw [List.getElem_take] at e2
    have h1 := hnd.idxOf_getElem i (by omega)
    have h2 := hnd.idxOf_getElem j (by omega)
    rw [e2] at h1
    rw [e0] at h2
    omega)).1
  unfold rowOfH
  rw [e, List.foldl_append]
  exact this
end Mi
end
section
namespace Mi
open PySem Mi Mi.L 
local macro_rules | `(tactic| wp_walk using $[$ts:term],*) => `(tactic| simp (disch := first | with_reducible assumption | omega | (simp only [List.length_set, List.length_append, List.length_cons, List.length_nil, List.length_map, List.length_range, List.length_replicate, Line]; omega) | (simp only [List.length_set, List.length_append, List.length_cons, List.length_nil, List.length_map, List.length_range, List.length_replicate]; done) | fail) only [au0, au1, au2, au3, au4, au5, au6, List.getElem?_map, dI, dT, List.getElem?_cons_zero, List.getElem?_cons_succ, List.set_cons_zero, List.set_cons_succ, List.map_cons, List.map_nil, List.length_cons, List.length_nil, List.cons_append, List.nil_append, List.append_nil, List.append_assoc, List.reduceReplicate, List.length_set, List.set_set, List.length_append, List.length_map, List.length_range, List.length_replicate, decide_true, decide_false, decide_eq_true_eq, Bool.not_eq_true', decide_eq_false_iff_not, Bool.true_and, Bool.false_and, Bool.not_true, Bool.not_false, Bool.false_eq_true, if_true, if_false, Int.toNat_natCast, Int.reduceToNat, Int.reducePow, Int.reduceMul, Int.reduceAdd, Int.reduceSub, Int.reduceNeg, Int.reduceLT, Int.reduceLE, Nat.sub_self, Nat.add_sub_cancel_left, Nat.reduceAdd, Nat.reduceSub, Nat.reduceLT, Nat.reduceLeDiff, Int.cast_ofNat_Int, true_or, or_true, true_and, and_true, $[$ts:term],*])
end Mi
end
section
namespace Mi
open PySem Mi Mi.L 
local macro_rules | `(tactic| wp_walk using $[$ts:term],*) => `(tactic| simp (disch := first | with_reducible assumption | omega | (simp only [List.length_set, List.length_append, List.length_cons, List.length_nil, List.length_map, List.length_range, List.length_replicate, Line]; omega) | (simp only [List.length_set, List.length_append, List.length_cons, List.length_nil, List.length_map, List.length_range, List.length_replicate]; done) | fail) only [au0, au1, au2, au3, au4, au5, au6, List.getElem?_map, dI, dT, List.getElem?_cons_zero, List.getElem?_cons_succ, List.set_cons_zero, List.set_cons_succ, List.map_cons, List.map_nil, List.length_cons, List.length_nil, List.cons_append, List.nil_append, List.append_nil, List.append_assoc, List.reduceReplicate, List.length_set, List.set_set, List.length_append, List.length_map, List.length_range, List.length_replicate, decide_true, decide_false, decide_eq_true_eq, Bool.not_eq_true', decide_eq_false_iff_not, Bool.true_and, Bool.false_and, Bool.not_true, Bool.not_false, Bool.false_eq_true, if_true, if_false, Int.toNat_natCast, Int.reduceToNat, Int.reducePow, Int.reduceMul, Int.reduceAdd, Int.reduceSub, Int.reduceNeg, Int.reduceLT, Int.reduceLE, Nat.sub_self, Nat.add_sub_cancel_left, Nat.reduceAdd, Nat.reduceSub, Nat.reduceLT, Nat.reduceLeDiff, Int.cast_ofNat_Int, true_or, or_true, true_and, and_true, $[$ts:term],*])
def scrT (t : List (List Nat)) (k : Nat) : Int := 0 - (t[k]!.length : Int)
def ordOf (t : List (List Nat)) : List Nat := byRank (scrT t) t.length
def Ring3 (t : List (List Nat)) (a b c : Nat) : Prop := b ∈ t[a]! ∧ c ∈ t[b]! ∧ a ∈ t[c]!
def HasRing (t : List (List Nat)) : Prop := ∃ a b c, a < t.length ∧ b < t.length ∧ c < t.length ∧ Ring3 t a b c
theorem tab_bang {o : List Nat} {a : Nat} (ha : a < o.length) : (tab o)[a]! = beats o a := by
  have := tab_at (o := o) ha
  rw [List.getElem!_eq_getElem?_getD, this]
  rfl
theorem tab_noring {o : List Nat} (ho : Ord o) : ¬ HasRing (tab o) := by
  rintro ⟨a, b, c, ha, hb, hc, h1, h2, h3⟩
  rw [tab_len] at ha hb hc
  rw [tab_bang ha, ho.mem_beats ha] at h1
  rw [tab_bang hb, ho.mem_beats hb] at h2
  rw [tab_bang hc, ho.mem_beats hc] at h3
  omega
theorem noring_lt {n : Nat} {t : List (List Nat)} (ht : IsTable n t) (h : ¬ HasRing t) {a b : Nat} (ha : a < n) (hb : b ∈ t[a]!) : t[b]!.length < t[a]!.length := by
  have hbn := ht.lt a ha b hb
  have hab := ((ht.tour a b ha hbn).mp hb)
  have hsub : ∀ c ∈ t[b]!, c ∈ t[a]! := fun c hc => by
    have hcn := ht.lt b hbn c hc
    rw [ht.tour a c ha hcn]
    refine ⟨fun e => ?_, fun z => h ⟨a, b, c, by rw [ht.len]; exact ha, by rw [ht.len]; exact hbn, by rw [ht.len]; exact hcn, hb, hc, z⟩⟩
    subst e
    exact hab.2 hc
  have hnd : (b :: t[b]!).Nodup := by
    rw [List.nodup_cons]
    refine ⟨fun z => ?_, (ht.asc b hbn).imp fun h => by omega⟩
    exact ((ht.tour b b hbn hbn).mp z).1 rfl
  have hsub2 : ∀ c ∈ b :: t[b]!, c ∈ t[a]! := fun c hc => by
    rcases List.mem_cons.mp hc with rfl | hc
    · exact hb
    · exact hsub c hc
  have hle : (b :: t[b]!).length ≤ t[a]!.length := by
    have := nodup_len (ks := (b :: t[b]!).map fun c => t[a]!.idxOf c) (n := t[a]!.length) (by
      rw [List.nodup_iff_pairwise_ne, List.pairwise_map]
      rw [List.nodup_iff_pairwise_ne] at hnd
      refine List.Pairwise.imp_of_mem (fun {x y} hx hy hxy e => hxy ?_) hnd
      have e1 : t[a]![t[a]!.idxOf x]? = some x := by rw [List.getElem?_eq_getElem (List.idxOf_lt_length_iff.mpr (hsub2 x hx)), List.getElem_idxOf]
      have e2 : t[a]![t[a]!.idxOf y]? = some y := by rw [List.getElem?_eq_getElem (List.idxOf_lt_length_iff.mpr (hsub2 y hy)), List.getElem_idxOf]
      rw [e, e2] at e1
      cases e1
      rfl) (fun x hx => by
      obtain ⟨c, hc, rfl⟩ := List.mem_map.mp hx
      exact List.idxOf_lt_length_iff.mpr (hsub2 c hc))
    rwa [List.length_map] at this
  rw [List.length_cons] at hle
  omega
theorem ordOf_ord (t : List (List Nat)) : Ord (ordOf t) := byRank_ord _ _
theorem ordOf_len (t : List (List Nat)) : (ordOf t).length = t.length := byRank_len _ _
theorem noring_tab {n : Nat} {t : List (List Nat)} (ht : IsTable n t) (h : ¬ HasRing t) : tab (ordOf t) = t := by
  have hol := ordOf_len t
  have hn := ht.len
  have ho := ordOf_ord t
  have key : ∀ a b, a < n → b ∈ t[a]! → (ordOf t).idxOf a < (ordOf t).idxOf b := fun a b ha hb => by
    have hbn := ht.lt a ha b hb
    refine (byRank_idx (r := scrT t) (by omega) (by omega)).mpr (.inl ?_)
    have := noring_lt ht h ha hb
    unfold scrT
    omega
  apply List.ext_getElem
  · rw [tab_len, hol]
  · intro a h1 h2
    have han : a < n := by omega
    have e1 : (tab (ordOf t))[a] = beats (ordOf t) a := by
      have := tab_bang (o := ordOf t) (a := a) (by omega)
      rwa [getElem!_pos _ a h1] at this
    have e2 : t[a] = t[a]! := by rw [getElem!_pos t a h2]
    rw [e1, e2]
    refine asc_eq (beats_pair ho a) (ht.asc a han) fun b => ?_
    rw [ho.mem_beats (by omega), hol, hn]
    constructor
    · rintro ⟨hb, hlt⟩
      rw [ht.tour a b han hb]
      exact ⟨fun e => by subst e; omega, fun z => by have := key b a hb z; omega⟩
    · intro hb
      exact ⟨ht.lt a han b hb, key a b han hb⟩
theorem tab_inj {o o' : List Nat} (h : Ord o) (h' : Ord o') (e : tab o = tab o') : o = o' := by
  have hl : o.length = o'.length := by rw [← tab_len o, e, tab_len]
  have hi : ∀ k, k < o.length → o.idxOf k = o'.idxOf k := fun k hk => by
    have e1 := beats_len h hk
    have e2 := beats_len h' (k := k) (by omega)
    rw [← tab_bang hk, e, tab_bang (by omega), e2] at e1
    have := h.idx_lt hk
    have := h'.idx_lt (x := k) (by omega)
    omega
  apply List.ext_getElem hl
  intro i h1 h2
  have e1 := h.idx_at h1
  have hlt := h.at_lt h1
  rw [hi _ hlt] at e1
  have e2 := h'.at_idx (x := o[i]) (by omega)
  simp only [e1] at e2
  exact e2.symm
def ordD (t : List (List Nat)) : PyData := if tab (ordOf t) = t then dT (ordOf t) else .none
structure Found (n : Nat) (t : List (List Nat)) (left found : List Nat) : Prop where
  perm : (found ++ left).Perm (List.range n)
  pw : found.Pairwise fun a b => b ∈ t[a]!
  over : ∀ a ∈ found, ∀ b ∈ left, b ∈ t[a]!
def topOf (t : List (List Nat)) (left : List Nat) : List Nat := left.filter fun x => !(left.any fun y => decide (x ∈ t[y]!))
theorem min_ex (f : Nat → Nat) : ∀ {xs : List Nat}, xs ≠ [] → ∃ x ∈ xs, ∀ y ∈ xs, f x ≤ f y
  | [], h => absurd rfl h
  | [x], _ => ⟨x, by simp, by simp⟩
  | x :: y :: xs, _ => by
    obtain ⟨m, h1, h2⟩ := min_ex f (xs := y :: xs) (by simp)
    by_cases z : f x ≤ f m
    · exact ⟨x, by simp, fun w hw => by
        rcases List.mem_cons.mp hw with rfl | hw
        · exact Nat.le_refl _
        · exact Nat.le_trans z (h2 w hw)⟩
    · exact ⟨m, List.mem_cons_of_mem _ h1, fun w hw => by
        rcases List.mem_cons.mp hw with rfl | hw
        · omega
        · exact h2 w hw⟩
theorem Found.lt {n : Nat} {t : List (List Nat)} {left found : List Nat} (h : Found n t left found) : (∀ x ∈ left, x < n) ∧ (∀ x ∈ found, x < n) :=
  ⟨fun x hx => List.mem_range.mp (h.perm.mem_iff.mp (List.mem_append_right _ hx)), fun x hx => List.mem_range.mp (h.perm.mem_iff.mp (List.mem_append_left _ hx))⟩
theorem Found.nd {n : Nat} {t : List (List Nat)} {left found : List Nat} (h : Found n t left found) : (found ++ left).Nodup := h.perm.nodup_iff.mpr List.nodup_range
theorem Found.none {n : Nat} {t : List (List Nat)} {left found : List Nat} (h : Found n t left found) (ht : IsTable n t) (hl : left ≠ []) (h0 : topOf t left = []) : ordD t = .none := by
  unfold ordD
  rw [if_neg]
  intro e
  obtain ⟨x, hx, hmin⟩ := min_ex (fun y => (ordOf t).idxOf y) hl
  have ho := ordOf_ord t
  have hol := ordOf_len t
  have hn := ht.len
  have : x ∈ topOf t left := by
    refine List.mem_filter.mpr ⟨hx, ?_⟩
    rw [Bool.not_eq_true', List.any_eq_false]
    intro y hy
    rw [decide_eq_true_eq]
    intro z
    have hyn := h.lt.1 y hy
    rw [← e, tab_bang (by omega), ho.mem_beats (by omega)] at z
    have := hmin y hy
    omega
  rw [h0] at this
  cases this
theorem Found.step {n : Nat} {t : List (List Nat)} {left found xs : List Nat} {x : Nat} (h : Found n t left found) (ht : IsTable n t) (h0 : topOf t left = x :: xs) : x ∈ left ∧ Found n t (left.erase x) (found ++ [x]) := by
  have hm : x ∈ topOf t left := by rw [h0]; simp
  obtain ⟨hx, hb⟩ := List.mem_filter.mp hm
  rw [Bool.not_eq_true', List.any_eq_false] at hb
  have hnl : left.Nodup := (List.nodup_append.mp h.nd).2.1
  refine ⟨hx, ⟨?_, ?_, ?_⟩⟩
  · rw [List.append_assoc]
    exact ((List.Perm.append_left found (List.perm_cons_erase hx)).symm).trans h.perm
  · rw [List.pairwise_append]
    exact ⟨h.pw, List.pairwise_singleton _ _, fun a ha b hb => by
      rw [List.mem_singleton.mp hb]
      exact h.over a ha x hx⟩
  · intro a ha b hb2
    have hbl := List.mem_of_mem_erase hb2
    rcases List.mem_append.mp ha with ha | ha
    · exact h.over a ha b hbl
    · rw [List.mem_singleton.mp ha]
      rw [ht.tour x b (h.lt.1 x hx) (h.lt.1 b hbl)]
      refine ⟨fun e => ?_, fun z => ?_⟩
      · subst e
        exact hnl.not_mem_erase hb2
      · have := hb b hbl
        rw [decide_eq_true_eq] at this
        exact this z
theorem Found.done {n : Nat} {t : List (List Nat)} {found : List Nat} (h : Found n t [] found) (ht : IsTable n t) : ordD t = dT found := by
  have hp : found.Perm (List.range n) := by simpa using h.perm
  have hfl : found.length = n := by rw [hp.length_eq, List.length_range]
  have ho : Ord found := by unfold Ord; rw [hfl]; exact hp
  have hn := ht.len
  have key : ∀ a b, a < n → b < n → found.idxOf a < found.idxOf b → b ∈ t[a]! := fun a b ha hb hlt => by
    have e1 := ho.at_idx (x := a) (by omega)
    have e2 := ho.at_idx (x := b) (by omega)
    have := List.pairwise_iff_getElem.mp h.pw _ _ (ho.idx_lt (by omega)) (ho.idx_lt (by omega)) hlt
    rw [e1, e2] at this
    exact this
  have e : tab found = t := by
    apply List.ext_getElem
    · rw [tab_len]; omega
    · intro a h1 h2
      have han : a < n := by omega
      have e1 : (tab found)[a] = beats found a := by
        have := tab_bang (o := found) (a := a) (by omega)
        rwa [getElem!_pos _ a h1] at this
      have e2 : t[a] = t[a]! := by rw [getElem!_pos t a h2]
      rw [e1, e2]
      refine asc_eq (beats_pair ho a) (ht.asc a han) fun b => ?_
      rw [ho.mem_beats (by omega), hfl]
      constructor
      · rintro ⟨hb, hlt⟩
        exact key a b han hb hlt
      · intro hb
        have hbn := ht.lt a han b hb
        refine ⟨hbn, ?_⟩
        have hab := (ht.tour a b han hbn).mp hb
        have h3 : ¬ found.idxOf b < found.idxOf a := fun z => hab.2 (key b a hbn han z)
        have h4 : found.idxOf a ≠ found.idxOf b := fun z => hab.1 (by
          have e1 : found[found.idxOf a]? = some a := by rw [List.getElem?_eq_getElem (ho.idx_lt (by omega)), List.getElem_idxOf]
          have e2 : found[found.idxOf b]? = some b := by rw [List.getElem?_eq_getElem (ho.idx_lt (by omega)), List.getElem_idxOf]
          rw [z, e2] at e1
          cases e1
          rfl)
        omega
  have hnr : ¬ HasRing t := by rw [← e]; exact tab_noring ho
  have e2 := noring_tab ht hnr
  have e3 : ordOf t = found := tab_inj (ordOf_ord t) ho (e2.trans e.symm)
  unfold ordD
  rw [if_pos e2, e3]
end Mi
end
section
namespace Mi
open PySem Mi Mi.L 
local macro_rules | `(tactic| wp_walk using $[$ts:term],*) => `(tactic| simp (disch := first | with_reducible assumption | omega | (simp only [List.length_set, List.length_append, List.length_cons, List.length_nil, List.length_map, List.length_range, List.length_replicate, Line]; omega) | (simp only [List.length_set, List.length_append, List.length_cons, List.length_nil, List.length_map, List.length_range, List.length_replicate]; done) | fail) only [au0, au1, au2, au3, au4, au5, au6, List.getElem?_map, dI, dT, List.getElem?_cons_zero, List.getElem?_cons_succ, List.set_cons_zero, List.set_cons_succ, List.map_cons, List.map_nil, List.length_cons, List.length_nil, List.cons_append, List.nil_append, List.append_nil, List.append_assoc, List.reduceReplicate, List.length_set, List.set_set, List.length_append, List.length_map, List.length_range, List.length_replicate, decide_true, decide_false, decide_eq_true_eq, Bool.not_eq_true', decide_eq_false_iff_not, Bool.true_and, Bool.false_and, Bool.not_true, Bool.not_false, Bool.false_eq_true, if_true, if_false, Int.toNat_natCast, Int.reduceToNat, Int.reducePow, Int.reduceMul, Int.reduceAdd, Int.reduceSub, Int.reduceNeg, Int.reduceLT, Int.reduceLE, Nat.sub_self, Nat.add_sub_cancel_left, Nat.reduceAdd, Nat.reduceSub, Nat.reduceLT, Nat.reduceLeDiff, Int.cast_ofNat_Int, true_or, or_true, true_and, and_true, $[$ts:term],*])
theorem insF_mono {P : List (List Nat)} {T : List (List (List Nat))} : ∀ (f a i : Nat) (row : Row) (path : List (Nat × Nat)) {R : Row × List (Nat × Nat)}, insF P T f a i row path = some R → insF P T (f + 1) a i row path = some R
  | 0, a, i, row, path, R, h => by cases h
  | f + 1, a, i, row, path, R, h => by
    rw [insF] at h ⊢
    split at h
    · rename_i hc
      rw [if_pos hc]
      split at h
      · rename_i he
        exact h
      · rename_i b he
        split at h
        · rename_i hb
          rw [if_pos hb]
          split at h
          · rename_i hb2
            rw [if_pos hb2]
            exact insF_mono f _ _ _ _ h
          · cases h
        · rename_i hb
          rw [if_neg hb]
          exact insF_mono f _ _ _ _ h
    · cases h
theorem insF_le {P : List (List Nat)} {T : List (List (List Nat))} {f a i : Nat} {row : Row} {path : List (Nat × Nat)} {R : Row × List (Nat × Nat)} (h : insF P T f a i row path = some R) : ∀ k, insF P T (f + k) a i row path = some R
  | 0 => h
  | k + 1 => insF_mono _ _ _ _ _ (insF_le h k)
theorem phi_free {n : Nat} {P : List (List Nat)} {row : Row} {i : Nat} (hn : row.length = n) (hf : ∃ t, t < row.length ∧ row[t]! = none) : phi P row i ≤ n * n := by
  obtain ⟨t, ht, h0⟩ := hf
  have e := sum_upd (f := wgt P row) (f' := fun s => if s = t then n else wgt P row s) (s0 := t) (fun s hs => by rw [if_neg hs]) row.length
  rw [if_pos ht, if_pos ht] at e
  have h1 : wgt P row t = 0 := by unfold wgt; rw [h0]
  have h2 : ∀ k, ((List.range k).map fun s => if s = t then n else wgt P row s).sum ≤ k * n := by
    intro k
    induction k with
    | zero => simp
    | succ k ih =>
      rw [List.range_succ, List.map_append, List.sum_append, Nat.succ_mul]
      have : (if k = t then n else wgt P row k) ≤ n := by
        split
        · omega
        · unfold wgt
          split <;> omega
      simp only [List.map_cons, List.map_nil, List.sum_cons, List.sum_nil]
      omega
  have h3 := h2 row.length
  unfold phi
  simp only [if_true] at e
  rw [hn] at e h3 ht ⊢
  omega
theorem Rw.fuel {n m : Nat} {P : List (List Nat)} {T : List (List (List Nat))} {row : Row} {done : List Nat} {a : Nat} (hP : Probes n P) (hm : P.length = m) (hT : Tabs n m T) (h : Rw n P row done) (hd : done.length < n) (hn : n ≤ 90) (ha : a < m) (hna : a ∉ done) :
    ∃ R, insF P T (n * n + 1) a 0 row [] = some R ∧ lay1 P T row a = R.1 := by
  have hfree := h.free hd
  have hnew : some a ∉ row := fun z => hna ((h.keys a).mp z)
  have hA : Ask P row a 0 := ⟨h.lay, fun s hs e => hnew (mem_row.mpr ⟨s, hs, e⟩), by omega, fun t ht => by simp at ht, hfree⟩
  have hphi := phi_free (P := P) (i := 0) h.len hfree
  obtain ⟨R, g1, _⟩ := insF_ex hP hm hT (n * n + 1) a 0 row [] h.len hA (by omega)
  have hnn : n * n ≤ 90 * 90 := Nat.mul_le_mul hn hn
  have g2 := insF_le g1 (10000 - (n * n + 1))
  rw [show n * n + 1 + (10000 - (n * n + 1)) = 10000 by omega] at g2
  exact ⟨R, g1, by unfold lay1; rw [g2]; rfl⟩
theorem insF_stay {P : List (List Nat)} {T : List (List (List Nat))} {s0 : Nat} (h0 : ∀ k i, k < P.length → 0 < i → i < P[k]!.length → P[k]![i]! ≠ s0) : ∀ (f a i : Nat) (row : Row) (path : List (Nat × Nat)) {R : Row × List (Nat × Nat)}, 0 < i → insF P T f a i row path = some R → R.1[s0]! = row[s0]!
  | 0, a, i, row, path, R, _, h => by cases h
  | f + 1, a, i, row, path, R, hi, h => by
    rw [insF] at h
    split at h
    · rename_i hc
      have hne := h0 a i hc.1 hi hc.2.1
      have hset : (row.set P[a]![i]! (some a))[s0]! = row[s0]! := by
        by_cases hs : s0 < row.length
        · rw [row_set hs, if_neg hne]
        · rw [getElem!_neg row s0 hs, getElem!_neg _ s0 (by rw [List.length_set]; exact hs)]
      split at h
      · cases h
        exact hset
      · rename_i b he
        split at h
        · split at h
          · rw [insF_stay h0 f _ _ _ _ (Nat.succ_pos _) h]
            exact hset
          · cases h
        · exact insF_stay h0 f _ _ _ _ (Nat.succ_pos _) h
    · cases h
theorem insF_first {P : List (List Nat)} {T : List (List (List Nat))} {s0 a f : Nat} {row : Row} {R : Row × List (Nat × Nat)} (h0 : ∀ k i, k < P.length → 0 < i → i < P[k]!.length → P[k]![i]! ≠ s0) (h1 : P[a]![0]! = s0) (h : insF P T f a 0 row [] = some R) :
    R.1[s0]! = match row[s0]! with
      | none => some a
      | some b => if b ∈ T[s0]![a]! then some a else some b := by
  cases f with
  | zero => cases h
  | succ f =>
    rw [insF] at h
    split at h
    · rename_i hc
      rw [h1] at h hc
      split at h
      · rename_i he
        try rw [he]
        cases h
        rw [row_set hc.2.2.1, if_pos rfl]
      · rename_i b he
        try rw [he]
        try dsimp only
        split at h
        · rename_i hb
          rw [if_pos hb]
          split at h
          · rw [insF_stay h0 f _ _ _ _ (Nat.succ_pos _) h, row_set hc.2.2.1, if_pos rfl]
          · cases h
        · rename_i hb
          rw [if_neg hb, insF_stay h0 f _ _ _ _ (Nat.succ_pos _) h, he]
    · cases h
theorem Rw.first {n m : Nat} {P : List (List Nat)} {T : List (List (List Nat))} {row : Row} {done : List Nat} {a s0 : Nat} (hP : Probes n P) (hm : P.length = m) (hT : Tabs n m T) (h : Rw n P row done) (hd : done.length < n) (hn : n ≤ 90) (ha : a < m) (hna : a ∉ done)
    (h0 : ∀ k i, k < P.length → 0 < i → i < P[k]!.length → P[k]![i]! ≠ s0) (h1 : P[a]![0]! = s0) : (lay1 P T row a)[s0]! = match row[s0]! with
      | none => some a
      | some b => if b ∈ T[s0]![a]! then some a else some b := by
  obtain ⟨R, g, e⟩ := h.fuel hP hm hT hd hn ha hna
  rw [e]
  exact insF_first h0 h1 g
end Mi
end
section
namespace Mi
open PySem Mi Mi.L 
local macro_rules | `(tactic| wp_walk using $[$ts:term],*) => `(tactic| simp (disch := first | with_reducible assumption | omega | (simp only [List.length_set, List.length_append, List.length_cons, List.length_nil, List.length_map, List.length_range, List.length_replicate, Line]; omega) | (simp only [List.length_set, List.length_append, List.length_cons, List.length_nil, List.length_map, List.length_range, List.length_replicate]; done) | fail) only [au0, au1, au2, au3, au4, au5, au6, List.getElem?_map, dI, dT, List.getElem?_cons_zero, List.getElem?_cons_succ, List.set_cons_zero, List.set_cons_succ, List.map_cons, List.map_nil, List.length_cons, List.length_nil, List.cons_append, List.nil_append, List.append_nil, List.append_assoc, List.reduceReplicate, List.length_set, List.set_set, List.length_append, List.length_map, List.length_range, List.length_replicate, decide_true, decide_false, decide_eq_true_eq, Bool.not_eq_true', decide_eq_false_iff_not, Bool.true_and, Bool.false_and, Bool.not_true, Bool.not_false, Bool.false_eq_true, if_true, if_false, Int.toNat_natCast, Int.reduceToNat, Int.reducePow, Int.reduceMul, Int.reduceAdd, Int.reduceSub, Int.reduceNeg, Int.reduceLT, Int.reduceLE, Nat.sub_self, Nat.add_sub_cancel_left, Nat.reduceAdd, Nat.reduceSub, Nat.reduceLT, Nat.reduceLeDiff, Int.cast_ofNat_Int, true_or, or_true, true_and, and_true, $[$ts:term],*])
theorem insF_inv {n m : Nat} {P : List (List Nat)} {T : List (List (List Nat))} (hP : Probes n P) (hm : P.length = m) (I : Nat → Nat → Row → Prop) (Z : Row → Prop)
    (h0 : ∀ a i row s, Ask P row a i → row.length = n → i < n → P[a]![i]! = s → s < n → I a i row → row[s]! = none → Z (row.set s (some a)))
    (h1 : ∀ a i row s b, Ask P row a i → row.length = n → i < n → P[a]![i]! = s → s < n → I a i row → row[s]! = some b → b ∈ T[s]![a]! → a ≠ b → b < m → I b (P[b]!.idxOf s + 1) (row.set s (some a)))
    (h2 : ∀ a i row s b, Ask P row a i → row.length = n → i < n → P[a]![i]! = s → s < n → I a i row → row[s]! = some b → b ∉ T[s]![a]! → a ≠ b → b < m → I a (i + 1) row) :
    ∀ (f a i : Nat) (row : Row) (path : List (Nat × Nat)) (R : Row × List (Nat × Nat)), row.length = n → Ask P row a i → I a i row → insF P T f a i row path = some R → Z R.1
  | 0, a, i, row, path, R, hn, h, hI, e => by cases e
  | f + 1, a, i, row, path, R, hn, h, hI, e => by
    have hi := h.lt hP hn
    rw [insF] at e
    split at e
    case isFalse => cases e
    rename_i hc
    have hs : P[a]![i]! < row.length := hc.2.2.1
    have hput := h.put hP hn hi
    have hpass : row[P[a]![i]!]! ≠ none → Ask P row a (i + 1) := fun h0 => ⟨h.lay, h.new, h.ak, fun t ht => by
      rcases take_succ_mem (by rw [hP.len h.ak]; exact hi) ht with ht | rfl
      · exact h.full t ht
      · exact h0, h.free⟩
    clear hc
    generalize hsd : P[a]![i]! = s at *
    have hL : (row.set s (some a)).length = row.length := List.length_set
    cases hr : row[s]! with
    | none =>
      rw [hr] at e
      cases e
      exact h0 a i row s h hn hi hsd (by omega) hI hr
    | some b =>
      rw [hr] at e
      dsimp only at e
      have hb := h.lay.kb s b hs hr
      have hsb : s ∈ P[b]! := hP.mem hb (by omega)
      have hab : a ≠ b := fun z => h.new s hs (by rw [z]; exact hr)
      split at e
      · rename_i hbt
        rw [if_pos ⟨hb, hsb⟩] at e
        have hib : P[b]!.idxOf s < n := by rw [← hP.len hb]; exact List.idxOf_lt_length_iff.mpr hsb
        have hA : Ask P (row.set s (some a)) b (P[b]!.idxOf s + 1) := by
          refine ⟨hput, fun t ht e => ?_, hb, fun t ht e => ?_, ?_⟩
          · rw [hL] at ht
            rw [row_set ht] at e
            split at e
            · cases e
              exact hab rfl
            · rename_i e0
              exact e0 (h.lay.inj s t b hs ht hr e)
          · rcases take_succ_mem (by rw [hP.len hb]; exact hib) ht with ht | rfl
            · have htl : t < row.length := by rw [hn]; exact hP.lt hb (List.mem_of_mem_take ht)
              rw [row_set htl] at e
              split at e
              · cases e
              · exact h.lay.full s b hs hr t ht e
            · have e1 : P[b]![P[b]!.idxOf s]! = s := by
                rw [getElem!_pos P[b]! _ (by rw [hP.len hb]; exact hib)]
                exact List.getElem_idxOf _
              rw [e1, row_set hs, if_pos rfl] at e
              cases e
          · obtain ⟨t, ht, e⟩ := h.free
            refine ⟨t, by rw [hL]; exact ht, ?_⟩
            rw [row_set ht, if_neg (by rintro rfl; rw [hr] at e; cases e)]
            exact e
        exact insF_inv hP hm I Z h0 h1 h2 f b _ _ _ R (by rw [hL]; exact hn) hA (h1 a i row s b h hn hi hsd (by omega) hI hr hbt hab (by omega)) e
      · rename_i hbt
        exact insF_inv hP hm I Z h0 h1 h2 f a (i + 1) row path R hn (hpass (by rw [hr]; simp)) (h2 a i row s b h hn hi hsd (by omega) hI hr hbt hab (by omega)) e
structure Even (n m : Nat) (T : List (List (List Nat))) : Prop extends Tabs n m T where
  tot : ∀ s a b, s < n → a < m → b < m → a ≠ b → (b ∈ T[s]![a]! ↔ a ∉ T[s]![b]!)
  tr : ∀ s a b c, s < n → a < m → b < m → c < m → b ∈ T[s]![a]! → c ∈ T[s]![b]! → c ∈ T[s]![a]!
def St (n : Nat) (P : List (List Nat)) (T : List (List (List Nat))) (row : Row) : Prop := ∀ s k, s < n → row[s]! = some k → ∀ t ∈ P[k]!.take (P[k]!.idxOf s), ∃ h, row[t]! = some h ∧ k ∈ T[t]![h]!
def AskS (P : List (List Nat)) (T : List (List (List Nat))) (row : Row) (a i : Nat) : Prop := ∀ t ∈ P[a]!.take i, ∃ h, row[t]! = some h ∧ a ∈ T[t]![h]!
theorem mem_takeI {xs : List Nat} {t i : Nat} (hn : xs.Nodup) (ht : t ∈ xs) : t ∈ xs.take i ↔ xs.idxOf t < i := by
  constructor
  · intro h
    obtain ⟨j, hj, e⟩ := List.mem_iff_getElem.mp h
    rw [List.length_take] at hj
    rw [List.getElem_take] at e
    have := hn.idxOf_getElem j (by omega)
    rw [e] at this
    omega
  · intro h
    have hl := List.idxOf_lt_length_iff.mpr ht
    exact List.mem_iff_getElem.mpr ⟨xs.idxOf t, by rw [List.length_take]; omega, by rw [List.getElem_take]; exact List.getElem_idxOf _⟩
section
variable {n m : Nat} {P : List (List Nat)} {T : List (List (List Nat))}
theorem Probes.nd (hP : Probes n P) {k : Nat} (hk : k < P.length) : P[k]!.Nodup := (hP.perm k hk).nodup_iff.mpr List.nodup_range
theorem Probes.inj (hP : Probes n P) {k s t : Nat} (hk : k < P.length) (hs : s < n) (h : P[k]!.idxOf s = P[k]!.idxOf t) : s = t := by
  have h1 := hP.mem hk hs
  have hl := List.idxOf_lt_length_iff.mpr h1
  have e1 : P[k]![P[k]!.idxOf s]! = s := by rw [getElem!_pos P[k]! _ hl]; exact List.getElem_idxOf _
  have e2 : P[k]![P[k]!.idxOf t]! = t := by rw [getElem!_pos P[k]! _ (by omega)]; exact List.getElem_idxOf _
  rw [← e1, h, e2]
theorem insF_st (hP : Probes n P) (hm : P.length = m) (hE : Even n m T) {f a i : Nat} {row : Row} {path : List (Nat × Nat)} {R : Row × List (Nat × Nat)} (hn : row.length = n) (hA : Ask P row a i) (hS : St n P T row) (hQ : AskS P T row a i)
    (h : insF P T f a i row path = some R) : St n P T R.1 := by
  refine insF_inv hP hm (fun a i row => St n P T row ∧ AskS P T row a i) (St n P T) ?_ ?_ ?_ f a i row path R hn hA ⟨hS, hQ⟩ h
  · rintro a i row s hA hn hi hs hsn ⟨hS, hQ⟩ hr u k hu e t ht
    have hidx := hP.idx hA.ak hi
    rw [row_set (by omega)] at e
    split at e
    · rename_i e0
      cases e
      subst e0
      rw [← hs, hidx] at ht
      have htn : t < n := hP.lt hA.ak (List.mem_of_mem_take ht)
      obtain ⟨b, h1, h2⟩ := hQ t ht
      refine ⟨b, ?_, h2⟩
      rw [row_set (by omega), if_neg (by rintro rfl; rw [hr] at h1; cases h1)]
      exact h1
    · obtain ⟨b, h1, h2⟩ := hS u k hu e t ht
      have htn : t < n := hP.lt (hA.lay.kb u k (by omega) e) (List.mem_of_mem_take ht)
      refine ⟨b, ?_, h2⟩
      rw [row_set (by omega), if_neg (by rintro rfl; rw [hr] at h1; cases h1)]
      exact h1
  · rintro a i row s b hA hn hi hs hsn ⟨hS, hQ⟩ hr hbt hab hbm
    have hidx := hP.idx hA.ak hi
    have up : ∀ t k, t < n → k < m → (∃ h, row[t]! = some h ∧ k ∈ T[t]![h]!) → ∃ h, (row.set s (some a))[t]! = some h ∧ k ∈ T[t]![h]! := fun t k ht hk ⟨h, h1, h2⟩ => by
      rw [row_set (by omega)]
      split
      · rename_i e0
        subst e0
        rw [hr] at h1
        cases h1
        exact ⟨a, rfl, hE.tr s a b k hsn (by rw [← hm]; exact hA.ak) hbm hk hbt h2⟩
      · exact ⟨h, h1, h2⟩
    refine ⟨fun u k hu e t ht => ?_, fun t ht => ?_⟩
    · rw [row_set (by omega)] at e
      split at e
      · rename_i e0
        cases e
        subst e0
        rw [← hs, hidx] at ht
        exact up t a (hP.lt hA.ak (List.mem_of_mem_take ht)) (by rw [← hm]; exact hA.ak) (hQ t ht)
      · have hk := hA.lay.kb u k (by omega) e
        exact up t k (hP.lt hk (List.mem_of_mem_take ht)) (by omega) (hS u k hu e t ht)
    · have hb : b < P.length := by omega
      have hsb := hP.mem hb hsn
      rcases take_succ_mem (List.idxOf_lt_length_iff.mpr hsb) ht with ht | e
      · exact up t b (hP.lt hb (List.mem_of_mem_take ht)) hbm (hS s b hsn hr t ht)
      · rw [getElem!_pos P[b]! _ (List.idxOf_lt_length_iff.mpr hsb), List.getElem_idxOf] at e
        subst e
        exact ⟨a, by rw [row_set (by omega), if_pos rfl], hbt⟩
  · rintro a i row s b hA hn hi hs hsn ⟨hS, hQ⟩ hr hbt hab hbm
    refine ⟨hS, fun t ht => ?_⟩
    rcases take_succ_mem (by rw [hP.len hA.ak]; exact hi) ht with ht | e
    · exact hQ t ht
    · rw [hs] at e
      subst e
      exact ⟨b, hr, (hE.tot _ b a hsn hbm (by rw [← hm]; exact hA.ak) (Ne.symm hab)).mpr hbt⟩
structure Op (n : Nat) (P : List (List Nat)) (M : Row) (a i : Nat) (row : Row) : Prop where
  keys : ∀ s k, s < n → row[s]! = some k → ∃ u, u < n ∧ M[u]! = some k ∧ P[k]!.idxOf s ≤ P[k]!.idxOf u
  ask : ∃ u, u < n ∧ M[u]! = some a ∧ i ≤ P[a]!.idxOf u
def Ahead (n : Nat) (P : List (List Nat)) (M row : Row) : Prop := ∀ s k, s < n → row[s]! = some k → ∃ u, u < n ∧ M[u]! = some k ∧ P[k]!.idxOf s ≤ P[k]!.idxOf u
theorem insF_op (hP : Probes n P) (hm : P.length = m) (hE : Even n m T) {M : Row} (hM : Lay P M) (hMn : M.length = n) (hMs : St n P T M) {f a i : Nat} {row : Row} {path : List (Nat × Nat)} {R : Row × List (Nat × Nat)} (hn : row.length = n) (hA : Ask P row a i) (hO : Op n P M a i row)
    (h : insF P T f a i row path = some R) : Ahead n P M R.1 := by
  refine insF_inv hP hm (fun a i row => Op n P M a i row) (Ahead n P M) ?_ ?_ ?_ f a i row path R hn hA hO h
  · rintro a i row s hA hn hi hs hsn hO hr u k hu e
    rw [row_set (by omega)] at e
    split at e
    · rename_i e0
      cases e
      subst e0
      have hidx := hP.idx hA.ak hi
      rw [hs] at hidx
      rw [hidx]
      exact hO.ask
    · exact hO.keys u k hu e
  · rintro a i row s b hA hn hi hs hsn hO hr hbt hab hbm
    have hidx := hP.idx hA.ak hi
    rw [hs] at hidx
    have ham : a < m := by rw [← hm]; exact hA.ak
    refine ⟨fun u k hu e => ?_, ?_⟩
    · rw [row_set (by omega)] at e
      split at e
      · rename_i e0
        cases e
        subst e0
        rw [hidx]
        exact hO.ask
      · exact hO.keys u k hu e
    · obtain ⟨u, hu, h1, h2⟩ := hO.keys s b hsn hr
      refine ⟨u, hu, h1, ?_⟩
      have hb : b < P.length := by omega
      by_cases e : P[b]!.idxOf s = P[b]!.idxOf u
      · have e := hP.inj hb hsn e
        subst e
        obtain ⟨v, hv, g1, g2⟩ := hO.ask
        have hvs : s ≠ v := by rintro rfl; rw [h1] at g1; cases g1; exact hab rfl
        have hlt : P[a]!.idxOf s < P[a]!.idxOf v := by
          rw [hidx]
          rcases Nat.lt_or_eq_of_le g2 with g | g
          · exact g
          · exact absurd (hP.inj hA.ak hsn (by rw [hidx, g])) hvs
        obtain ⟨c, q1, q2⟩ := hMs v a hv g1 s ((mem_takeI (hP.nd hA.ak) (hP.mem hA.ak hsn)).mpr hlt)
        rw [h1] at q1
        cases q1
        exact absurd q2 ((hE.tot s a b hsn ham hbm hab).mp hbt)
      · omega
  · rintro a i row s b hA hn hi hs hsn hO hr hbt hab hbm
    have hidx := hP.idx hA.ak hi
    rw [hs] at hidx
    have ham : a < m := by rw [← hm]; exact hA.ak
    refine ⟨hO.keys, ?_⟩
    obtain ⟨v, hv, g1, g2⟩ := hO.ask
    refine ⟨v, hv, g1, ?_⟩
    rcases Nat.lt_or_eq_of_le g2 with g | g
    · omega
    · exfalso
      have e := hP.inj hA.ak hsn (hidx.trans g)
      rw [← e] at g1
      clear g g2 hv e v
      obtain ⟨u, hu, h1, h2⟩ := hO.keys s b hsn hr
      have hb : b < P.length := by omega
      have hus : s ≠ u := by rintro rfl; rw [g1] at h1; cases h1; exact hab rfl
      have hlt : P[b]!.idxOf s < P[b]!.idxOf u := by
        rcases Nat.lt_or_eq_of_le h2 with g | g
        · exact g
        · exact absurd (hP.inj hb hsn g) hus
      obtain ⟨c, q1, q2⟩ := hMs u b hu h1 s ((mem_takeI (hP.nd hb) (hP.mem hb hsn)).mpr hlt)
      rw [g1] at q1
      cases q1
      exact hbt q2
structure Best (n m : Nat) (P : List (List Nat)) (T : List (List (List Nat))) (ks : List Nat) (row : Row) : Prop where
  lay : Lay P row
  len : row.length = n
  keys : ∀ k, some k ∈ row ↔ k ∈ ks
  st : St n P T row
  op : ∀ M : Row, Lay P M → M.length = n → St n P T M → (∀ k ∈ ks, some k ∈ M) → Ahead n P M row
theorem Best.step (hP : Probes n P) (hm : P.length = m) (hE : Even n m T) {ks : List Nat} {row : Row} {a f : Nat} {R : Row × List (Nat × Nat)} (h : Best n m P T ks row) (ha : a < m) (hna : a ∉ ks) (hfree : ∃ t, t < row.length ∧ row[t]! = none) (hf : phi P row 0 ≤ f) (hR : insF P T f a 0 row [] = some R) : Best n m P T (ks ++ [a]) R.1 := by
  have hnew : some a ∉ row := fun z => hna ((h.keys a).mp z)
  have hA : Ask P row a 0 := ⟨h.lay, fun s hs e => hnew (mem_row.mpr ⟨s, hs, e⟩), by omega, fun t ht => by simp at ht, hfree⟩
  obtain ⟨R', g1, g2, g3, g4, g5⟩ := insF_ex hP hm hE.toTabs f a 0 row [] h.len hA hf
  rw [hR] at g1
  cases g1
  refine ⟨g2, g3, fun k => ?_, insF_st hP hm hE h.len hA h.st (fun t ht => by simp at ht) hR, fun M h1 h2 h3 h4 => ?_⟩
  · rw [g4, h.keys, List.mem_append, List.mem_singleton]
    exact or_comm
  · refine insF_op hP hm hE h1 h2 h3 h.len hA ⟨h.op M h1 h2 h3 fun k hk => h4 k (List.mem_append_left _ hk), ?_⟩ hR
    obtain ⟨u, hu, e⟩ := mem_row.mp (h4 a (by simp))
    exact ⟨u, by omega, e, Nat.zero_le _⟩
theorem Best.nil (n : Nat) : Best n m P T [] (List.replicate n none) := by
  have h0 : ∀ s, s < n → (List.replicate n (none : Option Nat))[s]! = none := fun s hs => by rw [getElem!_pos _ s (by simpa using hs)]; simp
  refine ⟨⟨fun s t k hs ht e1 => ?_, fun s k hs e => ?_, fun s k hs e => ?_⟩, by simp, fun k => by simp, fun s k hs e => ?_, fun M _ _ _ _ s k hs e => ?_⟩
  · rw [h0 s (by simpa using hs)] at e1; cases e1
  · rw [h0 s (by simpa using hs)] at e; cases e
  · rw [h0 s (by simpa using hs)] at e; cases e
  · rw [h0 s hs] at e; cases e
  · rw [h0 s hs] at e; cases e
end
end Mi
end
section
namespace Mi
open PySem Mi Mi.L 
local macro_rules | `(tactic| wp_walk using $[$ts:term],*) => `(tactic| simp (disch := first | with_reducible assumption | omega | (simp only [List.length_set, List.length_append, List.length_cons, List.length_nil, List.length_map, List.length_range, List.length_replicate, Line]; omega) | (simp only [List.length_set, List.length_append, List.length_cons, List.length_nil, List.length_map, List.length_range, List.length_replicate]; done) | fail) only [au0, au1, au2, au3, au4, au5, au6, List.getElem?_map, dI, dT, List.getElem?_cons_zero, List.getElem?_cons_succ, List.set_cons_zero, List.set_cons_succ, List.map_cons, List.map_nil, List.length_cons, List.length_nil, List.cons_append, List.nil_append, List.append_nil, List.append_assoc, List.reduceReplicate, List.length_set, List.set_set, List.length_append, List.length_map, List.length_range, List.length_replicate, decide_true, decide_false, decide_eq_true_eq, Bool.not_eq_true', decide_eq_false_iff_not, Bool.true_and, Bool.false_and, Bool.not_true, Bool.not_false, Bool.false_eq_true, if_true, if_false, Int.toNat_natCast, Int.reduceToNat, Int.reducePow, Int.reduceMul, Int.reduceAdd, Int.reduceSub, Int.reduceNeg, Int.reduceLT, Int.reduceLE, Nat.sub_self, Nat.add_sub_cancel_left, Nat.reduceAdd, Nat.reduceSub, Nat.reduceLT, Nat.reduceLeDiff, Int.cast_ofNat_Int, true_or, or_true, true_and, and_true, $[$ts:term],*])
def lkN : List (Nat × Nat) → Nat → Option Nat
  | [], _ => none
  | p :: r, s => if p.1 = s then some p.2 else lkN r s
theorem lkN_cons (p : Nat × Nat) (r : List (Nat × Nat)) (s : Nat) : lkN (p :: r) s = if p.1 = s then some p.2 else lkN r s := rfl
def putN (L : List (Nat × Nat)) (s k : Nat) : List (Nat × Nat) := if (lkN L s).isSome = true then L.map fun p => if p.1 = s then (p.1, k) else p else L ++ [(s, k)]
theorem lkN_map (L : List (Nat × Nat)) (s k t : Nat) : lkN (L.map fun p => if p.1 = s then (p.1, k) else p) t = (lkN L t).map fun x => if t = s then k else x := by
  induction L with
  | nil => rfl
  | cons p r ih =>
    rw [List.map_cons]
    by_cases h : p.1 = s
    · rw [if_pos h]
      rw [lkN_cons, lkN_cons]
      by_cases e : p.1 = t
      · rw [if_pos e, if_pos e]
        simp [← e, h]
      · rw [if_neg e, if_neg e]
        exact ih
    · rw [if_neg h]
      rw [lkN_cons, lkN_cons]
      by_cases e : p.1 = t
      · rw [if_pos e, if_pos e]
        have : ¬ t = s := fun z => h (e.trans z)
        simp [this]
      · rw [if_neg e, if_neg e]
        exact ih
theorem lkN_app (L : List (Nat × Nat)) (s k t : Nat) : lkN (L ++ [(s, k)]) t = (lkN L t).or (if s = t then some k else none) := by
  induction L with
  | nil => rfl
  | cons p r ih =>
    rw [List.cons_append, lkN_cons, lkN_cons]
    by_cases e : p.1 = t
    · rw [if_pos e, if_pos e]
      rfl
    · rw [if_neg e, if_neg e]
      exact ih
theorem lkN_put (L : List (Nat × Nat)) (s k t : Nat) : lkN (putN L s k) t = if t = s then some k else lkN L t := by
  unfold putN
  by_cases h : (lkN L s).isSome = true
  · rw [if_pos h, lkN_map]
    by_cases e : t = s
    · subst e
      rw [if_pos rfl]
      obtain ⟨x, hx⟩ := Option.isSome_iff_exists.mp h
      rw [hx]
      simp
    · rw [if_neg e]
      simp [e]
  · rw [if_neg h, lkN_app]
    have h0 : lkN L s = none := by simpa using h
    by_cases e : t = s
    · subst e
      rw [if_pos rfl, h0]
      simp
    · rw [if_neg e, if_neg (Ne.symm e)]
      simp
theorem mem_keysN {L : List (Nat × Nat)} {s : Nat} : s ∈ L.map (·.1) ↔ (lkN L s).isSome = true := by
  induction L with
  | nil => simp [lkN]
  | cons p r ih =>
    rw [List.map_cons, List.mem_cons, ih]
    rw [lkN_cons]
    by_cases e : p.1 = s
    · simp [e]
    · rw [if_neg e]
      exact ⟨fun h => h.resolve_left (Ne.symm e), .inr⟩
theorem putN_nd {L : List (Nat × Nat)} (h : (L.map (·.1)).Nodup) (s k : Nat) : ((putN L s k).map (·.1)).Nodup := by
  unfold putN
  by_cases e : (lkN L s).isSome = true
  · rw [if_pos e, List.map_map]
    have : (L.map ((fun p : Nat × Nat => p.1) ∘ fun p => if p.1 = s then (p.1, k) else p)) = L.map (·.1) := List.map_congr_left fun p _ => by
      show (if p.1 = s then (p.1, k) else p).1 = p.1
      split <;> rfl
    rw [this]
    exact h
  · rw [if_neg e, List.map_append, List.nodup_append]
    refine ⟨h, by simp, fun a ha b hb => ?_⟩
    have hb : b = s := by simpa using hb
    subst hb
    rintro rfl
    exact e (mem_keysN.mp ha)
theorem lkN_mem {L : List (Nat × Nat)} (h : (L.map (·.1)).Nodup) {p : Nat × Nat} (hp : p ∈ L) : lkN L p.1 = some p.2 := by
  induction L with
  | nil => cases hp
  | cons q r ih =>
    rw [List.map_cons, List.nodup_cons] at h
    rw [lkN_cons]
    rcases List.mem_cons.mp hp with rfl | hp
    · rw [if_pos rfl]
    · rw [if_neg, ih h.2 hp]
      intro e
      exact h.1 (e ▸ List.mem_map_of_mem hp)
theorem lkN_in {L : List (Nat × Nat)} {s k : Nat} (h : lkN L s = some k) : (s, k) ∈ L := by
  induction L with
  | nil => cases h
  | cons q r ih =>
    rw [lkN_cons] at h
    split at h
    · rename_i e
      cases h
      subst e
      exact List.mem_cons_self
    · exact List.mem_cons_of_mem _ (ih h)
theorem keys_le {L : List (Nat × Nat)} {n : Nat} (h : (L.map (·.1)).Nodup) (hb : ∀ s, (lkN L s).isSome = true → s < n) : L.length ≤ n := by
  have : (L.map (·.1)).length ≤ (List.range n).length := List.Nodup.length_le_of_subset h fun x hx => List.mem_range.mpr (hb x (mem_keysN.mp hx))
  simpa using this
structure DRep (L : List (Nat × Nat)) (row : Row) : Prop where
  nd : (L.map (·.1)).Nodup
  at_ : ∀ s, lkN L s = row[s]!
theorem row_out {row : Row} {s : Nat} (h : row.length ≤ s) : row[s]! = none := by rw [getElem!_neg row s (by omega)]; rfl
theorem DRep.nil (n : Nat) : DRep [] (List.replicate n none) := ⟨List.nodup_nil, fun s => by
  by_cases h : s < n
  · rw [getElem!_pos _ s (by simpa using h)]; simp [lkN]
  · rw [row_out (by simpa using h)]; rfl⟩
theorem DRep.put {L : List (Nat × Nat)} {row : Row} (h : DRep L row) {s : Nat} (hs : s < row.length) (k : Nat) : DRep (putN L s k) (row.set s (some k)) := ⟨putN_nd h.nd s k, fun t => by
  rw [lkN_put]
  by_cases ht : t < row.length
  · rw [row_set ht]
    by_cases e : t = s
    · rw [if_pos e, if_pos e.symm]
    · rw [if_neg e, if_neg (Ne.symm e)]
      exact h.at_ t
  · rw [if_neg (by omega), row_out (by rw [List.length_set]; omega), h.at_ t, row_out (by omega)]⟩
theorem DRep.le {L : List (Nat × Nat)} {row : Row} (h : DRep L row) : L.length ≤ row.length := keys_le h.nd fun s hs => by
  rw [h.at_ s] at hs
  by_cases e : s < row.length
  · exact e
  · rw [row_out (by omega)] at hs; cases hs
end Mi
end
section
namespace Mi.L
open PySem Mi
noncomputable section
end
end Mi.L
end
section
namespace Mi
open PySem Mi Mi.L 
local macro_rules | `(tactic| wp_walk using $[$ts:term],*) => `(tactic| simp (disch := first | with_reducible assumption | omega | (simp only [List.length_set, List.length_append, List.length_cons, List.length_nil, List.length_map, List.length_range, List.length_replicate, Line]; omega) | (simp only [List.length_set, List.length_append, List.length_cons, List.length_nil, List.length_map, List.length_range, List.length_replicate]; done) | fail) only [au0, au1, au2, au3, au4, au5, au6, List.getElem?_map, dI, dT, List.getElem?_cons_zero, List.getElem?_cons_succ, List.set_cons_zero, List.set_cons_succ, List.map_cons, List.map_nil, List.length_cons, List.length_nil, List.cons_append, List.nil_append, List.append_nil, List.append_assoc, List.reduceReplicate, List.length_set, List.set_set, List.length_append, List.length_map, List.length_range, List.length_replicate, decide_true, decide_false, decide_eq_true_eq, Bool.not_eq_true', decide_eq_false_iff_not, Bool.true_and, Bool.false_and, Bool.not_true, Bool.not_false, Bool.false_eq_true, if_true, if_false, Int.toNat_natCast, Int.reduceToNat, Int.reducePow, Int.reduceMul, Int.reduceAdd, Int.reduceSub, Int.reduceNeg, Int.reduceLT, Int.reduceLE, Nat.sub_self, Nat.add_sub_cancel_left, Nat.reduceAdd, Nat.reduceSub, Nat.reduceLT, Nat.reduceLeDiff, Int.cast_ofNat_Int, true_or, or_true, true_and, and_true, $[$ts:term],*])
theorem mem_beats {o : List Nat} (ho : Ord o) {a b : Nat} (hb : b < o.length) : b ∈ beats o a ↔ o.idxOf a < o.idxOf b := by
  have hn : o.Nodup := ho.nodup_iff.mpr List.nodup_range
  have hm : b ∈ o := ho.mem_iff.mpr (List.mem_range.mpr hb)
  have h1 : b ∈ beats o a ↔ b ∈ o.drop (o.idxOf a + 1) := by
    unfold beats
    exact (sortN_perm _).mem_iff
  rw [h1]
  have h2 := mem_takeI (i := o.idxOf a + 1) hn hm
  have h3 : b ∈ o.take (o.idxOf a + 1) ∨ b ∈ o.drop (o.idxOf a + 1) := by
    rw [← List.mem_append, List.take_append_drop]
    exact hm
  have h4 : ¬ (b ∈ o.take (o.idxOf a + 1) ∧ b ∈ o.drop (o.idxOf a + 1)) := fun ⟨x, y⟩ => by
    have hn2 := hn
    rw [← List.take_append_drop (o.idxOf a + 1) o, List.nodup_append] at hn2
    exact hn2.2.2 b x b y rfl
  constructor
  · intro h
    rcases Nat.lt_or_ge (o.idxOf a) (o.idxOf b) with g | g
    · exact g
    · exact absurd ⟨h2.mpr (by omega), h⟩ h4
  · intro h
    rcases h3 with g | g
    · have := h2.mp g
      omega
    · exact g
structure Ords (n m : Nat) (os : List (List Nat)) : Prop where
  len : os.length = n
  ord : ∀ o ∈ os, Ord o ∧ o.length = m
def tabs (os : List (List Nat)) : List (List (List Nat)) := os.map tab
section
variable {n m : Nat} {os : List (List Nat)}
theorem Ords.at (h : Ords n m os) {s : Nat} (hs : s < n) : Ord os[s]! ∧ os[s]!.length = m := by
  rw [getElem!_pos os s (by rw [h.len]; exact hs)]
  exact h.ord _ (List.getElem_mem _)
theorem tabs_at (h : Ords n m os) {s : Nat} (hs : s < n) : (tabs os)[s]! = tab os[s]! := by
  unfold tabs
  rw [getElem!_pos _ s (by rw [List.length_map, h.len]; exact hs), getElem!_pos os s (by rw [h.len]; exact hs), List.getElem_map]
theorem tabs_bang (h : Ords n m os) {s a : Nat} (hs : s < n) (ha : a < m) : (tabs os)[s]![a]! = beats os[s]! a := by
  rw [tabs_at h hs, tab_bang (by rw [(h.at hs).2]; exact ha)]
theorem idx_inj {o : List Nat} (ho : Ord o) {a b : Nat} (ha : a < o.length) (h : o.idxOf a = o.idxOf b) : a = b := by
  have hm : a ∈ o := ho.mem_iff.mpr (List.mem_range.mpr ha)
  have hl := List.idxOf_lt_length_iff.mpr hm
  have e1 : o[o.idxOf a]! = a := by rw [getElem!_pos o _ hl]; exact List.getElem_idxOf _
  have e2 : o[o.idxOf b]! = b := by rw [getElem!_pos o _ (by omega)]; exact List.getElem_idxOf _
  rw [← e1, h, e2]
theorem Ords.even (h : Ords n m os) : Even n m (tabs os) where
  len := by unfold tabs; rw [List.length_map, h.len]
  tl := fun s hs => by rw [tabs_at h hs, tab, List.length_map, List.length_range, (h.at hs).2]
  tot := fun s a b hs ha hb hab => by
    obtain ⟨h1, h2⟩ := h.at hs
    rw [tabs_bang h hs ha, tabs_bang h hs hb, mem_beats h1 (by omega), mem_beats h1 (by omega)]
    have : os[s]!.idxOf a ≠ os[s]!.idxOf b := fun e => hab (idx_inj h1 (by omega) e)
    omega
  tr := fun s a b c hs ha hb hc => by
    obtain ⟨h1, h2⟩ := h.at hs
    rw [tabs_bang h hs ha, tabs_bang h hs hb, mem_beats h1 (by omega), mem_beats h1 (by omega), mem_beats h1 (by omega)]
    omega
end
end Mi
end
section
namespace Mi
open PySem Mi Mi.L 
local macro_rules | `(tactic| wp_walk using $[$ts:term],*) => `(tactic| simp (disch := first | with_reducible assumption | omega | (simp only [List.length_set, List.length_append, List.length_cons, List.length_nil, List.length_map, List.length_range, List.length_replicate, Line]; omega) | (simp only [List.length_set, List.length_append, List.length_cons, List.length_nil, List.length_map, List.length_range, List.length_replicate]; done) | fail) only [au0, au1, au2, au3, au4, au5, au6, List.getElem?_map, dI, dT, List.getElem?_cons_zero, List.getElem?_cons_succ, List.set_cons_zero, List.set_cons_succ, List.map_cons, List.map_nil, List.length_cons, List.length_nil, List.cons_append, List.nil_append, List.append_nil, List.append_assoc, List.reduceReplicate, List.length_set, List.set_set, List.length_append, List.length_map, List.length_range, List.length_replicate, decide_true, decide_false, decide_eq_true_eq, Bool.not_eq_true', decide_eq_false_iff_not, Bool.true_and, Bool.false_and, Bool.not_true, Bool.not_false, Bool.false_eq_true, if_true, if_false, Int.toNat_natCast, Int.reduceToNat, Int.reducePow, Int.reduceMul, Int.reduceAdd, Int.reduceSub, Int.reduceNeg, Int.reduceLT, Int.reduceLE, Nat.sub_self, Nat.add_sub_cancel_left, Nat.reduceAdd, Nat.reduceSub, Nat.reduceLT, Nat.reduceLeDiff, Int.cast_ofNat_Int, true_or, or_true, true_and, and_true, $[$ts:term],*])
theorem pNotIn_nat (k : Nat) (xs : List Nat) : pNotIn (.int k) (.tuple (xs.map dI)) = .ok (.bool (!decide (k ∈ xs))) := by
  show when_ (flat? (dI k) && flat? (.tuple (xs.map dI))) _ = _
  rw [flat_int, flat_nats, inItems_nat]
  rfl
theorem Ask.swap {n : Nat} {P : List (List Nat)} {row : Row} {a i s b : Nat} (hP : Probes n P) (hn : row.length = n) (h : Ask P row a i) (hi : i < n) (hsd : P[a]![i]! = s) (hr : row[s]! = some b) : Ask P (row.set s (some a)) b (P[b]!.idxOf s + 1) ∧ a ≠ b ∧ b < P.length ∧ s ∈ P[b]! ∧ s < n := by
  have hs : P[a]![i]! < row.length := by
    rw [hn]
    refine hP.lt h.ak ?_
    rw [getElem!_pos P[a]! i (by rw [hP.len h.ak]; exact hi)]
    exact List.getElem_mem _
  have hput := h.put hP hn hi
  rw [hsd] at hs hput
  have hL : (row.set s (some a)).length = row.length := List.length_set
  have hb := h.lay.kb s b hs hr
  have hsb : s ∈ P[b]! := hP.mem hb (by omega)
  have hab : a ≠ b := fun z => h.new s hs (by rw [z]; exact hr)
  have hib : P[b]!.idxOf s < n := by rw [← hP.len hb]; exact List.idxOf_lt_length_iff.mpr hsb
  refine ⟨⟨hput, fun t ht e => ?_, hb, fun t ht e => ?_, ?_⟩, hab, hb, hsb, by omega⟩
  · rw [hL] at ht
    rw [row_set ht] at e
    split at e
    · cases e
      exact hab rfl
    · rename_i e0
      exact e0 (h.lay.inj s t b hs ht hr e)
  · rcases take_succ_mem (by rw [hP.len hb]; exact hib) ht with ht | rfl
    · have htl : t < row.length := by rw [hn]; exact hP.lt hb (List.mem_of_mem_take ht)
      rw [row_set htl] at e
      split at e
      · cases e
      · exact h.lay.full s b hs hr t ht e
    · have e1 : P[b]![P[b]!.idxOf s]! = s := by
        rw [getElem!_pos P[b]! _ (by rw [hP.len hb]; exact hib)]
        exact List.getElem_idxOf _
      rw [e1, row_set hs, if_pos rfl] at e
      cases e
  · obtain ⟨t, ht, e⟩ := h.free
    refine ⟨t, by rw [hL]; exact ht, ?_⟩
    rw [row_set ht, if_neg (by rintro rfl; rw [hr] at e; cases e)]
    exact e
theorem Ask.slot {n : Nat} {P : List (List Nat)} {row : Row} {a i : Nat} (hP : Probes n P) (h : Ask P row a i) (hi : i < n) : P[a]![i]! < n := by
  refine hP.lt h.ak ?_
  rw [getElem!_pos P[a]! i (by rw [hP.len h.ak]; exact hi)]
  exact List.getElem_mem _
section
variable {n m : Nat} {P : List (List Nat)} {T : List (List (List Nat))} (hP : Probes n P) (hm : P.length = m) (hE : Even n m T) {S : Store}
include hP hm hE
end
end Mi
end
section
namespace Mi
open PySem Mi Mi.L 
local macro_rules | `(tactic| wp_walk using $[$ts:term],*) => `(tactic| simp (disch := first | with_reducible assumption | omega | (simp only [List.length_set, List.length_append, List.length_cons, List.length_nil, List.length_map, List.length_range, List.length_replicate, Line]; omega) | (simp only [List.length_set, List.length_append, List.length_cons, List.length_nil, List.length_map, List.length_range, List.length_replicate]; done) | fail) only [au0, au1, au2, au3, au4, au5, au6, List.getElem?_map, dI, dT, List.getElem?_cons_zero, List.getElem?_cons_succ, List.set_cons_zero, List.set_cons_succ, List.map_cons, List.map_nil, List.length_cons, List.length_nil, List.cons_append, List.nil_append, List.append_nil, List.append_assoc, List.reduceReplicate, List.length_set, List.set_set, List.length_append, List.length_map, List.length_range, List.length_replicate, decide_true, decide_false, decide_eq_true_eq, Bool.not_eq_true', decide_eq_false_iff_not, Bool.true_and, Bool.false_and, Bool.not_true, Bool.not_false, Bool.false_eq_true, if_true, if_false, Int.toNat_natCast, Int.reduceToNat, Int.reducePow, Int.reduceMul, Int.reduceAdd, Int.reduceSub, Int.reduceNeg, Int.reduceLT, Int.reduceLE, Nat.sub_self, Nat.add_sub_cancel_left, Nat.reduceAdd, Nat.reduceSub, Nat.reduceLT, Nat.reduceLeDiff, Int.cast_ofNat_Int, true_or, or_true, true_and, and_true, $[$ts:term],*])
end Mi
end
section
namespace Mi
open PySem Mi Mi.L 
local macro_rules | `(tactic| wp_walk using $[$ts:term],*) => `(tactic| simp (disch := first | with_reducible assumption | omega | (simp only [List.length_set, List.length_append, List.length_cons, List.length_nil, List.length_map, List.length_range, List.length_replicate, Line]; omega) | (simp only [List.length_set, List.length_append, List.length_cons, List.length_nil, List.length_map, List.length_range, List.length_replicate]; done) | fail) only [au0, au1, au2, au3, au4, au5, au6, List.getElem?_map, dI, dT, List.getElem?_cons_zero, List.getElem?_cons_succ, List.set_cons_zero, List.set_cons_succ, List.map_cons, List.map_nil, List.length_cons, List.length_nil, List.cons_append, List.nil_append, List.append_nil, List.append_assoc, List.reduceReplicate, List.length_set, List.set_set, List.length_append, List.length_map, List.length_range, List.length_replicate, decide_true, decide_false, decide_eq_true_eq, Bool.not_eq_true', decide_eq_false_iff_not, Bool.true_and, Bool.false_and, Bool.not_true, Bool.not_false, Bool.false_eq_true, if_true, if_false, Int.toNat_natCast, Int.reduceToNat, Int.reducePow, Int.reduceMul, Int.reduceAdd, Int.reduceSub, Int.reduceNeg, Int.reduceLT, Int.reduceLE, Nat.sub_self, Nat.add_sub_cancel_left, Nat.reduceAdd, Nat.reduceSub, Nat.reduceLT, Nat.reduceLeDiff, Int.cast_ofNat_Int, true_or, or_true, true_and, and_true, $[$ts:term],*])
end Mi
end
section
namespace Mi
open PySem Mi Mi.L 
local macro_rules | `(tactic| wp_walk using $[$ts:term],*) => `(tactic| simp (disch := first | with_reducible assumption | omega | (simp only [List.length_set, List.length_append, List.length_cons, List.length_nil, List.length_map, List.length_range, List.length_replicate, Line]; omega) | (simp only [List.length_set, List.length_append, List.length_cons, List.length_nil, List.length_map, List.length_range, List.length_replicate]; done) | fail) only [au0, au1, au2, au3, au4, au5, au6, List.getElem?_map, dI, dT, List.getElem?_cons_zero, List.getElem?_cons_succ, List.set_cons_zero, List.set_cons_succ, List.map_cons, List.map_nil, List.length_cons, List.length_nil, List.cons_append, List.nil_append, List.append_nil, List.append_assoc, List.reduceReplicate, List.length_set, List.set_set, List.length_append, List.length_map, List.length_range, List.length_replicate, decide_true, decide_false, decide_eq_true_eq, Bool.not_eq_true', decide_eq_false_iff_not, Bool.true_and, Bool.false_and, Bool.not_true, Bool.not_false, Bool.false_eq_true, if_true, if_false, Int.toNat_natCast, Int.reduceToNat, Int.reducePow, Int.reduceMul, Int.reduceAdd, Int.reduceSub, Int.reduceNeg, Int.reduceLT, Int.reduceLE, Nat.sub_self, Nat.add_sub_cancel_left, Nat.reduceAdd, Nat.reduceSub, Nat.reduceLT, Nat.reduceLeDiff, Int.cast_ofNat_Int, true_or, or_true, true_and, and_true, $[$ts:term],*])
end Mi
end
section
namespace Mi.L
open PySem Mi
noncomputable section
end
end Mi.L
end
section
namespace Mi
open PySem Mi Mi.L 
local macro_rules | `(tactic| wp_walk using $[$ts:term],*) => `(tactic| simp (disch := first | with_reducible assumption | omega | (simp only [List.length_set, List.length_append, List.length_cons, List.length_nil, List.length_map, List.length_range, List.length_replicate, Line]; omega) | (simp only [List.length_set, List.length_append, List.length_cons, List.length_nil, List.length_map, List.length_range, List.length_replicate]; done) | fail) only [au0, au1, au2, au3, au4, au5, au6, List.getElem?_map, dI, dT, List.getElem?_cons_zero, List.getElem?_cons_succ, List.set_cons_zero, List.set_cons_succ, List.map_cons, List.map_nil, List.length_cons, List.length_nil, List.cons_append, List.nil_append, List.append_nil, List.append_assoc, List.reduceReplicate, List.length_set, List.set_set, List.length_append, List.length_map, List.length_range, List.length_replicate, decide_true, decide_false, decide_eq_true_eq, Bool.not_eq_true', decide_eq_false_iff_not, Bool.true_and, Bool.false_and, Bool.not_true, Bool.not_false, Bool.false_eq_true, if_true, if_false, Int.toNat_natCast, Int.reduceToNat, Int.reducePow, Int.reduceMul, Int.reduceAdd, Int.reduceSub, Int.reduceNeg, Int.reduceLT, Int.reduceLE, Nat.sub_self, Nat.add_sub_cancel_left, Nat.reduceAdd, Nat.reduceSub, Nat.reduceLT, Nat.reduceLeDiff, Int.cast_ofNat_Int, true_or, or_true, true_and, and_true, $[$ts:term],*])
section
variable {own : List Nat} {tg : Tg} {cond : Bx} {kx vx : Ex} {g : List (Nat × Cell)} {σ : Env}
end
structure KRep (L : List (Nat × Nat)) (row : Row) : Prop where
  nd : (L.map (·.1)).Nodup
  at_ : ∀ k s, lkN L k = some s ↔ s < row.length ∧ row[s]! = some k
end Mi
end
section
namespace Mi
open PySem Mi Mi.L 
local macro_rules | `(tactic| wp_walk using $[$ts:term],*) => `(tactic| simp (disch := first | with_reducible assumption | omega | (simp only [List.length_set, List.length_append, List.length_cons, List.length_nil, List.length_map, List.length_range, List.length_replicate, Line]; omega) | (simp only [List.length_set, List.length_append, List.length_cons, List.length_nil, List.length_map, List.length_range, List.length_replicate]; done) | fail) only [au0, au1, au2, au3, au4, au5, au6, List.getElem?_map, dI, dT, List.getElem?_cons_zero, List.getElem?_cons_succ, List.set_cons_zero, List.set_cons_succ, List.map_cons, List.map_nil, List.length_cons, List.length_nil, List.cons_append, List.nil_append, List.append_nil, List.append_assoc, List.reduceReplicate, List.length_set, List.set_set, List.length_append, List.length_map, List.length_range, List.length_replicate, decide_true, decide_false, decide_eq_true_eq, Bool.not_eq_true', decide_eq_false_iff_not, Bool.true_and, Bool.false_and, Bool.not_true, Bool.not_false, Bool.false_eq_true, if_true, if_false, Int.toNat_natCast, Int.reduceToNat, Int.reducePow, Int.reduceMul, Int.reduceAdd, Int.reduceSub, Int.reduceNeg, Int.reduceLT, Int.reduceLE, Nat.sub_self, Nat.add_sub_cancel_left, Nat.reduceAdd, Nat.reduceSub, Nat.reduceLT, Nat.reduceLeDiff, Int.cast_ofNat_Int, true_or, or_true, true_and, and_true, $[$ts:term],*])
section
variable {n m : Nat} {P : List (List Nat)} {T : List (List (List Nat))}
end
section
variable {n m h : Nat} {P : List (List Nat)} {T : List (List (List Nat))}
end
end Mi
end
section
namespace Mi.L
open PySem Mi
noncomputable section
end
end Mi.L
end
section
namespace Mi.L
open PySem Mi
noncomputable section
end
end Mi.L
end
section
namespace Mi
open PySem Mi Mi.L 
local macro_rules | `(tactic| wp_walk using $[$ts:term],*) => `(tactic| simp (disch := first | with_reducible assumption | omega | (simp only [List.length_set, List.length_append, List.length_cons, List.length_nil, List.length_map, List.length_range, List.length_replicate, Line]; omega) | (simp only [List.length_set, List.length_append, List.length_cons, List.length_nil, List.length_map, List.length_range, List.length_replicate]; done) | fail) only [au0, au1, au2, au3, au4, au5, au6, List.getElem?_map, dI, dT, List.getElem?_cons_zero, List.getElem?_cons_succ, List.set_cons_zero, List.set_cons_succ, List.map_cons, List.map_nil, List.length_cons, List.length_nil, List.cons_append, List.nil_append, List.append_nil, List.append_assoc, List.reduceReplicate, List.length_set, List.set_set, List.length_append, List.length_map, List.length_range, List.length_replicate, decide_true, decide_false, decide_eq_true_eq, Bool.not_eq_true', decide_eq_false_iff_not, Bool.true_and, Bool.false_and, Bool.not_true, Bool.not_false, Bool.false_eq_true, if_true, if_false, Int.toNat_natCast, Int.reduceToNat, Int.reducePow, Int.reduceMul, Int.reduceAdd, Int.reduceSub, Int.reduceNeg, Int.reduceLT, Int.reduceLE, Nat.sub_self, Nat.add_sub_cancel_left, Nat.reduceAdd, Nat.reduceSub, Nat.reduceLT, Nat.reduceLeDiff, Int.cast_ofNat_Int, true_or, or_true, true_and, and_true, $[$ts:term],*])
end Mi
end
section
namespace Mi
open PySem Mi Mi.L
local macro_rules | `(tactic| wp_walk using $[$ts:term],*) => `(tactic| simp (disch := first | with_reducible assumption | omega | (simp only [List.length_set, List.length_append, List.length_cons, List.length_nil, List.length_map, List.length_range, List.length_replicate, Line]; omega) | (simp only [List.length_set, List.length_append, List.length_cons, List.length_nil, List.length_map, List.length_range, List.length_replicate]; done) | fail) only [au0, au1, au2, au3, au4, au5, au6, List.getElem?_map, dI, dT, List.getElem?_cons_zero, List.getElem?_cons_succ, List.set_cons_zero, List.set_cons_succ, List.map_cons, List.map_nil, List.length_cons, List.length_nil, List.cons_append, List.nil_append, List.append_nil, List.append_assoc, List.reduceReplicate, List.length_set, List.set_set, List.length_append, List.length_map, List.length_range, List.length_replicate, decide_true, decide_false, decide_eq_true_eq, Bool.not_eq_true', decide_eq_false_iff_not, Bool.true_and, Bool.false_and, Bool.not_true, Bool.not_false, Bool.false_eq_true, if_true, if_false, Int.toNat_natCast, Int.reduceToNat, Int.reducePow, Int.reduceMul, Int.reduceAdd, Int.reduceSub, Int.reduceNeg, Int.reduceLT, Int.reduceLE, Nat.sub_self, Nat.add_sub_cancel_left, Nat.reduceAdd, Nat.reduceSub, Nat.reduceLT, Nat.reduceLeDiff, Int.cast_ofNat_Int, true_or, or_true, true_and, and_true, $[$ts:term],*])
end Mi
end
section
namespace Mi.L
open PySem Mi
noncomputable section
end
end Mi.L
end
section
namespace Mi
open PySem Mi Mi.L 
local macro_rules | `(tactic| wp_walk using $[$ts:term],*) => `(tactic| simp (disch := first | with_reducible assumption | omega | (simp only [List.length_set, List.length_append, List.length_cons, List.length_nil, List.length_map, List.length_range, List.length_replicate, Line]; omega) | (simp only [List.length_set, List.length_append, List.length_cons, List.length_nil, List.length_map, List.length_range, List.length_replicate]; done) | fail) only [au0, au1, au2, au3, au4, au5, au6, List.getElem?_map, dI, dT, List.getElem?_cons_zero, List.getElem?_cons_succ, List.set_cons_zero, List.set_cons_succ, List.map_cons, List.map_nil, List.length_cons, List.length_nil, List.cons_append, List.nil_append, List.append_nil, List.append_assoc, List.reduceReplicate, List.length_set, List.set_set, List.length_append, List.length_map, List.length_range, List.length_replicate, decide_true, decide_false, decide_eq_true_eq, Bool.not_eq_true', decide_eq_false_iff_not, Bool.true_and, Bool.false_and, Bool.not_true, Bool.not_false, Bool.false_eq_true, if_true, if_false, Int.toNat_natCast, Int.reduceToNat, Int.reducePow, Int.reduceMul, Int.reduceAdd, Int.reduceSub, Int.reduceNeg, Int.reduceLT, Int.reduceLE, Nat.sub_self, Nat.add_sub_cancel_left, Nat.reduceAdd, Nat.reduceSub, Nat.reduceLT, Nat.reduceLeDiff, Int.cast_ofNat_Int, true_or, or_true, true_and, and_true, $[$ts:term],*])
end Mi
end
section
namespace Mi
open PySem Mi Mi.L
local macro_rules | `(tactic| wp_walk using $[$ts:term],*) => `(tactic| simp (disch := first | with_reducible assumption | omega | (simp only [List.length_set, List.length_append, List.length_cons, List.length_nil, List.length_map, List.length_range, List.length_replicate, Line]; omega) | (simp only [List.length_set, List.length_append, List.length_cons, List.length_nil, List.length_map, List.length_range, List.length_replicate]; done) | fail) only [au0, au1, au2, au3, au4, au5, au6, List.getElem?_map, dI, dT, List.getElem?_cons_zero, List.getElem?_cons_succ, List.set_cons_zero, List.set_cons_succ, List.map_cons, List.map_nil, List.length_cons, List.length_nil, List.cons_append, List.nil_append, List.append_nil, List.append_assoc, List.reduceReplicate, List.length_set, List.set_set, List.length_append, List.length_map, List.length_range, List.length_replicate, decide_true, decide_false, decide_eq_true_eq, Bool.not_eq_true', decide_eq_false_iff_not, Bool.true_and, Bool.false_and, Bool.not_true, Bool.not_false, Bool.false_eq_true, if_true, if_false, Int.toNat_natCast, Int.reduceToNat, Int.reducePow, Int.reduceMul, Int.reduceAdd, Int.reduceSub, Int.reduceNeg, Int.reduceLT, Int.reduceLE, Nat.sub_self, Nat.add_sub_cancel_left, Nat.reduceAdd, Nat.reduceSub, Nat.reduceLT, Nat.reduceLeDiff, Int.cast_ofNat_Int, true_or, or_true, true_and, and_true, $[$ts:term],*])
theorem Probes.snoc {n : Nat} {P : List (List Nat)} {o : List Nat} (hP : Probes n P) (ho : o.Perm (List.range n)) : Probes n (P ++ [o]) := ⟨fun k hk => by
  rw [List.length_append, List.length_singleton] at hk
  by_cases h : k < P.length
  · rw [getElem!_pos (P ++ [o]) k (by simp; omega), List.getElem_append_left h, ← getElem!_pos P k h]
    exact hP.perm k h
  · have : k = P.length := by omega
    subst this
    rw [getElem!_pos (P ++ [o]) P.length (by simp)]
    simpa using ho⟩
end Mi
end
section
namespace Mi
open PySem Mi Mi.L
local macro_rules | `(tactic| wp_walk using $[$ts:term],*) => `(tactic| simp (disch := first | with_reducible assumption | omega | (simp only [List.length_set, List.length_append, List.length_cons, List.length_nil, List.length_map, List.length_range, List.length_replicate, Line]; omega) | (simp only [List.length_set, List.length_append, List.length_cons, List.length_nil, List.length_map, List.length_range, List.length_replicate]; done) | fail) only [au0, au1, au2, au3, au4, au5, au6, List.getElem?_map, dI, dT, List.getElem?_cons_zero, List.getElem?_cons_succ, List.set_cons_zero, List.set_cons_succ, List.map_cons, List.map_nil, List.length_cons, List.length_nil, List.cons_append, List.nil_append, List.append_nil, List.append_assoc, List.reduceReplicate, List.length_set, List.set_set, List.length_append, List.length_map, List.length_range, List.length_replicate, decide_true, decide_false, decide_eq_true_eq, Bool.not_eq_true', decide_eq_false_iff_not, Bool.true_and, Bool.false_and, Bool.not_true, Bool.not_false, Bool.false_eq_true, if_true, if_false, Int.toNat_natCast, Int.reduceToNat, Int.reducePow, Int.reduceMul, Int.reduceAdd, Int.reduceSub, Int.reduceNeg, Int.reduceLT, Int.reduceLE, Nat.sub_self, Nat.add_sub_cancel_left, Nat.reduceAdd, Nat.reduceSub, Nat.reduceLT, Nat.reduceLeDiff, Int.cast_ofNat_Int, true_or, or_true, true_and, and_true, $[$ts:term],*])
end Mi
end
section
namespace Mi
open PySem Mi Mi.L 
local macro_rules | `(tactic| wp_walk using $[$ts:term],*) => `(tactic| simp (disch := first | with_reducible assumption | omega | (simp only [List.length_set, List.length_append, List.length_cons, List.length_nil, List.length_map, List.length_range, List.length_replicate, Line]; omega) | (simp only [List.length_set, List.length_append, List.length_cons, List.length_nil, List.length_map, List.length_range, List.length_replicate]; done) | fail) only [au0, au1, au2, au3, au4, au5, au6, List.getElem?_map, dI, dT, List.getElem?_cons_zero, List.getElem?_cons_succ, List.set_cons_zero, List.set_cons_succ, List.map_cons, List.map_nil, List.length_cons, List.length_nil, List.cons_append, List.nil_append, List.append_nil, List.append_assoc, List.reduceReplicate, List.length_set, List.set_set, List.length_append, List.length_map, List.length_range, List.length_replicate, decide_true, decide_false, decide_eq_true_eq, Bool.not_eq_true', decide_eq_false_iff_not, Bool.true_and, Bool.false_and, Bool.not_true, Bool.not_false, Bool.false_eq_true, if_true, if_false, Int.toNat_natCast, Int.reduceToNat, Int.reducePow, Int.reduceMul, Int.reduceAdd, Int.reduceSub, Int.reduceNeg, Int.reduceLT, Int.reduceLE, Nat.sub_self, Nat.add_sub_cancel_left, Nat.reduceAdd, Nat.reduceSub, Nat.reduceLT, Nat.reduceLeDiff, Int.cast_ofNat_Int, true_or, or_true, true_and, and_true, $[$ts:term],*])
end Mi
end
section
namespace Mi
open PySem Mi Mi.L 
local macro_rules | `(tactic| wp_walk using $[$ts:term],*) => `(tactic| simp (disch := first | with_reducible assumption | omega | (simp only [List.length_set, List.length_append, List.length_cons, List.length_nil, List.length_map, List.length_range, List.length_replicate, Line]; omega) | (simp only [List.length_set, List.length_append, List.length_cons, List.length_nil, List.length_map, List.length_range, List.length_replicate]; done) | fail) only [au0, au1, au2, au3, au4, au5, au6, List.getElem?_map, dI, dT, List.getElem?_cons_zero, List.getElem?_cons_succ, List.set_cons_zero, List.set_cons_succ, List.map_cons, List.map_nil, List.length_cons, List.length_nil, List.cons_append, List.nil_append, List.append_nil, List.append_assoc, List.reduceReplicate, List.length_set, List.set_set, List.length_append, List.length_map, List.length_range, List.length_replicate, decide_true, decide_false, decide_eq_true_eq, Bool.not_eq_true', decide_eq_false_iff_not, Bool.true_and, Bool.false_and, Bool.not_true, Bool.not_false, Bool.false_eq_true, if_true, if_false, Int.toNat_natCast, Int.reduceToNat, Int.reducePow, Int.reduceMul, Int.reduceAdd, Int.reduceSub, Int.reduceNeg, Int.reduceLT, Int.reduceLE, Nat.sub_self, Nat.add_sub_cancel_left, Nat.reduceAdd, Nat.reduceSub, Nat.reduceLT, Nat.reduceLeDiff, Int.cast_ofNat_Int, true_or, or_true, true_and, and_true, $[$ts:term],*])
mutual
theorem tupOnly_iI : ∀ o : List Nat, tupOnlyL (o.map dI) = true
  | [] => rfl
  | n :: o => by
    show (tupOnly (dI n) && tupOnlyL (o.map dI)) = true
    rw [tupOnly_iI o]
    rfl
end
end Mi
end
section
namespace Mi
open PySem Mi Mi.L 
local macro_rules | `(tactic| wp_walk using $[$ts:term],*) => `(tactic| simp (disch := first | with_reducible assumption | omega | (simp only [List.length_set, List.length_append, List.length_cons, List.length_nil, List.length_map, List.length_range, List.length_replicate, Line]; omega) | (simp only [List.length_set, List.length_append, List.length_cons, List.length_nil, List.length_map, List.length_range, List.length_replicate]; done) | fail) only [au0, au1, au2, au3, au4, au5, au6, List.getElem?_map, dI, dT, List.getElem?_cons_zero, List.getElem?_cons_succ, List.set_cons_zero, List.set_cons_succ, List.map_cons, List.map_nil, List.length_cons, List.length_nil, List.cons_append, List.nil_append, List.append_nil, List.append_assoc, List.reduceReplicate, List.length_set, List.set_set, List.length_append, List.length_map, List.length_range, List.length_replicate, decide_true, decide_false, decide_eq_true_eq, Bool.not_eq_true', decide_eq_false_iff_not, Bool.true_and, Bool.false_and, Bool.not_true, Bool.not_false, Bool.false_eq_true, if_true, if_false, Int.toNat_natCast, Int.reduceToNat, Int.reducePow, Int.reduceMul, Int.reduceAdd, Int.reduceSub, Int.reduceNeg, Int.reduceLT, Int.reduceLE, Nat.sub_self, Nat.add_sub_cancel_left, Nat.reduceAdd, Nat.reduceSub, Nat.reduceLT, Nat.reduceLeDiff, Int.cast_ofNat_Int, true_or, or_true, true_and, and_true, $[$ts:term],*])
end Mi
end
section
namespace Mi
open PySem Mi Mi.L 
local macro_rules | `(tactic| wp_walk using $[$ts:term],*) => `(tactic| simp (disch := first | with_reducible assumption | omega | (simp only [List.length_set, List.length_append, List.length_cons, List.length_nil, List.length_map, List.length_range, List.length_replicate, Line]; omega) | (simp only [List.length_set, List.length_append, List.length_cons, List.length_nil, List.length_map, List.length_range, List.length_replicate]; done) | fail) only [au0, au1, au2, au3, au4, au5, au6, List.getElem?_map, dI, dT, List.getElem?_cons_zero, List.getElem?_cons_succ, List.set_cons_zero, List.set_cons_succ, List.map_cons, List.map_nil, List.length_cons, List.length_nil, List.cons_append, List.nil_append, List.append_nil, List.append_assoc, List.reduceReplicate, List.length_set, List.set_set, List.length_append, List.length_map, List.length_range, List.length_replicate, decide_true, decide_false, decide_eq_true_eq, Bool.not_eq_true', decide_eq_false_iff_not, Bool.true_and, Bool.false_and, Bool.not_true, Bool.not_false, Bool.false_eq_true, if_true, if_false, Int.toNat_natCast, Int.reduceToNat, Int.reducePow, Int.reduceMul, Int.reduceAdd, Int.reduceSub, Int.reduceNeg, Int.reduceLT, Int.reduceLE, Nat.sub_self, Nat.add_sub_cancel_left, Nat.reduceAdd, Nat.reduceSub, Nat.reduceLT, Nat.reduceLeDiff, Int.cast_ofNat_Int, true_or, or_true, true_and, and_true, $[$ts:term],*])
structure HalfR (n : Nat) (R : Nat → Nat → Prop) (rows : List (List Nat)) : Prop where
  len : rows.length = n
  nd : ∀ a, a < n → rows[a]!.Nodup
  only : ∀ a b, a < n → b ∈ rows[a]! → b < n ∧ R a b
  tour : ∀ a b, a < n → b < n → R a b → (b ∈ rows[a]! ↔ a ∉ rows[b]!)
theorem HalfR.step {n w l : Nat} {R R' : Nat → Nat → Prop} {rows : List (List Nat)} (h : HalfR n R rows) (hw : w < n) (hl : l < n) (hne : w ≠ l) (n1 : ¬ R w l) (n2 : ¬ R l w) (hR : ∀ a b, R' a b ↔ R a b ∨ (a = w ∧ b = l) ∨ (a = l ∧ b = w)) :
    HalfR n R' (rows.set w (rows[w]! ++ [l])) := by
  have hlen := h.len
  have g : ∀ a, a < n → (rows.set w (rows[w]! ++ [l]))[a]! = if w = a then rows[w]! ++ [l] else rows[a]! := fun a ha => bang_set (by omega)
  have nwl : l ∉ rows[w]! := fun z => n1 (h.only w l hw z).2
  have nlw : w ∉ rows[l]! := fun z => n2 (h.only l w hl z).2
  refine ⟨by rw [List.length_set]; exact hlen, fun a ha => ?_, fun a b ha hb => ?_, fun a b ha hb hab => ?_⟩
  · rw [g a ha]
    split
    · rename_i e
      subst e
      rw [List.nodup_append]
      exact ⟨h.nd w ha, by simp, fun x hx y hy => by
        rw [List.mem_singleton.mp hy]
        rintro rfl
        exact nwl hx⟩
    · exact h.nd a ha
  · rw [g a ha] at hb
    split at hb
    · rename_i e
      subst e
      rcases List.mem_append.mp hb with hb | hb
      · exact ⟨(h.only w b ha hb).1, (hR _ _).mpr (.inl (h.only w b ha hb).2)⟩
      · rw [List.mem_singleton.mp hb]
        exact ⟨hl, (hR _ _).mpr (.inr (.inl ⟨rfl, rfl⟩))⟩
    · exact ⟨(h.only a b ha hb).1, (hR _ _).mpr (.inl (h.only a b ha hb).2)⟩
  · rw [g a ha, g b hb]
    have hab := (hR a b).mp hab
    by_cases e1 : w = a
    · subst e1
      by_cases e2 : b = l
      · subst e2
        rw [if_pos rfl, if_neg hne]
        exact ⟨fun _ => nlw, fun _ => List.mem_append_right _ (List.mem_singleton.mpr rfl)⟩
      · have hr : R w b := by
          rcases hab with z | ⟨_, z⟩ | ⟨z, _⟩
          · exact z
          · exact absurd z e2
          · exact absurd z hne
        by_cases e3 : w = b
        · subst e3
          have := h.tour w w ha hb hr
          by_cases z : w ∈ rows[w]! <;> simp [z] at this
        · rw [if_pos rfl, if_neg e3]
          rw [← h.tour w b ha hb hr, List.mem_append, List.mem_singleton]
          simp [e2]
    · rw [if_neg e1]
      by_cases e2 : w = b
      · subst e2
        rw [if_pos rfl]
        by_cases e3 : a = l
        · subst e3
          exact ⟨fun z => absurd z nlw, fun z => absurd (List.mem_append_right _ (List.mem_singleton.mpr rfl)) z⟩
        · have hr : R a w := by
            rcases hab with z | ⟨z, _⟩ | ⟨z, _⟩
            · exact z
            · exact absurd z.symm e1
            · exact absurd z e3
          rw [h.tour a w ha hb hr, List.mem_append, List.mem_singleton]
          simp [e3]
      · rw [if_neg e2]
        refine h.tour a b ha hb ?_
        rcases hab with z | ⟨z, _⟩ | ⟨_, z⟩
        · exact z
        · exact absurd z.symm e1
        · exact absurd z.symm e2
theorem HalfR.done {n : Nat} {R : Nat → Nat → Prop} {rows : List (List Nat)} (h : HalfR n R rows) (hR : ∀ a b, a < n → b < n → (R a b ↔ a ≠ b)) : IsTable n (rows.map sortN) := by
  have hl := h.len
  have g : ∀ a, a < n → (rows.map sortN)[a]! = sortN rows[a]! := fun a ha => by
    rw [getElem!_pos _ a (by rw [List.length_map]; omega), getElem!_pos _ a (by omega), List.getElem_map]
  refine ⟨by rw [List.length_map]; exact hl, fun a ha => ?_, fun a ha b hb => ?_, fun a b ha hb => ?_⟩
  · rw [g a ha]
    have h1 := sortN_sorted rows[a]!
    have h2 : (sortN rows[a]!).Nodup := (sortN_perm _).nodup_iff.mpr (h.nd a ha)
    rw [List.nodup_iff_pairwise_ne] at h2
    exact (h1.and h2).imp fun ⟨u, v⟩ => by omega
  · rw [g a ha, sortN_mem] at hb
    exact (h.only a b ha hb).1
  · rw [g a ha, g b hb, sortN_mem, sortN_mem]
    constructor
    · intro z
      have z2 := (hR a b ha hb).mp (h.only a b ha z).2
      exact ⟨z2, (h.tour a b ha hb ((hR a b ha hb).mpr z2)).mp z⟩
    · rintro ⟨z1, z2⟩
      exact (h.tour a b ha hb ((hR a b ha hb).mpr z1)).mpr z2
end Mi
end
section
namespace Mi
open PySem Mi Mi.L 
local macro_rules | `(tactic| wp_walk using $[$ts:term],*) => `(tactic| simp (disch := first | with_reducible assumption | omega | (simp only [List.length_set, List.length_append, List.length_cons, List.length_nil, List.length_map, List.length_range, List.length_replicate, Line]; omega) | (simp only [List.length_set, List.length_append, List.length_cons, List.length_nil, List.length_map, List.length_range, List.length_replicate]; done) | fail) only [au0, au1, au2, au3, au4, au5, au6, List.getElem?_map, dI, dT, List.getElem?_cons_zero, List.getElem?_cons_succ, List.set_cons_zero, List.set_cons_succ, List.map_cons, List.map_nil, List.length_cons, List.length_nil, List.cons_append, List.nil_append, List.append_nil, List.append_assoc, List.reduceReplicate, List.length_set, List.set_set, List.length_append, List.length_map, List.length_range, List.length_replicate, decide_true, decide_false, decide_eq_true_eq, Bool.not_eq_true', decide_eq_false_iff_not, Bool.true_and, Bool.false_and, Bool.not_true, Bool.not_false, Bool.false_eq_true, if_true, if_false, Int.toNat_natCast, Int.reduceToNat, Int.reducePow, Int.reduceMul, Int.reduceAdd, Int.reduceSub, Int.reduceNeg, Int.reduceLT, Int.reduceLE, Nat.sub_self, Nat.add_sub_cancel_left, Nat.reduceAdd, Nat.reduceSub, Nat.reduceLT, Nat.reduceLeDiff, Int.cast_ofNat_Int, true_or, or_true, true_and, and_true, $[$ts:term],*])
end Mi
end
section
namespace Mi
open PySem Mi Mi.L 
local macro_rules | `(tactic| wp_walk using $[$ts:term],*) => `(tactic| simp (disch := first | with_reducible assumption | omega | (simp only [List.length_set, List.length_append, List.length_cons, List.length_nil, List.length_map, List.length_range, List.length_replicate, Line]; omega) | (simp only [List.length_set, List.length_append, List.length_cons, List.length_nil, List.length_map, List.length_range, List.length_replicate]; done) | fail) only [au0, au1, au2, au3, au4, au5, au6, List.getElem?_map, dI, dT, List.getElem?_cons_zero, List.getElem?_cons_succ, List.set_cons_zero, List.set_cons_succ, List.map_cons, List.map_nil, List.length_cons, List.length_nil, List.cons_append, List.nil_append, List.append_nil, List.append_assoc, List.reduceReplicate, List.length_set, List.set_set, List.length_append, List.length_map, List.length_range, List.length_replicate, decide_true, decide_false, decide_eq_true_eq, Bool.not_eq_true', decide_eq_false_iff_not, Bool.true_and, Bool.false_and, Bool.not_true, Bool.not_false, Bool.false_eq_true, if_true, if_false, Int.toNat_natCast, Int.reduceToNat, Int.reducePow, Int.reduceMul, Int.reduceAdd, Int.reduceSub, Int.reduceNeg, Int.reduceLT, Int.reduceLE, Nat.sub_self, Nat.add_sub_cancel_left, Nat.reduceAdd, Nat.reduceSub, Nat.reduceLT, Nat.reduceLeDiff, Int.cast_ofNat_Int, true_or, or_true, true_and, and_true, $[$ts:term],*])
end Mi
end
section
namespace Mi
open PySem Mi Mi.L
local macro_rules | `(tactic| wp_walk using $[$ts:term],*) => `(tactic| simp (disch := first | with_reducible assumption | omega | (simp only [List.length_set, List.length_append, List.length_cons, List.length_nil, List.length_map, List.length_range, List.length_replicate, Line]; omega) | (simp only [List.length_set, List.length_append, List.length_cons, List.length_nil, List.length_map, List.length_range, List.length_replicate]; done) | fail) only [au0, au1, au2, au3, au4, au5, au6, List.getElem?_map, dI, dT, List.getElem?_cons_zero, List.getElem?_cons_succ, List.set_cons_zero, List.set_cons_succ, List.map_cons, List.map_nil, List.length_cons, List.length_nil, List.cons_append, List.nil_append, List.append_nil, List.append_assoc, List.reduceReplicate, List.length_set, List.set_set, List.length_append, List.length_map, List.length_range, List.length_replicate, decide_true, decide_false, decide_eq_true_eq, Bool.not_eq_true', decide_eq_false_iff_not, Bool.true_and, Bool.false_and, Bool.not_true, Bool.not_false, Bool.false_eq_true, if_true, if_false, Int.toNat_natCast, Int.reduceToNat, Int.reducePow, Int.reduceMul, Int.reduceAdd, Int.reduceSub, Int.reduceNeg, Int.reduceLT, Int.reduceLE, Nat.sub_self, Nat.add_sub_cancel_left, Nat.reduceAdd, Nat.reduceSub, Nat.reduceLT, Nat.reduceLeDiff, Int.cast_ofNat_Int, true_or, or_true, true_and, and_true, $[$ts:term],*])
end Mi
end
section
namespace Mi
open PySem Mi Mi.L
local macro_rules | `(tactic| wp_walk using $[$ts:term],*) => `(tactic| simp (disch := first | with_reducible assumption | omega | (simp only [List.length_set, List.length_append, List.length_cons, List.length_nil, List.length_map, List.length_range, List.length_replicate, Line]; omega) | (simp only [List.length_set, List.length_append, List.length_cons, List.length_nil, List.length_map, List.length_range, List.length_replicate]; done) | fail) only [au0, au1, au2, au3, au4, au5, au6, List.getElem?_map, dI, dT, List.getElem?_cons_zero, List.getElem?_cons_succ, List.set_cons_zero, List.set_cons_succ, List.map_cons, List.map_nil, List.length_cons, List.length_nil, List.cons_append, List.nil_append, List.append_nil, List.append_assoc, List.reduceReplicate, List.length_set, List.set_set, List.length_append, List.length_map, List.length_range, List.length_replicate, decide_true, decide_false, decide_eq_true_eq, Bool.not_eq_true', decide_eq_false_iff_not, Bool.true_and, Bool.false_and, Bool.not_true, Bool.not_false, Bool.false_eq_true, if_true, if_false, Int.toNat_natCast, Int.reduceToNat, Int.reducePow, Int.reduceMul, Int.reduceAdd, Int.reduceSub, Int.reduceNeg, Int.reduceLT, Int.reduceLE, Nat.sub_self, Nat.add_sub_cancel_left, Nat.reduceAdd, Nat.reduceSub, Nat.reduceLT, Nat.reduceLeDiff, Int.cast_ofNat_Int, true_or, or_true, true_and, and_true, $[$ts:term],*])
end Mi
end
section
namespace Mi
open PySem Mi Mi.L
local macro_rules | `(tactic| wp_walk using $[$ts:term],*) => `(tactic| simp (disch := first | with_reducible assumption | omega | (simp only [List.length_set, List.length_append, List.length_cons, List.length_nil, List.length_map, List.length_range, List.length_replicate, Line]; omega) | (simp only [List.length_set, List.length_append, List.length_cons, List.length_nil, List.length_map, List.length_range, List.length_replicate]; done) | fail) only [au0, au1, au2, au3, au4, au5, au6, List.getElem?_map, dI, dT, List.getElem?_cons_zero, List.getElem?_cons_succ, List.set_cons_zero, List.set_cons_succ, List.map_cons, List.map_nil, List.length_cons, List.length_nil, List.cons_append, List.nil_append, List.append_nil, List.append_assoc, List.reduceReplicate, List.length_set, List.set_set, List.length_append, List.length_map, List.length_range, List.length_replicate, decide_true, decide_false, decide_eq_true_eq, Bool.not_eq_true', decide_eq_false_iff_not, Bool.true_and, Bool.false_and, Bool.not_true, Bool.not_false, Bool.false_eq_true, if_true, if_false, Int.toNat_natCast, Int.reduceToNat, Int.reducePow, Int.reduceMul, Int.reduceAdd, Int.reduceSub, Int.reduceNeg, Int.reduceLT, Int.reduceLE, Nat.sub_self, Nat.add_sub_cancel_left, Nat.reduceAdd, Nat.reduceSub, Nat.reduceLT, Nat.reduceLeDiff, Int.cast_ofNat_Int, true_or, or_true, true_and, and_true, $[$ts:term],*])
def candB (P : List (List Nat)) (row : Row) (s k : Nat) : Bool := (List.range row.length).any fun t => decide (row[t]! = some k) && decide (P[k]!.idxOf s < P[k]!.idxOf t)
def nextO (P os : List (List Nat)) (row : Row) (s : Nat) : Option Nat := match row[s]! with
  | none => none
  | some a => (os[s]!.drop (os[s]!.idxOf a + 1)).find? (candB P row s)
theorem candB_iff {P : List (List Nat)} {row : Row} {s k : Nat} : candB P row s k = true ↔ ∃ t, t < row.length ∧ row[t]! = some k ∧ P[k]!.idxOf s < P[k]!.idxOf t := by
  unfold candB
  rw [List.any_eq_true]
  constructor
  · rintro ⟨t, ht, h⟩
    simp only [Bool.and_eq_true, decide_eq_true_eq] at h
    exact ⟨t, List.mem_range.mp ht, h⟩
  · rintro ⟨t, ht, h⟩
    exact ⟨t, List.mem_range.mpr ht, by simpa using h⟩
section
variable {n m : Nat} {P os : List (List Nat)} {row : Row} (hP : Probes n P) (hm : P.length = m) (hO : Ords n m os) (hrow : row.length = n) (hkb : ∀ s k, s < n → row[s]! = some k → k < m)
include hO hrow hkb
include hP hm
end
end Mi
end
section
namespace Mi
open PySem Mi Mi.L
local macro_rules | `(tactic| wp_walk using $[$ts:term],*) => `(tactic| simp (disch := first | with_reducible assumption | omega | (simp only [List.length_set, List.length_append, List.length_cons, List.length_nil, List.length_map, List.length_range, List.length_replicate, Line]; omega) | (simp only [List.length_set, List.length_append, List.length_cons, List.length_nil, List.length_map, List.length_range, List.length_replicate]; done) | fail) only [au0, au1, au2, au3, au4, au5, au6, List.getElem?_map, dI, dT, List.getElem?_cons_zero, List.getElem?_cons_succ, List.set_cons_zero, List.set_cons_succ, List.map_cons, List.map_nil, List.length_cons, List.length_nil, List.cons_append, List.nil_append, List.append_nil, List.append_assoc, List.reduceReplicate, List.length_set, List.set_set, List.length_append, List.length_map, List.length_range, List.length_replicate, decide_true, decide_false, decide_eq_true_eq, Bool.not_eq_true', decide_eq_false_iff_not, Bool.true_and, Bool.false_and, Bool.not_true, Bool.not_false, Bool.false_eq_true, if_true, if_false, Int.toNat_natCast, Int.reduceToNat, Int.reducePow, Int.reduceMul, Int.reduceAdd, Int.reduceSub, Int.reduceNeg, Int.reduceLT, Int.reduceLE, Nat.sub_self, Nat.add_sub_cancel_left, Nat.reduceAdd, Nat.reduceSub, Nat.reduceLT, Nat.reduceLeDiff, Int.cast_ofNat_Int, true_or, or_true, true_and, and_true, $[$ts:term],*])
def ringGo (to : Nat → Option Nat) (s : Nat) : Nat → List Nat → Nat → List Nat × Nat
  | 0, row, here => (row, here)
  | f + 1, row, here => if s < here ∧ here ∉ row then (match to here with
    | some t => ringGo to s f (row ++ [here]) t
    | none => (row, here)) else (row, here)
def ringAt (to : Nat → Option Nat) (n s : Nat) : Option (List Nat) := match to s with
  | none => none
  | some h => if (ringGo to s n [s] h).2 = s then some (ringGo to s n [s] h).1 else none
def ringsF (to : Nat → Option Nat) (n : Nat) : List (List Nat) := (List.range n).filterMap (ringAt to n)
def stepF (P os : List (List Nat)) (row : Row) (s : Nat) : Option Nat := (nextO P os row s).map fun k => row.idxOf (some k)
end Mi
end
section
namespace Mi
open PySem Mi Mi.L
local macro_rules | `(tactic| wp_walk using $[$ts:term],*) => `(tactic| simp (disch := first | with_reducible assumption | omega | (simp only [List.length_set, List.length_append, List.length_cons, List.length_nil, List.length_map, List.length_range, List.length_replicate, Line]; omega) | (simp only [List.length_set, List.length_append, List.length_cons, List.length_nil, List.length_map, List.length_range, List.length_replicate]; done) | fail) only [au0, au1, au2, au3, au4, au5, au6, List.getElem?_map, dI, dT, List.getElem?_cons_zero, List.getElem?_cons_succ, List.set_cons_zero, List.set_cons_succ, List.map_cons, List.map_nil, List.length_cons, List.length_nil, List.cons_append, List.nil_append, List.append_nil, List.append_assoc, List.reduceReplicate, List.length_set, List.set_set, List.length_append, List.length_map, List.length_range, List.length_replicate, decide_true, decide_false, decide_eq_true_eq, Bool.not_eq_true', decide_eq_false_iff_not, Bool.true_and, Bool.false_and, Bool.not_true, Bool.not_false, Bool.false_eq_true, if_true, if_false, Int.toNat_natCast, Int.reduceToNat, Int.reducePow, Int.reduceMul, Int.reduceAdd, Int.reduceSub, Int.reduceNeg, Int.reduceLT, Int.reduceLE, Nat.sub_self, Nat.add_sub_cancel_left, Nat.reduceAdd, Nat.reduceSub, Nat.reduceLT, Nat.reduceLeDiff, Int.cast_ofNat_Int, true_or, or_true, true_and, and_true, $[$ts:term],*])
section
variable {n m : Nat} {P os : List (List Nat)} {row : Row}
theorem nextO_mem {s k : Nat} (h : nextO P os row s = some k) : some k ∈ row ∧ s < row.length := by
  unfold nextO at h
  cases hr : row[s]! with
  | none => rw [hr] at h; cases h
  | some a =>
    rw [hr] at h
    dsimp only at h
    obtain ⟨t, ht, e, _⟩ := candB_iff.mp (List.find?_some h)
    refine ⟨?_, ?_⟩
    · rw [getElem!_pos row t ht] at e
      rw [← e]
      exact List.getElem_mem _
    · rcases Nat.lt_or_ge s row.length with h | h
      · exact h
      · rw [row_out h] at hr
        cases hr
theorem stepF_lt {s t : Nat} (h : stepF P os row s = some t) : t < row.length ∧ s < row.length := by
  unfold stepF at h
  obtain ⟨k, hk, rfl⟩ := Option.map_eq_some_iff.mp h
  obtain ⟨h1, h2⟩ := nextO_mem hk
  exact ⟨List.idxOf_lt_length_iff.mpr h1, h2⟩
variable (hP : Probes n P) (hm : P.length = m) (hO : Ords n m os) (hrow : row.length = n) (hkb : ∀ s k, s < n → row[s]! = some k → k < m)
include hP hm hO hrow hkb
end
end Mi
end
section
namespace Mi
open PySem Mi Mi.L
local macro_rules | `(tactic| wp_walk using $[$ts:term],*) => `(tactic| simp (disch := first | with_reducible assumption | omega | (simp only [List.length_set, List.length_append, List.length_cons, List.length_nil, List.length_map, List.length_range, List.length_replicate, Line]; omega) | (simp only [List.length_set, List.length_append, List.length_cons, List.length_nil, List.length_map, List.length_range, List.length_replicate]; done) | fail) only [au0, au1, au2, au3, au4, au5, au6, List.getElem?_map, dI, dT, List.getElem?_cons_zero, List.getElem?_cons_succ, List.set_cons_zero, List.set_cons_succ, List.map_cons, List.map_nil, List.length_cons, List.length_nil, List.cons_append, List.nil_append, List.append_nil, List.append_assoc, List.reduceReplicate, List.length_set, List.set_set, List.length_append, List.length_map, List.length_range, List.length_replicate, decide_true, decide_false, decide_eq_true_eq, Bool.not_eq_true', decide_eq_false_iff_not, Bool.true_and, Bool.false_and, Bool.not_true, Bool.not_false, Bool.false_eq_true, if_true, if_false, Int.toNat_natCast, Int.reduceToNat, Int.reducePow, Int.reduceMul, Int.reduceAdd, Int.reduceSub, Int.reduceNeg, Int.reduceLT, Int.reduceLE, Nat.sub_self, Nat.add_sub_cancel_left, Nat.reduceAdd, Nat.reduceSub, Nat.reduceLT, Nat.reduceLeDiff, Int.cast_ofNat_Int, true_or, or_true, true_and, and_true, $[$ts:term],*])
def behindF (row : Row) (r : List Nat) : Row := (r.zip (r.drop 1 ++ r.take 1)).foldl (fun acc p => acc.set p.1 row[p.2]!) row
theorem fold_set_len (row : Row) : ∀ (xs : List (Nat × Nat)) (acc : Row), (xs.foldl (fun acc p => acc.set p.1 row[p.2]!) acc).length = acc.length
  | [], _ => rfl
  | x :: xs, acc => by rw [List.foldl_cons, fold_set_len row xs, List.length_set]
theorem behindF_len (row : Row) (r : List Nat) : (behindF row r).length = row.length := fold_set_len row _ row
theorem fold_set_out (row : Row) (s : Nat) : ∀ (xs : List (Nat × Nat)) (acc : Row), (∀ p ∈ xs, p.1 ≠ s) → (xs.foldl (fun acc p => acc.set p.1 row[p.2]!) acc)[s]! = acc[s]!
  | [], _, _ => rfl
  | x :: xs, acc, h => by
    rw [List.foldl_cons, fold_set_out row s xs _ fun p hp => h p (List.mem_cons_of_mem _ hp)]
    by_cases hs : s < acc.length
    · rw [row_set hs, if_neg (h x List.mem_cons_self)]
    · rw [row_out (by rw [List.length_set]; omega), row_out (by omega)]
theorem fold_set_in (row : Row) : ∀ (xs : List (Nat × Nat)) (acc : Row), (xs.map (·.1)).Nodup → (∀ p ∈ xs, p.1 < acc.length) → ∀ p ∈ xs, (xs.foldl (fun acc p => acc.set p.1 row[p.2]!) acc)[p.1]! = row[p.2]!
  | x :: xs, acc, hn, hb, p, hp => by
    rw [List.map_cons, List.nodup_cons] at hn
    rw [List.foldl_cons]
    rcases List.mem_cons.mp hp with rfl | hp'
    · rw [fold_set_out row p.1 xs _ fun q hq e => hn.1 (List.mem_map.mpr ⟨q, hq, e⟩), row_set (hb p List.mem_cons_self), if_pos rfl]
    · exact fold_set_in row xs _ hn.2 (fun q hq => by rw [List.length_set]; exact hb q (List.mem_cons_of_mem _ hq)) p hp'
def nxtR (r : List Nat) (s : Nat) : Nat := if s ∈ r then (r.drop 1 ++ r.take 1)[r.idxOf s]! else s
theorem rot_len (r : List Nat) : (r.drop 1 ++ r.take 1).length = r.length := by
  rw [List.length_append, List.length_drop, List.length_take]
  omega
theorem rotL_perm (r : List Nat) : (r.drop 1 ++ r.take 1).Perm r := by
  refine List.perm_append_comm.trans ?_
  rw [List.take_append_drop]
theorem zip_keys (r : List Nat) : (r.zip (r.drop 1 ++ r.take 1)).map (·.1) = r := by
  refine List.map_fst_zip ?_
  rw [rot_len]
  omega
theorem behindF_at {row : Row} {r : List Nat} (hn : r.Nodup) (hb : ∀ x ∈ r, x < row.length) (s : Nat) : (behindF row r)[s]! = row[nxtR r s]! := by
  unfold behindF nxtR
  by_cases hs : s ∈ r
  · rw [if_pos hs]
    have hi := List.idxOf_lt_length_iff.mpr hs
    have hi2 : r.idxOf s < (r.zip (r.drop 1 ++ r.take 1)).length := by rw [List.length_zip, rot_len]; omega
    have hp : (s, (r.drop 1 ++ r.take 1)[r.idxOf s]!) ∈ r.zip (r.drop 1 ++ r.take 1) := by
      have := List.getElem_mem hi2
      rw [List.getElem_zip] at this
      rw [getElem!_pos _ _ (by rw [rot_len]; exact hi)]
      rwa [List.getElem_idxOf hi] at this
    exact fold_set_in row _ row (by rw [zip_keys]; exact hn) (fun p hp => hb _ (List.of_mem_zip hp).1) _ hp
  · rw [if_neg hs]
    exact fold_set_out row s _ row fun p hp e => hs (e ▸ (List.of_mem_zip hp).1)
theorem nxtR_mem {r : List Nat} {s : Nat} (h : s ∈ r) : nxtR r s ∈ r := by
  unfold nxtR
  rw [if_pos h]
  have hi := List.idxOf_lt_length_iff.mpr h
  rw [getElem!_pos _ _ (by rw [rot_len]; exact hi)]
  exact (rotL_perm r).mem_iff.mp (List.getElem_mem _)
theorem nxtR_inj {r : List Nat} (hn : r.Nodup) {s t : Nat} (e : nxtR r s = nxtR r t) : s = t := by
  by_cases hs : s ∈ r <;> by_cases ht : t ∈ r
  · unfold nxtR at e
    rw [if_pos hs, if_pos ht] at e
    have hi := List.idxOf_lt_length_iff.mpr hs
    have hj := List.idxOf_lt_length_iff.mpr ht
    rw [getElem!_pos _ _ (by rw [rot_len]; exact hi), getElem!_pos _ _ (by rw [rot_len]; exact hj)] at e
    have hnd : (r.drop 1 ++ r.take 1).Nodup := (rotL_perm r).nodup_iff.mpr hn
    have e2 := (List.getElem_inj hnd).mp e
    have e3 := List.getElem_idxOf hi
    have e4 := List.getElem_idxOf hj
    rw [← e3, ← e4]
    congr 1
  · have := nxtR_mem hs
    rw [e] at this
    unfold nxtR at this
    rw [if_neg ht] at this
    exact absurd this ht
  · have := nxtR_mem ht
    rw [← e] at this
    unfold nxtR at this
    rw [if_neg hs] at this
    exact absurd this hs
  · unfold nxtR at e
    rwa [if_neg hs, if_neg ht] at e
theorem nxtR_surj {r : List Nat} (hn : r.Nodup) {s : Nat} (h : s ∈ r) : ∃ u, u ∈ r ∧ nxtR r u = s := by
  have hs : s ∈ r.drop 1 ++ r.take 1 := (rotL_perm r).mem_iff.mpr h
  obtain ⟨i, hi, e⟩ := List.mem_iff_getElem.mp hs
  have hir : i < r.length := by rw [← rot_len r]; exact hi
  refine ⟨r[i], List.getElem_mem _, ?_⟩
  unfold nxtR
  rw [if_pos (List.getElem_mem _), hn.idxOf_getElem i hir, getElem!_pos (r.drop 1 ++ r.take 1) i hi]
  exact e
structure Has (n : Nat) (row : Row) (ks : List Nat) : Prop where
  len : row.length = n
  inj : ∀ s t k, s < n → t < n → row[s]! = some k → row[t]! = some k → s = t
  keys : ∀ k, some k ∈ row ↔ k ∈ ks
theorem Has.behind {n : Nat} {row : Row} {ks r : List Nat} (h : Has n row ks) (hn : r.Nodup) (hb : ∀ x ∈ r, x < n) : Has n (behindF row r) ks := by
  have hb' : ∀ x ∈ r, x < row.length := fun x hx => by rw [h.len]; exact hb x hx
  have hlt : ∀ s, s < n → nxtR r s < n := fun s hs => by
    by_cases hm : s ∈ r
    · exact hb _ (nxtR_mem hm)
    · unfold nxtR; rw [if_neg hm]; exact hs
  have hlen : (behindF row r).length = n := by rw [behindF_len, h.len]
  refine ⟨hlen, fun s t k hs ht e1 e2 => ?_, fun k => ?_⟩
  · rw [behindF_at hn hb'] at e1 e2
    exact nxtR_inj hn (h.inj _ _ k (hlt s hs) (hlt t ht) e1 e2)
  · rw [← h.keys k, mem_row, mem_row]
    constructor
    · rintro ⟨s, hs, e⟩
      rw [behindF_at hn hb'] at e
      exact ⟨_, by rw [h.len]; exact hlt s (by omega), e⟩
    · rintro ⟨s, hs, e⟩
      have hsn : s < n := by rw [← h.len]; exact hs
      obtain ⟨u, hu, e2⟩ : ∃ u, u < n ∧ nxtR r u = s := by
        by_cases hm : s ∈ r
        · obtain ⟨u, hu, e2⟩ := nxtR_surj hn hm
          exact ⟨u, hb u hu, e2⟩
        · exact ⟨s, hsn, by unfold nxtR; rw [if_neg hm]⟩
      exact ⟨u, by rw [hlen]; exact hu, by rw [behindF_at hn hb', e2]; exact e⟩
theorem Has.kb {n m : Nat} {row : Row} {ks : List Nat} (h : Has n row ks) (hk : ∀ k ∈ ks, k < m) : ∀ s k, s < n → row[s]! = some k → k < m := fun s k hs e => hk k ((h.keys k).mp (mem_row.mpr ⟨s, by rw [h.len]; exact hs, e⟩))
theorem ringGo_inv {to : Nat → Option Nat} {n s : Nat} (hto : ∀ s t, to s = some t → t < n) : ∀ (f : Nat) (row : List Nat) (here : Nat), row.Nodup → (∀ x ∈ row, x < n) → here < n → row ≠ [] → (ringGo to s f row here).1.Nodup ∧ (∀ x ∈ (ringGo to s f row here).1, x < n) ∧ (ringGo to s f row here).1 ≠ []
  | 0, row, here, h1, h2, _, h4 => ⟨h1, h2, h4⟩
  | f + 1, row, here, h1, h2, h3, h4 => by
    rw [ringGo]
    by_cases hc : s < here ∧ here ∉ row
    · rw [if_pos hc]
      cases ht : to here with
      | none => exact ⟨h1, h2, h4⟩
      | some t =>
        refine ringGo_inv hto f (row ++ [here]) t ?_ ?_ (hto _ _ ht) (by simp)
        · rw [List.nodup_append]
          exact ⟨h1, by simp, fun a ha b hb e => hc.2 (by rw [List.mem_singleton.mp hb] at e; rw [← e]; exact ha)⟩
        · intro x hx
          rcases List.mem_append.mp hx with hx | hx
          · exact h2 x hx
          · rw [List.mem_singleton.mp hx]; exact h3
    · rw [if_neg hc]
      exact ⟨h1, h2, h4⟩
theorem ringsF_mem {to : Nat → Option Nat} {n : Nat} (hto : ∀ s t, to s = some t → t < n) {r : List Nat} (h : r ∈ ringsF to n) : r.Nodup ∧ (∀ x ∈ r, x < n) ∧ r ≠ [] := by
  unfold ringsF at h
  obtain ⟨s, hs, e⟩ := List.mem_filterMap.mp h
  have hsn := List.mem_range.mp hs
  unfold ringAt at e
  split at e
  · cases e
  · rename_i t ht
    split at e
    · cases e
      exact ringGo_inv hto n [s] t (by simp) (by simpa using hsn) (hto _ _ ht) (by simp)
    · cases e
inductive Moved (P os : List (List Nat)) (n : Nat) (row0 : Row) : Row → Prop
  | refl : Moved P os n row0 row0
  | step {row : Row} {r : List Nat} : Moved P os n row0 row → r ∈ ringsF (stepF P os row) n → Moved P os n row0 (behindF row r)
theorem Moved.has {P os : List (List Nat)} {n : Nat} {row0 row : Row} {ks : List Nat} (h : Moved P os n row0 row) (h0 : Has n row0 ks) : Has n row ks := by
  induction h with
  | refl => exact h0
  | step _ hr ih =>
    obtain ⟨g1, g2, _⟩ := ringsF_mem (fun s t e => by have := (stepF_lt e).1; rw [ih.len] at this; exact this) hr
    exact ih.behind g1 g2
end Mi
end
section
namespace Mi
open PySem Mi Mi.L
local macro_rules | `(tactic| wp_walk using $[$ts:term],*) => `(tactic| simp (disch := first | with_reducible assumption | omega | (simp only [List.length_set, List.length_append, List.length_cons, List.length_nil, List.length_map, List.length_range, List.length_replicate, Line]; omega) | (simp only [List.length_set, List.length_append, List.length_cons, List.length_nil, List.length_map, List.length_range, List.length_replicate]; done) | fail) only [au0, au1, au2, au3, au4, au5, au6, List.getElem?_map, dI, dT, List.getElem?_cons_zero, List.getElem?_cons_succ, List.set_cons_zero, List.set_cons_succ, List.map_cons, List.map_nil, List.length_cons, List.length_nil, List.cons_append, List.nil_append, List.append_nil, List.append_assoc, List.reduceReplicate, List.length_set, List.set_set, List.length_append, List.length_map, List.length_range, List.length_replicate, decide_true, decide_false, decide_eq_true_eq, Bool.not_eq_true', decide_eq_false_iff_not, Bool.true_and, Bool.false_and, Bool.not_true, Bool.not_false, Bool.false_eq_true, if_true, if_false, Int.toNat_natCast, Int.reduceToNat, Int.reducePow, Int.reduceMul, Int.reduceAdd, Int.reduceSub, Int.reduceNeg, Int.reduceLT, Int.reduceLE, Nat.sub_self, Nat.add_sub_cancel_left, Nat.reduceAdd, Nat.reduceSub, Nat.reduceLT, Nat.reduceLeDiff, Int.cast_ofNat_Int, true_or, or_true, true_and, and_true, $[$ts:term],*])
theorem fold_put_lk : ∀ (L acc : List (Nat × Nat)) (s : Nat), (L.map (·.1)).Nodup → lkN (L.foldl (fun a p => putN a p.1 p.2) acc) s = (lkN L s).or (lkN acc s)
  | [], acc, s, _ => by
    rw [show lkN [] s = none from rfl, Option.none_or]
    rfl
  | p :: L, acc, s, hn => by
    rw [List.map_cons, List.nodup_cons] at hn
    rw [List.foldl_cons, fold_put_lk L _ s hn.2, lkN_put, lkN_cons]
    by_cases h : p.1 = s
    · subst h
      have : lkN L p.1 = none := by
        cases hl : lkN L p.1 with
        | none => rfl
        | some x => exact absurd (mem_keysN.mpr (by rw [hl]; rfl)) hn.1
      rw [this, if_pos rfl, if_pos rfl]
      rfl
    · rw [if_neg (fun e => h e.symm), if_neg h]
theorem lkN_iff {L : List (Nat × Nat)} (h : (L.map (·.1)).Nodup) {s k : Nat} : lkN L s = some k ↔ (s, k) ∈ L := ⟨lkN_in, fun hp => lkN_mem h hp⟩
structure WS where
  own : List (Nat × Nat)
  wait : List Nat
  qs : List (List Nat)
def wStep (P : List (List Nat)) (st : WS) (s : Nat) (w : List Nat) : WS :=
  match st.qs[s]!.getLast? with
  | none => ⟨st.own, w, st.qs⟩
  | some k => match lkN st.own k with
    | none => ⟨putN st.own k s, w, st.qs.set s st.qs[s]!.dropLast⟩
    | some t => if P[k]!.idxOf s < P[k]!.idxOf t then ⟨putN st.own k s, w ++ [t], st.qs.set s st.qs[s]!.dropLast⟩ else ⟨st.own, w ++ [s], st.qs.set s st.qs[s]!.dropLast⟩
def wMeas (st : WS) : Nat := 2 * (st.qs.map List.length).sum + st.wait.length
structure WInv (n : Nat) (ks : List Nat) (st : WS) : Prop where
  nd : (st.own.map (·.1)).Nodup
  own : ∀ k s, lkN st.own k = some s → s < n ∧ k ∈ ks ∧ s ∉ st.wait
  inj : ∀ k k' s, lkN st.own k = some s → lkN st.own k' = some s → k = k'
  wait : ∀ s ∈ st.wait, s < n
  wnd : st.wait.Nodup
  ql : st.qs.length = n
  qs : ∀ s, s < n → ∀ k ∈ st.qs[s]!, k ∈ ks
theorem getLast_split {α : Type} {xs : List α} {x : α} (h : xs.getLast? = some x) : xs = xs.dropLast ++ [x] := by
  cases xs with
  | nil => cases h
  | cons y ys =>
    rw [List.getLast?_eq_some_getLast (by simp)] at h
    cases h
    exact (List.dropLast_concat_getLast (by simp)).symm
theorem sumq_set : ∀ (xs : List (List Nat)) (s : Nat) (q : List Nat), s < xs.length → ((xs.set s q).map List.length).sum + xs[s]!.length = (xs.map List.length).sum + q.length
  | x :: xs, 0, q, _ => by
    show (q.length + (xs.map List.length).sum) + x.length = x.length + (xs.map List.length).sum + q.length
    omega
  | x :: xs, s + 1, q, h => by
    have ih := sumq_set xs s q (by simpa using h)
    show (x.length + ((xs.set s q).map List.length).sum) + (x :: xs)[s + 1]!.length = x.length + (xs.map List.length).sum + q.length
    have e : (x :: xs)[s + 1]! = xs[s]! := by simp
    rw [e]
    omega
theorem WInv.step {n : Nat} {P : List (List Nat)} {ks : List Nat} {st : WS} {s : Nat} (h : WInv n ks st) (hs : st.wait.getLast? = some s) : WInv n ks (wStep P st s st.wait.dropLast) ∧ wMeas (wStep P st s st.wait.dropLast) < wMeas st := by
  have hw := getLast_split hs
  generalize st.wait.dropLast = w at *
  have hsn : s < n := h.wait s (by rw [hw]; simp)
  have hwn := h.wnd
  rw [hw, List.nodup_append] at hwn
  have hsw : s ∉ w := fun hm => hwn.2.2 s hm s (by simp) rfl
  have hwb : ∀ x ∈ w, x < n := fun x hx => h.wait x (by rw [hw]; simp [hx])
  have how : ∀ k t, lkN st.own k = some t → t < n ∧ k ∈ ks ∧ t ∉ w ∧ t ≠ s := fun k t e => by
    obtain ⟨a, b, c⟩ := h.own k t e
    rw [hw, List.mem_append, not_or] at c
    exact ⟨a, b, c.1, by simpa using c.2⟩
  unfold wMeas wStep
  cases hq : st.qs[s]!.getLast? with
  | none =>
    refine ⟨⟨h.nd, fun k t e => ⟨(how k t e).1, (how k t e).2.1, (how k t e).2.2.1⟩, h.inj, hwb, hwn.1, h.ql, h.qs⟩, ?_⟩
    dsimp only
    rw [hw, List.length_append]
    simp
  | some k =>
    have hqs := getLast_split hq
    have hk : k ∈ ks := h.qs s hsn k (by rw [hqs]; simp)
    have hql : (st.qs.set s st.qs[s]!.dropLast).length = n := by rw [List.length_set, h.ql]
    have hqm : ∀ u, u < n → ∀ x ∈ (st.qs.set s st.qs[s]!.dropLast)[u]!, x ∈ ks := fun u hu x hx => by
      rw [getElem!_pos _ u (by rw [hql]; exact hu), List.getElem_set] at hx
      split at hx
      · exact h.qs s hsn x ((List.dropLast_sublist _).subset hx)
      · exact h.qs u hu x (by rw [getElem!_pos _ u (by rw [h.ql]; exact hu)]; exact hx)
    have hsum := sumq_set st.qs s st.qs[s]!.dropLast (by rw [h.ql]; exact hsn)
    have hdl : st.qs[s]!.length = st.qs[s]!.dropLast.length + 1 := by
      conv => lhs; rw [hqs]
      simp
    dsimp only
    cases ho : lkN st.own k with
    | none =>
      dsimp only
      refine ⟨⟨putN_nd h.nd k s, fun x t e => ?_, fun x y t e1 e2 => ?_, hwb, hwn.1, hql, hqm⟩, ?_⟩
      · have e : lkN (putN st.own k s) x = some t := e
        rw [lkN_put] at e
        split at e
        · cases e
          rename_i hx
          exact ⟨hsn, by rw [hx]; exact hk, hsw⟩
        · have := how x t e
          exact ⟨this.1, this.2.1, this.2.2.1⟩
      · have e1 : lkN (putN st.own k s) x = some t := e1
        have e2 : lkN (putN st.own k s) y = some t := e2
        rw [lkN_put] at e1 e2
        split at e1 <;> split at e2
        · omega
        · cases e1
          exact absurd rfl (how y _ e2).2.2.2
        · cases e2
          exact absurd rfl (how x _ e1).2.2.2
        · exact h.inj x y t e1 e2
      · rw [hw, List.length_append]
        simp only [List.length_singleton]
        omega
    | some t =>
      dsimp only
      have hot := how k t ho
      by_cases hc : P[k]!.idxOf s < P[k]!.idxOf t
      · rw [if_pos hc]
        refine ⟨⟨putN_nd h.nd k s, fun x u e => ?_, fun x y u e1 e2 => ?_, fun u hu => ?_, ?_, hql, hqm⟩, ?_⟩
        · have e : lkN (putN st.own k s) x = some u := e
          rw [lkN_put] at e
          split at e
          · cases e
            rename_i hx
            refine ⟨hsn, by rw [hx]; exact hk, ?_⟩
            rw [List.mem_append, not_or]
            exact ⟨hsw, by simpa using fun e => hot.2.2.2 e.symm⟩
          · rename_i hx
            have := how x u e
            refine ⟨this.1, this.2.1, ?_⟩
            rw [List.mem_append, not_or]
            refine ⟨this.2.2.1, ?_⟩
            intro hm
            rw [List.mem_singleton.mp hm] at e
            exact hx (h.inj x k t e ho)
        · have e1 : lkN (putN st.own k s) x = some u := e1
          have e2 : lkN (putN st.own k s) y = some u := e2
          rw [lkN_put] at e1 e2
          split at e1 <;> split at e2
          · omega
          · cases e1
            exact absurd rfl (how y _ e2).2.2.2
          · cases e2
            exact absurd rfl (how x _ e1).2.2.2
          · exact h.inj x y u e1 e2
        · rcases List.mem_append.mp hu with hu | hu
          · exact hwb u hu
          · rw [List.mem_singleton.mp hu]; exact hot.1
        · rw [List.nodup_append]
          exact ⟨hwn.1, by simp, fun a ha b hb e => hot.2.2.1 (by rw [List.mem_singleton.mp hb] at e; rw [← e]; exact ha)⟩
        · dsimp only
          rw [hw, List.length_append, List.length_append]
          simp only [List.length_singleton]
          omega
      · rw [if_neg hc]
        refine ⟨⟨h.nd, fun x u e => ?_, h.inj, fun u hu => ?_, ?_, hql, hqm⟩, ?_⟩
        · have := how x u e
          refine ⟨this.1, this.2.1, ?_⟩
          rw [List.mem_append, not_or]
          exact ⟨this.2.2.1, by simpa using this.2.2.2⟩
        · rcases List.mem_append.mp hu with hu | hu
          · exact hwb u hu
          · rw [List.mem_singleton.mp hu]; exact hsn
        · rw [List.nodup_append]
          exact ⟨hwn.1, by simp, fun a ha b hb e => hsw (by rw [List.mem_singleton.mp hb] at e; rw [← e]; exact ha)⟩
        · dsimp only
          rw [hw, List.length_append]
          simp only [List.length_singleton]
          omega
def bySlot (own : List (Nat × Nat)) : List (Nat × Nat) := (own.map fun p => (p.2, p.1)).foldl (fun a p => putN a p.1 p.2) []
def wRow (n : Nat) (own : List (Nat × Nat)) : Row := (List.range n).map fun s => lkN (bySlot own) s
theorem WInv.vals {n : Nat} {ks : List Nat} {st : WS} (h : WInv n ks st) : ((st.own.map fun p => (p.2, p.1)).map (·.1)).Nodup := by
  rw [List.map_map, List.nodup_iff_pairwise_ne, List.pairwise_map]
  have hn := h.nd
  rw [List.nodup_iff_pairwise_ne, List.pairwise_map] at hn
  refine hn.imp_of_mem fun {p q} hp hq hne e => hne ?_
  have e1 := (lkN_iff h.nd).mpr hp
  have e2 := (lkN_iff h.nd).mpr hq
  have e : p.2 = q.2 := e
  rw [← e] at e2
  exact h.inj p.1 q.1 p.2 e1 e2
theorem WInv.slot {n : Nat} {ks : List Nat} {st : WS} (h : WInv n ks st) (s k : Nat) : lkN (bySlot st.own) s = some k ↔ lkN st.own k = some s := by
  unfold bySlot
  rw [fold_put_lk _ _ _ h.vals, show lkN [] s = none from rfl, Option.or_none, lkN_iff h.vals, lkN_iff h.nd, List.mem_map]
  constructor
  · rintro ⟨p, hp, e⟩
    cases e
    exact hp
  · intro hp
    exact ⟨(k, s), hp, rfl⟩
theorem wRow_at {n s : Nat} (own : List (Nat × Nat)) (hs : s < n) : (wRow n own)[s]! = lkN (bySlot own) s := by
  unfold wRow
  rw [getElem!_pos _ s (by simpa using hs), List.getElem_map, List.getElem_range]
theorem WInv.has {n : Nat} {ks : List Nat} {st : WS} (h : WInv n ks st) : Has n (wRow n st.own) (st.own.map (·.1)) := by
  have hl : (wRow n st.own).length = n := by unfold wRow; simp
  refine ⟨hl, fun s t k hs ht e1 e2 => ?_, fun k => ?_⟩
  · rw [wRow_at _ hs, h.slot] at e1
    rw [wRow_at _ ht, h.slot, e1] at e2
    exact Option.some.inj e2
  · rw [mem_row, mem_keysN]
    constructor
    · rintro ⟨s, hs, e⟩
      rw [hl] at hs
      rw [wRow_at _ hs, h.slot] at e
      rw [e]
      rfl
    · intro hk
      obtain ⟨s, hs⟩ := Option.isSome_iff_exists.mp hk
      have hsn := (h.own k s hs).1
      exact ⟨s, by rw [hl]; exact hsn, by rw [wRow_at _ hsn, h.slot]; exact hs⟩
theorem WInv.keys {n : Nat} {ks : List Nat} {st : WS} (h : WInv n ks st) : ∀ k ∈ st.own.map (·.1), k ∈ ks := fun k hk => by
  obtain ⟨s, hs⟩ := Option.isSome_iff_exists.mp (mem_keysN.mp hk)
  exact (h.own k s hs).2.1
end Mi
end
section
namespace Mi
open PySem Mi Mi.L
local macro_rules | `(tactic| wp_walk using $[$ts:term],*) => `(tactic| simp (disch := first | with_reducible assumption | omega | (simp only [List.length_set, List.length_append, List.length_cons, List.length_nil, List.length_map, List.length_range, List.length_replicate, Line]; omega) | (simp only [List.length_set, List.length_append, List.length_cons, List.length_nil, List.length_map, List.length_range, List.length_replicate]; done) | fail) only [au0, au1, au2, au3, au4, au5, au6, List.getElem?_map, dI, dT, List.getElem?_cons_zero, List.getElem?_cons_succ, List.set_cons_zero, List.set_cons_succ, List.map_cons, List.map_nil, List.length_cons, List.length_nil, List.cons_append, List.nil_append, List.append_nil, List.append_assoc, List.reduceReplicate, List.length_set, List.set_set, List.length_append, List.length_map, List.length_range, List.length_replicate, decide_true, decide_false, decide_eq_true_eq, Bool.not_eq_true', decide_eq_false_iff_not, Bool.true_and, Bool.false_and, Bool.not_true, Bool.not_false, Bool.false_eq_true, if_true, if_false, Int.toNat_natCast, Int.reduceToNat, Int.reducePow, Int.reduceMul, Int.reduceAdd, Int.reduceSub, Int.reduceNeg, Int.reduceLT, Int.reduceLE, Nat.sub_self, Nat.add_sub_cancel_left, Nat.reduceAdd, Nat.reduceSub, Nat.reduceLT, Nat.reduceLeDiff, Int.cast_ofNat_Int, true_or, or_true, true_and, and_true, $[$ts:term],*])
end Mi
end
section
namespace Mi
open PySem Mi Mi.L
local macro_rules | `(tactic| wp_walk using $[$ts:term],*) => `(tactic| simp (disch := first | with_reducible assumption | omega | (simp only [List.length_set, List.length_append, List.length_cons, List.length_nil, List.length_map, List.length_range, List.length_replicate, Line]; omega) | (simp only [List.length_set, List.length_append, List.length_cons, List.length_nil, List.length_map, List.length_range, List.length_replicate]; done) | fail) only [au0, au1, au2, au3, au4, au5, au6, List.getElem?_map, dI, dT, List.getElem?_cons_zero, List.getElem?_cons_succ, List.set_cons_zero, List.set_cons_succ, List.map_cons, List.map_nil, List.length_cons, List.length_nil, List.cons_append, List.nil_append, List.append_nil, List.append_assoc, List.reduceReplicate, List.length_set, List.set_set, List.length_append, List.length_map, List.length_range, List.length_replicate, decide_true, decide_false, decide_eq_true_eq, Bool.not_eq_true', decide_eq_false_iff_not, Bool.true_and, Bool.false_and, Bool.not_true, Bool.not_false, Bool.false_eq_true, if_true, if_false, Int.toNat_natCast, Int.reduceToNat, Int.reducePow, Int.reduceMul, Int.reduceAdd, Int.reduceSub, Int.reduceNeg, Int.reduceLT, Int.reduceLE, Nat.sub_self, Nat.add_sub_cancel_left, Nat.reduceAdd, Nat.reduceSub, Nat.reduceLT, Nat.reduceLeDiff, Int.cast_ofNat_Int, true_or, or_true, true_and, and_true, $[$ts:term],*])
section
variable {S : Store} {c : Cell} {w : List Nat} {qs : List (List Nat)}
end
structure IsQ (t : List (List Nat)) (ks q : List Nat) : Prop where
  perm : q.Perm ks
  asc : q.Pairwise fun a b => t[a]!.length ≤ t[b]!.length
end Mi
end
section
namespace Mi.L
open PySem Mi
noncomputable section
end
end Mi.L
end
section
namespace Mi
open PySem Mi Mi.L
local macro_rules | `(tactic| wp_walk using $[$ts:term],*) => `(tactic| simp (disch := first | with_reducible assumption | omega | (simp only [List.length_set, List.length_append, List.length_cons, List.length_nil, List.length_map, List.length_range, List.length_replicate, Line]; omega) | (simp only [List.length_set, List.length_append, List.length_cons, List.length_nil, List.length_map, List.length_range, List.length_replicate]; done) | fail) only [au0, au1, au2, au3, au4, au5, au6, List.getElem?_map, dI, dT, List.getElem?_cons_zero, List.getElem?_cons_succ, List.set_cons_zero, List.set_cons_succ, List.map_cons, List.map_nil, List.length_cons, List.length_nil, List.cons_append, List.nil_append, List.append_nil, List.append_assoc, List.reduceReplicate, List.length_set, List.set_set, List.length_append, List.length_map, List.length_range, List.length_replicate, decide_true, decide_false, decide_eq_true_eq, Bool.not_eq_true', decide_eq_false_iff_not, Bool.true_and, Bool.false_and, Bool.not_true, Bool.not_false, Bool.false_eq_true, if_true, if_false, Int.toNat_natCast, Int.reduceToNat, Int.reducePow, Int.reduceMul, Int.reduceAdd, Int.reduceSub, Int.reduceNeg, Int.reduceLT, Int.reduceLE, Nat.sub_self, Nat.add_sub_cancel_left, Nat.reduceAdd, Nat.reduceSub, Nat.reduceLT, Nat.reduceLeDiff, Int.cast_ofNat_Int, true_or, or_true, true_and, and_true, $[$ts:term],*])
section
variable {n m : Nat} {P os : List (List Nat)} {row : Row} {ks : List Nat}
end
end Mi
end
section
namespace Mi
open PySem Mi Mi.L
local macro_rules | `(tactic| wp_walk using $[$ts:term],*) => `(tactic| simp (disch := first | with_reducible assumption | omega | (simp only [List.length_set, List.length_append, List.length_cons, List.length_nil, List.length_map, List.length_range, List.length_replicate, Line]; omega) | (simp only [List.length_set, List.length_append, List.length_cons, List.length_nil, List.length_map, List.length_range, List.length_replicate]; done) | fail) only [au0, au1, au2, au3, au4, au5, au6, List.getElem?_map, dI, dT, List.getElem?_cons_zero, List.getElem?_cons_succ, List.set_cons_zero, List.set_cons_succ, List.map_cons, List.map_nil, List.length_cons, List.length_nil, List.cons_append, List.nil_append, List.append_nil, List.append_assoc, List.reduceReplicate, List.length_set, List.set_set, List.length_append, List.length_map, List.length_range, List.length_replicate, decide_true, decide_false, decide_eq_true_eq, Bool.not_eq_true', decide_eq_false_iff_not, Bool.true_and, Bool.false_and, Bool.not_true, Bool.not_false, Bool.false_eq_true, if_true, if_false, Int.toNat_natCast, Int.reduceToNat, Int.reducePow, Int.reduceMul, Int.reduceAdd, Int.reduceSub, Int.reduceNeg, Int.reduceLT, Int.reduceLE, Nat.sub_self, Nat.add_sub_cancel_left, Nat.reduceAdd, Nat.reduceSub, Nat.reduceLT, Nat.reduceLeDiff, Int.cast_ofNat_Int, true_or, or_true, true_and, and_true, $[$ts:term],*])
section
variable {n m : Nat} {P os : List (List Nat)} (hP : Probes n P) (hm : P.length = m) (hO : Ords n m os)
include hP hm hO
end
end Mi
end
section
namespace Mi
open PySem Mi Mi.L 
local macro_rules | `(tactic| wp_walk using $[$ts:term],*) => `(tactic| simp (disch := first | with_reducible assumption | omega | (simp only [List.length_set, List.length_append, List.length_cons, List.length_nil, List.length_map, List.length_range, List.length_replicate, Line]; omega) | (simp only [List.length_set, List.length_append, List.length_cons, List.length_nil, List.length_map, List.length_range, List.length_replicate]; done) | fail) only [au0, au1, au2, au3, au4, au5, au6, List.getElem?_map, dI, dT, List.getElem?_cons_zero, List.getElem?_cons_succ, List.set_cons_zero, List.set_cons_succ, List.map_cons, List.map_nil, List.length_cons, List.length_nil, List.cons_append, List.nil_append, List.append_nil, List.append_assoc, List.reduceReplicate, List.length_set, List.set_set, List.length_append, List.length_map, List.length_range, List.length_replicate, decide_true, decide_false, decide_eq_true_eq, Bool.not_eq_true', decide_eq_false_iff_not, Bool.true_and, Bool.false_and, Bool.not_true, Bool.not_false, Bool.false_eq_true, if_true, if_false, Int.toNat_natCast, Int.reduceToNat, Int.reducePow, Int.reduceMul, Int.reduceAdd, Int.reduceSub, Int.reduceNeg, Int.reduceLT, Int.reduceLE, Nat.sub_self, Nat.add_sub_cancel_left, Nat.reduceAdd, Nat.reduceSub, Nat.reduceLT, Nat.reduceLeDiff, Int.cast_ofNat_Int, true_or, or_true, true_and, and_true, $[$ts:term],*])
structure GoodT (n m : Nat) (T : List (List (List Nat))) : Prop where
  len : T.length = n
  tab : ∀ t ∈ T, IsTable m t
theorem GoodT.tabs {n m : Nat} {T : List (List (List Nat))} (h : GoodT n m T) : Tabs n m T := ⟨h.len, fun s hs => (h.tab _ (by
  have hl := h.len
  rw [getElem!_pos T s (by omega)]
  exact List.getElem_mem _)).len⟩
end Mi
end
section
namespace Mi
open PySem Mi Mi.L 
local macro_rules | `(tactic| wp_walk using $[$ts:term],*) => `(tactic| simp (disch := first | with_reducible assumption | omega | (simp only [List.length_set, List.length_append, List.length_cons, List.length_nil, List.length_map, List.length_range, List.length_replicate, Line]; omega) | (simp only [List.length_set, List.length_append, List.length_cons, List.length_nil, List.length_map, List.length_range, List.length_replicate]; done) | fail) only [au0, au1, au2, au3, au4, au5, au6, List.getElem?_map, dI, dT, List.getElem?_cons_zero, List.getElem?_cons_succ, List.set_cons_zero, List.set_cons_succ, List.map_cons, List.map_nil, List.length_cons, List.length_nil, List.cons_append, List.nil_append, List.append_nil, List.append_assoc, List.reduceReplicate, List.length_set, List.set_set, List.length_append, List.length_map, List.length_range, List.length_replicate, decide_true, decide_false, decide_eq_true_eq, Bool.not_eq_true', decide_eq_false_iff_not, Bool.true_and, Bool.false_and, Bool.not_true, Bool.not_false, Bool.false_eq_true, if_true, if_false, Int.toNat_natCast, Int.reduceToNat, Int.reducePow, Int.reduceMul, Int.reduceAdd, Int.reduceSub, Int.reduceNeg, Int.reduceLT, Int.reduceLE, Nat.sub_self, Nat.add_sub_cancel_left, Nat.reduceAdd, Nat.reduceSub, Nat.reduceLT, Nat.reduceLeDiff, Int.cast_ofNat_Int, true_or, or_true, true_and, and_true, $[$ts:term],*])
section
variable {n m : Nat} {P : List (List Nat)} {T : List (List (List Nat))}
def Later (n : Nat) (P : List (List Nat)) (T : List (List (List Nat))) (row after : Row) : Prop :=
  ∀ s k, s < n → row[s]! = some k → (∃ t, t < n ∧ after[t]! = some k ∧ P[k]!.idxOf s ≤ P[k]!.idxOf t) ∧ ∃ h, after[s]! = some h ∧ (h = k ∨ k ∈ T[s]![h]!)
theorem insF_later (hP : Probes n P) (hm : P.length = m) (hE : Even n m T) {f a : Nat} {row0 : Row} {R : Row × List (Nat × Nat)} (hn : row0.length = n) (hA : Ask P row0 a 0) (hR : insF P T f a 0 row0 [] = some R) : Later n P T row0 R.1 := by
  have key := insF_inv (T := T) hP hm (fun b i row => (∀ s k, s < n → row0[s]! = some k → (k ≠ b → ∃ t, t < n ∧ row[t]! = some k ∧ P[k]!.idxOf s ≤ P[k]!.idxOf t) ∧ (k = b → P[k]!.idxOf s < i) ∧ ∃ h, row[s]! = some h ∧ (h = k ∨ k ∈ T[s]![h]!)))
    (fun row => Later n P T row0 row) ?_ ?_ ?_ f a 0 row0 [] R hn hA ?_ hR
  · exact key
  · intro b i row t hAk hln hi hb ht hI hr s k hs hk
    obtain ⟨h1, h2, h, h3, h4⟩ := hI s k hs hk
    have hst : s ≠ t := fun z => by rw [z, hr] at h3; cases h3
    refine ⟨?_, h, by rw [row_set (by omega), if_neg (Ne.symm hst)]; exact h3, h4⟩
    by_cases hkb : k = b
    · subst hkb
      refine ⟨t, ht, by rw [row_set (by omega), if_pos rfl], ?_⟩
      have := h2 rfl
      have e : P[k]!.idxOf t = i := by
        have hil : i < P[k]!.length := by rw [hP.len hAk.ak]; exact hi
        rw [← hb, getElem!_pos P[k]! i hil]
        exact (hP.nd hAk.ak).idxOf_getElem i hil
      omega
    · obtain ⟨u, hu, e1, e2⟩ := h1 hkb
      refine ⟨u, hu, ?_, e2⟩
      rw [row_set (by omega), if_neg (fun z => by rw [← z, hr] at e1; cases e1)]
      exact e1
  · intro b i row t d hAk hln hi hb ht hI hr hd hbd hdm s k hs hk
    obtain ⟨h1, h2, h, h3, h4⟩ := hI s k hs hk
    have hbm : b < m := by rw [← hm]; exact hAk.ak
    refine ⟨fun hkd => ?_, fun hkd => ?_, ?_⟩
    · by_cases hkb : k = b
      · subst hkb
        refine ⟨t, ht, by rw [row_set (by omega), if_pos rfl], ?_⟩
        have := h2 rfl
        have e : P[k]!.idxOf t = i := by
          have hil : i < P[k]!.length := by rw [hP.len hAk.ak]; exact hi
          rw [← hb, getElem!_pos P[k]! i hil]
          exact (hP.nd hAk.ak).idxOf_getElem i hil
        omega
      · obtain ⟨u, hu, e1, e2⟩ := h1 hkb
        refine ⟨u, hu, ?_, e2⟩
        rw [row_set (by omega), if_neg (fun z => by rw [← z, hr] at e1; cases e1; exact hkd rfl)]
        exact e1
    · subst hkd
      by_cases hkb : k = b
      · exact absurd hkb.symm hbd
      · obtain ⟨u, hu, e1, e2⟩ := h1 hkb
        have : u = t := hAk.lay.inj u t k (by omega) (by omega) e1 hr
        subst this
        omega
    · rw [row_set (by omega)]
      by_cases hst : t = s
      · subst hst
        rw [if_pos rfl]
        rw [hr] at h3
        cases h3
        refine ⟨b, rfl, .inr ?_⟩
        rcases h4 with rfl | h4
        · exact hd
        · have hkm : k < m := by
            by_cases hkb : k = b
            · rw [hkb]; exact hbm
            · obtain ⟨u, hu, e1, _⟩ := h1 hkb
              have := hAk.lay.kb u k (by omega) e1
              omega
          exact hE.tr t b d k ht hbm hdm hkm hd h4
      · rw [if_neg hst]
        exact ⟨h, h3, h4⟩
  · intro b i row t d hAk hln hi hb ht hI hr hd hbd hdm s k hs hk
    obtain ⟨h1, h2, h3⟩ := hI s k hs hk
    exact ⟨h1, fun z => by have := h2 z; omega, h3⟩
  · intro s k hs hk
    refine ⟨fun _ => ⟨s, hs, hk, Nat.le_refl _⟩, fun z => ?_, k, hk, .inl rfl⟩
    exact absurd (by rw [← z]; exact hk) (hA.new s (by omega))
theorem lay1_later (hP : Probes n P) (hm : P.length = m) (hE : Even n m T) (hn : n ≤ 90) (hn0 : 0 < n) {h : List Nat} (hnd : h.Nodup) (hk : ∀ k ∈ h, k < m) (hl : h.length < n) {x : Nat} (hx : x < m) (hxn : x ∉ h) : Later n P T (rowOfH P T n h) (rowOfH P T n (h ++ [x])) := by
  have r := Rw.fold hP hm hE.toTabs hn hn0 hnd hk (by omega) h.length (Nat.le_refl _)
  rw [List.take_length] at r
  obtain ⟨R, g1, g2⟩ := r.fuel hP hm hE.toTabs hl hn hx hxn
  have hfree := r.free hl
  have hA : Ask P (h.foldl (lay1 P T) (List.replicate n none)) x 0 := ⟨r.lay, fun s hs e => hxn ((r.keys x).mp (mem_row.mpr ⟨s, hs, e⟩)), by omega, fun t ht => by simp at ht, hfree⟩
  have := insF_later hP hm hE r.len hA g1
  unfold rowOfH
  rw [List.foldl_append]
  show Later n P T _ (lay1 P T _ x)
  rw [g2]
  exact this
end
end Mi
end
section
namespace Mi
open PySem Mi Mi.L 
local macro_rules | `(tactic| wp_walk using $[$ts:term],*) => `(tactic| simp (disch := first | with_reducible assumption | omega | (simp only [List.length_set, List.length_append, List.length_cons, List.length_nil, List.length_map, List.length_range, List.length_replicate, Line]; omega) | (simp only [List.length_set, List.length_append, List.length_cons, List.length_nil, List.length_map, List.length_range, List.length_replicate]; done) | fail) only [au0, au1, au2, au3, au4, au5, au6, List.getElem?_map, dI, dT, List.getElem?_cons_zero, List.getElem?_cons_succ, List.set_cons_zero, List.set_cons_succ, List.map_cons, List.map_nil, List.length_cons, List.length_nil, List.cons_append, List.nil_append, List.append_nil, List.append_assoc, List.reduceReplicate, List.length_set, List.set_set, List.length_append, List.length_map, List.length_range, List.length_replicate, decide_true, decide_false, decide_eq_true_eq, Bool.not_eq_true', decide_eq_false_iff_not, Bool.true_and, Bool.false_and, Bool.not_true, Bool.not_false, Bool.false_eq_true, if_true, if_false, Int.toNat_natCast, Int.reduceToNat, Int.reducePow, Int.reduceMul, Int.reduceAdd, Int.reduceSub, Int.reduceNeg, Int.reduceLT, Int.reduceLE, Nat.sub_self, Nat.add_sub_cancel_left, Nat.reduceAdd, Nat.reduceSub, Nat.reduceLT, Nat.reduceLeDiff, Int.cast_ofNat_Int, true_or, or_true, true_and, and_true, $[$ts:term],*])
section
variable {n m : Nat} {P : List (List Nat)} {T : List (List (List Nat))} (hP : Probes n P) (hm : P.length = m) (hE : Even n m T)
include hP hm hE
end
end Mi
end
section
namespace Mi.L
open PySem Mi
noncomputable section
end
end Mi.L
end
section
namespace Mi
open PySem Mi Mi.L 
local macro_rules | `(tactic| wp_walk using $[$ts:term],*) => `(tactic| simp (disch := first | with_reducible assumption | omega | (simp only [List.length_set, List.length_append, List.length_cons, List.length_nil, List.length_map, List.length_range, List.length_replicate, Line]; omega) | (simp only [List.length_set, List.length_append, List.length_cons, List.length_nil, List.length_map, List.length_range, List.length_replicate]; done) | fail) only [au0, au1, au2, au3, au4, au5, au6, List.getElem?_map, dI, dT, List.getElem?_cons_zero, List.getElem?_cons_succ, List.set_cons_zero, List.set_cons_succ, List.map_cons, List.map_nil, List.length_cons, List.length_nil, List.cons_append, List.nil_append, List.append_nil, List.append_assoc, List.reduceReplicate, List.length_set, List.set_set, List.length_append, List.length_map, List.length_range, List.length_replicate, decide_true, decide_false, decide_eq_true_eq, Bool.not_eq_true', decide_eq_false_iff_not, Bool.true_and, Bool.false_and, Bool.not_true, Bool.not_false, Bool.false_eq_true, if_true, if_false, Int.toNat_natCast, Int.reduceToNat, Int.reducePow, Int.reduceMul, Int.reduceAdd, Int.reduceSub, Int.reduceNeg, Int.reduceLT, Int.reduceLE, Nat.sub_self, Nat.add_sub_cancel_left, Nat.reduceAdd, Nat.reduceSub, Nat.reduceLT, Nat.reduceLeDiff, Int.cast_ofNat_Int, true_or, or_true, true_and, and_true, $[$ts:term],*])
section
variable {S : Store} {c : Cell} {w : List Nat} {qs : List (List Nat)} {n : Nat}
end
end Mi
end
section
namespace Mi
open PySem Mi Mi.L 
local macro_rules | `(tactic| wp_walk using $[$ts:term],*) => `(tactic| simp (disch := first | with_reducible assumption | omega | (simp only [List.length_set, List.length_append, List.length_cons, List.length_nil, List.length_map, List.length_range, List.length_replicate, Line]; omega) | (simp only [List.length_set, List.length_append, List.length_cons, List.length_nil, List.length_map, List.length_range, List.length_replicate]; done) | fail) only [au0, au1, au2, au3, au4, au5, au6, List.getElem?_map, dI, dT, List.getElem?_cons_zero, List.getElem?_cons_succ, List.set_cons_zero, List.set_cons_succ, List.map_cons, List.map_nil, List.length_cons, List.length_nil, List.cons_append, List.nil_append, List.append_nil, List.append_assoc, List.reduceReplicate, List.length_set, List.set_set, List.length_append, List.length_map, List.length_range, List.length_replicate, decide_true, decide_false, decide_eq_true_eq, Bool.not_eq_true', decide_eq_false_iff_not, Bool.true_and, Bool.false_and, Bool.not_true, Bool.not_false, Bool.false_eq_true, if_true, if_false, Int.toNat_natCast, Int.reduceToNat, Int.reducePow, Int.reduceMul, Int.reduceAdd, Int.reduceSub, Int.reduceNeg, Int.reduceLT, Int.reduceLE, Nat.sub_self, Nat.add_sub_cancel_left, Nat.reduceAdd, Nat.reduceSub, Nat.reduceLT, Nat.reduceLeDiff, Int.cast_ofNat_Int, true_or, or_true, true_and, and_true, $[$ts:term],*])
section
variable {n m : Nat} {P : List (List Nat)} {T T' : List (List (List Nat))}
structure Up (n m k : Nat) (T T' : List (List (List Nat))) : Prop where
  oth : ∀ s x y, s < n → x < m → y < m → x ≠ k → y ≠ k → (x ∈ T'[s]![y]! ↔ x ∈ T[s]![y]!)
  own : ∀ s y, s < n → y < m → y ∈ T[s]![k]! → y ∈ T'[s]![k]!
end
end Mi
end
section
namespace Mi
open PySem Mi Mi.L 
local macro_rules | `(tactic| wp_walk using $[$ts:term],*) => `(tactic| simp (disch := first | with_reducible assumption | omega | (simp only [List.length_set, List.length_append, List.length_cons, List.length_nil, List.length_map, List.length_range, List.length_replicate, Line]; omega) | (simp only [List.length_set, List.length_append, List.length_cons, List.length_nil, List.length_map, List.length_range, List.length_replicate]; done) | fail) only [au0, au1, au2, au3, au4, au5, au6, List.getElem?_map, dI, dT, List.getElem?_cons_zero, List.getElem?_cons_succ, List.set_cons_zero, List.set_cons_succ, List.map_cons, List.map_nil, List.length_cons, List.length_nil, List.cons_append, List.nil_append, List.append_nil, List.append_assoc, List.reduceReplicate, List.length_set, List.set_set, List.length_append, List.length_map, List.length_range, List.length_replicate, decide_true, decide_false, decide_eq_true_eq, Bool.not_eq_true', decide_eq_false_iff_not, Bool.true_and, Bool.false_and, Bool.not_true, Bool.not_false, Bool.false_eq_true, if_true, if_false, Int.toNat_natCast, Int.reduceToNat, Int.reducePow, Int.reduceMul, Int.reduceAdd, Int.reduceSub, Int.reduceNeg, Int.reduceLT, Int.reduceLE, Nat.sub_self, Nat.add_sub_cancel_left, Nat.reduceAdd, Nat.reduceSub, Nat.reduceLT, Nat.reduceLeDiff, Int.cast_ofNat_Int, true_or, or_true, true_and, and_true, $[$ts:term],*])
structure WTb (n : Nat) (P : List (List Nat)) (T : List (List (List Nat))) (ks : List Nat) (st : WS) : Prop where
  srt : ∀ s, s < n → st.qs[s]!.Pairwise fun a b => a ∈ T[s]![b]!
  beat : ∀ k t, lkN st.own k = some t → ∀ c ∈ st.qs[t]!, c ∈ T[t]![k]!
  ask : ∀ k ∈ ks, ∀ t, t < n → k ∈ st.qs[t]! ∨ ∃ u, lkN st.own k = some u ∧ P[k]!.idxOf u ≤ P[k]!.idxOf t
  busy : ∀ s, s < n → s ∈ st.wait ∨ st.qs[s]! = [] ∨ ∃ k, lkN st.own k = some s
structure WT (n : Nat) (P : List (List Nat)) (T : List (List (List Nat))) (ks : List Nat) (st : WS) : Prop extends WTb n P T ks st where
  inv : WInv n ks st
section
variable {n m : Nat} {P : List (List Nat)} {T : List (List (List Nat))} {ks : List Nat} (hP : Probes n P) (hm : P.length = m) (hE : Even n m T) (hk : ∀ k ∈ ks, k < m)
include hP hm hE hk
end
end Mi
end
section
namespace Mi
open PySem Mi Mi.L 
local macro_rules | `(tactic| wp_walk using $[$ts:term],*) => `(tactic| simp (disch := first | with_reducible assumption | omega | (simp only [List.length_set, List.length_append, List.length_cons, List.length_nil, List.length_map, List.length_range, List.length_replicate, Line]; omega) | (simp only [List.length_set, List.length_append, List.length_cons, List.length_nil, List.length_map, List.length_range, List.length_replicate]; done) | fail) only [au0, au1, au2, au3, au4, au5, au6, List.getElem?_map, dI, dT, List.getElem?_cons_zero, List.getElem?_cons_succ, List.set_cons_zero, List.set_cons_succ, List.map_cons, List.map_nil, List.length_cons, List.length_nil, List.cons_append, List.nil_append, List.append_nil, List.append_assoc, List.reduceReplicate, List.length_set, List.set_set, List.length_append, List.length_map, List.length_range, List.length_replicate, decide_true, decide_false, decide_eq_true_eq, Bool.not_eq_true', decide_eq_false_iff_not, Bool.true_and, Bool.false_and, Bool.not_true, Bool.not_false, Bool.false_eq_true, if_true, if_false, Int.toNat_natCast, Int.reduceToNat, Int.reducePow, Int.reduceMul, Int.reduceAdd, Int.reduceSub, Int.reduceNeg, Int.reduceLT, Int.reduceLE, Nat.sub_self, Nat.add_sub_cancel_left, Nat.reduceAdd, Nat.reduceSub, Nat.reduceLT, Nat.reduceLeDiff, Int.cast_ofNat_Int, true_or, or_true, true_and, and_true, $[$ts:term],*])
theorem Has.put {n k s : Nat} {row : Row} {d : List Nat} (h : Has n row d) (hk : k ∉ d) (hs : s < n) (e : row[s]! = none) : Has n (row.set s (some k)) (d ++ [k]) := by
  have hl := h.len
  have hg : ∀ t, t < n → (row.set s (some k))[t]! = if s = t then some k else row[t]! := fun t ht => row_set (by omega)
  refine ⟨by rw [List.length_set]; exact hl, fun t u x ht hu e1 e2 => ?_, fun x => ?_⟩
  · rw [hg t ht] at e1
    rw [hg u hu] at e2
    by_cases h1 : s = t
    · by_cases h2 : s = u
      · rw [← h1, h2]
      · rw [if_pos h1] at e1
        rw [if_neg h2] at e2
        cases e1
        exact absurd ((h.keys k).mp (mem_row.mpr ⟨u, by omega, e2⟩)) hk
    · by_cases h2 : s = u
      · rw [if_neg h1] at e1
        rw [if_pos h2] at e2
        cases e2
        exact absurd ((h.keys k).mp (mem_row.mpr ⟨t, by omega, e1⟩)) hk
      · rw [if_neg h1] at e1
        rw [if_neg h2] at e2
        exact h.inj t u x ht hu e1 e2
  · rw [mem_row, List.mem_append, List.mem_singleton, ← h.keys, mem_row, List.length_set]
    constructor
    · rintro ⟨t, ht, e1⟩
      rw [hg t (by omega)] at e1
      by_cases h1 : s = t
      · rw [if_pos h1] at e1
        exact .inr (Option.some.inj e1).symm
      · rw [if_neg h1] at e1
        exact .inl ⟨t, ht, e1⟩
    · rintro (⟨t, ht, e1⟩ | rfl)
      · refine ⟨t, ht, ?_⟩
        rw [hg t (by omega), if_neg (fun z => by rw [← z, e] at e1; cases e1)]
        exact e1
      · exact ⟨s, by omega, by rw [hg s hs, if_pos rfl]⟩
theorem Has.drop {n k s : Nat} {row : Row} {d : List Nat} (h : Has n row (d ++ [k])) (hk : k ∉ d) (hs : s < n) (e : row[s]! = some k) : Has n (row.set s none) d := by
  have hl := h.len
  have hg : ∀ t, t < n → (row.set s none)[t]! = if s = t then none else row[t]! := fun t ht => row_set (by omega)
  refine ⟨by rw [List.length_set]; exact hl, fun t u x ht hu e1 e2 => ?_, fun x => ?_⟩
  · rw [hg t ht] at e1
    rw [hg u hu] at e2
    by_cases h1 : s = t
    · rw [if_pos h1] at e1; cases e1
    · by_cases h2 : s = u
      · rw [if_pos h2] at e2; cases e2
      · rw [if_neg h1] at e1
        rw [if_neg h2] at e2
        exact h.inj t u x ht hu e1 e2
  · have hx := h.keys x
    rw [List.mem_append, List.mem_singleton, mem_row] at hx
    rw [mem_row, List.length_set]
    constructor
    · rintro ⟨t, ht, e1⟩
      rw [hg t (by omega)] at e1
      by_cases h1 : s = t
      · rw [if_pos h1] at e1; cases e1
      · rw [if_neg h1] at e1
        rcases hx.mp ⟨t, ht, e1⟩ with g | g
        · exact g
        · rw [g] at e1
          exact absurd (h.inj s t k hs (by omega) e e1) h1
    · intro hd
      obtain ⟨t, ht, e1⟩ := hx.mpr (.inl hd)
      refine ⟨t, ht, ?_⟩
      rw [hg t (by omega), if_neg (fun z => by rw [← z, e] at e1; cases e1; exact hk hd)]
      exact e1
end Mi
end
section
namespace Mi
open PySem Mi Mi.L 
local macro_rules | `(tactic| wp_walk using $[$ts:term],*) => `(tactic| simp (disch := first | with_reducible assumption | omega | (simp only [List.length_set, List.length_append, List.length_cons, List.length_nil, List.length_map, List.length_range, List.length_replicate, Line]; omega) | (simp only [List.length_set, List.length_append, List.length_cons, List.length_nil, List.length_map, List.length_range, List.length_replicate]; done) | fail) only [au0, au1, au2, au3, au4, au5, au6, List.getElem?_map, dI, dT, List.getElem?_cons_zero, List.getElem?_cons_succ, List.set_cons_zero, List.set_cons_succ, List.map_cons, List.map_nil, List.length_cons, List.length_nil, List.cons_append, List.nil_append, List.append_nil, List.append_assoc, List.reduceReplicate, List.length_set, List.set_set, List.length_append, List.length_map, List.length_range, List.length_replicate, decide_true, decide_false, decide_eq_true_eq, Bool.not_eq_true', decide_eq_false_iff_not, Bool.true_and, Bool.false_and, Bool.not_true, Bool.not_false, Bool.false_eq_true, if_true, if_false, Int.toNat_natCast, Int.reduceToNat, Int.reducePow, Int.reduceMul, Int.reduceAdd, Int.reduceSub, Int.reduceNeg, Int.reduceLT, Int.reduceLE, Nat.sub_self, Nat.add_sub_cancel_left, Nat.reduceAdd, Nat.reduceSub, Nat.reduceLT, Nat.reduceLeDiff, Int.cast_ofNat_Int, true_or, or_true, true_and, and_true, $[$ts:term],*])
end Mi
end
section
namespace Mi
open PySem Mi Mi.L 
local macro_rules | `(tactic| wp_walk using $[$ts:term],*) => `(tactic| simp (disch := first | with_reducible assumption | omega | (simp only [List.length_set, List.length_append, List.length_cons, List.length_nil, List.length_map, List.length_range, List.length_replicate, Line]; omega) | (simp only [List.length_set, List.length_append, List.length_cons, List.length_nil, List.length_map, List.length_range, List.length_replicate]; done) | fail) only [au0, au1, au2, au3, au4, au5, au6, List.getElem?_map, dI, dT, List.getElem?_cons_zero, List.getElem?_cons_succ, List.set_cons_zero, List.set_cons_succ, List.map_cons, List.map_nil, List.length_cons, List.length_nil, List.cons_append, List.nil_append, List.append_nil, List.append_assoc, List.reduceReplicate, List.length_set, List.set_set, List.length_append, List.length_map, List.length_range, List.length_replicate, decide_true, decide_false, decide_eq_true_eq, Bool.not_eq_true', decide_eq_false_iff_not, Bool.true_and, Bool.false_and, Bool.not_true, Bool.not_false, Bool.false_eq_true, if_true, if_false, Int.toNat_natCast, Int.reduceToNat, Int.reducePow, Int.reduceMul, Int.reduceAdd, Int.reduceSub, Int.reduceNeg, Int.reduceLT, Int.reduceLE, Nat.sub_self, Nat.add_sub_cancel_left, Nat.reduceAdd, Nat.reduceSub, Nat.reduceLT, Nat.reduceLeDiff, Int.cast_ofNat_Int, true_or, or_true, true_and, and_true, $[$ts:term],*])
section
variable {n m : Nat} {P os : List (List Nat)} {row : Row} {ks : List Nat}
end
end Mi
end
section
namespace Mi
open PySem
end Mi
end
section
namespace Mi.L
open PySem Mi
noncomputable section
end
end Mi.L
end
section
namespace Mi
open PySem Mi Mi.L 
local macro_rules | `(tactic| wp_walk using $[$ts:term],*) => `(tactic| simp (disch := first | with_reducible assumption | omega | (simp only [List.length_set, List.length_append, List.length_cons, List.length_nil, List.length_map, List.length_range, List.length_replicate, Line]; omega) | (simp only [List.length_set, List.length_append, List.length_cons, List.length_nil, List.length_map, List.length_range, List.length_replicate]; done) | fail) only [au0, au1, au2, au3, au4, au5, au6, List.getElem?_map, dI, dT, List.getElem?_cons_zero, List.getElem?_cons_succ, List.set_cons_zero, List.set_cons_succ, List.map_cons, List.map_nil, List.length_cons, List.length_nil, List.cons_append, List.nil_append, List.append_nil, List.append_assoc, List.reduceReplicate, List.length_set, List.set_set, List.length_append, List.length_map, List.length_range, List.length_replicate, decide_true, decide_false, decide_eq_true_eq, Bool.not_eq_true', decide_eq_false_iff_not, Bool.true_and, Bool.false_and, Bool.not_true, Bool.not_false, Bool.false_eq_true, if_true, if_false, Int.toNat_natCast, Int.reduceToNat, Int.reducePow, Int.reduceMul, Int.reduceAdd, Int.reduceSub, Int.reduceNeg, Int.reduceLT, Int.reduceLE, Nat.sub_self, Nat.add_sub_cancel_left, Nat.reduceAdd, Nat.reduceSub, Nat.reduceLT, Nat.reduceLeDiff, Int.cast_ofNat_Int, true_or, or_true, true_and, and_true, $[$ts:term],*])
section
variable {n m : Nat} {P os : List (List Nat)} {row : Row} {ks : List Nat}
end
section
variable {n m : Nat} {P os : List (List Nat)} {row : Row} {ks : List Nat}
end
section
variable {n m : Nat} {P os : List (List Nat)} {row : Row} {ks : List Nat}
end
end Mi
end
section
namespace Mi
open PySem Mi Mi.L 
local macro_rules | `(tactic| wp_walk using $[$ts:term],*) => `(tactic| simp (disch := first | with_reducible assumption | omega | (simp only [List.length_set, List.length_append, List.length_cons, List.length_nil, List.length_map, List.length_range, List.length_replicate, Line]; omega) | (simp only [List.length_set, List.length_append, List.length_cons, List.length_nil, List.length_map, List.length_range, List.length_replicate]; done) | fail) only [au0, au1, au2, au3, au4, au5, au6, List.getElem?_map, dI, dT, List.getElem?_cons_zero, List.getElem?_cons_succ, List.set_cons_zero, List.set_cons_succ, List.map_cons, List.map_nil, List.length_cons, List.length_nil, List.cons_append, List.nil_append, List.append_nil, List.append_assoc, List.reduceReplicate, List.length_set, List.set_set, List.length_append, List.length_map, List.length_range, List.length_replicate, decide_true, decide_false, decide_eq_true_eq, Bool.not_eq_true', decide_eq_false_iff_not, Bool.true_and, Bool.false_and, Bool.not_true, Bool.not_false, Bool.false_eq_true, if_true, if_false, Int.toNat_natCast, Int.reduceToNat, Int.reducePow, Int.reduceMul, Int.reduceAdd, Int.reduceSub, Int.reduceNeg, Int.reduceLT, Int.reduceLE, Nat.sub_self, Nat.add_sub_cancel_left, Nat.reduceAdd, Nat.reduceSub, Nat.reduceLT, Nat.reduceLeDiff, Int.cast_ofNat_Int, true_or, or_true, true_and, and_true, $[$ts:term],*])
structure RingI (to : Nat → Option Nat) (s : Nat) (row : List Nat) (here : Nat) : Prop where
  ne : 0 < row.length
  ch : ∀ i, i + 1 < row.length → to row[i]! = some row[i + 1]!
  last : to row[row.length - 1]! = some here
  first : row[0]! = s
  gt : ∀ x ∈ row, x = s ∨ s < x
theorem ringGo_I {to : Nat → Option Nat} {s : Nat} : ∀ (f : Nat) (row : List Nat) (here : Nat), RingI to s row here → RingI to s (ringGo to s f row here).1 (ringGo to s f row here).2
  | 0, row, here, h => h
  | f + 1, row, here, h => by
    rw [ringGo]
    by_cases hc : s < here ∧ here ∉ row
    · rw [if_pos hc]
      cases ht : to here with
      | none => exact h
      | some t =>
        have hg : ∀ i, i < row.length → (row ++ [here])[i]! = row[i]! := fun i hi => by
          rw [getElem!_pos (row ++ [here]) i (by simp; omega), List.getElem_append_left hi, ← getElem!_pos row i hi]
        have hl : (row ++ [here])[row.length]! = here := by
          rw [getElem!_pos (row ++ [here]) row.length (by simp), List.getElem_append_right (Nat.le_refl _)]
          simp
        have h0 := h.ne
        refine ringGo_I f (row ++ [here]) t ⟨by simp, fun i hi => ?_, ?_, ?_, fun x hx => ?_⟩
        · rw [List.length_append, List.length_singleton] at hi
          rw [hg i (by omega)]
          by_cases h1 : i + 1 < row.length
          · rw [hg (i + 1) h1]
            exact h.ch i h1
          · have : i + 1 = row.length := by omega
            rw [this, hl, ← h.last]
            congr 2
            omega
        · rw [List.length_append, List.length_singleton, Nat.add_sub_cancel, hl]
          exact ht
        · rw [hg 0 h0]
          exact h.first
        · rcases List.mem_append.mp hx with hx | hx
          · exact h.gt x hx
          · rw [List.mem_singleton.mp hx]
            exact .inr hc.1
    · rw [if_neg hc]
      exact h
theorem ringAt_I {to : Nat → Option Nat} {n s : Nat} {r : List Nat} (h : ringAt to n s = some r) : RingI to s r s := by
  unfold ringAt at h
  cases ht : to s with
  | none => rw [ht] at h; cases h
  | some t =>
    rw [ht] at h
    dsimp only at h
    split at h
    · rename_i hc
      cases h
      have := ringGo_I n [s] t (to := to) (s := s) ⟨by simp, fun i hi => absurd hi (by simp), by simpa using ht, by simp, fun x hx => .inl (by simpa using hx)⟩
      rw [hc] at this
      exact this
    · cases h
theorem RingI.next {to : Nat → Option Nat} {s : Nat} {r : List Nat} (h : RingI to s r s) (hn : r.Nodup) {x : Nat} (hx : x ∈ r) : to x = some (nxtR r x) := by
  have hil := List.idxOf_lt_length_iff.mpr hx
  have hxi : r[r.idxOf x]! = x := by rw [getElem!_pos r _ hil]; exact List.getElem_idxOf _
  have h0 := h.ne
  unfold nxtR
  rw [if_pos hx]
  generalize r.idxOf x = i at *
  have hl : i < (r.drop 1 ++ r.take 1).length := by rw [List.length_append, List.length_drop, List.length_take]; omega
  rw [getElem!_pos (r.drop 1 ++ r.take 1) i hl]
  by_cases h1 : i + 1 < r.length
  · rw [List.getElem_append_left (by rw [List.length_drop]; omega), List.getElem_drop]
    have := h.ch i h1
    rw [hxi, getElem!_pos r (i + 1) h1] at this
    rw [this]
    congr 2
    omega
  · have e : i = r.length - 1 := by omega
    rw [List.getElem_append_right (by rw [List.length_drop]; omega)]
    have := h.last
    rw [← e, hxi] at this
    rw [this, List.getElem_take, ← h.first, getElem!_pos r 0 h0]
    congr 2
    rw [List.length_drop]
    omega
section
variable {n m : Nat} {P os : List (List Nat)} {row : Row} {ks : List Nat}
theorem behind_in (hrow : Has n row ks) {r : List Nat} (hr : r ∈ ringsF (stepF P os row) n) {x : Nat} (hx : x ∈ r) : ∃ k u, nextO P os row x = some k ∧ (behindF row r)[x]! = some k ∧ u < n ∧ row[u]! = some k ∧ P[k]!.idxOf x < P[k]!.idxOf u := by
  have hto : ∀ s t, stepF P os row s = some t → t < n := fun s t h => by have := stepF_lt h; have := hrow.len; omega
  obtain ⟨h1, h2, h3⟩ := ringsF_mem hto hr
  obtain ⟨s, hs, hrs⟩ := List.mem_filterMap.mp hr
  have hn := (ringAt_I hrs).next h1 hx
  unfold stepF at hn
  obtain ⟨k, hk, e⟩ := Option.map_eq_some_iff.mp hn
  have hmem := (nextO_mem hk).1
  have hcand : candB P row x k = true := by
    unfold nextO at hk
    cases hr : row[x]! with
    | none => rw [hr] at hk; cases hk
    | some a =>
      rw [hr] at hk
      exact List.find?_some hk
  obtain ⟨u, hu, eu, hlt⟩ := candB_iff.mp hcand
  refine ⟨k, u, hk, ?_, by rw [← hrow.len]; exact hu, eu, hlt⟩
  rw [behindF_at h1 (fun x hx => by rw [hrow.len]; exact h2 x hx), ← e]
  have hl := List.idxOf_lt_length_iff.mpr hmem
  rw [getElem!_pos row _ hl]
  exact List.getElem_idxOf _
theorem behind_out {r : List Nat} (hrow : Has n row ks) (hr : r ∈ ringsF (stepF P os row) n) {x : Nat} (hx : x ∉ r) : (behindF row r)[x]! = row[x]! := by
  have hto : ∀ s t, stepF P os row s = some t → t < n := fun s t h => by have := stepF_lt h; have := hrow.len; omega
  obtain ⟨h1, h2, h3⟩ := ringsF_mem hto hr
  rw [behindF_at h1 (fun x hx => by rw [hrow.len]; exact h2 x hx)]
  unfold nxtR
  rw [if_neg hx]
theorem behind_has (hrow : Has n row ks) {r : List Nat} (hr : r ∈ ringsF (stepF P os row) n) : Has n (behindF row r) ks := by
  have hto : ∀ s t, stepF P os row s = some t → t < n := fun s t h => by have := stepF_lt h; have := hrow.len; omega
  obtain ⟨h1, h2, h3⟩ := ringsF_mem hto hr
  exact hrow.behind h1 h2
theorem behind_st (hP : Probes n P) (hm : P.length = m) (hO : Ords n m os) (hrow : Has n row ks) (hk : ∀ k ∈ ks, k < m) (hS : St n P (tabs os) row) {r : List Nat} (hr : r ∈ ringsF (stepF P os row) n) : St n P (tabs os) (behindF row r) := by
  have hkb := hrow.kb hk
  have hH := behind_has hrow hr
  intro s k hs e t ht
  -- the slot before
  obtain ⟨u, hu, eu, hle⟩ : ∃ u, u < n ∧ row[u]! = some k ∧ P[k]!.idxOf s ≤ P[k]!.idxOf u := by
    by_cases hsr : s ∈ r
    · obtain ⟨k', u, _, e1, h2, h3, h4⟩ := behind_in hrow hr hsr
      rw [e] at e1
      cases e1
      exact ⟨u, h2, h3, by omega⟩
    · rw [behind_out hrow hr hsr] at e
      exact ⟨s, hs, e, Nat.le_refl _⟩
  have hkm := hkb u k hu eu
  have hkP : k < P.length := by omega
  have htn := hP.lt hkP (List.mem_of_mem_take ht)
  have hlt := (mem_takeI (hP.nd hkP) (hP.mem hkP htn)).mp ht
  obtain ⟨c0, e0, b0⟩ := hS u k hu eu t ((mem_takeI (hP.nd hkP) (hP.mem hkP htn)).mpr (by omega))
  by_cases htr : t ∈ r
  · obtain ⟨c, v, hnx, e1, hv, ev, _⟩ := behind_in hrow hr htr
    refine ⟨c, e1, ?_⟩
    have hcm := hkb v c hv ev
    have hc0m := hkb t c0 htn e0
    obtain ⟨g1, g2⟩ := hO.at htn
    have hnd : os[t]!.Nodup := g1.nodup_iff.mpr List.nodup_range
    have hck : c ≠ k := fun z => by
      subst z
      have := hH.inj s t c hs htn e e1
      subst this
      omega
    unfold nextO at hnx
    rw [e0] at hnx
    dsimp only at hnx
    obtain ⟨_, as, bs, hsp, hno⟩ := List.find?_eq_some_iff_append.mp hnx
    rw [tabs_bang hO htn hc0m, mem_beats g1 (by omega)] at b0
    have hko : k ∈ os[t]! := g1.mem_iff.mpr (List.mem_range.mpr (by omega))
    have hkd : k ∈ os[t]!.drop (os[t]!.idxOf c0 + 1) := by
      have h3 : k ∈ os[t]!.take (os[t]!.idxOf c0 + 1) ∨ k ∈ os[t]!.drop (os[t]!.idxOf c0 + 1) := by
        rw [← List.mem_append, List.take_append_drop]
        exact hko
      rcases h3 with h3 | h3
      · have := (mem_takeI hnd hko).mp h3
        omega
      · exact h3
    rw [hsp, List.mem_append, List.mem_cons] at hkd
    have hkc : candB P row t k = true := candB_iff.mpr ⟨u, by rw [hrow.len]; exact hu, eu, by omega⟩
    rw [tabs_bang hO htn hcm, mem_beats g1 (by omega)]
    have hsplit : os[t]! = (os[t]!.take (os[t]!.idxOf c0 + 1) ++ as) ++ c :: bs := by
      rw [List.append_assoc, ← hsp, List.take_append_drop]
    rcases hkd with h | h | h
    · have := hno k h
      rw [hkc] at this
      cases this
    · exact absurd h.symm hck
    · have hn2 := hnd
      rw [hsplit, List.nodup_append, List.nodup_cons] at hn2
      obtain ⟨_, ⟨hcb, _⟩, hdis⟩ := hn2
      have hca : c ∉ os[t]!.take (os[t]!.idxOf c0 + 1) ++ as := fun z => hdis c z c (by simp) rfl
      have hka : k ∉ os[t]!.take (os[t]!.idxOf c0 + 1) ++ as := fun z => hdis k z k (by simp [h]) rfl
      generalize os[t]!.take (os[t]!.idxOf c0 + 1) ++ as = pre at *
      have hb : (c == k) = false := by simpa using hck
      rw [hsplit, List.idxOf_append, if_neg hca, List.idxOf_append, if_neg hka, List.idxOf_cons_self, List.idxOf_cons, hb]
      show 0 + pre.length < (bs.idxOf k + 1) + pre.length
      omega
  · exact ⟨c0, by rw [behind_out hrow hr htr]; exact e0, b0⟩
end
end Mi
end
section
namespace Mi
open PySem Mi Mi.L 
local macro_rules | `(tactic| wp_walk using $[$ts:term],*) => `(tactic| simp (disch := first | with_reducible assumption | omega | (simp only [List.length_set, List.length_append, List.length_cons, List.length_nil, List.length_map, List.length_range, List.length_replicate, Line]; omega) | (simp only [List.length_set, List.length_append, List.length_cons, List.length_nil, List.length_map, List.length_range, List.length_replicate]; done) | fail) only [au0, au1, au2, au3, au4, au5, au6, List.getElem?_map, dI, dT, List.getElem?_cons_zero, List.getElem?_cons_succ, List.set_cons_zero, List.set_cons_succ, List.map_cons, List.map_nil, List.length_cons, List.length_nil, List.cons_append, List.nil_append, List.append_nil, List.append_assoc, List.reduceReplicate, List.length_set, List.set_set, List.length_append, List.length_map, List.length_range, List.length_replicate, decide_true, decide_false, decide_eq_true_eq, Bool.not_eq_true', decide_eq_false_iff_not, Bool.true_and, Bool.false_and, Bool.not_true, Bool.not_false, Bool.false_eq_true, if_true, if_false, Int.toNat_natCast, Int.reduceToNat, Int.reducePow, Int.reduceMul, Int.reduceAdd, Int.reduceSub, Int.reduceNeg, Int.reduceLT, Int.reduceLE, Nat.sub_self, Nat.add_sub_cancel_left, Nat.reduceAdd, Nat.reduceSub, Nat.reduceLT, Nat.reduceLeDiff, Int.cast_ofNat_Int, true_or, or_true, true_and, and_true, $[$ts:term],*])
section
variable {n m : Nat} {P : List (List Nat)} {T : List (List (List Nat))} {ks : List Nat}
def slotK (M : Row) (k : Nat) : Nat := M.idxOf (some k)
def pick (P : List (List Nat)) (M1 M2 : Row) (late : Bool) (k : Nat) : Nat := if late = decide (P[k]!.idxOf (slotK M1 k) ≤ P[k]!.idxOf (slotK M2 k)) then slotK M2 k else slotK M1 k
structure Stab (n m : Nat) (P : List (List Nat)) (T : List (List (List Nat))) (ks : List Nat) (M : Row) : Prop where
  has : Has n M ks
  st : St n P T M
variable (hP : Probes n P) (hm : P.length = m) (hE : Even n m T) (hn : n ≤ 90) (hn0 : 0 < n) (hnd : ks.Nodup) (hk : ∀ k ∈ ks, k < m) (hl : ks.length ≤ n)
include hP hm hE hn hn0 hnd hk hl
variable {M1 M2 : Row} (h1 : Stab n m P T ks M1) (h2 : Stab n m P T ks M2)
include h1 h2
end
end Mi
end
section
namespace Mi.L
open PySem Mi
noncomputable section
end
end Mi.L
end
section
namespace Mi
open PySem Mi Mi.L 
local macro_rules | `(tactic| wp_walk using $[$ts:term],*) => `(tactic| simp (disch := first | with_reducible assumption | omega | (simp only [List.length_set, List.length_append, List.length_cons, List.length_nil, List.length_map, List.length_range, List.length_replicate, Line]; omega) | (simp only [List.length_set, List.length_append, List.length_cons, List.length_nil, List.length_map, List.length_range, List.length_replicate]; done) | fail) only [au0, au1, au2, au3, au4, au5, au6, List.getElem?_map, dI, dT, List.getElem?_cons_zero, List.getElem?_cons_succ, List.set_cons_zero, List.set_cons_succ, List.map_cons, List.map_nil, List.length_cons, List.length_nil, List.cons_append, List.nil_append, List.append_nil, List.append_assoc, List.reduceReplicate, List.length_set, List.set_set, List.length_append, List.length_map, List.length_range, List.length_replicate, decide_true, decide_false, decide_eq_true_eq, Bool.not_eq_true', decide_eq_false_iff_not, Bool.true_and, Bool.false_and, Bool.not_true, Bool.not_false, Bool.false_eq_true, if_true, if_false, Int.toNat_natCast, Int.reduceToNat, Int.reducePow, Int.reduceMul, Int.reduceAdd, Int.reduceSub, Int.reduceNeg, Int.reduceLT, Int.reduceLE, Nat.sub_self, Nat.add_sub_cancel_left, Nat.reduceAdd, Nat.reduceSub, Nat.reduceLT, Nat.reduceLeDiff, Int.cast_ofNat_Int, true_or, or_true, true_and, and_true, $[$ts:term],*])
section
variable {n m : Nat} {P : List (List Nat)} {T : List (List (List Nat))} {ks : List Nat} {M1 M2 : Row}
variable (hP : Probes n P) (hm : P.length = m) (hE : Even n m T) (hn : n ≤ 90) (hn0 : 0 < n) (hnd : ks.Nodup) (hk : ∀ k ∈ ks, k < m) (hl : ks.length ≤ n) (h1 : Stab n m P T ks M1) (h2 : Stab n m P T ks M2)
include hP hm hE hn hn0 hnd hk hl h1 h2
end
end Mi
end
section
namespace Mi
open PySem Mi Mi.L 
local macro_rules | `(tactic| wp_walk using $[$ts:term],*) => `(tactic| simp (disch := first | with_reducible assumption | omega | (simp only [List.length_set, List.length_append, List.length_cons, List.length_nil, List.length_map, List.length_range, List.length_replicate, Line]; omega) | (simp only [List.length_set, List.length_append, List.length_cons, List.length_nil, List.length_map, List.length_range, List.length_replicate]; done) | fail) only [au0, au1, au2, au3, au4, au5, au6, List.getElem?_map, dI, dT, List.getElem?_cons_zero, List.getElem?_cons_succ, List.set_cons_zero, List.set_cons_succ, List.map_cons, List.map_nil, List.length_cons, List.length_nil, List.cons_append, List.nil_append, List.append_nil, List.append_assoc, List.reduceReplicate, List.length_set, List.set_set, List.length_append, List.length_map, List.length_range, List.length_replicate, decide_true, decide_false, decide_eq_true_eq, Bool.not_eq_true', decide_eq_false_iff_not, Bool.true_and, Bool.false_and, Bool.not_true, Bool.not_false, Bool.false_eq_true, if_true, if_false, Int.toNat_natCast, Int.reduceToNat, Int.reducePow, Int.reduceMul, Int.reduceAdd, Int.reduceSub, Int.reduceNeg, Int.reduceLT, Int.reduceLE, Nat.sub_self, Nat.add_sub_cancel_left, Nat.reduceAdd, Nat.reduceSub, Nat.reduceLT, Nat.reduceLeDiff, Int.cast_ofNat_Int, true_or, or_true, true_and, and_true, $[$ts:term],*])
section
variable {n m : Nat} {P os : List (List Nat)} {M : Row} {ks : List Nat}
def encR (M : Row) (r : List Nat) : PyData := .tuple (r.map fun s : Nat => .tuple [.int (s : Nat), dO M[s]!, dO (behindF M r)[s]!])
inductive Trail (P os : List (List Nat)) (n : Nat) : Row → List PyData → Row → Prop
  | nil (M : Row) : Trail P os n M [] M
  | cons {M N : Row} {l : List PyData} {r : List Nat} : r ∈ ringsF (stepF P os M) n → Trail P os n (behindF M r) l N → Trail P os n M (encR M r :: l) N
theorem Trail.snoc {M N : Row} {l : List PyData} (h : Trail P os n M l N) : ∀ {r : List Nat}, r ∈ ringsF (stepF P os N) n → Trail P os n M (l ++ [encR N r]) (behindF N r) := by
  induction h with
  | nil M => exact fun hr => .cons hr (.nil _)
  | cons hr0 _ ih => exact fun hr => .cons hr0 (ih hr)
theorem Trail.has {M N : Row} {l : List PyData} (h : Trail P os n M l N) : Has n M ks → Has n N ks := by
  induction h with
  | nil M => exact id
  | cons hr _ ih => exact fun hM => ih (behind_has hM hr)
theorem Trail.st (hP : Probes n P) (hm : P.length = m) (hO : Ords n m os) (hk : ∀ k ∈ ks, k < m) {M N : Row} {l : List PyData} (h : Trail P os n M l N) : Stab n m P (tabs os) ks M → Stab n m P (tabs os) ks N := by
  induction h with
  | nil M => exact id
  | cons hr _ ih => exact fun hM => ih ⟨behind_has hM.has hr, behind_st hP hm hO hM.has hk hM.st hr⟩
end
end Mi
end
section
namespace Mi
open PySem Mi Mi.L 
local macro_rules | `(tactic| wp_walk using $[$ts:term],*) => `(tactic| simp (disch := first | with_reducible assumption | omega | (simp only [List.length_set, List.length_append, List.length_cons, List.length_nil, List.length_map, List.length_range, List.length_replicate, Line]; omega) | (simp only [List.length_set, List.length_append, List.length_cons, List.length_nil, List.length_map, List.length_range, List.length_replicate]; done) | fail) only [au0, au1, au2, au3, au4, au5, au6, List.getElem?_map, dI, dT, List.getElem?_cons_zero, List.getElem?_cons_succ, List.set_cons_zero, List.set_cons_succ, List.map_cons, List.map_nil, List.length_cons, List.length_nil, List.cons_append, List.nil_append, List.append_nil, List.append_assoc, List.reduceReplicate, List.length_set, List.set_set, List.length_append, List.length_map, List.length_range, List.length_replicate, decide_true, decide_false, decide_eq_true_eq, Bool.not_eq_true', decide_eq_false_iff_not, Bool.true_and, Bool.false_and, Bool.not_true, Bool.not_false, Bool.false_eq_true, if_true, if_false, Int.toNat_natCast, Int.reduceToNat, Int.reducePow, Int.reduceMul, Int.reduceAdd, Int.reduceSub, Int.reduceNeg, Int.reduceLT, Int.reduceLE, Nat.sub_self, Nat.add_sub_cancel_left, Nat.reduceAdd, Nat.reduceSub, Nat.reduceLT, Nat.reduceLeDiff, Int.cast_ofNat_Int, true_or, or_true, true_and, and_true, $[$ts:term],*])
section
variable {n m : Nat} {P os : List (List Nat)} {M b : Row} {ks : List Nat}
end
end Mi
end
section
namespace Mi
open PySem
end Mi
end
section
namespace Mi.L
open PySem Mi
noncomputable section
end
end Mi.L
end
section
namespace Mi.L
open PySem Mi
noncomputable section
end
end Mi.L
end
section
namespace Mi
open PySem Mi Mi.L 
local macro_rules | `(tactic| wp_walk using $[$ts:term],*) => `(tactic| simp (disch := first | with_reducible assumption | omega | (simp only [List.length_set, List.length_append, List.length_cons, List.length_nil, List.length_map, List.length_range, List.length_replicate, Line]; omega) | (simp only [List.length_set, List.length_append, List.length_cons, List.length_nil, List.length_map, List.length_range, List.length_replicate]; done) | fail) only [au0, au1, au2, au3, au4, au5, au6, List.getElem?_map, dI, dT, List.getElem?_cons_zero, List.getElem?_cons_succ, List.set_cons_zero, List.set_cons_succ, List.map_cons, List.map_nil, List.length_cons, List.length_nil, List.cons_append, List.nil_append, List.append_nil, List.append_assoc, List.reduceReplicate, List.length_set, List.set_set, List.length_append, List.length_map, List.length_range, List.length_replicate, decide_true, decide_false, decide_eq_true_eq, Bool.not_eq_true', decide_eq_false_iff_not, Bool.true_and, Bool.false_and, Bool.not_true, Bool.not_false, Bool.false_eq_true, if_true, if_false, Int.toNat_natCast, Int.reduceToNat, Int.reducePow, Int.reduceMul, Int.reduceAdd, Int.reduceSub, Int.reduceNeg, Int.reduceLT, Int.reduceLE, Nat.sub_self, Nat.add_sub_cancel_left, Nat.reduceAdd, Nat.reduceSub, Nat.reduceLT, Nat.reduceLeDiff, Int.cast_ofNat_Int, true_or, or_true, true_and, and_true, $[$ts:term],*])
end Mi
end
section
namespace Mi
open PySem Mi Mi.L 
local macro_rules | `(tactic| wp_walk using $[$ts:term],*) => `(tactic| simp (disch := first | with_reducible assumption | omega | (simp only [List.length_set, List.length_append, List.length_cons, List.length_nil, List.length_map, List.length_range, List.length_replicate, Line]; omega) | (simp only [List.length_set, List.length_append, List.length_cons, List.length_nil, List.length_map, List.length_range, List.length_replicate]; done) | fail) only [au0, au1, au2, au3, au4, au5, au6, List.getElem?_map, dI, dT, List.getElem?_cons_zero, List.getElem?_cons_succ, List.set_cons_zero, List.set_cons_succ, List.map_cons, List.map_nil, List.length_cons, List.length_nil, List.cons_append, List.nil_append, List.append_nil, List.append_assoc, List.reduceReplicate, List.length_set, List.set_set, List.length_append, List.length_map, List.length_range, List.length_replicate, decide_true, decide_false, decide_eq_true_eq, Bool.not_eq_true', decide_eq_false_iff_not, Bool.true_and, Bool.false_and, Bool.not_true, Bool.not_false, Bool.false_eq_true, if_true, if_false, Int.toNat_natCast, Int.reduceToNat, Int.reducePow, Int.reduceMul, Int.reduceAdd, Int.reduceSub, Int.reduceNeg, Int.reduceLT, Int.reduceLE, Nat.sub_self, Nat.add_sub_cancel_left, Nat.reduceAdd, Nat.reduceSub, Nat.reduceLT, Nat.reduceLeDiff, Int.cast_ofNat_Int, true_or, or_true, true_and, and_true, $[$ts:term],*])
end Mi
end
section
namespace Mi
open PySem Mi Mi.L 
local macro_rules | `(tactic| wp_walk using $[$ts:term],*) => `(tactic| simp (disch := first | with_reducible assumption | omega | (simp only [List.length_set, List.length_append, List.length_cons, List.length_nil, List.length_map, List.length_range, List.length_replicate, Line]; omega) | (simp only [List.length_set, List.length_append, List.length_cons, List.length_nil, List.length_map, List.length_range, List.length_replicate]; done) | fail) only [au0, au1, au2, au3, au4, au5, au6, List.getElem?_map, dI, dT, List.getElem?_cons_zero, List.getElem?_cons_succ, List.set_cons_zero, List.set_cons_succ, List.map_cons, List.map_nil, List.length_cons, List.length_nil, List.cons_append, List.nil_append, List.append_nil, List.append_assoc, List.reduceReplicate, List.length_set, List.set_set, List.length_append, List.length_map, List.length_range, List.length_replicate, decide_true, decide_false, decide_eq_true_eq, Bool.not_eq_true', decide_eq_false_iff_not, Bool.true_and, Bool.false_and, Bool.not_true, Bool.not_false, Bool.false_eq_true, if_true, if_false, Int.toNat_natCast, Int.reduceToNat, Int.reducePow, Int.reduceMul, Int.reduceAdd, Int.reduceSub, Int.reduceNeg, Int.reduceLT, Int.reduceLE, Nat.sub_self, Nat.add_sub_cancel_left, Nat.reduceAdd, Nat.reduceSub, Nat.reduceLT, Nat.reduceLeDiff, Int.cast_ofNat_Int, true_or, or_true, true_and, and_true, $[$ts:term],*])
structure Okp (n m : Nat) (r : Row) : Prop where
  len : r.length = n
  nd : (r.filterMap id).Nodup
  lt : ∀ k ∈ r.filterMap id, k < m
theorem mem_fm {r : Row} {k : Nat} : k ∈ r.filterMap id ↔ some k ∈ r := by
  rw [List.mem_filterMap]
  constructor
  · rintro ⟨a, h, e⟩
    have e : a = some k := e
    rw [← e]; exact h
  · intro h
    exact ⟨some k, h, rfl⟩
theorem Okp.perm {n m : Nat} {r r' : Row} (h : Okp n m r) (p : r'.Perm r) : Okp n m r' :=
  ⟨by rw [p.length_eq, h.len], (p.filterMap id).nodup_iff.mpr h.nd, fun k hk => h.lt k ((p.filterMap id).mem_iff.mp hk)⟩
theorem Okp.has {n m : Nat} {r : Row} (h : Okp n m r) : ∃ ks, Has n r ks ∧ ∀ k ∈ ks, k < m := by
  have hl := h.len
  have hp := h.nd
  unfold List.Nodup at hp
  rw [List.pairwise_filterMap, List.pairwise_iff_getElem] at hp
  refine ⟨r.filterMap id, ⟨h.len, fun s t k hs ht e1 e2 => ?_, fun k => mem_fm.symm⟩, h.lt⟩
  rw [getElem!_pos r s (by omega)] at e1
  rw [getElem!_pos r t (by omega)] at e2
  rcases Nat.lt_trichotomy s t with hst | hst | hst
  · exact absurd rfl (hp s t (by omega) (by omega) hst k e1 k e2)
  · exact hst
  · exact absurd rfl (hp t s (by omega) (by omega) hst k e2 k e1)
theorem Has.okp {n m : Nat} {r : Row} {ks : List Nat} (h : Has n r ks) (hk : ∀ k ∈ ks, k < m) : Okp n m r := by
  have hl := h.len
  refine ⟨h.len, ?_, fun k hm => hk k ((h.keys k).mp (mem_fm.mp hm))⟩
  unfold List.Nodup
  rw [List.pairwise_filterMap, List.pairwise_iff_getElem]
  intro s t hs ht hst b e1 b' e2 hbb
  subst hbb
  have e1 : r[s] = some b := e1
  have e2 : r[t] = some b := e2
  have := h.inj s t b (by omega) (by omega) (by rw [getElem!_pos r s hs]; exact e1) (by rw [getElem!_pos r t ht]; exact e2)
  omega
end Mi
end
section
namespace Mi
open PySem Mi Mi.L 
local macro_rules | `(tactic| wp_walk using $[$ts:term],*) => `(tactic| simp (disch := first | with_reducible assumption | omega | (simp only [List.length_set, List.length_append, List.length_cons, List.length_nil, List.length_map, List.length_range, List.length_replicate, Line]; omega) | (simp only [List.length_set, List.length_append, List.length_cons, List.length_nil, List.length_map, List.length_range, List.length_replicate]; done) | fail) only [au0, au1, au2, au3, au4, au5, au6, List.getElem?_map, dI, dT, List.getElem?_cons_zero, List.getElem?_cons_succ, List.set_cons_zero, List.set_cons_succ, List.map_cons, List.map_nil, List.length_cons, List.length_nil, List.cons_append, List.nil_append, List.append_nil, List.append_assoc, List.reduceReplicate, List.length_set, List.set_set, List.length_append, List.length_map, List.length_range, List.length_replicate, decide_true, decide_false, decide_eq_true_eq, Bool.not_eq_true', decide_eq_false_iff_not, Bool.true_and, Bool.false_and, Bool.not_true, Bool.not_false, Bool.false_eq_true, if_true, if_false, Int.toNat_natCast, Int.reduceToNat, Int.reducePow, Int.reduceMul, Int.reduceAdd, Int.reduceSub, Int.reduceNeg, Int.reduceLT, Int.reduceLE, Nat.sub_self, Nat.add_sub_cancel_left, Nat.reduceAdd, Nat.reduceSub, Nat.reduceLT, Nat.reduceLeDiff, Int.cast_ofNat_Int, true_or, or_true, true_and, and_true, $[$ts:term],*])
structure OSet (n m : Nat) (P os : List (List Nat)) : Prop where
  pr : Probes n P
  pl : P.length = m
  or : Ords n m os
  n0 : 0 < n
  n90 : n ≤ 90
  m100 : m ≤ 100
structure HSet (n m : Nat) (h : List Nat) : Prop where
  nd : h.Nodup
  lt : ∀ k ∈ h, k < m
  le : h.length ≤ n
section
variable {n m : Nat} {P os : List (List Nat)} {h h' : List Nat} (Z : OSet n m P os)
include Z
theorem OSet.rw_ (H : HSet n m h) : Rw n P (rowOfH P (tabs os) n h) h := by
  have r := Rw.fold Z.pr Z.pl Z.or.even.toTabs Z.n90 Z.n0 H.nd H.lt H.le h.length (Nat.le_refl _)
  rw [List.take_length] at r
  exact r
theorem OSet.inj (H : HSet n m h) : ∀ s t k, s < (rowOfH P (tabs os) n h).length → t < (rowOfH P (tabs os) n h).length → (rowOfH P (tabs os) n h)[s]! = some k → (rowOfH P (tabs os) n h)[t]! = some k → s = t := fun s t k hs ht e1 e2 => by
  have r := Z.rw_ H
  exact r.lay.inj s t k (by have := r.len; omega) (by have := r.len; omega) e1 e2
theorem OSet.kb (H : HSet n m h) : ∀ k, some k ∈ rowOfH P (tabs os) n h → k < m := fun k z => H.lt k (((Z.rw_ H).keys k).mp z)
omit Z in
theorem HSet.snoc {k : Nat} (H : HSet n m h) (hl : h.length < n) (hk : k < m) (hn : k ∉ h) : HSet n m (h ++ [k]) := ⟨by
  rw [List.nodup_append]
  exact ⟨H.nd, by simp, fun x hx y hy z => hn (by rw [List.mem_singleton.mp hy] at z; rw [← z]; exact hx)⟩, fun x hx => by
  rcases List.mem_append.mp hx with z | z
  · exact H.lt x z
  · rw [List.mem_singleton.mp z]; exact hk, by simp; omega⟩
omit Z in
theorem HSet.erase (H : HSet n m h) (k : Nat) : HSet n m (h.erase k) := ⟨H.nd.erase k, fun x hx => H.lt x (List.mem_of_mem_erase hx), Nat.le_trans (List.length_erase_le) H.le⟩
theorem OSet.later {k : Nat} (H : HSet n m h) (hl : h.length < n) (hk : k < m) (hn : k ∉ h) : Later n P (tabs os) (rowOfH P (tabs os) n h) (rowOfH P (tabs os) n (h ++ [k])) :=
  lay1_later Z.pr Z.pl Z.or.even Z.n90 Z.n0 H.nd H.lt hl hk hn
theorem OSet.count (H : HSet n m h) : (rowOfH P (tabs os) n h).count none + h.length = n := by
  have r := Z.rw_ H
  have hH : Has n (rowOfH P (tabs os) n h) h := ⟨r.len, fun s t k hs ht e1 e2 => Z.inj H s t k (by have := r.len; omega) (by have := r.len; omega) e1 e2, r.keys⟩
  have ho := hH.okp H.lt
  have hp : ((rowOfH P (tabs os) n h).filterMap id).Perm h := (List.perm_ext_iff_of_nodup ho.nd H.nd).mpr fun k => by rw [mem_fm, r.keys]
  have key : ∀ row : Row, row.count none + (row.filterMap id).length = row.length := fun row => by
    induction row with
    | nil => rfl
    | cons x row ih =>
      cases x with
      | none =>
        rw [List.count_cons, List.filterMap_cons]
        simp only [id, List.length_cons, beq_self_eq_true, if_true]
        omega
      | some y =>
        rw [List.count_cons, List.filterMap_cons]
        simp only [id, List.length_cons]
        have : ((some y : Option Nat) == none) = false := rfl
        rw [this]
        simp only [Bool.false_eq_true, if_false]
        omega
  have := key (rowOfH P (tabs os) n h)
  rw [hp.length_eq, r.len] at this
  exact this
end
end Mi
end
section
namespace Mi
open PySem Mi Mi.L 
local macro_rules | `(tactic| wp_walk using $[$ts:term],*) => `(tactic| simp (disch := first | with_reducible assumption | omega | (simp only [List.length_set, List.length_append, List.length_cons, List.length_nil, List.length_map, List.length_range, List.length_replicate, Line]; omega) | (simp only [List.length_set, List.length_append, List.length_cons, List.length_nil, List.length_map, List.length_range, List.length_replicate]; done) | fail) only [au0, au1, au2, au3, au4, au5, au6, List.getElem?_map, dI, dT, List.getElem?_cons_zero, List.getElem?_cons_succ, List.set_cons_zero, List.set_cons_succ, List.map_cons, List.map_nil, List.length_cons, List.length_nil, List.cons_append, List.nil_append, List.append_nil, List.append_assoc, List.reduceReplicate, List.length_set, List.set_set, List.length_append, List.length_map, List.length_range, List.length_replicate, decide_true, decide_false, decide_eq_true_eq, Bool.not_eq_true', decide_eq_false_iff_not, Bool.true_and, Bool.false_and, Bool.not_true, Bool.not_false, Bool.false_eq_true, if_true, if_false, Int.toNat_natCast, Int.reduceToNat, Int.reducePow, Int.reduceMul, Int.reduceAdd, Int.reduceSub, Int.reduceNeg, Int.reduceLT, Int.reduceLE, Nat.sub_self, Nat.add_sub_cancel_left, Nat.reduceAdd, Nat.reduceSub, Nat.reduceLT, Nat.reduceLeDiff, Int.cast_ofNat_Int, true_or, or_true, true_and, and_true, $[$ts:term],*])
section
variable {n m : Nat} {P os : List (List Nat)} {ks : List Nat}
def Shut (P os : List (List Nat)) (n : Nat) (F : List Row) (A : Row) : Prop := ∀ r ∈ ringsF (stepF P os A) n, behindF A r ∈ F
structure Bf (n m : Nat) (P os : List (List Nat)) (ks : List Nat) (w0 : Row) (F W : List Row) : Prop where
  nd : F.Nodup
  st : ∀ A ∈ F, Stab n m P (tabs os) ks A
  w0 : w0 ∈ F
  sub : ∀ A ∈ W, A ∈ F
  shut : ∀ A ∈ F, A ∈ W ∨ Shut P os n F A
theorem Shut.mono {F F' : List Row} {A : Row} (h : Shut P os n F A) (hs : ∀ x ∈ F, x ∈ F') : Shut P os n F' A := fun r hr => hs _ (h r hr)
theorem Bf.all {w0 A b : Row} {F : List Row} (h : Bf n m P os ks w0 F []) {l : List PyData} (t : Trail P os n A l b) : A ∈ F → b ∈ F := by
  induction t with
  | nil M => exact id
  | cons hr _ ih => exact fun hA => ih (((h.shut _ hA).resolve_left (by simp)) _ hr)
variable (hP : Probes n P) (hm : P.length = m) (hO : Ords n m os) (hn : n ≤ 90) (hn0 : 0 < n) (hm1 : m ≤ 100) (hnd : ks.Nodup) (hk : ∀ k ∈ ks, k < m) (hl : ks.length ≤ n)
include hP hm hO hn hn0 hm1 hnd hk hl
end
end Mi
end
section
namespace Mi
open PySem Mi Mi.L 
local macro_rules | `(tactic| wp_walk using $[$ts:term],*) => `(tactic| simp (disch := first | with_reducible assumption | omega | (simp only [List.length_set, List.length_append, List.length_cons, List.length_nil, List.length_map, List.length_range, List.length_replicate, Line]; omega) | (simp only [List.length_set, List.length_append, List.length_cons, List.length_nil, List.length_map, List.length_range, List.length_replicate]; done) | fail) only [au0, au1, au2, au3, au4, au5, au6, List.getElem?_map, dI, dT, List.getElem?_cons_zero, List.getElem?_cons_succ, List.set_cons_zero, List.set_cons_succ, List.map_cons, List.map_nil, List.length_cons, List.length_nil, List.cons_append, List.nil_append, List.append_nil, List.append_assoc, List.reduceReplicate, List.length_set, List.set_set, List.length_append, List.length_map, List.length_range, List.length_replicate, decide_true, decide_false, decide_eq_true_eq, Bool.not_eq_true', decide_eq_false_iff_not, Bool.true_and, Bool.false_and, Bool.not_true, Bool.not_false, Bool.false_eq_true, if_true, if_false, Int.toNat_natCast, Int.reduceToNat, Int.reducePow, Int.reduceMul, Int.reduceAdd, Int.reduceSub, Int.reduceNeg, Int.reduceLT, Int.reduceLE, Nat.sub_self, Nat.add_sub_cancel_left, Nat.reduceAdd, Nat.reduceSub, Nat.reduceLT, Nat.reduceLeDiff, Int.cast_ofNat_Int, true_or, or_true, true_and, and_true, $[$ts:term],*])
section
variable {n m : Nat} {P : List (List Nat)} {T : List (List (List Nat))} {ks : List Nat}
end
section
variable {g : List (Nat × Cell)} {tg : Tg}
end
end Mi
end
section
namespace Mi
open PySem Mi Mi.L 
local macro_rules | `(tactic| wp_walk using $[$ts:term],*) => `(tactic| simp (disch := first | with_reducible assumption | omega | (simp only [List.length_set, List.length_append, List.length_cons, List.length_nil, List.length_map, List.length_range, List.length_replicate, Line]; omega) | (simp only [List.length_set, List.length_append, List.length_cons, List.length_nil, List.length_map, List.length_range, List.length_replicate]; done) | fail) only [au0, au1, au2, au3, au4, au5, au6, List.getElem?_map, dI, dT, List.getElem?_cons_zero, List.getElem?_cons_succ, List.set_cons_zero, List.set_cons_succ, List.map_cons, List.map_nil, List.length_cons, List.length_nil, List.cons_append, List.nil_append, List.append_nil, List.append_assoc, List.reduceReplicate, List.length_set, List.set_set, List.length_append, List.length_map, List.length_range, List.length_replicate, decide_true, decide_false, decide_eq_true_eq, Bool.not_eq_true', decide_eq_false_iff_not, Bool.true_and, Bool.false_and, Bool.not_true, Bool.not_false, Bool.false_eq_true, if_true, if_false, Int.toNat_natCast, Int.reduceToNat, Int.reducePow, Int.reduceMul, Int.reduceAdd, Int.reduceSub, Int.reduceNeg, Int.reduceLT, Int.reduceLE, Nat.sub_self, Nat.add_sub_cancel_left, Nat.reduceAdd, Nat.reduceSub, Nat.reduceLT, Nat.reduceLeDiff, Int.cast_ofNat_Int, true_or, or_true, true_and, and_true, $[$ts:term],*])
def nS (k : Nat) : Str := toString (k : Int)
theorem pStr_nS {k : Nat} (h : k < 100) : pStr (.int k) = .ok (.str (nS k)) := by
  show when_ (decide ((k : Int).natAbs.log2 < 1920)) _ = _
  have : (k : Int).natAbs.log2 < 1920 := by
    by_cases e : (k : Int).natAbs = 0
    · rw [e]; decide
    · rw [Nat.log2_lt e]
      exact Nat.lt_of_lt_of_le (show (k : Int).natAbs < 2 ^ 7 by omega) (Nat.pow_le_pow_right (by decide) (by decide))
  rw [decide_eq_true this]
  rfl
theorem nS_digits : ∀ k, k < 100 → (nS k).cps.toList.all (fun b => decide (48 ≤ b ∧ b ≤ 57)) = true := by decide +kernel
theorem nS_nd : ((List.range 100).map nS).Nodup := by decide +kernel
theorem nS_inj {a b : Nat} (ha : a < 100) (hb : b < 100) (h : nS a = nS b) : a = b := by
  have := nS_nd
  have e1 : ((List.range 100).map nS)[a]? = some (nS a) := by simp [ha]
  have e2 : ((List.range 100).map nS)[b]? = some (nS b) := by simp [hb]
  rw [h, ← e2] at e1
  exact (List.getElem?_inj (by simpa using ha) this).mp e1
theorem nS_no {k c : Nat} (h : k < 100) (hc : c < 48) : c ∉ (nS k).cps.toList := fun hm => by
  have := List.all_eq_true.mp (nS_digits k h) c hm
  have := of_decide_eq_true this
  omega
theorem nS_dash {k : Nat} (h : k < 100) : nS k ≠ "-" := fun e => by
  have := nS_no h (show 45 < 48 by decide)
  rw [e] at this
  exact this (by decide +kernel)
def numF (m : Nat) (w : Str) : Option Nat := if w ∈ (List.range m).map nS then some (((List.range m).map nS).idxOf w) else none
theorem numF_nS {m k : Nat} (hm : m ≤ 100) (h : k < m) : numF m (nS k) = some k := by
  unfold numF
  have hmem : nS k ∈ (List.range m).map nS := List.mem_map.mpr ⟨k, List.mem_range.mpr h, rfl⟩
  rw [if_pos hmem]
  congr 1
  have h1 := List.idxOf_lt_length_iff.mpr hmem
  have h2 := List.getElem_idxOf h1
  rw [List.getElem_map, List.getElem_range] at h2
  rw [List.length_map, List.length_range] at h1
  exact nS_inj (by omega) (by omega) h2
def nO : Option Nat → PyData
  | some k => .int (k : Nat)
  | none => .none
theorem eqv_str (a b : Str) : PyData.eqv (.str a) (.str b) = decide (a = b) := by
  simp only [PyData.eqv]
  exact Bool.beq_eq_decide_eq a b
theorem inItems_strs (w : Str) (ws : List Str) : inItems (.str w) (ws.map .str) = decide (w ∈ ws) := by
  unfold inItems
  rw [Bool.eq_iff_iff, List.any_eq_true, decide_eq_true_eq]
  constructor
  · rintro ⟨x, hx, e⟩
    obtain ⟨y, hy, rfl⟩ := List.mem_map.mp hx
    rw [eqv_str, decide_eq_true_eq] at e
    rwa [← e]
  · exact fun h => ⟨_, List.mem_map.mpr ⟨w, h, rfl⟩, by rw [eqv_str]; exact decide_eq_true rfl⟩
theorem fl_str (w : Str) : Fl1 (.str w) := ⟨rfl, by rw [PyData.depth]; omega⟩
theorem fl_none : Fl1 .none := ⟨rfl, by rw [PyData.depth]; omega⟩
theorem flat1 {d : PyData} (h : Fl1 d) : flat? d = true := by
  unfold flat?
  rw [h.1, Bool.true_and]
  exact decide_eq_true (by have := h.2; omega)
theorem pIn_strs (w : Str) (ws : List Str) : pIn (.str w) (.list (ws.map .str)) = .ok (.bool (decide (w ∈ ws))) := by
  show when_ (flat? (.str w) && flat? (.list (ws.map .str))) _ = _
  rw [flat1 (fl_str w), flat_l (fun x hx => by obtain ⟨y, _, rfl⟩ := List.mem_map.mp hx; exact fl_str y), inItems_strs]
  rfl
theorem pIndex_strs {w : Str} {ws : List Str} (h : w ∈ ws) : pIndex (.list (ws.map .str)) (.str w) = .ok (.int (ws.idxOf w : Nat)) := by
  show bx (orNo ((some (ws.map PyData.str)).bind strs?)) _ = _
  rw [Option.bind_some, strs_map]
  show when_ (decide (w ∈ ws)) _ = _
  rw [decide_eq_true h]
  rfl
section
variable {S : Store}
theorem known_ok {m : Nat} (hm : m ≤ 100) (t1 t2 t3 : Option D) (S : Store) : compL [3] (gN 3) tYes (mO1 pStr (mV 3)) [] [t1, t2, t3, none] ((List.range m).map dI) [] S = .ok (.p (.list (((List.range m).map nS).map .str)), S) := by
  have := comp_val (own := [3]) (tg := gN 3) (elt := mO1 pStr (mV 3)) (g := []) (σ := [t1, t2, t3, none]) (S := S) dI (fun k => .str (nS k)) (xs := List.range m) (stand_nil _) fun k hk acc => by
    have := pStr_nS (k := k) (by have := List.mem_range.mp hk; omega)
    wp_walk using wipe, this
  rw [List.map_map]
  exact this
theorem number_in_ok {m : Nat} (hm : m ≤ 100) (w : Str) (S : Store) : f_number_in [.p (.str w), .p (.int m)] S = .ok (.p (nO (numF m w)), S) := by
  have k1 := fun t1 t2 t3 S => known_ok hm t1 t2 t3 S
  refine fn_rn rfl ?_
  unfold b_number_in
  have e1 := pIn_strs w ((List.range m).map nS)
  by_cases h : w ∈ (List.range m).map nS
  · have e2 := pIndex_strs h
    rw [decide_eq_true h] at e1
    have e3 : numF m w = some (((List.range m).map nS).idxOf w) := by unfold numF; rw [if_pos h]
    rw [e3]
    unfold nO
    generalize (List.range m).map nS = K at *
    wp_walk using k1, e1, e2
  · rw [decide_eq_false h] at e1
    have e3 : numF m w = none := by unfold numF; rw [if_neg h]
    rw [e3]
    unfold nO
    generalize (List.range m).map nS = K at *
    wp_walk using k1, e1
end
end Mi
end
section
namespace Mi
open PySem
open PySem.StrLaws PySem.Builtin PySem.Builtin.Str
def cutL (c : Nat) : List Nat → List (List Nat)
  | [] => [[]]
  | a :: r => if a = c then [] :: cutL c r else match cutL c r with
    | w :: ws => (a :: w) :: ws
    | [] => [[a]]
def mkS (l : List Nat) : Str := ⟨l.toArray⟩
theorem mkS_cps (x : Str) : mkS x.cps.toList = x := by
  apply Str.ext'
  apply Array.toList_inj.mp
  simp [mkS]
theorem mkS_inj {a b : List Nat} (h : mkS a = mkS b) : a = b := by
  have := congrArg (fun s : Str => s.cps.toList) h
  simpa [mkS] using this
theorem sub_mk (x : Str) (i j : Nat) : strSub x i j = mkS ((x.cps.toList.drop i).take (j - i)) := by
  rw [← mkS_cps (strSub x i j), strSub_toList]
theorem occ_all (x : Str) (c lim : Nat) : ∀ (m a : Nat) (st : Array Nat × Nat), st.2 ≤ a → st.1.size ≤ a → a + m ≤ lim →
    (forIn (List.range' a m) st (occBody x ⟨#[c]⟩ x.length lim)).run.1.toList = st.1.toList ++ (List.range' a m).filter (fun i => x.cps.toList[i]? == some c)
  | 0, a, st, h1, h2, h3 => by simp
  | m + 1, a, st, h1, h2, h3 => by
    rw [List.range'_succ, List.forIn_cons]
    by_cases h : x.cps.toList[a]? = some c
    · have hs := (subAt_one x c a).mpr h
      unfold occBody
      rw [if_pos ⟨⟨⟨by omega, h1⟩, hs.1⟩, hs.2⟩]
      refine (occ_all x c lim m (a + 1) (st.1.push a, a + 1) (Nat.le_refl _) (by rw [Array.size_push]; omega) (by omega)).trans ?_
      rw [List.filter_cons_of_pos (by rw [h]; exact beq_self_eq_true _), Array.toList_push, List.append_assoc]
      rfl
    · have hs : ¬ (((st.1.size < lim ∧ st.2 ≤ a) ∧ a + (⟨#[c]⟩ : Str).length ≤ x.length) ∧ subAt x ⟨#[c]⟩ a = true) := fun z => h ((subAt_one x c a).mp ⟨z.1.2, z.2⟩)
      unfold occBody
      rw [if_neg hs]
      refine (occ_all x c lim m (a + 1) (st.1, st.2) (by simp only []; omega) (by simp only []; omega) (by omega)).trans ?_
      rw [List.filter_cons_of_neg (by rw [beq_iff_eq]; exact h)]
theorem parts_head (x : Str) (a v : Nat) (hv : x.cps.toList[a]? = some v) (cuts : List Nat) (hc : ∀ i ∈ cuts, a + 1 ≤ i) (hx : a + 1 ≤ x.length) :
    ∃ w ws, partsFrom x 1 (a + 1) cuts = mkS w :: ws ∧ partsFrom x 1 a cuts = mkS (v :: w) :: ws := by
  have hd : x.cps.toList.drop a = v :: x.cps.toList.drop (a + 1) := by
    obtain ⟨hl, e⟩ := List.getElem?_eq_some_iff.mp hv
    rw [List.drop_eq_getElem_cons hl, e]
  have key : ∀ e, a + 1 ≤ e → strSub x a e = mkS (v :: (x.cps.toList.drop (a + 1)).take (e - (a + 1))) := fun e he => by
    rw [sub_mk, hd]
    have : e - a = (e - (a + 1)) + 1 := by omega
    rw [this, List.take_succ_cons]
  cases cuts with
  | nil => exact ⟨_, [], by rw [partsFrom, sub_mk], by rw [partsFrom, key _ hx]⟩
  | cons i r => exact ⟨_, partsFrom x 1 (i + 1) r, by rw [partsFrom, sub_mk], by rw [partsFrom, key _ (hc i (by simp))]⟩
theorem parts_cut (x : Str) (c : Nat) : ∀ (m a : Nat), a + m = x.length →
    partsFrom x 1 a ((List.range' a (m + 1)).filter fun i => x.cps.toList[i]? == some c) = (cutL c (x.cps.toList.drop a)).map mkS
  | 0, a, h => by
    have hn : x.cps.toList[a]? = none := List.getElem?_eq_none (by simp only [Array.length_toList]; unfold Str.length at h; omega)
    have hd : x.cps.toList.drop a = [] := List.drop_eq_nil_of_le (by simp only [Array.length_toList]; unfold Str.length at h; omega)
    rw [List.range'_succ, List.filter_cons_of_neg (by rw [hn]; exact Bool.false_ne_true)]
    show partsFrom x 1 a [] = _
    rw [partsFrom, sub_mk, hd, cutL, List.take_nil]
    rfl
  | m + 1, a, h => by
    have hl : a < x.cps.toList.length := by simp only [Array.length_toList]; unfold Str.length at h; omega
    have hv : x.cps.toList[a]? = some x.cps.toList[a] := List.getElem?_eq_getElem hl
    have hd : x.cps.toList.drop a = x.cps.toList[a] :: x.cps.toList.drop (a + 1) := List.drop_eq_getElem_cons hl
    have ih := parts_cut x c m (a + 1) (by omega)
    rw [List.range'_succ, hd]
    by_cases e : x.cps.toList[a] = c
    · rw [List.filter_cons_of_pos (by rw [hv, e]; exact beq_self_eq_true _), partsFrom, ih, cutL, if_pos e, List.map_cons, sub_mk, Nat.sub_self, List.take_zero]
    · rw [List.filter_cons_of_neg (by rw [hv, beq_iff_eq]; exact fun z => e (Option.some.inj z))]
      obtain ⟨w, ws, e1, e2⟩ := parts_head x a _ hv ((List.range' (a + 1) (m + 1)).filter fun i => x.cps.toList[i]? == some c)
        (fun i hi => (List.mem_range'_1.mp (List.mem_filter.mp hi).1).1) (by omega)
      rw [e2, cutL, if_neg e]
      rw [e1] at ih
      cases hcu : cutL c (x.cps.toList.drop (a + 1)) with
      | nil => rw [hcu] at ih; cases ih
      | cons u us =>
        rw [hcu, List.map_cons, List.cons.injEq] at ih
        rw [List.map_cons, mkS_inj ih.1, ih.2]
theorem kind_one {c : Nat} (h : c < 256) : Str.strKind ⟨#[c]⟩ = 1 := by
  unfold Str.strKind
  rw [if_pos (by simp [h])]
theorem kind_pos (x : Str) : 1 ≤ Str.strKind x := by
  unfold Str.strKind
  split
  · decide
  · split <;> decide
theorem split_one (x : Str) {c : Nat} (hc : c < 256) : Txt.split x ⟨#[c]⟩ = (cutL c x.cps.toList).map mkS := by
  have ho : occurrences x ⟨#[c]⟩ 0 x.length (x.length + 1) = (List.range' 0 (x.length + 1)).filter (fun i => x.cps.toList[i]? == some c) := by
    rw [occ_eq, Nat.sub_zero]
    exact (occ_all x c (x.length + 1) (x.length + 1) 0 (#[], 0) (Nat.le_refl _) (Nat.le_refl _) (by omega)).trans rfl
  have hp := parts_cut x c x.length 0 (by omega)
  rw [List.drop_zero, ← ho] at hp
  have hself : partsFrom x 1 0 [] = [x] := by
    rw [partsFrom, sub_whole]
  unfold Txt.split
  rw [kind_one hc]
  have hk := kind_pos x
  split
  · rename_i h
    rw [Bool.or_eq_true, decide_eq_true_eq, decide_eq_true_eq] at h
    have hl : x.length = 0 := by
      rcases h with h | h
      · have : (⟨#[c]⟩ : Str).length = 1 := rfl
        omega
      · omega
    have he : x.cps.toList = [] := List.length_eq_zero_iff.mp (by simp only [Array.length_toList]; exact hl)
    rw [he, cutL]
    show [x] = [mkS []]
    rw [← he, mkS_cps]
  · split
    · rename_i h
      rw [List.isEmpty_iff.mp h, hself] at hp
      exact hp
    · rw [partsBetween_eq]
      exact hp
theorem cut_len (c : Nat) : ∀ l : List Nat, (cutL c l).length ≤ l.length + 1
  | [] => Nat.le_refl _
  | a :: r => by
    have ih := cut_len c r
    rw [cutL]
    split
    · rw [List.length_cons, List.length_cons]; omega
    · split
      · rename_i e
        rw [e, List.length_cons] at ih
        rw [List.length_cons, List.length_cons]; omega
      · simp
def glueL (c : Nat) : List (List Nat) → List Nat
  | [] => []
  | [w] => w
  | w :: ws => w ++ c :: glueL c ws
theorem cut_pre {c : Nat} : ∀ (w l : List Nat), c ∉ w → cutL c (w ++ c :: l) = w :: cutL c l
  | [], l, _ => by rw [List.nil_append, cutL, if_pos rfl]
  | a :: w, l, h => by
    rw [List.cons_append, cutL, if_neg fun e => h (by rw [e]; exact List.mem_cons_self ..), cut_pre w l fun z => h (List.mem_cons_of_mem _ z)]
theorem cut_none {c : Nat} : ∀ w : List Nat, c ∉ w → cutL c w = [w]
  | [], _ => rfl
  | a :: w, h => by
    rw [cutL, if_neg fun e => h (by rw [e]; exact List.mem_cons_self ..), cut_none w fun z => h (List.mem_cons_of_mem _ z)]
theorem cut_glue {c : Nat} : ∀ ws : List (List Nat), ws ≠ [] → (∀ w ∈ ws, c ∉ w) → cutL c (glueL c ws) = ws
  | [], h, _ => absurd rfl h
  | [w], _, h => cut_none w (h w (by simp))
  | w :: v :: ws, _, h => by
    rw [glueL, cut_pre w _ (h w (by simp)), cut_glue (v :: ws) (by simp) fun u hu => h u (List.mem_cons_of_mem _ hu)]
    simp
theorem join_one (c : Nat) : ∀ ws : List Str, (Str.join ⟨#[c]⟩ ws).cps.toList = glueL c (ws.map fun s => s.cps.toList)
  | [] => rfl
  | [w] => rfl
  | w :: v :: ws => by
    show (w ++ ⟨#[c]⟩ ++ Str.join ⟨#[c]⟩ (v :: ws)).cps.toList = _
    simp only [Str.cps_append, Array.toList_append, join_one c (v :: ws)]
    simp [glueL]
theorem split_join {c : Nat} (hc : c < 256) {ws : List Str} (hne : ws ≠ []) (h : ∀ w ∈ ws, c ∉ w.cps.toList) : Txt.split (Txt.join ⟨#[c]⟩ ws) ⟨#[c]⟩ = ws := by
  have e : Txt.join ⟨#[c]⟩ ws = Str.join ⟨#[c]⟩ ws := glued_eq_join _ _
  rw [e, split_one _ hc, join_one, cut_glue _ (by simpa using hne) (by
    intro w hw
    obtain ⟨s, hs, rfl⟩ := List.mem_map.mp hw
    exact h s hs), List.map_map]
  refine (List.map_congr_left fun s _ => ?_).trans (List.map_id ws)
  exact mkS_cps s
theorem split_num (x : Str) {c : Nat} (hc : c < 256) : (Txt.split x ⟨#[c]⟩).length ≤ x.length + 1 := by
  rw [split_one x hc, List.length_map]
  exact Nat.le_trans (cut_len c _) (by simp [PySem.Str.length])
end Mi
end
section
namespace Mi
open PySem Mi Mi.L 
local macro_rules | `(tactic| wp_walk using $[$ts:term],*) => `(tactic| simp (disch := first | with_reducible assumption | omega | (simp only [List.length_set, List.length_append, List.length_cons, List.length_nil, List.length_map, List.length_range, List.length_replicate, Line]; omega) | (simp only [List.length_set, List.length_append, List.length_cons, List.length_nil, List.length_map, List.length_range, List.length_replicate]; done) | fail) only [au0, au1, au2, au3, au4, au5, au6, List.getElem?_map, dI, dT, List.getElem?_cons_zero, List.getElem?_cons_succ, List.set_cons_zero, List.set_cons_succ, List.map_cons, List.map_nil, List.length_cons, List.length_nil, List.cons_append, List.nil_append, List.append_nil, List.append_assoc, List.reduceReplicate, List.length_set, List.set_set, List.length_append, List.length_map, List.length_range, List.length_replicate, decide_true, decide_false, decide_eq_true_eq, Bool.not_eq_true', decide_eq_false_iff_not, Bool.true_and, Bool.false_and, Bool.not_true, Bool.not_false, Bool.false_eq_true, if_true, if_false, Int.toNat_natCast, Int.reduceToNat, Int.reducePow, Int.reduceMul, Int.reduceAdd, Int.reduceSub, Int.reduceNeg, Int.reduceLT, Int.reduceLE, Nat.sub_self, Nat.add_sub_cancel_left, Nat.reduceAdd, Nat.reduceSub, Nat.reduceLT, Nat.reduceLeDiff, Int.cast_ofNat_Int, true_or, or_true, true_and, and_true, $[$ts:term],*])
def splB (a : Str) (y : D) (S : Store) : R (D × Store) := match y with
  | .p (.str b) => when_ (!(b.length == 0) && decide (a.length ≤ 1000000)) (.ok (.p (.list ((Txt.split a b).map .str)), S))
  | _ => .no
def splA (b : Ex) (σ : Env) (x : D) (S : Store) : R (D × Store) := match x with
  | .p (.str a) => bd (b σ S) (splB a)
  | _ => .no
theorem au_Spl (a b : Ex) (σ : Env) (S : Store) : mSplit a b σ S = bd (a σ S) (splA b σ) := by
  unfold mSplit
  congr 1
theorem au_splA (b : Ex) (σ : Env) (S : Store) (x : Str) : splA b σ (.p (.str x)) S = bd (b σ S) (splB x) := rfl
theorem spl_of {x b : Str} {S : Store} (hb : (b.length == 0) = false) (h : x.length ≤ 1000000) : splB x (.p (.str b)) S = .ok (.p (.list ((Txt.split x b).map .str)), S) := by
  unfold splB
  dsimp only
  rw [hb, decide_eq_true h]
  rfl
theorem au_spl1 (x : Str) (S : Store) (h : x.length ≤ 1000000) : splB x (.p (.str " ")) S = .ok (.p (.list ((Txt.split x " ").map .str)), S) := spl_of (by decide +kernel) h
theorem au_spl2 (x : Str) (S : Store) (h : x.length ≤ 1000000) : splB x (.p (.str "\n")) S = .ok (.p (.list ((Txt.split x "\n").map .str)), S) := spl_of (by decide +kernel) h
theorem au_spl3 (x : Str) (S : Store) (h : x.length ≤ 1000000) : splB x (.p (.str ",")) S = .ok (.p (.list ((Txt.split x ",").map .str)), S) := spl_of (by decide +kernel) h
def jnC (a : Str) (S : Store) (ys : List Str) : R (D × Store) := when_ (decide ((ys.map (·.length)).sum + ys.length * a.length ≤ 16777216)) (.ok (.p (.str (Txt.join a ys)), S))
def jnB (a : Str) (S : Store) (u : PyData) : R (D × Store) := bx (orNo ((items? u).bind strs?)) (jnC a S)
def jnK (a : Str) (y : D) (S : Store) : R (D × Store) := bx (dv S y) (jnB a S)
def jnA (b : Ex) (σ : Env) (x : D) (S : Store) : R (D × Store) := match x with
  | .p (.str a) => bd (b σ S) (jnK a)
  | _ => .no
theorem au_Jn (a b : Ex) (σ : Env) (S : Store) : mJoin a b σ S = bd (a σ S) (jnA b σ) := rfl
theorem au_jnA (b : Ex) (σ : Env) (S : Store) (x : Str) : jnA b σ (.p (.str x)) S = bd (b σ S) (jnK x) := rfl
theorem au_jnK (x : Str) (d : D) (S : Store) : jnK x d S = bx (dv S d) (jnB x S) := rfl
theorem au_jnL (x : Str) (S : Store) (xs : List PyData) : jnB x S (.list xs) = bx (orNo (strs? xs)) (jnC x S) := rfl
theorem au_jnC (x : Str) (S : Store) (ys : List Str) (h : (ys.map (·.length)).sum + ys.length * x.length ≤ 16777216) : jnC x S ys = .ok (.p (.str (Txt.join x ys)), S) := by
  unfold jnC
  rw [decide_eq_true h]
  rfl
theorem au_stN : strs? [] = some [] := rfl
theorem au_stC (a : Str) (xs : List PyData) : strs? (.str a :: xs) = (strs? xs).map (a :: ·) := rfl
def ctD (l h : Option Int) (S : Store) (u : PyData) : R (D × Store) := bx (pCutA u l h) (retP S)
def ctC (x : D) (l h : Option Int) (S : Store) : R (D × Store) := bx (dv S x) (ctD l h S)
def ctB (x : D) (hi : Po) (σ : Env) (l : Option Int) (S : Store) : R (D × Store) := bd (hi σ S) (ctC x l)
def ctA (lo hi : Po) (σ : Env) (x : D) (S : Store) : R (D × Store) := bd (lo σ S) (ctB x hi σ)
theorem au_CtA (a : Ex) (σ : Env) (S : Store) (lo hi : Po) : mCutA a lo hi σ S = bd (a σ S) (ctA lo hi σ) := rfl
theorem au_ctA (d : D) (σ : Env) (S : Store) (lo hi : Po) : ctA lo hi σ d S = bd (lo σ S) (ctB d hi σ) := rfl
theorem au_ctB (d : D) (σ : Env) (S : Store) (hi : Po) (l : Option Int) : ctB d hi σ l S = bd (hi σ S) (ctC d l) := rfl
theorem au_ctC (d : D) (S : Store) (l h : Option Int) : ctC d l h S = bx (dv S d) (ctD l h S) := rfl
theorem au_ctD (u : PyData) (S : Store) (l h : Option Int) : ctD l h S u = bx (pCutA u l h) (retP S) := rfl
theorem au_ctL (xs : List PyData) (l h : Option Int) : pCutA (.list xs) l h = .ok (.list (cut xs l h)) := rfl
theorem au_ctT (xs : List PyData) (l h : Option Int) : pCutA (.tuple xs) l h = .ok (.tuple (cut xs l h)) := rfl
theorem au_ctS (z : Str) (l h : Option Int) (hz : z.length ≤ 1000000) : pCutA (.str z) l h = .ok (.str (L2.cutS z l h)) := by
  show when_ _ _ = _
  rw [decide_eq_true (Nat.le_trans hz (by unfold sizeLine; decide))]
  rfl
def slC (S : Store) (ns : List Int) : R (D × Store) := when_ (decide (ns.length ≤ 1000)) (.ok (.p (.int (dd ns).length), S))
def slB (S : Store) (u : PyData) : R (D × Store) := bx (orNo ((items? u).bind ints?)) (slC S)
def slA (x : D) (S : Store) : R (D × Store) := bx (dv S x) (slB S)
theorem au_SlA (a : Ex) (σ : Env) (S : Store) : mSetLenA a σ S = bd (a σ S) slA := rfl
theorem au_slA (d : D) (S : Store) : slA d S = bx (dv S d) (slB S) := rfl
theorem au_slL (S : Store) (xs : List PyData) : slB S (.list xs) = bx (orNo (ints? xs)) (slC S) := rfl
theorem au_slT (S : Store) (xs : List PyData) : slB S (.tuple xs) = bx (orNo (ints? xs)) (slC S) := rfl
theorem au_slC (S : Store) (ns : List Int) (h : ns.length ≤ 1000) : slC S ns = .ok (.p (.int (dd ns).length), S) := by
  unfold slC
  rw [decide_eq_true h]
  rfl
theorem au_addS (a b : Str) (h : a.length + b.length ≤ 1000000) : pAdd (.str a) (.str b) = .ok (.str (a ++ b)) := by
  show when_ _ _ = _
  rw [decide_eq_true (Nat.le_trans h (by decide))]
  rfl
theorem au_lenZ (z : Str) (h : z.length ≤ 1000000) : pLen (.str z) = .ok (.int z.length) := by
  show when_ _ _ = _
  rw [decide_eq_true (Nat.le_trans h (by decide))]
  rfl
def auS := And.intro @au_Spl <| And.intro @au_splA <| And.intro @au_spl1 <| And.intro @au_spl2 <| And.intro @au_spl3 <| And.intro @au_Jn <| And.intro @au_jnA <| And.intro @au_jnK <| And.intro @au_jnL <| And.intro @au_jnC <| And.intro @au_stN <| And.intro @au_stC <| And.intro @au_CtA <| And.intro @au_ctA <| And.intro @au_ctB <| And.intro @au_ctC <| And.intro @au_ctD <| And.intro @au_ctL <| And.intro @au_ctT <| And.intro @au_ctS <| And.intro @au_SlA <| And.intro @au_slA <| And.intro @au_slL <| And.intro @au_slT <| And.intro @au_slC <| And.intro @au_addS <| And.intro @au_lenZ @strs_map
theorem len_app (a b : Str) : (a ++ b).length = a.length + b.length := by
  unfold Str.length
  rw [Str.cps_append, Array.size_append]
theorem sp_eq : (" " : Str) = ⟨#[32]⟩ := by decide +kernel
theorem nl_eq : ("\n" : Str) = ⟨#[10]⟩ := by decide +kernel
theorem cm_eq : ("," : Str) = ⟨#[44]⟩ := by decide +kernel
end Mi
end
section
namespace Mi.L
open PySem Mi
noncomputable section
end
end Mi.L
end
section
namespace Mi
open PySem Mi Mi.L 
local macro_rules | `(tactic| wp_walk using $[$ts:term],*) => `(tactic| simp (disch := first | with_reducible assumption | omega | (simp only [List.length_set, List.length_append, List.length_cons, List.length_nil, List.length_map, List.length_range, List.length_replicate, Line]; omega) | (simp only [List.length_set, List.length_append, List.length_cons, List.length_nil, List.length_map, List.length_range, List.length_replicate]; done) | fail) only [au0, au1, au2, au3, au4, au5, au6, List.getElem?_map, dI, dT, List.getElem?_cons_zero, List.getElem?_cons_succ, List.set_cons_zero, List.set_cons_succ, List.map_cons, List.map_nil, List.length_cons, List.length_nil, List.cons_append, List.nil_append, List.append_nil, List.append_assoc, List.reduceReplicate, List.length_set, List.set_set, List.length_append, List.length_map, List.length_range, List.length_replicate, decide_true, decide_false, decide_eq_true_eq, Bool.not_eq_true', decide_eq_false_iff_not, Bool.true_and, Bool.false_and, Bool.not_true, Bool.not_false, Bool.false_eq_true, if_true, if_false, Int.toNat_natCast, Int.reduceToNat, Int.reducePow, Int.reduceMul, Int.reduceAdd, Int.reduceSub, Int.reduceNeg, Int.reduceLT, Int.reduceLE, Nat.sub_self, Nat.add_sub_cancel_left, Nat.reduceAdd, Nat.reduceSub, Nat.reduceLT, Nat.reduceLeDiff, Int.cast_ofNat_Int, true_or, or_true, true_and, and_true, $[$ts:term],*])
section
variable {σ σ1 : Env} {S S1 : Store} {e : Exc}
theorem seq_nx {a b : Sm} (h : a σ S = .ok (.nx, σ1, S1)) : sSeq a b σ S = b σ1 S1 := by unfold sSeq; rw [h]; rfl
theorem callX_of {f : Fn} {as : As} {ds : List D} (h : as σ S = .ok (ds, S1)) : mCallX f as σ S = f ds S1 := by unfold mCallX; rw [h]; rfl
theorem fn_ok1 {np slots : Nat} {body : Sm} {ds : List D} {d : PyData} {σ2 : Env} (hl : ds.length = np) (h : body (start slots ds) S = .ok (.rt (.p d), σ2, S)) : fnOf fin np slots body ds S = .ok (.p d, S) := by
  unfold fnOf
  rw [decide_eq_true hl, h]
  show R.ok (D.p d, S.take S.length) = _
  rw [List.take_length]
theorem try_ex {cs : List Str} {i : Option Nat} {j y : Nat} {a : Ex} (h : a σ S = .ex e S1) (hc : cs.contains e.c = true) : sTry cs i j y a σ S = .ok (.nx, (σ.set y (some (.exn e))).set j none, S1) := by
  unfold sTry
  rw [h]
  show when_ (cs.contains e.c) _ = _
  rw [hc]
  rfl
open Classical in
theorem act_of {f : Fp} {c : Nat} {q : Str} {run : Store → R (D × Store)} {i : Nat} (h : σ[i]? = some (some (.fn f c q))) : mAct ⟨f, c, q, run⟩ i σ S = run S := by
  unfold mAct
  rw [h]
  show when_ (decide (f = f) && decide (c = c) && decide (q = q)) (run S) = _
  rw [decide_eq_true rfl, decide_eq_true rfl, decide_eq_true rfl]
  rfl
theorem lam_of {i T : Nat} {q : Str} {cs : List Nat} {F : Cl → Fn} {a : Ex} {env : Env} {r : R (D × Store)} (hk : keepE cs 0 σ = env) (hc : env.all capT = true) (hS : S[i]? = some (.tab T q)) (h : ∀ f c, F ⟨f, c, q, fun S' => a env S'⟩ [.fn f c q] S = r) : mLam i T q cs F a σ S = r := by
  unfold mLam
  rw [hk]
  show when_ (env.all capT) (lamC T q F a env S S[i]?) = r
  rw [hc, hS]
  show when_ (decide (T = T) && decide (q = q)) _ = r
  rw [decide_eq_true rfl, decide_eq_true rfl]
  exact same_of h
end
section
variable {n : Nat} {T : List (List (List Nat))} {s : Nat} (hl : T.length = n) (hn : n ≤ 1000) (h100 : ∀ t ∈ T, t.length ≤ 100)
include hl hn h100
end
section
variable {n m : Nat} {P os : List (List Nat)} {row : Row} {k : Nat}
end
end Mi
end
section
namespace Mi
open PySem Mi Mi.L 
local macro_rules | `(tactic| wp_walk using $[$ts:term],*) => `(tactic| simp (disch := first | with_reducible assumption | omega | (simp only [List.length_set, List.length_append, List.length_cons, List.length_nil, List.length_map, List.length_range, List.length_replicate, Line]; omega) | (simp only [List.length_set, List.length_append, List.length_cons, List.length_nil, List.length_map, List.length_range, List.length_replicate]; done) | fail) only [au0, au1, au2, au3, au4, au5, au6, List.getElem?_map, dI, dT, List.getElem?_cons_zero, List.getElem?_cons_succ, List.set_cons_zero, List.set_cons_succ, List.map_cons, List.map_nil, List.length_cons, List.length_nil, List.cons_append, List.nil_append, List.append_nil, List.append_assoc, List.reduceReplicate, List.length_set, List.set_set, List.length_append, List.length_map, List.length_range, List.length_replicate, decide_true, decide_false, decide_eq_true_eq, Bool.not_eq_true', decide_eq_false_iff_not, Bool.true_and, Bool.false_and, Bool.not_true, Bool.not_false, Bool.false_eq_true, if_true, if_false, Int.toNat_natCast, Int.reduceToNat, Int.reducePow, Int.reduceMul, Int.reduceAdd, Int.reduceSub, Int.reduceNeg, Int.reduceLT, Int.reduceLE, Nat.sub_self, Nat.add_sub_cancel_left, Nat.reduceAdd, Nat.reduceSub, Nat.reduceLT, Nat.reduceLeDiff, Int.cast_ofNat_Int, true_or, or_true, true_and, and_true, $[$ts:term],*])
section
variable {σ : Env} {S : Store} {e : Exc}
theorem fld_of {cs : List Str} {c n : Str} {d : PyData} (h1 : σ[1]? = some (some (.exn ⟨c, some (n, d)⟩))) (h : cs.contains c = true) : mFld cs n (mV 1) σ S = .ok (.p d, S) := by
  have hv : mV 1 σ S = .ok (.exn ⟨c, some (n, d)⟩, S) := by unfold mV; rw [h1]
  unfold mFld
  rw [hv]
  show when_ (cs.contains c) (when_ (decide (n = n)) _) = _
  rw [h, decide_eq_true rfl]
  rfl
end
section
variable {S : Store} {e : Exc} {f : Fp} {c : Nat} {q : Str} {run : Store → R (D × Store)}
end
section
variable {S : Store} {f : Fp} {c : Nat} {q : Str} {run : Store → R (D × Store)} {d : PyData}
end
end Mi
end
section
namespace Mi
open PySem Mi Mi.L 
local macro_rules | `(tactic| wp_walk using $[$ts:term],*) => `(tactic| simp (disch := first | with_reducible assumption | omega | (simp only [List.length_set, List.length_append, List.length_cons, List.length_nil, List.length_map, List.length_range, List.length_replicate, Line]; omega) | (simp only [List.length_set, List.length_append, List.length_cons, List.length_nil, List.length_map, List.length_range, List.length_replicate]; done) | fail) only [au0, au1, au2, au3, au4, au5, au6, List.getElem?_map, dI, dT, List.getElem?_cons_zero, List.getElem?_cons_succ, List.set_cons_zero, List.set_cons_succ, List.map_cons, List.map_nil, List.length_cons, List.length_nil, List.cons_append, List.nil_append, List.append_nil, List.append_assoc, List.reduceReplicate, List.length_set, List.set_set, List.length_append, List.length_map, List.length_range, List.length_replicate, decide_true, decide_false, decide_eq_true_eq, Bool.not_eq_true', decide_eq_false_iff_not, Bool.true_and, Bool.false_and, Bool.not_true, Bool.not_false, Bool.false_eq_true, if_true, if_false, Int.toNat_natCast, Int.reduceToNat, Int.reducePow, Int.reduceMul, Int.reduceAdd, Int.reduceSub, Int.reduceNeg, Int.reduceLT, Int.reduceLE, Nat.sub_self, Nat.add_sub_cancel_left, Nat.reduceAdd, Nat.reduceSub, Nat.reduceLT, Nat.reduceLeDiff, Int.cast_ofNat_Int, true_or, or_true, true_and, and_true, $[$ts:term],*])
section
variable {α β : Type} (e : Exc) (S S1 : Store) (σ : Env)
theorem bd_ex (f : α → Store → R β) : bd (.ex e S : R (α × Store)) f = .ex e S := rfl
theorem bs_ex (f : Fl → Env → Store → R β) : bs (.ex e S : R (Fl × Env × Store)) f = .ex e S := rfl
theorem bx_ex (f : α → R β) : bx (.ex e S : R α) f = .ex e S := rfl
theorem cutEx_ex (n : Nat) : cutEx n (.ex e S : R α) = .ex e (S.take n) := rfl
theorem au_IfX (t : Bx) (a b : Sm) : sIfX t a b σ S = bd (nox (t σ S)) (sifK a b σ) := rfl
theorem au_Lift (f : Sm) : sLift f σ S = nox (f σ S) := rfl
def r1B (c n : Str) (d : PyData) (S : Store) : R (Fl × Env × Store) := .ex ⟨c, some (n, d)⟩ S
def r1A (c n : Str) (x : D) (S : Store) : R (Fl × Env × Store) := bd (fz S x) (r1B c n)
theorem au_R1 (c n : Str) (a : Ex) : sRaise1 c n a σ S = bd (nox (a σ S)) (r1A c n) := rfl
theorem au_r1A (c n : Str) (x : D) : r1A c n x S = bd (fz S x) (r1B c n) := rfl
theorem au_r1B (c n : Str) (d : PyData) : r1B c n d S = .ex ⟨c, some (n, d)⟩ S := rfl
theorem au_CallX (f : Fn) (as : As) : mCallX f as σ S = bd (nox (as σ S)) f := rfl
end
def auX := And.intro @bd_ex <| And.intro @bs_ex <| And.intro @bx_ex <| And.intro @cutEx_ex <| And.intro @au_IfX <| And.intro @au_Lift <| And.intro @au_R1 <| And.intro @au_r1A <| And.intro @au_r1B <| And.intro @au_CallX @nox_ok
def wordsOf (x : Str) : List Str := Txt.split x " "
theorem words_num {x : Str} : (wordsOf x).length ≤ x.length + 1 := by unfold wordsOf; rw [sp_eq]; exact split_num x (by decide)
theorem pEq_ss (a b : Str) : pEq (.str a) (.str b) = .ok (.bool (decide (a = b))) := by
  show when_ (flat? (.str a) && flat? (.str b)) _ = _
  rw [flat1 (fl_str a), flat1 (fl_str b), eqv_str]
  rfl
theorem pIn_nl (x : Str) : pIn (.str "\n") (.str x) = .ok (.bool (decide (10 ∈ x.cps.toList))) := by
  show R.ok (PyData.bool (!(Builtin.Str.occurrences x "\n" 0 x.length 1).isEmpty)) = _
  rw [nl_eq, PySem.StrLaws.found_one x 10]
def btx (k : Nat) : Exc := ⟨"BadText", some ("line", .int k)⟩
def numsF (m : Nat) (ws : List Str) : List (Option Nat) := ws.map (numF m)
def numsO (m : Nat) (ws : List Str) : Option (List Nat) := if none ∉ numsF m ws then some ((numsF m ws).map (·.getD 0)) else none
theorem fl_nO (e : Option Nat) : Fl1 (nO e) := by
  cases e with
  | none => exact fl_none
  | some o => exact fl_int _
theorem inItems_nO (es : List (Option Nat)) : inItems .none (es.map nO) = decide (none ∈ es) := by
  unfold inItems
  rw [Bool.eq_iff_iff, List.any_eq_true, decide_eq_true_eq]
  constructor
  · rintro ⟨y, hy, e⟩
    obtain ⟨o, ho, rfl⟩ := List.mem_map.mp hy
    cases o with
    | none => exact ho
    | some o => simp [nO, PyData.eqv] at e
  · exact fun h => ⟨_, List.mem_map.mpr ⟨none, h, rfl⟩, rfl⟩
theorem pNotIn_nO (es : List (Option Nat)) : pNotIn .none (.tuple (es.map nO)) = .ok (.bool (!decide (none ∈ es))) := by
  show when_ (flat? .none && flat? (.tuple (es.map nO))) _ = _
  rw [flat1 fl_none, flat_t (fun x hx => by obtain ⟨y, _, rfl⟩ := List.mem_map.mp hx; exact fl_nO y), inItems_nO]
  rfl
theorem nO_some {es : List (Option Nat)} (h : none ∉ es) : es.map nO = (es.map (·.getD 0)).map dI := by
  rw [List.map_map]
  refine List.map_congr_left fun e he => ?_
  cases e with
  | none => exact absurd he h
  | some o => rfl
def oD : Option (List Nat) → PyData
  | some ks => .tuple (ks.map dI)
  | none => .none
theorem numbers_in_ok {m : Nat} (hm : m ≤ 100) {ws : List Str} (hl : ws.length ≤ 1000000) (S : Store) : f_numbers_in [.p (.list (ws.map .str)), .p (.int m)] S = .ok (.p (oD (numsO m ws)), S) := by
  have c1 : ∀ (t1 t2 : Option D) S, compL [3] (gN 3) tYes (mCall f_number_in (aCons (mV 3) (aCons (mV 1) aNil))) [] [t1, some (.p (.int m)), t2, none] (ws.map .str) [] S = .ok (.p (.list ((numsF m ws).map nO)), S) := fun t1 t2 S => by
    have := comp_val (own := [3]) (tg := gN 3) (elt := mCall f_number_in (aCons (mV 3) (aCons (mV 1) aNil))) (g := []) (σ := [t1, some (.p (.int m)), t2, none]) (S := S) PyData.str (fun w => nO (numF m w)) (xs := ws) (stand_nil _) fun w hw acc => by
      have e2 : ∀ S, f_number_in [.p (.str w), .p (.int m)] S = .ok (.p (nO (numF m w)), S) := fun S => number_in_ok hm w S
      wp_walk using wipe, e2
    unfold numsF
    rw [List.map_map]
    exact this
  have i1 := pNotIn_nO (numsF m ws)
  refine fn_rn rfl ?_
  unfold b_numbers_in numsO
  by_cases h : none ∈ numsF m ws
  · rw [if_neg fun z => z h]
    rw [decide_eq_true h] at i1
    unfold oD
    wp_walk using c1, i1
  · rw [if_pos h]
    rw [decide_eq_false h] at i1
    have e3 : oD (some ((numsF m ws).map (·.getD 0))) = .tuple ((numsF m ws).map nO) := by rw [nO_some h]; rfl
    rw [e3]
    wp_walk using c1, i1
section
variable {S : Store} {f : Fp} {c : Nat} {q : Str} {run : Store → R (D × Store)}
theorem caught_line {k : Nat} (hrun : ∀ S, run S = .ex (btx k) S) : f_l_caught ⟨f, c, q, run⟩ [.fn f c q] S = .ok (.p (.tuple [.str "line", .int k]), S) := by
  refine fn_ok1 (σ2 := [some (.fn f c q), some (.exn (btx k)), some (.p .none), none, some (.p (.bool false))]) rfl ?_
  show b_l_caught ⟨f, c, q, run⟩ [some (.fn f c q), none, none, none, none] S = _
  unfold b_l_caught
  have h1 : sUnp (gT [gN 1, gN 2]) (mTup (aCons (mC .none) (aCons (mC .none) aNil))) [some (.fn f c q), none, none, none, none] S = .ok (.nx, [some (.fn f c q), some (.p .none), some (.p .none), none, none], S) := by
    wp_walk using au0
  rw [seq_nx h1]
  rw [seq_nx (try_ex ((act_of rfl).trans (hrun S)) (by unfold btx; dsimp only; decide +kernel))]
  show sSeq _ _ [some (.fn f c q), some (.exn (btx k)), some (.p .none), none, none] S = _
  have isx : ∀ {i : Nat} {σ : Env} {e : Exc} {tb : List (Str × Bool)} {b : Bool}, σ[i]? = some (some (.exn e)) → tb.lookup e.c = some b → mIsX tb (mV i) σ S = .ok (.p (.bool b), S) := fun {i σ e tb b} h1 h => by
    have hv : mV i σ S = .ok (.exn e, S) := by unfold mV; rw [h1]
    unfold mIsX
    rw [bd_of hv]
    show bx (orNo (tb.lookup e.c)) _ = _
    rw [h]
    rfl
  have i1 := isx (i := 1) (σ := [some (.fn f c q), some (.exn (btx k)), some (.p .none), none, none]) (tb := [("BadText", true), ("BadLine", false)]) (b := true) rfl (by unfold btx; dsimp only; decide +kernel)
  have i2 := isx (i := 1) (σ := [some (.fn f c q), some (.exn (btx k)), some (.p .none), none, none]) (tb := [("BadText", false), ("BadLine", true)]) (b := false) rfl (by unfold btx; dsimp only; decide +kernel)
  have i6 : mFld ["BadText", "BadLine"] "line" (mV 1) [some (.fn f c q), some (.exn (btx k)), some (.p .none), none, some (.p (.bool false))] S = .ok (.p (.int k), S) := fld_of rfl (by decide +kernel)
  have i8 : isN (.exn (btx k)) = false := rfl
  wp_walk using i1, i2, i6, i8
end
end Mi
end
section
namespace Mi
open PySem Mi Mi.L 
local macro_rules | `(tactic| wp_walk using $[$ts:term],*) => `(tactic| simp (disch := first | with_reducible assumption | omega | (simp only [List.length_set, List.length_append, List.length_cons, List.length_nil, List.length_map, List.length_range, List.length_replicate, Line]; omega) | (simp only [List.length_set, List.length_append, List.length_cons, List.length_nil, List.length_map, List.length_range, List.length_replicate]; done) | fail) only [au0, au1, au2, au3, au4, au5, au6, List.getElem?_map, dI, dT, List.getElem?_cons_zero, List.getElem?_cons_succ, List.set_cons_zero, List.set_cons_succ, List.map_cons, List.map_nil, List.length_cons, List.length_nil, List.cons_append, List.nil_append, List.append_nil, List.append_assoc, List.reduceReplicate, List.length_set, List.set_set, List.length_append, List.length_map, List.length_range, List.length_replicate, decide_true, decide_false, decide_eq_true_eq, Bool.not_eq_true', decide_eq_false_iff_not, Bool.true_and, Bool.false_and, Bool.not_true, Bool.not_false, Bool.false_eq_true, if_true, if_false, Int.toNat_natCast, Int.reduceToNat, Int.reducePow, Int.reduceMul, Int.reduceAdd, Int.reduceSub, Int.reduceNeg, Int.reduceLT, Int.reduceLE, Nat.sub_self, Nat.add_sub_cancel_left, Nat.reduceAdd, Nat.reduceSub, Nat.reduceLT, Nat.reduceLeDiff, Int.cast_ofNat_Int, true_or, or_true, true_and, and_true, $[$ts:term],*])
def InL (n : Nat) (L : Store) (dq : D) (xs : List PyData) : Prop := dq = .p (.list xs) ∨ ∃ k, dq = .ref (n + k) ∧ L[k]? = some (.lst xs)
theorem InL.dv {n : Nat} {L : Store} {dq : D} {xs : List PyData} (h : InL n L dq xs) {S : Store} (hn : S.length = n) (X : Store) : Mi.dv (S ++ (L ++ X)) dq = .ok (.list xs) := by
  rcases h with rfl | ⟨k, rfl, h⟩
  · rfl
  · rw [au_dvR, ← hn, List.getElem?_append_right (by omega), Nat.add_sub_cancel_left, List.getElem?_append_left (List.getElem?_eq_some_iff.mp h).1, h]
    rfl
section
variable {b i : Nat} {S L : Store} {t : Str} {odd : List Str} {dq : D}
end
end Mi
end
section
namespace Mi
open PySem Mi Mi.L 
local macro_rules | `(tactic| wp_walk using $[$ts:term],*) => `(tactic| simp (disch := first | with_reducible assumption | omega | (simp only [List.length_set, List.length_append, List.length_cons, List.length_nil, List.length_map, List.length_range, List.length_replicate, Line]; omega) | (simp only [List.length_set, List.length_append, List.length_cons, List.length_nil, List.length_map, List.length_range, List.length_replicate]; done) | fail) only [au0, au1, au2, au3, au4, au5, au6, List.getElem?_map, dI, dT, List.getElem?_cons_zero, List.getElem?_cons_succ, List.set_cons_zero, List.set_cons_succ, List.map_cons, List.map_nil, List.length_cons, List.length_nil, List.cons_append, List.nil_append, List.append_nil, List.append_assoc, List.reduceReplicate, List.length_set, List.set_set, List.length_append, List.length_map, List.length_range, List.length_replicate, decide_true, decide_false, decide_eq_true_eq, Bool.not_eq_true', decide_eq_false_iff_not, Bool.true_and, Bool.false_and, Bool.not_true, Bool.not_false, Bool.false_eq_true, if_true, if_false, Int.toNat_natCast, Int.reduceToNat, Int.reducePow, Int.reduceMul, Int.reduceAdd, Int.reduceSub, Int.reduceNeg, Int.reduceLT, Int.reduceLE, Nat.sub_self, Nat.add_sub_cancel_left, Nat.reduceAdd, Nat.reduceSub, Nat.reduceLT, Nat.reduceLeDiff, Int.cast_ofNat_Int, true_or, or_true, true_and, and_true, $[$ts:term],*])
def wNums (sep : Str) (ks : List Nat) : Str := if ks = [] then "-" else Txt.join sep (ks.map nS)
section
variable {S : Store}
end
theorem words_join {ws : List Str} (hn : ws ≠ []) (h : ∀ w ∈ ws, (32 : Nat) ∉ w.cps.toList) : wordsOf (Txt.join " " ws) = ws := by
  unfold wordsOf
  rw [sp_eq]
  exact split_join (by decide) hn h
theorem numsO_nS {m : Nat} {ks : List Nat} (hm : m ≤ 100) (h : ∀ k ∈ ks, k < m) : numsO m (ks.map nS) = some ks := by
  have e : numsF m (ks.map nS) = ks.map some := by
    unfold numsF
    rw [List.map_map]
    exact List.map_congr_left fun k hk => numF_nS hm (h k hk)
  unfold numsO
  rw [e, if_pos (by simp), List.map_map]
  congr 1
  exact (List.map_congr_left fun o _ => rfl).trans (List.map_id ks)
end Mi
end
section
namespace Mi.L
open PySem Mi
noncomputable section
end
end Mi.L
end
section
namespace Mi
open PySem Mi Mi.L 
local macro_rules | `(tactic| wp_walk using $[$ts:term],*) => `(tactic| simp (disch := first | with_reducible assumption | omega | (simp only [List.length_set, List.length_append, List.length_cons, List.length_nil, List.length_map, List.length_range, List.length_replicate, Line]; omega) | (simp only [List.length_set, List.length_append, List.length_cons, List.length_nil, List.length_map, List.length_range, List.length_replicate]; done) | fail) only [au0, au1, au2, au3, au4, au5, au6, List.getElem?_map, dI, dT, List.getElem?_cons_zero, List.getElem?_cons_succ, List.set_cons_zero, List.set_cons_succ, List.map_cons, List.map_nil, List.length_cons, List.length_nil, List.cons_append, List.nil_append, List.append_nil, List.append_assoc, List.reduceReplicate, List.length_set, List.set_set, List.length_append, List.length_map, List.length_range, List.length_replicate, decide_true, decide_false, decide_eq_true_eq, Bool.not_eq_true', decide_eq_false_iff_not, Bool.true_and, Bool.false_and, Bool.not_true, Bool.not_false, Bool.false_eq_true, if_true, if_false, Int.toNat_natCast, Int.reduceToNat, Int.reducePow, Int.reduceMul, Int.reduceAdd, Int.reduceSub, Int.reduceNeg, Int.reduceLT, Int.reduceLE, Nat.sub_self, Nat.add_sub_cancel_left, Nat.reduceAdd, Nat.reduceSub, Nat.reduceLT, Nat.reduceLeDiff, Int.cast_ofNat_Int, true_or, or_true, true_and, and_true, $[$ts:term],*])
theorem kf_ne (a b : Nat) : pNe (.int a) (.int b) = .ok (.bool (!decide (a = b))) := by
  show Mi.R.ok (PyData.bool (!decide _)) = _
  congr 3
  exact decide_eq_decide.mpr (by omega)
structure RowsT (n : Nat) (t : List (List Nat)) : Prop where
  len : t.length = n
  asc : ∀ a, a < n → t[a]!.Pairwise (· < ·)
  lt : ∀ a, a < n → ∀ b ∈ t[a]!, b < n
theorem isTab_rows {n : Nat} {t : List (List Nat)} (h : IsTable n t) : ∀ r ∈ t, r.Pairwise (· < ·) ∧ ∀ x ∈ r, x < n := fun r hr => by
  obtain ⟨a, ha, rfl⟩ := List.mem_iff_getElem.mp hr
  have e : t[a]! = t[a] := getElem!_pos t a ha
  have hl := h.len
  exact e ▸ ⟨h.asc a (by omega), h.lt a (by omega)⟩
noncomputable def tblB (n : Nat) (t : List (List Nat)) : Bool := @decide (IsTable n t) (Classical.propDecidable _)
theorem tblB_yes {n : Nat} {t : List (List Nat)} (h : IsTable n t) : tblB n t = true := by
  unfold tblB
  simp [h]
end Mi
end
section
namespace Mi
open PySem Mi Mi.L 
local macro_rules | `(tactic| wp_walk using $[$ts:term],*) => `(tactic| simp (disch := first | with_reducible assumption | omega | (simp only [List.length_set, List.length_append, List.length_cons, List.length_nil, List.length_map, List.length_range, List.length_replicate, Line]; omega) | (simp only [List.length_set, List.length_append, List.length_cons, List.length_nil, List.length_map, List.length_range, List.length_replicate]; done) | fail) only [au0, au1, au2, au3, au4, au5, au6, List.getElem?_map, dI, dT, List.getElem?_cons_zero, List.getElem?_cons_succ, List.set_cons_zero, List.set_cons_succ, List.map_cons, List.map_nil, List.length_cons, List.length_nil, List.cons_append, List.nil_append, List.append_nil, List.append_assoc, List.reduceReplicate, List.length_set, List.set_set, List.length_append, List.length_map, List.length_range, List.length_replicate, decide_true, decide_false, decide_eq_true_eq, Bool.not_eq_true', decide_eq_false_iff_not, Bool.true_and, Bool.false_and, Bool.not_true, Bool.not_false, Bool.false_eq_true, if_true, if_false, Int.toNat_natCast, Int.reduceToNat, Int.reducePow, Int.reduceMul, Int.reduceAdd, Int.reduceSub, Int.reduceNeg, Int.reduceLT, Int.reduceLE, Nat.sub_self, Nat.add_sub_cancel_left, Nat.reduceAdd, Nat.reduceSub, Nat.reduceLT, Nat.reduceLeDiff, Int.cast_ofNat_Int, true_or, or_true, true_and, and_true, $[$ts:term],*])
theorem sp_cps (ws : List Str) : (Txt.join " " ws).cps.toList = glueL 32 (ws.map fun s => s.cps.toList) := by
  rw [sp_eq, show Txt.join ⟨#[32]⟩ ws = Str.join ⟨#[32]⟩ ws from PySem.StrLaws.glued_eq_join _ _, join_one]
def wHead (m n : Nat) : Str := Txt.join " " ["keys", nS m, "slots", nS n]
def wProbe (p : List Nat) : Str := Txt.join " " ("probe" :: p.map nS)
def wTable (t : List (List Nat)) : Str := Txt.join " " ("beats" :: t.map (wNums ","))
def setRows (P : List (List Nat)) (T : List (List (List Nat))) : List Str := wHead P.length T.length :: (P.map wProbe ++ T.map wTable)
structure SetW (P : List (List Nat)) (T : List (List (List Nat))) : Prop where
  pl : P.length ≤ 16
  tl : T.length ≤ 16
  pr : ∀ p ∈ P, p ≠ [] ∧ p.length ≤ 16 ∧ ∀ x ∈ p, x < 100
  tr : ∀ t ∈ T, t.length ≤ 16 ∧ ∀ r ∈ t, r.length ≤ 16 ∧ ∀ x ∈ r, x < 100
def dTT (t : List (List Nat)) : PyData := .tuple (t.map dT)
end Mi
end
section
namespace Mi
open PySem Mi Mi.L 
local macro_rules | `(tactic| wp_walk using $[$ts:term],*) => `(tactic| simp (disch := first | with_reducible assumption | omega | (simp only [List.length_set, List.length_append, List.length_cons, List.length_nil, List.length_map, List.length_range, List.length_replicate, Line]; omega) | (simp only [List.length_set, List.length_append, List.length_cons, List.length_nil, List.length_map, List.length_range, List.length_replicate]; done) | fail) only [au0, au1, au2, au3, au4, au5, au6, List.getElem?_map, dI, dT, List.getElem?_cons_zero, List.getElem?_cons_succ, List.set_cons_zero, List.set_cons_succ, List.map_cons, List.map_nil, List.length_cons, List.length_nil, List.cons_append, List.nil_append, List.append_nil, List.append_assoc, List.reduceReplicate, List.length_set, List.set_set, List.length_append, List.length_map, List.length_range, List.length_replicate, decide_true, decide_false, decide_eq_true_eq, Bool.not_eq_true', decide_eq_false_iff_not, Bool.true_and, Bool.false_and, Bool.not_true, Bool.not_false, Bool.false_eq_true, if_true, if_false, Int.toNat_natCast, Int.reduceToNat, Int.reducePow, Int.reduceMul, Int.reduceAdd, Int.reduceSub, Int.reduceNeg, Int.reduceLT, Int.reduceLE, Nat.sub_self, Nat.add_sub_cancel_left, Nat.reduceAdd, Nat.reduceSub, Nat.reduceLT, Nat.reduceLeDiff, Int.cast_ofNat_Int, true_or, or_true, true_and, and_true, $[$ts:term],*])
theorem kh_ne (a b : Str) : pNe (.str a) (.str b) = .ok (.bool (!decide (a = b))) := by
  show when_ (flat? (.str a) && flat? (.str b)) _ = _
  rw [flat1 (fl_str a), flat1 (fl_str b), eqv_str]
  rfl
theorem kh_notIn0 (xs : List Nat) : pNotIn (.int 0) (.tuple (xs.map dI)) = .ok (.bool (!decide (0 ∈ xs))) := pNotIn_nat 0 xs
def sizesF (l : Str) : Option (Nat × Nat) := match wordsOf l with
  | [a, b, c, d] => if a = "keys" ∧ c = "slots" then match numF 17 b, numF 17 d with
    | some k, some s => if k ≠ 0 ∧ s ≠ 0 then some (k, s) else none
    | _, _ => none
    else none
  | _ => none
def sizesD : Option (Nat × Nat) → PyData
  | some (k, s) => .tuple [.int k, .int s]
  | none => .none
theorem four {α : Type} {ws : List α} (h : ws.length = 4) : ∃ a b c d, ws = [a, b, c, d] := by
  match ws, h with
  | [a, b, c, d], _ => exact ⟨a, b, c, d, rfl⟩
theorem sizes_not4 {l : Str} (h : (wordsOf l).length ≠ 4) : sizesF l = none := by
  unfold sizesF
  split
  · rename_i e
    rw [e] at h
    exact absurd rfl h
  · rfl
theorem odds4 (a b c d : PyData) : pOdds (.list [a, b, c, d]) = .ok (.list [b, d]) := rfl
theorem numsO2 (m : Nat) (b d : Str) : numsO m [b, d] = match numF m b, numF m d with
    | some k, some s => some [k, s]
    | _, _ => none := by
  unfold numsO numsF
  cases h1 : numF m b <;> cases h2 : numF m d <;> simp [h1, h2]
theorem sizes_in_ok {l : Str} (hl : l.length ≤ 100000) (S : Store) : f_sizes_in [.p (.str l)] S = .ok (.p (sizesD (sizesF l)), S) := by
  have hn := words_num (x := l)
  refine fn_rn rfl ?_
  unfold b_sizes_in
  by_cases h4 : (wordsOf l).length = 4
  · obtain ⟨a, b, c, d, e⟩ := four h4
    unfold sizesF
    rw [e]
    unfold wordsOf at e
    have n1 := kh_ne a "keys"
    have n2 := kh_ne c "slots"
    have o1 := odds4 (.str a) (.str b) (.str c) (.str d)
    have e3 := fun S => numbers_in_ok (m := 17) (by omega) (ws := [b, d]) (by simp) S
    rw [numsO2] at e3
    have ad : pAdd (.int 16) (.int 1) = .ok (.int 17) := rfl
    dsimp only
    by_cases ha : a = "keys"
    · by_cases hc : c = "slots"
      · rw [if_pos ⟨ha, hc⟩]
        rw [decide_eq_true ha] at n1
        rw [decide_eq_true hc] at n2
        cases hb : numF 17 b with
        | none =>
          rw [hb] at e3
          have e3 : ∀ S, f_numbers_in [.p (.list [.str b, .str d]), .p (.int 17)] S = .ok (.p .none, S) := e3
          dsimp only
          unfold sizesD
          wp_walk using auS, e, n1, n2, o1, e3, ad
        | some k =>
          cases hd : numF 17 d with
          | none =>
            rw [hb, hd] at e3
            have e3 : ∀ S, f_numbers_in [.p (.list [.str b, .str d]), .p (.int 17)] S = .ok (.p .none, S) := e3
            dsimp only
            unfold sizesD
            wp_walk using auS, e, n1, n2, o1, e3, ad
          | some s =>
            rw [hb, hd] at e3
            have e3 : ∀ S, f_numbers_in [.p (.list [.str b, .str d]), .p (.int 17)] S = .ok (.p (.tuple [.int k, .int s]), S) := e3
            have n3 : pNotIn (.int 0) (.tuple [.int k, .int s]) = .ok (.bool (!decide (0 ∈ [k, s]))) := kh_notIn0 [k, s]
            dsimp only
            by_cases h0 : k ≠ 0 ∧ s ≠ 0
            · rw [if_pos h0]
              rw [decide_eq_false (by simp; omega)] at n3
              unfold sizesD
              wp_walk using auS, e, n1, n2, o1, e3, n3, ad
            · rw [if_neg h0]
              rw [decide_eq_true (by simp; omega)] at n3
              unfold sizesD
              wp_walk using auS, e, n1, n2, o1, e3, n3, ad
      · rw [if_neg fun z => hc z.2]
        rw [decide_eq_true ha] at n1
        rw [decide_eq_false hc] at n2
        unfold sizesD
        wp_walk using auS, e, n1, n2
    · rw [if_neg fun z => ha z.1]
      rw [decide_eq_false ha] at n1
      unfold sizesD
      wp_walk using auS, e, n1
  · rw [sizes_not4 h4]
    unfold sizesD
    have n0 := kf_ne (wordsOf l).length 4
    rw [decide_eq_false h4] at n0
    unfold wordsOf at *
    wp_walk using auS, n0
def probeW (n : Nat) : List Str → Option (List Nat)
  | w :: ws => if w = "probe" then match numsO n ws with
    | some ks => if ks.length = n ∧ ks.Nodup then some ks else none
    | none => none
    else none
  | [] => none
def probeF (n : Nat) (l : Str) : Option (List Nat) := probeW n (wordsOf l)
def beatenF (m : Nat) (w : Str) : Option (List Nat) := if w = "-" then some [] else numsO m (Txt.split w ",")
noncomputable def tableW (m : Nat) : List Str → Option (List (List Nat))
  | w :: ws => if w = "beats" ∧ none ∉ ws.map (beatenF m) ∧ tblB m (ws.map fun u => (beatenF m u).getD []) = true then some (ws.map fun u => (beatenF m u).getD []) else none
  | [] => none
noncomputable def tableF (m : Nat) (l : Str) : Option (List (List Nat)) := tableW m (wordsOf l)
end Mi
end
section
namespace Mi
open PySem Mi Mi.L 
local macro_rules | `(tactic| wp_walk using $[$ts:term],*) => `(tactic| simp (disch := first | with_reducible assumption | omega | (simp only [List.length_set, List.length_append, List.length_cons, List.length_nil, List.length_map, List.length_range, List.length_replicate, Line]; omega) | (simp only [List.length_set, List.length_append, List.length_cons, List.length_nil, List.length_map, List.length_range, List.length_replicate]; done) | fail) only [au0, au1, au2, au3, au4, au5, au6, List.getElem?_map, dI, dT, List.getElem?_cons_zero, List.getElem?_cons_succ, List.set_cons_zero, List.set_cons_succ, List.map_cons, List.map_nil, List.length_cons, List.length_nil, List.cons_append, List.nil_append, List.append_nil, List.append_assoc, List.reduceReplicate, List.length_set, List.set_set, List.length_append, List.length_map, List.length_range, List.length_replicate, decide_true, decide_false, decide_eq_true_eq, Bool.not_eq_true', decide_eq_false_iff_not, Bool.true_and, Bool.false_and, Bool.not_true, Bool.not_false, Bool.false_eq_true, if_true, if_false, Int.toNat_natCast, Int.reduceToNat, Int.reducePow, Int.reduceMul, Int.reduceAdd, Int.reduceSub, Int.reduceNeg, Int.reduceLT, Int.reduceLE, Nat.sub_self, Nat.add_sub_cancel_left, Nat.reduceAdd, Nat.reduceSub, Nat.reduceLT, Nat.reduceLeDiff, Int.cast_ofNat_Int, true_or, or_true, true_and, and_true, $[$ts:term],*])
noncomputable def partO (m n i : Nat) (l : Str) : Option PyData := if i < m then (probeF n l).map dT else if i < m + n then (tableF m l).map dTT else none
section
variable {m n i : Nat} {l : Str} {t0 t1 t2 : Option D} {S : Store} {acc : List PyData}
end
end Mi
end
section
namespace Mi
open PySem Mi Mi.L 
local macro_rules | `(tactic| wp_walk using $[$ts:term],*) => `(tactic| simp (disch := first | with_reducible assumption | omega | (simp only [List.length_set, List.length_append, List.length_cons, List.length_nil, List.length_map, List.length_range, List.length_replicate, Line]; omega) | (simp only [List.length_set, List.length_append, List.length_cons, List.length_nil, List.length_map, List.length_range, List.length_replicate]; done) | fail) only [au0, au1, au2, au3, au4, au5, au6, List.getElem?_map, dI, dT, List.getElem?_cons_zero, List.getElem?_cons_succ, List.set_cons_zero, List.set_cons_succ, List.map_cons, List.map_nil, List.length_cons, List.length_nil, List.cons_append, List.nil_append, List.append_nil, List.append_assoc, List.reduceReplicate, List.length_set, List.set_set, List.length_append, List.length_map, List.length_range, List.length_replicate, decide_true, decide_false, decide_eq_true_eq, Bool.not_eq_true', decide_eq_false_iff_not, Bool.true_and, Bool.false_and, Bool.not_true, Bool.not_false, Bool.false_eq_true, if_true, if_false, Int.toNat_natCast, Int.reduceToNat, Int.reducePow, Int.reduceMul, Int.reduceAdd, Int.reduceSub, Int.reduceNeg, Int.reduceLT, Int.reduceLE, Nat.sub_self, Nat.add_sub_cancel_left, Nat.reduceAdd, Nat.reduceSub, Nat.reduceLT, Nat.reduceLeDiff, Int.cast_ofNat_Int, true_or, or_true, true_and, and_true, $[$ts:term],*])
theorem glue_mem {c b : Nat} : ∀ {ls : List (List Nat)}, b ∈ glueL c ls → b = c ∨ ∃ l ∈ ls, b ∈ l
  | [], h => by cases h
  | [l], h => .inr ⟨l, by simp, h⟩
  | l :: u :: us, h => by
    rw [show glueL c (l :: u :: us) = l ++ c :: glueL c (u :: us) from rfl, List.mem_append, List.mem_cons] at h
    rcases h with h | h | h
    · exact .inr ⟨l, by simp, h⟩
    · exact .inl h
    · rcases glue_mem h with h | ⟨v, hv, h⟩
      · exact .inl h
      · exact .inr ⟨v, by simp [List.mem_cons.mp hv], h⟩
theorem nl_join {ws : List Str} (h : ∀ w ∈ ws, (10 : Nat) ∉ w.cps.toList) : (10 : Nat) ∉ (Txt.join " " ws).cps.toList := fun z => by
  rw [sp_cps] at z
  rcases glue_mem z with z | ⟨l, hl, z⟩
  · cases z
  · obtain ⟨w, hw, rfl⟩ := List.mem_map.mp hl
    exact h w hw z
theorem cm_cps (ws : List Str) : (Txt.join "," ws).cps.toList = glueL 44 (ws.map fun s => s.cps.toList) := by
  rw [cm_eq, show Txt.join ⟨#[44]⟩ ws = Str.join ⟨#[44]⟩ ws from PySem.StrLaws.glued_eq_join _ _, join_one]
theorem wNums_no {ks : List Nat} (h : ∀ k ∈ ks, k < 100) {c : Nat} (hc : c < 44) : c ∉ (wNums "," ks).cps.toList := fun z => by
  unfold wNums at z
  split at z
  · have e : ("-" : Str).cps.toList = [45] := by decide +kernel
    rw [e, List.mem_singleton] at z
    omega
  · rw [cm_cps] at z
    rcases glue_mem z with z | ⟨l, hl, z⟩
    · omega
    · obtain ⟨w, hw, rfl⟩ := List.mem_map.mp hl
      obtain ⟨k, hk, rfl⟩ := List.mem_map.mp hw
      exact nS_no (h k hk) (by omega) z
theorem line_words {ws : List Str} (hn : ws ≠ []) (h : ∀ w ∈ ws, (10 : Nat) ∉ w.cps.toList ∧ (32 : Nat) ∉ w.cps.toList) : (10 : Nat) ∉ (Txt.join " " ws).cps.toList ∧ wordsOf (Txt.join " " ws) = ws :=
  ⟨nl_join fun w hw => (h w hw).1, words_join hn fun w hw => (h w hw).2⟩
theorem head_line {m n : Nat} (hm : m < 100) (hn : n < 100) : (10 : Nat) ∉ (wHead m n).cps.toList ∧ wordsOf (wHead m n) = [("keys" : Str), nS m, "slots", nS n] := by
  refine line_words (by simp) fun w hw => ?_
  simp only [List.mem_cons, List.not_mem_nil, or_false] at hw
  rcases hw with rfl | rfl | rfl | rfl
  · decide +kernel
  · exact ⟨nS_no hm (by decide), nS_no hm (by decide)⟩
  · decide +kernel
  · exact ⟨nS_no hn (by decide), nS_no hn (by decide)⟩
theorem probe_line {p : List Nat} (h : ∀ x ∈ p, x < 100) : (10 : Nat) ∉ (wProbe p).cps.toList ∧ wordsOf (wProbe p) = ("probe" : Str) :: p.map nS := by
  refine line_words (by simp) fun w hw => ?_
  rcases List.mem_cons.mp hw with rfl | hw
  · decide +kernel
  · obtain ⟨k, hk, rfl⟩ := List.mem_map.mp hw
    exact ⟨nS_no (h k hk) (by decide), nS_no (h k hk) (by decide)⟩
theorem table_line {t : List (List Nat)} (h : ∀ r ∈ t, ∀ x ∈ r, x < 100) : (10 : Nat) ∉ (wTable t).cps.toList ∧ wordsOf (wTable t) = ("beats" : Str) :: t.map (wNums ",") := by
  refine line_words (by simp) fun w hw => ?_
  rcases List.mem_cons.mp hw with rfl | hw
  · decide +kernel
  · obtain ⟨k, hk, rfl⟩ := List.mem_map.mp hw
    exact ⟨wNums_no (h k hk) (by decide), wNums_no (h k hk) (by decide)⟩
theorem probeF_wProbe {n : Nat} {p : List Nat} (hn : n ≤ 16) (hl : p.length = n) (hd : p.Nodup) (h : ∀ x ∈ p, x < n) : probeF n (wProbe p) = some p := by
  unfold probeF
  rw [(probe_line fun x hx => by have := h x hx; omega).2]
  unfold probeW
  dsimp only
  rw [if_pos rfl, numsO_nS (by omega) h]
  exact if_pos ⟨hl, hd⟩
theorem beatenF_wNums {m : Nat} {r : List Nat} (hm : m ≤ 16) (h : ∀ x ∈ r, x < m) : beatenF m (wNums "," r) = some r := by
  unfold beatenF wNums
  by_cases h0 : r = []
  · rw [if_pos h0, if_pos rfl, h0]
  · rw [if_neg h0]
    have hs : Txt.split (Txt.join "," (r.map nS)) "," = r.map nS := by
      rw [cm_eq]
      refine split_join (by decide) (by simpa using h0) fun w hw => ?_
      obtain ⟨k, hk, rfl⟩ := List.mem_map.mp hw
      exact nS_no (by have := h k hk; omega) (by decide)
    have hne : Txt.join "," (r.map nS) ≠ "-" := fun e => by
      rw [e] at hs
      have h2 : Txt.split "-" "," = [("-" : Str)] := by
        have := split_join (c := 44) (by decide) (ws := [("-" : Str)]) (by simp) (fun w hw => by rw [List.mem_singleton.mp hw]; decide +kernel)
        rw [← cm_eq] at this
        exact this
      rw [h2] at hs
      have : ("-" : Str) ∈ r.map nS := by rw [← hs]; simp
      obtain ⟨k, hk, e2⟩ := List.mem_map.mp this
      exact nS_dash (by have := h k hk; omega) e2
    rw [if_neg hne, hs, numsO_nS (by omega) h]
theorem tableW_rows {m : Nat} {t : List (List Nat)} (hm : m ≤ 16) (h : ∀ r ∈ t, ∀ x ∈ r, x < m) : tableF m (wTable t) = if tblB m t = true then some t else none := by
  unfold tableF
  rw [(table_line fun r hr x hx => by have := h r hr x hx; omega).2]
  have e1 : (t.map (wNums ",")).map (beatenF m) = t.map some := by
    rw [List.map_map]
    exact List.map_congr_left fun r hr => beatenF_wNums hm (h r hr)
  have e2 : ((t.map (wNums ",")).map fun u => (beatenF m u).getD []) = t := by
    rw [List.map_map]
    exact (List.map_congr_left fun r hr => by
      show (beatenF m (wNums "," r)).getD [] = id r
      rw [beatenF_wNums hm (h r hr)]
      rfl).trans (List.map_id t)
  show (if ("beats" : Str) = "beats" ∧ none ∉ (t.map (wNums ",")).map (beatenF m) ∧ tblB m ((t.map (wNums ",")).map fun u => (beatenF m u).getD []) = true then some ((t.map (wNums ",")).map fun u => (beatenF m u).getD []) else none) = _
  rw [e1, e2]
  by_cases hb : tblB m t = true
  · rw [if_pos hb, if_pos ⟨rfl, by simp, hb⟩]
  · rw [if_neg hb, if_neg fun z => hb z.2.2]
section
variable {m n : Nat}
end
structure SetG (m n : Nat) (P : List (List Nat)) (T : List (List (List Nat))) : Prop where
  m1 : 1 ≤ m ∧ m ≤ 16
  n1 : 1 ≤ n ∧ n ≤ 16
  pl : P.length = m
  tl : T.length = n
  pr : ∀ p ∈ P, p.length = n ∧ p.Nodup ∧ ∀ x ∈ p, x < n
  tr : ∀ t ∈ T, IsTable m t
theorem tab_row_len {m : Nat} {t : List (List Nat)} (h : IsTable m t) : ∀ r ∈ t, r.length ≤ m ∧ ∀ x ∈ r, x < m := fun r hr => by
  have h1 := isTab_rows h r hr
  have h3 : r.Nodup := by
    rw [List.nodup_iff_pairwise_ne]
    exact h1.1.imp fun h => by omega
  exact ⟨nodup_len h3 h1.2, h1.2⟩
theorem SetG.w {m n : Nat} {P : List (List Nat)} {T : List (List (List Nat))} (h : SetG m n P T) : SetW P T := by
  have hm := h.m1
  have hn := h.n1
  have hp := h.pl
  have ht := h.tl
  refine ⟨by omega, by omega, fun p hpP => ?_, fun t htT => ?_⟩
  · obtain ⟨a, b, c⟩ := h.pr p hpP
    refine ⟨fun e => ?_, by omega, fun x hx => by have := c x hx; omega⟩
    rw [e] at a
    have : (0 : Nat) = n := a
    omega
  · have := (h.tr t htT).len
    refine ⟨by omega, fun r hr => ?_⟩
    obtain ⟨a, b⟩ := tab_row_len (h.tr t htT) r hr
    exact ⟨by omega, fun x hx => by have := b x hx; omega⟩
theorem SetG.lines {m n : Nat} {P : List (List Nat)} {T : List (List (List Nat))} (h : SetG m n P T) : ∀ l ∈ setRows P T, (10 : Nat) ∉ l.cps.toList := fun l hl => by
  have hw := h.w
  have hp := hw.pl
  have ht := hw.tl
  unfold setRows at hl
  rcases List.mem_cons.mp hl with rfl | hl
  · exact (head_line (by omega) (by omega)).1
  · rcases List.mem_append.mp hl with hl | hl
    · obtain ⟨p, hpP, rfl⟩ := List.mem_map.mp hl
      exact (probe_line (hw.pr p hpP).2.2).1
    · obtain ⟨t, htT, rfl⟩ := List.mem_map.mp hl
      exact (table_line fun r hr => ((hw.tr t htT).2 r hr).2).1
theorem SetG.part {m n : Nat} {P : List (List Nat)} {T : List (List (List Nat))} (h : SetG m n P T) (k : Nat) (l : Str) (d : PyData) (h1 : (P.map wProbe ++ T.map wTable)[k]? = some l) (h2 : (P.map dT ++ T.map dTT)[k]? = some d) : partO m n k l = some d := by
  have hm := h.m1
  have hn := h.n1
  have hp := h.pl
  have ht := h.tl
  unfold partO
  by_cases hk : k < m
  · rw [if_pos hk]
    rw [List.getElem?_append_left (by rw [List.length_map]; omega), List.getElem?_map] at h1 h2
    obtain ⟨p, e, rfl⟩ := Option.map_eq_some_iff.mp h1
    rw [e] at h2
    cases h2
    obtain ⟨a, b, c⟩ := h.pr p (List.mem_of_getElem? e)
    rw [probeF_wProbe hn.2 a b c]
    rfl
  · rw [if_neg hk]
    rw [List.getElem?_append_right (by rw [List.length_map]; omega), List.getElem?_map, List.length_map] at h1 h2
    obtain ⟨t, e, rfl⟩ := Option.map_eq_some_iff.mp h1
    rw [e] at h2
    cases h2
    have hlt := (List.getElem?_eq_some_iff.mp e).1
    rw [if_pos (by omega), tableW_rows hm.2 fun r hr => (tab_row_len (h.tr t (List.mem_of_getElem? e)) r hr).2, if_pos (tblB_yes (h.tr t (List.mem_of_getElem? e)))]
    rfl
end Mi
end
section
namespace Mi
open PySem Mi Mi.L 
local macro_rules | `(tactic| wp_walk using $[$ts:term],*) => `(tactic| simp (disch := first | with_reducible assumption | omega | (simp only [List.length_set, List.length_append, List.length_cons, List.length_nil, List.length_map, List.length_range, List.length_replicate, Line]; omega) | (simp only [List.length_set, List.length_append, List.length_cons, List.length_nil, List.length_map, List.length_range, List.length_replicate]; done) | fail) only [au0, au1, au2, au3, au4, au5, au6, List.getElem?_map, dI, dT, List.getElem?_cons_zero, List.getElem?_cons_succ, List.set_cons_zero, List.set_cons_succ, List.map_cons, List.map_nil, List.length_cons, List.length_nil, List.cons_append, List.nil_append, List.append_nil, List.append_assoc, List.reduceReplicate, List.length_set, List.set_set, List.length_append, List.length_map, List.length_range, List.length_replicate, decide_true, decide_false, decide_eq_true_eq, Bool.not_eq_true', decide_eq_false_iff_not, Bool.true_and, Bool.false_and, Bool.not_true, Bool.not_false, Bool.false_eq_true, if_true, if_false, Int.toNat_natCast, Int.reduceToNat, Int.reducePow, Int.reduceMul, Int.reduceAdd, Int.reduceSub, Int.reduceNeg, Int.reduceLT, Int.reduceLE, Nat.sub_self, Nat.add_sub_cancel_left, Nat.reduceAdd, Nat.reduceSub, Nat.reduceLT, Nat.reduceLeDiff, Int.cast_ofNat_Int, true_or, or_true, true_and, and_true, $[$ts:term],*])
end Mi
end
section
namespace Mi
open PySem Mi 
local macro_rules | `(tactic| wp_walk using $[$ts:term],*) => `(tactic| simp (disch := first | with_reducible assumption | omega | (simp only [List.length_set, List.length_append, List.length_cons, List.length_nil, List.length_map, List.length_range, List.length_replicate, Line]; omega) | (simp only [List.length_set, List.length_append, List.length_cons, List.length_nil, List.length_map, List.length_range, List.length_replicate]; done) | fail) only [au0, au1, au2, au3, au4, au5, au6, List.getElem?_map, dI, dT, List.getElem?_cons_zero, List.getElem?_cons_succ, List.set_cons_zero, List.set_cons_succ, List.map_cons, List.map_nil, List.length_cons, List.length_nil, List.cons_append, List.nil_append, List.append_nil, List.append_assoc, List.reduceReplicate, List.length_set, List.set_set, List.length_append, List.length_map, List.length_range, List.length_replicate, decide_true, decide_false, decide_eq_true_eq, Bool.not_eq_true', decide_eq_false_iff_not, Bool.true_and, Bool.false_and, Bool.not_true, Bool.not_false, Bool.false_eq_true, if_true, if_false, Int.toNat_natCast, Int.reduceToNat, Int.reducePow, Int.reduceMul, Int.reduceAdd, Int.reduceSub, Int.reduceNeg, Int.reduceLT, Int.reduceLE, Nat.sub_self, Nat.add_sub_cancel_left, Nat.reduceAdd, Nat.reduceSub, Nat.reduceLT, Nat.reduceLeDiff, Int.cast_ofNat_Int, true_or, or_true, true_and, and_true, $[$ts:term],*])
theorem law_allX {f : Fn} {X : Store} {m : Int} (hm : 1 ≤ m ∧ m ≤ 50) (hf : ∀ S i, (∀ j, j < X.length → S[j]? = X[j]?) → PotAt 0 S i → ∃ c, f [.ref i] S = .ok (.p (.bool true), S.set i c)) (ns : List Int) : fnOf fin 1 2 (lawBody f m) [.scr ns] X = .ok (.p (.bool true), X) := by
  have hmin : ∃ n : Nat, n ≤ 50 ∧ mO2 pMax2 (mC (.int 1)) (mO2 pMin2 (mC (.int m)) (mLen (mV 0))) [some (.scr ns), none] X = .ok (.p (.int n), X) := by
    refine ⟨(max 1 (min m ns.length)).toNat, by omega, ev_P2 ev_C (ev_P2 ev_C (ev_lenS (ev_V rfl)) (z := .int (min m ns.length)) ?_) ?_⟩
    · show R.ok (PyData.int _) = _
      congr 2
      split <;> omega
    · show R.ok (PyData.int _) = _
      congr 2
      split <;> omega
  obtain ⟨n, hn, hmin⟩ := hmin
  refine fn_data (S1 := X) (σ1 := [some (.scr ns), none]) rfl ?_ (by rw [List.take_length])
  unfold lawBody
  rw [show start 2 [D.scr ns] = [some (.scr ns), none] from rfl]
  refine ev_ret (ev_P1 (ev_comp (src_r1 hmin (by omega)) (by simp; omega) ?_) (pAll_true (List.range n)))
  refine comp_mapT (stand_nil _) dI (fun _ => .bool true) _ [] fun k hk => ⟨[some (.scr ns), some (.p (dI k))], rfl, fun acc => ?_⟩
  have hk : k < n := by simpa using hk
  obtain ⟨c, h1, h2⟩ := pot_ok (S := X ++ [.lst acc]) (ns := ns) (k := k) (by omega)
  obtain ⟨c', h3⟩ := hf _ _ (fun j hj => by rw [List.append_assoc, List.getElem?_append_left hj]) h2
  refine ⟨[c'], ev_call (ev_cons (ev_call (ev_cons (ev_V rfl) (ev_cons (ev_V rfl) ev_nil)) h1) ev_nil) ?_⟩
  rw [h3]
  simp
end Mi
end
section
namespace Mi.K49Px
open PySem Mi Mi.L K49
local macro_rules | `(tactic| wp_walk using $[$ts:term],*) => `(tactic| simp (disch := first | with_reducible assumption | omega | (simp only [List.length_set, List.length_append, List.length_cons, List.length_nil, List.length_map, List.length_range, List.length_replicate, Line]; omega) | (simp only [List.length_set, List.length_append, List.length_cons, List.length_nil, List.length_map, List.length_range, List.length_replicate]; done) | fail) only [au0, au1, au2, au3, au4, au5, au6, List.getElem?_map, dI, dT, List.getElem?_cons_zero, List.getElem?_cons_succ, List.set_cons_zero, List.set_cons_succ, List.map_cons, List.map_nil, List.length_cons, List.length_nil, List.cons_append, List.nil_append, List.append_nil, List.append_assoc, List.reduceReplicate, List.length_set, List.set_set, List.length_append, List.length_map, List.length_range, List.length_replicate, decide_true, decide_false, decide_eq_true_eq, Bool.not_eq_true', decide_eq_false_iff_not, Bool.true_and, Bool.false_and, Bool.not_true, Bool.not_false, Bool.false_eq_true, if_true, if_false, Int.toNat_natCast, Int.reduceToNat, Int.reducePow, Int.reduceMul, Int.reduceAdd, Int.reduceSub, Int.reduceNeg, Int.reduceLT, Int.reduceLE, Nat.sub_self, Nat.add_sub_cancel_left, Nat.reduceAdd, Nat.reduceSub, Nat.reduceLT, Nat.reduceLeDiff, Int.cast_ofNat_Int, true_or, or_true, true_and, and_true, $[$ts:term],*])
structure Vl (d : PyData) (dp B : Nat) : Prop where
  sh : d.showable = true
  de : d.depth ≤ dp
  sz : d.shown.length ≤ B
  ns : d.isStr = false
  ok : isSeqD d = true ∨ (d.hasDict = false ∧ d.plain = true)
theorem Vl.repr {d : PyData} {dp B : Nat} (h : Vl d dp B) (h1 : dp ≤ 1000) (h2 : B ≤ 16777216) : pReprD d = .ok (.str d.shown) := by
  have a := h.de
  have b := h.sz
  unfold pReprD
  by_cases hs : isSeqD d = true
  · rw [if_pos hs, h.sh, decide_eq_true (by omega : d.depth ≤ 1000), decide_eq_true (by show _ ≤ 16777216; omega)]
    rfl
  · rw [if_neg hs]
    obtain ⟨c1, c2⟩ := h.ok.resolve_left hs
    unfold pRepr
    rw [h.sh, c1, c2, decide_eq_true (by omega : d.depth ≤ 1000), decide_eq_true (by show _ ≤ 16777216; omega)]
    rfl
theorem sz_t1 (d : PyData) : (PyData.tuple [d]).shown.length ≤ d.shown.length + 10 := by
  rw [PyData.shown_tuple, PyData.shownAll_cons, PyData.shownAll_nil]
  show (("(" : Str) ++ d.shown ++ ((",)" : String) : Str)).length ≤ _
  rw [len_app, len_app]
  have a : ("(" : Str).length = 1 := by decide +kernel
  have b : ((",)" : String) : Str).length = 2 := by decide +kernel
  omega
theorem sz_l1 (d : PyData) : (PyData.list [d]).shown.length ≤ d.shown.length + 10 := by
  rw [PyData.shown_list, PyData.shownAll_cons, PyData.shownAll_nil]
  show (("[" : Str) ++ d.shown ++ "]").length ≤ _
  rw [len_app, len_app]
  have a : ("[" : Str).length = 1 := by decide +kernel
  have b : ("]" : Str).length = 1 := by decide +kernel
  omega
theorem sz_t2 (d : PyData) : (PyData.tuple [d, .str "0"]).shown.length ≤ d.shown.length + 10 := by
  rw [PyData.shown_tuple, PyData.shownAll_cons, PyData.shownAll_cons, PyData.shownAll_nil]
  show (("(" : Str) ++ (d.shown ++ ", " ++ (PyData.str "0").shown) ++ ((")" : String) : Str)).length ≤ _
  rw [len_app, len_app, len_app, len_app]
  have a : ("(" : Str).length = 1 := by decide +kernel
  have b : ((")" : String) : Str).length = 1 := by decide +kernel
  have c : (", " : Str).length = 2 := by decide +kernel
  have e : (PyData.str "0").shown.length = 3 := by decide +kernel
  omega
theorem sz_d1 (d : PyData) : (PyData.dict [(.int 0, d)]).shown.length ≤ d.shown.length + 10 := by
  rw [PyData.shown_dict, PyData.shownKv_cons, PyData.shownKv_nil]
  show (("{" : Str) ++ ((PyData.int 0).shown ++ ": " ++ d.shown) ++ "}").length ≤ _
  rw [len_app, len_app, len_app, len_app]
  have a : ("{" : Str).length = 1 := by decide +kernel
  have b : ("}" : Str).length = 1 := by decide +kernel
  have c : (": " : Str).length = 2 := by decide +kernel
  have e : (PyData.int 0).shown.length = 1 := by decide +kernel
  omega
def wraps (d : PyData) : List PyData := [.tuple [d], .list [d], .tuple [d, .str "0"], .dict [(.int 0, d)]]
theorem Vl.wrap {d y : PyData} {dp B : Nat} (h : Vl d dp B) (hy : y ∈ wraps d) : Vl y (dp + 2) (B + 10) := by
  have hd := h.de
  have hs := h.sh
  have hz := h.sz
  have e0 : (PyData.str "0").depth = 0 := by rw [PyData.depth]
  have e1 : (PyData.int 0).depth = 0 := by rw [PyData.depth]
  unfold wraps at hy
  simp only [List.mem_cons, List.not_mem_nil, or_false] at hy
  rcases hy with rfl | rfl | rfl | rfl
  · exact ⟨by simp [PyData.showable, PyData.showableAll, hs], by simp only [PyData.depth, PyData.depthAll]; omega, Nat.le_trans (sz_t1 d) (by omega), rfl, .inl rfl⟩
  · exact ⟨by simp [PyData.showable, PyData.showableAll, hs], by simp only [PyData.depth, PyData.depthAll]; omega, Nat.le_trans (sz_l1 d) (by omega), rfl, .inl rfl⟩
  · exact ⟨by simp [PyData.showable, PyData.showableAll, hs], by simp only [PyData.depth, PyData.depthAll]; omega, Nat.le_trans (sz_t2 d) (by omega), rfl, .inl rfl⟩
  · exact ⟨by simp [PyData.showable, PyData.showableKv, hs], by simp only [PyData.depth, PyData.depthKv]; omega, Nat.le_trans (sz_d1 d) (by omega), rfl, .inl rfl⟩
def base9 : List PyData := [.none, .bool true, .bool false, .int 0, .int 1, .int (-1), .int (10 ^ 30), .tuple [], .list [], .dict [], .tuple [.str "-"], .list [.str "-"], .dict [(.str "0", .str "-")], .tuple [.tuple [.int 0]], .tuple [.tuple []], .tuple [.int 0, .int (-1)]]
theorem base_vl : ∀ d ∈ base9, Vl d 10 100 := by
  have h : base9.all (fun d => d.showable && decide (d.depth ≤ 10) && decide (d.shown.length ≤ 100) && !d.isStr && (isSeqD d || (!d.hasDict && d.plain))) = true := by decide +kernel
  intro d hd
  have := List.all_eq_true.mp h d hd
  simp only [Bool.and_eq_true, Bool.or_eq_true, Bool.not_eq_true', decide_eq_true_eq] at this
  obtain ⟨⟨⟨⟨a, b⟩, c⟩, e⟩, f⟩ := this
  exact ⟨a, b, c, e, f⟩
section
variable {d : PyData} {S : Store}
theorem isaD_s (h : d.isStr = false) : pIsaD "str" d = .ok (.bool false) := by
  show Mi.R.ok (PyData.bool d.isStr) = _
  rw [h]
theorem lines_no (h : d.isStr = false) (S : Store) : K49.fx_lines_of [.p d] S = .ex (btx 0) S := by
  have i1 := isaD_s h
  unfold K49.fx_lines_of K49.bx_lines_of btx
  wp_walk using auX, i1
theorem set_no (h : d.isStr = false) (S : Store) : K49.fx_read_setting [.p d] S = .ex (btx 0) S := by
  have i1 := lines_no h
  unfold K49.fx_read_setting K49.bx_read_setting
  unfold btx at *
  wp_walk using auX, i1
theorem lay_no (h : d.isStr = false) (S : Store) : K49.fx_read_layout [.p d] S = .ex (btx 0) S := by
  have i1 := isaD_s h
  unfold K49.fx_read_layout K49.bx_read_layout btx
  wp_walk using auX, i1
theorem his_no (h : d.isStr = false) (S : Store) : K49.fx_read_history [.p d] S = .ex (btx 0) S := by
  have i1 := isaD_s h
  unfold K49.fx_read_history K49.bx_read_history btx
  wp_walk using auX, i1
end
theorem sp0 : Txt.split "" " " = [("" : Str)] := by
  rw [sp_eq, split_one _ (by decide)]
  decide +kernel
theorem nl0 : Txt.split "" "\n" = [("" : Str)] := by
  rw [nl_eq, split_one _ (by decide)]
  decide +kernel
theorem isaD_e : pIsaD "str" (.str "") = .ok (.bool true) := rfl
theorem set_e (S : Store) : K49.fx_read_setting [.p (.str "")] S = .ex (btx 0) S := by
  have i1 := isaD_e
  have l0 : ("" : Str).length = 0 := by decide +kernel
  have e1 : ∀ S, K49.fx_lines_of [.p (.str "")] S = .ok (.p (.list [.str ""]), S) := fun S => by
    refine fn_rn rfl ?_
    unfold K49.bx_lines_of
    wp_walk using auX, auS, i1, nl0, l0
  have e2 : ∀ S, f_sizes_in [.p (.str "")] S = .ok (.p .none, S) := fun S => by
    have := sizes_in_ok (l := "") (by omega) S
    rwa [show sizesF "" = none by
      unfold sizesF wordsOf
      rw [sp0]] at this
  unfold K49.fx_read_setting K49.bx_read_setting btx
  wp_walk using auX, e1, e2
theorem lay_e (S : Store) : K49.fx_read_layout [.p (.str "")] S = .ex (btx 0) S := by
  have i1 := isaD_e
  have i2 := pIn_nl ""
  rw [decide_eq_false (by decide +kernel)] at i2
  have l0 : ("" : Str).length = 0 := by decide +kernel
  have n0 : numF 16 "" = none := by decide +kernel
  have e2 : ∀ S, f_number_in [.p (.str ""), .p (.int 16)] S = .ok (.p .none, S) := fun S => by
    have := number_in_ok (m := 16) (by omega) "" S
    rwa [n0] at this
  have q1 : pEq (.str "") (.str "-") = .ok (.bool false) := by rw [pEq_ss, decide_eq_false (by decide +kernel)]
  have q2 : pIn .none (.list [.none]) = .ok (.bool true) := rfl
  have c1 : ∀ (t0 t1 t2 t3 : Option D) (S : Store), compL [2] (gN 2) tYes (mIf (tE (mO2 pEq (mV 2) (mC (.str "-")))) (mC (.int (-1))) (mCall Mi.L.f_number_in (aCons (mV 2) (aCons (mC (.int 16)) aNil)))) [] [t0, t1, t2, t3] [.str ""] [] S = .ok (.p (.list [.none]), S) := fun t0 t1 t2 t3 S => by
    refine comp_val (fun w : PyData => w) (fun _ => .none) (xs := [.str ""]) (stand_nil _) fun w hw acc => ?_
    rw [List.mem_singleton.mp hw]
    wp_walk using wipe, q1, e2
  unfold K49.fx_read_layout K49.bx_read_layout btx
  wp_walk using auX, auS, i1, i2, sp0, l0, c1, q2
theorem his_e (S : Store) : K49.fx_read_history [.p (.str "")] S = .ex (btx 0) S := by
  have i1 := isaD_e
  have i2 := pIn_nl ""
  rw [decide_eq_false (by decide +kernel)] at i2
  have l0 : ("" : Str).length = 0 := by decide +kernel
  have n1 : ∀ S, f_numbers_in [.p (.list [.str ""]), .p (.int 16)] S = .ok (.p .none, S) := fun S => by
    have := numbers_in_ok (m := 16) (by omega) (ws := [("" : Str)]) (by simp) S
    rwa [show numsO 16 [("" : Str)] = none by decide +kernel] at this
  have q1 : pEq (.str "") (.str "-") = .ok (.bool false) := by rw [pEq_ss, decide_eq_false (by decide +kernel)]
  unfold K49.fx_read_history K49.bx_read_history btx
  wp_walk using auX, auS, i1, i2, sp0, l0, n1, q1
def LQ : Str := "_law_asked.<locals>.<lambda>"
def line0 : PyData := .tuple [.str "line", .int 0]
theorem line3_vl : Vl (.list [line0, line0, line0]) 10 100 := by
  have h : (fun d : PyData => d.showable && decide (d.depth ≤ 10) && decide (d.shown.length ≤ 100) && !d.isStr && (isSeqD d || (!d.hasDict && d.plain))) (.list [line0, line0, line0]) = true := by decide +kernel
  simp only [Bool.and_eq_true, Bool.or_eq_true, Bool.not_eq_true', decide_eq_true_eq] at h
  obtain ⟨⟨⟨⟨a, b⟩, c⟩, e⟩, f⟩ := h
  exact ⟨a, b, c, e, f⟩
section
variable {T : Nat → Nat} {d : PyData} {s : Str}
theorem lam9 {F : Fn} (h : ∀ S, F [.p d] S = .ex (btx 0) S) {S : Store} (hS : S[0]? = some (.tab (T 0) LQ)) (t1 t2 : Option D) : mLam 0 (T 0) LQ [0] f_l_caught (mCallX F (aCons (mV 0) aNil)) [some (.p d), t1, t2] S = .ok (.p line0, S) := by
  refine lam_of (env := [some (.p d), none, none]) rfl rfl hS fun f c => ?_
  have hr : ∀ S, mCallX F (aCons (mV 0) aNil) [some (.p d), none, none] S = F [.p d] S := fun S => callX_of rfl
  refine caught_line (k := 0) fun S => ?_
  rw [hr, h]
theorem asked_of (h1 : ∀ S, K49.fx_read_setting [.p d] S = .ex (btx 0) S) (h2 : ∀ S, K49.fx_read_layout [.p d] S = .ex (btx 0) S) (h3 : ∀ S, K49.fx_read_history [.p d] S = .ex (btx 0) S) (hr : pReprD d = .ok (.str s)) {S : Store} (hS : S[0]? = some (.tab (T 0) LQ)) : f__law_asked T [.p d] S = .ok (.p (.bool true), S) := by
  have hlt : 0 < S.length := by
    cases S with
    | nil => cases hS
    | cons a b => simp
  have hX : ∀ X : Store, (S ++ X)[0]? = some (.tab (T 0) LQ) := fun X => by rw [List.getElem?_append_left hlt]; exact hS
  have a1 := fun t1 t2 => lam9 (T := T) h1 hS t1 t2
  have a2 := fun X t1 t2 => lam9 (T := T) h2 (hX X) t1 t2
  have a3 := fun X t1 t2 => lam9 (T := T) h3 (hX X) t1 t2
  unfold LQ at a1 a2 a3
  have r3 := line3_vl.repr (by omega) (by omega)
  have m3 : pMul (.list [.tuple [.str "line", .int 0]]) (.int 3) = .ok (.list [line0, line0, line0]) := by rw [pMul_list (by omega) (by omega) (by simp)]; rfl
  have q1 : pEq (.str (PyData.list [line0, line0, line0]).shown) (.str (PyData.list [line0, line0, line0]).shown) = .ok (.bool true) := by rw [pEq_ss, decide_eq_true rfl]
  have q2 : pEq (.str s) (.str s) = .ok (.bool true) := by rw [pEq_ss, decide_eq_true rfl]
  generalize (PyData.list [line0, line0, line0]).shown = Z at *
  generalize line0 = l0 at *
  refine fn_rn rfl ?_
  unfold b__law_asked
  generalize mLam 0 (T 0) "_law_asked.<locals>.<lambda>" [0] f_l_caught (mCallX K49.fx_read_setting (aCons (mV 0) aNil)) = la1 at *
  generalize mLam 0 (T 0) "_law_asked.<locals>.<lambda>" [0] f_l_caught (mCallX K49.fx_read_layout (aCons (mV 0) aNil)) = la2 at *
  generalize mLam 0 (T 0) "_law_asked.<locals>.<lambda>" [0] f_l_caught (mCallX K49.fx_read_history (aCons (mV 0) aNil)) = la3 at *
  wp_walk using hr, a1, a2, a3, r3, m3, q1, q2
theorem asked_vl {dp B : Nat} (h : Vl d dp B) (hd : dp ≤ 1000) (hB : B ≤ 100000) {S : Store} (hS : S[0]? = some (.tab (T 0) LQ)) : f__law_asked T [.p d] S = .ok (.p (.bool true), S) :=
  asked_of (set_no h.ns) (lay_no h.ns) (his_no h.ns) (h.repr hd (by omega)) hS
theorem rep_e : pReprD (.str "") = .ok (.str (PyData.str "").shown) := by
  have h : ((PyData.str "").showable && !(PyData.str "").hasDict && (PyData.str "").plain && decide ((PyData.str "").depth ≤ 1000) && decide ((PyData.str "").shown.length ≤ Line)) = true := by decide +kernel
  unfold pReprD pRepr
  rw [if_neg (by decide), h]
  rfl
def id9 (d : PyData) : PyData := d
theorem map_id9 (xs : List PyData) : xs.map id9 = xs := List.map_id xs
theorem asked_e {S : Store} (hS : S[0]? = some (.tab (T 0) LQ)) : f__law_asked T [.p (.str "")] S = .ok (.p (.bool true), S) :=
  asked_of set_e lay_e his_e rep_e hS
end
theorem au_D1 (k : PyData) (a : Ex) (σ : Env) (S : Store) : mDict1 k a σ S = bd (a σ (S ++ [.dct false []])) (dp1A S.length k) := rfl
theorem au_d1A (n : Nat) (k : PyData) (x : D) (S : Store) : dp1A n k x S = bd (fz S x) (dp1B n k) := rfl
theorem au_d1B (n : Nat) (k u : PyData) (S : Store) : dp1B n k u S = dp1C n k u S S[n]? := rfl
theorem au_d1C (n : Nat) (k u : PyData) (S : Store) : dp1C n k u S (some (.dct false [])) = .ok (.ref n, S.set n (.dct false [(k, u)])) := rfl
theorem au_fzDct (S : Store) (i : Nat) (kv : PyData × PyData) (kvs : List (PyData × PyData)) : fzC S i (some (.dct false (kv :: kvs))) = .ok (.dict (kv :: kvs), S.set i .dead) := rfl
theorem wrap_list (y : PyData) (t0 t2 t3 : Option D) (S : Store) : mLst (aCons (mTup (aCons (mV 1) aNil)) (aCons (mLst (aCons (mV 1) aNil)) (aCons (mTup (aCons (mV 1) (aCons (mC (.str "0")) aNil))) (aCons (mDict1 (.int 0) (mV 1)) aNil)))) [t0, some (.p y), t2, t3] S = .ok (.p (.list (wraps y)), S ++ [.dead]) := by
  wp_walk using au_D1, au_d1A, au_d1B, au_d1C, au_fzDct
  rfl
theorem wrapped_ok {b i n : Nat} {S : Store} {d : PyData} (h : PotAt b S i) (hb : b < 2 ^ 40) (hn : n ≤ 28) (hd : Vl d 10 100) (L : Store) : ∃ (y : PyData) (c : Cell), Vl y 100 500 ∧ PotAt (b + 30) (S.set i c) i ∧ f__law_wrapped [.ref i, .p d, .p (.int n)] (S ++ L) = .ok (.p y, S.set i c ++ L) := by
  have hi := h.lt
  suffices hh : Rn (f__law_wrapped [.ref i, .p d, .p (.int n)] (S ++ L)) fun z => ∃ (y : PyData) (c : Cell), Vl y 100 500 ∧ PotAt (b + 30) (S.set i c) i ∧ z = (.p y, S.set i c ++ L) by
    obtain ⟨z, e, y, c, g1, g2, rfl⟩ := hh.ex
    exact ⟨y, c, g1, g2, e⟩
  have hw := wrap_list
  refine fn_rnQ rfl ?_
  unfold b__law_wrapped
  generalize mLst (aCons (mTup (aCons (mV 1) aNil)) (aCons (mLst (aCons (mV 1) aNil)) (aCons (mTup (aCons (mV 1) (aCons (mC (.str "0")) aNil))) (aCons (mDict1 (.int 0) (mV 1)) aNil)))) = eW at *
  wp_walk using hi
  refine Rn.bs ((for_range (fun k σ S' => ∃ (t3 : Option D) (y : PyData) (c : Cell) (X : Store), Vl y (10 + 2 * k) (100 + 10 * k) ∧ PotAt (b + k) (S.set i c) i ∧ S' = S.set i c ++ (L ++ X) ∧ σ = [some (.ref i), some (.p y), some (.p (.int n)), t3])
    (Q := fun q => q.1 = .nx ∧ ∃ (t3 : Option D) (y : PyData) (c : Cell) (X : Store), Vl y (10 + 2 * n) (100 + 10 * n) ∧ PotAt (b + n) (S.set i c) i ∧ q.2.2 = S.set i c ++ (L ++ X) ∧ q.2.1 = [some (.ref i), some (.p y), some (.p (.int n)), t3]) ?_ (fun _ _ _ _ => stand_nil _) ?_ ?_).mono ?_)
  · exact ⟨none, d, S[i], [], hd, by rw [List.set_getElem_self]; exact h, by rw [List.set_getElem_self, List.append_nil], rfl⟩
  · rintro k σ S' hk ⟨t3, y, c, X, hy, hp, rfl, rfl⟩
    obtain ⟨x, c2, hx, p2, e2⟩ := pick_all (xs := wraps y) hp (by omega) (by simp [wraps]) (by simp [wraps])
    simp only [List.set_set] at e2 p2
    have e2' := e2 (L ++ (X ++ [.dead]))
    wp_walk using hi, hw, e2'
    exact ⟨_, x, c2, X ++ [.dead], (hy.wrap hx), p2, rfl, rfl⟩
  · rintro σ S' ⟨t3, y, c, X, hy, hp, rfl, rfl⟩
    exact ⟨rfl, t3, y, c, X, hy, hp, rfl, rfl⟩
  · rintro ⟨fl, σ, S'⟩ ⟨g1, t3, y, c, X, hy, hp, g2, g3⟩
    have g1 : fl = .nx := g1
    have g2 : S' = _ := g2
    have g3 : σ = _ := g3
    subst g1 g2 g3
    wp_walk using hi
    exact ⟨y, c, ⟨hy.sh, Nat.le_trans hy.de (by omega), Nat.le_trans hy.sz (by omega), hy.ns, hy.ok⟩, hp.mono (by omega), rfl⟩
theorem right_ok {T : Nat → Nat} {S : Store} {i : Nat} (hT0 : S[0]? = some (.tab (T 0) LQ)) (h : PotAt 0 S i) : ∃ c, f__law_right T [.ref i] S = .ok (.p (.bool true), S.set i c) := by
  have hi := h.lt
  have hi1 : 1 ≤ i := by
    obtain ⟨g, m, c, hS, _⟩ := h
    match i, hS with
    | 0, hS => rw [hT0] at hS; cases hS
    | i + 1, _ => omega
  have tab0 : ∀ c (L : Store), (S.set i c ++ L)[0]? = some (.tab (T 0) LQ) := fun c L => by rw [List.getElem?_append_left (by rw [List.length_set]; omega), List.getElem?_set_ne (by omega)]; exact hT0
  suffices hh : Rn (f__law_right T [.ref i] S) fun z => ∃ c, z = (.p (.bool true), S.set i c) by
    obtain ⟨z, e, c, rfl⟩ := hh.ex
    exact ⟨c, e⟩
  have hp : pPow (.int 10) (.int 30) = .ok (.int (10 ^ 30)) := au_pow 10 30 (by omega) (by omega) (by decide) (by decide)
  have hng : pNeg (.int 1) = .ok (.int (-1)) := rfl
  have hod : [PyData.none, .bool true, .bool false, .int 0, .int 1, .int (-1), .int (10 ^ 30), .tuple [], .list [], .dict [], .tuple [.str "-"], .list [.str "-"], .dict [(.str "0", .str "-")], .tuple [.tuple [.int 0]], .tuple [.tuple []], .tuple [.int 0, .int (-1)]] = base9 := rfl
  have hbl : base9.length = 16 := rfl
  have hbv := base_vl
  have hlist : ∀ (t0 t1 t2 : Option D) (S : Store), mLst (aCons (mC .none) (aCons (mC (.bool true)) (aCons (mC (.bool false)) (aCons (mC (.int 0)) (aCons (mC (.int 1)) (aCons (mO1 pNeg (mC (.int 1))) (aCons (mO2 pPow (mC (.int 10)) (mC (.int 30))) (aCons (mTup aNil) (aCons (mLst aNil) (aCons (mC (.dict [])) (aCons (mTup (aCons (mC (.str "-")) aNil)) (aCons (mLst (aCons (mC (.str "-")) aNil)) (aCons (mDict1 (.str "0") (mC (.str "-"))) (aCons (mTup (aCons (mTup (aCons (mC (.int 0)) aNil)) aNil)) (aCons (mTup (aCons (mTup aNil) aNil)) (aCons (mTup (aCons (mC (.int 0)) (aCons (mO1 pNeg (mC (.int 1))) aNil))) aNil)))))))))))))))) [t0, t1, t2] S = .ok (.p (.list (base9.map id9)), S ++ [.dead]) := fun t0 t1 t2 S => by
    rw [map_id9, ← hod]
    generalize (10 : Int) ^ 30 = w at *
    wp_walk using au_D1, au_d1A, au_d1B, au_d1C, au_fzDct, hp, hng
  refine fn_rnQ rfl ?_
  unfold b__law_right
  generalize mLst (aCons (mC .none) (aCons (mC (.bool true)) (aCons (mC (.bool false)) (aCons (mC (.int 0)) (aCons (mC (.int 1)) (aCons (mO1 pNeg (mC (.int 1))) (aCons (mO2 pPow (mC (.int 10)) (mC (.int 30))) (aCons (mTup aNil) (aCons (mLst aNil) (aCons (mC (.dict [])) (aCons (mTup (aCons (mC (.str "-")) aNil)) (aCons (mLst (aCons (mC (.str "-")) aNil)) (aCons (mDict1 (.str "0") (mC (.str "-"))) (aCons (mTup (aCons (mTup (aCons (mC (.int 0)) aNil)) aNil)) (aCons (mTup (aCons (mTup aNil) aNil)) (aCons (mTup (aCons (mC (.int 0)) (aCons (mO1 pNeg (mC (.int 1))) aNil))) aNil)))))))))))))))) = eB at *
  clear hod hp
  generalize base9 = bs9 at *
  wp_walk using hi, hlist
  refine Rn.bs ((for_map id9 (fun k σ S' => ∃ (t2 : Option D) (c : Cell), PotAt (40 * k) (S.set i c) i ∧ S' = S.set i c ++ [.dead] ∧ σ = [some (.ref i), some (.p (.list (bs9.map id9))), t2])
    (xs := bs9) (Q := fun q => q.1 = .nx ∧ ∃ (t2 : Option D) (c : Cell), q.2.2 = S.set i c ++ [.dead] ∧ q.2.1 = [some (.ref i), some (.p (.list (bs9.map id9))), t2]) ?_ (fun _ _ _ _ => stand_nil _) ?_ ?_).mono ?_)
  · exact ⟨none, S[i], by rw [List.set_getElem_self]; exact h, by rw [List.set_getElem_self], rfl⟩
  · rintro k d σ S' hk ⟨t2, c, hp, rfl, rfl⟩
    have hkl := (List.getElem?_eq_some_iff.mp hk).1
    have hv := hbv d (List.mem_of_getElem? hk)
    unfold id9
    generalize (bs9.map fun d => d) = B9 at *
    have a1 := fun X => asked_vl (T := T) hv (by omega) (by omega) (tab0 c X)
    obtain ⟨v, c1, hv1, p1, e1⟩ := take_all (n := (28 : Int)) hp (by omega) (by omega) (by omega)
    rw [List.set_set] at p1
    obtain ⟨y, c2, hy, p2, e2⟩ := wrapped_ok p1 (by omega) (n := v) (by omega) hv [.dead]
    rw [List.set_set] at e2 p2
    have a2 := fun X => asked_vl (T := T) hy (by omega) (by omega) (tab0 c2 X)
    have e1' := e1 [.dead]
    simp only [List.set_set] at e1'
    wp_walk using hi, a1, e1', e2, a2
    exact ⟨_, c2, p2.mono (by omega), rfl, rfl⟩
  · rintro σ S' ⟨t2, c, hp, rfl, rfl⟩
    exact ⟨rfl, t2, c, rfl, rfl⟩
  · rintro ⟨fl, σ, S'⟩ ⟨g1, t2, c, g2, g3⟩
    have g1 : fl = .nx := g1
    have g2 : S' = _ := g2
    have g3 : σ = _ := g3
    subst g1 g2 g3
    have ae := fun X => asked_e (T := T) (tab0 c X)
    wp_walk using hi, ae
    exact ⟨c, rfl⟩
theorem law_ok (T : Nat → Nat) (ns : List Int) (_ : ns.length ≤ 63) : f_law T [.scr ns] [.tab (T 0) LQ] = .ok (.p (.bool true), [.tab (T 0) LQ]) :=
  law_allX (f := f__law_right T) (X := [.tab (T 0) LQ]) (m := 2) (by decide) (fun S i hX h => right_ok (T := T) (hX 0 (by simp)) h) ns
end Mi.K49Px
theorem PySem.Challenge.cw_samelayout_k49_values_that_are_no_texts_holds : PySem.Challenge.rw_samelayout_k49_values_that_are_no_texts.Holds := by
  exact K49.holds_of Mi.K49Px.law_ok
end
